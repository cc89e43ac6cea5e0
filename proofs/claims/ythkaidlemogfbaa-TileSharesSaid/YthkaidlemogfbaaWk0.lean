/- Own texts put together: W16T, W16f5, W16f9 .. -/
import Derived.Test.YthkaidlemogfbaaVm1
import Derived.Test.YthkaidlemogfbaaPl0
import Derived.Test.YthkaidlemogfbaaProg
set_option linter.unusedVariables false
set_option linter.unusedSimpArgs false
namespace Go.Vm
open Go Go.Proofs Go.Pf
def tt : Tab := [default,
  default,
  default,
  ⟨.int .i64, 1, 8, [.i .i64 0], some (.int .i64)⟩,
  ⟨.bool, 1, 1, [.b false], some .bool⟩,
  default,
  default,
  default,
  default,
  default,
  default,
  default,
  default,
  default,
  default,
  default,
  default,
  default,
  default,
  default,
  default,
  default,
  default,
  default,
  default,
  default,
  default,
  default,
  ⟨.sl 3, 1, 24, [.nilsl], some (.sl (.int .i64))⟩,
  ⟨.ptr 31, 1, 8, [.kon (.pointer none)], none⟩,
  default,
  ⟨.struct [(0, 28), (1, 3)], 2, 32, [.nilsl, .i .i64 0], some (.pair (.sl (.int .i64)) (.int .i64))⟩,
  ⟨.sl 28, 1, 24, [.nilsl], some (.sl (.sl (.int .i64)))⟩,
  default,
  default,
  default,
  default,
  default,
  default,
  default,
  default,
  default,
  ⟨.sl 4, 1, 24, [.nilsl], some (.sl .bool)⟩,
  ⟨.sl 46, 1, 24, [.nilsl], some (.sl (.pair (.int .i64) (.int .i64)))⟩,
  default,
  default,
  ⟨.arr 2 3, 2, 16, [.i .i64 0, .i .i64 0], some (.pair (.int .i64) (.int .i64))⟩]
theorem tab_ok : TabOK Try.prog tt := tabOK_of (by kernel_rfl)
theorem mixed : Try.prog.follows .mixedOrders = true := by kernel_rfl
end Go.Vm

/- book_Within -/
namespace Go.Vm
open Go Go.Proofs Go.Pf
def lv5 : Live := look ⟨[], [], [], [], []⟩ []
noncomputable def g5 : FEnv := (fun _ => none)
theorem en5 : EnvOK Try.prog (g5) := (envOK_nil _)
set_option maxHeartbeats 4000000 in
theorem r5 (S : Seals) (k : Nat) (a0 : Int) (a1 : Int) (a2 : Int) : runF tt (g5) lv5 Try.f5 k [.i .i64 a0, .i .i64 a1, .i .i64 a2] [] = bindO (book_Within.f a0 a1 a2) (fun x : Int => some (.i .i64 x, [])) := by
  unfold book_Within.f; refine S.run_s rfl rfl ?_; conv => lhs; arg 5; whnf
  conv => lhs; arg 6; whnf
  repeat' first
    | refine S.seq_op rfl ?_; conv => lhs; whnf
    | refine S.op_n ?_; conv => lhs; whnf
    | refine S.seq_nil ?_
    | refine S.reg_n ?_
    | refine S.region rfl ?_
    | refine S.two ?_
    | refine S.blok ?_
    | refine S.cond rfl ?_
    | refine S.after_n ?_
    | refine S.block_n ?_
    | refine S.block_x ?_; conv => lhs; whnf
    | refine S.block_r ?_
    | refine S.after_x ?_
    | refine S.after_r ?_
    | refine S.skip ?_
    | refine S.exit ?_
    | refine S.ret ?_
    | refine br_lt ?_; conv => lhs; whnf
    | refine br_lf ?_; conv => lhs; whnf
    | refine br_t (by assumption) ?_; conv => lhs; whnf
    | refine br_f (by assumption) ?_; conv => lhs; whnf
    | refine req_i (by assumption) ?_; conv => lhs; whnf
    | (refine br_nd (fun _ => ?_) (fun _ => ?_) <;> conv => lhs; whnf)
    | (refine br_d (fun _ => ?_) (fun _ => ?_) <;> conv => lhs; whnf)
    | (refine br_n (fun _ => ?_) (fun _ => ?_) <;> conv => lhs; whnf)
    | (refine br_c (fun _ => ?_) (fun _ => ?_) <;> conv => lhs; whnf)
    | refine req_c fun _ => ?_; conv => lhs; whnf
    | refine bnd_c fun _ => ?_; conv => lhs; whnf
    | refine sum_c (fun _ => ?_) (fun _ => ?_)
    | refine S.loop ?_; conv => lhs; whnf
    | refine S.back_n ?_; conv => lhs; whnf
    | refine S.back_x ?_; conv => lhs; whnf
    | refine S.back_r ?_; conv => lhs; whnf
    | refine S.fin_r ?_; conv => lhs; whnf
    | refine S.fin_n ?_; conv => lhs; whnf
    | exact ret_c rfl
    | exact none_c
    | refine S.draw_op ?_; conv => lhs; whnf; arg 1; whnf
    | refine S.dk_n ?_; conv => lhs; whnf
    | refine S.draw_nil ?_; conv => lhs; whnf
    | refine andK_br ?_
    | refine andK_req ?_
    | refine andK_b ?_
def sp5 : FSpec := ⟨[.rd, .rd, .rd], fun args objs K => match args, objs with | [.i .i64 a0, .i .i64 a1, .i .i64 a2], [] => bindO (book_Within.f a0 a1 a2) fun x : Int => K (.i .i64 x) [] | _, _ => none⟩
theorem snd5 : Sound Try.prog 5 (sp5) := by
  refine ⟨⟨Try.f5, rfl, by kernel_rfl, rfl⟩, fun args objs K r h => ?_⟩
  unfold sp5 at h; dsimp only at h; split at h
  · rename_i a0 a1 a2
    obtain ⟨x, hx, h⟩ := bindO_some h
    exact ⟨_, _, h, FnOK.args2 (relL_c rel_i (relL_c rel_i (relL_c rel_i relL_n))) (fn_run tab_ok (en5) mixed rfl ((r5 seals 0 a0 a1 a2).trans (bindO_eq hx)))⟩
  · cases h
end Go.Vm

/- keep_Tape_Next -/
namespace Go.Vm
open Go Go.Proofs Go.Pf
def lv9 : Live := look ⟨[], [], [], [], []⟩ []
noncomputable def g9 : FEnv := (addF 5 sp5 (fun _ => none))
theorem en9 : EnvOK Try.prog (g9) := (envOK_add snd5 (envOK_nil _))
set_option maxHeartbeats 4000000 in
theorem r9 (S : Seals) (k : Nat) (a1 : Int) (o0_0 : List Int) (o0_1 : Int) : runF tt (g9) lv9 Try.f9 k [.ptr 0 0, .i .i64 a1] [.var [.dat (.int .i64) o0_0 false, .i .i64 o0_1]] = bindO (keep_Tape_Next.f a1 o0_0 o0_1) (fun x : Int × Int => some (.i .i64 x.1, [.var [.dat (.int .i64) o0_0 false, .i .i64 x.2]])) := by
  unfold keep_Tape_Next.f; refine S.run_s rfl rfl ?_; conv => lhs; arg 5; whnf
  conv => lhs; arg 6; whnf
  repeat' first
    | refine S.seq_op rfl ?_; conv => lhs; whnf
    | refine S.op_n ?_; conv => lhs; whnf
    | refine S.seq_nil ?_
    | refine S.reg_n ?_
    | refine S.region rfl ?_
    | refine S.two ?_
    | refine S.blok ?_
    | refine S.cond rfl ?_
    | refine S.after_n ?_
    | refine S.block_n ?_
    | refine S.block_x ?_; conv => lhs; whnf
    | refine S.block_r ?_
    | refine S.after_x ?_
    | refine S.after_r ?_
    | refine S.skip ?_
    | refine S.exit ?_
    | refine S.ret ?_
    | refine br_lt ?_; conv => lhs; whnf
    | refine br_lf ?_; conv => lhs; whnf
    | refine br_t (by assumption) ?_; conv => lhs; whnf
    | refine br_f (by assumption) ?_; conv => lhs; whnf
    | refine req_i (by assumption) ?_; conv => lhs; whnf
    | (refine br_nd (fun _ => ?_) (fun _ => ?_) <;> conv => lhs; whnf)
    | (refine br_d (fun _ => ?_) (fun _ => ?_) <;> conv => lhs; whnf)
    | (refine br_n (fun _ => ?_) (fun _ => ?_) <;> conv => lhs; whnf)
    | (refine br_c (fun _ => ?_) (fun _ => ?_) <;> conv => lhs; whnf)
    | refine req_c fun _ => ?_; conv => lhs; whnf
    | refine bnd_c fun _ => ?_; conv => lhs; whnf
    | refine sum_c (fun _ => ?_) (fun _ => ?_)
    | refine S.region_d (id := 1) (ds := [0, 1, 3, 7, 0, 16, 48, 112, 240, 511, 1023, 2047, 4095, 8191]) (mds := [[], [], [], [], [], [], [], [], [], [], [], [], [], []]) (hm := []) (by kernel_rfl) (by kernel_rfl) rfl rfl ?_
    | refine S.region_d (id := 4) (ds := [0, 1, 3, 7, 0, 16, 48, 112, 240, 511, 1023, 2047, 0, 8191, 16383]) (mds := [[], [], [], [], [], [], [], [], [], [], [], [], [], [], []]) (hm := []) (by kernel_rfl) (by kernel_rfl) rfl rfl ?_
    | refine S.loop ?_; conv => lhs; whnf
    | refine S.back_n ?_; conv => lhs; whnf
    | refine S.back_x ?_; conv => lhs; whnf
    | refine S.back_r ?_; conv => lhs; whnf
    | refine S.fin_r ?_; conv => lhs; whnf
    | refine S.fin_n ?_; conv => lhs; whnf
    | exact ret_c rfl
    | exact none_c
    | refine S.draw_op ?_; conv => lhs; whnf; arg 1; whnf
    | refine S.dk_n ?_; conv => lhs; whnf
    | refine S.draw_nil ?_; conv => lhs; whnf
    | refine andK_br ?_
    | refine andK_req ?_
    | refine andK_b ?_
def sp9 : FSpec := ⟨[.rd, .rd], fun args objs K => match args, objs with | [.ptr 0 0, .i .i64 a1], [.var [v0, .i .i64 o0_1]] => datK (.int .i64) false v0 fun o0_0 => bindO (keep_Tape_Next.f a1 o0_0 o0_1) fun x : Int × Int => K (.i .i64 x.1) [.var [.dat (.int .i64) o0_0 false, .i .i64 x.2]] | _, _ => none⟩
theorem snd9 : Sound Try.prog 9 (sp9) := by
  refine ⟨⟨Try.f9, rfl, by kernel_rfl, rfl⟩, fun args objs K r h => ?_⟩
  unfold sp9 at h; dsimp only at h; split at h
  · rename_i a1 v0 o0_1
    obtain ⟨o0_0, h, eo0_0⟩ := datK_spec h; subst eo0_0
    obtain ⟨x, hx, h⟩ := bindO_some h
    exact ⟨_, _, h, FnOK.args2 (relL_c rel_i (relL_c rel_i relL_n)) (fn_run tab_ok (en9) mixed rfl ((r9 seals 0 a1 o0_0 o0_1).trans (bindO_eq hx)))⟩
  · cases h
end Go.Vm

/- keep_Tape_Shape -/
namespace Go.Vm
open Go Go.Proofs Go.Pf
def lv10 : Live := look ⟨[], [], [], [], []⟩ [(3, ⟨[0, 3, 4], [3], [2], [(3, 0, .own (.int .i64))], []⟩)]
noncomputable def g10 : FEnv := (addF 9 sp9 (fun _ => none))
theorem en10 : EnvOK Try.prog (g10) := (envOK_add snd9 (envOK_nil _))
set_option maxHeartbeats 4000000 in
theorem w10_0 (S : Seals) (k : Nat) : ∀ (n : Nat) {x4 : Int} {y0_0 : List Int} {y0_1 : Int} {y1 : List Int} {K : CK}, S.lp tt (g10) lv10 1 n (loopN Try.f10 0) ⟨[(0, .ptr 0 0), (3, .own 1), (4, .i .i64 x4)], [(0, .var [.dat (.int .i64) y0_0 false, .i .i64 y0_1]), (1, .row (.int .i64) y1 false)], 2, 20⟩ K = bindO (keep_Tape_Shape.l0 n x4 y0_0 y0_1 y1) (fun x : Int × (List Int) => K (.exit 0) ⟨[(3, .own 1)], [(0, .var [.dat (.int .i64) y0_0 false, .i .i64 x.1]), (1, .row (.int .i64) x.2 false)], 2, 20⟩) := by
  intro n; induction n with
  | zero => intros; rw [S.lp_zero]; exact none_c
  | succ n ih =>
    intros; rw [keep_Tape_Shape.l0]; refine S.lp_succ ?_; conv => lhs; arg 5; whnf
    repeat' first
      | refine S.seq_op rfl ?_; conv => lhs; whnf
      | refine S.op_n ?_; conv => lhs; whnf
      | refine S.seq_nil ?_
      | refine S.reg_n ?_
      | refine S.region rfl ?_
      | refine S.two ?_
      | refine S.blok ?_
      | refine S.cond rfl ?_
      | refine S.after_n ?_
      | refine S.block_n ?_
      | refine S.block_x ?_; conv => lhs; whnf
      | refine S.block_r ?_
      | refine S.after_x ?_
      | refine S.after_r ?_
      | refine S.skip ?_
      | refine S.exit ?_
      | refine S.ret ?_
      | refine br_lt ?_; conv => lhs; whnf
      | refine br_lf ?_; conv => lhs; whnf
      | refine br_t (by assumption) ?_; conv => lhs; whnf
      | refine br_f (by assumption) ?_; conv => lhs; whnf
      | refine req_i (by assumption) ?_; conv => lhs; whnf
      | (refine br_nd (fun _ => ?_) (fun _ => ?_) <;> conv => lhs; whnf)
      | (refine br_d (fun _ => ?_) (fun _ => ?_) <;> conv => lhs; whnf)
      | (refine br_n (fun _ => ?_) (fun _ => ?_) <;> conv => lhs; whnf)
      | (refine br_c (fun _ => ?_) (fun _ => ?_) <;> conv => lhs; whnf)
      | refine req_c fun _ => ?_; conv => lhs; whnf
      | refine bnd_c fun _ => ?_; conv => lhs; whnf
      | refine sum_c (fun _ => ?_) (fun _ => ?_)
      | exact ih
      | refine S.loop ?_; conv => lhs; whnf
      | refine S.back_n ?_; conv => lhs; whnf
      | refine S.back_x ?_; conv => lhs; whnf
      | refine S.back_r ?_; conv => lhs; whnf
      | refine S.fin_r ?_; conv => lhs; whnf
      | refine S.fin_n ?_; conv => lhs; whnf
      | exact ret_c rfl
      | exact none_c
      | refine S.draw_op ?_; conv => lhs; whnf; arg 1; whnf
      | refine S.dk_n ?_; conv => lhs; whnf
      | refine S.draw_nil ?_; conv => lhs; whnf
      | refine andK_br ?_
      | refine andK_req ?_
      | refine andK_b ?_
set_option maxHeartbeats 4000000 in
theorem r10 (S : Seals) (k : Nat) (o0_0 : List Int) (o0_1 : Int) : runF tt (g10) lv10 Try.f10 k [.ptr 0 0] [.var [.dat (.int .i64) o0_0 false, .i .i64 o0_1]] = bindO (keep_Tape_Shape.f k o0_0 o0_1) (fun x : Int × (List Int) => some (.own 1, [.var [.dat (.int .i64) o0_0 false, .i .i64 x.1], .row (.int .i64) x.2 false])) := by
  unfold keep_Tape_Shape.f; refine S.run_s rfl rfl ?_; conv => lhs; arg 5; whnf
  conv => lhs; arg 6; whnf
  repeat' first
    | refine S.seq_op rfl ?_; conv => lhs; whnf
    | refine S.op_n ?_; conv => lhs; whnf
    | refine S.seq_nil ?_
    | refine S.reg_n ?_
    | refine S.region rfl ?_
    | refine S.two ?_
    | refine S.blok ?_
    | refine S.cond rfl ?_
    | refine S.after_n ?_
    | refine S.block_n ?_
    | refine S.block_x ?_; conv => lhs; whnf
    | refine S.block_r ?_
    | refine S.after_x ?_
    | refine S.after_r ?_
    | refine S.skip ?_
    | refine S.exit ?_
    | refine S.ret ?_
    | refine br_lt ?_; conv => lhs; whnf
    | refine br_lf ?_; conv => lhs; whnf
    | refine br_t (by assumption) ?_; conv => lhs; whnf
    | refine br_f (by assumption) ?_; conv => lhs; whnf
    | refine req_i (by assumption) ?_; conv => lhs; whnf
    | (refine br_nd (fun _ => ?_) (fun _ => ?_) <;> conv => lhs; whnf)
    | (refine br_d (fun _ => ?_) (fun _ => ?_) <;> conv => lhs; whnf)
    | (refine br_n (fun _ => ?_) (fun _ => ?_) <;> conv => lhs; whnf)
    | (refine br_c (fun _ => ?_) (fun _ => ?_) <;> conv => lhs; whnf)
    | refine req_c fun _ => ?_; conv => lhs; whnf
    | refine bnd_c fun _ => ?_; conv => lhs; whnf
    | refine sum_c (fun _ => ?_) (fun _ => ?_)
    | refine (w10_0 S k _).trans ?_
    | refine S.loop ?_; conv => lhs; whnf
    | refine S.back_n ?_; conv => lhs; whnf
    | refine S.back_x ?_; conv => lhs; whnf
    | refine S.back_r ?_; conv => lhs; whnf
    | refine S.fin_r ?_; conv => lhs; whnf
    | refine S.fin_n ?_; conv => lhs; whnf
    | exact ret_c rfl
    | exact none_c
    | refine S.draw_op ?_; conv => lhs; whnf; arg 1; whnf
    | refine S.dk_n ?_; conv => lhs; whnf
    | refine S.draw_nil ?_; conv => lhs; whnf
    | refine andK_br ?_
    | refine andK_req ?_
    | refine andK_b ?_
def sp10 (k : Nat) : FSpec := ⟨[.rd], fun args objs K => match args, objs with | [.ptr 0 0], [.var [v0, .i .i64 o0_1]] => datK (.int .i64) false v0 fun o0_0 => bindO (keep_Tape_Shape.f k o0_0 o0_1) fun x : Int × (List Int) => K (.own 1) [.var [.dat (.int .i64) o0_0 false, .i .i64 x.1], .row (.int .i64) x.2 false] | _, _ => none⟩
theorem snd10 (k : Nat) : Sound Try.prog 10 (sp10 k) := by
  refine ⟨⟨Try.f10, rfl, by kernel_rfl, rfl⟩, fun args objs K r h => ?_⟩
  unfold sp10 at h; dsimp only at h; split at h
  · rename_i v0 o0_1
    obtain ⟨o0_0, h, eo0_0⟩ := datK_spec h; subst eo0_0
    obtain ⟨x, hx, h⟩ := bindO_some h
    exact ⟨_, _, h, FnOK.args2 (relL_c rel_i relL_n) (fn_run tab_ok (en10) mixed rfl ((r10 seals k o0_0 o0_1).trans (bindO_eq hx)))⟩
  · cases h
end Go.Vm

/- keep_Tape_Spec -/
namespace Go.Vm
open Go Go.Proofs Go.Pf
def lv11 : Live := look ⟨[], [], [], [], []⟩ [(4, ⟨[0, 1, 7, 8, 17, 18], [7], [6], [], []⟩)]
noncomputable def g11 : FEnv := (addF 9 sp9 (fun _ => none))
theorem en11 : EnvOK Try.prog (g11) := (envOK_add snd9 (envOK_nil _))
set_option maxHeartbeats 4000000 in
theorem w11_0 (S : Seals) (k : Nat) : ∀ (n : Nat) {x1 : List Int} {x17 : Int} {x18 : Int} {y0_0 : List Int} {y0_1 : Int} {y1 : List Int} {y2 : List Bool} {K : CK}, S.lp tt (g11) lv11 1 n (loopN Try.f11 0) ⟨[(0, .ptr 0 0), (1, .dat (.int .i64) x1 true), (7, .own 1), (8, .own 2), (17, .i .i64 x17), (18, .i .i64 x18)], [(0, .var [.dat (.int .i64) y0_0 false, .i .i64 y0_1]), (1, .row (.int .i64) y1 false), (2, .row .bool y2 false)], 3, 50⟩ K = bindO (keep_Tape_Spec.l0 n x1 x17 x18 y0_0 y0_1 y1 y2) (fun x : Int × (List Int) => K (.exit 0) ⟨[(7, .own 1)], [(0, .var [.dat (.int .i64) y0_0 false, .i .i64 x.1]), (1, .row (.int .i64) x.2 false)], 2, 50⟩) := by
  intro n; induction n with
  | zero => intros; rw [S.lp_zero]; exact none_c
  | succ n ih =>
    intros; rw [keep_Tape_Spec.l0]; refine S.lp_succ ?_; conv => lhs; arg 5; whnf
    repeat' first
      | refine S.seq_op rfl ?_; conv => lhs; whnf
      | refine S.op_n ?_; conv => lhs; whnf
      | refine S.seq_nil ?_
      | refine S.reg_n ?_
      | refine S.region rfl ?_
      | refine S.two ?_
      | refine S.blok ?_
      | refine S.cond rfl ?_
      | refine S.after_n ?_
      | refine S.block_n ?_
      | refine S.block_x ?_; conv => lhs; whnf
      | refine S.block_r ?_
      | refine S.after_x ?_
      | refine S.after_r ?_
      | refine S.skip ?_
      | refine S.exit ?_
      | refine S.ret ?_
      | refine br_lt ?_; conv => lhs; whnf
      | refine br_lf ?_; conv => lhs; whnf
      | refine br_t (by assumption) ?_; conv => lhs; whnf
      | refine br_f (by assumption) ?_; conv => lhs; whnf
      | refine req_i (by assumption) ?_; conv => lhs; whnf
      | (refine br_nd (fun _ => ?_) (fun _ => ?_) <;> conv => lhs; whnf)
      | (refine br_d (fun _ => ?_) (fun _ => ?_) <;> conv => lhs; whnf)
      | (refine br_n (fun _ => ?_) (fun _ => ?_) <;> conv => lhs; whnf)
      | (refine br_c (fun _ => ?_) (fun _ => ?_) <;> conv => lhs; whnf)
      | refine req_c fun _ => ?_; conv => lhs; whnf
      | refine bnd_c fun _ => ?_; conv => lhs; whnf
      | refine sum_c (fun _ => ?_) (fun _ => ?_)
      | exact ih
      | refine S.loop ?_; conv => lhs; whnf
      | refine S.back_n ?_; conv => lhs; whnf
      | refine S.back_x ?_; conv => lhs; whnf
      | refine S.back_r ?_; conv => lhs; whnf
      | refine S.fin_r ?_; conv => lhs; whnf
      | refine S.fin_n ?_; conv => lhs; whnf
      | exact ret_c rfl
      | exact none_c
      | refine S.draw_op ?_; conv => lhs; whnf; arg 1; whnf
      | refine S.dk_n ?_; conv => lhs; whnf
      | refine S.draw_nil ?_; conv => lhs; whnf
      | refine andK_br ?_
      | refine andK_req ?_
      | refine andK_b ?_
set_option maxHeartbeats 4000000 in
theorem r11 (S : Seals) (k : Nat) (a1 : List Int) (a2 : Int) (o0_0 : List Int) (o0_1 : Int) : runF tt (g11) lv11 Try.f11 k [.ptr 0 0, .dat (.int .i64) a1 true, .i .i64 a2] [.var [.dat (.int .i64) o0_0 false, .i .i64 o0_1]] = bindO (keep_Tape_Spec.f k a1 a2 o0_0 o0_1) (fun x : Int × (List Int) => some (.own 1, [.var [.dat (.int .i64) o0_0 false, .i .i64 x.1], .row (.int .i64) x.2 false])) := by
  unfold keep_Tape_Spec.f; refine S.run_s rfl rfl ?_; conv => lhs; arg 5; whnf
  conv => lhs; arg 6; whnf
  repeat' first
    | refine S.seq_op rfl ?_; conv => lhs; whnf
    | refine S.op_n ?_; conv => lhs; whnf
    | refine S.seq_nil ?_
    | refine S.reg_n ?_
    | refine S.region rfl ?_
    | refine S.two ?_
    | refine S.blok ?_
    | refine S.cond rfl ?_
    | refine S.after_n ?_
    | refine S.block_n ?_
    | refine S.block_x ?_; conv => lhs; whnf
    | refine S.block_r ?_
    | refine S.after_x ?_
    | refine S.after_r ?_
    | refine S.skip ?_
    | refine S.exit ?_
    | refine S.ret ?_
    | refine br_lt ?_; conv => lhs; whnf
    | refine br_lf ?_; conv => lhs; whnf
    | refine br_t (by assumption) ?_; conv => lhs; whnf
    | refine br_f (by assumption) ?_; conv => lhs; whnf
    | refine req_i (by assumption) ?_; conv => lhs; whnf
    | (refine br_nd (fun _ => ?_) (fun _ => ?_) <;> conv => lhs; whnf)
    | (refine br_d (fun _ => ?_) (fun _ => ?_) <;> conv => lhs; whnf)
    | (refine br_n (fun _ => ?_) (fun _ => ?_) <;> conv => lhs; whnf)
    | (refine br_c (fun _ => ?_) (fun _ => ?_) <;> conv => lhs; whnf)
    | refine req_c fun _ => ?_; conv => lhs; whnf
    | refine bnd_c fun _ => ?_; conv => lhs; whnf
    | refine sum_c (fun _ => ?_) (fun _ => ?_)
    | refine (w11_0 S k _).trans ?_
    | refine S.loop ?_; conv => lhs; whnf
    | refine S.back_n ?_; conv => lhs; whnf
    | refine S.back_x ?_; conv => lhs; whnf
    | refine S.back_r ?_; conv => lhs; whnf
    | refine S.fin_r ?_; conv => lhs; whnf
    | refine S.fin_n ?_; conv => lhs; whnf
    | exact ret_c rfl
    | exact none_c
    | refine S.draw_op ?_; conv => lhs; whnf; arg 1; whnf
    | refine S.dk_n ?_; conv => lhs; whnf
    | refine S.draw_nil ?_; conv => lhs; whnf
    | refine andK_br ?_
    | refine andK_req ?_
    | refine andK_b ?_
def sp11 (k : Nat) : FSpec := ⟨[.rd, .rd, .rd], fun args objs K => match args, objs with | [.ptr 0 0, v0, .i .i64 a2], [.var [v1, .i .i64 o0_1]] => listB (.int .i64) true v0 fun a1 => datK (.int .i64) false v1 fun o0_0 => bindO (keep_Tape_Spec.f k a1 a2 o0_0 o0_1) fun x : Int × (List Int) => K (.own 1) [.var [.dat (.int .i64) o0_0 false, .i .i64 x.1], .row (.int .i64) x.2 false] | _, _ => none⟩
theorem snd11 (k : Nat) : Sound Try.prog 11 (sp11 k) := by
  refine ⟨⟨Try.f11, rfl, by kernel_rfl, rfl⟩, fun args objs K r h => ?_⟩
  unfold sp11 at h; dsimp only at h; split at h
  · rename_i v0 a2 v1 o0_1
    obtain ⟨a1, h, ca1⟩ := listB_spec h
    obtain ⟨o0_0, h, eo0_0⟩ := datK_spec h; subst eo0_0
    obtain ⟨x, hx, h⟩ := bindO_some h
    exact ⟨_, _, h, FnOK.args2 (relL_c rel_i (relL_c ca1 (relL_c rel_i relL_n))) (fn_run tab_ok (en11) mixed rfl ((r11 seals k a1 a2 o0_0 o0_1).trans (bindO_eq hx)))⟩
  · cases h
end Go.Vm

/- shape_Right -/
namespace Go.Vm
open Go Go.Proofs Go.Pf
def lv23 : Live := look ⟨[], [], [], [], []⟩ [(5, ⟨[3, 9, 10, 11], [3], [2], [], []⟩)]
noncomputable def g23 : FEnv := (fun _ => none)
theorem en23 : EnvOK Try.prog (g23) := (envOK_nil _)
set_option maxHeartbeats 4000000 in
theorem w23_0 (S : Seals) (k : Nat) : ∀ (n : Nat) {x3 : Int} {x9 : List Int} {x10 : Int} {x11 : Int} {K : CK}, S.lp tt (g23) lv23 0 n (loopN Try.f23 0) ⟨[(3, .i .i64 x3), (9, .dat (.int .i64) x9 true), (10, .i .i64 x10), (11, .i .i64 x11)], [], 0, 27⟩ K = bindO (shape_Right.l0 n x3 x9 x10 x11) (Sum.elim (fun x : Int => K (.exit 0) ⟨[(3, .i .i64 x)], [], 0, 27⟩) (fun x : Bool => K .ret ⟨[(2, .b x)], [], 0, 27⟩)) := by
  intro n; induction n with
  | zero => intros; rw [S.lp_zero]; exact none_c
  | succ n ih =>
    intros; rw [shape_Right.l0]; refine S.lp_succ ?_; conv => lhs; arg 5; whnf
    repeat' first
      | refine S.seq_op rfl ?_; conv => lhs; whnf
      | refine S.op_n ?_; conv => lhs; whnf
      | refine S.seq_nil ?_
      | refine S.reg_n ?_
      | refine S.region rfl ?_
      | refine S.two ?_
      | refine S.blok ?_
      | refine S.cond rfl ?_
      | refine S.after_n ?_
      | refine S.block_n ?_
      | refine S.block_x ?_; conv => lhs; whnf
      | refine S.block_r ?_
      | refine S.after_x ?_
      | refine S.after_r ?_
      | refine S.skip ?_
      | refine S.exit ?_
      | refine S.ret ?_
      | refine br_lt ?_; conv => lhs; whnf
      | refine br_lf ?_; conv => lhs; whnf
      | refine br_t (by assumption) ?_; conv => lhs; whnf
      | refine br_f (by assumption) ?_; conv => lhs; whnf
      | refine req_i (by assumption) ?_; conv => lhs; whnf
      | (refine br_nd (fun _ => ?_) (fun _ => ?_) <;> conv => lhs; whnf)
      | (refine br_d (fun _ => ?_) (fun _ => ?_) <;> conv => lhs; whnf)
      | (refine br_n (fun _ => ?_) (fun _ => ?_) <;> conv => lhs; whnf)
      | (refine br_c (fun _ => ?_) (fun _ => ?_) <;> conv => lhs; whnf)
      | refine req_c fun _ => ?_; conv => lhs; whnf
      | refine bnd_c fun _ => ?_; conv => lhs; whnf
      | refine sum_c (fun _ => ?_) (fun _ => ?_)
      | exact ih
      | refine S.loop ?_; conv => lhs; whnf
      | refine S.back_n ?_; conv => lhs; whnf
      | refine S.back_x ?_; conv => lhs; whnf
      | refine S.back_r ?_; conv => lhs; whnf
      | refine S.fin_r ?_; conv => lhs; whnf
      | refine S.fin_n ?_; conv => lhs; whnf
      | exact ret_c rfl
      | exact none_c
      | refine S.draw_op ?_; conv => lhs; whnf; arg 1; whnf
      | refine S.dk_n ?_; conv => lhs; whnf
      | refine S.draw_nil ?_; conv => lhs; whnf
      | refine andK_br ?_
      | refine andK_req ?_
      | refine andK_b ?_
set_option maxHeartbeats 4000000 in
theorem r23 (S : Seals) (k : Nat) (a0 : List Int) : runF tt (g23) lv23 Try.f23 k [.dat (.int .i64) a0 true] [] = bindO (shape_Right.f k a0) (fun x : Bool => some (.b x, [])) := by
  unfold shape_Right.f; refine S.run_s rfl rfl ?_; conv => lhs; arg 5; whnf
  conv => lhs; arg 6; whnf
  repeat' first
    | refine S.seq_op rfl ?_; conv => lhs; whnf
    | refine S.op_n ?_; conv => lhs; whnf
    | refine S.seq_nil ?_
    | refine S.reg_n ?_
    | refine S.region rfl ?_
    | refine S.two ?_
    | refine S.blok ?_
    | refine S.cond rfl ?_
    | refine S.after_n ?_
    | refine S.block_n ?_
    | refine S.block_x ?_; conv => lhs; whnf
    | refine S.block_r ?_
    | refine S.after_x ?_
    | refine S.after_r ?_
    | refine S.skip ?_
    | refine S.exit ?_
    | refine S.ret ?_
    | refine br_lt ?_; conv => lhs; whnf
    | refine br_lf ?_; conv => lhs; whnf
    | refine br_t (by assumption) ?_; conv => lhs; whnf
    | refine br_f (by assumption) ?_; conv => lhs; whnf
    | refine req_i (by assumption) ?_; conv => lhs; whnf
    | (refine br_nd (fun _ => ?_) (fun _ => ?_) <;> conv => lhs; whnf)
    | (refine br_d (fun _ => ?_) (fun _ => ?_) <;> conv => lhs; whnf)
    | (refine br_n (fun _ => ?_) (fun _ => ?_) <;> conv => lhs; whnf)
    | (refine br_c (fun _ => ?_) (fun _ => ?_) <;> conv => lhs; whnf)
    | refine req_c fun _ => ?_; conv => lhs; whnf
    | refine bnd_c fun _ => ?_; conv => lhs; whnf
    | refine sum_c (fun _ => ?_) (fun _ => ?_)
    | refine (w23_0 S k _).trans ?_
    | refine S.loop ?_; conv => lhs; whnf
    | refine S.back_n ?_; conv => lhs; whnf
    | refine S.back_x ?_; conv => lhs; whnf
    | refine S.back_r ?_; conv => lhs; whnf
    | refine S.fin_r ?_; conv => lhs; whnf
    | refine S.fin_n ?_; conv => lhs; whnf
    | exact ret_c rfl
    | exact none_c
    | refine S.draw_op ?_; conv => lhs; whnf; arg 1; whnf
    | refine S.dk_n ?_; conv => lhs; whnf
    | refine S.draw_nil ?_; conv => lhs; whnf
    | refine andK_br ?_
    | refine andK_req ?_
    | refine andK_b ?_
def sp23 (k : Nat) : FSpec := ⟨[.rd], fun args objs K => match args, objs with | [v0], [] => listB (.int .i64) true v0 fun a0 => bindO (shape_Right.f k a0) fun x : Bool => K (.b x) [] | _, _ => none⟩
theorem snd23 (k : Nat) : Sound Try.prog 23 (sp23 k) := by
  refine ⟨⟨Try.f23, rfl, by kernel_rfl, rfl⟩, fun args objs K r h => ?_⟩
  unfold sp23 at h; dsimp only at h; split at h
  · rename_i v0
    obtain ⟨a0, h, ca0⟩ := listB_spec h
    obtain ⟨x, hx, h⟩ := bindO_some h
    exact ⟨_, _, h, FnOK.args2 (relL_c ca0 relL_n) (fn_run tab_ok (en23) mixed rfl ((r23 seals k a0).trans (bindO_eq hx)))⟩
  · cases h
end Go.Vm

/- mesh_Right -/
namespace Go.Vm
open Go Go.Proofs Go.Pf
def lv27 : Live := look ⟨[], [], [], [], []⟩ [(5, ⟨[3, 9, 10, 11], [3], [2], [], []⟩)]
noncomputable def g27 : FEnv := (fun _ => none)
theorem en27 : EnvOK Try.prog (g27) := (envOK_nil _)
set_option maxHeartbeats 4000000 in
theorem w27_0 (S : Seals) (k : Nat) : ∀ (n : Nat) {x3 : Int} {x9 : List Int} {x10 : Int} {x11 : Int} {K : CK}, S.lp tt (g27) lv27 0 n (loopN Try.f27 0) ⟨[(3, .i .i64 x3), (9, .dat (.int .i64) x9 true), (10, .i .i64 x10), (11, .i .i64 x11)], [], 0, 27⟩ K = bindO (mesh_Right.l0 n x3 x9 x10 x11) (Sum.elim (fun x : Int => K (.exit 0) ⟨[(3, .i .i64 x)], [], 0, 27⟩) (fun x : Bool => K .ret ⟨[(2, .b x)], [], 0, 27⟩)) := by
  intro n; induction n with
  | zero => intros; rw [S.lp_zero]; exact none_c
  | succ n ih =>
    intros; rw [mesh_Right.l0]; refine S.lp_succ ?_; conv => lhs; arg 5; whnf
    repeat' first
      | refine S.seq_op rfl ?_; conv => lhs; whnf
      | refine S.op_n ?_; conv => lhs; whnf
      | refine S.seq_nil ?_
      | refine S.reg_n ?_
      | refine S.region rfl ?_
      | refine S.two ?_
      | refine S.blok ?_
      | refine S.cond rfl ?_
      | refine S.after_n ?_
      | refine S.block_n ?_
      | refine S.block_x ?_; conv => lhs; whnf
      | refine S.block_r ?_
      | refine S.after_x ?_
      | refine S.after_r ?_
      | refine S.skip ?_
      | refine S.exit ?_
      | refine S.ret ?_
      | refine br_lt ?_; conv => lhs; whnf
      | refine br_lf ?_; conv => lhs; whnf
      | refine br_t (by assumption) ?_; conv => lhs; whnf
      | refine br_f (by assumption) ?_; conv => lhs; whnf
      | refine req_i (by assumption) ?_; conv => lhs; whnf
      | (refine br_nd (fun _ => ?_) (fun _ => ?_) <;> conv => lhs; whnf)
      | (refine br_d (fun _ => ?_) (fun _ => ?_) <;> conv => lhs; whnf)
      | (refine br_n (fun _ => ?_) (fun _ => ?_) <;> conv => lhs; whnf)
      | (refine br_c (fun _ => ?_) (fun _ => ?_) <;> conv => lhs; whnf)
      | refine req_c fun _ => ?_; conv => lhs; whnf
      | refine bnd_c fun _ => ?_; conv => lhs; whnf
      | refine sum_c (fun _ => ?_) (fun _ => ?_)
      | exact ih
      | refine S.loop ?_; conv => lhs; whnf
      | refine S.back_n ?_; conv => lhs; whnf
      | refine S.back_x ?_; conv => lhs; whnf
      | refine S.back_r ?_; conv => lhs; whnf
      | refine S.fin_r ?_; conv => lhs; whnf
      | refine S.fin_n ?_; conv => lhs; whnf
      | exact ret_c rfl
      | exact none_c
      | refine S.draw_op ?_; conv => lhs; whnf; arg 1; whnf
      | refine S.dk_n ?_; conv => lhs; whnf
      | refine S.draw_nil ?_; conv => lhs; whnf
      | refine andK_br ?_
      | refine andK_req ?_
      | refine andK_b ?_
set_option maxHeartbeats 4000000 in
theorem r27 (S : Seals) (k : Nat) (a0 : List Int) : runF tt (g27) lv27 Try.f27 k [.dat (.int .i64) a0 true] [] = bindO (mesh_Right.f k a0) (fun x : Bool => some (.b x, [])) := by
  unfold mesh_Right.f; refine S.run_s rfl rfl ?_; conv => lhs; arg 5; whnf
  conv => lhs; arg 6; whnf
  repeat' first
    | refine S.seq_op rfl ?_; conv => lhs; whnf
    | refine S.op_n ?_; conv => lhs; whnf
    | refine S.seq_nil ?_
    | refine S.reg_n ?_
    | refine S.region rfl ?_
    | refine S.two ?_
    | refine S.blok ?_
    | refine S.cond rfl ?_
    | refine S.after_n ?_
    | refine S.block_n ?_
    | refine S.block_x ?_; conv => lhs; whnf
    | refine S.block_r ?_
    | refine S.after_x ?_
    | refine S.after_r ?_
    | refine S.skip ?_
    | refine S.exit ?_
    | refine S.ret ?_
    | refine br_lt ?_; conv => lhs; whnf
    | refine br_lf ?_; conv => lhs; whnf
    | refine br_t (by assumption) ?_; conv => lhs; whnf
    | refine br_f (by assumption) ?_; conv => lhs; whnf
    | refine req_i (by assumption) ?_; conv => lhs; whnf
    | (refine br_nd (fun _ => ?_) (fun _ => ?_) <;> conv => lhs; whnf)
    | (refine br_d (fun _ => ?_) (fun _ => ?_) <;> conv => lhs; whnf)
    | (refine br_n (fun _ => ?_) (fun _ => ?_) <;> conv => lhs; whnf)
    | (refine br_c (fun _ => ?_) (fun _ => ?_) <;> conv => lhs; whnf)
    | refine req_c fun _ => ?_; conv => lhs; whnf
    | refine bnd_c fun _ => ?_; conv => lhs; whnf
    | refine sum_c (fun _ => ?_) (fun _ => ?_)
    | refine (w27_0 S k _).trans ?_
    | refine S.loop ?_; conv => lhs; whnf
    | refine S.back_n ?_; conv => lhs; whnf
    | refine S.back_x ?_; conv => lhs; whnf
    | refine S.back_r ?_; conv => lhs; whnf
    | refine S.fin_r ?_; conv => lhs; whnf
    | refine S.fin_n ?_; conv => lhs; whnf
    | exact ret_c rfl
    | exact none_c
    | refine S.draw_op ?_; conv => lhs; whnf; arg 1; whnf
    | refine S.dk_n ?_; conv => lhs; whnf
    | refine S.draw_nil ?_; conv => lhs; whnf
    | refine andK_br ?_
    | refine andK_req ?_
    | refine andK_b ?_
def sp27 (k : Nat) : FSpec := ⟨[.rd], fun args objs K => match args, objs with | [v0], [] => listB (.int .i64) true v0 fun a0 => bindO (mesh_Right.f k a0) fun x : Bool => K (.b x) [] | _, _ => none⟩
theorem snd27 (k : Nat) : Sound Try.prog 27 (sp27 k) := by
  refine ⟨⟨Try.f27, rfl, by kernel_rfl, rfl⟩, fun args objs K r h => ?_⟩
  unfold sp27 at h; dsimp only at h; split at h
  · rename_i v0
    obtain ⟨a0, h, ca0⟩ := listB_spec h
    obtain ⟨x, hx, h⟩ := bindO_some h
    exact ⟨_, _, h, FnOK.args2 (relL_c ca0 relL_n) (fn_run tab_ok (en27) mixed rfl ((r27 seals k a0).trans (bindO_eq hx)))⟩
  · cases h
end Go.Vm

/- slices_Index_int -/
namespace Go.Vm
open Go Go.Proofs Go.Pf
def lv29 : Live := look ⟨[], [], [], [], []⟩ [(2, ⟨[0, 1, 7, 8], [], [4], [], []⟩)]
noncomputable def g29 : FEnv := (fun _ => none)
theorem en29 : EnvOK Try.prog (g29) := (envOK_nil _)
set_option maxHeartbeats 4000000 in
theorem w29_0 (S : Seals) (k : Nat) : ∀ (n : Nat) {x0 : List Int} {x1 : Int} {x7 : Int} {x8 : Int} {K : CK}, S.lp tt (g29) lv29 0 n (loopN Try.f29 0) ⟨[(0, .dat (.int .i64) x0 true), (1, .i .i64 x1), (7, .i .i64 x7), (8, .i .i64 x8)], [], 0, 19⟩ K = bindO (slices_Index_int.l0 n x0 x1 x7 x8) (Sum.elim (fun x : Unit => K (.exit 0) ⟨[], [], 0, 19⟩) (fun x : Int => K .ret ⟨[(4, .i .i64 x)], [], 0, 19⟩)) := by
  intro n; induction n with
  | zero => intros; rw [S.lp_zero]; exact none_c
  | succ n ih =>
    intros; rw [slices_Index_int.l0]; refine S.lp_succ ?_; conv => lhs; arg 5; whnf
    repeat' first
      | refine S.seq_op rfl ?_; conv => lhs; whnf
      | refine S.op_n ?_; conv => lhs; whnf
      | refine S.seq_nil ?_
      | refine S.reg_n ?_
      | refine S.region rfl ?_
      | refine S.two ?_
      | refine S.blok ?_
      | refine S.cond rfl ?_
      | refine S.after_n ?_
      | refine S.block_n ?_
      | refine S.block_x ?_; conv => lhs; whnf
      | refine S.block_r ?_
      | refine S.after_x ?_
      | refine S.after_r ?_
      | refine S.skip ?_
      | refine S.exit ?_
      | refine S.ret ?_
      | refine br_lt ?_; conv => lhs; whnf
      | refine br_lf ?_; conv => lhs; whnf
      | refine br_t (by assumption) ?_; conv => lhs; whnf
      | refine br_f (by assumption) ?_; conv => lhs; whnf
      | refine req_i (by assumption) ?_; conv => lhs; whnf
      | (refine br_nd (fun _ => ?_) (fun _ => ?_) <;> conv => lhs; whnf)
      | (refine br_d (fun _ => ?_) (fun _ => ?_) <;> conv => lhs; whnf)
      | (refine br_n (fun _ => ?_) (fun _ => ?_) <;> conv => lhs; whnf)
      | (refine br_c (fun _ => ?_) (fun _ => ?_) <;> conv => lhs; whnf)
      | refine req_c fun _ => ?_; conv => lhs; whnf
      | refine bnd_c fun _ => ?_; conv => lhs; whnf
      | refine sum_c (fun _ => ?_) (fun _ => ?_)
      | exact ih
      | refine S.loop ?_; conv => lhs; whnf
      | refine S.back_n ?_; conv => lhs; whnf
      | refine S.back_x ?_; conv => lhs; whnf
      | refine S.back_r ?_; conv => lhs; whnf
      | refine S.fin_r ?_; conv => lhs; whnf
      | refine S.fin_n ?_; conv => lhs; whnf
      | exact ret_c rfl
      | exact none_c
      | refine S.draw_op ?_; conv => lhs; whnf; arg 1; whnf
      | refine S.dk_n ?_; conv => lhs; whnf
      | refine S.draw_nil ?_; conv => lhs; whnf
      | refine andK_br ?_
      | refine andK_req ?_
      | refine andK_b ?_
set_option maxHeartbeats 4000000 in
theorem r29 (S : Seals) (k : Nat) (a0 : List Int) (a1 : Int) : runF tt (g29) lv29 Try.f29 k [.dat (.int .i64) a0 true, .i .i64 a1] [] = bindO (slices_Index_int.f k a0 a1) (fun x : Int => some (.i .i64 x, [])) := by
  unfold slices_Index_int.f; refine S.run_s rfl rfl ?_; conv => lhs; arg 5; whnf
  conv => lhs; arg 6; whnf
  repeat' first
    | refine S.seq_op rfl ?_; conv => lhs; whnf
    | refine S.op_n ?_; conv => lhs; whnf
    | refine S.seq_nil ?_
    | refine S.reg_n ?_
    | refine S.region rfl ?_
    | refine S.two ?_
    | refine S.blok ?_
    | refine S.cond rfl ?_
    | refine S.after_n ?_
    | refine S.block_n ?_
    | refine S.block_x ?_; conv => lhs; whnf
    | refine S.block_r ?_
    | refine S.after_x ?_
    | refine S.after_r ?_
    | refine S.skip ?_
    | refine S.exit ?_
    | refine S.ret ?_
    | refine br_lt ?_; conv => lhs; whnf
    | refine br_lf ?_; conv => lhs; whnf
    | refine br_t (by assumption) ?_; conv => lhs; whnf
    | refine br_f (by assumption) ?_; conv => lhs; whnf
    | refine req_i (by assumption) ?_; conv => lhs; whnf
    | (refine br_nd (fun _ => ?_) (fun _ => ?_) <;> conv => lhs; whnf)
    | (refine br_d (fun _ => ?_) (fun _ => ?_) <;> conv => lhs; whnf)
    | (refine br_n (fun _ => ?_) (fun _ => ?_) <;> conv => lhs; whnf)
    | (refine br_c (fun _ => ?_) (fun _ => ?_) <;> conv => lhs; whnf)
    | refine req_c fun _ => ?_; conv => lhs; whnf
    | refine bnd_c fun _ => ?_; conv => lhs; whnf
    | refine sum_c (fun _ => ?_) (fun _ => ?_)
    | refine (w29_0 S k _).trans ?_
    | refine S.loop ?_; conv => lhs; whnf
    | refine S.back_n ?_; conv => lhs; whnf
    | refine S.back_x ?_; conv => lhs; whnf
    | refine S.back_r ?_; conv => lhs; whnf
    | refine S.fin_r ?_; conv => lhs; whnf
    | refine S.fin_n ?_; conv => lhs; whnf
    | exact ret_c rfl
    | exact none_c
    | refine S.draw_op ?_; conv => lhs; whnf; arg 1; whnf
    | refine S.dk_n ?_; conv => lhs; whnf
    | refine S.draw_nil ?_; conv => lhs; whnf
    | refine andK_br ?_
    | refine andK_req ?_
    | refine andK_b ?_
def sp29 (k : Nat) : FSpec := ⟨[.rd, .rd], fun args objs K => match args, objs with | [v0, .i .i64 a1], [] => listB (.int .i64) true v0 fun a0 => bindO (slices_Index_int.f k a0 a1) fun x : Int => K (.i .i64 x) [] | _, _ => none⟩
theorem snd29 (k : Nat) : Sound Try.prog 29 (sp29 k) := by
  refine ⟨⟨Try.f29, rfl, by kernel_rfl, rfl⟩, fun args objs K r h => ?_⟩
  unfold sp29 at h; dsimp only at h; split at h
  · rename_i v0 a1
    obtain ⟨a0, h, ca0⟩ := listB_spec h
    obtain ⟨x, hx, h⟩ := bindO_some h
    exact ⟨_, _, h, FnOK.args2 (relL_c ca0 (relL_c rel_i relL_n)) (fn_run tab_ok (en29) mixed rfl ((r29 seals k a0 a1).trans (bindO_eq hx)))⟩
  · cases h
end Go.Vm

/- slices_Contains_int -/
namespace Go.Vm
open Go Go.Proofs Go.Pf
def lv28 : Live := look ⟨[], [], [], [], []⟩ []
noncomputable def g28 (k : Nat) : FEnv := (addF 29 (sp29 k) (fun _ => none))
theorem en28 (k : Nat) : EnvOK Try.prog (g28 k) := (envOK_add (snd29 k) (envOK_nil _))
set_option maxHeartbeats 4000000 in
theorem r28 (S : Seals) (k : Nat) (a0 : List Int) (a1 : Int) : runF tt (g28 k) lv28 Try.f28 k [.dat (.int .i64) a0 true, .i .i64 a1] [] = bindO (slices_Contains_int.f k a0 a1) (fun x : Bool => some (.b x, [])) := by
  unfold slices_Contains_int.f; refine S.run_s rfl rfl ?_; conv => lhs; arg 5; whnf
  conv => lhs; arg 6; whnf
  repeat' first
    | refine S.seq_op rfl ?_; conv => lhs; whnf
    | refine S.op_n ?_; conv => lhs; whnf
    | refine S.seq_nil ?_
    | refine S.reg_n ?_
    | refine S.region rfl ?_
    | refine S.two ?_
    | refine S.blok ?_
    | refine S.cond rfl ?_
    | refine S.after_n ?_
    | refine S.block_n ?_
    | refine S.block_x ?_; conv => lhs; whnf
    | refine S.block_r ?_
    | refine S.after_x ?_
    | refine S.after_r ?_
    | refine S.skip ?_
    | refine S.exit ?_
    | refine S.ret ?_
    | refine br_lt ?_; conv => lhs; whnf
    | refine br_lf ?_; conv => lhs; whnf
    | refine br_t (by assumption) ?_; conv => lhs; whnf
    | refine br_f (by assumption) ?_; conv => lhs; whnf
    | refine req_i (by assumption) ?_; conv => lhs; whnf
    | (refine br_nd (fun _ => ?_) (fun _ => ?_) <;> conv => lhs; whnf)
    | (refine br_d (fun _ => ?_) (fun _ => ?_) <;> conv => lhs; whnf)
    | (refine br_n (fun _ => ?_) (fun _ => ?_) <;> conv => lhs; whnf)
    | (refine br_c (fun _ => ?_) (fun _ => ?_) <;> conv => lhs; whnf)
    | refine req_c fun _ => ?_; conv => lhs; whnf
    | refine bnd_c fun _ => ?_; conv => lhs; whnf
    | refine sum_c (fun _ => ?_) (fun _ => ?_)
    | refine S.loop ?_; conv => lhs; whnf
    | refine S.back_n ?_; conv => lhs; whnf
    | refine S.back_x ?_; conv => lhs; whnf
    | refine S.back_r ?_; conv => lhs; whnf
    | refine S.fin_r ?_; conv => lhs; whnf
    | refine S.fin_n ?_; conv => lhs; whnf
    | exact ret_c rfl
    | exact none_c
    | refine S.draw_op ?_; conv => lhs; whnf; arg 1; whnf
    | refine S.dk_n ?_; conv => lhs; whnf
    | refine S.draw_nil ?_; conv => lhs; whnf
    | refine andK_br ?_
    | refine andK_req ?_
    | refine andK_b ?_
def sp28 (k : Nat) : FSpec := ⟨[.rd, .rd], fun args objs K => match args, objs with | [v0, .i .i64 a1], [] => listB (.int .i64) true v0 fun a0 => bindO (slices_Contains_int.f k a0 a1) fun x : Bool => K (.b x) [] | _, _ => none⟩
theorem snd28 (k : Nat) : Sound Try.prog 28 (sp28 k) := by
  refine ⟨⟨Try.f28, rfl, by kernel_rfl, rfl⟩, fun args objs K r h => ?_⟩
  unfold sp28 at h; dsimp only at h; split at h
  · rename_i v0 a1
    obtain ⟨a0, h, ca0⟩ := listB_spec h
    obtain ⟨x, hx, h⟩ := bindO_some h
    exact ⟨_, _, h, FnOK.args2 (relL_c ca0 (relL_c rel_i relL_n)) (fn_run tab_ok (en28 k) mixed rfl ((r28 seals k a0 a1).trans (bindO_eq hx)))⟩
  · cases h
end Go.Vm

/- spec_Right -/
namespace Go.Vm
open Go Go.Proofs Go.Pf
def lv24 : Live := look ⟨[], [], [], [], []⟩ [(4, ⟨[0, 1, 18, 19, 20], [], [6], [], []⟩)]
noncomputable def g24 (k : Nat) : FEnv := (addF 28 (sp28 k) (addF 27 (sp27 k) (fun _ => none)))
theorem en24 (k : Nat) : EnvOK Try.prog (g24 k) := (envOK_add (snd28 k) (envOK_add (snd27 k) (envOK_nil _)))
set_option maxHeartbeats 4000000 in
theorem w24_0 (S : Seals) (k : Nat) : ∀ (n : Nat) {x0 : List Int} {x1 : List Int} {x18 : List Int} {x19 : Int} {x20 : Int} {K : CK}, S.lp tt (g24 k) lv24 0 n (loopN Try.f24 0) ⟨[(0, .dat (.int .i64) x0 true), (1, .dat (.int .i64) x1 true), (18, .dat (.int .i64) x18 true), (19, .i .i64 x19), (20, .i .i64 x20)], [], 0, 45⟩ K = bindO (spec_Right.l0 k n x0 x1 x18 x19 x20) (Sum.elim (fun x : Unit => K (.exit 0) ⟨[], [], 0, 45⟩) (fun x : Bool => K .ret ⟨[(6, .b x)], [], 0, 45⟩)) := by
  intro n; induction n with
  | zero => intros; rw [S.lp_zero]; exact none_c
  | succ n ih =>
    intros; rw [spec_Right.l0]; refine S.lp_succ ?_; conv => lhs; arg 5; whnf
    repeat' first
      | refine S.seq_op rfl ?_; conv => lhs; whnf
      | refine S.op_n ?_; conv => lhs; whnf
      | refine S.seq_nil ?_
      | refine S.reg_n ?_
      | refine S.region rfl ?_
      | refine S.two ?_
      | refine S.blok ?_
      | refine S.cond rfl ?_
      | refine S.after_n ?_
      | refine S.block_n ?_
      | refine S.block_x ?_; conv => lhs; whnf
      | refine S.block_r ?_
      | refine S.after_x ?_
      | refine S.after_r ?_
      | refine S.skip ?_
      | refine S.exit ?_
      | refine S.ret ?_
      | refine br_lt ?_; conv => lhs; whnf
      | refine br_lf ?_; conv => lhs; whnf
      | refine br_t (by assumption) ?_; conv => lhs; whnf
      | refine br_f (by assumption) ?_; conv => lhs; whnf
      | refine req_i (by assumption) ?_; conv => lhs; whnf
      | (refine br_nd (fun _ => ?_) (fun _ => ?_) <;> conv => lhs; whnf)
      | (refine br_d (fun _ => ?_) (fun _ => ?_) <;> conv => lhs; whnf)
      | (refine br_n (fun _ => ?_) (fun _ => ?_) <;> conv => lhs; whnf)
      | (refine br_c (fun _ => ?_) (fun _ => ?_) <;> conv => lhs; whnf)
      | refine req_c fun _ => ?_; conv => lhs; whnf
      | refine bnd_c fun _ => ?_; conv => lhs; whnf
      | refine sum_c (fun _ => ?_) (fun _ => ?_)
      | exact ih
      | refine S.loop ?_; conv => lhs; whnf
      | refine S.back_n ?_; conv => lhs; whnf
      | refine S.back_x ?_; conv => lhs; whnf
      | refine S.back_r ?_; conv => lhs; whnf
      | refine S.fin_r ?_; conv => lhs; whnf
      | refine S.fin_n ?_; conv => lhs; whnf
      | exact ret_c rfl
      | exact none_c
      | refine S.draw_op ?_; conv => lhs; whnf; arg 1; whnf
      | refine S.dk_n ?_; conv => lhs; whnf
      | refine S.draw_nil ?_; conv => lhs; whnf
      | refine andK_br ?_
      | refine andK_req ?_
      | refine andK_b ?_
set_option maxHeartbeats 4000000 in
theorem r24 (S : Seals) (k : Nat) (a0 : List Int) (a1 : List Int) (a2 : Int) : runF tt (g24 k) lv24 Try.f24 k [.dat (.int .i64) a0 true, .dat (.int .i64) a1 true, .i .i64 a2] [] = bindO (spec_Right.f k a0 a1 a2) (fun x : Bool => some (.b x, [])) := by
  unfold spec_Right.f; refine S.run_s rfl rfl ?_; conv => lhs; arg 5; whnf
  conv => lhs; arg 6; whnf
  repeat' first
    | refine S.seq_op rfl ?_; conv => lhs; whnf
    | refine S.op_n ?_; conv => lhs; whnf
    | refine S.seq_nil ?_
    | refine S.reg_n ?_
    | refine S.region rfl ?_
    | refine S.two ?_
    | refine S.blok ?_
    | refine S.cond rfl ?_
    | refine S.after_n ?_
    | refine S.block_n ?_
    | refine S.block_x ?_; conv => lhs; whnf
    | refine S.block_r ?_
    | refine S.after_x ?_
    | refine S.after_r ?_
    | refine S.skip ?_
    | refine S.exit ?_
    | refine S.ret ?_
    | refine br_lt ?_; conv => lhs; whnf
    | refine br_lf ?_; conv => lhs; whnf
    | refine br_t (by assumption) ?_; conv => lhs; whnf
    | refine br_f (by assumption) ?_; conv => lhs; whnf
    | refine req_i (by assumption) ?_; conv => lhs; whnf
    | (refine br_nd (fun _ => ?_) (fun _ => ?_) <;> conv => lhs; whnf)
    | (refine br_d (fun _ => ?_) (fun _ => ?_) <;> conv => lhs; whnf)
    | (refine br_n (fun _ => ?_) (fun _ => ?_) <;> conv => lhs; whnf)
    | (refine br_c (fun _ => ?_) (fun _ => ?_) <;> conv => lhs; whnf)
    | refine req_c fun _ => ?_; conv => lhs; whnf
    | refine bnd_c fun _ => ?_; conv => lhs; whnf
    | refine sum_c (fun _ => ?_) (fun _ => ?_)
    | refine (w24_0 S k _).trans ?_
    | refine S.loop ?_; conv => lhs; whnf
    | refine S.back_n ?_; conv => lhs; whnf
    | refine S.back_x ?_; conv => lhs; whnf
    | refine S.back_r ?_; conv => lhs; whnf
    | refine S.fin_r ?_; conv => lhs; whnf
    | refine S.fin_n ?_; conv => lhs; whnf
    | exact ret_c rfl
    | exact none_c
    | refine S.draw_op ?_; conv => lhs; whnf; arg 1; whnf
    | refine S.dk_n ?_; conv => lhs; whnf
    | refine S.draw_nil ?_; conv => lhs; whnf
    | refine andK_br ?_
    | refine andK_req ?_
    | refine andK_b ?_
def sp24 (k : Nat) : FSpec := ⟨[.rd, .rd, .rd], fun args objs K => match args, objs with | [v0, v1, .i .i64 a2], [] => listB (.int .i64) true v0 fun a0 => listB (.int .i64) true v1 fun a1 => bindO (spec_Right.f k a0 a1 a2) fun x : Bool => K (.b x) [] | _, _ => none⟩
theorem snd24 (k : Nat) : Sound Try.prog 24 (sp24 k) := by
  refine ⟨⟨Try.f24, rfl, by kernel_rfl, rfl⟩, fun args objs K r h => ?_⟩
  unfold sp24 at h; dsimp only at h; split at h
  · rename_i v0 v1 a2
    obtain ⟨a0, h, ca0⟩ := listB_spec h
    obtain ⟨a1, h, ca1⟩ := listB_spec h
    obtain ⟨x, hx, h⟩ := bindO_some h
    exact ⟨_, _, h, FnOK.args2 (relL_c ca0 (relL_c ca1 (relL_c rel_i relL_n))) (fn_run tab_ok (en24 k) mixed rfl ((r24 seals k a0 a1 a2).trans (bindO_eq hx)))⟩
  · cases h
end Go.Vm

/- mesh_Devices -/
namespace Go.Vm
open Go Go.Proofs Go.Pf
def lv25 : Live := look ⟨[], [], [], [], []⟩ [(5, ⟨[3, 9, 10, 11], [3], [2], [], []⟩)]
noncomputable def g25 (k : Nat) : FEnv := (addF 27 (sp27 k) (fun _ => none))
theorem en25 (k : Nat) : EnvOK Try.prog (g25 k) := (envOK_add (snd27 k) (envOK_nil _))
set_option maxHeartbeats 4000000 in
theorem w25_0 (S : Seals) (k : Nat) : ∀ (n : Nat) {x3 : Int} {x9 : List Int} {x10 : Int} {x11 : Int} {K : CK}, S.lp tt (g25 k) lv25 0 n (loopN Try.f25 0) ⟨[(3, .i .i64 x3), (9, .dat (.int .i64) x9 true), (10, .i .i64 x10), (11, .i .i64 x11)], [], 0, 20⟩ K = bindO (mesh_Devices.l0 n x3 x9 x10 x11) (fun x : Int => K (.exit 0) ⟨[(3, .i .i64 x)], [], 0, 20⟩) := by
  intro n; induction n with
  | zero => intros; rw [S.lp_zero]; exact none_c
  | succ n ih =>
    intros; rw [mesh_Devices.l0]; refine S.lp_succ ?_; conv => lhs; arg 5; whnf
    repeat' first
      | refine S.seq_op rfl ?_; conv => lhs; whnf
      | refine S.op_n ?_; conv => lhs; whnf
      | refine S.seq_nil ?_
      | refine S.reg_n ?_
      | refine S.region rfl ?_
      | refine S.two ?_
      | refine S.blok ?_
      | refine S.cond rfl ?_
      | refine S.after_n ?_
      | refine S.block_n ?_
      | refine S.block_x ?_; conv => lhs; whnf
      | refine S.block_r ?_
      | refine S.after_x ?_
      | refine S.after_r ?_
      | refine S.skip ?_
      | refine S.exit ?_
      | refine S.ret ?_
      | refine br_lt ?_; conv => lhs; whnf
      | refine br_lf ?_; conv => lhs; whnf
      | refine br_t (by assumption) ?_; conv => lhs; whnf
      | refine br_f (by assumption) ?_; conv => lhs; whnf
      | refine req_i (by assumption) ?_; conv => lhs; whnf
      | (refine br_nd (fun _ => ?_) (fun _ => ?_) <;> conv => lhs; whnf)
      | (refine br_d (fun _ => ?_) (fun _ => ?_) <;> conv => lhs; whnf)
      | (refine br_n (fun _ => ?_) (fun _ => ?_) <;> conv => lhs; whnf)
      | (refine br_c (fun _ => ?_) (fun _ => ?_) <;> conv => lhs; whnf)
      | refine req_c fun _ => ?_; conv => lhs; whnf
      | refine bnd_c fun _ => ?_; conv => lhs; whnf
      | refine sum_c (fun _ => ?_) (fun _ => ?_)
      | exact ih
      | refine S.loop ?_; conv => lhs; whnf
      | refine S.back_n ?_; conv => lhs; whnf
      | refine S.back_x ?_; conv => lhs; whnf
      | refine S.back_r ?_; conv => lhs; whnf
      | refine S.fin_r ?_; conv => lhs; whnf
      | refine S.fin_n ?_; conv => lhs; whnf
      | exact ret_c rfl
      | exact none_c
      | refine S.draw_op ?_; conv => lhs; whnf; arg 1; whnf
      | refine S.dk_n ?_; conv => lhs; whnf
      | refine S.draw_nil ?_; conv => lhs; whnf
      | refine andK_br ?_
      | refine andK_req ?_
      | refine andK_b ?_
set_option maxHeartbeats 4000000 in
theorem r25 (S : Seals) (k : Nat) (a0 : List Int) : runF tt (g25 k) lv25 Try.f25 k [.dat (.int .i64) a0 true] [] = bindO (mesh_Devices.f k a0) (fun x : Int => some (.i .i64 x, [])) := by
  unfold mesh_Devices.f; refine S.run_s rfl rfl ?_; conv => lhs; arg 5; whnf
  conv => lhs; arg 6; whnf
  repeat' first
    | refine S.seq_op rfl ?_; conv => lhs; whnf
    | refine S.op_n ?_; conv => lhs; whnf
    | refine S.seq_nil ?_
    | refine S.reg_n ?_
    | refine S.region rfl ?_
    | refine S.two ?_
    | refine S.blok ?_
    | refine S.cond rfl ?_
    | refine S.after_n ?_
    | refine S.block_n ?_
    | refine S.block_x ?_; conv => lhs; whnf
    | refine S.block_r ?_
    | refine S.after_x ?_
    | refine S.after_r ?_
    | refine S.skip ?_
    | refine S.exit ?_
    | refine S.ret ?_
    | refine br_lt ?_; conv => lhs; whnf
    | refine br_lf ?_; conv => lhs; whnf
    | refine br_t (by assumption) ?_; conv => lhs; whnf
    | refine br_f (by assumption) ?_; conv => lhs; whnf
    | refine req_i (by assumption) ?_; conv => lhs; whnf
    | (refine br_nd (fun _ => ?_) (fun _ => ?_) <;> conv => lhs; whnf)
    | (refine br_d (fun _ => ?_) (fun _ => ?_) <;> conv => lhs; whnf)
    | (refine br_n (fun _ => ?_) (fun _ => ?_) <;> conv => lhs; whnf)
    | (refine br_c (fun _ => ?_) (fun _ => ?_) <;> conv => lhs; whnf)
    | refine req_c fun _ => ?_; conv => lhs; whnf
    | refine bnd_c fun _ => ?_; conv => lhs; whnf
    | refine sum_c (fun _ => ?_) (fun _ => ?_)
    | refine (w25_0 S k _).trans ?_
    | refine S.loop ?_; conv => lhs; whnf
    | refine S.back_n ?_; conv => lhs; whnf
    | refine S.back_x ?_; conv => lhs; whnf
    | refine S.back_r ?_; conv => lhs; whnf
    | refine S.fin_r ?_; conv => lhs; whnf
    | refine S.fin_n ?_; conv => lhs; whnf
    | exact ret_c rfl
    | exact none_c
    | refine S.draw_op ?_; conv => lhs; whnf; arg 1; whnf
    | refine S.dk_n ?_; conv => lhs; whnf
    | refine S.draw_nil ?_; conv => lhs; whnf
    | refine andK_br ?_
    | refine andK_req ?_
    | refine andK_b ?_
def sp25 (k : Nat) : FSpec := ⟨[.rd], fun args objs K => match args, objs with | [v0], [] => listB (.int .i64) true v0 fun a0 => bindO (mesh_Devices.f k a0) fun x : Int => K (.i .i64 x) [] | _, _ => none⟩
theorem snd25 (k : Nat) : Sound Try.prog 25 (sp25 k) := by
  refine ⟨⟨Try.f25, rfl, by kernel_rfl, rfl⟩, fun args objs K r h => ?_⟩
  unfold sp25 at h; dsimp only at h; split at h
  · rename_i v0
    obtain ⟨a0, h, ca0⟩ := listB_spec h
    obtain ⟨x, hx, h⟩ := bindO_some h
    exact ⟨_, _, h, FnOK.args2 (relL_c ca0 relL_n) (fn_run tab_ok (en25 k) mixed rfl ((r25 seals k a0).trans (bindO_eq hx)))⟩
  · cases h
end Go.Vm

/- mesh_At -/
namespace Go.Vm
open Go Go.Proofs Go.Pf
def lv26 : Live := look ⟨[], [], [], [], []⟩ [(5, ⟨[0, 1, 5, 6], [5], [4], [], []⟩), (1000000, ⟨[], [], [], [(4, 0, .own (.int .i64))], []⟩)]
noncomputable def g26 (k : Nat) : FEnv := (addF 25 (sp25 k) (fun _ => none))
theorem en26 (k : Nat) : EnvOK Try.prog (g26 k) := (envOK_add (snd25 k) (envOK_nil _))
set_option maxHeartbeats 4000000 in
theorem w26_0 (S : Seals) (k : Nat) : ∀ (n : Nat) {x0 : List Int} {x1 : Int} {x6 : Int} {y0 : List Int} {K : CK}, S.lp tt (g26 k) lv26 0 n (loopN Try.f26 0) ⟨[(0, .dat (.int .i64) x0 true), (1, .i .i64 x1), (5, .own 0), (6, .i .i64 x6)], [(0, .row (.int .i64) y0 false)], 1, 41⟩ K = bindO (mesh_At.l0 n x0 x1 x6 y0) (fun x : (List Int) => K (.exit 0) ⟨[(5, .own 0)], [(0, .row (.int .i64) x false)], 1, 41⟩) := by
  intro n; induction n with
  | zero => intros; rw [S.lp_zero]; exact none_c
  | succ n ih =>
    intros; rw [mesh_At.l0]; refine S.lp_succ ?_; conv => lhs; arg 5; whnf
    repeat' first
      | refine S.seq_op rfl ?_; conv => lhs; whnf
      | refine S.op_n ?_; conv => lhs; whnf
      | refine S.seq_nil ?_
      | refine S.reg_n ?_
      | refine S.region rfl ?_
      | refine S.two ?_
      | refine S.blok ?_
      | refine S.cond rfl ?_
      | refine S.after_n ?_
      | refine S.block_n ?_
      | refine S.block_x ?_; conv => lhs; whnf
      | refine S.block_r ?_
      | refine S.after_x ?_
      | refine S.after_r ?_
      | refine S.skip ?_
      | refine S.exit ?_
      | refine S.ret ?_
      | refine br_lt ?_; conv => lhs; whnf
      | refine br_lf ?_; conv => lhs; whnf
      | refine br_t (by assumption) ?_; conv => lhs; whnf
      | refine br_f (by assumption) ?_; conv => lhs; whnf
      | refine req_i (by assumption) ?_; conv => lhs; whnf
      | (refine br_nd (fun _ => ?_) (fun _ => ?_) <;> conv => lhs; whnf)
      | (refine br_d (fun _ => ?_) (fun _ => ?_) <;> conv => lhs; whnf)
      | (refine br_n (fun _ => ?_) (fun _ => ?_) <;> conv => lhs; whnf)
      | (refine br_c (fun _ => ?_) (fun _ => ?_) <;> conv => lhs; whnf)
      | refine req_c fun _ => ?_; conv => lhs; whnf
      | refine bnd_c fun _ => ?_; conv => lhs; whnf
      | refine sum_c (fun _ => ?_) (fun _ => ?_)
      | exact ih
      | refine S.loop ?_; conv => lhs; whnf
      | refine S.back_n ?_; conv => lhs; whnf
      | refine S.back_x ?_; conv => lhs; whnf
      | refine S.back_r ?_; conv => lhs; whnf
      | refine S.fin_r ?_; conv => lhs; whnf
      | refine S.fin_n ?_; conv => lhs; whnf
      | exact ret_c rfl
      | exact none_c
      | refine S.draw_op ?_; conv => lhs; whnf; arg 1; whnf
      | refine S.dk_n ?_; conv => lhs; whnf
      | refine S.draw_nil ?_; conv => lhs; whnf
      | refine andK_br ?_
      | refine andK_req ?_
      | refine andK_b ?_
set_option maxHeartbeats 4000000 in
theorem r26 (S : Seals) (k : Nat) (a0 : List Int) (a1 : Int) : runF tt (g26 k) lv26 Try.f26 k [.dat (.int .i64) a0 true, .i .i64 a1] [] = bindO (mesh_At.f k a0 a1) (fun x : (List Int) => some (.own 0, [.row (.int .i64) x false])) := by
  unfold mesh_At.f; refine S.run_s rfl rfl ?_; conv => lhs; arg 5; whnf
  conv => lhs; arg 6; whnf
  repeat' first
    | refine S.seq_op rfl ?_; conv => lhs; whnf
    | refine S.op_n ?_; conv => lhs; whnf
    | refine S.seq_nil ?_
    | refine S.reg_n ?_
    | refine S.region rfl ?_
    | refine S.two ?_
    | refine S.blok ?_
    | refine S.cond rfl ?_
    | refine S.after_n ?_
    | refine S.block_n ?_
    | refine S.block_x ?_; conv => lhs; whnf
    | refine S.block_r ?_
    | refine S.after_x ?_
    | refine S.after_r ?_
    | refine S.skip ?_
    | refine S.exit ?_
    | refine S.ret ?_
    | refine br_lt ?_; conv => lhs; whnf
    | refine br_lf ?_; conv => lhs; whnf
    | refine br_t (by assumption) ?_; conv => lhs; whnf
    | refine br_f (by assumption) ?_; conv => lhs; whnf
    | refine req_i (by assumption) ?_; conv => lhs; whnf
    | (refine br_nd (fun _ => ?_) (fun _ => ?_) <;> conv => lhs; whnf)
    | (refine br_d (fun _ => ?_) (fun _ => ?_) <;> conv => lhs; whnf)
    | (refine br_n (fun _ => ?_) (fun _ => ?_) <;> conv => lhs; whnf)
    | (refine br_c (fun _ => ?_) (fun _ => ?_) <;> conv => lhs; whnf)
    | refine req_c fun _ => ?_; conv => lhs; whnf
    | refine bnd_c fun _ => ?_; conv => lhs; whnf
    | refine sum_c (fun _ => ?_) (fun _ => ?_)
    | refine (w26_0 S k _).trans ?_
    | refine S.loop ?_; conv => lhs; whnf
    | refine S.back_n ?_; conv => lhs; whnf
    | refine S.back_x ?_; conv => lhs; whnf
    | refine S.back_r ?_; conv => lhs; whnf
    | refine S.fin_r ?_; conv => lhs; whnf
    | refine S.fin_n ?_; conv => lhs; whnf
    | exact ret_c rfl
    | exact none_c
    | refine S.draw_op ?_; conv => lhs; whnf; arg 1; whnf
    | refine S.dk_n ?_; conv => lhs; whnf
    | refine S.draw_nil ?_; conv => lhs; whnf
    | refine andK_br ?_
    | refine andK_req ?_
    | refine andK_b ?_
def sp26 (k : Nat) : FSpec := ⟨[.rd, .rd], fun args objs K => match args, objs with | [v0, .i .i64 a1], [] => listB (.int .i64) true v0 fun a0 => bindO (mesh_At.f k a0 a1) fun x : (List Int) => K (.own 0) [.row (.int .i64) x false] | _, _ => none⟩
theorem snd26 (k : Nat) : Sound Try.prog 26 (sp26 k) := by
  refine ⟨⟨Try.f26, rfl, by kernel_rfl, rfl⟩, fun args objs K r h => ?_⟩
  unfold sp26 at h; dsimp only at h; split at h
  · rename_i v0 a1
    obtain ⟨a0, h, ca0⟩ := listB_spec h
    obtain ⟨x, hx, h⟩ := bindO_some h
    exact ⟨_, _, h, FnOK.args2 (relL_c ca0 (relL_c rel_i relL_n)) (fn_run tab_ok (en26 k) mixed rfl ((r26 seals k a0 a1).trans (bindO_eq hx)))⟩
  · cases h
end Go.Vm

/- tile_times -/
namespace Go.Vm
open Go Go.Proofs Go.Pf
def lv17 : Live := look ⟨[], [], [], [], []⟩ []
noncomputable def g17 : FEnv := (fun _ => none)
theorem en17 : EnvOK Try.prog (g17) := (envOK_nil _)
set_option maxHeartbeats 4000000 in
theorem r17 (S : Seals) (k : Nat) (a0 : Int) (a1 : Int) (a2 : Int) : runF tt (g17) lv17 Try.f17 k [.i .i64 a0, .i .i64 a1, .i .i64 a2] [] = bindO (tile_times.f a0 a1 a2) (fun x : Int => some (.i .i64 x, [])) := by
  unfold tile_times.f; refine S.run_s rfl rfl ?_; conv => lhs; arg 5; whnf
  conv => lhs; arg 6; whnf
  repeat' first
    | refine S.seq_op rfl ?_; conv => lhs; whnf
    | refine S.op_n ?_; conv => lhs; whnf
    | refine S.seq_nil ?_
    | refine S.reg_n ?_
    | refine S.region rfl ?_
    | refine S.two ?_
    | refine S.blok ?_
    | refine S.cond rfl ?_
    | refine S.after_n ?_
    | refine S.block_n ?_
    | refine S.block_x ?_; conv => lhs; whnf
    | refine S.block_r ?_
    | refine S.after_x ?_
    | refine S.after_r ?_
    | refine S.skip ?_
    | refine S.exit ?_
    | refine S.ret ?_
    | refine br_lt ?_; conv => lhs; whnf
    | refine br_lf ?_; conv => lhs; whnf
    | refine br_t (by assumption) ?_; conv => lhs; whnf
    | refine br_f (by assumption) ?_; conv => lhs; whnf
    | refine req_i (by assumption) ?_; conv => lhs; whnf
    | (refine br_nd (fun _ => ?_) (fun _ => ?_) <;> conv => lhs; whnf)
    | (refine br_d (fun _ => ?_) (fun _ => ?_) <;> conv => lhs; whnf)
    | (refine br_n (fun _ => ?_) (fun _ => ?_) <;> conv => lhs; whnf)
    | (refine br_c (fun _ => ?_) (fun _ => ?_) <;> conv => lhs; whnf)
    | refine req_c fun _ => ?_; conv => lhs; whnf
    | refine bnd_c fun _ => ?_; conv => lhs; whnf
    | refine sum_c (fun _ => ?_) (fun _ => ?_)
    | refine S.loop ?_; conv => lhs; whnf
    | refine S.back_n ?_; conv => lhs; whnf
    | refine S.back_x ?_; conv => lhs; whnf
    | refine S.back_r ?_; conv => lhs; whnf
    | refine S.fin_r ?_; conv => lhs; whnf
    | refine S.fin_n ?_; conv => lhs; whnf
    | exact ret_c rfl
    | exact none_c
    | refine S.draw_op ?_; conv => lhs; whnf; arg 1; whnf
    | refine S.dk_n ?_; conv => lhs; whnf
    | refine S.draw_nil ?_; conv => lhs; whnf
    | refine andK_br ?_
    | refine andK_req ?_
    | refine andK_b ?_
def sp17 : FSpec := ⟨[.rd, .rd, .rd], fun args objs K => match args, objs with | [.i .i64 a0, .i .i64 a1, .i .i64 a2], [] => bindO (tile_times.f a0 a1 a2) fun x : Int => K (.i .i64 x) [] | _, _ => none⟩
theorem snd17 : Sound Try.prog 17 (sp17) := by
  refine ⟨⟨Try.f17, rfl, by kernel_rfl, rfl⟩, fun args objs K r h => ?_⟩
  unfold sp17 at h; dsimp only at h; split at h
  · rename_i a0 a1 a2
    obtain ⟨x, hx, h⟩ := bindO_some h
    exact ⟨_, _, h, FnOK.args2 (relL_c rel_i (relL_c rel_i (relL_c rel_i relL_n))) (fn_run tab_ok (en17) mixed rfl ((r17 seals 0 a0 a1 a2).trans (bindO_eq hx)))⟩
  · cases h
end Go.Vm

/- tile_Width -/
namespace Go.Vm
open Go Go.Proofs Go.Pf
def lv7 : Live := look ⟨[], [], [], [], []⟩ []
noncomputable def g7 : FEnv := (fun _ => none)
theorem en7 : EnvOK Try.prog (g7) := (envOK_nil _)
set_option maxHeartbeats 4000000 in
theorem r7 (S : Seals) (k : Nat) (a0 : Int) (a1 : Int) : runF tt (g7) lv7 Try.f7 k [.i .i64 a0, .i .i64 a1] [] = bindO (tile_Width.f a0 a1) (fun x : Int => some (.i .i64 x, [])) := by
  unfold tile_Width.f; refine S.run_s rfl rfl ?_; conv => lhs; arg 5; whnf
  conv => lhs; arg 6; whnf
  repeat' first
    | refine S.seq_op rfl ?_; conv => lhs; whnf
    | refine S.op_n ?_; conv => lhs; whnf
    | refine S.seq_nil ?_
    | refine S.reg_n ?_
    | refine S.region rfl ?_
    | refine S.two ?_
    | refine S.blok ?_
    | refine S.cond rfl ?_
    | refine S.after_n ?_
    | refine S.block_n ?_
    | refine S.block_x ?_; conv => lhs; whnf
    | refine S.block_r ?_
    | refine S.after_x ?_
    | refine S.after_r ?_
    | refine S.skip ?_
    | refine S.exit ?_
    | refine S.ret ?_
    | refine br_lt ?_; conv => lhs; whnf
    | refine br_lf ?_; conv => lhs; whnf
    | refine br_t (by assumption) ?_; conv => lhs; whnf
    | refine br_f (by assumption) ?_; conv => lhs; whnf
    | refine req_i (by assumption) ?_; conv => lhs; whnf
    | (refine br_nd (fun _ => ?_) (fun _ => ?_) <;> conv => lhs; whnf)
    | (refine br_d (fun _ => ?_) (fun _ => ?_) <;> conv => lhs; whnf)
    | (refine br_n (fun _ => ?_) (fun _ => ?_) <;> conv => lhs; whnf)
    | (refine br_c (fun _ => ?_) (fun _ => ?_) <;> conv => lhs; whnf)
    | refine req_c fun _ => ?_; conv => lhs; whnf
    | refine bnd_c fun _ => ?_; conv => lhs; whnf
    | refine sum_c (fun _ => ?_) (fun _ => ?_)
    | refine S.loop ?_; conv => lhs; whnf
    | refine S.back_n ?_; conv => lhs; whnf
    | refine S.back_x ?_; conv => lhs; whnf
    | refine S.back_r ?_; conv => lhs; whnf
    | refine S.fin_r ?_; conv => lhs; whnf
    | refine S.fin_n ?_; conv => lhs; whnf
    | exact ret_c rfl
    | exact none_c
    | refine S.draw_op ?_; conv => lhs; whnf; arg 1; whnf
    | refine S.dk_n ?_; conv => lhs; whnf
    | refine S.draw_nil ?_; conv => lhs; whnf
    | refine andK_br ?_
    | refine andK_req ?_
    | refine andK_b ?_
def sp7 : FSpec := ⟨[.rd, .rd], fun args objs K => match args, objs with | [.i .i64 a0, .i .i64 a1], [] => bindO (tile_Width.f a0 a1) fun x : Int => K (.i .i64 x) [] | _, _ => none⟩
theorem snd7 : Sound Try.prog 7 (sp7) := by
  refine ⟨⟨Try.f7, rfl, by kernel_rfl, rfl⟩, fun args objs K r h => ?_⟩
  unfold sp7 at h; dsimp only at h; split at h
  · rename_i a0 a1
    obtain ⟨x, hx, h⟩ := bindO_some h
    exact ⟨_, _, h, FnOK.args2 (relL_c rel_i (relL_c rel_i relL_n)) (fn_run tab_ok (en7) mixed rfl ((r7 seals 0 a0 a1).trans (bindO_eq hx)))⟩
  · cases h
end Go.Vm

/- tile_Cut -/
namespace Go.Vm
open Go Go.Proofs Go.Pf
def lv6 : Live := look ⟨[], [], [], [], []⟩ []
noncomputable def g6 : FEnv := (addF 17 sp17 (addF 7 sp7 (fun _ => none)))
theorem en6 : EnvOK Try.prog (g6) := (envOK_add snd17 (envOK_add snd7 (envOK_nil _)))
set_option maxHeartbeats 4000000 in
theorem r6 (S : Seals) (k : Nat) (a0 : Int) (a1 : Int) (a2 : Int) : runF tt (g6) lv6 Try.f6 k [.i .i64 a0, .i .i64 a1, .i .i64 a2] [] = bindO (tile_Cut.f a0 a1 a2) (fun x : Int × Int => some (.tup [.i .i64 x.1, .i .i64 x.2], [])) := by
  unfold tile_Cut.f; refine S.run_s rfl rfl ?_; conv => lhs; arg 5; whnf
  conv => lhs; arg 6; whnf
  repeat' first
    | refine S.seq_op rfl ?_; conv => lhs; whnf
    | refine S.op_n ?_; conv => lhs; whnf
    | refine S.seq_nil ?_
    | refine S.reg_n ?_
    | refine S.region rfl ?_
    | refine S.two ?_
    | refine S.blok ?_
    | refine S.cond rfl ?_
    | refine S.after_n ?_
    | refine S.block_n ?_
    | refine S.block_x ?_; conv => lhs; whnf
    | refine S.block_r ?_
    | refine S.after_x ?_
    | refine S.after_r ?_
    | refine S.skip ?_
    | refine S.exit ?_
    | refine S.ret ?_
    | refine br_lt ?_; conv => lhs; whnf
    | refine br_lf ?_; conv => lhs; whnf
    | refine br_t (by assumption) ?_; conv => lhs; whnf
    | refine br_f (by assumption) ?_; conv => lhs; whnf
    | refine req_i (by assumption) ?_; conv => lhs; whnf
    | (refine br_nd (fun _ => ?_) (fun _ => ?_) <;> conv => lhs; whnf)
    | (refine br_d (fun _ => ?_) (fun _ => ?_) <;> conv => lhs; whnf)
    | (refine br_n (fun _ => ?_) (fun _ => ?_) <;> conv => lhs; whnf)
    | (refine br_c (fun _ => ?_) (fun _ => ?_) <;> conv => lhs; whnf)
    | refine req_c fun _ => ?_; conv => lhs; whnf
    | refine bnd_c fun _ => ?_; conv => lhs; whnf
    | refine sum_c (fun _ => ?_) (fun _ => ?_)
    | refine S.loop ?_; conv => lhs; whnf
    | refine S.back_n ?_; conv => lhs; whnf
    | refine S.back_x ?_; conv => lhs; whnf
    | refine S.back_r ?_; conv => lhs; whnf
    | refine S.fin_r ?_; conv => lhs; whnf
    | refine S.fin_n ?_; conv => lhs; whnf
    | exact ret_c rfl
    | exact none_c
    | refine S.draw_op ?_; conv => lhs; whnf; arg 1; whnf
    | refine S.dk_n ?_; conv => lhs; whnf
    | refine S.draw_nil ?_; conv => lhs; whnf
    | refine andK_br ?_
    | refine andK_req ?_
    | refine andK_b ?_
def sp6 : FSpec := ⟨[.rd, .rd, .rd], fun args objs K => match args, objs with | [.i .i64 a0, .i .i64 a1, .i .i64 a2], [] => bindO (tile_Cut.f a0 a1 a2) fun x : Int × Int => K (.tup [.i .i64 x.1, .i .i64 x.2]) [] | _, _ => none⟩
theorem snd6 : Sound Try.prog 6 (sp6) := by
  refine ⟨⟨Try.f6, rfl, by kernel_rfl, rfl⟩, fun args objs K r h => ?_⟩
  unfold sp6 at h; dsimp only at h; split at h
  · rename_i a0 a1 a2
    obtain ⟨x, hx, h⟩ := bindO_some h
    exact ⟨_, _, h, FnOK.args2 (relL_c rel_i (relL_c rel_i (relL_c rel_i relL_n))) (fn_run tab_ok (en6) mixed rfl ((r6 seals 0 a0 a1 a2).trans (bindO_eq hx)))⟩
  · cases h
end Go.Vm

/- tile_cuts -/
namespace Go.Vm
open Go Go.Proofs Go.Pf
def lv20 : Live := look ⟨[], [], [], [], []⟩ [(6, ⟨[0, 1, 10, 11, 39, 40, 41], [11], [8, 9], [(11, 0, .own (.pair (.int .i64) (.int .i64)))], []⟩), (1000000, ⟨[], [], [], [(8, 0, .own (.pair (.int .i64) (.int .i64)))], []⟩)]
noncomputable def g20 (k : Nat) : FEnv := (addF 6 sp6 (addF 26 (sp26 k) (addF 25 (sp25 k) (addF 24 (sp24 k) (addF 23 (sp23 k) (fun _ => none))))))
theorem en20 (k : Nat) : EnvOK Try.prog (g20 k) := (envOK_add snd6 (envOK_add (snd26 k) (envOK_add (snd25 k) (envOK_add (snd24 k) (envOK_add (snd23 k) (envOK_nil _))))))
set_option maxHeartbeats 4000000 in
theorem w20_0 (S : Seals) (k : Nat) : ∀ (n : Nat) {x0 : List Int} {x1 : List Int} {x39 : List Int} {x40 : Int} {x41 : Int} {y0 : List Int} {y1 : List (Int × Int)} {K : CK}, S.lp tt (g20 k) lv20 0 n (loopN Try.f20 0) ⟨[(0, .dat (.int .i64) x0 true), (1, .dat (.int .i64) x1 true), (10, .own 0), (11, .own 1), (39, .dat (.int .i64) x39 true), (40, .i .i64 x40), (41, .i .i64 x41)], [(0, .row (.int .i64) y0 false), (1, .row (.pair (.int .i64) (.int .i64)) y1 false)], 2, 77⟩ K = bindO (tile_cuts.l0 n x0 x1 x39 x40 x41 y0 y1) (fun x : (List (Int × Int)) => K (.exit 0) ⟨[(11, .own 0)], [(0, .row (.pair (.int .i64) (.int .i64)) x false)], 1, 77⟩) := by
  intro n; induction n with
  | zero => intros; rw [S.lp_zero]; exact none_c
  | succ n ih =>
    intros; rw [tile_cuts.l0]; refine S.lp_succ ?_; conv => lhs; arg 5; whnf
    repeat' first
      | refine S.seq_op rfl ?_; conv => lhs; whnf
      | refine S.op_n ?_; conv => lhs; whnf
      | refine S.seq_nil ?_
      | refine S.reg_n ?_
      | refine S.region rfl ?_
      | refine S.two ?_
      | refine S.blok ?_
      | refine S.cond rfl ?_
      | refine S.after_n ?_
      | refine S.block_n ?_
      | refine S.block_x ?_; conv => lhs; whnf
      | refine S.block_r ?_
      | refine S.after_x ?_
      | refine S.after_r ?_
      | refine S.skip ?_
      | refine S.exit ?_
      | refine S.ret ?_
      | refine br_lt ?_; conv => lhs; whnf
      | refine br_lf ?_; conv => lhs; whnf
      | refine br_t (by assumption) ?_; conv => lhs; whnf
      | refine br_f (by assumption) ?_; conv => lhs; whnf
      | refine req_i (by assumption) ?_; conv => lhs; whnf
      | (refine br_nd (fun _ => ?_) (fun _ => ?_) <;> conv => lhs; whnf)
      | (refine br_d (fun _ => ?_) (fun _ => ?_) <;> conv => lhs; whnf)
      | (refine br_n (fun _ => ?_) (fun _ => ?_) <;> conv => lhs; whnf)
      | (refine br_c (fun _ => ?_) (fun _ => ?_) <;> conv => lhs; whnf)
      | refine req_c fun _ => ?_; conv => lhs; whnf
      | refine bnd_c fun _ => ?_; conv => lhs; whnf
      | refine sum_c (fun _ => ?_) (fun _ => ?_)
      | refine S.region_d (id := 10) (ds := [0, 0, 3, 7, 0, 0, 48, 112, 0, 0, 768, 1792, 4095, 8191, 16383, 16383, 32767, 98303, 262143, 524287]) (mds := [[], [], [], [], [], [], [], [], [], [], [], [], [], [], [], [], [], [2], [], [2]]) (hm := [(17, [2]), (19, [2])]) (by kernel_rfl) (by kernel_rfl) rfl rfl ?_
      | exact ih
      | refine S.loop ?_; conv => lhs; whnf
      | refine S.back_n ?_; conv => lhs; whnf
      | refine S.back_x ?_; conv => lhs; whnf
      | refine S.back_r ?_; conv => lhs; whnf
      | refine S.fin_r ?_; conv => lhs; whnf
      | refine S.fin_n ?_; conv => lhs; whnf
      | exact ret_c rfl
      | exact none_c
      | refine S.draw_op ?_; conv => lhs; whnf; arg 1; whnf
      | refine S.dk_n ?_; conv => lhs; whnf
      | refine S.draw_nil ?_; conv => lhs; whnf
      | refine andK_br ?_
      | refine andK_req ?_
      | refine andK_b ?_
set_option maxHeartbeats 4000000 in
theorem r20 (S : Seals) (k : Nat) (a0 : List Int) (a1 : List Int) (a2 : List Int) (a3 : Int) : runF tt (g20 k) lv20 Try.f20 k [.dat (.int .i64) a0 true, .dat (.int .i64) a1 true, .dat (.int .i64) a2 true, .i .i64 a3] [] = bindO (tile_cuts.f k a0 a1 a2 a3) (fun x : Bool × (List (Int × Int)) => some (.tup [.own 0, .b x.1], [.row (.pair (.int .i64) (.int .i64)) x.2 false])) := by
  unfold tile_cuts.f; refine S.run_s rfl rfl ?_; conv => lhs; arg 5; whnf
  conv => lhs; arg 6; whnf
  repeat' first
    | refine S.seq_op rfl ?_; conv => lhs; whnf
    | refine S.op_n ?_; conv => lhs; whnf
    | refine S.seq_nil ?_
    | refine S.reg_n ?_
    | refine S.region rfl ?_
    | refine S.two ?_
    | refine S.blok ?_
    | refine S.cond rfl ?_
    | refine S.after_n ?_
    | refine S.block_n ?_
    | refine S.block_x ?_; conv => lhs; whnf
    | refine S.block_r ?_
    | refine S.after_x ?_
    | refine S.after_r ?_
    | refine S.skip ?_
    | refine S.exit ?_
    | refine S.ret ?_
    | refine br_lt ?_; conv => lhs; whnf
    | refine br_lf ?_; conv => lhs; whnf
    | refine br_t (by assumption) ?_; conv => lhs; whnf
    | refine br_f (by assumption) ?_; conv => lhs; whnf
    | refine req_i (by assumption) ?_; conv => lhs; whnf
    | (refine br_nd (fun _ => ?_) (fun _ => ?_) <;> conv => lhs; whnf)
    | (refine br_d (fun _ => ?_) (fun _ => ?_) <;> conv => lhs; whnf)
    | (refine br_n (fun _ => ?_) (fun _ => ?_) <;> conv => lhs; whnf)
    | (refine br_c (fun _ => ?_) (fun _ => ?_) <;> conv => lhs; whnf)
    | refine req_c fun _ => ?_; conv => lhs; whnf
    | refine bnd_c fun _ => ?_; conv => lhs; whnf
    | refine sum_c (fun _ => ?_) (fun _ => ?_)
    | refine (w20_0 S k _).trans ?_
    | refine S.loop ?_; conv => lhs; whnf
    | refine S.back_n ?_; conv => lhs; whnf
    | refine S.back_x ?_; conv => lhs; whnf
    | refine S.back_r ?_; conv => lhs; whnf
    | refine S.fin_r ?_; conv => lhs; whnf
    | refine S.fin_n ?_; conv => lhs; whnf
    | exact ret_c rfl
    | exact none_c
    | refine S.draw_op ?_; conv => lhs; whnf; arg 1; whnf
    | refine S.dk_n ?_; conv => lhs; whnf
    | refine S.draw_nil ?_; conv => lhs; whnf
    | refine andK_br ?_
    | refine andK_req ?_
    | refine andK_b ?_
def sp20 (k : Nat) : FSpec := ⟨[.rd, .rd, .rd, .rd], fun args objs K => match args, objs with | [v0, v1, v2, .i .i64 a3], [] => listB (.int .i64) true v0 fun a0 => listB (.int .i64) true v1 fun a1 => listB (.int .i64) true v2 fun a2 => bindO (tile_cuts.f k a0 a1 a2 a3) fun x : Bool × (List (Int × Int)) => K (.tup [.own 0, .b x.1]) [.row (.pair (.int .i64) (.int .i64)) x.2 false] | _, _ => none⟩
theorem snd20 (k : Nat) : Sound Try.prog 20 (sp20 k) := by
  refine ⟨⟨Try.f20, rfl, by kernel_rfl, rfl⟩, fun args objs K r h => ?_⟩
  unfold sp20 at h; dsimp only at h; split at h
  · rename_i v0 v1 v2 a3
    obtain ⟨a0, h, ca0⟩ := listB_spec h
    obtain ⟨a1, h, ca1⟩ := listB_spec h
    obtain ⟨a2, h, ca2⟩ := listB_spec h
    obtain ⟨x, hx, h⟩ := bindO_some h
    exact ⟨_, _, h, FnOK.args2 (relL_c ca0 (relL_c ca1 (relL_c ca2 (relL_c rel_i relL_n)))) (fn_run tab_ok (en20 k) mixed rfl ((r20 seals k a0 a1 a2 a3).trans (bindO_eq hx)))⟩
  · cases h
end Go.Vm

/- tile_Size -/
namespace Go.Vm
open Go Go.Proofs Go.Pf
def lv14 : Live := look ⟨[], [], [], [], []⟩ [(4, ⟨[11, 22, 23, 24], [11], [8], [(11, 0, .own (.int .i64))], []⟩)]
noncomputable def g14 (k : Nat) : FEnv := (addF 20 (sp20 k) (fun _ => none))
theorem en14 (k : Nat) : EnvOK Try.prog (g14 k) := (envOK_add (snd20 k) (envOK_nil _))
set_option maxHeartbeats 4000000 in
theorem w14_0 (S : Seals) (k : Nat) : ∀ (n : Nat) {x23 : Int} {x24 : Int} {y0 : List Int} {y1 : List (Int × Int)} {K : CK}, S.lp tt (g14 k) lv14 0 n (loopN Try.f14 0) ⟨[(11, .own 0), (22, .own 1), (23, .i .i64 x23), (24, .i .i64 x24)], [(0, .row (.int .i64) y0 false), (1, .row (.pair (.int .i64) (.int .i64)) y1 false)], 2, 38⟩ K = bindO (tile_Size.l0 n x23 x24 y0 y1) (fun x : (List Int) => K (.exit 0) ⟨[(11, .own 0)], [(0, .row (.int .i64) x false)], 1, 38⟩) := by
  intro n; induction n with
  | zero => intros; rw [S.lp_zero]; exact none_c
  | succ n ih =>
    intros; rw [tile_Size.l0]; refine S.lp_succ ?_; conv => lhs; arg 5; whnf
    repeat' first
      | refine S.seq_op rfl ?_; conv => lhs; whnf
      | refine S.op_n ?_; conv => lhs; whnf
      | refine S.seq_nil ?_
      | refine S.reg_n ?_
      | refine S.region rfl ?_
      | refine S.two ?_
      | refine S.blok ?_
      | refine S.cond rfl ?_
      | refine S.after_n ?_
      | refine S.block_n ?_
      | refine S.block_x ?_; conv => lhs; whnf
      | refine S.block_r ?_
      | refine S.after_x ?_
      | refine S.after_r ?_
      | refine S.skip ?_
      | refine S.exit ?_
      | refine S.ret ?_
      | refine br_lt ?_; conv => lhs; whnf
      | refine br_lf ?_; conv => lhs; whnf
      | refine br_t (by assumption) ?_; conv => lhs; whnf
      | refine br_f (by assumption) ?_; conv => lhs; whnf
      | refine req_i (by assumption) ?_; conv => lhs; whnf
      | (refine br_nd (fun _ => ?_) (fun _ => ?_) <;> conv => lhs; whnf)
      | (refine br_d (fun _ => ?_) (fun _ => ?_) <;> conv => lhs; whnf)
      | (refine br_n (fun _ => ?_) (fun _ => ?_) <;> conv => lhs; whnf)
      | (refine br_c (fun _ => ?_) (fun _ => ?_) <;> conv => lhs; whnf)
      | refine req_c fun _ => ?_; conv => lhs; whnf
      | refine bnd_c fun _ => ?_; conv => lhs; whnf
      | refine sum_c (fun _ => ?_) (fun _ => ?_)
      | exact ih
      | refine S.loop ?_; conv => lhs; whnf
      | refine S.back_n ?_; conv => lhs; whnf
      | refine S.back_x ?_; conv => lhs; whnf
      | refine S.back_r ?_; conv => lhs; whnf
      | refine S.fin_r ?_; conv => lhs; whnf
      | refine S.fin_n ?_; conv => lhs; whnf
      | exact ret_c rfl
      | exact none_c
      | refine S.draw_op ?_; conv => lhs; whnf; arg 1; whnf
      | refine S.dk_n ?_; conv => lhs; whnf
      | refine S.draw_nil ?_; conv => lhs; whnf
      | refine andK_br ?_
      | refine andK_req ?_
      | refine andK_b ?_
set_option maxHeartbeats 4000000 in
theorem r14 (S : Seals) (k : Nat) (a0 : List Int) (a1 : List Int) (a2 : List Int) (a3 : Int) : runF tt (g14 k) lv14 Try.f14 k [.dat (.int .i64) a0 true, .dat (.int .i64) a1 true, .dat (.int .i64) a2 true, .i .i64 a3] [] = bindO (tile_Size.f k a0 a1 a2 a3) (fun x : (List Int) => some (.own 0, [.row (.int .i64) x false])) := by
  unfold tile_Size.f; refine S.run_s rfl rfl ?_; conv => lhs; arg 5; whnf
  conv => lhs; arg 6; whnf
  repeat' first
    | refine S.seq_op rfl ?_; conv => lhs; whnf
    | refine S.op_n ?_; conv => lhs; whnf
    | refine S.seq_nil ?_
    | refine S.reg_n ?_
    | refine S.region rfl ?_
    | refine S.two ?_
    | refine S.blok ?_
    | refine S.cond rfl ?_
    | refine S.after_n ?_
    | refine S.block_n ?_
    | refine S.block_x ?_; conv => lhs; whnf
    | refine S.block_r ?_
    | refine S.after_x ?_
    | refine S.after_r ?_
    | refine S.skip ?_
    | refine S.exit ?_
    | refine S.ret ?_
    | refine br_lt ?_; conv => lhs; whnf
    | refine br_lf ?_; conv => lhs; whnf
    | refine br_t (by assumption) ?_; conv => lhs; whnf
    | refine br_f (by assumption) ?_; conv => lhs; whnf
    | refine req_i (by assumption) ?_; conv => lhs; whnf
    | (refine br_nd (fun _ => ?_) (fun _ => ?_) <;> conv => lhs; whnf)
    | (refine br_d (fun _ => ?_) (fun _ => ?_) <;> conv => lhs; whnf)
    | (refine br_n (fun _ => ?_) (fun _ => ?_) <;> conv => lhs; whnf)
    | (refine br_c (fun _ => ?_) (fun _ => ?_) <;> conv => lhs; whnf)
    | refine req_c fun _ => ?_; conv => lhs; whnf
    | refine bnd_c fun _ => ?_; conv => lhs; whnf
    | refine sum_c (fun _ => ?_) (fun _ => ?_)
    | refine (w14_0 S k _).trans ?_
    | refine S.loop ?_; conv => lhs; whnf
    | refine S.back_n ?_; conv => lhs; whnf
    | refine S.back_x ?_; conv => lhs; whnf
    | refine S.back_r ?_; conv => lhs; whnf
    | refine S.fin_r ?_; conv => lhs; whnf
    | refine S.fin_n ?_; conv => lhs; whnf
    | exact ret_c rfl
    | exact none_c
    | refine S.draw_op ?_; conv => lhs; whnf; arg 1; whnf
    | refine S.dk_n ?_; conv => lhs; whnf
    | refine S.draw_nil ?_; conv => lhs; whnf
    | refine andK_br ?_
    | refine andK_req ?_
    | refine andK_b ?_
def sp14 (k : Nat) : FSpec := ⟨[.rd, .rd, .rd, .rd], fun args objs K => match args, objs with | [v0, v1, v2, .i .i64 a3], [] => listB (.int .i64) true v0 fun a0 => listB (.int .i64) true v1 fun a1 => listB (.int .i64) true v2 fun a2 => bindO (tile_Size.f k a0 a1 a2 a3) fun x : (List Int) => K (.own 0) [.row (.int .i64) x false] | _, _ => none⟩
theorem snd14 (k : Nat) : Sound Try.prog 14 (sp14 k) := by
  refine ⟨⟨Try.f14, rfl, by kernel_rfl, rfl⟩, fun args objs K r h => ?_⟩
  unfold sp14 at h; dsimp only at h; split at h
  · rename_i v0 v1 v2 a3
    obtain ⟨a0, h, ca0⟩ := listB_spec h
    obtain ⟨a1, h, ca1⟩ := listB_spec h
    obtain ⟨a2, h, ca2⟩ := listB_spec h
    obtain ⟨x, hx, h⟩ := bindO_some h
    exact ⟨_, _, h, FnOK.args2 (relL_c ca0 (relL_c ca1 (relL_c ca2 (relL_c rel_i relL_n)))) (fn_run tab_ok (en14 k) mixed rfl ((r14 seals k a0 a1 a2 a3).trans (bindO_eq hx)))⟩
  · cases h
end Go.Vm

/- tile_Most -/
namespace Go.Vm
open Go Go.Proofs Go.Pf
def lv12 : Live := look ⟨[], [], [], [], []⟩ []
noncomputable def g12 (k : Nat) : FEnv := (addF 14 (sp14 k) (fun _ => none))
theorem en12 (k : Nat) : EnvOK Try.prog (g12 k) := (envOK_add (snd14 k) (envOK_nil _))
set_option maxHeartbeats 4000000 in
theorem r12 (S : Seals) (k : Nat) (a0 : List Int) (a1 : List Int) (a2 : List Int) : runF tt (g12 k) lv12 Try.f12 k [.dat (.int .i64) a0 true, .dat (.int .i64) a1 true, .dat (.int .i64) a2 true] [] = bindO (tile_Most.f k a0 a1 a2) (fun x : (List Int) => some (.own 0, [.row (.int .i64) x false])) := by
  unfold tile_Most.f; refine S.run_s rfl rfl ?_; conv => lhs; arg 5; whnf
  conv => lhs; arg 6; whnf
  repeat' first
    | refine S.seq_op rfl ?_; conv => lhs; whnf
    | refine S.op_n ?_; conv => lhs; whnf
    | refine S.seq_nil ?_
    | refine S.reg_n ?_
    | refine S.region rfl ?_
    | refine S.two ?_
    | refine S.blok ?_
    | refine S.cond rfl ?_
    | refine S.after_n ?_
    | refine S.block_n ?_
    | refine S.block_x ?_; conv => lhs; whnf
    | refine S.block_r ?_
    | refine S.after_x ?_
    | refine S.after_r ?_
    | refine S.skip ?_
    | refine S.exit ?_
    | refine S.ret ?_
    | refine br_lt ?_; conv => lhs; whnf
    | refine br_lf ?_; conv => lhs; whnf
    | refine br_t (by assumption) ?_; conv => lhs; whnf
    | refine br_f (by assumption) ?_; conv => lhs; whnf
    | refine req_i (by assumption) ?_; conv => lhs; whnf
    | (refine br_nd (fun _ => ?_) (fun _ => ?_) <;> conv => lhs; whnf)
    | (refine br_d (fun _ => ?_) (fun _ => ?_) <;> conv => lhs; whnf)
    | (refine br_n (fun _ => ?_) (fun _ => ?_) <;> conv => lhs; whnf)
    | (refine br_c (fun _ => ?_) (fun _ => ?_) <;> conv => lhs; whnf)
    | refine req_c fun _ => ?_; conv => lhs; whnf
    | refine bnd_c fun _ => ?_; conv => lhs; whnf
    | refine sum_c (fun _ => ?_) (fun _ => ?_)
    | refine S.loop ?_; conv => lhs; whnf
    | refine S.back_n ?_; conv => lhs; whnf
    | refine S.back_x ?_; conv => lhs; whnf
    | refine S.back_r ?_; conv => lhs; whnf
    | refine S.fin_r ?_; conv => lhs; whnf
    | refine S.fin_n ?_; conv => lhs; whnf
    | exact ret_c rfl
    | exact none_c
    | refine S.draw_op ?_; conv => lhs; whnf; arg 1; whnf
    | refine S.dk_n ?_; conv => lhs; whnf
    | refine S.draw_nil ?_; conv => lhs; whnf
    | refine andK_br ?_
    | refine andK_req ?_
    | refine andK_b ?_
def sp12 (k : Nat) : FSpec := ⟨[.rd, .rd, .rd], fun args objs K => match args, objs with | [v0, v1, v2], [] => listB (.int .i64) true v0 fun a0 => listB (.int .i64) true v1 fun a1 => listB (.int .i64) true v2 fun a2 => bindO (tile_Most.f k a0 a1 a2) fun x : (List Int) => K (.own 0) [.row (.int .i64) x false] | _, _ => none⟩
theorem snd12 (k : Nat) : Sound Try.prog 12 (sp12 k) := by
  refine ⟨⟨Try.f12, rfl, by kernel_rfl, rfl⟩, fun args objs K r h => ?_⟩
  unfold sp12 at h; dsimp only at h; split at h
  · rename_i v0 v1 v2
    obtain ⟨a0, h, ca0⟩ := listB_spec h
    obtain ⟨a1, h, ca1⟩ := listB_spec h
    obtain ⟨a2, h, ca2⟩ := listB_spec h
    obtain ⟨x, hx, h⟩ := bindO_some h
    exact ⟨_, _, h, FnOK.args2 (relL_c ca0 (relL_c ca1 (relL_c ca2 relL_n))) (fn_run tab_ok (en12 k) mixed rfl ((r12 seals k a0 a1 a2).trans (bindO_eq hx)))⟩
  · cases h
end Go.Vm

/- ref14_Right -/
namespace Go.Vm
open Go Go.Proofs Go.Pf
def lv19 : Live := look ⟨[], [], [], [], []⟩ [(3, ⟨[0, 3, 6, 7], [3], [2], [], []⟩)]
noncomputable def g19 : FEnv := (fun _ => none)
theorem en19 : EnvOK Try.prog (g19) := (envOK_nil _)
set_option maxHeartbeats 4000000 in
theorem w19_0 (S : Seals) (k : Nat) : ∀ (n : Nat) {x0 : List Int} {x3 : Int} {x6 : Int} {x7 : Int} {K : CK}, S.lp tt (g19) lv19 0 n (loopN Try.f19 0) ⟨[(0, .dat (.int .i64) x0 true), (3, .i .i64 x3), (6, .i .i64 x6), (7, .i .i64 x7)], [], 0, 35⟩ K = bindO (ref14_Right.l0 n x0 x3 x6 x7) (Sum.elim (fun x : Int => K (.exit 0) ⟨[(3, .i .i64 x)], [], 0, 35⟩) (fun x : Bool => K .ret ⟨[(2, .b x)], [], 0, 35⟩)) := by
  intro n; induction n with
  | zero => intros; rw [S.lp_zero]; exact none_c
  | succ n ih =>
    intros; rw [ref14_Right.l0]; refine S.lp_succ ?_; conv => lhs; arg 5; whnf
    repeat' first
      | refine S.seq_op rfl ?_; conv => lhs; whnf
      | refine S.op_n ?_; conv => lhs; whnf
      | refine S.seq_nil ?_
      | refine S.reg_n ?_
      | refine S.region rfl ?_
      | refine S.two ?_
      | refine S.blok ?_
      | refine S.cond rfl ?_
      | refine S.after_n ?_
      | refine S.block_n ?_
      | refine S.block_x ?_; conv => lhs; whnf
      | refine S.block_r ?_
      | refine S.after_x ?_
      | refine S.after_r ?_
      | refine S.skip ?_
      | refine S.exit ?_
      | refine S.ret ?_
      | refine br_lt ?_; conv => lhs; whnf
      | refine br_lf ?_; conv => lhs; whnf
      | refine br_t (by assumption) ?_; conv => lhs; whnf
      | refine br_f (by assumption) ?_; conv => lhs; whnf
      | refine req_i (by assumption) ?_; conv => lhs; whnf
      | (refine br_nd (fun _ => ?_) (fun _ => ?_) <;> conv => lhs; whnf)
      | (refine br_d (fun _ => ?_) (fun _ => ?_) <;> conv => lhs; whnf)
      | (refine br_n (fun _ => ?_) (fun _ => ?_) <;> conv => lhs; whnf)
      | (refine br_c (fun _ => ?_) (fun _ => ?_) <;> conv => lhs; whnf)
      | refine req_c fun _ => ?_; conv => lhs; whnf
      | refine bnd_c fun _ => ?_; conv => lhs; whnf
      | refine sum_c (fun _ => ?_) (fun _ => ?_)
      | exact ih
      | refine S.loop ?_; conv => lhs; whnf
      | refine S.back_n ?_; conv => lhs; whnf
      | refine S.back_x ?_; conv => lhs; whnf
      | refine S.back_r ?_; conv => lhs; whnf
      | refine S.fin_r ?_; conv => lhs; whnf
      | refine S.fin_n ?_; conv => lhs; whnf
      | exact ret_c rfl
      | exact none_c
      | refine S.draw_op ?_; conv => lhs; whnf; arg 1; whnf
      | refine S.dk_n ?_; conv => lhs; whnf
      | refine S.draw_nil ?_; conv => lhs; whnf
      | refine andK_br ?_
      | refine andK_req ?_
      | refine andK_b ?_
set_option maxHeartbeats 4000000 in
theorem r19 (S : Seals) (k : Nat) (a0 : List Int) : runF tt (g19) lv19 Try.f19 k [.dat (.int .i64) a0 true] [] = bindO (ref14_Right.f k a0) (fun x : Bool => some (.b x, [])) := by
  unfold ref14_Right.f; refine S.run_s rfl rfl ?_; conv => lhs; arg 5; whnf
  conv => lhs; arg 6; whnf
  repeat' first
    | refine S.seq_op rfl ?_; conv => lhs; whnf
    | refine S.op_n ?_; conv => lhs; whnf
    | refine S.seq_nil ?_
    | refine S.reg_n ?_
    | refine S.region rfl ?_
    | refine S.two ?_
    | refine S.blok ?_
    | refine S.cond rfl ?_
    | refine S.after_n ?_
    | refine S.block_n ?_
    | refine S.block_x ?_; conv => lhs; whnf
    | refine S.block_r ?_
    | refine S.after_x ?_
    | refine S.after_r ?_
    | refine S.skip ?_
    | refine S.exit ?_
    | refine S.ret ?_
    | refine br_lt ?_; conv => lhs; whnf
    | refine br_lf ?_; conv => lhs; whnf
    | refine br_t (by assumption) ?_; conv => lhs; whnf
    | refine br_f (by assumption) ?_; conv => lhs; whnf
    | refine req_i (by assumption) ?_; conv => lhs; whnf
    | (refine br_nd (fun _ => ?_) (fun _ => ?_) <;> conv => lhs; whnf)
    | (refine br_d (fun _ => ?_) (fun _ => ?_) <;> conv => lhs; whnf)
    | (refine br_n (fun _ => ?_) (fun _ => ?_) <;> conv => lhs; whnf)
    | (refine br_c (fun _ => ?_) (fun _ => ?_) <;> conv => lhs; whnf)
    | refine req_c fun _ => ?_; conv => lhs; whnf
    | refine bnd_c fun _ => ?_; conv => lhs; whnf
    | refine sum_c (fun _ => ?_) (fun _ => ?_)
    | refine (w19_0 S k _).trans ?_
    | refine S.loop ?_; conv => lhs; whnf
    | refine S.back_n ?_; conv => lhs; whnf
    | refine S.back_x ?_; conv => lhs; whnf
    | refine S.back_r ?_; conv => lhs; whnf
    | refine S.fin_r ?_; conv => lhs; whnf
    | refine S.fin_n ?_; conv => lhs; whnf
    | exact ret_c rfl
    | exact none_c
    | refine S.draw_op ?_; conv => lhs; whnf; arg 1; whnf
    | refine S.dk_n ?_; conv => lhs; whnf
    | refine S.draw_nil ?_; conv => lhs; whnf
    | refine andK_br ?_
    | refine andK_req ?_
    | refine andK_b ?_
def sp19 (k : Nat) : FSpec := ⟨[.rd], fun args objs K => match args, objs with | [v0], [] => listB (.int .i64) true v0 fun a0 => bindO (ref14_Right.f k a0) fun x : Bool => K (.b x) [] | _, _ => none⟩
theorem snd19 (k : Nat) : Sound Try.prog 19 (sp19 k) := by
  refine ⟨⟨Try.f19, rfl, by kernel_rfl, rfl⟩, fun args objs K r h => ?_⟩
  unfold sp19 at h; dsimp only at h; split at h
  · rename_i v0
    obtain ⟨a0, h, ca0⟩ := listB_spec h
    obtain ⟨x, hx, h⟩ := bindO_some h
    exact ⟨_, _, h, FnOK.args2 (relL_c ca0 relL_n) (fn_run tab_ok (en19) mixed rfl ((r19 seals k a0).trans (bindO_eq hx)))⟩
  · cases h
end Go.Vm

/- ref14_Devices -/
namespace Go.Vm
open Go Go.Proofs Go.Pf
def lv13 : Live := look ⟨[], [], [], [], []⟩ [(5, ⟨[0, 3, 9, 10], [3], [2], [], []⟩)]
noncomputable def g13 (k : Nat) : FEnv := (addF 19 (sp19 k) (fun _ => none))
theorem en13 (k : Nat) : EnvOK Try.prog (g13 k) := (envOK_add (snd19 k) (envOK_nil _))
set_option maxHeartbeats 4000000 in
theorem w13_0 (S : Seals) (k : Nat) : ∀ (n : Nat) {x0 : List Int} {x3 : Int} {x9 : Int} {x10 : Int} {K : CK}, S.lp tt (g13 k) lv13 0 n (loopN Try.f13 0) ⟨[(0, .dat (.int .i64) x0 true), (3, .i .i64 x3), (9, .i .i64 x9), (10, .i .i64 x10)], [], 0, 21⟩ K = bindO (ref14_Devices.l0 n x0 x3 x9 x10) (fun x : Int => K (.exit 0) ⟨[(3, .i .i64 x)], [], 0, 21⟩) := by
  intro n; induction n with
  | zero => intros; rw [S.lp_zero]; exact none_c
  | succ n ih =>
    intros; rw [ref14_Devices.l0]; refine S.lp_succ ?_; conv => lhs; arg 5; whnf
    repeat' first
      | refine S.seq_op rfl ?_; conv => lhs; whnf
      | refine S.op_n ?_; conv => lhs; whnf
      | refine S.seq_nil ?_
      | refine S.reg_n ?_
      | refine S.region rfl ?_
      | refine S.two ?_
      | refine S.blok ?_
      | refine S.cond rfl ?_
      | refine S.after_n ?_
      | refine S.block_n ?_
      | refine S.block_x ?_; conv => lhs; whnf
      | refine S.block_r ?_
      | refine S.after_x ?_
      | refine S.after_r ?_
      | refine S.skip ?_
      | refine S.exit ?_
      | refine S.ret ?_
      | refine br_lt ?_; conv => lhs; whnf
      | refine br_lf ?_; conv => lhs; whnf
      | refine br_t (by assumption) ?_; conv => lhs; whnf
      | refine br_f (by assumption) ?_; conv => lhs; whnf
      | refine req_i (by assumption) ?_; conv => lhs; whnf
      | (refine br_nd (fun _ => ?_) (fun _ => ?_) <;> conv => lhs; whnf)
      | (refine br_d (fun _ => ?_) (fun _ => ?_) <;> conv => lhs; whnf)
      | (refine br_n (fun _ => ?_) (fun _ => ?_) <;> conv => lhs; whnf)
      | (refine br_c (fun _ => ?_) (fun _ => ?_) <;> conv => lhs; whnf)
      | refine req_c fun _ => ?_; conv => lhs; whnf
      | refine bnd_c fun _ => ?_; conv => lhs; whnf
      | refine sum_c (fun _ => ?_) (fun _ => ?_)
      | exact ih
      | refine S.loop ?_; conv => lhs; whnf
      | refine S.back_n ?_; conv => lhs; whnf
      | refine S.back_x ?_; conv => lhs; whnf
      | refine S.back_r ?_; conv => lhs; whnf
      | refine S.fin_r ?_; conv => lhs; whnf
      | refine S.fin_n ?_; conv => lhs; whnf
      | exact ret_c rfl
      | exact none_c
      | refine S.draw_op ?_; conv => lhs; whnf; arg 1; whnf
      | refine S.dk_n ?_; conv => lhs; whnf
      | refine S.draw_nil ?_; conv => lhs; whnf
      | refine andK_br ?_
      | refine andK_req ?_
      | refine andK_b ?_
set_option maxHeartbeats 4000000 in
theorem r13 (S : Seals) (k : Nat) (a0 : List Int) : runF tt (g13 k) lv13 Try.f13 k [.dat (.int .i64) a0 true] [] = bindO (ref14_Devices.f k a0) (fun x : Int => some (.i .i64 x, [])) := by
  unfold ref14_Devices.f; refine S.run_s rfl rfl ?_; conv => lhs; arg 5; whnf
  conv => lhs; arg 6; whnf
  repeat' first
    | refine S.seq_op rfl ?_; conv => lhs; whnf
    | refine S.op_n ?_; conv => lhs; whnf
    | refine S.seq_nil ?_
    | refine S.reg_n ?_
    | refine S.region rfl ?_
    | refine S.two ?_
    | refine S.blok ?_
    | refine S.cond rfl ?_
    | refine S.after_n ?_
    | refine S.block_n ?_
    | refine S.block_x ?_; conv => lhs; whnf
    | refine S.block_r ?_
    | refine S.after_x ?_
    | refine S.after_r ?_
    | refine S.skip ?_
    | refine S.exit ?_
    | refine S.ret ?_
    | refine br_lt ?_; conv => lhs; whnf
    | refine br_lf ?_; conv => lhs; whnf
    | refine br_t (by assumption) ?_; conv => lhs; whnf
    | refine br_f (by assumption) ?_; conv => lhs; whnf
    | refine req_i (by assumption) ?_; conv => lhs; whnf
    | (refine br_nd (fun _ => ?_) (fun _ => ?_) <;> conv => lhs; whnf)
    | (refine br_d (fun _ => ?_) (fun _ => ?_) <;> conv => lhs; whnf)
    | (refine br_n (fun _ => ?_) (fun _ => ?_) <;> conv => lhs; whnf)
    | (refine br_c (fun _ => ?_) (fun _ => ?_) <;> conv => lhs; whnf)
    | refine req_c fun _ => ?_; conv => lhs; whnf
    | refine bnd_c fun _ => ?_; conv => lhs; whnf
    | refine sum_c (fun _ => ?_) (fun _ => ?_)
    | refine (w13_0 S k _).trans ?_
    | refine S.loop ?_; conv => lhs; whnf
    | refine S.back_n ?_; conv => lhs; whnf
    | refine S.back_x ?_; conv => lhs; whnf
    | refine S.back_r ?_; conv => lhs; whnf
    | refine S.fin_r ?_; conv => lhs; whnf
    | refine S.fin_n ?_; conv => lhs; whnf
    | exact ret_c rfl
    | exact none_c
    | refine S.draw_op ?_; conv => lhs; whnf; arg 1; whnf
    | refine S.dk_n ?_; conv => lhs; whnf
    | refine S.draw_nil ?_; conv => lhs; whnf
    | refine andK_br ?_
    | refine andK_req ?_
    | refine andK_b ?_
def sp13 (k : Nat) : FSpec := ⟨[.rd], fun args objs K => match args, objs with | [v0], [] => listB (.int .i64) true v0 fun a0 => bindO (ref14_Devices.f k a0) fun x : Int => K (.i .i64 x) [] | _, _ => none⟩
theorem snd13 (k : Nat) : Sound Try.prog 13 (sp13 k) := by
  refine ⟨⟨Try.f13, rfl, by kernel_rfl, rfl⟩, fun args objs K r h => ?_⟩
  unfold sp13 at h; dsimp only at h; split at h
  · rename_i v0
    obtain ⟨a0, h, ca0⟩ := listB_spec h
    obtain ⟨x, hx, h⟩ := bindO_some h
    exact ⟨_, _, h, FnOK.args2 (relL_c ca0 relL_n) (fn_run tab_ok (en13 k) mixed rfl ((r13 seals k a0).trans (bindO_eq hx)))⟩
  · cases h
end Go.Vm

/- tile_From -/
namespace Go.Vm
open Go Go.Proofs Go.Pf
def lv15 : Live := look ⟨[], [], [], [], []⟩ [(4, ⟨[11, 22, 23, 24], [11], [8], [(11, 0, .own (.int .i64))], []⟩)]
noncomputable def g15 (k : Nat) : FEnv := (addF 20 (sp20 k) (fun _ => none))
theorem en15 (k : Nat) : EnvOK Try.prog (g15 k) := (envOK_add (snd20 k) (envOK_nil _))
set_option maxHeartbeats 4000000 in
theorem w15_0 (S : Seals) (k : Nat) : ∀ (n : Nat) {x23 : Int} {x24 : Int} {y0 : List Int} {y1 : List (Int × Int)} {K : CK}, S.lp tt (g15 k) lv15 0 n (loopN Try.f15 0) ⟨[(11, .own 0), (22, .own 1), (23, .i .i64 x23), (24, .i .i64 x24)], [(0, .row (.int .i64) y0 false), (1, .row (.pair (.int .i64) (.int .i64)) y1 false)], 2, 35⟩ K = bindO (tile_From.l0 n x23 x24 y0 y1) (fun x : (List Int) => K (.exit 0) ⟨[(11, .own 0)], [(0, .row (.int .i64) x false)], 1, 35⟩) := by
  intro n; induction n with
  | zero => intros; rw [S.lp_zero]; exact none_c
  | succ n ih =>
    intros; rw [tile_From.l0]; refine S.lp_succ ?_; conv => lhs; arg 5; whnf
    repeat' first
      | refine S.seq_op rfl ?_; conv => lhs; whnf
      | refine S.op_n ?_; conv => lhs; whnf
      | refine S.seq_nil ?_
      | refine S.reg_n ?_
      | refine S.region rfl ?_
      | refine S.two ?_
      | refine S.blok ?_
      | refine S.cond rfl ?_
      | refine S.after_n ?_
      | refine S.block_n ?_
      | refine S.block_x ?_; conv => lhs; whnf
      | refine S.block_r ?_
      | refine S.after_x ?_
      | refine S.after_r ?_
      | refine S.skip ?_
      | refine S.exit ?_
      | refine S.ret ?_
      | refine br_lt ?_; conv => lhs; whnf
      | refine br_lf ?_; conv => lhs; whnf
      | refine br_t (by assumption) ?_; conv => lhs; whnf
      | refine br_f (by assumption) ?_; conv => lhs; whnf
      | refine req_i (by assumption) ?_; conv => lhs; whnf
      | (refine br_nd (fun _ => ?_) (fun _ => ?_) <;> conv => lhs; whnf)
      | (refine br_d (fun _ => ?_) (fun _ => ?_) <;> conv => lhs; whnf)
      | (refine br_n (fun _ => ?_) (fun _ => ?_) <;> conv => lhs; whnf)
      | (refine br_c (fun _ => ?_) (fun _ => ?_) <;> conv => lhs; whnf)
      | refine req_c fun _ => ?_; conv => lhs; whnf
      | refine bnd_c fun _ => ?_; conv => lhs; whnf
      | refine sum_c (fun _ => ?_) (fun _ => ?_)
      | exact ih
      | refine S.loop ?_; conv => lhs; whnf
      | refine S.back_n ?_; conv => lhs; whnf
      | refine S.back_x ?_; conv => lhs; whnf
      | refine S.back_r ?_; conv => lhs; whnf
      | refine S.fin_r ?_; conv => lhs; whnf
      | refine S.fin_n ?_; conv => lhs; whnf
      | exact ret_c rfl
      | exact none_c
      | refine S.draw_op ?_; conv => lhs; whnf; arg 1; whnf
      | refine S.dk_n ?_; conv => lhs; whnf
      | refine S.draw_nil ?_; conv => lhs; whnf
      | refine andK_br ?_
      | refine andK_req ?_
      | refine andK_b ?_
set_option maxHeartbeats 4000000 in
theorem r15 (S : Seals) (k : Nat) (a0 : List Int) (a1 : List Int) (a2 : List Int) (a3 : Int) : runF tt (g15 k) lv15 Try.f15 k [.dat (.int .i64) a0 true, .dat (.int .i64) a1 true, .dat (.int .i64) a2 true, .i .i64 a3] [] = bindO (tile_From.f k a0 a1 a2 a3) (fun x : (List Int) => some (.own 0, [.row (.int .i64) x false])) := by
  unfold tile_From.f; refine S.run_s rfl rfl ?_; conv => lhs; arg 5; whnf
  conv => lhs; arg 6; whnf
  repeat' first
    | refine S.seq_op rfl ?_; conv => lhs; whnf
    | refine S.op_n ?_; conv => lhs; whnf
    | refine S.seq_nil ?_
    | refine S.reg_n ?_
    | refine S.region rfl ?_
    | refine S.two ?_
    | refine S.blok ?_
    | refine S.cond rfl ?_
    | refine S.after_n ?_
    | refine S.block_n ?_
    | refine S.block_x ?_; conv => lhs; whnf
    | refine S.block_r ?_
    | refine S.after_x ?_
    | refine S.after_r ?_
    | refine S.skip ?_
    | refine S.exit ?_
    | refine S.ret ?_
    | refine br_lt ?_; conv => lhs; whnf
    | refine br_lf ?_; conv => lhs; whnf
    | refine br_t (by assumption) ?_; conv => lhs; whnf
    | refine br_f (by assumption) ?_; conv => lhs; whnf
    | refine req_i (by assumption) ?_; conv => lhs; whnf
    | (refine br_nd (fun _ => ?_) (fun _ => ?_) <;> conv => lhs; whnf)
    | (refine br_d (fun _ => ?_) (fun _ => ?_) <;> conv => lhs; whnf)
    | (refine br_n (fun _ => ?_) (fun _ => ?_) <;> conv => lhs; whnf)
    | (refine br_c (fun _ => ?_) (fun _ => ?_) <;> conv => lhs; whnf)
    | refine req_c fun _ => ?_; conv => lhs; whnf
    | refine bnd_c fun _ => ?_; conv => lhs; whnf
    | refine sum_c (fun _ => ?_) (fun _ => ?_)
    | refine (w15_0 S k _).trans ?_
    | refine S.loop ?_; conv => lhs; whnf
    | refine S.back_n ?_; conv => lhs; whnf
    | refine S.back_x ?_; conv => lhs; whnf
    | refine S.back_r ?_; conv => lhs; whnf
    | refine S.fin_r ?_; conv => lhs; whnf
    | refine S.fin_n ?_; conv => lhs; whnf
    | exact ret_c rfl
    | exact none_c
    | refine S.draw_op ?_; conv => lhs; whnf; arg 1; whnf
    | refine S.dk_n ?_; conv => lhs; whnf
    | refine S.draw_nil ?_; conv => lhs; whnf
    | refine andK_br ?_
    | refine andK_req ?_
    | refine andK_b ?_
def sp15 (k : Nat) : FSpec := ⟨[.rd, .rd, .rd, .rd], fun args objs K => match args, objs with | [v0, v1, v2, .i .i64 a3], [] => listB (.int .i64) true v0 fun a0 => listB (.int .i64) true v1 fun a1 => listB (.int .i64) true v2 fun a2 => bindO (tile_From.f k a0 a1 a2 a3) fun x : (List Int) => K (.own 0) [.row (.int .i64) x false] | _, _ => none⟩
theorem snd15 (k : Nat) : Sound Try.prog 15 (sp15 k) := by
  refine ⟨⟨Try.f15, rfl, by kernel_rfl, rfl⟩, fun args objs K r h => ?_⟩
  unfold sp15 at h; dsimp only at h; split at h
  · rename_i v0 v1 v2 a3
    obtain ⟨a0, h, ca0⟩ := listB_spec h
    obtain ⟨a1, h, ca1⟩ := listB_spec h
    obtain ⟨a2, h, ca2⟩ := listB_spec h
    obtain ⟨x, hx, h⟩ := bindO_some h
    exact ⟨_, _, h, FnOK.args2 (relL_c ca0 (relL_c ca1 (relL_c ca2 (relL_c rel_i relL_n)))) (fn_run tab_ok (en15 k) mixed rfl ((r15 seals k a0 a1 a2 a3).trans (bindO_eq hx)))⟩
  · cases h
end Go.Vm

/- ref14_Spec -/
namespace Go.Vm
open Go Go.Proofs Go.Pf
def lv21 : Live := look ⟨[], [], [], [], []⟩ [(4, ⟨[0, 1, 19, 20], [], [6], [], []⟩), (9, ⟨[0, 1, 7, 8, 19, 20], [0, 1, 19, 20], [6], [], []⟩)]
noncomputable def g21 (k : Nat) : FEnv := (addF 19 (sp19 k) (fun _ => none))
theorem en21 (k : Nat) : EnvOK Try.prog (g21 k) := (envOK_add (snd19 k) (envOK_nil _))
set_option maxHeartbeats 4000000 in
theorem w21_1 (S : Seals) (k : Nat) : ∀ (n : Nat) {x0 : List Int} {x1 : List Int} {x7 : Int} {x8 : Int} {x19 : Int} {x20 : Int} {K : CK}, S.lp tt (g21 k) lv21 0 n (loopN Try.f21 1) ⟨[(0, .dat (.int .i64) x0 true), (1, .dat (.int .i64) x1 true), (7, .i .i64 x7), (8, .i .i64 x8), (19, .i .i64 x19), (20, .i .i64 x20)], [], 0, 59⟩ K = bindO (ref14_Spec.l1 n x0 x1 x7 x8 x19 x20) (Sum.elim (fun x : Unit => K (.exit 2) ⟨[(0, .dat (.int .i64) x0 true), (1, .dat (.int .i64) x1 true), (19, .i .i64 x19), (20, .i .i64 x20)], [], 0, 59⟩) (fun x : Bool => K .ret ⟨[(6, .b x)], [], 0, 59⟩)) := by
  intro n; induction n with
  | zero => intros; rw [S.lp_zero]; exact none_c
  | succ n ih =>
    intros; rw [ref14_Spec.l1]; refine S.lp_succ ?_; conv => lhs; arg 5; whnf
    repeat' first
      | refine S.seq_op rfl ?_; conv => lhs; whnf
      | refine S.op_n ?_; conv => lhs; whnf
      | refine S.seq_nil ?_
      | refine S.reg_n ?_
      | refine S.region rfl ?_
      | refine S.two ?_
      | refine S.blok ?_
      | refine S.cond rfl ?_
      | refine S.after_n ?_
      | refine S.block_n ?_
      | refine S.block_x ?_; conv => lhs; whnf
      | refine S.block_r ?_
      | refine S.after_x ?_
      | refine S.after_r ?_
      | refine S.skip ?_
      | refine S.exit ?_
      | refine S.ret ?_
      | refine br_lt ?_; conv => lhs; whnf
      | refine br_lf ?_; conv => lhs; whnf
      | refine br_t (by assumption) ?_; conv => lhs; whnf
      | refine br_f (by assumption) ?_; conv => lhs; whnf
      | refine req_i (by assumption) ?_; conv => lhs; whnf
      | (refine br_nd (fun _ => ?_) (fun _ => ?_) <;> conv => lhs; whnf)
      | (refine br_d (fun _ => ?_) (fun _ => ?_) <;> conv => lhs; whnf)
      | (refine br_n (fun _ => ?_) (fun _ => ?_) <;> conv => lhs; whnf)
      | (refine br_c (fun _ => ?_) (fun _ => ?_) <;> conv => lhs; whnf)
      | refine req_c fun _ => ?_; conv => lhs; whnf
      | refine bnd_c fun _ => ?_; conv => lhs; whnf
      | refine sum_c (fun _ => ?_) (fun _ => ?_)
      | refine S.region_d (id := 11) (ds := [0, 0, 3, 7, 0, 0, 48, 112, 255, 511, 1023, 1023, 4095, 8191, 16383, 32767]) (mds := [[], [], [], [], [], [], [], [], [], [], [], [], [], [], [], []]) (hm := []) (by kernel_rfl) (by kernel_rfl) rfl rfl ?_
      | exact ih
      | refine S.loop ?_; conv => lhs; whnf
      | refine S.back_n ?_; conv => lhs; whnf
      | refine S.back_x ?_; conv => lhs; whnf
      | refine S.back_r ?_; conv => lhs; whnf
      | refine S.fin_r ?_; conv => lhs; whnf
      | refine S.fin_n ?_; conv => lhs; whnf
      | exact ret_c rfl
      | exact none_c
      | refine S.draw_op ?_; conv => lhs; whnf; arg 1; whnf
      | refine S.dk_n ?_; conv => lhs; whnf
      | refine S.draw_nil ?_; conv => lhs; whnf
      | refine andK_br ?_
      | refine andK_req ?_
      | refine andK_b ?_
set_option maxHeartbeats 4000000 in
theorem w21_0 (S : Seals) (k : Nat) : ∀ (n : Nat) {x0 : List Int} {x1 : List Int} {x19 : Int} {x20 : Int} {K : CK}, S.lp tt (g21 k) lv21 0 n (loopN Try.f21 0) ⟨[(0, .dat (.int .i64) x0 true), (1, .dat (.int .i64) x1 true), (19, .i .i64 x19), (20, .i .i64 x20)], [], 0, 59⟩ K = bindO (ref14_Spec.l0 k n x0 x1 x19 x20) (Sum.elim (fun x : Unit => K (.exit 0) ⟨[], [], 0, 59⟩) (fun x : Bool => K .ret ⟨[(6, .b x)], [], 0, 59⟩)) := by
  intro n; induction n with
  | zero => intros; rw [S.lp_zero]; exact none_c
  | succ n ih =>
    intros; rw [ref14_Spec.l0]; refine S.lp_succ ?_; conv => lhs; arg 5; whnf
    repeat' first
      | refine S.seq_op rfl ?_; conv => lhs; whnf
      | refine S.op_n ?_; conv => lhs; whnf
      | refine S.seq_nil ?_
      | refine S.reg_n ?_
      | refine S.region rfl ?_
      | refine S.two ?_
      | refine S.blok ?_
      | refine S.cond rfl ?_
      | refine S.after_n ?_
      | refine S.block_n ?_
      | refine S.block_x ?_; conv => lhs; whnf
      | refine S.block_r ?_
      | refine S.after_x ?_
      | refine S.after_r ?_
      | refine S.skip ?_
      | refine S.exit ?_
      | refine S.ret ?_
      | refine br_lt ?_; conv => lhs; whnf
      | refine br_lf ?_; conv => lhs; whnf
      | refine br_t (by assumption) ?_; conv => lhs; whnf
      | refine br_f (by assumption) ?_; conv => lhs; whnf
      | refine req_i (by assumption) ?_; conv => lhs; whnf
      | (refine br_nd (fun _ => ?_) (fun _ => ?_) <;> conv => lhs; whnf)
      | (refine br_d (fun _ => ?_) (fun _ => ?_) <;> conv => lhs; whnf)
      | (refine br_n (fun _ => ?_) (fun _ => ?_) <;> conv => lhs; whnf)
      | (refine br_c (fun _ => ?_) (fun _ => ?_) <;> conv => lhs; whnf)
      | refine req_c fun _ => ?_; conv => lhs; whnf
      | refine bnd_c fun _ => ?_; conv => lhs; whnf
      | refine sum_c (fun _ => ?_) (fun _ => ?_)
      | exact ih
      | refine (w21_1 S k _).trans ?_
      | refine S.loop ?_; conv => lhs; whnf
      | refine S.back_n ?_; conv => lhs; whnf
      | refine S.back_x ?_; conv => lhs; whnf
      | refine S.back_r ?_; conv => lhs; whnf
      | refine S.fin_r ?_; conv => lhs; whnf
      | refine S.fin_n ?_; conv => lhs; whnf
      | exact ret_c rfl
      | exact none_c
      | refine S.draw_op ?_; conv => lhs; whnf; arg 1; whnf
      | refine S.dk_n ?_; conv => lhs; whnf
      | refine S.draw_nil ?_; conv => lhs; whnf
      | refine andK_br ?_
      | refine andK_req ?_
      | refine andK_b ?_
set_option maxHeartbeats 4000000 in
theorem r21 (S : Seals) (k : Nat) (a0 : List Int) (a1 : List Int) (a2 : Int) : runF tt (g21 k) lv21 Try.f21 k [.dat (.int .i64) a0 true, .dat (.int .i64) a1 true, .i .i64 a2] [] = bindO (ref14_Spec.f k a0 a1 a2) (fun x : Bool => some (.b x, [])) := by
  unfold ref14_Spec.f; refine S.run_s rfl rfl ?_; conv => lhs; arg 5; whnf
  conv => lhs; arg 6; whnf
  repeat' first
    | refine S.seq_op rfl ?_; conv => lhs; whnf
    | refine S.op_n ?_; conv => lhs; whnf
    | refine S.seq_nil ?_
    | refine S.reg_n ?_
    | refine S.region rfl ?_
    | refine S.two ?_
    | refine S.blok ?_
    | refine S.cond rfl ?_
    | refine S.after_n ?_
    | refine S.block_n ?_
    | refine S.block_x ?_; conv => lhs; whnf
    | refine S.block_r ?_
    | refine S.after_x ?_
    | refine S.after_r ?_
    | refine S.skip ?_
    | refine S.exit ?_
    | refine S.ret ?_
    | refine br_lt ?_; conv => lhs; whnf
    | refine br_lf ?_; conv => lhs; whnf
    | refine br_t (by assumption) ?_; conv => lhs; whnf
    | refine br_f (by assumption) ?_; conv => lhs; whnf
    | refine req_i (by assumption) ?_; conv => lhs; whnf
    | (refine br_nd (fun _ => ?_) (fun _ => ?_) <;> conv => lhs; whnf)
    | (refine br_d (fun _ => ?_) (fun _ => ?_) <;> conv => lhs; whnf)
    | (refine br_n (fun _ => ?_) (fun _ => ?_) <;> conv => lhs; whnf)
    | (refine br_c (fun _ => ?_) (fun _ => ?_) <;> conv => lhs; whnf)
    | refine req_c fun _ => ?_; conv => lhs; whnf
    | refine bnd_c fun _ => ?_; conv => lhs; whnf
    | refine sum_c (fun _ => ?_) (fun _ => ?_)
    | refine (w21_0 S k _).trans ?_
    | refine S.loop ?_; conv => lhs; whnf
    | refine S.back_n ?_; conv => lhs; whnf
    | refine S.back_x ?_; conv => lhs; whnf
    | refine S.back_r ?_; conv => lhs; whnf
    | refine S.fin_r ?_; conv => lhs; whnf
    | refine S.fin_n ?_; conv => lhs; whnf
    | exact ret_c rfl
    | exact none_c
    | refine S.draw_op ?_; conv => lhs; whnf; arg 1; whnf
    | refine S.dk_n ?_; conv => lhs; whnf
    | refine S.draw_nil ?_; conv => lhs; whnf
    | refine andK_br ?_
    | refine andK_req ?_
    | refine andK_b ?_
def sp21 (k : Nat) : FSpec := ⟨[.rd, .rd, .rd], fun args objs K => match args, objs with | [v0, v1, .i .i64 a2], [] => listB (.int .i64) true v0 fun a0 => listB (.int .i64) true v1 fun a1 => bindO (ref14_Spec.f k a0 a1 a2) fun x : Bool => K (.b x) [] | _, _ => none⟩
theorem snd21 (k : Nat) : Sound Try.prog 21 (sp21 k) := by
  refine ⟨⟨Try.f21, rfl, by kernel_rfl, rfl⟩, fun args objs K r h => ?_⟩
  unfold sp21 at h; dsimp only at h; split at h
  · rename_i v0 v1 a2
    obtain ⟨a0, h, ca0⟩ := listB_spec h
    obtain ⟨a1, h, ca1⟩ := listB_spec h
    obtain ⟨x, hx, h⟩ := bindO_some h
    exact ⟨_, _, h, FnOK.args2 (relL_c ca0 (relL_c ca1 (relL_c rel_i relL_n))) (fn_run tab_ok (en21 k) mixed rfl ((r21 seals k a0 a1 a2).trans (bindO_eq hx)))⟩
  · cases h
end Go.Vm

/- ref14_Parts -/
namespace Go.Vm
open Go Go.Proofs Go.Pf
def lv22 : Live := look ⟨[], [], [], [], []⟩ [(5, ⟨[0, 1, 5, 20, 21], [5], [4], [(5, 0, .own (.int .i64))], []⟩), (1000000, ⟨[], [], [], [(4, 0, .own (.int .i64))], []⟩)]
noncomputable def g22 (k : Nat) : FEnv := (addF 21 (sp21 k) (addF 19 (sp19 k) (fun _ => none)))
theorem en22 (k : Nat) : EnvOK Try.prog (g22 k) := (envOK_add (snd21 k) (envOK_add (snd19 k) (envOK_nil _)))
set_option maxHeartbeats 4000000 in
theorem w22_0 (S : Seals) (k : Nat) : ∀ (n : Nat) {x0 : List Int} {x1 : List Int} {x20 : Int} {x21 : Int} {y0 : List Int} {K : CK}, S.lp tt (g22 k) lv22 0 n (loopN Try.f22 0) ⟨[(0, .dat (.int .i64) x0 true), (1, .dat (.int .i64) x1 true), (5, .own 0), (20, .i .i64 x20), (21, .i .i64 x21)], [(0, .row (.int .i64) y0 false)], 1, 42⟩ K = bindO (ref14_Parts.l0 n x0 x1 x20 x21 y0) (fun x : (List Int) => K (.exit 0) ⟨[(5, .own 0)], [(0, .row (.int .i64) x false)], 1, 42⟩) := by
  intro n; induction n with
  | zero => intros; rw [S.lp_zero]; exact none_c
  | succ n ih =>
    intros; rw [ref14_Parts.l0]; refine S.lp_succ ?_; conv => lhs; arg 5; whnf
    repeat' first
      | refine S.seq_op rfl ?_; conv => lhs; whnf
      | refine S.op_n ?_; conv => lhs; whnf
      | refine S.seq_nil ?_
      | refine S.reg_n ?_
      | refine S.region rfl ?_
      | refine S.two ?_
      | refine S.blok ?_
      | refine S.cond rfl ?_
      | refine S.after_n ?_
      | refine S.block_n ?_
      | refine S.block_x ?_; conv => lhs; whnf
      | refine S.block_r ?_
      | refine S.after_x ?_
      | refine S.after_r ?_
      | refine S.skip ?_
      | refine S.exit ?_
      | refine S.ret ?_
      | refine br_lt ?_; conv => lhs; whnf
      | refine br_lf ?_; conv => lhs; whnf
      | refine br_t (by assumption) ?_; conv => lhs; whnf
      | refine br_f (by assumption) ?_; conv => lhs; whnf
      | refine req_i (by assumption) ?_; conv => lhs; whnf
      | (refine br_nd (fun _ => ?_) (fun _ => ?_) <;> conv => lhs; whnf)
      | (refine br_d (fun _ => ?_) (fun _ => ?_) <;> conv => lhs; whnf)
      | (refine br_n (fun _ => ?_) (fun _ => ?_) <;> conv => lhs; whnf)
      | (refine br_c (fun _ => ?_) (fun _ => ?_) <;> conv => lhs; whnf)
      | refine req_c fun _ => ?_; conv => lhs; whnf
      | refine bnd_c fun _ => ?_; conv => lhs; whnf
      | refine sum_c (fun _ => ?_) (fun _ => ?_)
      | exact ih
      | refine S.loop ?_; conv => lhs; whnf
      | refine S.back_n ?_; conv => lhs; whnf
      | refine S.back_x ?_; conv => lhs; whnf
      | refine S.back_r ?_; conv => lhs; whnf
      | refine S.fin_r ?_; conv => lhs; whnf
      | refine S.fin_n ?_; conv => lhs; whnf
      | exact ret_c rfl
      | exact none_c
      | refine S.draw_op ?_; conv => lhs; whnf; arg 1; whnf
      | refine S.dk_n ?_; conv => lhs; whnf
      | refine S.draw_nil ?_; conv => lhs; whnf
      | refine andK_br ?_
      | refine andK_req ?_
      | refine andK_b ?_
set_option maxHeartbeats 4000000 in
theorem r22 (S : Seals) (k : Nat) (a0 : List Int) (a1 : List Int) : runF tt (g22 k) lv22 Try.f22 k [.dat (.int .i64) a0 true, .dat (.int .i64) a1 true] [] = bindO (ref14_Parts.f k a0 a1) (fun x : (List Int) => some (.own 0, [.row (.int .i64) x false])) := by
  unfold ref14_Parts.f; refine S.run_s rfl rfl ?_; conv => lhs; arg 5; whnf
  conv => lhs; arg 6; whnf
  repeat' first
    | refine S.seq_op rfl ?_; conv => lhs; whnf
    | refine S.op_n ?_; conv => lhs; whnf
    | refine S.seq_nil ?_
    | refine S.reg_n ?_
    | refine S.region rfl ?_
    | refine S.two ?_
    | refine S.blok ?_
    | refine S.cond rfl ?_
    | refine S.after_n ?_
    | refine S.block_n ?_
    | refine S.block_x ?_; conv => lhs; whnf
    | refine S.block_r ?_
    | refine S.after_x ?_
    | refine S.after_r ?_
    | refine S.skip ?_
    | refine S.exit ?_
    | refine S.ret ?_
    | refine br_lt ?_; conv => lhs; whnf
    | refine br_lf ?_; conv => lhs; whnf
    | refine br_t (by assumption) ?_; conv => lhs; whnf
    | refine br_f (by assumption) ?_; conv => lhs; whnf
    | refine req_i (by assumption) ?_; conv => lhs; whnf
    | (refine br_nd (fun _ => ?_) (fun _ => ?_) <;> conv => lhs; whnf)
    | (refine br_d (fun _ => ?_) (fun _ => ?_) <;> conv => lhs; whnf)
    | (refine br_n (fun _ => ?_) (fun _ => ?_) <;> conv => lhs; whnf)
    | (refine br_c (fun _ => ?_) (fun _ => ?_) <;> conv => lhs; whnf)
    | refine req_c fun _ => ?_; conv => lhs; whnf
    | refine bnd_c fun _ => ?_; conv => lhs; whnf
    | refine sum_c (fun _ => ?_) (fun _ => ?_)
    | refine (w22_0 S k _).trans ?_
    | refine S.loop ?_; conv => lhs; whnf
    | refine S.back_n ?_; conv => lhs; whnf
    | refine S.back_x ?_; conv => lhs; whnf
    | refine S.back_r ?_; conv => lhs; whnf
    | refine S.fin_r ?_; conv => lhs; whnf
    | refine S.fin_n ?_; conv => lhs; whnf
    | exact ret_c rfl
    | exact none_c
    | refine S.draw_op ?_; conv => lhs; whnf; arg 1; whnf
    | refine S.dk_n ?_; conv => lhs; whnf
    | refine S.draw_nil ?_; conv => lhs; whnf
    | refine andK_br ?_
    | refine andK_req ?_
    | refine andK_b ?_
def sp22 (k : Nat) : FSpec := ⟨[.rd, .rd], fun args objs K => match args, objs with | [v0, v1], [] => listB (.int .i64) true v0 fun a0 => listB (.int .i64) true v1 fun a1 => bindO (ref14_Parts.f k a0 a1) fun x : (List Int) => K (.own 0) [.row (.int .i64) x false] | _, _ => none⟩
theorem snd22 (k : Nat) : Sound Try.prog 22 (sp22 k) := by
  refine ⟨⟨Try.f22, rfl, by kernel_rfl, rfl⟩, fun args objs K r h => ?_⟩
  unfold sp22 at h; dsimp only at h; split at h
  · rename_i v0 v1
    obtain ⟨a0, h, ca0⟩ := listB_spec h
    obtain ⟨a1, h, ca1⟩ := listB_spec h
    obtain ⟨x, hx, h⟩ := bindO_some h
    exact ⟨_, _, h, FnOK.args2 (relL_c ca0 (relL_c ca1 relL_n)) (fn_run tab_ok (en22 k) mixed rfl ((r22 seals k a0 a1).trans (bindO_eq hx)))⟩
  · cases h
end Go.Vm

/- ref14_Copies -/
namespace Go.Vm
open Go Go.Proofs Go.Pf
def lv16 : Live := look ⟨[], [], [], [], []⟩ [(5, ⟨[5, 23, 24, 25], [5], [4], [], []⟩)]
noncomputable def g16 (k : Nat) : FEnv := (addF 22 (sp22 k) (addF 13 (sp13 k) (addF 21 (sp21 k) (addF 19 (sp19 k) (fun _ => none)))))
theorem en16 (k : Nat) : EnvOK Try.prog (g16 k) := (envOK_add (snd22 k) (envOK_add (snd13 k) (envOK_add (snd21 k) (envOK_add (snd19 k) (envOK_nil _)))))
set_option maxHeartbeats 4000000 in
theorem w16_0 (S : Seals) (k : Nat) : ∀ (n : Nat) {x5 : Int} {x24 : Int} {x25 : Int} {y0 : List Int} {K : CK}, S.lp tt (g16 k) lv16 0 n (loopN Try.f16 0) ⟨[(5, .i .i64 x5), (23, .own 0), (24, .i .i64 x24), (25, .i .i64 x25)], [(0, .row (.int .i64) y0 false)], 1, 34⟩ K = bindO (ref14_Copies.l0 n x5 x24 x25 y0) (fun x : Int => K (.exit 0) ⟨[(5, .i .i64 x)], [], 0, 34⟩) := by
  intro n; induction n with
  | zero => intros; rw [S.lp_zero]; exact none_c
  | succ n ih =>
    intros; rw [ref14_Copies.l0]; refine S.lp_succ ?_; conv => lhs; arg 5; whnf
    repeat' first
      | refine S.seq_op rfl ?_; conv => lhs; whnf
      | refine S.op_n ?_; conv => lhs; whnf
      | refine S.seq_nil ?_
      | refine S.reg_n ?_
      | refine S.region rfl ?_
      | refine S.two ?_
      | refine S.blok ?_
      | refine S.cond rfl ?_
      | refine S.after_n ?_
      | refine S.block_n ?_
      | refine S.block_x ?_; conv => lhs; whnf
      | refine S.block_r ?_
      | refine S.after_x ?_
      | refine S.after_r ?_
      | refine S.skip ?_
      | refine S.exit ?_
      | refine S.ret ?_
      | refine br_lt ?_; conv => lhs; whnf
      | refine br_lf ?_; conv => lhs; whnf
      | refine br_t (by assumption) ?_; conv => lhs; whnf
      | refine br_f (by assumption) ?_; conv => lhs; whnf
      | refine req_i (by assumption) ?_; conv => lhs; whnf
      | (refine br_nd (fun _ => ?_) (fun _ => ?_) <;> conv => lhs; whnf)
      | (refine br_d (fun _ => ?_) (fun _ => ?_) <;> conv => lhs; whnf)
      | (refine br_n (fun _ => ?_) (fun _ => ?_) <;> conv => lhs; whnf)
      | (refine br_c (fun _ => ?_) (fun _ => ?_) <;> conv => lhs; whnf)
      | refine req_c fun _ => ?_; conv => lhs; whnf
      | refine bnd_c fun _ => ?_; conv => lhs; whnf
      | refine sum_c (fun _ => ?_) (fun _ => ?_)
      | exact ih
      | refine S.loop ?_; conv => lhs; whnf
      | refine S.back_n ?_; conv => lhs; whnf
      | refine S.back_x ?_; conv => lhs; whnf
      | refine S.back_r ?_; conv => lhs; whnf
      | refine S.fin_r ?_; conv => lhs; whnf
      | refine S.fin_n ?_; conv => lhs; whnf
      | exact ret_c rfl
      | exact none_c
      | refine S.draw_op ?_; conv => lhs; whnf; arg 1; whnf
      | refine S.dk_n ?_; conv => lhs; whnf
      | refine S.draw_nil ?_; conv => lhs; whnf
      | refine andK_br ?_
      | refine andK_req ?_
      | refine andK_b ?_
set_option maxHeartbeats 4000000 in
theorem r16 (S : Seals) (k : Nat) (a0 : List Int) (a1 : List Int) : runF tt (g16 k) lv16 Try.f16 k [.dat (.int .i64) a0 true, .dat (.int .i64) a1 true] [] = bindO (ref14_Copies.f k a0 a1) (fun x : Int => some (.i .i64 x, [])) := by
  unfold ref14_Copies.f; refine S.run_s rfl rfl ?_; conv => lhs; arg 5; whnf
  conv => lhs; arg 6; whnf
  repeat' first
    | refine S.seq_op rfl ?_; conv => lhs; whnf
    | refine S.op_n ?_; conv => lhs; whnf
    | refine S.seq_nil ?_
    | refine S.reg_n ?_
    | refine S.region rfl ?_
    | refine S.two ?_
    | refine S.blok ?_
    | refine S.cond rfl ?_
    | refine S.after_n ?_
    | refine S.block_n ?_
    | refine S.block_x ?_; conv => lhs; whnf
    | refine S.block_r ?_
    | refine S.after_x ?_
    | refine S.after_r ?_
    | refine S.skip ?_
    | refine S.exit ?_
    | refine S.ret ?_
    | refine br_lt ?_; conv => lhs; whnf
    | refine br_lf ?_; conv => lhs; whnf
    | refine br_t (by assumption) ?_; conv => lhs; whnf
    | refine br_f (by assumption) ?_; conv => lhs; whnf
    | refine req_i (by assumption) ?_; conv => lhs; whnf
    | (refine br_nd (fun _ => ?_) (fun _ => ?_) <;> conv => lhs; whnf)
    | (refine br_d (fun _ => ?_) (fun _ => ?_) <;> conv => lhs; whnf)
    | (refine br_n (fun _ => ?_) (fun _ => ?_) <;> conv => lhs; whnf)
    | (refine br_c (fun _ => ?_) (fun _ => ?_) <;> conv => lhs; whnf)
    | refine req_c fun _ => ?_; conv => lhs; whnf
    | refine bnd_c fun _ => ?_; conv => lhs; whnf
    | refine sum_c (fun _ => ?_) (fun _ => ?_)
    | refine (w16_0 S k _).trans ?_
    | refine S.loop ?_; conv => lhs; whnf
    | refine S.back_n ?_; conv => lhs; whnf
    | refine S.back_x ?_; conv => lhs; whnf
    | refine S.back_r ?_; conv => lhs; whnf
    | refine S.fin_r ?_; conv => lhs; whnf
    | refine S.fin_n ?_; conv => lhs; whnf
    | exact ret_c rfl
    | exact none_c
    | refine S.draw_op ?_; conv => lhs; whnf; arg 1; whnf
    | refine S.dk_n ?_; conv => lhs; whnf
    | refine S.draw_nil ?_; conv => lhs; whnf
    | refine andK_br ?_
    | refine andK_req ?_
    | refine andK_b ?_
def sp16 (k : Nat) : FSpec := ⟨[.rd, .rd], fun args objs K => match args, objs with | [v0, v1], [] => listB (.int .i64) true v0 fun a0 => listB (.int .i64) true v1 fun a1 => bindO (ref14_Copies.f k a0 a1) fun x : Int => K (.i .i64 x) [] | _, _ => none⟩
theorem snd16 (k : Nat) : Sound Try.prog 16 (sp16 k) := by
  refine ⟨⟨Try.f16, rfl, by kernel_rfl, rfl⟩, fun args objs K r h => ?_⟩
  unfold sp16 at h; dsimp only at h; split at h
  · rename_i v0 v1
    obtain ⟨a0, h, ca0⟩ := listB_spec h
    obtain ⟨a1, h, ca1⟩ := listB_spec h
    obtain ⟨x, hx, h⟩ := bindO_some h
    exact ⟨_, _, h, FnOK.args2 (relL_c ca0 (relL_c ca1 relL_n)) (fn_run tab_ok (en16 k) mixed rfl ((r16 seals k a0 a1).trans (bindO_eq hx)))⟩
  · cases h
end Go.Vm

/- book_Same_int -/
namespace Go.Vm
open Go Go.Proofs Go.Pf
def lv18 : Live := look ⟨[], [], [], [], []⟩ [(4, ⟨[0, 1, 5], [], [4], [], []⟩)]
noncomputable def g18 : FEnv := (fun _ => none)
theorem en18 : EnvOK Try.prog (g18) := (envOK_nil _)
set_option maxHeartbeats 4000000 in
theorem w18_0 (S : Seals) (k : Nat) : ∀ (n : Nat) {x0 : List Int} {x1 : List Int} {x5 : Int} {K : CK}, S.lp tt (g18) lv18 0 n (loopN Try.f18 0) ⟨[(0, .dat (.int .i64) x0 true), (1, .dat (.int .i64) x1 true), (5, .i .i64 x5)], [], 0, 26⟩ K = bindO (book_Same_int.l0 n x0 x1 x5) (Sum.elim (fun x : Unit => K (.exit 0) ⟨[], [], 0, 26⟩) (fun x : Bool => K .ret ⟨[(4, .b x)], [], 0, 26⟩)) := by
  intro n; induction n with
  | zero => intros; rw [S.lp_zero]; exact none_c
  | succ n ih =>
    intros; rw [book_Same_int.l0]; refine S.lp_succ ?_; conv => lhs; arg 5; whnf
    repeat' first
      | refine S.seq_op rfl ?_; conv => lhs; whnf
      | refine S.op_n ?_; conv => lhs; whnf
      | refine S.seq_nil ?_
      | refine S.reg_n ?_
      | refine S.region rfl ?_
      | refine S.two ?_
      | refine S.blok ?_
      | refine S.cond rfl ?_
      | refine S.after_n ?_
      | refine S.block_n ?_
      | refine S.block_x ?_; conv => lhs; whnf
      | refine S.block_r ?_
      | refine S.after_x ?_
      | refine S.after_r ?_
      | refine S.skip ?_
      | refine S.exit ?_
      | refine S.ret ?_
      | refine br_lt ?_; conv => lhs; whnf
      | refine br_lf ?_; conv => lhs; whnf
      | refine br_t (by assumption) ?_; conv => lhs; whnf
      | refine br_f (by assumption) ?_; conv => lhs; whnf
      | refine req_i (by assumption) ?_; conv => lhs; whnf
      | (refine br_nd (fun _ => ?_) (fun _ => ?_) <;> conv => lhs; whnf)
      | (refine br_d (fun _ => ?_) (fun _ => ?_) <;> conv => lhs; whnf)
      | (refine br_n (fun _ => ?_) (fun _ => ?_) <;> conv => lhs; whnf)
      | (refine br_c (fun _ => ?_) (fun _ => ?_) <;> conv => lhs; whnf)
      | refine req_c fun _ => ?_; conv => lhs; whnf
      | refine bnd_c fun _ => ?_; conv => lhs; whnf
      | refine sum_c (fun _ => ?_) (fun _ => ?_)
      | refine S.region_d (id := 6) (ds := [0, 0, 3, 7, 0, 0, 48, 112, 255]) (mds := [[], [], [], [], [], [], [], [], []]) (hm := []) (by kernel_rfl) (by kernel_rfl) rfl rfl ?_
      | exact ih
      | refine S.loop ?_; conv => lhs; whnf
      | refine S.back_n ?_; conv => lhs; whnf
      | refine S.back_x ?_; conv => lhs; whnf
      | refine S.back_r ?_; conv => lhs; whnf
      | refine S.fin_r ?_; conv => lhs; whnf
      | refine S.fin_n ?_; conv => lhs; whnf
      | exact ret_c rfl
      | exact none_c
      | refine S.draw_op ?_; conv => lhs; whnf; arg 1; whnf
      | refine S.dk_n ?_; conv => lhs; whnf
      | refine S.draw_nil ?_; conv => lhs; whnf
      | refine andK_br ?_
      | refine andK_req ?_
      | refine andK_b ?_
set_option maxHeartbeats 4000000 in
theorem r18 (S : Seals) (k : Nat) (a0 : List Int) (a1 : List Int) : runF tt (g18) lv18 Try.f18 k [.dat (.int .i64) a0 true, .dat (.int .i64) a1 true] [] = bindO (book_Same_int.f k a0 a1) (fun x : Bool => some (.b x, [])) := by
  unfold book_Same_int.f; refine S.run_s rfl rfl ?_; conv => lhs; arg 5; whnf
  conv => lhs; arg 6; whnf
  repeat' first
    | refine S.seq_op rfl ?_; conv => lhs; whnf
    | refine S.op_n ?_; conv => lhs; whnf
    | refine S.seq_nil ?_
    | refine S.reg_n ?_
    | refine S.region rfl ?_
    | refine S.two ?_
    | refine S.blok ?_
    | refine S.cond rfl ?_
    | refine S.after_n ?_
    | refine S.block_n ?_
    | refine S.block_x ?_; conv => lhs; whnf
    | refine S.block_r ?_
    | refine S.after_x ?_
    | refine S.after_r ?_
    | refine S.skip ?_
    | refine S.exit ?_
    | refine S.ret ?_
    | refine br_lt ?_; conv => lhs; whnf
    | refine br_lf ?_; conv => lhs; whnf
    | refine br_t (by assumption) ?_; conv => lhs; whnf
    | refine br_f (by assumption) ?_; conv => lhs; whnf
    | refine req_i (by assumption) ?_; conv => lhs; whnf
    | (refine br_nd (fun _ => ?_) (fun _ => ?_) <;> conv => lhs; whnf)
    | (refine br_d (fun _ => ?_) (fun _ => ?_) <;> conv => lhs; whnf)
    | (refine br_n (fun _ => ?_) (fun _ => ?_) <;> conv => lhs; whnf)
    | (refine br_c (fun _ => ?_) (fun _ => ?_) <;> conv => lhs; whnf)
    | refine req_c fun _ => ?_; conv => lhs; whnf
    | refine bnd_c fun _ => ?_; conv => lhs; whnf
    | refine sum_c (fun _ => ?_) (fun _ => ?_)
    | refine (w18_0 S k _).trans ?_
    | refine S.loop ?_; conv => lhs; whnf
    | refine S.back_n ?_; conv => lhs; whnf
    | refine S.back_x ?_; conv => lhs; whnf
    | refine S.back_r ?_; conv => lhs; whnf
    | refine S.fin_r ?_; conv => lhs; whnf
    | refine S.fin_n ?_; conv => lhs; whnf
    | exact ret_c rfl
    | exact none_c
    | refine S.draw_op ?_; conv => lhs; whnf; arg 1; whnf
    | refine S.dk_n ?_; conv => lhs; whnf
    | refine S.draw_nil ?_; conv => lhs; whnf
    | refine andK_br ?_
    | refine andK_req ?_
    | refine andK_b ?_
def sp18 (k : Nat) : FSpec := ⟨[.rd, .rd], fun args objs K => match args, objs with | [v0, v1], [] => listB (.int .i64) true v0 fun a0 => listB (.int .i64) true v1 fun a1 => bindO (book_Same_int.f k a0 a1) fun x : Bool => K (.b x) [] | _, _ => none⟩
theorem snd18 (k : Nat) : Sound Try.prog 18 (sp18 k) := by
  refine ⟨⟨Try.f18, rfl, by kernel_rfl, rfl⟩, fun args objs K r h => ?_⟩
  unfold sp18 at h; dsimp only at h; split at h
  · rename_i v0 v1
    obtain ⟨a0, h, ca0⟩ := listB_spec h
    obtain ⟨a1, h, ca1⟩ := listB_spec h
    obtain ⟨x, hx, h⟩ := bindO_some h
    exact ⟨_, _, h, FnOK.args2 (relL_c ca0 (relL_c ca1 relL_n)) (fn_run tab_ok (en18) mixed rfl ((r18 seals k a0 a1).trans (bindO_eq hx)))⟩
  · cases h
end Go.Vm

/- law16_known -/
namespace Go.Vm
open Go Go.Proofs Go.Pf
def lv8 : Live := look ⟨[], [], [], [], []⟩ []
noncomputable def g8 (k : Nat) : FEnv := (addF 12 (sp12 k) (addF 15 (sp15 k) (addF 18 (sp18 k) (addF 14 (sp14 k) (addF 7 sp7 (addF 6 sp6 (fun _ => none)))))))
theorem en8 (k : Nat) : EnvOK Try.prog (g8 k) := (envOK_add (snd12 k) (envOK_add (snd15 k) (envOK_add (snd18 k) (envOK_add (snd14 k) (envOK_add snd7 (envOK_add snd6 (envOK_nil _)))))))
set_option maxHeartbeats 4000000 in
theorem r8 (S : Seals) (k : Nat) : runF tt (g8 k) lv8 Try.f8 k [] [] = bindO (law16_known.f k) (fun x : Bool => some (.b x, [])) := by
  unfold law16_known.f; refine S.run_s rfl rfl ?_; conv => lhs; arg 5; whnf
  conv => lhs; arg 6; whnf
  repeat' first
    | refine S.seq_op rfl ?_; conv => lhs; whnf
    | refine S.op_n ?_; conv => lhs; whnf
    | refine S.seq_nil ?_
    | refine S.reg_n ?_
    | refine S.region rfl ?_
    | refine S.two ?_
    | refine S.blok ?_
    | refine S.cond rfl ?_
    | refine S.after_n ?_
    | refine S.block_n ?_
    | refine S.block_x ?_; conv => lhs; whnf
    | refine S.block_r ?_
    | refine S.after_x ?_
    | refine S.after_r ?_
    | refine S.skip ?_
    | refine S.exit ?_
    | refine S.ret ?_
    | refine br_lt ?_; conv => lhs; whnf
    | refine br_lf ?_; conv => lhs; whnf
    | refine br_t (by assumption) ?_; conv => lhs; whnf
    | refine br_f (by assumption) ?_; conv => lhs; whnf
    | refine req_i (by assumption) ?_; conv => lhs; whnf
    | (refine br_nd (fun _ => ?_) (fun _ => ?_) <;> conv => lhs; whnf)
    | (refine br_d (fun _ => ?_) (fun _ => ?_) <;> conv => lhs; whnf)
    | (refine br_n (fun _ => ?_) (fun _ => ?_) <;> conv => lhs; whnf)
    | (refine br_c (fun _ => ?_) (fun _ => ?_) <;> conv => lhs; whnf)
    | refine req_c fun _ => ?_; conv => lhs; whnf
    | refine bnd_c fun _ => ?_; conv => lhs; whnf
    | refine sum_c (fun _ => ?_) (fun _ => ?_)
    | refine S.loop ?_; conv => lhs; whnf
    | refine S.back_n ?_; conv => lhs; whnf
    | refine S.back_x ?_; conv => lhs; whnf
    | refine S.back_r ?_; conv => lhs; whnf
    | refine S.fin_r ?_; conv => lhs; whnf
    | refine S.fin_n ?_; conv => lhs; whnf
    | exact ret_c rfl
    | exact none_c
    | refine S.draw_op ?_; conv => lhs; whnf; arg 1; whnf
    | refine S.dk_n ?_; conv => lhs; whnf
    | refine S.draw_nil ?_; conv => lhs; whnf
    | refine andK_br ?_
    | refine andK_req ?_
    | refine andK_b ?_
def sp8 (k : Nat) : FSpec := ⟨[], fun args objs K => match args, objs with | [], [] => bindO (law16_known.f k) fun x : Bool => K (.b x) [] | _, _ => none⟩
theorem snd8 (k : Nat) : Sound Try.prog 8 (sp8 k) := by
  refine ⟨⟨Try.f8, rfl, by kernel_rfl, rfl⟩, fun args objs K r h => ?_⟩
  unfold sp8 at h; dsimp only at h; split at h
  · skip
    obtain ⟨x, hx, h⟩ := bindO_some h
    exact ⟨_, _, h, FnOK.args2 relL_n (fn_run tab_ok (en8 k) mixed rfl ((r8 seals k).trans (bindO_eq hx)))⟩
  · cases h
end Go.Vm

/- law16_TileShares -/
namespace Go.Vm
open Go Go.Proofs Go.Pf
def lv4 : Live := look ⟨[], [], [], [], []⟩ [(7, ⟨[4, 5, 6, 7, 8, 37, 38, 39], [4, 5, 6, 7, 8], [2], [], []⟩), (13, ⟨[4, 5, 6, 7, 8, 11, 12], [4, 6, 7, 8], [2], [], []⟩), (20, ⟨[4, 5, 6, 7, 8, 11, 12, 13, 14, 86, 87], [4, 5, 6, 7, 8, 11, 12, 14], [2], [], []⟩)]
noncomputable def g4 (k : Nat) : FEnv := (addF 8 (sp8 k) (addF 16 (sp16 k) (addF 15 (sp15 k) (addF 14 (sp14 k) (addF 13 (sp13 k) (addF 12 (sp12 k) (addF 11 (sp11 k) (addF 10 (sp10 k) (addF 9 sp9 (fun _ => none))))))))))
theorem en4 (k : Nat) : EnvOK Try.prog (g4 k) := (envOK_add (snd8 k) (envOK_add (snd16 k) (envOK_add (snd15 k) (envOK_add (snd14 k) (envOK_add (snd13 k) (envOK_add (snd12 k) (envOK_add (snd11 k) (envOK_add (snd10 k) (envOK_add snd9 (envOK_nil _))))))))))
set_option maxHeartbeats 4000000 in
theorem w4_0 (S : Seals) (k : Nat) : ∀ (n : Nat) {x4 : List Int} {x7 : Int} {x8 : Int} {x38 : Int} {x39 : Int} {y0 : List Int} {y1 : List Int} {K : CK}, S.lp tt (g4 k) lv4 0 n (loopN Try.f4 0) ⟨[(4, .dat (.int .i64) x4 false), (5, .own 0), (6, .own 1), (7, .i .i64 x7), (8, .i .i64 x8), (37, .own 0), (38, .i .i64 x38), (39, .i .i64 x39)], [(0, .row (.int .i64) y0 false), (1, .row (.int .i64) y1 false)], 2, 119⟩ K = bindO (law16_TileShares.l0 n x4 x7 x8 x38 x39 y0 y1) (fun x : Int => K (.exit 0) ⟨[(4, .dat (.int .i64) x4 false), (5, .own 0), (6, .own 1), (7, .i .i64 x7), (8, .i .i64 x)], [(0, .row (.int .i64) y0 false), (1, .row (.int .i64) y1 false)], 2, 119⟩) := by
  intro n; induction n with
  | zero => intros; rw [S.lp_zero]; exact none_c
  | succ n ih =>
    intros; rw [law16_TileShares.l0]; refine S.lp_succ ?_; conv => lhs; arg 5; whnf
    repeat' first
      | refine S.seq_op rfl ?_; conv => lhs; whnf
      | refine S.op_n ?_; conv => lhs; whnf
      | refine S.seq_nil ?_
      | refine S.reg_n ?_
      | refine S.region rfl ?_
      | refine S.two ?_
      | refine S.blok ?_
      | refine S.cond rfl ?_
      | refine S.after_n ?_
      | refine S.block_n ?_
      | refine S.block_x ?_; conv => lhs; whnf
      | refine S.block_r ?_
      | refine S.after_x ?_
      | refine S.after_r ?_
      | refine S.skip ?_
      | refine S.exit ?_
      | refine S.ret ?_
      | refine br_lt ?_; conv => lhs; whnf
      | refine br_lf ?_; conv => lhs; whnf
      | refine br_t (by assumption) ?_; conv => lhs; whnf
      | refine br_f (by assumption) ?_; conv => lhs; whnf
      | refine req_i (by assumption) ?_; conv => lhs; whnf
      | (refine br_nd (fun _ => ?_) (fun _ => ?_) <;> conv => lhs; whnf)
      | (refine br_d (fun _ => ?_) (fun _ => ?_) <;> conv => lhs; whnf)
      | (refine br_n (fun _ => ?_) (fun _ => ?_) <;> conv => lhs; whnf)
      | (refine br_c (fun _ => ?_) (fun _ => ?_) <;> conv => lhs; whnf)
      | refine req_c fun _ => ?_; conv => lhs; whnf
      | refine bnd_c fun _ => ?_; conv => lhs; whnf
      | refine sum_c (fun _ => ?_) (fun _ => ?_)
      | exact ih
      | refine S.loop ?_; conv => lhs; whnf
      | refine S.back_n ?_; conv => lhs; whnf
      | refine S.back_x ?_; conv => lhs; whnf
      | refine S.back_r ?_; conv => lhs; whnf
      | refine S.fin_r ?_; conv => lhs; whnf
      | refine S.fin_n ?_; conv => lhs; whnf
      | exact ret_c rfl
      | exact none_c
      | refine S.draw_op ?_; conv => lhs; whnf; arg 1; whnf
      | refine S.dk_n ?_; conv => lhs; whnf
      | refine S.draw_nil ?_; conv => lhs; whnf
      | refine andK_br ?_
      | refine andK_req ?_
      | refine andK_b ?_
set_option maxHeartbeats 4000000 in
theorem w4_2 (S : Seals) (k : Nat) : ∀ (n : Nat) {x4 : List Int} {x7 : Int} {x8 : Int} {x12 : Int} {x14 : Int} {x86 : Int} {x87 : Int} {y0 : List Int} {y1 : List Int} {y2 : List Int} {y3 : List Int} {K : CK}, S.lp tt (g4 k) lv4 0 n (loopN Try.f4 2) ⟨[(4, .dat (.int .i64) x4 false), (5, .own 0), (6, .own 1), (7, .i .i64 x7), (8, .i .i64 x8), (11, .own 2), (12, .i .i64 x12), (13, .own 3), (14, .i .i64 x14), (86, .i .i64 x86), (87, .i .i64 x87)], [(0, .row (.int .i64) y0 false), (1, .row (.int .i64) y1 false), (2, .row (.int .i64) y2 false), (3, .row (.int .i64) y3 false)], 4, 119⟩ K = bindO (law16_TileShares.l2 n x4 x7 x8 x12 x14 x86 x87 y0 y1 y2 y3) (Sum.elim (fun x : Int => K (.exit 4) ⟨[(4, .dat (.int .i64) x4 false), (5, .own 0), (6, .own 1), (7, .i .i64 x7), (8, .i .i64 x8), (11, .own 2), (12, .i .i64 x12), (14, .i .i64 x)], [(0, .row (.int .i64) y0 false), (1, .row (.int .i64) y1 false), (2, .row (.int .i64) y2 false)], 3, 119⟩) (fun x : Bool => K .ret ⟨[(2, .b x)], [], 0, 119⟩)) := by
  intro n; induction n with
  | zero => intros; rw [S.lp_zero]; exact none_c
  | succ n ih =>
    intros; rw [law16_TileShares.l2]; refine S.lp_succ ?_; conv => lhs; arg 5; whnf
    repeat' first
      | refine S.seq_op rfl ?_; conv => lhs; whnf
      | refine S.op_n ?_; conv => lhs; whnf
      | refine S.seq_nil ?_
      | refine S.reg_n ?_
      | refine S.region rfl ?_
      | refine S.two ?_
      | refine S.blok ?_
      | refine S.cond rfl ?_
      | refine S.after_n ?_
      | refine S.block_n ?_
      | refine S.block_x ?_; conv => lhs; whnf
      | refine S.block_r ?_
      | refine S.after_x ?_
      | refine S.after_r ?_
      | refine S.skip ?_
      | refine S.exit ?_
      | refine S.ret ?_
      | refine br_lt ?_; conv => lhs; whnf
      | refine br_lf ?_; conv => lhs; whnf
      | refine br_t (by assumption) ?_; conv => lhs; whnf
      | refine br_f (by assumption) ?_; conv => lhs; whnf
      | refine req_i (by assumption) ?_; conv => lhs; whnf
      | (refine br_nd (fun _ => ?_) (fun _ => ?_) <;> conv => lhs; whnf)
      | (refine br_d (fun _ => ?_) (fun _ => ?_) <;> conv => lhs; whnf)
      | (refine br_n (fun _ => ?_) (fun _ => ?_) <;> conv => lhs; whnf)
      | (refine br_c (fun _ => ?_) (fun _ => ?_) <;> conv => lhs; whnf)
      | refine req_c fun _ => ?_; conv => lhs; whnf
      | refine bnd_c fun _ => ?_; conv => lhs; whnf
      | refine sum_c (fun _ => ?_) (fun _ => ?_)
      | refine S.region_d (id := 22) (ds := [0, 0, 3, 7, 0, 0, 48, 112, 255]) (mds := [[], [], [], [], [], [], [], [], []]) (hm := []) (by kernel_rfl) (by kernel_rfl) rfl rfl ?_
      | exact ih
      | refine S.loop ?_; conv => lhs; whnf
      | refine S.back_n ?_; conv => lhs; whnf
      | refine S.back_x ?_; conv => lhs; whnf
      | refine S.back_r ?_; conv => lhs; whnf
      | refine S.fin_r ?_; conv => lhs; whnf
      | refine S.fin_n ?_; conv => lhs; whnf
      | exact ret_c rfl
      | exact none_c
      | refine S.draw_op ?_; conv => lhs; whnf; arg 1; whnf
      | refine S.dk_n ?_; conv => lhs; whnf
      | refine S.draw_nil ?_; conv => lhs; whnf
      | refine andK_br ?_
      | refine andK_req ?_
      | refine andK_b ?_
set_option maxHeartbeats 4000000 in
theorem w4_1 (S : Seals) (k : Nat) : ∀ (n : Nat) {x4 : List Int} {x7 : Int} {x8 : Int} {x12 : Int} {y0 : List Int} {y1 : List Int} {y2 : List Int} {K : CK}, S.lp tt (g4 k) lv4 0 n (loopN Try.f4 1) ⟨[(4, .dat (.int .i64) x4 false), (5, .own 0), (6, .own 1), (7, .i .i64 x7), (8, .i .i64 x8), (11, .own 2), (12, .i .i64 x12)], [(0, .row (.int .i64) y0 false), (1, .row (.int .i64) y1 false), (2, .row (.int .i64) y2 false)], 3, 119⟩ K = bindO (law16_TileShares.l1 k n x4 x7 x8 x12 y0 y1 y2) (Sum.elim (fun x : Int => K (.exit 2) ⟨[(4, .dat (.int .i64) x4 false), (6, .own 0), (7, .i .i64 x), (8, .i .i64 x8)], [(0, .row (.int .i64) y1 false)], 1, 119⟩) (fun x : Bool => K .ret ⟨[(2, .b x)], [], 0, 119⟩)) := by
  intro n; induction n with
  | zero => intros; rw [S.lp_zero]; exact none_c
  | succ n ih =>
    intros; rw [law16_TileShares.l1]; refine S.lp_succ ?_; conv => lhs; arg 5; whnf
    repeat' first
      | refine S.seq_op rfl ?_; conv => lhs; whnf
      | refine S.op_n ?_; conv => lhs; whnf
      | refine S.seq_nil ?_
      | refine S.reg_n ?_
      | refine S.region rfl ?_
      | refine S.two ?_
      | refine S.blok ?_
      | refine S.cond rfl ?_
      | refine S.after_n ?_
      | refine S.block_n ?_
      | refine S.block_x ?_; conv => lhs; whnf
      | refine S.block_r ?_
      | refine S.after_x ?_
      | refine S.after_r ?_
      | refine S.skip ?_
      | refine S.exit ?_
      | refine S.ret ?_
      | refine br_lt ?_; conv => lhs; whnf
      | refine br_lf ?_; conv => lhs; whnf
      | refine br_t (by assumption) ?_; conv => lhs; whnf
      | refine br_f (by assumption) ?_; conv => lhs; whnf
      | refine req_i (by assumption) ?_; conv => lhs; whnf
      | (refine br_nd (fun _ => ?_) (fun _ => ?_) <;> conv => lhs; whnf)
      | (refine br_d (fun _ => ?_) (fun _ => ?_) <;> conv => lhs; whnf)
      | (refine br_n (fun _ => ?_) (fun _ => ?_) <;> conv => lhs; whnf)
      | (refine br_c (fun _ => ?_) (fun _ => ?_) <;> conv => lhs; whnf)
      | refine req_c fun _ => ?_; conv => lhs; whnf
      | refine bnd_c fun _ => ?_; conv => lhs; whnf
      | refine sum_c (fun _ => ?_) (fun _ => ?_)
      | exact ih
      | refine (w4_2 S k _).trans ?_
      | refine S.loop ?_; conv => lhs; whnf
      | refine S.back_n ?_; conv => lhs; whnf
      | refine S.back_x ?_; conv => lhs; whnf
      | refine S.back_r ?_; conv => lhs; whnf
      | refine S.fin_r ?_; conv => lhs; whnf
      | refine S.fin_n ?_; conv => lhs; whnf
      | exact ret_c rfl
      | exact none_c
      | refine S.draw_op ?_; conv => lhs; whnf; arg 1; whnf
      | refine S.dk_n ?_; conv => lhs; whnf
      | refine S.draw_nil ?_; conv => lhs; whnf
      | refine andK_br ?_
      | refine andK_req ?_
      | refine andK_b ?_
set_option maxHeartbeats 4000000 in
theorem r4 (S : Seals) (k : Nat) (a0 : List Int) : runF tt (g4 k) lv4 Try.f4 k [.dat (.int .i64) a0 false] [] = bindO (law16_TileShares.f k a0) (fun x : Bool => some (.b x, [])) := by
  unfold law16_TileShares.f; refine S.run_s rfl rfl ?_; conv => lhs; arg 5; whnf
  conv => lhs; arg 6; whnf
  repeat' first
    | refine S.seq_op rfl ?_; conv => lhs; whnf
    | refine S.op_n ?_; conv => lhs; whnf
    | refine S.seq_nil ?_
    | refine S.reg_n ?_
    | refine S.region rfl ?_
    | refine S.two ?_
    | refine S.blok ?_
    | refine S.cond rfl ?_
    | refine S.after_n ?_
    | refine S.block_n ?_
    | refine S.block_x ?_; conv => lhs; whnf
    | refine S.block_r ?_
    | refine S.after_x ?_
    | refine S.after_r ?_
    | refine S.skip ?_
    | refine S.exit ?_
    | refine S.ret ?_
    | refine br_lt ?_; conv => lhs; whnf
    | refine br_lf ?_; conv => lhs; whnf
    | refine br_t (by assumption) ?_; conv => lhs; whnf
    | refine br_f (by assumption) ?_; conv => lhs; whnf
    | refine req_i (by assumption) ?_; conv => lhs; whnf
    | (refine br_nd (fun _ => ?_) (fun _ => ?_) <;> conv => lhs; whnf)
    | (refine br_d (fun _ => ?_) (fun _ => ?_) <;> conv => lhs; whnf)
    | (refine br_n (fun _ => ?_) (fun _ => ?_) <;> conv => lhs; whnf)
    | (refine br_c (fun _ => ?_) (fun _ => ?_) <;> conv => lhs; whnf)
    | refine req_c fun _ => ?_; conv => lhs; whnf
    | refine bnd_c fun _ => ?_; conv => lhs; whnf
    | refine sum_c (fun _ => ?_) (fun _ => ?_)
    | refine (w4_0 S k _).trans ?_
    | refine (w4_1 S k _).trans ?_
    | refine S.loop ?_; conv => lhs; whnf
    | refine S.back_n ?_; conv => lhs; whnf
    | refine S.back_x ?_; conv => lhs; whnf
    | refine S.back_r ?_; conv => lhs; whnf
    | refine S.fin_r ?_; conv => lhs; whnf
    | refine S.fin_n ?_; conv => lhs; whnf
    | exact ret_c rfl
    | exact none_c
    | refine S.draw_op ?_; conv => lhs; whnf; arg 1; whnf
    | refine S.dk_n ?_; conv => lhs; whnf
    | refine S.draw_nil ?_; conv => lhs; whnf
    | refine andK_br ?_
    | refine andK_req ?_
    | refine andK_b ?_
def sp4 (k : Nat) : FSpec := ⟨[.st], fun args objs K => match args, objs with | [v0], [] => listB (.int .i64) false v0 fun a0 => bindO (law16_TileShares.f k a0) fun x : Bool => K (.b x) [] | _, _ => none⟩
theorem snd4 (k : Nat) : Sound Try.prog 4 (sp4 k) := by
  refine ⟨⟨Try.f4, rfl, by kernel_rfl, rfl⟩, fun args objs K r h => ?_⟩
  unfold sp4 at h; dsimp only at h; split at h
  · rename_i v0
    obtain ⟨a0, h, ca0⟩ := listB_spec h
    obtain ⟨x, hx, h⟩ := bindO_some h
    exact ⟨_, _, h, FnOK.args2 (relL_c ca0 relL_n) (fn_run tab_ok (en4 k) mixed rfl ((r4 seals k a0).trans (bindO_eq hx)))⟩
  · cases h
end Go.Vm
