/- Own texts put together: the walks -/
import Derived.Test.YtjbpaoieanfffaaGreatWk0
import Derived.Test.YtjbpaoieanfffaaGreatWk2
set_option linter.unusedVariables false
set_option maxRecDepth 60000
set_option maxHeartbeats 40000000
namespace Go.Vm
open Go Go.Proofs Go.Pf

def lv20 : Live := look ⟨[],[],[],[],[]⟩ []
noncomputable def g20 : FEnv := (addF 12 sp12 (fun _=>none))
def sp20 : FSpec := ⟨[.rd],fun args objs K => match args,objs with | [.ptr 0 0],[.var [v0,.i .i64 o0_1]] => datK (.int .i64) false v0 fun o0_0 => bindO (keep_Tape_mesh.f o0_0 o0_1) fun x : ByteArray × Int × (List Int) => K (.tup [.own 1,.s x.1]) [.var [.dat (.int .i64) o0_0 false,.i .i64 x.2.1],.row (.int .i64) x.2.2 false] | _,_ => none⟩
def lv44 : Live := look ⟨[],[],[],[],[]⟩ [(3,⟨[0,3,4],[3],[2],[(3,0,.own (.int .i64))],[]⟩)]
noncomputable def g44 : FEnv := (addF 12 sp12 (fun _=>none))
def sp44 (k : Nat) : FSpec := ⟨[.rd],fun args objs K => match args,objs with | [.ptr 0 0],[.var [v0,.i .i64 o0_1]] => datK (.int .i64) false v0 fun o0_0 => bindO (keep_Tape_Shape.f k o0_0 o0_1) fun x : Int × (List Int) => K (.own 1) [.var [.dat (.int .i64) o0_0 false,.i .i64 x.1],.row (.int .i64) x.2 false] | _,_ => none⟩
def lv45 : Live := look ⟨[],[],[],[],[]⟩ []
noncomputable def g45 : FEnv := (addF 12 sp12 (fun _=>none))
def sp45 : FSpec := ⟨[.rd],fun args objs K => match args,objs with | [.ptr 0 0],[.var [v0,.i .i64 o0_1]] => datK (.int .i64) false v0 fun o0_0 => bindO (keep_Tape_Number.f o0_0 o0_1) fun x : Int × Int => K (.i .i64 x.1) [.var [.dat (.int .i64) o0_0 false,.i .i64 x.2]] | _,_ => none⟩
def lv42 : Live := look ⟨[],[],[],[],[]⟩ [(4,⟨[0,1,5],[],[4],[],[]⟩)]
noncomputable def g42 : FEnv := (fun _=>none)
def sp42 (k : Nat) : FSpec := ⟨[.rd,.rd],fun args objs K => match args,objs with | [v0,v1],[] => listB (.int .i64) true v0 fun a0 => listB (.int .i64) true v1 fun a1 => bindO (ref1_Ints.f k a0 a1) fun x : Bool => K (.b x) [] | _,_ => none⟩
def lv46 : Live := look ⟨[],[],[],[],[]⟩ [(3,⟨[0,1,5,8,9],[5],[4],[(5,0,.own (.int .i64))],[]⟩)]
noncomputable def g46 (k : Nat) : FEnv := (addF 42 (sp42 k) (fun _=>none))
def sp46 (k : Nat) : FSpec := ⟨[.rd,.rd],fun args objs K => match args,objs with | [v0,v1],[] => listB (.sl (.int .i64)) true v0 fun a0 => listB (.int .i64) true v1 fun a1 => bindO (keep_same.f k a0 a1) fun x : (List Int) => K (.own 0) [.row (.int .i64) x false] | _,_ => none⟩
theorem lp3000 (S : Seals) (k : Nat) : (∀ (o0_0 : List Int) (o0_1 : Int),runF tt (g20) lv20 Tryz.f20 k [.ptr 0 0] [.var [.dat (.int .i64) o0_0 false,.i .i64 o0_1]] = bindO (keep_Tape_mesh.f o0_0 o0_1) (fun x : ByteArray × Int × (List Int) => some (.tup [.own 1,.s x.1],[.var [.dat (.int .i64) o0_0 false,.i .i64 x.2.1],.row (.int .i64) x.2.2 false]))) ∧ (∀ (o0_0 : List Int) (o0_1 : Int),runF tt (g44) lv44 Tryz.f44 k [.ptr 0 0] [.var [.dat (.int .i64) o0_0 false,.i .i64 o0_1]] = bindO (keep_Tape_Shape.f k o0_0 o0_1) (fun x : Int × (List Int) => some (.own 1,[.var [.dat (.int .i64) o0_0 false,.i .i64 x.1],.row (.int .i64) x.2 false]))) ∧ (∀ (o0_0 : List Int) (o0_1 : Int),runF tt (g45) lv45 Tryz.f45 k [.ptr 0 0] [.var [.dat (.int .i64) o0_0 false,.i .i64 o0_1]] = bindO (keep_Tape_Number.f o0_0 o0_1) (fun x : Int × Int => some (.i .i64 x.1,[.var [.dat (.int .i64) o0_0 false,.i .i64 x.2]]))) ∧ (∀ (a0 : List Int) (a1 : List Int),runF tt (g42) lv42 Tryz.f42 k [.dat (.int .i64) a0 true,.dat (.int .i64) a1 true] [] = bindO (ref1_Ints.f k a0 a1) (fun x : Bool => some (.b x,[]))) ∧ (∀ (a0 : List (List Int)) (a1 : List Int),runF tt (g46 k) lv46 Tryz.f46 k [.dat (.sl (.int .i64)) a0 true,.dat (.int .i64) a1 true] [] = bindO (keep_same.f k a0 a1) (fun x : (List Int) => some (.own 0,[.row (.int .i64) x false]))) := by
 refine cut_ (A := ∀ (n : Nat) {x4 : Int} {y0_0 : List Int} {y0_1 : Int} {y1 : List Int} {K : CK},S.lp tt (g44) lv44 1 n (loopN Tryz.f44 0) ⟨[(0,.ptr 0 0),(3,.own 1),(4,.i .i64 x4)],[(0,.var [.dat (.int .i64) y0_0 false,.i .i64 y0_1]),(1,.row (.int .i64) y1 false)],2,20⟩ K = bindO (keep_Tape_Shape.l0 n x4 y0_0 y0_1 y1) (fun x : Int × (List Int) => K (.exit 0) ⟨[(3,.own 1)],[(0,.var [.dat (.int .i64) y0_0 false,.i .i64 x.1]),(1,.row (.int .i64) x.2 false)],2,20⟩)) (ind_ (by intros; rw [S.lp_zero]; exact none_c) ?_) ?_
 intro n ih; intros; rw [keep_Tape_Shape.l0]; refine S.lp_succ ?_; conv => lhs; arg 5; whnf
 rotate_left
 intro w44_0
 refine cut_ (A := ∀ (n : Nat) {x0 : List Int} {x1 : List Int} {x5 : Int} {K : CK},S.lp tt (g42) lv42 0 n (loopN Tryz.f42 0) ⟨[(0,.dat (.int .i64) x0 true),(1,.dat (.int .i64) x1 true),(5,.i .i64 x5)],[],0,26⟩ K = bindO (ref1_Ints.l0 n x0 x1 x5) (Sum.elim (fun x : Unit => K (.exit 0) ⟨[],[],0,26⟩) (fun x : Bool => K .ret ⟨[(4,.b x)],[],0,26⟩))) (ind_ (by intros; rw [S.lp_zero]; exact none_c) ?_) ?_
 intro n ih; intros; rw [ref1_Ints.l0]; refine S.lp_succ ?_; conv => lhs; arg 5; whnf
 rotate_left
 intro w42_0
 refine cut_ (A := ∀ (n : Nat) {x0 : List (List Int)} {x1 : List Int} {x8 : Int} {x9 : Int} {y0 : List Int} {K : CK},S.lp tt (g46 k) lv46 0 n (loopN Tryz.f46 0) ⟨[(0,.dat (.sl (.int .i64)) x0 true),(1,.dat (.int .i64) x1 true),(5,.own 0),(8,.i .i64 x8),(9,.i .i64 x9)],[(0,.row (.int .i64) y0 false)],1,24⟩ K = bindO (keep_same.l0 k n x0 x1 x8 x9 y0) (fun x : (List Int) => K (.exit 0) ⟨[(5,.own 0)],[(0,.row (.int .i64) x false)],1,24⟩)) (ind_ (by intros; rw [S.lp_zero]; exact none_c) ?_) ?_
 intro n ih; intros; rw [keep_same.l0]; refine S.lp_succ ?_; conv => lhs; arg 5; whnf
 rotate_left
 intro w46_0
 refine ⟨?_,?_,?_,?_,?_⟩
 intro o0_0 o0_1
 unfold keep_Tape_mesh.f; refine S.run_s rfl rfl ?_; conv => lhs; arg 5; whnf
 conv => lhs; arg 6; whnf
 rotate_left
 intro o0_0 o0_1
 unfold keep_Tape_Shape.f; refine S.run_s rfl rfl ?_; conv => lhs; arg 5; whnf
 conv => lhs; arg 6; whnf
 rotate_left
 intro o0_0 o0_1
 unfold keep_Tape_Number.f; refine S.run_s rfl rfl ?_; conv => lhs; arg 5; whnf
 conv => lhs; arg 6; whnf
 rotate_left
 intro a0 a1
 unfold ref1_Ints.f; refine S.run_s rfl rfl ?_; conv => lhs; arg 5; whnf
 conv => lhs; arg 6; whnf
 rotate_left
 intro a0 a1
 unfold keep_same.f; refine S.run_s rfl rfl ?_; conv => lhs; arg 5; whnf
 conv => lhs; arg 6; whnf
 rotate_left
 all_goals repeat' first|(first|refine S.seq_op rfl ?_|refine S.op_n ?_|refine S.block_x ?_|refine br_lt ?_|refine br_lf ?_|refine br_t (by assumption) ?_|refine br_f (by assumption) ?_|refine req_i (by with_reducible assumption) ?_|refine br_nd (fun _=>?_) (fun _=>?_)|refine br_d (fun _=>?_) (fun _=>?_)|refine br_n (fun _=>?_) (fun _=>?_)|refine br_c (fun _=>?_) (fun _=>?_)|refine req_c fun _=>?_|refine req_i (by assumption) ?_|refine bnd_c fun _=>?_)<;>(conv=>lhs;whnf)|refine S.seq_nil ?_|refine S.reg_n ?_|refine S.region rfl ?_|refine S.two ?_|refine S.blok ?_|refine S.cond rfl ?_|refine S.after_n ?_|refine S.block_n ?_|refine S.block_r ?_|refine S.after_x ?_|refine S.after_r ?_|refine S.skip ?_|refine S.exit ?_|refine S.ret ?_|refine sum_c (fun _=>?_) (fun _=>?_)|exact ih|refine (w44_0 _).trans ?_|refine (w42_0 _).trans ?_|refine (w46_0 _).trans ?_|refine S.region_d (id := 6) (ds := [0,0,3,7,0,0,48,112,255]) (mds := [[],[],[],[],[],[],[],[],[]]) (hm := []) (by kernel_rfl) (by kernel_rfl) rfl rfl ?_|(first|refine S.loop ?_|refine S.back_n ?_|refine S.back_x ?_|refine S.back_r ?_|refine S.fin_r ?_|refine S.fin_n ?_|refine S.dk_n ?_|refine S.draw_nil ?_)<;>(conv=>lhs;whnf)|exact ret_c rfl|exact none_c|(refine S.draw_op ?_; conv => lhs; whnf; arg 1; whnf)|refine andK_br ?_|refine andK_req ?_|refine andK_b ?_|refine andK_none ?_
theorem en20 : EnvOK Tryz.prog (g20) := (envOK_add snd12 (envOK_nil _))
theorem snd20 : Sound Tryz.prog 20 (sp20) := by
 refine ⟨⟨Tryz.f20,Tryz.func20,by kernel_rfl,rfl⟩,fun args objs K r h => ?_⟩
 unfold sp20 at h; dsimp only at h; split at h
 ·rename_i v0 o0_1
  obtain ⟨o0_0,h9,eo0_0⟩ := datK_spec h; clear h; subst eo0_0
  have h := h9; clear h9
  obtain ⟨x,hx,h⟩ := bindO_some h
  exact ⟨_,_,h,FnOK.args2 (relL_c rel_i relL_n) (fn_run tab_ok (en20) mixed Tryz.func20 (((lp3000 seals 0).1 o0_0 o0_1).trans (bindO_eq hx)))⟩
 ·cases h
theorem en44 : EnvOK Tryz.prog (g44) := (envOK_add snd12 (envOK_nil _))
theorem snd44 (k : Nat) : Sound Tryz.prog 44 (sp44 k) := by
 refine ⟨⟨Tryz.f44,Tryz.func44,by kernel_rfl,rfl⟩,fun args objs K r h => ?_⟩
 unfold sp44 at h; dsimp only at h; split at h
 ·rename_i v0 o0_1
  obtain ⟨o0_0,h9,eo0_0⟩ := datK_spec h; clear h; subst eo0_0
  have h := h9; clear h9
  obtain ⟨x,hx,h⟩ := bindO_some h
  exact ⟨_,_,h,FnOK.args2 (relL_c rel_i relL_n) (fn_run tab_ok (en44) mixed Tryz.func44 (((lp3000 seals k).2.1 o0_0 o0_1).trans (bindO_eq hx)))⟩
 ·cases h
theorem en45 : EnvOK Tryz.prog (g45) := (envOK_add snd12 (envOK_nil _))
theorem snd45 : Sound Tryz.prog 45 (sp45) := by
 refine ⟨⟨Tryz.f45,Tryz.func45,by kernel_rfl,rfl⟩,fun args objs K r h => ?_⟩
 unfold sp45 at h; dsimp only at h; split at h
 ·rename_i v0 o0_1
  obtain ⟨o0_0,h9,eo0_0⟩ := datK_spec h; clear h; subst eo0_0
  have h := h9; clear h9
  obtain ⟨x,hx,h⟩ := bindO_some h
  exact ⟨_,_,h,FnOK.args2 (relL_c rel_i relL_n) (fn_run tab_ok (en45) mixed Tryz.func45 (((lp3000 seals 0).2.2.1 o0_0 o0_1).trans (bindO_eq hx)))⟩
 ·cases h
theorem en42 : EnvOK Tryz.prog (g42) := (envOK_nil _)
theorem snd42 (k : Nat) : Sound Tryz.prog 42 (sp42 k) := by
 refine ⟨⟨Tryz.f42,Tryz.func42,by kernel_rfl,rfl⟩,fun args objs K r h => ?_⟩
 unfold sp42 at h; dsimp only at h; split at h
 ·rename_i v0 v1
  obtain ⟨a0,h9,ca0⟩ := listB_spec h; clear h
  have h := h9; clear h9
  obtain ⟨a1,h9,ca1⟩ := listB_spec h; clear h
  have h := h9; clear h9
  obtain ⟨x,hx,h⟩ := bindO_some h
  exact ⟨_,_,h,FnOK.args2 (relL_c ca0 (relL_c ca1 relL_n)) (fn_run tab_ok (en42) mixed Tryz.func42 (((lp3000 seals k).2.2.2.1 a0 a1).trans (bindO_eq hx)))⟩
 ·cases h
theorem en46 (k : Nat) : EnvOK Tryz.prog (g46 k) := (envOK_add (snd42 k) (envOK_nil _))
theorem snd46 (k : Nat) : Sound Tryz.prog 46 (sp46 k) := by
 refine ⟨⟨Tryz.f46,Tryz.func46,by kernel_rfl,rfl⟩,fun args objs K r h => ?_⟩
 unfold sp46 at h; dsimp only at h; split at h
 ·rename_i v0 v1
  obtain ⟨a0,h9,ca0⟩ := listB_spec h; clear h
  have h := h9; clear h9
  obtain ⟨a1,h9,ca1⟩ := listB_spec h; clear h
  have h := h9; clear h9
  obtain ⟨x,hx,h⟩ := bindO_some h
  exact ⟨_,_,h,FnOK.args2 (relL_c ca0 (relL_c ca1 relL_n)) (fn_run tab_ok (en46 k) mixed Tryz.func46 (((lp3000 seals k).2.2.2.2 a0 a1).trans (bindO_eq hx)))⟩
 ·cases h
def lv65 : Live := look ⟨[],[],[],[],[]⟩ []
noncomputable def g65 : FEnv := (fun _=>none)
def sp65 : FSpec := ⟨[.rd],fun args objs K => match args,objs with | [.i .i64 a0],[] => bindO (ref10_takes.f a0) fun x : Int × Bool × Bool × Bool × Bool => K (.tup [.i .i64 x.1,.b x.2.1,.b x.2.2.1,.b x.2.2.2.1,.b x.2.2.2.2]) [] | _,_ => none⟩
theorem lp3001 (S : Seals) (k : Nat) : (∀ (a0 : Int),runF tt (g65) lv65 Tryz.f65 k [.i .i64 a0] [] = bindO (ref10_takes.f a0) (fun x : Int × Bool × Bool × Bool × Bool => some (.tup [.i .i64 x.1,.b x.2.1,.b x.2.2.1,.b x.2.2.2.1,.b x.2.2.2.2],[]))) := by
 skip
 intro a0
 unfold ref10_takes.f; refine S.run_s rfl rfl ?_; conv => lhs; arg 5; whnf
 conv => lhs; arg 6; whnf
 all_goals repeat' first|(first|refine S.seq_op rfl ?_|refine S.op_n ?_|refine S.block_x ?_|refine br_lt ?_|refine br_lf ?_|refine br_t (by assumption) ?_|refine br_f (by assumption) ?_|refine req_i (by with_reducible assumption) ?_|refine br_nd (fun _=>?_) (fun _=>?_)|refine br_d (fun _=>?_) (fun _=>?_)|refine br_n (fun _=>?_) (fun _=>?_)|refine br_c (fun _=>?_) (fun _=>?_)|refine req_c fun _=>?_|refine req_i (by assumption) ?_|refine bnd_c fun _=>?_)<;>(conv=>lhs;whnf)|refine S.seq_nil ?_|refine S.reg_n ?_|refine S.region rfl ?_|refine S.two ?_|refine S.blok ?_|refine S.cond rfl ?_|refine S.after_n ?_|refine S.block_n ?_|refine S.block_r ?_|refine S.after_x ?_|refine S.after_r ?_|refine S.skip ?_|refine S.exit ?_|refine S.ret ?_|refine sum_c (fun _=>?_) (fun _=>?_)|(first|refine S.loop ?_|refine S.back_n ?_|refine S.back_x ?_|refine S.back_r ?_|refine S.fin_r ?_|refine S.fin_n ?_|refine S.dk_n ?_|refine S.draw_nil ?_)<;>(conv=>lhs;whnf)|exact ret_c rfl|exact none_c|(refine S.draw_op ?_; conv => lhs; whnf; arg 1; whnf)|refine andK_br ?_|refine andK_req ?_|refine andK_b ?_|refine andK_none ?_
theorem en65 : EnvOK Tryz.prog (g65) := (envOK_nil _)
theorem snd65 : Sound Tryz.prog 65 (sp65) := by
 refine ⟨⟨Tryz.f65,Tryz.func65,by kernel_rfl,rfl⟩,fun args objs K r h => ?_⟩
 unfold sp65 at h; dsimp only at h; split at h
 ·rename_i a0
  obtain ⟨x,hx,h⟩ := bindO_some h
  exact ⟨_,_,h,FnOK.args2 (relL_c rel_i relL_n) (fn_run tab_ok (en65) mixed Tryz.func65 (((lp3001 seals 0) a0).trans (bindO_eq hx)))⟩
 ·cases h
def lv48 : Live := look ⟨[],[],[],[],[]⟩ []
noncomputable def g48 : FEnv := (addF 65 sp65 (fun _=>none))
def sp48 : FSpec := ⟨[.rd,.rd],fun args objs K => match args,objs with | [.agg [.i .i64 a0_0,v0,v1,v2,.i .i64 a0_4,.i .i64 a0_5,.s a0_6],.i .i64 a1],[] => listB (.int .i64) true v0 fun a0_1 => listB (.int .i64) true v1 fun a0_2 => listB (.int .i64) true v2 fun a0_3 => bindO (ref10_form.f a0_0 a0_1 a0_2 a0_3 a0_4 a0_5 a0_6 a1) fun x : Bool => K (.b x) [] | _,_ => none⟩
theorem lp3002 (S : Seals) (k : Nat) : (∀ (a0_0 : Int) (a0_1 : List Int) (a0_2 : List Int) (a0_3 : List Int) (a0_4 : Int) (a0_5 : Int) (a0_6 : ByteArray) (a1 : Int),runF tt (g48) lv48 Tryz.f48 k [.agg [.i .i64 a0_0,.dat (.int .i64) a0_1 true,.dat (.int .i64) a0_2 true,.dat (.int .i64) a0_3 true,.i .i64 a0_4,.i .i64 a0_5,.s a0_6],.i .i64 a1] [] = bindO (ref10_form.f a0_0 a0_1 a0_2 a0_3 a0_4 a0_5 a0_6 a1) (fun x : Bool => some (.b x,[]))) := by
 skip
 intro a0_0 a0_1 a0_2 a0_3 a0_4 a0_5 a0_6 a1
 unfold ref10_form.f; refine S.run_s rfl rfl ?_; conv => lhs; arg 5; whnf
 conv => lhs; arg 6; whnf
 all_goals repeat' first|(first|refine S.seq_op rfl ?_|refine S.op_n ?_|refine S.block_x ?_|refine br_lt ?_|refine br_lf ?_|refine br_t (by assumption) ?_|refine br_f (by assumption) ?_|refine req_i (by with_reducible assumption) ?_|refine br_nd (fun _=>?_) (fun _=>?_)|refine br_d (fun _=>?_) (fun _=>?_)|refine br_n (fun _=>?_) (fun _=>?_)|refine br_c (fun _=>?_) (fun _=>?_)|refine req_c fun _=>?_|refine req_i (by assumption) ?_|refine bnd_c fun _=>?_)<;>(conv=>lhs;whnf)|refine S.seq_nil ?_|refine S.reg_n ?_|refine S.region rfl ?_|refine S.two ?_|refine S.blok ?_|refine S.cond rfl ?_|refine S.after_n ?_|refine S.block_n ?_|refine S.block_r ?_|refine S.after_x ?_|refine S.after_r ?_|refine S.skip ?_|refine S.exit ?_|refine S.ret ?_|refine sum_c (fun _=>?_) (fun _=>?_)|(first|refine S.loop ?_|refine S.back_n ?_|refine S.back_x ?_|refine S.back_r ?_|refine S.fin_r ?_|refine S.fin_n ?_|refine S.dk_n ?_|refine S.draw_nil ?_)<;>(conv=>lhs;whnf)|exact ret_c rfl|exact none_c|(refine S.draw_op ?_; conv => lhs; whnf; arg 1; whnf)|refine andK_br ?_|refine andK_req ?_|refine andK_b ?_|refine andK_none ?_
theorem en48 : EnvOK Tryz.prog (g48) := (envOK_add snd65 (envOK_nil _))
theorem snd48 : Sound Tryz.prog 48 (sp48) := by
 refine ⟨⟨Tryz.f48,Tryz.func48,by kernel_rfl,rfl⟩,fun args objs K r h => ?_⟩
 unfold sp48 at h; dsimp only at h; split at h
 ·rename_i a0_0 v0 v1 v2 a0_4 a0_5 a0_6 a1
  obtain ⟨a0_1,h9,ca0_1⟩ := listB_spec h; clear h
  have h := h9; clear h9
  obtain ⟨a0_2,h9,ca0_2⟩ := listB_spec h; clear h
  have h := h9; clear h9
  obtain ⟨a0_3,h9,ca0_3⟩ := listB_spec h; clear h
  have h := h9; clear h9
  obtain ⟨x,hx,h⟩ := bindO_some h
  exact ⟨_,_,h,FnOK.args2 (relL_c (rel_agg (relL_c rel_i (relL_c ca0_1 (relL_c ca0_2 (relL_c ca0_3 (relL_c rel_i (relL_c rel_i (relL_c rel_i relL_n)))))))) (relL_c rel_i relL_n)) (fn_run tab_ok (en48) mixed Tryz.func48 (((lp3002 seals 0) a0_0 a0_1 a0_2 a0_3 a0_4 a0_5 a0_6 a1).trans (bindO_eq hx)))⟩
 ·cases h
def lv49 : Live := look ⟨[],[],[],[],[]⟩ [(3,⟨[0,3,4],[3],[2],[],[]⟩)]
noncomputable def g49 : FEnv := (fun _=>none)
def sp49 (k : Nat) : FSpec := ⟨[.rd],fun args objs K => match args,objs with | [v0],[] => listB (.int .i64) true v0 fun a0 => bindO (ref1_Right.f k a0) fun x : Bool => K (.b x) [] | _,_ => none⟩
def lv23 : Live := look ⟨[],[],[],[],[]⟩ [(5,⟨[0,3,4],[3],[2],[],[]⟩)]
noncomputable def g23 (k : Nat) : FEnv := (addF 49 (sp49 k) (fun _=>none))
def sp23 (k : Nat) : FSpec := ⟨[.rd],fun args objs K => match args,objs with | [v0],[] => listB (.int .i64) true v0 fun a0 => bindO (ref1_Size.f k a0) fun x : Int => K (.i .i64 x) [] | _,_ => none⟩
def lv50 : Live := look ⟨[],[],[],[],[]⟩ [(3,⟨[0,1,4,5,6],[4,5],[4],[(5,1,.own (.int .i64))],[]⟩)]
noncomputable def g50 (k : Nat) : FEnv := (addF 23 (sp23 k) (fun _=>none))
def sp50 (k : Nat) : FSpec := ⟨[.rd,.rd],fun args objs K => match args,objs with | [v0,.i .i64 a1],[] => listB (.int .i64) true v0 fun a0 => bindO (ref1_Fill.f k a0 a1) fun x : (List Int) × (List Int) => K (.agg [.own 0,.own 1]) [.row (.int .i64) x.1 false,.row (.int .i64) x.2 false] | _,_ => none⟩
def lv66 : Live := look ⟨[],[],[],[],[]⟩ []
noncomputable def g66 : FEnv := (fun _=>none)
def sp66 : FSpec := ⟨[.rd,.rd],fun args objs K => match args,objs with | [.agg [.i .i64 a0_0,v0,v1,v2,.i .i64 a0_4,.i .i64 a0_5,.s a0_6],.i .i64 a1],[] => listB (.int .i64) true v0 fun a0_1 => listB (.int .i64) true v1 fun a0_2 => listB (.int .i64) true v2 fun a0_3 => bindO (ref10_count.f a0_0 a0_1 a0_2 a0_3 a0_4 a0_5 a0_6 a1) fun x : Bool => K (.b x) [] | _,_ => none⟩
def lv97 : Live := look ⟨[],[],[],[],[]⟩ [(5,⟨[0,1,5,6],[5],[4],[],[]⟩),(1000000,⟨[],[],[],[(4,0,.own (.int .i64))],[]⟩)]
noncomputable def g97 (k : Nat) : FEnv := (addF 23 (sp23 k) (fun _=>none))
def sp97 (k : Nat) : FSpec := ⟨[.rd,.rd],fun args objs K => match args,objs with | [v0,.i .i64 a1],[] => listB (.int .i64) true v0 fun a0 => bindO (ref1_Place.f k a0 a1) fun x : (List Int) => K (.own 0) [.row (.int .i64) x false] | _,_ => none⟩
theorem lp3003 (S : Seals) (k : Nat) : (∀ (a0 : List Int),runF tt (g49) lv49 Tryz.f49 k [.dat (.int .i64) a0 true] [] = bindO (ref1_Right.f k a0) (fun x : Bool => some (.b x,[]))) ∧ (∀ (a0 : List Int),runF tt (g23 k) lv23 Tryz.f23 k [.dat (.int .i64) a0 true] [] = bindO (ref1_Size.f k a0) (fun x : Int => some (.i .i64 x,[]))) ∧ (∀ (a0 : List Int) (a1 : Int),runF tt (g50 k) lv50 Tryz.f50 k [.dat (.int .i64) a0 true,.i .i64 a1] [] = bindO (ref1_Fill.f k a0 a1) (fun x : (List Int) × (List Int) => some (.agg [.own 0,.own 1],[.row (.int .i64) x.1 false,.row (.int .i64) x.2 false]))) ∧ (∀ (a0_0 : Int) (a0_1 : List Int) (a0_2 : List Int) (a0_3 : List Int) (a0_4 : Int) (a0_5 : Int) (a0_6 : ByteArray) (a1 : Int),runF tt (g66) lv66 Tryz.f66 k [.agg [.i .i64 a0_0,.dat (.int .i64) a0_1 true,.dat (.int .i64) a0_2 true,.dat (.int .i64) a0_3 true,.i .i64 a0_4,.i .i64 a0_5,.s a0_6],.i .i64 a1] [] = bindO (ref10_count.f a0_0 a0_1 a0_2 a0_3 a0_4 a0_5 a0_6 a1) (fun x : Bool => some (.b x,[]))) ∧ (∀ (a0 : List Int) (a1 : Int),runF tt (g97 k) lv97 Tryz.f97 k [.dat (.int .i64) a0 true,.i .i64 a1] [] = bindO (ref1_Place.f k a0 a1) (fun x : (List Int) => some (.own 0,[.row (.int .i64) x false]))) := by
 refine cut_ (A := ∀ (n : Nat) {x0 : List Int} {x3 : Int} {x4 : Int} {K : CK},S.lp tt (g49) lv49 0 n (loopN Tryz.f49 0) ⟨[(0,.dat (.int .i64) x0 true),(3,.i .i64 x3),(4,.i .i64 x4)],[],0,35⟩ K = bindO (ref1_Right.l0 n x0 x3 x4) (Sum.elim (fun x : Int => K (.exit 0) ⟨[(3,.i .i64 x)],[],0,35⟩) (fun x : Bool => K .ret ⟨[(2,.b x)],[],0,35⟩))) (ind_ (by intros; rw [S.lp_zero]; exact none_c) ?_) ?_
 intro n ih; intros; rw [ref1_Right.l0]; refine S.lp_succ ?_; conv => lhs; arg 5; whnf
 rotate_left
 intro w49_0
 refine cut_ (A := ∀ (n : Nat) {x0 : List Int} {x3 : Int} {x4 : Int} {K : CK},S.lp tt (g23 k) lv23 0 n (loopN Tryz.f23 0) ⟨[(0,.dat (.int .i64) x0 true),(3,.i .i64 x3),(4,.i .i64 x4)],[],0,21⟩ K = bindO (ref1_Size.l0 n x0 x3 x4) (fun x : Int => K (.exit 0) ⟨[(3,.i .i64 x)],[],0,21⟩)) (ind_ (by intros; rw [S.lp_zero]; exact none_c) ?_) ?_
 intro n ih; intros; rw [ref1_Size.l0]; refine S.lp_succ ?_; conv => lhs; arg 5; whnf
 rotate_left
 intro w23_0
 refine cut_ (A := ∀ (n : Nat) {x0 : List Int} {x1 : Int} {x6 : Int} {y2 : List Int} {y3 : List Int} {K : CK},S.lp tt (g50 k) lv50 0 n (loopN Tryz.f50 0) ⟨[(0,.dat (.int .i64) x0 true),(1,.i .i64 x1),(4,.ptr 0 0),(5,.ptr 1 0),(6,.i .i64 x6)],[(0,.var [.nilsl,.nilsl]),(1,.var [.own 2,.own 3]),(2,.row (.int .i64) y2 false),(3,.row (.int .i64) y3 false)],4,24⟩ K = bindO (ref1_Fill.l0 k n x0 x1 x6 y2 y3) (fun x : (List Int) => K (.exit 0) ⟨[(4,.ptr 0 0),(5,.ptr 1 0)],[(0,.var [.nilsl,.nilsl]),(1,.var [.own 2,.own 3]),(2,.row (.int .i64) y2 false),(3,.row (.int .i64) x false)],4,24⟩)) (ind_ (by intros; rw [S.lp_zero]; exact none_c) ?_) ?_
 intro n ih; intros; rw [ref1_Fill.l0]; refine S.lp_succ ?_; conv => lhs; arg 5; whnf
 rotate_left
 intro w50_0
 refine cut_ (A := ∀ (n : Nat) {x0 : List Int} {x1 : Int} {x6 : Int} {y0 : List Int} {K : CK},S.lp tt (g97 k) lv97 0 n (loopN Tryz.f97 0) ⟨[(0,.dat (.int .i64) x0 true),(1,.i .i64 x1),(5,.own 0),(6,.i .i64 x6)],[(0,.row (.int .i64) y0 false)],1,41⟩ K = bindO (ref1_Place.l0 n x0 x1 x6 y0) (fun x : (List Int) => K (.exit 0) ⟨[(5,.own 0)],[(0,.row (.int .i64) x false)],1,41⟩)) (ind_ (by intros; rw [S.lp_zero]; exact none_c) ?_) ?_
 intro n ih; intros; rw [ref1_Place.l0]; refine S.lp_succ ?_; conv => lhs; arg 5; whnf
 rotate_left
 intro w97_0
 refine ⟨?_,?_,?_,?_,?_⟩
 intro a0
 unfold ref1_Right.f; refine S.run_s rfl rfl ?_; conv => lhs; arg 5; whnf
 conv => lhs; arg 6; whnf
 rotate_left
 intro a0
 unfold ref1_Size.f; refine S.run_s rfl rfl ?_; conv => lhs; arg 5; whnf
 conv => lhs; arg 6; whnf
 rotate_left
 intro a0 a1
 unfold ref1_Fill.f; refine S.run_s rfl rfl ?_; conv => lhs; arg 5; whnf
 conv => lhs; arg 6; whnf
 rotate_left
 intro a0_0 a0_1 a0_2 a0_3 a0_4 a0_5 a0_6 a1
 unfold ref10_count.f; refine S.run_s rfl rfl ?_; conv => lhs; arg 5; whnf
 conv => lhs; arg 6; whnf
 rotate_left
 intro a0 a1
 unfold ref1_Place.f; refine S.run_s rfl rfl ?_; conv => lhs; arg 5; whnf
 conv => lhs; arg 6; whnf
 rotate_left
 all_goals repeat' first|(first|refine S.seq_op rfl ?_|refine S.op_n ?_|refine S.block_x ?_|refine br_lt ?_|refine br_lf ?_|refine br_t (by assumption) ?_|refine br_f (by assumption) ?_|refine req_i (by with_reducible assumption) ?_|refine br_nd (fun _=>?_) (fun _=>?_)|refine br_d (fun _=>?_) (fun _=>?_)|refine br_n (fun _=>?_) (fun _=>?_)|refine br_c (fun _=>?_) (fun _=>?_)|refine req_c fun _=>?_|refine req_i (by assumption) ?_|refine bnd_c fun _=>?_)<;>(conv=>lhs;whnf)|refine S.seq_nil ?_|refine S.reg_n ?_|refine S.region rfl ?_|refine S.two ?_|refine S.blok ?_|refine S.cond rfl ?_|refine S.after_n ?_|refine S.block_n ?_|refine S.block_r ?_|refine S.after_x ?_|refine S.after_r ?_|refine S.skip ?_|refine S.exit ?_|refine S.ret ?_|refine sum_c (fun _=>?_) (fun _=>?_)|exact ih|refine (w49_0 _).trans ?_|refine (w23_0 _).trans ?_|refine (w50_0 _).trans ?_|refine (w97_0 _).trans ?_|(first|refine S.loop ?_|refine S.back_n ?_|refine S.back_x ?_|refine S.back_r ?_|refine S.fin_r ?_|refine S.fin_n ?_|refine S.dk_n ?_|refine S.draw_nil ?_)<;>(conv=>lhs;whnf)|exact ret_c rfl|exact none_c|(refine S.draw_op ?_; conv => lhs; whnf; arg 1; whnf)|refine andK_br ?_|refine andK_req ?_|refine andK_b ?_|refine andK_none ?_
theorem en49 : EnvOK Tryz.prog (g49) := (envOK_nil _)
theorem snd49 (k : Nat) : Sound Tryz.prog 49 (sp49 k) := by
 refine ⟨⟨Tryz.f49,Tryz.func49,by kernel_rfl,rfl⟩,fun args objs K r h => ?_⟩
 unfold sp49 at h; dsimp only at h; split at h
 ·rename_i v0
  obtain ⟨a0,h9,ca0⟩ := listB_spec h; clear h
  have h := h9; clear h9
  obtain ⟨x,hx,h⟩ := bindO_some h
  exact ⟨_,_,h,FnOK.args2 (relL_c ca0 relL_n) (fn_run tab_ok (en49) mixed Tryz.func49 (((lp3003 seals k).1 a0).trans (bindO_eq hx)))⟩
 ·cases h
theorem en23 (k : Nat) : EnvOK Tryz.prog (g23 k) := (envOK_add (snd49 k) (envOK_nil _))
theorem snd23 (k : Nat) : Sound Tryz.prog 23 (sp23 k) := by
 refine ⟨⟨Tryz.f23,Tryz.func23,by kernel_rfl,rfl⟩,fun args objs K r h => ?_⟩
 unfold sp23 at h; dsimp only at h; split at h
 ·rename_i v0
  obtain ⟨a0,h9,ca0⟩ := listB_spec h; clear h
  have h := h9; clear h9
  obtain ⟨x,hx,h⟩ := bindO_some h
  exact ⟨_,_,h,FnOK.args2 (relL_c ca0 relL_n) (fn_run tab_ok (en23 k) mixed Tryz.func23 (((lp3003 seals k).2.1 a0).trans (bindO_eq hx)))⟩
 ·cases h
theorem en50 (k : Nat) : EnvOK Tryz.prog (g50 k) := (envOK_add (snd23 k) (envOK_nil _))
theorem snd50 (k : Nat) : Sound Tryz.prog 50 (sp50 k) := by
 refine ⟨⟨Tryz.f50,Tryz.func50,by kernel_rfl,rfl⟩,fun args objs K r h => ?_⟩
 unfold sp50 at h; dsimp only at h; split at h
 ·rename_i v0 a1
  obtain ⟨a0,h9,ca0⟩ := listB_spec h; clear h
  have h := h9; clear h9
  obtain ⟨x,hx,h⟩ := bindO_some h
  exact ⟨_,_,h,FnOK.args2 (relL_c ca0 (relL_c rel_i relL_n)) (fn_run tab_ok (en50 k) mixed Tryz.func50 (((lp3003 seals k).2.2.1 a0 a1).trans (bindO_eq hx)))⟩
 ·cases h
theorem en66 : EnvOK Tryz.prog (g66) := (envOK_nil _)
theorem snd66 : Sound Tryz.prog 66 (sp66) := by
 refine ⟨⟨Tryz.f66,Tryz.func66,by kernel_rfl,rfl⟩,fun args objs K r h => ?_⟩
 unfold sp66 at h; dsimp only at h; split at h
 ·rename_i a0_0 v0 v1 v2 a0_4 a0_5 a0_6 a1
  obtain ⟨a0_1,h9,ca0_1⟩ := listB_spec h; clear h
  have h := h9; clear h9
  obtain ⟨a0_2,h9,ca0_2⟩ := listB_spec h; clear h
  have h := h9; clear h9
  obtain ⟨a0_3,h9,ca0_3⟩ := listB_spec h; clear h
  have h := h9; clear h9
  obtain ⟨x,hx,h⟩ := bindO_some h
  exact ⟨_,_,h,FnOK.args2 (relL_c (rel_agg (relL_c rel_i (relL_c ca0_1 (relL_c ca0_2 (relL_c ca0_3 (relL_c rel_i (relL_c rel_i (relL_c rel_i relL_n)))))))) (relL_c rel_i relL_n)) (fn_run tab_ok (en66) mixed Tryz.func66 (((lp3003 seals 0).2.2.2.1 a0_0 a0_1 a0_2 a0_3 a0_4 a0_5 a0_6 a1).trans (bindO_eq hx)))⟩
 ·cases h
theorem en97 (k : Nat) : EnvOK Tryz.prog (g97 k) := (envOK_add (snd23 k) (envOK_nil _))
theorem snd97 (k : Nat) : Sound Tryz.prog 97 (sp97 k) := by
 refine ⟨⟨Tryz.f97,Tryz.func97,by kernel_rfl,rfl⟩,fun args objs K r h => ?_⟩
 unfold sp97 at h; dsimp only at h; split at h
 ·rename_i v0 a1
  obtain ⟨a0,h9,ca0⟩ := listB_spec h; clear h
  have h := h9; clear h9
  obtain ⟨x,hx,h⟩ := bindO_some h
  exact ⟨_,_,h,FnOK.args2 (relL_c ca0 (relL_c rel_i relL_n)) (fn_run tab_ok (en97 k) mixed Tryz.func97 (((lp3003 seals k).2.2.2.2 a0 a1).trans (bindO_eq hx)))⟩
 ·cases h
def lv67 : Live := look ⟨[],[],[],[],[]⟩ [(3,⟨[0,1,4,5,6],[4,5],[4],[],[]⟩)]
noncomputable def g67 (k : Nat) : FEnv := (addF 97 (sp97 k) (addF 50 (sp50 k) (fun _=>none)))
def sp67 (k : Nat) : FSpec := ⟨[.rd,.rd],fun args objs K => match args,objs with | [v0,.i .i64 a1],[] => listB (.int .i64) true v0 fun a0 => bindO (ref1_Iota.f k a0 a1) fun x : (List Int) × (List Int) => K (.agg [.own 0,.own 1]) [.row (.int .i64) x.1 false,.row (.int .i64) x.2 false] | _,_ => none⟩
def lv100 : Live := look ⟨[],[],[],[],[]⟩ []
noncomputable def g100 (k : Nat) : FEnv := (addF 23 (sp23 k) (addF 49 (sp49 k) (fun _=>none)))
def sp100 (k : Nat) : FSpec := ⟨[.rd],fun args objs K => match args,objs with | [.agg [v0,v1]],[] => listB (.int .i64) true v0 fun a0_0 => listB (.int .i64) true v1 fun a0_1 => bindO (ref1_Tensor.f k a0_0 a0_1) fun x : Bool => K (.b x) [] | _,_ => none⟩
def lv98 : Live := look ⟨[],[],[],[],[]⟩ [(2,⟨[0,3],[],[2],[],[]⟩)]
noncomputable def g98 (k : Nat) : FEnv := (addF 42 (sp42 k) (addF 100 (sp100 k) (fun _=>none)))
def sp98 (k : Nat) : FSpec := ⟨[.rd],fun args objs K => match args,objs with | [v0],[] => listB (.pair (.sl (.int .i64)) (.sl (.int .i64))) true v0 fun a0 => bindO (ref4_all.f k a0) fun x : Int => K (.i .i64 x) [] | _,_ => none⟩
def lv122 : Live := look ⟨[],[],[],[],[]⟩ []
noncomputable def g122 : FEnv := (fun _=>none)
def sp122 : FSpec := ⟨[.rd],fun args objs K => match args,objs with | [.b a0],[] => bindO (ref4_bit.f a0) fun x : Int => K (.i .i64 x) [] | _,_ => none⟩
def lv99 : Live := look ⟨[],[],[],[],[]⟩ []
noncomputable def g99 : FEnv := (addF 122 sp122 (fun _=>none))
def sp99 : FSpec := ⟨[.rd,.rd,.rd],fun args objs K => match args,objs with | [.i .i64 a0,.i .i64 a1,.i .i64 a2],[] => bindO (ref4_Step.f a0 a1 a2) fun x : Int => K (.i .i64 x) [] | _,_ => none⟩
theorem lp3004 (S : Seals) (k : Nat) : (∀ (a0 : List Int) (a1 : Int),runF tt (g67 k) lv67 Tryz.f67 k [.dat (.int .i64) a0 true,.i .i64 a1] [] = bindO (ref1_Iota.f k a0 a1) (fun x : (List Int) × (List Int) => some (.agg [.own 0,.own 1],[.row (.int .i64) x.1 false,.row (.int .i64) x.2 false]))) ∧ (∀ (a0_0 : List Int) (a0_1 : List Int),runF tt (g100 k) lv100 Tryz.f100 k [.agg [.dat (.int .i64) a0_0 true,.dat (.int .i64) a0_1 true]] [] = bindO (ref1_Tensor.f k a0_0 a0_1) (fun x : Bool => some (.b x,[]))) ∧ (∀ (a0 : List ((List Int) × (List Int))),runF tt (g98 k) lv98 Tryz.f98 k [.dat (.pair (.sl (.int .i64)) (.sl (.int .i64))) a0 true] [] = bindO (ref4_all.f k a0) (fun x : Int => some (.i .i64 x,[]))) ∧ (∀ (a0 : Bool),runF tt (g122) lv122 Tryz.f122 k [.b a0] [] = bindO (ref4_bit.f a0) (fun x : Int => some (.i .i64 x,[]))) ∧ (∀ (a0 : Int) (a1 : Int) (a2 : Int),runF tt (g99) lv99 Tryz.f99 k [.i .i64 a0,.i .i64 a1,.i .i64 a2] [] = bindO (ref4_Step.f a0 a1 a2) (fun x : Int => some (.i .i64 x,[]))) := by
 refine cut_ (A := ∀ (n : Nat) {x0 : List Int} {x1 : Int} {x6 : Int} {y2 : List Int} {y3 : List Int} {K : CK},S.lp tt (g67 k) lv67 0 n (loopN Tryz.f67 0) ⟨[(0,.dat (.int .i64) x0 true),(1,.i .i64 x1),(4,.ptr 0 0),(5,.ptr 1 0),(6,.i .i64 x6)],[(0,.var [.nilsl,.nilsl]),(1,.var [.own 2,.own 3]),(2,.row (.int .i64) y2 false),(3,.row (.int .i64) y3 false)],4,27⟩ K = bindO (ref1_Iota.l0 k n x0 x1 x6 y2 y3) (fun x : (List Int) => K (.exit 0) ⟨[(4,.ptr 0 0),(5,.ptr 1 0)],[(0,.var [.nilsl,.nilsl]),(1,.var [.own 2,.own 3]),(2,.row (.int .i64) y2 false),(3,.row (.int .i64) x false)],4,27⟩)) (ind_ (by intros; rw [S.lp_zero]; exact none_c) ?_) ?_
 intro n ih; intros; rw [ref1_Iota.l0]; refine S.lp_succ ?_; conv => lhs; arg 5; whnf
 rotate_left
 intro w67_0
 refine cut_ (A := ∀ (n : Nat) {x0 : List ((List Int) × (List Int))} {x3 : Int} {K : CK},S.lp tt (g98 k) lv98 0 n (loopN Tryz.f98 0) ⟨[(0,.dat (.pair (.sl (.int .i64)) (.sl (.int .i64))) x0 true),(3,.i .i64 x3)],[],0,29⟩ K = bindO (ref4_all.l0 k n x0 x3) (Sum.elim (fun x : Unit => K (.exit 0) ⟨[],[],0,29⟩) (fun x : Int => K .ret ⟨[(2,.i .i64 x)],[],0,29⟩))) (ind_ (by intros; rw [S.lp_zero]; exact none_c) ?_) ?_
 intro n ih; intros; rw [ref4_all.l0]; refine S.lp_succ ?_; conv => lhs; arg 5; whnf
 rotate_left
 intro w98_0
 refine ⟨?_,?_,?_,?_,?_⟩
 intro a0 a1
 unfold ref1_Iota.f; refine S.run_s rfl rfl ?_; conv => lhs; arg 5; whnf
 conv => lhs; arg 6; whnf
 rotate_left
 intro a0_0 a0_1
 unfold ref1_Tensor.f; refine S.run_s rfl rfl ?_; conv => lhs; arg 5; whnf
 conv => lhs; arg 6; whnf
 rotate_left
 intro a0
 unfold ref4_all.f; refine S.run_s rfl rfl ?_; conv => lhs; arg 5; whnf
 conv => lhs; arg 6; whnf
 rotate_left
 intro a0
 unfold ref4_bit.f; refine S.run_s rfl rfl ?_; conv => lhs; arg 5; whnf
 conv => lhs; arg 6; whnf
 rotate_left
 intro a0 a1 a2
 unfold ref4_Step.f; refine S.run_s rfl rfl ?_; conv => lhs; arg 5; whnf
 conv => lhs; arg 6; whnf
 rotate_left
 all_goals repeat' first|(first|refine S.seq_op rfl ?_|refine S.op_n ?_|refine S.block_x ?_|refine br_lt ?_|refine br_lf ?_|refine br_t (by assumption) ?_|refine br_f (by assumption) ?_|refine req_i (by with_reducible assumption) ?_|refine br_nd (fun _=>?_) (fun _=>?_)|refine br_d (fun _=>?_) (fun _=>?_)|refine br_n (fun _=>?_) (fun _=>?_)|refine br_c (fun _=>?_) (fun _=>?_)|refine req_c fun _=>?_|refine req_i (by assumption) ?_|refine bnd_c fun _=>?_)<;>(conv=>lhs;whnf)|refine S.seq_nil ?_|refine S.reg_n ?_|refine S.region rfl ?_|refine S.two ?_|refine S.blok ?_|refine S.cond rfl ?_|refine S.after_n ?_|refine S.block_n ?_|refine S.block_r ?_|refine S.after_x ?_|refine S.after_r ?_|refine S.skip ?_|refine S.exit ?_|refine S.ret ?_|refine sum_c (fun _=>?_) (fun _=>?_)|refine S.region_d (id := 5) (ds := [0,1,0,0,0,24,0,120,248,511,1023]) (mds := [[],[],[],[],[],[],[],[],[],[],[3]]) (hm := [(10,[3])]) (by kernel_rfl) (by kernel_rfl) rfl rfl ?_|exact ih|refine (w67_0 _).trans ?_|refine (w98_0 _).trans ?_|refine S.region_d (id := 1) (ds := [0,1,3,7,15,31,63,15,143,399,1023,2047,4095]) (mds := [[],[],[],[],[],[],[],[],[],[],[],[],[]]) (hm := []) (by kernel_rfl) (by kernel_rfl) rfl rfl ?_|refine S.region_d (id := 4) (ds := [0,0,3,7,15,31,63,127,127,511,1023,2047,127,4223,12415,28799,65535,131071,262143]) (mds := [[],[],[],[],[],[],[],[],[],[],[],[],[],[],[],[],[],[],[]]) (hm := []) (by kernel_rfl) (by kernel_rfl) rfl rfl ?_|(first|refine S.loop ?_|refine S.back_n ?_|refine S.back_x ?_|refine S.back_r ?_|refine S.fin_r ?_|refine S.fin_n ?_|refine S.dk_n ?_|refine S.draw_nil ?_)<;>(conv=>lhs;whnf)|exact ret_c rfl|exact none_c|(refine S.draw_op ?_; conv => lhs; whnf; arg 1; whnf)|refine andK_br ?_|refine andK_req ?_|refine andK_b ?_|refine andK_none ?_
theorem en67 (k : Nat) : EnvOK Tryz.prog (g67 k) := (envOK_add (snd97 k) (envOK_add (snd50 k) (envOK_nil _)))
theorem snd67 (k : Nat) : Sound Tryz.prog 67 (sp67 k) := by
 refine ⟨⟨Tryz.f67,Tryz.func67,by kernel_rfl,rfl⟩,fun args objs K r h => ?_⟩
 unfold sp67 at h; dsimp only at h; split at h
 ·rename_i v0 a1
  obtain ⟨a0,h9,ca0⟩ := listB_spec h; clear h
  have h := h9; clear h9
  obtain ⟨x,hx,h⟩ := bindO_some h
  exact ⟨_,_,h,FnOK.args2 (relL_c ca0 (relL_c rel_i relL_n)) (fn_run tab_ok (en67 k) mixed Tryz.func67 (((lp3004 seals k).1 a0 a1).trans (bindO_eq hx)))⟩
 ·cases h
theorem en100 (k : Nat) : EnvOK Tryz.prog (g100 k) := (envOK_add (snd23 k) (envOK_add (snd49 k) (envOK_nil _)))
theorem snd100 (k : Nat) : Sound Tryz.prog 100 (sp100 k) := by
 refine ⟨⟨Tryz.f100,Tryz.func100,by kernel_rfl,rfl⟩,fun args objs K r h => ?_⟩
 unfold sp100 at h; dsimp only at h; split at h
 ·rename_i v0 v1
  obtain ⟨a0_0,h9,ca0_0⟩ := listB_spec h; clear h
  have h := h9; clear h9
  obtain ⟨a0_1,h9,ca0_1⟩ := listB_spec h; clear h
  have h := h9; clear h9
  obtain ⟨x,hx,h⟩ := bindO_some h
  exact ⟨_,_,h,FnOK.args2 (relL_c (rel_agg (relL_c ca0_0 (relL_c ca0_1 relL_n))) relL_n) (fn_run tab_ok (en100 k) mixed Tryz.func100 (((lp3004 seals k).2.1 a0_0 a0_1).trans (bindO_eq hx)))⟩
 ·cases h
theorem en98 (k : Nat) : EnvOK Tryz.prog (g98 k) := (envOK_add (snd42 k) (envOK_add (snd100 k) (envOK_nil _)))
theorem snd98 (k : Nat) : Sound Tryz.prog 98 (sp98 k) := by
 refine ⟨⟨Tryz.f98,Tryz.func98,by kernel_rfl,rfl⟩,fun args objs K r h => ?_⟩
 unfold sp98 at h; dsimp only at h; split at h
 ·rename_i v0
  obtain ⟨a0,h9,ca0⟩ := listB_spec h; clear h
  have h := h9; clear h9
  obtain ⟨x,hx,h⟩ := bindO_some h
  exact ⟨_,_,h,FnOK.args2 (relL_c ca0 relL_n) (fn_run tab_ok (en98 k) mixed Tryz.func98 (((lp3004 seals k).2.2.1 a0).trans (bindO_eq hx)))⟩
 ·cases h
theorem en122 : EnvOK Tryz.prog (g122) := (envOK_nil _)
theorem snd122 : Sound Tryz.prog 122 (sp122) := by
 refine ⟨⟨Tryz.f122,Tryz.func122,by kernel_rfl,rfl⟩,fun args objs K r h => ?_⟩
 unfold sp122 at h; dsimp only at h; split at h
 ·rename_i a0
  obtain ⟨x,hx,h⟩ := bindO_some h
  exact ⟨_,_,h,FnOK.args2 (relL_c rel_i relL_n) (fn_run tab_ok (en122) mixed Tryz.func122 (((lp3004 seals 0).2.2.2.1 a0).trans (bindO_eq hx)))⟩
 ·cases h
theorem en99 : EnvOK Tryz.prog (g99) := (envOK_add snd122 (envOK_nil _))
theorem snd99 : Sound Tryz.prog 99 (sp99) := by
 refine ⟨⟨Tryz.f99,Tryz.func99,by kernel_rfl,rfl⟩,fun args objs K r h => ?_⟩
 unfold sp99 at h; dsimp only at h; split at h
 ·rename_i a0 a1 a2
  obtain ⟨x,hx,h⟩ := bindO_some h
  exact ⟨_,_,h,FnOK.args2 (relL_c rel_i (relL_c rel_i (relL_c rel_i relL_n))) (fn_run tab_ok (en99) mixed Tryz.func99 (((lp3004 seals 0).2.2.2.2 a0 a1 a2).trans (bindO_eq hx)))⟩
 ·cases h
def lv68 : Live := look ⟨[],[],[],[],[]⟩ [(8,⟨[0,3,4,7,28,29],[4,7],[4,5],[],[]⟩),(1000000,⟨[],[],[],[(4,0,.own (.int .i64)),(4,1,.own (.int .i64))],[]⟩)]
noncomputable def g68 (k : Nat) : FEnv := (addF 99 sp99 (addF 50 (sp50 k) (addF 98 (sp98 k) (fun _=>none))))
def sp68 (k : Nat) : FSpec := ⟨[.st,.st],fun args objs K => match args,objs with | [.i .i64 a0,.agg [v0,v1]],[] => listB (.int .i64) false v0 fun a1_0 => listB (.int .i64) false v1 fun a1_1 => bindO (ref4_One.f k a0 a1_0 a1_1) fun x : Int × (List Int) × (List Int) => K (.tup [.agg [.own 0,.own 1],.i .i64 x.1]) [.row (.int .i64) x.2.1 false,.row (.int .i64) x.2.2 false] | _,_ => none⟩
def lv69 : Live := look ⟨[],[],[],[],[]⟩ [(6,⟨[3,4,5,6,9,25,26],[6,9],[6,7],[],[]⟩),(1000000,⟨[],[],[],[(6,0,.own (.int .i64)),(6,1,.own (.int .i64))],[]⟩)]
noncomputable def g69 (k : Nat) : FEnv := (addF 50 (sp50 k) (addF 98 (sp98 k) (fun _=>none)))
def sp69 (k : Nat) : FSpec := ⟨[.st,.st,.st],fun args objs K => match args,objs with | [.agg [v0,v1],.agg [v2,v3],.agg [v4,v5]],[] => listB (.int .i64) false v0 fun a0_0 => listB (.int .i64) false v1 fun a0_1 => listB (.int .i64) false v2 fun a1_0 => listB (.int .i64) false v3 fun a1_1 => listB (.int .i64) false v4 fun a2_0 => listB (.int .i64) false v5 fun a2_1 => bindO (ref4_Pick.f k a0_0 a0_1 a1_0 a1_1 a2_0 a2_1) fun x : Int × (List Int) × (List Int) => K (.tup [.agg [.own 0,.own 1],.i .i64 x.1]) [.row (.int .i64) x.2.1 false,.row (.int .i64) x.2.2 false] | _,_ => none⟩
theorem lp3005 (S : Seals) (k : Nat) : (∀ (a0 : Int) (a1_0 : List Int) (a1_1 : List Int),runF tt (g68 k) lv68 Tryz.f68 k [.i .i64 a0,.agg [.dat (.int .i64) a1_0 false,.dat (.int .i64) a1_1 false]] [] = bindO (ref4_One.f k a0 a1_0 a1_1) (fun x : Int × (List Int) × (List Int) => some (.tup [.agg [.own 0,.own 1],.i .i64 x.1],[.row (.int .i64) x.2.1 false,.row (.int .i64) x.2.2 false]))) ∧ (∀ (a0_0 : List Int) (a0_1 : List Int) (a1_0 : List Int) (a1_1 : List Int) (a2_0 : List Int) (a2_1 : List Int),runF tt (g69 k) lv69 Tryz.f69 k [.agg [.dat (.int .i64) a0_0 false,.dat (.int .i64) a0_1 false],.agg [.dat (.int .i64) a1_0 false,.dat (.int .i64) a1_1 false],.agg [.dat (.int .i64) a2_0 false,.dat (.int .i64) a2_1 false]] [] = bindO (ref4_Pick.f k a0_0 a0_1 a1_0 a1_1 a2_0 a2_1) (fun x : Int × (List Int) × (List Int) => some (.tup [.agg [.own 0,.own 1],.i .i64 x.1],[.row (.int .i64) x.2.1 false,.row (.int .i64) x.2.2 false]))) := by
 refine cut_ (A := ∀ (n : Nat) {x0 : Int} {x28 : Int} {x29 : Int} {y0_0 : List Int} {y0_1 : List Int} {y3 : List Int} {y4 : List Int} {K : CK},S.lp tt (g68 k) lv68 0 n (loopN Tryz.f68 0) ⟨[(0,.i .i64 x0),(3,.ptr 0 0),(4,.ptr 1 0),(7,.ptr 2 0),(28,.i .i64 x28),(29,.i .i64 x29)],[(0,.var [.dat (.int .i64) y0_0 false,.dat (.int .i64) y0_1 false]),(1,.var [.nilsl,.nilsl]),(2,.var [.own 3,.own 4]),(3,.row (.int .i64) y3 false),(4,.row (.int .i64) y4 false)],5,45⟩ K = bindO (ref4_One.l0 n x0 x28 x29 y0_0 y0_1 y3 y4) (fun x : (List Int) => K (.exit 0) ⟨[(4,.ptr 0 0),(7,.ptr 1 0)],[(0,.var [.nilsl,.nilsl]),(1,.var [.own 2,.own 3]),(2,.row (.int .i64) y3 false),(3,.row (.int .i64) x false)],4,45⟩)) (ind_ (by intros; rw [S.lp_zero]; exact none_c) ?_) ?_
 intro n ih; intros; rw [ref4_One.l0]; refine S.lp_succ ?_; conv => lhs; arg 5; whnf
 rotate_left
 intro w68_0
 refine cut_ (A := ∀ (n : Nat) {x25 : Int} {x26 : Int} {y0_0 : List Int} {y0_1 : List Int} {y1_0 : List Int} {y1_1 : List Int} {y2_0 : List Int} {y2_1 : List Int} {y5 : List Int} {y6 : List Int} {K : CK},S.lp tt (g69 k) lv69 0 n (loopN Tryz.f69 0) ⟨[(3,.ptr 0 0),(4,.ptr 1 0),(5,.ptr 2 0),(6,.ptr 3 0),(9,.ptr 4 0),(25,.i .i64 x25),(26,.i .i64 x26)],[(0,.var [.dat (.int .i64) y0_0 false,.dat (.int .i64) y0_1 false]),(1,.var [.dat (.int .i64) y1_0 false,.dat (.int .i64) y1_1 false]),(2,.var [.dat (.int .i64) y2_0 false,.dat (.int .i64) y2_1 false]),(3,.var [.nilsl,.nilsl]),(4,.var [.own 5,.own 6]),(5,.row (.int .i64) y5 false),(6,.row (.int .i64) y6 false)],7,55⟩ K = bindO (ref4_Pick.l0 n x25 x26 y0_0 y0_1 y1_0 y1_1 y2_0 y2_1 y5 y6) (fun x : (List Int) => K (.exit 0) ⟨[(6,.ptr 0 0),(9,.ptr 1 0)],[(0,.var [.nilsl,.nilsl]),(1,.var [.own 2,.own 3]),(2,.row (.int .i64) y5 false),(3,.row (.int .i64) x false)],4,55⟩)) (ind_ (by intros; rw [S.lp_zero]; exact none_c) ?_) ?_
 intro n ih; intros; rw [ref4_Pick.l0]; refine S.lp_succ ?_; conv => lhs; arg 5; whnf
 rotate_left
 intro w69_0
 refine ⟨?_,?_⟩
 intro a0 a1_0 a1_1
 unfold ref4_One.f; refine S.run_s rfl rfl ?_; conv => lhs; arg 5; whnf
 conv => lhs; arg 6; whnf
 rotate_left
 intro a0_0 a0_1 a1_0 a1_1 a2_0 a2_1
 unfold ref4_Pick.f; refine S.run_s rfl rfl ?_; conv => lhs; arg 5; whnf
 conv => lhs; arg 6; whnf
 rotate_left
 all_goals repeat' first|(first|refine S.seq_op rfl ?_|refine S.op_n ?_|refine S.block_x ?_|refine br_lt ?_|refine br_lf ?_|refine br_t (by assumption) ?_|refine br_f (by assumption) ?_|refine req_i (by with_reducible assumption) ?_|refine br_nd (fun _=>?_) (fun _=>?_)|refine br_d (fun _=>?_) (fun _=>?_)|refine br_n (fun _=>?_) (fun _=>?_)|refine br_c (fun _=>?_) (fun _=>?_)|refine req_c fun _=>?_|refine req_i (by assumption) ?_|refine bnd_c fun _=>?_)<;>(conv=>lhs;whnf)|refine S.seq_nil ?_|refine S.reg_n ?_|refine S.region rfl ?_|refine S.two ?_|refine S.blok ?_|refine S.cond rfl ?_|refine S.after_n ?_|refine S.block_n ?_|refine S.block_r ?_|refine S.after_x ?_|refine S.after_r ?_|refine S.skip ?_|refine S.exit ?_|refine S.ret ?_|refine sum_c (fun _=>?_) (fun _=>?_)|refine S.region_d (id := 10) (ds := [0,1,0,0,0,16,0,112,240,504,1023,2047]) (mds := [[],[],[],[],[],[],[],[],[],[],[],[4]]) (hm := [(11,[4])]) (by kernel_rfl) (by kernel_rfl) rfl rfl ?_|exact ih|refine (w68_0 _).trans ?_|refine (w69_0 _).trans ?_|refine S.region_d (id := 8) (ds := [0,1,0,0,8,0,56,120,255,511]) (mds := [[],[],[],[],[],[],[],[],[],[6]]) (hm := [(9,[6])]) (by kernel_rfl) (by kernel_rfl) rfl rfl ?_|refine S.region_d (id := 10) (ds := [0,1,0,0,8,0,56,120,255,511]) (mds := [[],[],[],[],[],[],[],[],[],[6]]) (hm := [(9,[6])]) (by kernel_rfl) (by kernel_rfl) rfl rfl ?_|(first|refine S.loop ?_|refine S.back_n ?_|refine S.back_x ?_|refine S.back_r ?_|refine S.fin_r ?_|refine S.fin_n ?_|refine S.dk_n ?_|refine S.draw_nil ?_)<;>(conv=>lhs;whnf)|exact ret_c rfl|exact none_c|(refine S.draw_op ?_; conv => lhs; whnf; arg 1; whnf)|refine andK_br ?_|refine andK_req ?_|refine andK_b ?_|refine andK_none ?_
theorem en68 (k : Nat) : EnvOK Tryz.prog (g68 k) := (envOK_add snd99 (envOK_add (snd50 k) (envOK_add (snd98 k) (envOK_nil _))))
theorem snd68 (k : Nat) : Sound Tryz.prog 68 (sp68 k) := by
 refine ⟨⟨Tryz.f68,Tryz.func68,by kernel_rfl,rfl⟩,fun args objs K r h => ?_⟩
 unfold sp68 at h; dsimp only at h; split at h
 ·rename_i a0 v0 v1
  obtain ⟨a1_0,h9,ca1_0⟩ := listB_spec h; clear h
  have h := h9; clear h9
  obtain ⟨a1_1,h9,ca1_1⟩ := listB_spec h; clear h
  have h := h9; clear h9
  obtain ⟨x,hx,h⟩ := bindO_some h
  exact ⟨_,_,h,FnOK.args2 (relL_c rel_i (relL_c (rel_agg (relL_c ca1_0 (relL_c ca1_1 relL_n))) relL_n)) (fn_run tab_ok (en68 k) mixed Tryz.func68 (((lp3005 seals k).1 a0 a1_0 a1_1).trans (bindO_eq hx)))⟩
 ·cases h
theorem en69 (k : Nat) : EnvOK Tryz.prog (g69 k) := (envOK_add (snd50 k) (envOK_add (snd98 k) (envOK_nil _)))
theorem snd69 (k : Nat) : Sound Tryz.prog 69 (sp69 k) := by
 refine ⟨⟨Tryz.f69,Tryz.func69,by kernel_rfl,rfl⟩,fun args objs K r h => ?_⟩
 unfold sp69 at h; dsimp only at h; split at h
 ·rename_i v0 v1 v2 v3 v4 v5
  obtain ⟨a0_0,h9,ca0_0⟩ := listB_spec h; clear h
  have h := h9; clear h9
  obtain ⟨a0_1,h9,ca0_1⟩ := listB_spec h; clear h
  have h := h9; clear h9
  obtain ⟨a1_0,h9,ca1_0⟩ := listB_spec h; clear h
  have h := h9; clear h9
  obtain ⟨a1_1,h9,ca1_1⟩ := listB_spec h; clear h
  have h := h9; clear h9
  obtain ⟨a2_0,h9,ca2_0⟩ := listB_spec h; clear h
  have h := h9; clear h9
  obtain ⟨a2_1,h9,ca2_1⟩ := listB_spec h; clear h
  have h := h9; clear h9
  obtain ⟨x,hx,h⟩ := bindO_some h
  exact ⟨_,_,h,FnOK.args2 (relL_c (rel_agg (relL_c ca0_0 (relL_c ca0_1 relL_n))) (relL_c (rel_agg (relL_c ca1_0 (relL_c ca1_1 relL_n))) (relL_c (rel_agg (relL_c ca2_0 (relL_c ca2_1 relL_n))) relL_n))) (fn_run tab_ok (en69 k) mixed Tryz.func69 (((lp3005 seals k).2 a0_0 a0_1 a1_0 a1_1 a2_0 a2_1).trans (bindO_eq hx)))⟩
 ·cases h
end Go.Vm
