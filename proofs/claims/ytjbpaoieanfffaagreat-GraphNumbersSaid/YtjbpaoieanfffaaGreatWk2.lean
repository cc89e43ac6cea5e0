/- Own texts put together: the walks -/
import Derived.Test.YtjbpaoieanfffaaGreatWk0
import Derived.Test.YtjbpaoieanfffaaGreatWk1
set_option linter.unusedVariables false
set_option maxRecDepth 60000
set_option maxHeartbeats 40000000
namespace Go.Vm
open Go Go.Proofs Go.Pf

def lv36 : Live := look ⟨[],[],[],[],[]⟩ [(1000000,⟨[],[],[],[(4,0,.own (.int .i64))],[]⟩)]
noncomputable def g36 (k : Nat) : FEnv := (addF 37 sp37 (addF 64 (sp64 k) (addF 61 (sp61_1 k) (addF 60 sp60 (fun _=>none)))))
def sp36 (k : Nat) : FSpec := ⟨[.st,.st],fun args objs K => match args,objs with | [.agg [.i .i64 a0_0,v0,v1,v2,.i .i64 a0_4,.i .i64 a0_5,.s a0_6],v3],[] => listB (.int .i64) false v0 fun a0_1 => listB (.int .i64) false v1 fun a0_2 => listB (.int .i64) false v2 fun a0_3 => listB (.sl (.int .i64)) false v3 fun a1 => bindO (graph_Shape.f k a0_0 a0_1 a0_2 a0_3 a0_4 a0_5 a0_6 a1) fun x : Int × (List Int) => K (.tup [.own 0,.i .i64 x.1]) [.row (.int .i64) x.2 false] | _,_ => none⟩
def lv82 : Live := look ⟨[],[],[],[],[]⟩ []
noncomputable def g82 (k : Nat) : FEnv := (addF 110 (sp110 k) (addF 79 (sp79 k) (fun _=>none)))
def sp82 (k : Nat) : FSpec := ⟨[.rd,.rd],fun args objs K => match args,objs with | [.s a0,.i .i32 a1],[] => bindO (names_Find.f k a0 a1) fun x : Int => K (.i .i64 x) [] | _,_ => none⟩
def lv111 : Live := look ⟨[],[],[],[],[]⟩ [(2,⟨[0,1,7,8],[],[4],[],[]⟩)]
noncomputable def g111 : FEnv := (fun _=>none)
def sp111 (k : Nat) : FSpec := ⟨[.rd,.rd],fun args objs K => match args,objs with | [v0,.i .i64 a1],[] => listB (.int .i64) true v0 fun a0 => bindO (slices_Index_int.f k a0 a1) fun x : Int => K (.i .i64 x) [] | _,_ => none⟩
def lv83 : Live := look ⟨[],[],[],[],[]⟩ []
noncomputable def g83 (k : Nat) : FEnv := (addF 111 (sp111 k) (fun _=>none))
def sp83 (k : Nat) : FSpec := ⟨[.rd,.rd],fun args objs K => match args,objs with | [v0,.i .i64 a1],[] => listB (.int .i64) true v0 fun a0 => bindO (slices_Contains_int.f k a0 a1) fun x : Bool => K (.b x) [] | _,_ => none⟩
def lv54 : Live := look ⟨[],[],[],[],[]⟩ [(6,⟨[0,2,10,19,20,21],[2,10],[6,7,8],[(10,0,.own (.int .i64))],[]⟩),(1000000,⟨[],[],[],[(6,0,.own (.int .i64))],[]⟩)]
noncomputable def g54 (k : Nat) : FEnv := (addF 83 (sp83 k) (addF 82 (sp82 k) (addF 79 (sp79 k) (fun _=>none))))
def sp54 (k : Nat) : FSpec := ⟨[.rd,.rd,.rd],fun args objs K => match args,objs with | [.s a0,.s a1,.i .i64 a2],[] => bindO (names_Note.f k a0 a1 a2) fun x : Bool × Int × (List Int) => K (.tup [.own 0,.b x.1,.i .i64 x.2.1]) [.row (.int .i64) x.2.2 false] | _,_ => none⟩
theorem lp2000 (S : Seals) (k : Nat) : (∀ (a0_0 : Int) (a0_1 : List Int) (a0_2 : List Int) (a0_3 : List Int) (a0_4 : Int) (a0_5 : Int) (a0_6 : ByteArray) (a1 : List (List Int)),runF tt (g36 k) lv36 Tryz.f36 k [.agg [.i .i64 a0_0,.dat (.int .i64) a0_1 false,.dat (.int .i64) a0_2 false,.dat (.int .i64) a0_3 false,.i .i64 a0_4,.i .i64 a0_5,.s a0_6],.dat (.sl (.int .i64)) a1 false] [] = bindO (graph_Shape.f k a0_0 a0_1 a0_2 a0_3 a0_4 a0_5 a0_6 a1) (fun x : Int × (List Int) => some (.tup [.own 0,.i .i64 x.1],[.row (.int .i64) x.2 false]))) ∧ (∀ (a0 : ByteArray) (a1 : Int),runF tt (g82 k) lv82 Tryz.f82 k [.s a0,.i .i32 a1] [] = bindO (names_Find.f k a0 a1) (fun x : Int => some (.i .i64 x,[]))) ∧ (∀ (a0 : List Int) (a1 : Int),runF tt (g111) lv111 Tryz.f111 k [.dat (.int .i64) a0 true,.i .i64 a1] [] = bindO (slices_Index_int.f k a0 a1) (fun x : Int => some (.i .i64 x,[]))) ∧ (∀ (a0 : List Int) (a1 : Int),runF tt (g83 k) lv83 Tryz.f83 k [.dat (.int .i64) a0 true,.i .i64 a1] [] = bindO (slices_Contains_int.f k a0 a1) (fun x : Bool => some (.b x,[]))) ∧ (∀ (a0 : ByteArray) (a1 : ByteArray) (a2 : Int),runF tt (g54 k) lv54 Tryz.f54 k [.s a0,.s a1,.i .i64 a2] [] = bindO (names_Note.f k a0 a1 a2) (fun x : Bool × Int × (List Int) => some (.tup [.own 0,.b x.1,.i .i64 x.2.1],[.row (.int .i64) x.2.2 false]))) := by
 refine cut_ (A := ∀ (n : Nat) {x0 : List Int} {x1 : Int} {x7 : Int} {x8 : Int} {K : CK},S.lp tt (g111) lv111 0 n (loopN Tryz.f111 0) ⟨[(0,.dat (.int .i64) x0 true),(1,.i .i64 x1),(7,.i .i64 x7),(8,.i .i64 x8)],[],0,19⟩ K = bindO (slices_Index_int.l0 n x0 x1 x7 x8) (Sum.elim (fun x : Unit => K (.exit 0) ⟨[],[],0,19⟩) (fun x : Int => K .ret ⟨[(4,.i .i64 x)],[],0,19⟩))) (ind_ (by intros; rw [S.lp_zero]; exact none_c) ?_) ?_
 intro n ih; intros; rw [slices_Index_int.l0]; refine S.lp_succ ?_; conv => lhs; arg 5; whnf
 rotate_left
 intro w111_0
 refine cut_ (A := ∀ (n : Nat) {x0 : ByteArray} {x2 : Int} {x20 : Int} {x21 : Int} {y0 : List Int} {y1 : List Int} {K : CK},S.lp tt (g54 k) lv54 0 n (loopN Tryz.f54 0) ⟨[(0,.s x0),(2,.i .i64 x2),(10,.own 0),(19,.own 1),(20,.i .i64 x20),(21,.i .i64 x21)],[(0,.row (.int .i64) y0 false),(1,.row (.int .i32) y1 false)],2,55⟩ K = bindO (names_Note.l0 k n x0 x2 x20 x21 y0 y1) (Sum.elim (fun x : (List Int) => K (.exit 0) ⟨[(2,.i .i64 x2),(10,.own 0)],[(0,.row (.int .i64) x false)],1,55⟩) (fun x : Bool × Int => K .ret ⟨[(6,.nilsl),(7,.b x.1),(8,.i .i64 x.2)],[],0,55⟩))) (ind_ (by intros; rw [S.lp_zero]; exact none_c) ?_) ?_
 intro n ih; intros; rw [names_Note.l0]; refine S.lp_succ ?_; conv => lhs; arg 5; whnf
 rotate_left
 intro w54_0
 refine ⟨?_,?_,?_,?_,?_⟩
 intro a0_0 a0_1 a0_2 a0_3 a0_4 a0_5 a0_6 a1
 unfold graph_Shape.f; refine S.run_s rfl rfl ?_; conv => lhs; arg 5; whnf
 conv => lhs; arg 6; whnf
 rotate_left
 intro a0 a1
 unfold names_Find.f; refine S.run_s rfl rfl ?_; conv => lhs; arg 5; whnf
 conv => lhs; arg 6; whnf
 rotate_left
 intro a0 a1
 unfold slices_Index_int.f; refine S.run_s rfl rfl ?_; conv => lhs; arg 5; whnf
 conv => lhs; arg 6; whnf
 rotate_left
 intro a0 a1
 unfold slices_Contains_int.f; refine S.run_s rfl rfl ?_; conv => lhs; arg 5; whnf
 conv => lhs; arg 6; whnf
 rotate_left
 intro a0 a1 a2
 unfold names_Note.f; refine S.run_s rfl rfl ?_; conv => lhs; arg 5; whnf
 conv => lhs; arg 6; whnf
 rotate_left
 all_goals repeat' first|(first|refine S.seq_op rfl ?_|refine S.op_n ?_|refine S.block_x ?_|refine br_lt ?_|refine br_lf ?_|refine br_t (by assumption) ?_|refine br_f (by assumption) ?_|refine req_i (by with_reducible assumption) ?_|refine br_nd (fun _=>?_) (fun _=>?_)|refine br_d (fun _=>?_) (fun _=>?_)|refine br_n (fun _=>?_) (fun _=>?_)|refine br_c (fun _=>?_) (fun _=>?_)|refine req_c fun _=>?_|refine req_i (by assumption) ?_|refine bnd_c fun _=>?_)<;>(conv=>lhs;whnf)|refine S.seq_nil ?_|refine S.reg_n ?_|refine S.region rfl ?_|refine S.two ?_|refine S.blok ?_|refine S.cond rfl ?_|refine S.after_n ?_|refine S.block_n ?_|refine S.block_r ?_|refine S.after_x ?_|refine S.after_r ?_|refine S.skip ?_|refine S.exit ?_|refine S.ret ?_|refine sum_c (fun _=>?_) (fun _=>?_)|exact ih|refine (w111_0 _).trans ?_|refine (w54_0 _).trans ?_|(first|refine S.loop ?_|refine S.back_n ?_|refine S.back_x ?_|refine S.back_r ?_|refine S.fin_r ?_|refine S.fin_n ?_|refine S.dk_n ?_|refine S.draw_nil ?_)<;>(conv=>lhs;whnf)|exact ret_c rfl|exact none_c|(refine S.draw_op ?_; conv => lhs; whnf; arg 1; whnf)|refine andK_br ?_|refine andK_req ?_|refine andK_b ?_|refine andK_none ?_
theorem en36 (k : Nat) : EnvOK Tryz.prog (g36 k) := (envOK_add snd37 (envOK_add (snd64 k) (envOK_add (snd61_1 k) (envOK_add snd60 (envOK_nil _)))))
theorem snd36 (k : Nat) : Sound Tryz.prog 36 (sp36 k) := by
 refine ⟨⟨Tryz.f36,Tryz.func36,by kernel_rfl,rfl⟩,fun args objs K r h => ?_⟩
 unfold sp36 at h; dsimp only at h; split at h
 ·rename_i a0_0 v0 v1 v2 a0_4 a0_5 a0_6 v3
  obtain ⟨a0_1,h9,ca0_1⟩ := listB_spec h; clear h
  have h := h9; clear h9
  obtain ⟨a0_2,h9,ca0_2⟩ := listB_spec h; clear h
  have h := h9; clear h9
  obtain ⟨a0_3,h9,ca0_3⟩ := listB_spec h; clear h
  have h := h9; clear h9
  obtain ⟨a1,h9,ca1⟩ := listB_spec h; clear h
  have h := h9; clear h9
  obtain ⟨x,hx,h⟩ := bindO_some h
  exact ⟨_,_,h,FnOK.args2 (relL_c (rel_agg (relL_c rel_i (relL_c ca0_1 (relL_c ca0_2 (relL_c ca0_3 (relL_c rel_i (relL_c rel_i (relL_c rel_i relL_n)))))))) (relL_c ca1 relL_n)) (fn_run tab_ok (en36 k) mixed Tryz.func36 (((lp2000 seals k).1 a0_0 a0_1 a0_2 a0_3 a0_4 a0_5 a0_6 a1).trans (bindO_eq hx)))⟩
 ·cases h
theorem en82 (k : Nat) : EnvOK Tryz.prog (g82 k) := (envOK_add (snd110 k) (envOK_add (snd79 k) (envOK_nil _)))
theorem snd82 (k : Nat) : Sound Tryz.prog 82 (sp82 k) := by
 refine ⟨⟨Tryz.f82,Tryz.func82,by kernel_rfl,rfl⟩,fun args objs K r h => ?_⟩
 unfold sp82 at h; dsimp only at h; split at h
 ·rename_i a0 a1
  obtain ⟨x,hx,h⟩ := bindO_some h
  exact ⟨_,_,h,FnOK.args2 (relL_c rel_i (relL_c rel_i relL_n)) (fn_run tab_ok (en82 k) mixed Tryz.func82 (((lp2000 seals k).2.1 a0 a1).trans (bindO_eq hx)))⟩
 ·cases h
theorem en111 : EnvOK Tryz.prog (g111) := (envOK_nil _)
theorem snd111 (k : Nat) : Sound Tryz.prog 111 (sp111 k) := by
 refine ⟨⟨Tryz.f111,Tryz.func111,by kernel_rfl,rfl⟩,fun args objs K r h => ?_⟩
 unfold sp111 at h; dsimp only at h; split at h
 ·rename_i v0 a1
  obtain ⟨a0,h9,ca0⟩ := listB_spec h; clear h
  have h := h9; clear h9
  obtain ⟨x,hx,h⟩ := bindO_some h
  exact ⟨_,_,h,FnOK.args2 (relL_c ca0 (relL_c rel_i relL_n)) (fn_run tab_ok (en111) mixed Tryz.func111 (((lp2000 seals k).2.2.1 a0 a1).trans (bindO_eq hx)))⟩
 ·cases h
theorem en83 (k : Nat) : EnvOK Tryz.prog (g83 k) := (envOK_add (snd111 k) (envOK_nil _))
theorem snd83 (k : Nat) : Sound Tryz.prog 83 (sp83 k) := by
 refine ⟨⟨Tryz.f83,Tryz.func83,by kernel_rfl,rfl⟩,fun args objs K r h => ?_⟩
 unfold sp83 at h; dsimp only at h; split at h
 ·rename_i v0 a1
  obtain ⟨a0,h9,ca0⟩ := listB_spec h; clear h
  have h := h9; clear h9
  obtain ⟨x,hx,h⟩ := bindO_some h
  exact ⟨_,_,h,FnOK.args2 (relL_c ca0 (relL_c rel_i relL_n)) (fn_run tab_ok (en83 k) mixed Tryz.func83 (((lp2000 seals k).2.2.2.1 a0 a1).trans (bindO_eq hx)))⟩
 ·cases h
theorem en54 (k : Nat) : EnvOK Tryz.prog (g54 k) := (envOK_add (snd83 k) (envOK_add (snd82 k) (envOK_add (snd79 k) (envOK_nil _))))
theorem snd54 (k : Nat) : Sound Tryz.prog 54 (sp54 k) := by
 refine ⟨⟨Tryz.f54,Tryz.func54,by kernel_rfl,rfl⟩,fun args objs K r h => ?_⟩
 unfold sp54 at h; dsimp only at h; split at h
 ·rename_i a0 a1 a2
  obtain ⟨x,hx,h⟩ := bindO_some h
  exact ⟨_,_,h,FnOK.args2 (relL_c rel_i (relL_c rel_i (relL_c rel_i relL_n))) (fn_run tab_ok (en54 k) mixed Tryz.func54 (((lp2000 seals k).2.2.2.2 a0 a1 a2).trans (bindO_eq hx)))⟩
 ·cases h
def lv27 : Live := look ⟨[],[],[],[],[]⟩ [(3,⟨[2,3,4,8,14,15,16],[3,4,8],[6,7],[(8,0,.own (.sl (.int .i64)))],[]⟩),(1000000,⟨[],[],[],[(6,0,.own (.int .i64))],[]⟩)]
noncomputable def g27 (k : Nat) : FEnv := (addF 54 (sp54 k) (addF 36 (sp36 k) (fun _=>none)))
def sp27 (k : Nat) : FSpec := ⟨[.rd,.st,.rd],fun args objs K => match args,objs with | [.agg [v0,.s a0_1,v1,v2],.agg [.i .i64 a1_0,v3,v4,v5,.i .i64 a1_4,.i .i64 a1_5,.s a1_6],v6],[] => listB (.int .i64) true v0 fun a0_0 => listB (.pair (.int .i64) (.pair (.sl (.int .i64)) (.pair (.sl (.int .i64)) (.pair (.sl (.int .i64)) (.pair (.int .i64) (.pair (.int .i64) .str)))))) true v1 fun a0_2 => listB (.int .i64) true v2 fun a0_3 => listB (.int .i64) false v3 fun a1_1 => listB (.int .i64) false v4 fun a1_2 => listB (.int .i64) false v5 fun a1_3 => listB (.sl (.int .i64)) true v6 fun a2 => bindO (graph_node.f k a0_0 a0_1 a0_2 a0_3 a1_0 a1_1 a1_2 a1_3 a1_4 a1_5 a1_6 a2) fun x : Int × (List Int) => K (.tup [.own 0,.i .i64 x.1]) [.row (.int .i64) x.2 false] | _,_ => none⟩
def lv29 : Live := look ⟨[],[],[],[],[]⟩ []
noncomputable def g29 : FEnv := (fun _=>none)
def sp29 : FSpec := ⟨[.rd,.rd],fun args objs K => match args,objs with | [.i .i64 a0,.ptr 0 0],[.var [.own 1],w1] => rowK (.sl (.int .i64)) false w1 fun o1 => bindO (graph_Shapes_1.f a0 o1) fun x : Bool => K (.b x) [.var [.own 1],.row (.sl (.int .i64)) o1 false] | _,_ => none⟩
def lv55_1 : Live := look ⟨[],[],[],[],[]⟩ [(2,⟨[0,1,7,8],[],[4],[],[]⟩)]
noncomputable def g55_1 : FEnv := (addF 29 sp29 (fun _=>none))
def sp55_1 (k : Nat) : FSpec := ⟨[.rd,.rd],fun args objs K => match args,objs with | [v0,.fn 29 [.ptr 0 0]],[.var [.own 1],w1] => listB (.int .i64) true v0 fun a0 => rowK (.sl (.int .i64)) false w1 fun o1 => bindO (slices_IndexFunc_int__graph_Shapes_1.f k a0 o1) fun x : Int => K (.i .i64 x) [.var [.own 1],.row (.sl (.int .i64)) o1 false] | _,_ => none⟩
def lv28_1 : Live := look ⟨[],[],[],[],[]⟩ []
noncomputable def g28_1 (k : Nat) : FEnv := (addF 55 (sp55_1 k) (fun _=>none))
def sp28_1 (k : Nat) : FSpec := ⟨[.rd,.rd],fun args objs K => match args,objs with | [v0,.fn 29 [.ptr 0 0]],[.var [.own 1],w1] => listB (.int .i64) true v0 fun a0 => rowK (.sl (.int .i64)) false w1 fun o1 => bindO (slices_ContainsFunc_int__graph_Shapes_1.f k a0 o1) fun x : Bool => K (.b x) [.var [.own 1],.row (.sl (.int .i64)) o1 false] | _,_ => none⟩
def lv8 : Live := look ⟨[],[],[],[],[]⟩ [(7,⟨[1,4,25,26,27],[1,4],[2,3],[(4,0,.own (.sl (.int .i64)))],[]⟩),(1000000,⟨[],[],[],[(2,0,.own (.sl (.int .i64)))],[]⟩)]
noncomputable def g8 (k : Nat) : FEnv := (addF 28 (sp28_1 k) (addF 27 (sp27 k) (addF 26 (sp26 k) (fun _=>none))))
def sp8 (k : Nat) : FSpec := ⟨[.rd],fun args objs K => match args,objs with | [.agg [v0,.s a0_1,v1,v2]],[] => listB (.int .i64) true v0 fun a0_0 => listB (.pair (.int .i64) (.pair (.sl (.int .i64)) (.pair (.sl (.int .i64)) (.pair (.sl (.int .i64)) (.pair (.int .i64) (.pair (.int .i64) .str)))))) true v1 fun a0_2 => listB (.int .i64) true v2 fun a0_3 => bindO (graph_Shapes.f k a0_0 a0_1 a0_2 a0_3) fun x : Int × (List (List Int)) => K (.tup [.own 0,.i .i64 x.1]) [.row (.sl (.int .i64)) x.2 false] | _,_ => none⟩
theorem lp2001 (S : Seals) (k : Nat) : (∀ (a0_0 : List Int) (a0_1 : ByteArray) (a0_2 : List (Int × (List Int) × (List Int) × (List Int) × Int × Int × ByteArray)) (a0_3 : List Int) (a1_0 : Int) (a1_1 : List Int) (a1_2 : List Int) (a1_3 : List Int) (a1_4 : Int) (a1_5 : Int) (a1_6 : ByteArray) (a2 : List (List Int)),runF tt (g27 k) lv27 Tryz.f27 k [.agg [.dat (.int .i64) a0_0 true,.s a0_1,.dat (.pair (.int .i64) (.pair (.sl (.int .i64)) (.pair (.sl (.int .i64)) (.pair (.sl (.int .i64)) (.pair (.int .i64) (.pair (.int .i64) .str)))))) a0_2 true,.dat (.int .i64) a0_3 true],.agg [.i .i64 a1_0,.dat (.int .i64) a1_1 false,.dat (.int .i64) a1_2 false,.dat (.int .i64) a1_3 false,.i .i64 a1_4,.i .i64 a1_5,.s a1_6],.dat (.sl (.int .i64)) a2 true] [] = bindO (graph_node.f k a0_0 a0_1 a0_2 a0_3 a1_0 a1_1 a1_2 a1_3 a1_4 a1_5 a1_6 a2) (fun x : Int × (List Int) => some (.tup [.own 0,.i .i64 x.1],[.row (.int .i64) x.2 false]))) ∧ (∀ (a0 : Int) (o1 : List (List Int)),runF tt (g29) lv29 Tryz.f29 k [.i .i64 a0,.ptr 0 0] [.var [.own 1],.row (.sl (.int .i64)) o1 false] = bindO (graph_Shapes_1.f a0 o1) (fun x : Bool => some (.b x,[.var [.own 1],.row (.sl (.int .i64)) o1 false]))) ∧ (∀ (a0 : List Int) (o1 : List (List Int)),runF tt (g55_1) lv55_1 Tryz.f55 k [.dat (.int .i64) a0 true,.fn 29 [.ptr 0 0]] [.var [.own 1],.row (.sl (.int .i64)) o1 false] = bindO (slices_IndexFunc_int__graph_Shapes_1.f k a0 o1) (fun x : Int => some (.i .i64 x,[.var [.own 1],.row (.sl (.int .i64)) o1 false]))) ∧ (∀ (a0 : List Int) (o1 : List (List Int)),runF tt (g28_1 k) lv28_1 Tryz.f28 k [.dat (.int .i64) a0 true,.fn 29 [.ptr 0 0]] [.var [.own 1],.row (.sl (.int .i64)) o1 false] = bindO (slices_ContainsFunc_int__graph_Shapes_1.f k a0 o1) (fun x : Bool => some (.b x,[.var [.own 1],.row (.sl (.int .i64)) o1 false]))) ∧ (∀ (a0_0 : List Int) (a0_1 : ByteArray) (a0_2 : List (Int × (List Int) × (List Int) × (List Int) × Int × Int × ByteArray)) (a0_3 : List Int),runF tt (g8 k) lv8 Tryz.f8 k [.agg [.dat (.int .i64) a0_0 true,.s a0_1,.dat (.pair (.int .i64) (.pair (.sl (.int .i64)) (.pair (.sl (.int .i64)) (.pair (.sl (.int .i64)) (.pair (.int .i64) (.pair (.int .i64) .str)))))) a0_2 true,.dat (.int .i64) a0_3 true]] [] = bindO (graph_Shapes.f k a0_0 a0_1 a0_2 a0_3) (fun x : Int × (List (List Int)) => some (.tup [.own 0,.i .i64 x.1],[.row (.sl (.int .i64)) x.2 false]))) := by
 refine cut_ (A := ∀ (n : Nat) {x2 : List (List Int)} {x14 : List Int} {x15 : Int} {x16 : Int} {y0_0 : List Int} {y0_1 : ByteArray} {y0_2 : List (Int × (List Int) × (List Int) × (List Int) × Int × Int × ByteArray)} {y0_3 : List Int} {y1_0 : Int} {y1_1 : List Int} {y1_2 : List Int} {y1_3 : List Int} {y1_4 : Int} {y1_5 : Int} {y1_6 : ByteArray} {y2 : List (List Int)} {K : CK},S.lp tt (g27 k) lv27 0 n (loopN Tryz.f27 0) ⟨[(2,.dat (.sl (.int .i64)) x2 true),(3,.ptr 0 0),(4,.ptr 1 0),(8,.own 2),(14,.dat (.int .i64) x14 false),(15,.i .i64 x15),(16,.i .i64 x16)],[(0,.var [.dat (.int .i64) y0_0 true,.s y0_1,.dat (.pair (.int .i64) (.pair (.sl (.int .i64)) (.pair (.sl (.int .i64)) (.pair (.sl (.int .i64)) (.pair (.int .i64) (.pair (.int .i64) .str)))))) y0_2 true,.dat (.int .i64) y0_3 true]),(1,.var [.i .i64 y1_0,.dat (.int .i64) y1_1 false,.dat (.int .i64) y1_2 false,.dat (.int .i64) y1_3 false,.i .i64 y1_4,.i .i64 y1_5,.s y1_6]),(2,.row (.sl (.int .i64)) y2 false)],3,58⟩ K = bindO (graph_node.l0 n x2 x14 x15 x16 y0_0 y0_1 y0_2 y0_3 y1_0 y1_1 y1_2 y1_3 y1_4 y1_5 y1_6 y2) (Sum.elim (fun x : (List (List Int)) => K (.exit 0) ⟨[(3,.ptr 0 0),(4,.ptr 1 0),(8,.own 2)],[(0,.var [.dat (.int .i64) y0_0 true,.s y0_1,.dat (.pair (.int .i64) (.pair (.sl (.int .i64)) (.pair (.sl (.int .i64)) (.pair (.sl (.int .i64)) (.pair (.int .i64) (.pair (.int .i64) .str)))))) y0_2 true,.dat (.int .i64) y0_3 true]),(1,.var [.i .i64 y1_0,.dat (.int .i64) y1_1 false,.dat (.int .i64) y1_2 false,.dat (.int .i64) y1_3 false,.i .i64 y1_4,.i .i64 y1_5,.s y1_6]),(2,.row (.sl (.int .i64)) x false)],3,58⟩) (fun x : Int => K .ret ⟨[(6,.nilsl),(7,.i .i64 x)],[],0,58⟩))) (ind_ (by intros; rw [S.lp_zero]; exact none_c) ?_) ?_
 intro n ih; intros; rw [graph_node.l0]; refine S.lp_succ ?_; conv => lhs; arg 5; whnf
 rotate_left
 intro w27_0
 refine cut_ (A := ∀ (n : Nat) {x0 : List Int} {x7 : Int} {x8 : Int} {y1 : List (List Int)} {K : CK},S.lp tt (g55_1) lv55_1 2 n (loopN Tryz.f55 0) ⟨[(0,.dat (.int .i64) x0 true),(1,.fn 29 [.ptr 0 0]),(7,.i .i64 x7),(8,.i .i64 x8)],[(0,.var [.own 1]),(1,.row (.sl (.int .i64)) y1 false)],2,19⟩ K = bindO (slices_IndexFunc_int__graph_Shapes_1.l0 n x0 x7 x8 y1) (Sum.elim (fun x : Unit => K (.exit 0) ⟨[],[(0,.var [.own 1]),(1,.row (.sl (.int .i64)) y1 false)],2,19⟩) (fun x : Int => K .ret ⟨[(4,.i .i64 x)],[(0,.var [.own 1]),(1,.row (.sl (.int .i64)) y1 false)],2,19⟩))) (ind_ (by intros; rw [S.lp_zero]; exact none_c) ?_) ?_
 intro n ih; intros; rw [slices_IndexFunc_int__graph_Shapes_1.l0]; refine S.lp_succ ?_; conv => lhs; arg 5; whnf
 rotate_left
 intro w55_1_0
 refine cut_ (A := ∀ (n : Nat) {x25 : List (Int × (List Int) × (List Int) × (List Int) × Int × Int × ByteArray)} {x26 : Int} {x27 : Int} {y0_0 : List Int} {y0_1 : ByteArray} {y0_2 : List (Int × (List Int) × (List Int) × (List Int) × Int × Int × ByteArray)} {y0_3 : List Int} {y2 : List (List Int)} {K : CK},S.lp tt (g8 k) lv8 0 n (loopN Tryz.f8 0) ⟨[(1,.ptr 0 0),(4,.ptr 1 0),(25,.dat (.pair (.int .i64) (.pair (.sl (.int .i64)) (.pair (.sl (.int .i64)) (.pair (.sl (.int .i64)) (.pair (.int .i64) (.pair (.int .i64) .str)))))) x25 true),(26,.i .i64 x26),(27,.i .i64 x27)],[(0,.var [.dat (.int .i64) y0_0 true,.s y0_1,.dat (.pair (.int .i64) (.pair (.sl (.int .i64)) (.pair (.sl (.int .i64)) (.pair (.sl (.int .i64)) (.pair (.int .i64) (.pair (.int .i64) .str)))))) y0_2 true,.dat (.int .i64) y0_3 true]),(1,.var [.own 2]),(2,.row (.sl (.int .i64)) y2 false)],3,51⟩ K = bindO (graph_Shapes.l0 k n x25 x26 x27 y0_0 y0_1 y0_2 y0_3 y2) (Sum.elim (fun x : (List (List Int)) => K (.exit 1) ⟨[(1,.ptr 0 0),(4,.ptr 1 0)],[(0,.var [.dat (.int .i64) y0_0 true,.s y0_1,.dat (.pair (.int .i64) (.pair (.sl (.int .i64)) (.pair (.sl (.int .i64)) (.pair (.sl (.int .i64)) (.pair (.int .i64) (.pair (.int .i64) .str)))))) y0_2 true,.dat (.int .i64) y0_3 true]),(1,.var [.own 2]),(2,.row (.sl (.int .i64)) x false)],3,51⟩) (fun x : Int => K .ret ⟨[(2,.nilsl),(3,.i .i64 x)],[],0,51⟩))) (ind_ (by intros; rw [S.lp_zero]; exact none_c) ?_) ?_
 intro n ih; intros; rw [graph_Shapes.l0]; refine S.lp_succ ?_; conv => lhs; arg 5; whnf
 rotate_left
 intro w8_0
 refine ⟨?_,?_,?_,?_,?_⟩
 intro a0_0 a0_1 a0_2 a0_3 a1_0 a1_1 a1_2 a1_3 a1_4 a1_5 a1_6 a2
 unfold graph_node.f; refine S.run_s rfl rfl ?_; conv => lhs; arg 5; whnf
 conv => lhs; arg 6; whnf
 rotate_left
 intro a0 o1
 unfold graph_Shapes_1.f; refine S.run_s rfl rfl ?_; conv => lhs; arg 5; whnf
 conv => lhs; arg 6; whnf
 rotate_left
 intro a0 o1
 unfold slices_IndexFunc_int__graph_Shapes_1.f; refine S.run_s rfl rfl ?_; conv => lhs; arg 5; whnf
 conv => lhs; arg 6; whnf
 rotate_left
 intro a0 o1
 unfold slices_ContainsFunc_int__graph_Shapes_1.f; refine S.run_s rfl rfl ?_; conv => lhs; arg 5; whnf
 conv => lhs; arg 6; whnf
 rotate_left
 intro a0_0 a0_1 a0_2 a0_3
 unfold graph_Shapes.f; refine S.run_s rfl rfl ?_; conv => lhs; arg 5; whnf
 conv => lhs; arg 6; whnf
 rotate_left
 all_goals repeat' first|(first|refine S.seq_op rfl ?_|refine S.op_n ?_|refine S.block_x ?_|refine br_lt ?_|refine br_lf ?_|refine br_t (by assumption) ?_|refine br_f (by assumption) ?_|refine req_i (by with_reducible assumption) ?_|refine br_nd (fun _=>?_) (fun _=>?_)|refine br_d (fun _=>?_) (fun _=>?_)|refine br_n (fun _=>?_) (fun _=>?_)|refine br_c (fun _=>?_) (fun _=>?_)|refine req_c fun _=>?_|refine req_i (by assumption) ?_|refine bnd_c fun _=>?_)<;>(conv=>lhs;whnf)|refine S.seq_nil ?_|refine S.reg_n ?_|refine S.region rfl ?_|refine S.two ?_|refine S.blok ?_|refine S.cond rfl ?_|refine S.after_n ?_|refine S.block_n ?_|refine S.block_r ?_|refine S.after_x ?_|refine S.after_r ?_|refine S.skip ?_|refine S.exit ?_|refine S.ret ?_|refine sum_c (fun _=>?_) (fun _=>?_)|exact ih|refine (w27_0 _).trans ?_|refine (w55_1_0 _).trans ?_|refine (w8_0 _).trans ?_|(first|refine S.loop ?_|refine S.back_n ?_|refine S.back_x ?_|refine S.back_r ?_|refine S.fin_r ?_|refine S.fin_n ?_|refine S.dk_n ?_|refine S.draw_nil ?_)<;>(conv=>lhs;whnf)|exact ret_c rfl|exact none_c|(refine S.draw_op ?_; conv => lhs; whnf; arg 1; whnf)|refine andK_br ?_|refine andK_req ?_|refine andK_b ?_|refine andK_none ?_
theorem en27 (k : Nat) : EnvOK Tryz.prog (g27 k) := (envOK_add (snd54 k) (envOK_add (snd36 k) (envOK_nil _)))
theorem snd27 (k : Nat) : Sound Tryz.prog 27 (sp27 k) := by
 refine ⟨⟨Tryz.f27,Tryz.func27,by kernel_rfl,rfl⟩,fun args objs K r h => ?_⟩
 unfold sp27 at h; dsimp only at h; split at h
 ·rename_i v0 a0_1 v1 v2 a1_0 v3 v4 v5 a1_4 a1_5 a1_6 v6
  obtain ⟨a0_0,h9,ca0_0⟩ := listB_spec h; clear h
  have h := h9; clear h9
  obtain ⟨a0_2,h9,ca0_2⟩ := listB_spec h; clear h
  have h := h9; clear h9
  obtain ⟨a0_3,h9,ca0_3⟩ := listB_spec h; clear h
  have h := h9; clear h9
  obtain ⟨a1_1,h9,ca1_1⟩ := listB_spec h; clear h
  have h := h9; clear h9
  obtain ⟨a1_2,h9,ca1_2⟩ := listB_spec h; clear h
  have h := h9; clear h9
  obtain ⟨a1_3,h9,ca1_3⟩ := listB_spec h; clear h
  have h := h9; clear h9
  obtain ⟨a2,h9,ca2⟩ := listB_spec h; clear h
  have h := h9; clear h9
  obtain ⟨x,hx,h⟩ := bindO_some h
  exact ⟨_,_,h,FnOK.args2 (relL_c (rel_agg (relL_c ca0_0 (relL_c rel_i (relL_c ca0_2 (relL_c ca0_3 relL_n))))) (relL_c (rel_agg (relL_c rel_i (relL_c ca1_1 (relL_c ca1_2 (relL_c ca1_3 (relL_c rel_i (relL_c rel_i (relL_c rel_i relL_n)))))))) (relL_c ca2 relL_n))) (fn_run tab_ok (en27 k) mixed Tryz.func27 (((lp2001 seals k).1 a0_0 a0_1 a0_2 a0_3 a1_0 a1_1 a1_2 a1_3 a1_4 a1_5 a1_6 a2).trans (bindO_eq hx)))⟩
 ·cases h
theorem en29 : EnvOK Tryz.prog (g29) := (envOK_nil _)
theorem snd29 : Sound Tryz.prog 29 (sp29) := by
 refine ⟨⟨Tryz.f29,Tryz.func29,by kernel_rfl,rfl⟩,fun args objs K r h => ?_⟩
 unfold sp29 at h; dsimp only at h; split at h
 ·rename_i a0 w1
  obtain ⟨o1,h9,eo1⟩ := rowK_spec h; clear h; subst eo1
  have h := h9; clear h9
  obtain ⟨x,hx,h⟩ := bindO_some h
  exact ⟨_,_,h,FnOK.args2 (relL_c rel_i (relL_c rel_i relL_n)) (fn_run tab_ok (en29) mixed Tryz.func29 (((lp2001 seals 0).2.1 a0 o1).trans (bindO_eq hx)))⟩
 ·cases h
theorem en55_1 : EnvOK Tryz.prog (g55_1) := (envOK_add snd29 (envOK_nil _))
theorem snd55_1 (k : Nat) : Sound Tryz.prog 55 (sp55_1 k) := by
 refine ⟨⟨Tryz.f55,Tryz.func55,by kernel_rfl,rfl⟩,fun args objs K r h => ?_⟩
 unfold sp55_1 at h; dsimp only at h; split at h
 ·rename_i v0 w1
  obtain ⟨a0,h9,ca0⟩ := listB_spec h; clear h
  have h := h9; clear h9
  obtain ⟨o1,h9,eo1⟩ := rowK_spec h; clear h; subst eo1
  have h := h9; clear h9
  obtain ⟨x,hx,h⟩ := bindO_some h
  exact ⟨_,_,h,FnOK.args2 (relL_c ca0 (relL_c rel_i relL_n)) (fn_run tab_ok (en55_1) mixed Tryz.func55 (((lp2001 seals k).2.2.1 a0 o1).trans (bindO_eq hx)))⟩
 ·cases h
theorem en28_1 (k : Nat) : EnvOK Tryz.prog (g28_1 k) := (envOK_add (snd55_1 k) (envOK_nil _))
theorem snd28_1 (k : Nat) : Sound Tryz.prog 28 (sp28_1 k) := by
 refine ⟨⟨Tryz.f28,Tryz.func28,by kernel_rfl,rfl⟩,fun args objs K r h => ?_⟩
 unfold sp28_1 at h; dsimp only at h; split at h
 ·rename_i v0 w1
  obtain ⟨a0,h9,ca0⟩ := listB_spec h; clear h
  have h := h9; clear h9
  obtain ⟨o1,h9,eo1⟩ := rowK_spec h; clear h; subst eo1
  have h := h9; clear h9
  obtain ⟨x,hx,h⟩ := bindO_some h
  exact ⟨_,_,h,FnOK.args2 (relL_c ca0 (relL_c rel_i relL_n)) (fn_run tab_ok (en28_1 k) mixed Tryz.func28 (((lp2001 seals k).2.2.2.1 a0 o1).trans (bindO_eq hx)))⟩
 ·cases h
theorem en8 (k : Nat) : EnvOK Tryz.prog (g8 k) := (envOK_add (snd28_1 k) (envOK_add (snd27 k) (envOK_add (snd26 k) (envOK_nil _))))
theorem snd8 (k : Nat) : Sound Tryz.prog 8 (sp8 k) := by
 refine ⟨⟨Tryz.f8,Tryz.func8,by kernel_rfl,rfl⟩,fun args objs K r h => ?_⟩
 unfold sp8 at h; dsimp only at h; split at h
 ·rename_i v0 a0_1 v1 v2
  obtain ⟨a0_0,h9,ca0_0⟩ := listB_spec h; clear h
  have h := h9; clear h9
  obtain ⟨a0_2,h9,ca0_2⟩ := listB_spec h; clear h
  have h := h9; clear h9
  obtain ⟨a0_3,h9,ca0_3⟩ := listB_spec h; clear h
  have h := h9; clear h9
  obtain ⟨x,hx,h⟩ := bindO_some h
  exact ⟨_,_,h,FnOK.args2 (relL_c (rel_agg (relL_c ca0_0 (relL_c rel_i (relL_c ca0_2 (relL_c ca0_3 relL_n))))) relL_n) (fn_run tab_ok (en8 k) mixed Tryz.func8 (((lp2001 seals k).2.2.2.2 a0_0 a0_1 a0_2 a0_3).trans (bindO_eq hx)))⟩
 ·cases h
def lv10 : Live := look ⟨[],[],[],[],[]⟩ []
noncomputable def g10 (k : Nat) : FEnv := (addF 8 (sp8 k) (fun _=>none))
def sp10 (k : Nat) : FSpec := ⟨[.rd],fun args objs K => match args,objs with | [.agg [v0,.s a0_1,v1,v2]],[] => listB (.int .i64) true v0 fun a0_0 => listB (.pair (.int .i64) (.pair (.sl (.int .i64)) (.pair (.sl (.int .i64)) (.pair (.sl (.int .i64)) (.pair (.int .i64) (.pair (.int .i64) .str)))))) true v1 fun a0_2 => listB (.int .i64) true v2 fun a0_3 => bindO (graph_Right.f k a0_0 a0_1 a0_2 a0_3) fun x : Int => K (.i .i64 x) [] | _,_ => none⟩
def lv41 : Live := look ⟨[],[],[],[],[]⟩ []
noncomputable def g41 (k : Nat) : FEnv := (addF 39 (sp39 k) (fun _=>none))
def sp41 (k : Nat) : FSpec := ⟨[.rd,.rd],fun args objs K => match args,objs with | [.agg [.i .i64 a0_0,v0,v1,v2,.i .i64 a0_4,.i .i64 a0_5,.s a0_6],.agg [.i .i64 a1_0,v3,v4,v5,.i .i64 a1_4,.i .i64 a1_5,.s a1_6]],[] => listB (.int .i64) true v0 fun a0_1 => listB (.int .i64) true v1 fun a0_2 => listB (.int .i64) true v2 fun a0_3 => listB (.int .i64) true v3 fun a1_1 => listB (.int .i64) true v4 fun a1_2 => listB (.int .i64) true v5 fun a1_3 => bindO (graph_SameNode.f k a0_0 a0_1 a0_2 a0_3 a0_4 a0_5 a0_6 a1_0 a1_1 a1_2 a1_3 a1_4 a1_5 a1_6) fun x : Bool => K (.b x) [] | _,_ => none⟩
def lv40_1 : Live := look ⟨[],[],[],[],[]⟩ [(4,⟨[1,2,15,16,17],[],[6],[],[]⟩)]
noncomputable def g40_1 (k : Nat) : FEnv := (addF 41 (sp41 k) (fun _=>none))
def sp40_1 (k : Nat) : FSpec := ⟨[.rd,.rd,.rd],fun args objs K => match args,objs with | [v0,v1,.fn 41 []],[] => listB (.pair (.int .i64) (.pair (.sl (.int .i64)) (.pair (.sl (.int .i64)) (.pair (.sl (.int .i64)) (.pair (.int .i64) (.pair (.int .i64) .str)))))) true v0 fun a0 => listB (.pair (.int .i64) (.pair (.sl (.int .i64)) (.pair (.sl (.int .i64)) (.pair (.sl (.int .i64)) (.pair (.int .i64) (.pair (.int .i64) .str)))))) true v1 fun a1 => bindO (slices_EqualFunc_api_Node_api_Node_api_Node__graph_SameNode.f k a0 a1) fun x : Bool => K (.b x) [] | _,_ => none⟩
def lv18 : Live := look ⟨[],[],[],[],[]⟩ []
noncomputable def g18 (k : Nat) : FEnv := (addF 40 (sp40_1 k) (addF 39 (sp39 k) (fun _=>none)))
def sp18 (k : Nat) : FSpec := ⟨[.rd,.rd],fun args objs K => match args,objs with | [.agg [v0,.s a0_1,v1,v2],.agg [v3,.s a1_1,v4,v5]],[] => listB (.int .i64) true v0 fun a0_0 => listB (.pair (.int .i64) (.pair (.sl (.int .i64)) (.pair (.sl (.int .i64)) (.pair (.sl (.int .i64)) (.pair (.int .i64) (.pair (.int .i64) .str)))))) true v1 fun a0_2 => listB (.int .i64) true v2 fun a0_3 => listB (.int .i64) true v3 fun a1_0 => listB (.pair (.int .i64) (.pair (.sl (.int .i64)) (.pair (.sl (.int .i64)) (.pair (.sl (.int .i64)) (.pair (.int .i64) (.pair (.int .i64) .str)))))) true v4 fun a1_2 => listB (.int .i64) true v5 fun a1_3 => bindO (graph_Same.f k a0_0 a0_1 a0_2 a0_3 a1_0 a1_1 a1_2 a1_3) fun x : Bool => K (.b x) [] | _,_ => none⟩
def lv30 : Live := look ⟨[],[],[],[],[]⟩ [(4,⟨[0,1,5],[],[4],[],[]⟩)]
noncomputable def g30 : FEnv := (fun _=>none)
def sp30 (k : Nat) : FSpec := ⟨[.rd,.rd],fun args objs K => match args,objs with | [v0,v1],[] => listB (.int .i64) true v0 fun a0 => listB (.int .i64) true v1 fun a1 => bindO (book_Same_int.f k a0 a1) fun x : Bool => K (.b x) [] | _,_ => none⟩
theorem lp2002 (S : Seals) (k : Nat) : (∀ (a0_0 : List Int) (a0_1 : ByteArray) (a0_2 : List (Int × (List Int) × (List Int) × (List Int) × Int × Int × ByteArray)) (a0_3 : List Int),runF tt (g10 k) lv10 Tryz.f10 k [.agg [.dat (.int .i64) a0_0 true,.s a0_1,.dat (.pair (.int .i64) (.pair (.sl (.int .i64)) (.pair (.sl (.int .i64)) (.pair (.sl (.int .i64)) (.pair (.int .i64) (.pair (.int .i64) .str)))))) a0_2 true,.dat (.int .i64) a0_3 true]] [] = bindO (graph_Right.f k a0_0 a0_1 a0_2 a0_3) (fun x : Int => some (.i .i64 x,[]))) ∧ (∀ (a0_0 : Int) (a0_1 : List Int) (a0_2 : List Int) (a0_3 : List Int) (a0_4 : Int) (a0_5 : Int) (a0_6 : ByteArray) (a1_0 : Int) (a1_1 : List Int) (a1_2 : List Int) (a1_3 : List Int) (a1_4 : Int) (a1_5 : Int) (a1_6 : ByteArray),runF tt (g41 k) lv41 Tryz.f41 k [.agg [.i .i64 a0_0,.dat (.int .i64) a0_1 true,.dat (.int .i64) a0_2 true,.dat (.int .i64) a0_3 true,.i .i64 a0_4,.i .i64 a0_5,.s a0_6],.agg [.i .i64 a1_0,.dat (.int .i64) a1_1 true,.dat (.int .i64) a1_2 true,.dat (.int .i64) a1_3 true,.i .i64 a1_4,.i .i64 a1_5,.s a1_6]] [] = bindO (graph_SameNode.f k a0_0 a0_1 a0_2 a0_3 a0_4 a0_5 a0_6 a1_0 a1_1 a1_2 a1_3 a1_4 a1_5 a1_6) (fun x : Bool => some (.b x,[]))) ∧ (∀ (a0 : List (Int × (List Int) × (List Int) × (List Int) × Int × Int × ByteArray)) (a1 : List (Int × (List Int) × (List Int) × (List Int) × Int × Int × ByteArray)),runF tt (g40_1 k) lv40_1 Tryz.f40 k [.dat (.pair (.int .i64) (.pair (.sl (.int .i64)) (.pair (.sl (.int .i64)) (.pair (.sl (.int .i64)) (.pair (.int .i64) (.pair (.int .i64) .str)))))) a0 true,.dat (.pair (.int .i64) (.pair (.sl (.int .i64)) (.pair (.sl (.int .i64)) (.pair (.sl (.int .i64)) (.pair (.int .i64) (.pair (.int .i64) .str)))))) a1 true,.fn 41 []] [] = bindO (slices_EqualFunc_api_Node_api_Node_api_Node__graph_SameNode.f k a0 a1) (fun x : Bool => some (.b x,[]))) ∧ (∀ (a0_0 : List Int) (a0_1 : ByteArray) (a0_2 : List (Int × (List Int) × (List Int) × (List Int) × Int × Int × ByteArray)) (a0_3 : List Int) (a1_0 : List Int) (a1_1 : ByteArray) (a1_2 : List (Int × (List Int) × (List Int) × (List Int) × Int × Int × ByteArray)) (a1_3 : List Int),runF tt (g18 k) lv18 Tryz.f18 k [.agg [.dat (.int .i64) a0_0 true,.s a0_1,.dat (.pair (.int .i64) (.pair (.sl (.int .i64)) (.pair (.sl (.int .i64)) (.pair (.sl (.int .i64)) (.pair (.int .i64) (.pair (.int .i64) .str)))))) a0_2 true,.dat (.int .i64) a0_3 true],.agg [.dat (.int .i64) a1_0 true,.s a1_1,.dat (.pair (.int .i64) (.pair (.sl (.int .i64)) (.pair (.sl (.int .i64)) (.pair (.sl (.int .i64)) (.pair (.int .i64) (.pair (.int .i64) .str)))))) a1_2 true,.dat (.int .i64) a1_3 true]] [] = bindO (graph_Same.f k a0_0 a0_1 a0_2 a0_3 a1_0 a1_1 a1_2 a1_3) (fun x : Bool => some (.b x,[]))) ∧ (∀ (a0 : List Int) (a1 : List Int),runF tt (g30) lv30 Tryz.f30 k [.dat (.int .i64) a0 true,.dat (.int .i64) a1 true] [] = bindO (book_Same_int.f k a0 a1) (fun x : Bool => some (.b x,[]))) := by
 refine cut_ (A := ∀ (n : Nat) {x1 : List (Int × (List Int) × (List Int) × (List Int) × Int × Int × ByteArray)} {x15 : List (Int × (List Int) × (List Int) × (List Int) × Int × Int × ByteArray)} {x16 : Int} {x17 : Int} {K : CK},S.lp tt (g40_1 k) lv40_1 0 n (loopN Tryz.f40 0) ⟨[(1,.dat (.pair (.int .i64) (.pair (.sl (.int .i64)) (.pair (.sl (.int .i64)) (.pair (.sl (.int .i64)) (.pair (.int .i64) (.pair (.int .i64) .str)))))) x1 true),(2,.fn 41 []),(15,.dat (.pair (.int .i64) (.pair (.sl (.int .i64)) (.pair (.sl (.int .i64)) (.pair (.sl (.int .i64)) (.pair (.int .i64) (.pair (.int .i64) .str)))))) x15 true),(16,.i .i64 x16),(17,.i .i64 x17)],[],0,32⟩ K = bindO (slices_EqualFunc_api_Node_api_Node_api_Node__graph_SameNode.l0 k n x1 x15 x16 x17) (Sum.elim (fun x : Unit => K (.exit 0) ⟨[],[],0,32⟩) (fun x : Bool => K .ret ⟨[(6,.b x)],[],0,32⟩))) (ind_ (by intros; rw [S.lp_zero]; exact none_c) ?_) ?_
 intro n ih; intros; rw [slices_EqualFunc_api_Node_api_Node_api_Node__graph_SameNode.l0]; refine S.lp_succ ?_; conv => lhs; arg 5; whnf
 rotate_left
 intro w40_1_0
 refine cut_ (A := ∀ (n : Nat) {x0 : List Int} {x1 : List Int} {x5 : Int} {K : CK},S.lp tt (g30) lv30 0 n (loopN Tryz.f30 0) ⟨[(0,.dat (.int .i64) x0 true),(1,.dat (.int .i64) x1 true),(5,.i .i64 x5)],[],0,26⟩ K = bindO (book_Same_int.l0 n x0 x1 x5) (Sum.elim (fun x : Unit => K (.exit 0) ⟨[],[],0,26⟩) (fun x : Bool => K .ret ⟨[(4,.b x)],[],0,26⟩))) (ind_ (by intros; rw [S.lp_zero]; exact none_c) ?_) ?_
 intro n ih; intros; rw [book_Same_int.l0]; refine S.lp_succ ?_; conv => lhs; arg 5; whnf
 rotate_left
 intro w30_0
 refine ⟨?_,?_,?_,?_,?_⟩
 intro a0_0 a0_1 a0_2 a0_3
 unfold graph_Right.f; refine S.run_s rfl rfl ?_; conv => lhs; arg 5; whnf
 conv => lhs; arg 6; whnf
 rotate_left
 intro a0_0 a0_1 a0_2 a0_3 a0_4 a0_5 a0_6 a1_0 a1_1 a1_2 a1_3 a1_4 a1_5 a1_6
 unfold graph_SameNode.f; refine S.run_s rfl rfl ?_; conv => lhs; arg 5; whnf
 conv => lhs; arg 6; whnf
 rotate_left
 intro a0 a1
 unfold slices_EqualFunc_api_Node_api_Node_api_Node__graph_SameNode.f; refine S.run_s rfl rfl ?_; conv => lhs; arg 5; whnf
 conv => lhs; arg 6; whnf
 rotate_left
 intro a0_0 a0_1 a0_2 a0_3 a1_0 a1_1 a1_2 a1_3
 unfold graph_Same.f; refine S.run_s rfl rfl ?_; conv => lhs; arg 5; whnf
 conv => lhs; arg 6; whnf
 rotate_left
 intro a0 a1
 unfold book_Same_int.f; refine S.run_s rfl rfl ?_; conv => lhs; arg 5; whnf
 conv => lhs; arg 6; whnf
 rotate_left
 all_goals repeat' first|(first|refine S.seq_op rfl ?_|refine S.op_n ?_|refine S.block_x ?_|refine br_lt ?_|refine br_lf ?_|refine br_t (by assumption) ?_|refine br_f (by assumption) ?_|refine req_i (by with_reducible assumption) ?_|refine br_nd (fun _=>?_) (fun _=>?_)|refine br_d (fun _=>?_) (fun _=>?_)|refine br_n (fun _=>?_) (fun _=>?_)|refine br_c (fun _=>?_) (fun _=>?_)|refine req_c fun _=>?_|refine req_i (by assumption) ?_|refine bnd_c fun _=>?_)<;>(conv=>lhs;whnf)|refine S.seq_nil ?_|refine S.reg_n ?_|refine S.region rfl ?_|refine S.two ?_|refine S.blok ?_|refine S.cond rfl ?_|refine S.after_n ?_|refine S.block_n ?_|refine S.block_r ?_|refine S.after_x ?_|refine S.after_r ?_|refine S.skip ?_|refine S.exit ?_|refine S.ret ?_|refine sum_c (fun _=>?_) (fun _=>?_)|exact ih|refine (w40_1_0 _).trans ?_|refine (w30_0 _).trans ?_|refine S.region_d (id := 6) (ds := [0,0,3,7,0,0,48,112,255]) (mds := [[],[],[],[],[],[],[],[],[]]) (hm := []) (by kernel_rfl) (by kernel_rfl) rfl rfl ?_|(first|refine S.loop ?_|refine S.back_n ?_|refine S.back_x ?_|refine S.back_r ?_|refine S.fin_r ?_|refine S.fin_n ?_|refine S.dk_n ?_|refine S.draw_nil ?_)<;>(conv=>lhs;whnf)|exact ret_c rfl|exact none_c|(refine S.draw_op ?_; conv => lhs; whnf; arg 1; whnf)|refine andK_br ?_|refine andK_req ?_|refine andK_b ?_|refine andK_none ?_
theorem en10 (k : Nat) : EnvOK Tryz.prog (g10 k) := (envOK_add (snd8 k) (envOK_nil _))
theorem snd10 (k : Nat) : Sound Tryz.prog 10 (sp10 k) := by
 refine ⟨⟨Tryz.f10,Tryz.func10,by kernel_rfl,rfl⟩,fun args objs K r h => ?_⟩
 unfold sp10 at h; dsimp only at h; split at h
 ·rename_i v0 a0_1 v1 v2
  obtain ⟨a0_0,h9,ca0_0⟩ := listB_spec h; clear h
  have h := h9; clear h9
  obtain ⟨a0_2,h9,ca0_2⟩ := listB_spec h; clear h
  have h := h9; clear h9
  obtain ⟨a0_3,h9,ca0_3⟩ := listB_spec h; clear h
  have h := h9; clear h9
  obtain ⟨x,hx,h⟩ := bindO_some h
  exact ⟨_,_,h,FnOK.args2 (relL_c (rel_agg (relL_c ca0_0 (relL_c rel_i (relL_c ca0_2 (relL_c ca0_3 relL_n))))) relL_n) (fn_run tab_ok (en10 k) mixed Tryz.func10 (((lp2002 seals k).1 a0_0 a0_1 a0_2 a0_3).trans (bindO_eq hx)))⟩
 ·cases h
theorem en41 (k : Nat) : EnvOK Tryz.prog (g41 k) := (envOK_add (snd39 k) (envOK_nil _))
theorem snd41 (k : Nat) : Sound Tryz.prog 41 (sp41 k) := by
 refine ⟨⟨Tryz.f41,Tryz.func41,by kernel_rfl,rfl⟩,fun args objs K r h => ?_⟩
 unfold sp41 at h; dsimp only at h; split at h
 ·rename_i a0_0 v0 v1 v2 a0_4 a0_5 a0_6 a1_0 v3 v4 v5 a1_4 a1_5 a1_6
  obtain ⟨a0_1,h9,ca0_1⟩ := listB_spec h; clear h
  have h := h9; clear h9
  obtain ⟨a0_2,h9,ca0_2⟩ := listB_spec h; clear h
  have h := h9; clear h9
  obtain ⟨a0_3,h9,ca0_3⟩ := listB_spec h; clear h
  have h := h9; clear h9
  obtain ⟨a1_1,h9,ca1_1⟩ := listB_spec h; clear h
  have h := h9; clear h9
  obtain ⟨a1_2,h9,ca1_2⟩ := listB_spec h; clear h
  have h := h9; clear h9
  obtain ⟨a1_3,h9,ca1_3⟩ := listB_spec h; clear h
  have h := h9; clear h9
  obtain ⟨x,hx,h⟩ := bindO_some h
  exact ⟨_,_,h,FnOK.args2 (relL_c (rel_agg (relL_c rel_i (relL_c ca0_1 (relL_c ca0_2 (relL_c ca0_3 (relL_c rel_i (relL_c rel_i (relL_c rel_i relL_n)))))))) (relL_c (rel_agg (relL_c rel_i (relL_c ca1_1 (relL_c ca1_2 (relL_c ca1_3 (relL_c rel_i (relL_c rel_i (relL_c rel_i relL_n)))))))) relL_n)) (fn_run tab_ok (en41 k) mixed Tryz.func41 (((lp2002 seals k).2.1 a0_0 a0_1 a0_2 a0_3 a0_4 a0_5 a0_6 a1_0 a1_1 a1_2 a1_3 a1_4 a1_5 a1_6).trans (bindO_eq hx)))⟩
 ·cases h
theorem en40_1 (k : Nat) : EnvOK Tryz.prog (g40_1 k) := (envOK_add (snd41 k) (envOK_nil _))
theorem snd40_1 (k : Nat) : Sound Tryz.prog 40 (sp40_1 k) := by
 refine ⟨⟨Tryz.f40,Tryz.func40,by kernel_rfl,rfl⟩,fun args objs K r h => ?_⟩
 unfold sp40_1 at h; dsimp only at h; split at h
 ·rename_i v0 v1
  obtain ⟨a0,h9,ca0⟩ := listB_spec h; clear h
  have h := h9; clear h9
  obtain ⟨a1,h9,ca1⟩ := listB_spec h; clear h
  have h := h9; clear h9
  obtain ⟨x,hx,h⟩ := bindO_some h
  exact ⟨_,_,h,FnOK.args2 (relL_c ca0 (relL_c ca1 (relL_c rel_i relL_n))) (fn_run tab_ok (en40_1 k) mixed Tryz.func40 (((lp2002 seals k).2.2.1 a0 a1).trans (bindO_eq hx)))⟩
 ·cases h
theorem en18 (k : Nat) : EnvOK Tryz.prog (g18 k) := (envOK_add (snd40_1 k) (envOK_add (snd39 k) (envOK_nil _)))
theorem snd18 (k : Nat) : Sound Tryz.prog 18 (sp18 k) := by
 refine ⟨⟨Tryz.f18,Tryz.func18,by kernel_rfl,rfl⟩,fun args objs K r h => ?_⟩
 unfold sp18 at h; dsimp only at h; split at h
 ·rename_i v0 a0_1 v1 v2 v3 a1_1 v4 v5
  obtain ⟨a0_0,h9,ca0_0⟩ := listB_spec h; clear h
  have h := h9; clear h9
  obtain ⟨a0_2,h9,ca0_2⟩ := listB_spec h; clear h
  have h := h9; clear h9
  obtain ⟨a0_3,h9,ca0_3⟩ := listB_spec h; clear h
  have h := h9; clear h9
  obtain ⟨a1_0,h9,ca1_0⟩ := listB_spec h; clear h
  have h := h9; clear h9
  obtain ⟨a1_2,h9,ca1_2⟩ := listB_spec h; clear h
  have h := h9; clear h9
  obtain ⟨a1_3,h9,ca1_3⟩ := listB_spec h; clear h
  have h := h9; clear h9
  obtain ⟨x,hx,h⟩ := bindO_some h
  exact ⟨_,_,h,FnOK.args2 (relL_c (rel_agg (relL_c ca0_0 (relL_c rel_i (relL_c ca0_2 (relL_c ca0_3 relL_n))))) (relL_c (rel_agg (relL_c ca1_0 (relL_c rel_i (relL_c ca1_2 (relL_c ca1_3 relL_n))))) relL_n)) (fn_run tab_ok (en18 k) mixed Tryz.func18 (((lp2002 seals k).2.2.2.1 a0_0 a0_1 a0_2 a0_3 a1_0 a1_1 a1_2 a1_3).trans (bindO_eq hx)))⟩
 ·cases h
theorem en30 : EnvOK Tryz.prog (g30) := (envOK_nil _)
theorem snd30 (k : Nat) : Sound Tryz.prog 30 (sp30 k) := by
 refine ⟨⟨Tryz.f30,Tryz.func30,by kernel_rfl,rfl⟩,fun args objs K r h => ?_⟩
 unfold sp30 at h; dsimp only at h; split at h
 ·rename_i v0 v1
  obtain ⟨a0,h9,ca0⟩ := listB_spec h; clear h
  have h := h9; clear h9
  obtain ⟨a1,h9,ca1⟩ := listB_spec h; clear h
  have h := h9; clear h9
  obtain ⟨x,hx,h⟩ := bindO_some h
  exact ⟨_,_,h,FnOK.args2 (relL_c ca0 (relL_c ca1 relL_n)) (fn_run tab_ok (en30) mixed Tryz.func30 (((lp2002 seals k).2.2.2.2 a0 a1).trans (bindO_eq hx)))⟩
 ·cases h
def lv31 : Live := look ⟨[],[],[],[],[]⟩ [(3,⟨[3,7,8,9],[3],[2],[(3,0,.own (.int .i64))],[]⟩)]
noncomputable def g31 : FEnv := (fun _=>none)
def sp31 (k : Nat) : FSpec := ⟨[.rd],fun args objs K => match args,objs with | [.agg [v0,.s a0_1,v1,v2]],[] => listB (.int .i64) true v0 fun a0_0 => listB (.pair (.int .i64) (.pair (.sl (.int .i64)) (.pair (.sl (.int .i64)) (.pair (.sl (.int .i64)) (.pair (.int .i64) (.pair (.int .i64) .str)))))) true v1 fun a0_2 => listB (.int .i64) true v2 fun a0_3 => bindO (graph_Params.f k a0_0 a0_1 a0_2 a0_3) fun x : (List Int) => K (.own 0) [.row (.int .i64) x false] | _,_ => none⟩
def lv11 : Live := look ⟨[],[],[],[],[]⟩ []
noncomputable def g11 (k : Nat) : FEnv := (addF 18 (sp18 k) (addF 31 (sp31 k) (addF 30 (sp30 k) (addF 10 (sp10 k) (addF 8 (sp8 k) (fun _=>none))))))
def sp11 (k : Nat) : FSpec := ⟨[],fun args objs K => match args,objs with | [],[] => bindO (law10_known.f k) fun x : Bool => K (.b x) [] | _,_ => none⟩
def lv32 : Live := look ⟨[],[],[],[],[]⟩ []
noncomputable def g32 : FEnv := (fun _=>none)
def sp32 : FSpec := ⟨[.rd,.rd,.rd],fun args objs K => match args,objs with | [.i .i64 a0,.i .i64 a1,.i .i64 a2],[] => bindO (book_Within.f a0 a1 a2) fun x : Int => K (.i .i64 x) [] | _,_ => none⟩
def lv12 : Live := look ⟨[],[],[],[],[]⟩ []
noncomputable def g12 : FEnv := (addF 32 sp32 (fun _=>none))
def sp12 : FSpec := ⟨[.rd,.rd],fun args objs K => match args,objs with | [.ptr 0 0,.i .i64 a1],[.var [v0,.i .i64 o0_1]] => datK (.int .i64) false v0 fun o0_0 => bindO (keep_Tape_Next.f a1 o0_0 o0_1) fun x : Int × Int => K (.i .i64 x.1) [.var [.dat (.int .i64) o0_0 false,.i .i64 x.2]] | _,_ => none⟩
theorem lp2003 (S : Seals) (k : Nat) : (∀ (a0_0 : List Int) (a0_1 : ByteArray) (a0_2 : List (Int × (List Int) × (List Int) × (List Int) × Int × Int × ByteArray)) (a0_3 : List Int),runF tt (g31) lv31 Tryz.f31 k [.agg [.dat (.int .i64) a0_0 true,.s a0_1,.dat (.pair (.int .i64) (.pair (.sl (.int .i64)) (.pair (.sl (.int .i64)) (.pair (.sl (.int .i64)) (.pair (.int .i64) (.pair (.int .i64) .str)))))) a0_2 true,.dat (.int .i64) a0_3 true]] [] = bindO (graph_Params.f k a0_0 a0_1 a0_2 a0_3) (fun x : (List Int) => some (.own 0,[.row (.int .i64) x false]))) ∧ (runF tt (g11 k) lv11 Tryz.f11 k [] [] = bindO (law10_known.f k) (fun x : Bool => some (.b x,[]))) ∧ (∀ (a0 : Int) (a1 : Int) (a2 : Int),runF tt (g32) lv32 Tryz.f32 k [.i .i64 a0,.i .i64 a1,.i .i64 a2] [] = bindO (book_Within.f a0 a1 a2) (fun x : Int => some (.i .i64 x,[]))) ∧ (∀ (a1 : Int) (o0_0 : List Int) (o0_1 : Int),runF tt (g12) lv12 Tryz.f12 k [.ptr 0 0,.i .i64 a1] [.var [.dat (.int .i64) o0_0 false,.i .i64 o0_1]] = bindO (keep_Tape_Next.f a1 o0_0 o0_1) (fun x : Int × Int => some (.i .i64 x.1,[.var [.dat (.int .i64) o0_0 false,.i .i64 x.2]]))) := by
 refine cut_ (A := ∀ (n : Nat) {x7 : List (Int × (List Int) × (List Int) × (List Int) × Int × Int × ByteArray)} {x8 : Int} {x9 : Int} {y0 : List Int} {K : CK},S.lp tt (g31) lv31 0 n (loopN Tryz.f31 0) ⟨[(3,.own 0),(7,.dat (.pair (.int .i64) (.pair (.sl (.int .i64)) (.pair (.sl (.int .i64)) (.pair (.sl (.int .i64)) (.pair (.int .i64) (.pair (.int .i64) .str)))))) x7 true),(8,.i .i64 x8),(9,.i .i64 x9)],[(0,.row (.int .i64) y0 false)],1,23⟩ K = bindO (graph_Params.l0 n x7 x8 x9 y0) (fun x : (List Int) => K (.exit 0) ⟨[(3,.own 0)],[(0,.row (.int .i64) x false)],1,23⟩)) (ind_ (by intros; rw [S.lp_zero]; exact none_c) ?_) ?_
 intro n ih; intros; rw [graph_Params.l0]; refine S.lp_succ ?_; conv => lhs; arg 5; whnf
 rotate_left
 intro w31_0
 refine ⟨?_,?_,?_,?_⟩
 intro a0_0 a0_1 a0_2 a0_3
 unfold graph_Params.f; refine S.run_s rfl rfl ?_; conv => lhs; arg 5; whnf
 conv => lhs; arg 6; whnf
 rotate_left
 unfold law10_known.f; refine S.run_s rfl rfl ?_; conv => lhs; arg 5; whnf
 conv => lhs; arg 6; whnf
 rotate_left
 intro a0 a1 a2
 unfold book_Within.f; refine S.run_s rfl rfl ?_; conv => lhs; arg 5; whnf
 conv => lhs; arg 6; whnf
 rotate_left
 intro a1 o0_0 o0_1
 unfold keep_Tape_Next.f; refine S.run_s rfl rfl ?_; conv => lhs; arg 5; whnf
 conv => lhs; arg 6; whnf
 rotate_left
 all_goals repeat' first|(first|refine S.seq_op rfl ?_|refine S.op_n ?_|refine S.block_x ?_|refine br_lt ?_|refine br_lf ?_|refine br_t (by assumption) ?_|refine br_f (by assumption) ?_|refine req_i (by with_reducible assumption) ?_|refine br_nd (fun _=>?_) (fun _=>?_)|refine br_d (fun _=>?_) (fun _=>?_)|refine br_n (fun _=>?_) (fun _=>?_)|refine br_c (fun _=>?_) (fun _=>?_)|refine req_c fun _=>?_|refine req_i (by assumption) ?_|refine bnd_c fun _=>?_)<;>(conv=>lhs;whnf)|refine S.seq_nil ?_|refine S.reg_n ?_|refine S.region rfl ?_|refine S.two ?_|refine S.blok ?_|refine S.cond rfl ?_|refine S.after_n ?_|refine S.block_n ?_|refine S.block_r ?_|refine S.after_x ?_|refine S.after_r ?_|refine S.skip ?_|refine S.exit ?_|refine S.ret ?_|refine sum_c (fun _=>?_) (fun _=>?_)|exact ih|refine (w31_0 _).trans ?_|refine S.region_d (id := 1) (ds := [0,1,3,7,0,16,48,112,240,511,1023,2047,4095,8191]) (mds := [[],[],[],[],[],[],[],[],[],[],[],[],[],[]]) (hm := []) (by kernel_rfl) (by kernel_rfl) rfl rfl ?_|refine S.region_d (id := 4) (ds := [0,1,3,7,0,16,48,112,240,511,1023,2047,0,8191,16383]) (mds := [[],[],[],[],[],[],[],[],[],[],[],[],[],[],[]]) (hm := []) (by kernel_rfl) (by kernel_rfl) rfl rfl ?_|(first|refine S.loop ?_|refine S.back_n ?_|refine S.back_x ?_|refine S.back_r ?_|refine S.fin_r ?_|refine S.fin_n ?_|refine S.dk_n ?_|refine S.draw_nil ?_)<;>(conv=>lhs;whnf)|exact ret_c rfl|exact none_c|(refine S.draw_op ?_; conv => lhs; whnf; arg 1; whnf)|refine andK_br ?_|refine andK_req ?_|refine andK_b ?_|refine andK_none ?_
theorem en31 : EnvOK Tryz.prog (g31) := (envOK_nil _)
theorem snd31 (k : Nat) : Sound Tryz.prog 31 (sp31 k) := by
 refine ⟨⟨Tryz.f31,Tryz.func31,by kernel_rfl,rfl⟩,fun args objs K r h => ?_⟩
 unfold sp31 at h; dsimp only at h; split at h
 ·rename_i v0 a0_1 v1 v2
  obtain ⟨a0_0,h9,ca0_0⟩ := listB_spec h; clear h
  have h := h9; clear h9
  obtain ⟨a0_2,h9,ca0_2⟩ := listB_spec h; clear h
  have h := h9; clear h9
  obtain ⟨a0_3,h9,ca0_3⟩ := listB_spec h; clear h
  have h := h9; clear h9
  obtain ⟨x,hx,h⟩ := bindO_some h
  exact ⟨_,_,h,FnOK.args2 (relL_c (rel_agg (relL_c ca0_0 (relL_c rel_i (relL_c ca0_2 (relL_c ca0_3 relL_n))))) relL_n) (fn_run tab_ok (en31) mixed Tryz.func31 (((lp2003 seals k).1 a0_0 a0_1 a0_2 a0_3).trans (bindO_eq hx)))⟩
 ·cases h
theorem en11 (k : Nat) : EnvOK Tryz.prog (g11 k) := (envOK_add (snd18 k) (envOK_add (snd31 k) (envOK_add (snd30 k) (envOK_add (snd10 k) (envOK_add (snd8 k) (envOK_nil _))))))
theorem snd11 (k : Nat) : Sound Tryz.prog 11 (sp11 k) := by
 refine ⟨⟨Tryz.f11,Tryz.func11,by kernel_rfl,rfl⟩,fun args objs K r h => ?_⟩
 unfold sp11 at h; dsimp only at h; split at h
 ·skip
  obtain ⟨x,hx,h⟩ := bindO_some h
  exact ⟨_,_,h,FnOK.args2 relL_n (fn_run tab_ok (en11 k) mixed Tryz.func11 (((lp2003 seals k).2.1).trans (bindO_eq hx)))⟩
 ·cases h
theorem en32 : EnvOK Tryz.prog (g32) := (envOK_nil _)
theorem snd32 : Sound Tryz.prog 32 (sp32) := by
 refine ⟨⟨Tryz.f32,Tryz.func32,by kernel_rfl,rfl⟩,fun args objs K r h => ?_⟩
 unfold sp32 at h; dsimp only at h; split at h
 ·rename_i a0 a1 a2
  obtain ⟨x,hx,h⟩ := bindO_some h
  exact ⟨_,_,h,FnOK.args2 (relL_c rel_i (relL_c rel_i (relL_c rel_i relL_n))) (fn_run tab_ok (en32) mixed Tryz.func32 (((lp2003 seals 0).2.2.1 a0 a1 a2).trans (bindO_eq hx)))⟩
 ·cases h
theorem en12 : EnvOK Tryz.prog (g12) := (envOK_add snd32 (envOK_nil _))
theorem snd12 : Sound Tryz.prog 12 (sp12) := by
 refine ⟨⟨Tryz.f12,Tryz.func12,by kernel_rfl,rfl⟩,fun args objs K r h => ?_⟩
 unfold sp12 at h; dsimp only at h; split at h
 ·rename_i a1 v0 o0_1
  obtain ⟨o0_0,h9,eo0_0⟩ := datK_spec h; clear h; subst eo0_0
  have h := h9; clear h9
  obtain ⟨x,hx,h⟩ := bindO_some h
  exact ⟨_,_,h,FnOK.args2 (relL_c rel_i (relL_c rel_i relL_n)) (fn_run tab_ok (en12) mixed Tryz.func12 (((lp2003 seals 0).2.2.2 a1 o0_0 o0_1).trans (bindO_eq hx)))⟩
 ·cases h
end Go.Vm
