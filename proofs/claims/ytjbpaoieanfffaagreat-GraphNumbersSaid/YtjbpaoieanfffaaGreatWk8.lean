/- Own texts put together: the walks -/
import Derived.Test.YtjbpaoieanfffaaGreatWk0
import Derived.Test.YtjbpaoieanfffaaGreatWk3
import Derived.Test.YtjbpaoieanfffaaGreatWk7
import Derived.Test.YtjbpaoieanfffaaGreatWk2
set_option linter.unusedVariables false
set_option maxRecDepth 60000
set_option maxHeartbeats 40000000
namespace Go.Vm
open Go Go.Proofs Go.Pf

def lv13 : Live := look ⟨[],[],[],[],[]⟩ [(3,⟨[0,3,4],[3],[2],[(3,0,.own (.int .i64))],[]⟩)]
noncomputable def g13 : FEnv := (fun _=>none)
def sp13 (k : Nat) : FSpec := ⟨[.rd],fun args objs K => match args,objs with | [.i .i64 a0],[] => bindO (law10_tape.f k a0) fun x : (List Int) => K (.own 0) [.row (.int .i64) x false] | _,_ => none⟩
def lv38 : Live := look ⟨[],[],[],[],[]⟩ []
noncomputable def g38 : FEnv := (addF 37 sp37 (fun _=>none))
def sp38 : FSpec := ⟨[.rd],fun args objs K => match args,objs with | [.agg [.i .i64 a0_0,v0,v1,v2,.i .i64 a0_4,.i .i64 a0_5,.s a0_6]],[] => listB (.int .i64) true v0 fun a0_1 => listB (.int .i64) true v1 fun a0_2 => listB (.int .i64) true v2 fun a0_3 => bindO (graph_CopyNode.f a0_0 a0_1 a0_2 a0_3 a0_4 a0_5 a0_6) fun x : (List Int) × (List Int) × (List Int) => K (.agg [.i .i64 a0_0,.own 0,.own 1,.own 2,.i .i64 a0_4,.i .i64 a0_5,.s a0_6]) [.row (.int .i64) x.1 false,.row (.int .i64) x.2.1 false,.row (.int .i64) x.2.2 false] | _,_ => none⟩
def lv17 : Live := look ⟨[],[],[],[],[]⟩ [(3,⟨[2,3,16,17,18],[2,3],[2],[(3,2,.own (.pair (.int .i64) (.pair (.sl (.int .i64)) (.pair (.sl (.int .i64)) (.pair (.sl (.int .i64)) (.pair (.int .i64) (.pair (.int .i64) .str)))))))],[]⟩)]
noncomputable def g17 : FEnv := (addF 38 sp38 (addF 37 sp37 (fun _=>none)))
def sp17 (k : Nat) : FSpec := ⟨[.rd],fun args objs K => match args,objs with | [.agg [v0,.s a0_1,v1,v2]],[] => listB (.int .i64) true v0 fun a0_0 => listB (.pair (.int .i64) (.pair (.sl (.int .i64)) (.pair (.sl (.int .i64)) (.pair (.sl (.int .i64)) (.pair (.int .i64) (.pair (.int .i64) .str)))))) true v1 fun a0_2 => listB (.int .i64) true v2 fun a0_3 => bindO (graph_Copy.f k a0_0 a0_1 a0_2 a0_3) fun x : (List Int) × (List (Int × (List Int) × (List Int) × (List Int) × Int × Int × ByteArray)) × (List Int) => K (.agg [.own 0,.s a0_1,.own 1,.own 2]) [.row (.int .i64) x.1 false,.row (.pair (.int .i64) (.pair (.sl (.int .i64)) (.pair (.sl (.int .i64)) (.pair (.sl (.int .i64)) (.pair (.int .i64) (.pair (.int .i64) .str)))))) x.2.1 false,.row (.int .i64) x.2.2 false] | _,_ => none⟩
def lv43 : Live := look ⟨[],[],[],[],[]⟩ []
noncomputable def g43 (k : Nat) : FEnv := (addF 42 (sp42 k) (fun _=>none))
def sp43 (k : Nat) : FSpec := ⟨[.rd,.rd],fun args objs K => match args,objs with | [.agg [.i .i64 a0_0,v0,v1,v2,.i .i64 a0_4,.i .i64 a0_5,.s a0_6],.agg [.i .i64 a1_0,v3,v4,v5,.i .i64 a1_4,.i .i64 a1_5,.s a1_6]],[] => listB (.int .i64) true v0 fun a0_1 => listB (.int .i64) true v1 fun a0_2 => listB (.int .i64) true v2 fun a0_3 => listB (.int .i64) true v3 fun a1_1 => listB (.int .i64) true v4 fun a1_2 => listB (.int .i64) true v5 fun a1_3 => bindO (ref10_Nodes.f k a0_0 a0_1 a0_2 a0_3 a0_4 a0_5 a0_6 a1_0 a1_1 a1_2 a1_3 a1_4 a1_5 a1_6) fun x : Bool => K (.b x) [] | _,_ => none⟩
def lv19 : Live := look ⟨[],[],[],[],[]⟩ [(4,⟨[2,3,38,39],[],[4],[],[]⟩)]
noncomputable def g19 (k : Nat) : FEnv := (addF 43 (sp43 k) (addF 42 (sp42 k) (fun _=>none)))
def sp19 (k : Nat) : FSpec := ⟨[.rd,.rd],fun args objs K => match args,objs with | [.agg [v0,.s a0_1,v1,v2],.agg [v3,.s a1_1,v4,v5]],[] => listB (.int .i64) true v0 fun a0_0 => listB (.pair (.int .i64) (.pair (.sl (.int .i64)) (.pair (.sl (.int .i64)) (.pair (.sl (.int .i64)) (.pair (.int .i64) (.pair (.int .i64) .str)))))) true v1 fun a0_2 => listB (.int .i64) true v2 fun a0_3 => listB (.int .i64) true v3 fun a1_0 => listB (.pair (.int .i64) (.pair (.sl (.int .i64)) (.pair (.sl (.int .i64)) (.pair (.sl (.int .i64)) (.pair (.int .i64) (.pair (.int .i64) .str)))))) true v4 fun a1_2 => listB (.int .i64) true v5 fun a1_3 => bindO (ref10_Same.f k a0_0 a0_1 a0_2 a0_3 a1_0 a1_1 a1_2 a1_3) fun x : Bool => K (.b x) [] | _,_ => none⟩
theorem lp8000 (S : Seals) (k : Nat) : (∀ (a0 : Int),runF tt (g13) lv13 Tryz.f13 k [.i .i64 a0] [] = bindO (law10_tape.f k a0) (fun x : (List Int) => some (.own 0,[.row (.int .i64) x false]))) ∧ (∀ (a0_0 : Int) (a0_1 : List Int) (a0_2 : List Int) (a0_3 : List Int) (a0_4 : Int) (a0_5 : Int) (a0_6 : ByteArray),runF tt (g38) lv38 Tryz.f38 k [.agg [.i .i64 a0_0,.dat (.int .i64) a0_1 true,.dat (.int .i64) a0_2 true,.dat (.int .i64) a0_3 true,.i .i64 a0_4,.i .i64 a0_5,.s a0_6]] [] = bindO (graph_CopyNode.f a0_0 a0_1 a0_2 a0_3 a0_4 a0_5 a0_6) (fun x : (List Int) × (List Int) × (List Int) => some (.agg [.i .i64 a0_0,.own 0,.own 1,.own 2,.i .i64 a0_4,.i .i64 a0_5,.s a0_6],[.row (.int .i64) x.1 false,.row (.int .i64) x.2.1 false,.row (.int .i64) x.2.2 false]))) ∧ (∀ (a0_0 : List Int) (a0_1 : ByteArray) (a0_2 : List (Int × (List Int) × (List Int) × (List Int) × Int × Int × ByteArray)) (a0_3 : List Int),runF tt (g17) lv17 Tryz.f17 k [.agg [.dat (.int .i64) a0_0 true,.s a0_1,.dat (.pair (.int .i64) (.pair (.sl (.int .i64)) (.pair (.sl (.int .i64)) (.pair (.sl (.int .i64)) (.pair (.int .i64) (.pair (.int .i64) .str)))))) a0_2 true,.dat (.int .i64) a0_3 true]] [] = bindO (graph_Copy.f k a0_0 a0_1 a0_2 a0_3) (fun x : (List Int) × (List (Int × (List Int) × (List Int) × (List Int) × Int × Int × ByteArray)) × (List Int) => some (.agg [.own 0,.s a0_1,.own 1,.own 2],[.row (.int .i64) x.1 false,.row (.pair (.int .i64) (.pair (.sl (.int .i64)) (.pair (.sl (.int .i64)) (.pair (.sl (.int .i64)) (.pair (.int .i64) (.pair (.int .i64) .str)))))) x.2.1 false,.row (.int .i64) x.2.2 false]))) ∧ (∀ (a0_0 : Int) (a0_1 : List Int) (a0_2 : List Int) (a0_3 : List Int) (a0_4 : Int) (a0_5 : Int) (a0_6 : ByteArray) (a1_0 : Int) (a1_1 : List Int) (a1_2 : List Int) (a1_3 : List Int) (a1_4 : Int) (a1_5 : Int) (a1_6 : ByteArray),runF tt (g43 k) lv43 Tryz.f43 k [.agg [.i .i64 a0_0,.dat (.int .i64) a0_1 true,.dat (.int .i64) a0_2 true,.dat (.int .i64) a0_3 true,.i .i64 a0_4,.i .i64 a0_5,.s a0_6],.agg [.i .i64 a1_0,.dat (.int .i64) a1_1 true,.dat (.int .i64) a1_2 true,.dat (.int .i64) a1_3 true,.i .i64 a1_4,.i .i64 a1_5,.s a1_6]] [] = bindO (ref10_Nodes.f k a0_0 a0_1 a0_2 a0_3 a0_4 a0_5 a0_6 a1_0 a1_1 a1_2 a1_3 a1_4 a1_5 a1_6) (fun x : Bool => some (.b x,[]))) ∧ (∀ (a0_0 : List Int) (a0_1 : ByteArray) (a0_2 : List (Int × (List Int) × (List Int) × (List Int) × Int × Int × ByteArray)) (a0_3 : List Int) (a1_0 : List Int) (a1_1 : ByteArray) (a1_2 : List (Int × (List Int) × (List Int) × (List Int) × Int × Int × ByteArray)) (a1_3 : List Int),runF tt (g19 k) lv19 Tryz.f19 k [.agg [.dat (.int .i64) a0_0 true,.s a0_1,.dat (.pair (.int .i64) (.pair (.sl (.int .i64)) (.pair (.sl (.int .i64)) (.pair (.sl (.int .i64)) (.pair (.int .i64) (.pair (.int .i64) .str)))))) a0_2 true,.dat (.int .i64) a0_3 true],.agg [.dat (.int .i64) a1_0 true,.s a1_1,.dat (.pair (.int .i64) (.pair (.sl (.int .i64)) (.pair (.sl (.int .i64)) (.pair (.sl (.int .i64)) (.pair (.int .i64) (.pair (.int .i64) .str)))))) a1_2 true,.dat (.int .i64) a1_3 true]] [] = bindO (ref10_Same.f k a0_0 a0_1 a0_2 a0_3 a1_0 a1_1 a1_2 a1_3) (fun x : Bool => some (.b x,[]))) := by
 refine cut_ (A := ∀ (n : Nat) {x0 : Int} {x4 : Int} {y0 : List Int} {K : CK},S.lp tt (g13) lv13 0 n (loopN Tryz.f13 0) ⟨[(0,.i .i64 x0),(3,.own 0),(4,.i .i64 x4)],[(0,.row (.int .i64) y0 false)],1,25⟩ K = bindO (law10_tape.l0 n x0 x4 y0) (fun x : (List Int) => K (.exit 0) ⟨[(3,.own 0)],[(0,.row (.int .i64) x false)],1,25⟩)) (ind_ (by intros; rw [S.lp_zero]; exact none_c) ?_) ?_
 intro n ih; intros; rw [law10_tape.l0]; refine S.lp_succ ?_; conv => lhs; arg 5; whnf
 rotate_left
 intro w13_0
 refine cut_ (A := ∀ (n : Nat) {x16 : List (Int × (List Int) × (List Int) × (List Int) × Int × Int × ByteArray)} {x17 : Int} {x18 : Int} {y0 : ByteArray} {y1 : ByteArray} {y2 : List Int} {y3 : List (Int × (List Int) × (List Int) × (List Int) × Int × Int × ByteArray)} {y4 : List Int} {K : CK},S.lp tt (g17) lv17 0 n (loopN Tryz.f17 0) ⟨[(2,.ptr 0 0),(3,.ptr 1 0),(16,.dat (.pair (.int .i64) (.pair (.sl (.int .i64)) (.pair (.sl (.int .i64)) (.pair (.sl (.int .i64)) (.pair (.int .i64) (.pair (.int .i64) .str)))))) x16 true),(17,.i .i64 x17),(18,.i .i64 x18)],[(0,.var [.nilsl,.s y0,.nilsl,.nilsl]),(1,.var [.own 2,.s y1,.own 3,.own 4]),(2,.row (.int .i64) y2 false),(3,.row (.pair (.int .i64) (.pair (.sl (.int .i64)) (.pair (.sl (.int .i64)) (.pair (.sl (.int .i64)) (.pair (.int .i64) (.pair (.int .i64) .str)))))) y3 false),(4,.row (.int .i64) y4 false)],5,31⟩ K = bindO (graph_Copy.l0 n x16 x17 x18 y0 y1 y2 y3 y4) (fun x : (List (Int × (List Int) × (List Int) × (List Int) × Int × Int × ByteArray)) => K (.exit 0) ⟨[(2,.ptr 0 0),(3,.ptr 1 0)],[(0,.var [.nilsl,.s y0,.nilsl,.nilsl]),(1,.var [.own 2,.s y1,.own 3,.own 4]),(2,.row (.int .i64) y2 false),(3,.row (.pair (.int .i64) (.pair (.sl (.int .i64)) (.pair (.sl (.int .i64)) (.pair (.sl (.int .i64)) (.pair (.int .i64) (.pair (.int .i64) .str)))))) x false),(4,.row (.int .i64) y4 false)],5,31⟩)) (ind_ (by intros; rw [S.lp_zero]; exact none_c) ?_) ?_
 intro n ih; intros; rw [graph_Copy.l0]; refine S.lp_succ ?_; conv => lhs; arg 5; whnf
 rotate_left
 intro w17_0
 refine cut_ (A := ∀ (n : Nat) {x38 : Int} {x39 : Int} {y0_0 : List Int} {y0_1 : ByteArray} {y0_2 : List (Int × (List Int) × (List Int) × (List Int) × Int × Int × ByteArray)} {y0_3 : List Int} {y1_0 : List Int} {y1_1 : ByteArray} {y1_2 : List (Int × (List Int) × (List Int) × (List Int) × Int × Int × ByteArray)} {y1_3 : List Int} {K : CK},S.lp tt (g19 k) lv19 0 n (loopN Tryz.f19 0) ⟨[(2,.ptr 0 0),(3,.ptr 1 0),(38,.i .i64 x38),(39,.i .i64 x39)],[(0,.var [.dat (.int .i64) y0_0 true,.s y0_1,.dat (.pair (.int .i64) (.pair (.sl (.int .i64)) (.pair (.sl (.int .i64)) (.pair (.sl (.int .i64)) (.pair (.int .i64) (.pair (.int .i64) .str)))))) y0_2 true,.dat (.int .i64) y0_3 true]),(1,.var [.dat (.int .i64) y1_0 true,.s y1_1,.dat (.pair (.int .i64) (.pair (.sl (.int .i64)) (.pair (.sl (.int .i64)) (.pair (.sl (.int .i64)) (.pair (.int .i64) (.pair (.int .i64) .str)))))) y1_2 true,.dat (.int .i64) y1_3 true])],2,55⟩ K = bindO (ref10_Same.l0 k n x38 x39 y0_0 y0_1 y0_2 y0_3 y1_0 y1_1 y1_2 y1_3) (Sum.elim (fun x : Unit => K (.exit 0) ⟨[],[],0,55⟩) (fun x : Bool => K .ret ⟨[(4,.b x)],[],0,55⟩))) (ind_ (by intros; rw [S.lp_zero]; exact none_c) ?_) ?_
 intro n ih; intros; rw [ref10_Same.l0]; refine S.lp_succ ?_; conv => lhs; arg 5; whnf
 rotate_left
 intro w19_0
 refine ⟨?_,?_,?_,?_,?_⟩
 intro a0
 unfold law10_tape.f; refine S.run_s rfl rfl ?_; conv => lhs; arg 5; whnf
 conv => lhs; arg 6; whnf
 rotate_left
 intro a0_0 a0_1 a0_2 a0_3 a0_4 a0_5 a0_6
 unfold graph_CopyNode.f; refine S.run_s rfl rfl ?_; conv => lhs; arg 5; whnf
 conv => lhs; arg 6; whnf
 rotate_left
 intro a0_0 a0_1 a0_2 a0_3
 unfold graph_Copy.f; refine S.run_s rfl rfl ?_; conv => lhs; arg 5; whnf
 conv => lhs; arg 6; whnf
 rotate_left
 intro a0_0 a0_1 a0_2 a0_3 a0_4 a0_5 a0_6 a1_0 a1_1 a1_2 a1_3 a1_4 a1_5 a1_6
 unfold ref10_Nodes.f; refine S.run_s rfl rfl ?_; conv => lhs; arg 5; whnf
 conv => lhs; arg 6; whnf
 rotate_left
 intro a0_0 a0_1 a0_2 a0_3 a1_0 a1_1 a1_2 a1_3
 unfold ref10_Same.f; refine S.run_s rfl rfl ?_; conv => lhs; arg 5; whnf
 conv => lhs; arg 6; whnf
 rotate_left
 all_goals repeat' first|(first|refine S.seq_op rfl ?_|refine S.op_n ?_|refine S.block_x ?_|refine br_lt ?_|refine br_lf ?_|refine br_t (by assumption) ?_|refine br_f (by assumption) ?_|refine req_i (by with_reducible assumption) ?_|refine br_nd (fun _=>?_) (fun _=>?_)|refine br_d (fun _=>?_) (fun _=>?_)|refine br_n (fun _=>?_) (fun _=>?_)|refine br_c (fun _=>?_) (fun _=>?_)|refine req_c fun _=>?_|refine req_i (by assumption) ?_|refine bnd_c fun _=>?_)<;>(conv=>lhs;whnf)|refine S.seq_nil ?_|refine S.reg_n ?_|refine S.region rfl ?_|refine S.two ?_|refine S.blok ?_|refine S.cond rfl ?_|refine S.after_n ?_|refine S.block_n ?_|refine S.block_r ?_|refine S.after_x ?_|refine S.after_r ?_|refine S.skip ?_|refine S.exit ?_|refine S.ret ?_|refine sum_c (fun _=>?_) (fun _=>?_)|exact ih|refine (w13_0 _).trans ?_|refine (w17_0 _).trans ?_|refine (w19_0 _).trans ?_|refine S.region_d (id := 1) (ds := [0,1,3,0,8,31,0,64,255,223,1023,2047,4095,8191,16383]) (mds := [[],[],[],[],[],[],[],[],[],[],[0],[],[0],[],[0]]) (hm := [(10,[0]),(12,[0]),(14,[0])]) (by kernel_rfl) (by kernel_rfl) rfl rfl ?_|refine S.region_d (id := 5) (ds := [0,1,0,4,12,31,63,127]) (mds := [[],[],[],[],[],[3],[],[1]]) (hm := [(5,[3]),(7,[1])]) (by kernel_rfl) (by kernel_rfl) rfl rfl ?_|refine S.region_d (id := 1) (ds := [0,1,3,0,8,0,32,103,255,0,1023]) (mds := [[],[],[],[],[],[],[],[],[],[],[]]) (hm := []) (by kernel_rfl) (by kernel_rfl) rfl rfl ?_|refine S.region_d (id := 6) (ds := [0,1,0,7,15,0,32,0,224,480,1023,2047]) (mds := [[],[],[],[],[],[],[],[],[],[],[],[]]) (hm := []) (by kernel_rfl) (by kernel_rfl) rfl rfl ?_|(first|refine S.loop ?_|refine S.back_n ?_|refine S.back_x ?_|refine S.back_r ?_|refine S.fin_r ?_|refine S.fin_n ?_|refine S.dk_n ?_|refine S.draw_nil ?_)<;>(conv=>lhs;whnf)|exact ret_c rfl|exact none_c|(refine S.draw_op ?_; conv => lhs; whnf; arg 1; whnf)|refine andK_br ?_|refine andK_req ?_|refine andK_b ?_|refine andK_none ?_
theorem en13 : EnvOK Tryz.prog (g13) := (envOK_nil _)
theorem snd13 (k : Nat) : Sound Tryz.prog 13 (sp13 k) := by
 refine ⟨⟨Tryz.f13,Tryz.func13,by kernel_rfl,rfl⟩,fun args objs K r h => ?_⟩
 unfold sp13 at h; dsimp only at h; split at h
 ·rename_i a0
  obtain ⟨x,hx,h⟩ := bindO_some h
  exact ⟨_,_,h,FnOK.args2 (relL_c rel_i relL_n) (fn_run tab_ok (en13) mixed Tryz.func13 (((lp8000 seals k).1 a0).trans (bindO_eq hx)))⟩
 ·cases h
theorem en38 : EnvOK Tryz.prog (g38) := (envOK_add snd37 (envOK_nil _))
theorem snd38 : Sound Tryz.prog 38 (sp38) := by
 refine ⟨⟨Tryz.f38,Tryz.func38,by kernel_rfl,rfl⟩,fun args objs K r h => ?_⟩
 unfold sp38 at h; dsimp only at h; split at h
 ·rename_i a0_0 v0 v1 v2 a0_4 a0_5 a0_6
  obtain ⟨a0_1,h9,ca0_1⟩ := listB_spec h; clear h
  have h := h9; clear h9
  obtain ⟨a0_2,h9,ca0_2⟩ := listB_spec h; clear h
  have h := h9; clear h9
  obtain ⟨a0_3,h9,ca0_3⟩ := listB_spec h; clear h
  have h := h9; clear h9
  obtain ⟨x,hx,h⟩ := bindO_some h
  exact ⟨_,_,h,FnOK.args2 (relL_c (rel_agg (relL_c rel_i (relL_c ca0_1 (relL_c ca0_2 (relL_c ca0_3 (relL_c rel_i (relL_c rel_i (relL_c rel_i relL_n)))))))) relL_n) (fn_run tab_ok (en38) mixed Tryz.func38 (((lp8000 seals 0).2.1 a0_0 a0_1 a0_2 a0_3 a0_4 a0_5 a0_6).trans (bindO_eq hx)))⟩
 ·cases h
theorem en17 : EnvOK Tryz.prog (g17) := (envOK_add snd38 (envOK_add snd37 (envOK_nil _)))
theorem snd17 (k : Nat) : Sound Tryz.prog 17 (sp17 k) := by
 refine ⟨⟨Tryz.f17,Tryz.func17,by kernel_rfl,rfl⟩,fun args objs K r h => ?_⟩
 unfold sp17 at h; dsimp only at h; split at h
 ·rename_i v0 a0_1 v1 v2
  obtain ⟨a0_0,h9,ca0_0⟩ := listB_spec h; clear h
  have h := h9; clear h9
  obtain ⟨a0_2,h9,ca0_2⟩ := listB_spec h; clear h
  have h := h9; clear h9
  obtain ⟨a0_3,h9,ca0_3⟩ := listB_spec h; clear h
  have h := h9; clear h9
  obtain ⟨x,hx,h⟩ := bindO_some h
  exact ⟨_,_,h,FnOK.args2 (relL_c (rel_agg (relL_c ca0_0 (relL_c rel_i (relL_c ca0_2 (relL_c ca0_3 relL_n))))) relL_n) (fn_run tab_ok (en17) mixed Tryz.func17 (((lp8000 seals k).2.2.1 a0_0 a0_1 a0_2 a0_3).trans (bindO_eq hx)))⟩
 ·cases h
theorem en43 (k : Nat) : EnvOK Tryz.prog (g43 k) := (envOK_add (snd42 k) (envOK_nil _))
theorem snd43 (k : Nat) : Sound Tryz.prog 43 (sp43 k) := by
 refine ⟨⟨Tryz.f43,Tryz.func43,by kernel_rfl,rfl⟩,fun args objs K r h => ?_⟩
 unfold sp43 at h; dsimp only at h; split at h
 ·rename_i a0_0 v0 v1 v2 a0_4 a0_5 a0_6 a1_0 v3 v4 v5 a1_4 a1_5 a1_6
  obtain ⟨a0_1,h9,ca0_1⟩ := listB_spec h; clear h
  have h := h9; clear h9
  obtain ⟨a0_2,h9,ca0_2⟩ := listB_spec h; clear h
  have h := h9; clear h9
  obtain ⟨a0_3,h9,ca0_3⟩ := listB_spec h; clear h
  have h := h9; clear h9
  obtain ⟨a1_1,h9,ca1_1⟩ := listB_spec h; clear h
  have h := h9; clear h9
  obtain ⟨a1_2,h9,ca1_2⟩ := listB_spec h; clear h
  have h := h9; clear h9
  obtain ⟨a1_3,h9,ca1_3⟩ := listB_spec h; clear h
  have h := h9; clear h9
  obtain ⟨x,hx,h⟩ := bindO_some h
  exact ⟨_,_,h,FnOK.args2 (relL_c (rel_agg (relL_c rel_i (relL_c ca0_1 (relL_c ca0_2 (relL_c ca0_3 (relL_c rel_i (relL_c rel_i (relL_c rel_i relL_n)))))))) (relL_c (rel_agg (relL_c rel_i (relL_c ca1_1 (relL_c ca1_2 (relL_c ca1_3 (relL_c rel_i (relL_c rel_i (relL_c rel_i relL_n)))))))) relL_n)) (fn_run tab_ok (en43 k) mixed Tryz.func43 (((lp8000 seals k).2.2.2.1 a0_0 a0_1 a0_2 a0_3 a0_4 a0_5 a0_6 a1_0 a1_1 a1_2 a1_3 a1_4 a1_5 a1_6).trans (bindO_eq hx)))⟩
 ·cases h
theorem en19 (k : Nat) : EnvOK Tryz.prog (g19 k) := (envOK_add (snd43 k) (envOK_add (snd42 k) (envOK_nil _)))
theorem snd19 (k : Nat) : Sound Tryz.prog 19 (sp19 k) := by
 refine ⟨⟨Tryz.f19,Tryz.func19,by kernel_rfl,rfl⟩,fun args objs K r h => ?_⟩
 unfold sp19 at h; dsimp only at h; split at h
 ·rename_i v0 a0_1 v1 v2 v3 a1_1 v4 v5
  obtain ⟨a0_0,h9,ca0_0⟩ := listB_spec h; clear h
  have h := h9; clear h9
  obtain ⟨a0_2,h9,ca0_2⟩ := listB_spec h; clear h
  have h := h9; clear h9
  obtain ⟨a0_3,h9,ca0_3⟩ := listB_spec h; clear h
  have h := h9; clear h9
  obtain ⟨a1_0,h9,ca1_0⟩ := listB_spec h; clear h
  have h := h9; clear h9
  obtain ⟨a1_2,h9,ca1_2⟩ := listB_spec h; clear h
  have h := h9; clear h9
  obtain ⟨a1_3,h9,ca1_3⟩ := listB_spec h; clear h
  have h := h9; clear h9
  obtain ⟨x,hx,h⟩ := bindO_some h
  exact ⟨_,_,h,FnOK.args2 (relL_c (rel_agg (relL_c ca0_0 (relL_c rel_i (relL_c ca0_2 (relL_c ca0_3 relL_n))))) (relL_c (rel_agg (relL_c ca1_0 (relL_c rel_i (relL_c ca1_2 (relL_c ca1_3 relL_n))))) relL_n)) (fn_run tab_ok (en19 k) mixed Tryz.func19 (((lp8000 seals k).2.2.2.2 a0_0 a0_1 a0_2 a0_3 a1_0 a1_1 a1_2 a1_3).trans (bindO_eq hx)))⟩
 ·cases h
def lv85 : Live := look ⟨[],[],[],[],[]⟩ [(2,⟨[1,8,9,10],[],[4],[],[]⟩)]
noncomputable def g85 (k : Nat) : FEnv := (addF 52 (sp52 k) (fun _=>none))
def sp85 (k : Nat) : FSpec := ⟨[.rd,.rd],fun args objs K => match args,objs with | [.s a0,.i .i32 a1],[] => bindO (ref9_Find.f k a0 a1) fun x : Int => K (.i .i64 x) [] | _,_ => none⟩
def lv84 : Live := look ⟨[],[],[],[],[]⟩ [(5,⟨[0,22,23,24],[],[4],[],[]⟩)]
noncomputable def g84 (k : Nat) : FEnv := (addF 85 (sp85 k) (addF 52 (sp52 k) (fun _=>none)))
def sp84 (k : Nat) : FSpec := ⟨[.rd,.rd],fun args objs K => match args,objs with | [.s a0,.i .i64 a1],[] => bindO (ref9_Right.f k a0 a1) fun x : Bool => K (.b x) [] | _,_ => none⟩
def lv56 : Live := look ⟨[],[],[],[],[]⟩ [(3,⟨[1,3,7,8],[1,3],[2],[],[]⟩)]
noncomputable def g56 (k : Nat) : FEnv := (addF 84 (sp84 k) (fun _=>none))
def sp56 (k : Nat) : FSpec := ⟨[.rd],fun args objs K => match args,objs with | [.agg [v0,.s a0_1,v1,v2]],[] => listB (.int .i64) true v0 fun a0_0 => listB (.pair (.int .i64) (.pair (.sl (.int .i64)) (.pair (.sl (.int .i64)) (.pair (.sl (.int .i64)) (.pair (.int .i64) (.pair (.int .i64) .str)))))) true v1 fun a0_2 => listB (.int .i64) true v2 fun a0_3 => bindO (ref10_mesh.f k a0_0 a0_1 a0_2 a0_3) fun x : Bool => K (.b x) [] | _,_ => none⟩
def lv57 : Live := look ⟨[],[],[],[],[]⟩ [(6,⟨[0,2,10,20,21,22],[2,10],[6,7,8],[(10,0,.own (.int .i64))],[]⟩),(15,⟨[0,2,10,13,20,21,22,36,37],[0,2,10,13,20,21,22],[6,7,8],[],[]⟩),(1000000,⟨[],[],[],[(6,0,.own (.int .i64))],[]⟩)]
noncomputable def g57 (k : Nat) : FEnv := (addF 85 (sp85 k) (addF 52 (sp52 k) (fun _=>none)))
def sp57 (k : Nat) : FSpec := ⟨[.rd,.rd,.rd],fun args objs K => match args,objs with | [.s a0,.s a1,.i .i64 a2],[] => bindO (ref9_Note.f k a0 a1 a2) fun x : Bool × Int × (List Int) => K (.tup [.own 0,.b x.1,.i .i64 x.2.1]) [.row (.int .i64) x.2.2 false] | _,_ => none⟩
theorem lp8001 (S : Seals) (k : Nat) : (∀ (a0 : ByteArray) (a1 : Int),runF tt (g85 k) lv85 Tryz.f85 k [.s a0,.i .i32 a1] [] = bindO (ref9_Find.f k a0 a1) (fun x : Int => some (.i .i64 x,[]))) ∧ (∀ (a0 : ByteArray) (a1 : Int),runF tt (g84 k) lv84 Tryz.f84 k [.s a0,.i .i64 a1] [] = bindO (ref9_Right.f k a0 a1) (fun x : Bool => some (.b x,[]))) ∧ (∀ (a0_0 : List Int) (a0_1 : ByteArray) (a0_2 : List (Int × (List Int) × (List Int) × (List Int) × Int × Int × ByteArray)) (a0_3 : List Int),runF tt (g56 k) lv56 Tryz.f56 k [.agg [.dat (.int .i64) a0_0 true,.s a0_1,.dat (.pair (.int .i64) (.pair (.sl (.int .i64)) (.pair (.sl (.int .i64)) (.pair (.sl (.int .i64)) (.pair (.int .i64) (.pair (.int .i64) .str)))))) a0_2 true,.dat (.int .i64) a0_3 true]] [] = bindO (ref10_mesh.f k a0_0 a0_1 a0_2 a0_3) (fun x : Bool => some (.b x,[]))) ∧ (∀ (a0 : ByteArray) (a1 : ByteArray) (a2 : Int),runF tt (g57 k) lv57 Tryz.f57 k [.s a0,.s a1,.i .i64 a2] [] = bindO (ref9_Note.f k a0 a1 a2) (fun x : Bool × Int × (List Int) => some (.tup [.own 0,.b x.1,.i .i64 x.2.1],[.row (.int .i64) x.2.2 false]))) := by
 refine cut_ (A := ∀ (n : Nat) {x1 : Int} {x9 : Int} {x10 : Int} {y0 : List Int} {K : CK},S.lp tt (g85 k) lv85 0 n (loopN Tryz.f85 0) ⟨[(1,.i .i32 x1),(8,.own 0),(9,.i .i64 x9),(10,.i .i64 x10)],[(0,.row (.int .i32) y0 false)],1,20⟩ K = bindO (ref9_Find.l0 n x1 x9 x10 y0) (Sum.elim (fun x : Unit => K (.exit 0) ⟨[],[],0,20⟩) (fun x : Int => K .ret ⟨[(4,.i .i64 x)],[],0,20⟩))) (ind_ (by intros; rw [S.lp_zero]; exact none_c) ?_) ?_
 intro n ih; intros; rw [ref9_Find.l0]; refine S.lp_succ ?_; conv => lhs; arg 5; whnf
 rotate_left
 intro w85_0
 refine cut_ (A := ∀ (n : Nat) {x0 : ByteArray} {x23 : Int} {x24 : Int} {y0 : List Int} {K : CK},S.lp tt (g84 k) lv84 0 n (loopN Tryz.f84 0) ⟨[(0,.s x0),(22,.own 0),(23,.i .i64 x23),(24,.i .i64 x24)],[(0,.row (.int .i32) y0 false)],1,59⟩ K = bindO (ref9_Right.l0 k n x0 x23 x24 y0) (Sum.elim (fun x : Unit => K (.exit 0) ⟨[],[],0,59⟩) (fun x : Bool => K .ret ⟨[(4,.b x)],[],0,59⟩))) (ind_ (by intros; rw [S.lp_zero]; exact none_c) ?_) ?_
 intro n ih; intros; rw [ref9_Right.l0]; refine S.lp_succ ?_; conv => lhs; arg 5; whnf
 rotate_left
 intro w84_0
 refine cut_ (A := ∀ (n : Nat) {x3 : Int} {x7 : Int} {x8 : Int} {y0_0 : List Int} {y0_1 : ByteArray} {y0_2 : List (Int × (List Int) × (List Int) × (List Int) × Int × Int × ByteArray)} {y0_3 : List Int} {K : CK},S.lp tt (g56 k) lv56 0 n (loopN Tryz.f56 0) ⟨[(1,.ptr 0 0),(3,.i .i64 x3),(7,.i .i64 x7),(8,.i .i64 x8)],[(0,.var [.dat (.int .i64) y0_0 true,.s y0_1,.dat (.pair (.int .i64) (.pair (.sl (.int .i64)) (.pair (.sl (.int .i64)) (.pair (.sl (.int .i64)) (.pair (.int .i64) (.pair (.int .i64) .str)))))) y0_2 true,.dat (.int .i64) y0_3 true])],1,47⟩ K = bindO (ref10_mesh.l0 n x3 x7 x8 y0_0 y0_1 y0_2 y0_3) (Sum.elim (fun x : Int => K (.exit 0) ⟨[(1,.ptr 0 0),(3,.i .i64 x)],[(0,.var [.dat (.int .i64) y0_0 true,.s y0_1,.dat (.pair (.int .i64) (.pair (.sl (.int .i64)) (.pair (.sl (.int .i64)) (.pair (.sl (.int .i64)) (.pair (.int .i64) (.pair (.int .i64) .str)))))) y0_2 true,.dat (.int .i64) y0_3 true])],1,47⟩) (fun x : Bool => K .ret ⟨[(2,.b x)],[],0,47⟩))) (ind_ (by intros; rw [S.lp_zero]; exact none_c) ?_) ?_
 intro n ih; intros; rw [ref10_mesh.l0]; refine S.lp_succ ?_; conv => lhs; arg 5; whnf
 rotate_left
 intro w56_0
 refine cut_ (A := ∀ (n : Nat) {x0 : ByteArray} {x2 : Int} {x13 : Int} {x21 : Int} {x22 : Int} {x36 : Int} {x37 : Int} {y0 : List Int} {y1 : List Int} {K : CK},S.lp tt (g57 k) lv57 0 n (loopN Tryz.f57 1) ⟨[(0,.s x0),(2,.i .i64 x2),(10,.own 0),(13,.i .i64 x13),(20,.own 1),(21,.i .i64 x21),(22,.i .i64 x22),(36,.i .i64 x36),(37,.i .i64 x37)],[(0,.row (.int .i64) y0 false),(1,.row (.int .i32) y1 false)],2,60⟩ K = bindO (ref9_Note.l1 n x0 x2 x13 x21 x22 x36 x37 y0 y1) (Sum.elim (fun x : Unit => K (.exit 2) ⟨[(0,.s x0),(2,.i .i64 x2),(10,.own 0),(13,.i .i64 x13),(20,.own 1),(21,.i .i64 x21),(22,.i .i64 x22)],[(0,.row (.int .i64) y0 false),(1,.row (.int .i32) y1 false)],2,60⟩) (fun x : Bool × Int => K .ret ⟨[(6,.nilsl),(7,.b x.1),(8,.i .i64 x.2)],[],0,60⟩))) (ind_ (by intros; rw [S.lp_zero]; exact none_c) ?_) ?_
 intro n ih; intros; rw [ref9_Note.l1]; refine S.lp_succ ?_; conv => lhs; arg 5; whnf
 rotate_left
 intro w57_1
 refine cut_ (A := ∀ (n : Nat) {x0 : ByteArray} {x2 : Int} {x21 : Int} {x22 : Int} {y0 : List Int} {y1 : List Int} {K : CK},S.lp tt (g57 k) lv57 0 n (loopN Tryz.f57 0) ⟨[(0,.s x0),(2,.i .i64 x2),(10,.own 0),(20,.own 1),(21,.i .i64 x21),(22,.i .i64 x22)],[(0,.row (.int .i64) y0 false),(1,.row (.int .i32) y1 false)],2,60⟩ K = bindO (ref9_Note.l0 k n x0 x2 x21 x22 y0 y1) (Sum.elim (fun x : (List Int) => K (.exit 0) ⟨[(2,.i .i64 x2),(10,.own 0)],[(0,.row (.int .i64) x false)],1,60⟩) (fun x : Bool × Int => K .ret ⟨[(6,.nilsl),(7,.b x.1),(8,.i .i64 x.2)],[],0,60⟩))) (ind_ (by intros; rw [S.lp_zero]; exact none_c) ?_) ?_
 intro n ih; intros; rw [ref9_Note.l0]; refine S.lp_succ ?_; conv => lhs; arg 5; whnf
 rotate_left
 intro w57_0
 refine ⟨?_,?_,?_,?_⟩
 intro a0 a1
 unfold ref9_Find.f; refine S.run_s rfl rfl ?_; conv => lhs; arg 5; whnf
 conv => lhs; arg 6; whnf
 rotate_left
 intro a0 a1
 unfold ref9_Right.f; refine S.run_s rfl rfl ?_; conv => lhs; arg 5; whnf
 conv => lhs; arg 6; whnf
 rotate_left
 intro a0_0 a0_1 a0_2 a0_3
 unfold ref10_mesh.f; refine S.run_s rfl rfl ?_; conv => lhs; arg 5; whnf
 conv => lhs; arg 6; whnf
 rotate_left
 intro a0 a1 a2
 unfold ref9_Note.f; refine S.run_s rfl rfl ?_; conv => lhs; arg 5; whnf
 conv => lhs; arg 6; whnf
 rotate_left
 all_goals repeat' first|(first|refine S.seq_op rfl ?_|refine S.op_n ?_|refine S.block_x ?_|refine br_lt ?_|refine br_lf ?_|refine br_t (by assumption) ?_|refine br_f (by assumption) ?_|refine req_i (by with_reducible assumption) ?_|refine br_nd (fun _=>?_) (fun _=>?_)|refine br_d (fun _=>?_) (fun _=>?_)|refine br_n (fun _=>?_) (fun _=>?_)|refine br_c (fun _=>?_) (fun _=>?_)|refine req_c fun _=>?_|refine req_i (by assumption) ?_|refine bnd_c fun _=>?_)<;>(conv=>lhs;whnf)|refine S.seq_nil ?_|refine S.reg_n ?_|refine S.region rfl ?_|refine S.two ?_|refine S.blok ?_|refine S.cond rfl ?_|refine S.after_n ?_|refine S.block_n ?_|refine S.block_r ?_|refine S.after_x ?_|refine S.after_r ?_|refine S.skip ?_|refine S.exit ?_|refine S.ret ?_|refine sum_c (fun _=>?_) (fun _=>?_)|exact ih|refine (w85_0 _).trans ?_|refine (w84_0 _).trans ?_|refine (w56_0 _).trans ?_|refine (w57_1 _).trans ?_|refine (w57_0 _).trans ?_|(first|refine S.loop ?_|refine S.back_n ?_|refine S.back_x ?_|refine S.back_r ?_|refine S.fin_r ?_|refine S.fin_n ?_|refine S.dk_n ?_|refine S.draw_nil ?_)<;>(conv=>lhs;whnf)|exact ret_c rfl|exact none_c|(refine S.draw_op ?_; conv => lhs; whnf; arg 1; whnf)|refine andK_br ?_|refine andK_req ?_|refine andK_b ?_|refine andK_none ?_
theorem en85 (k : Nat) : EnvOK Tryz.prog (g85 k) := (envOK_add (snd52 k) (envOK_nil _))
theorem snd85 (k : Nat) : Sound Tryz.prog 85 (sp85 k) := by
 refine ⟨⟨Tryz.f85,Tryz.func85,by kernel_rfl,rfl⟩,fun args objs K r h => ?_⟩
 unfold sp85 at h; dsimp only at h; split at h
 ·rename_i a0 a1
  obtain ⟨x,hx,h⟩ := bindO_some h
  exact ⟨_,_,h,FnOK.args2 (relL_c rel_i (relL_c rel_i relL_n)) (fn_run tab_ok (en85 k) mixed Tryz.func85 (((lp8001 seals k).1 a0 a1).trans (bindO_eq hx)))⟩
 ·cases h
theorem en84 (k : Nat) : EnvOK Tryz.prog (g84 k) := (envOK_add (snd85 k) (envOK_add (snd52 k) (envOK_nil _)))
theorem snd84 (k : Nat) : Sound Tryz.prog 84 (sp84 k) := by
 refine ⟨⟨Tryz.f84,Tryz.func84,by kernel_rfl,rfl⟩,fun args objs K r h => ?_⟩
 unfold sp84 at h; dsimp only at h; split at h
 ·rename_i a0 a1
  obtain ⟨x,hx,h⟩ := bindO_some h
  exact ⟨_,_,h,FnOK.args2 (relL_c rel_i (relL_c rel_i relL_n)) (fn_run tab_ok (en84 k) mixed Tryz.func84 (((lp8001 seals k).2.1 a0 a1).trans (bindO_eq hx)))⟩
 ·cases h
theorem en56 (k : Nat) : EnvOK Tryz.prog (g56 k) := (envOK_add (snd84 k) (envOK_nil _))
theorem snd56 (k : Nat) : Sound Tryz.prog 56 (sp56 k) := by
 refine ⟨⟨Tryz.f56,Tryz.func56,by kernel_rfl,rfl⟩,fun args objs K r h => ?_⟩
 unfold sp56 at h; dsimp only at h; split at h
 ·rename_i v0 a0_1 v1 v2
  obtain ⟨a0_0,h9,ca0_0⟩ := listB_spec h; clear h
  have h := h9; clear h9
  obtain ⟨a0_2,h9,ca0_2⟩ := listB_spec h; clear h
  have h := h9; clear h9
  obtain ⟨a0_3,h9,ca0_3⟩ := listB_spec h; clear h
  have h := h9; clear h9
  obtain ⟨x,hx,h⟩ := bindO_some h
  exact ⟨_,_,h,FnOK.args2 (relL_c (rel_agg (relL_c ca0_0 (relL_c rel_i (relL_c ca0_2 (relL_c ca0_3 relL_n))))) relL_n) (fn_run tab_ok (en56 k) mixed Tryz.func56 (((lp8001 seals k).2.2.1 a0_0 a0_1 a0_2 a0_3).trans (bindO_eq hx)))⟩
 ·cases h
theorem en57 (k : Nat) : EnvOK Tryz.prog (g57 k) := (envOK_add (snd85 k) (envOK_add (snd52 k) (envOK_nil _)))
theorem snd57 (k : Nat) : Sound Tryz.prog 57 (sp57 k) := by
 refine ⟨⟨Tryz.f57,Tryz.func57,by kernel_rfl,rfl⟩,fun args objs K r h => ?_⟩
 unfold sp57 at h; dsimp only at h; split at h
 ·rename_i a0 a1 a2
  obtain ⟨x,hx,h⟩ := bindO_some h
  exact ⟨_,_,h,FnOK.args2 (relL_c rel_i (relL_c rel_i (relL_c rel_i relL_n))) (fn_run tab_ok (en57 k) mixed Tryz.func57 (((lp8001 seals k).2.2.2 a0 a1 a2).trans (bindO_eq hx)))⟩
 ·cases h
def lv33 : Live := look ⟨[],[],[],[],[]⟩ [(7,⟨[1,4,31,32,33],[1,4],[2,3],[(4,0,.own (.sl (.int .i64)))],[]⟩),(11,⟨[1,4,5,6,7,31,32,33,39,40,41],[1,4,6,7,31,32,33],[2,3],[(7,0,.own (.sl (.int .i64)))],[]⟩),(26,⟨[1,4,89,90,91],[4],[2,3],[],[]⟩),(1000000,⟨[],[],[],[(2,0,.own (.sl (.int .i64)))],[]⟩)]
noncomputable def g33 (k : Nat) : FEnv := (addF 57 (sp57 k) (addF 22 (sp22 k) (addF 56 (sp56 k) (fun _=>none))))
def sp33 (k : Nat) : FSpec := ⟨[.rd],fun args objs K => match args,objs with | [.agg [v0,.s a0_1,v1,v2]],[] => listB (.int .i64) true v0 fun a0_0 => listB (.pair (.int .i64) (.pair (.sl (.int .i64)) (.pair (.sl (.int .i64)) (.pair (.sl (.int .i64)) (.pair (.int .i64) (.pair (.int .i64) .str)))))) true v1 fun a0_2 => listB (.int .i64) true v2 fun a0_3 => bindO (ref10_Shapes.f k a0_0 a0_1 a0_2 a0_3) fun x : Int × (List (List Int)) => K (.tup [.own 0,.i .i64 x.1]) [.row (.sl (.int .i64)) x.2 false] | _,_ => none⟩
def lv34 : Live := look ⟨[],[],[],[],[]⟩ [(3,⟨[3,7,8,9],[3],[2],[(3,0,.own (.int .i64))],[]⟩)]
noncomputable def g34 : FEnv := (fun _=>none)
def sp34 (k : Nat) : FSpec := ⟨[.rd],fun args objs K => match args,objs with | [.agg [v0,.s a0_1,v1,v2]],[] => listB (.int .i64) true v0 fun a0_0 => listB (.pair (.int .i64) (.pair (.sl (.int .i64)) (.pair (.sl (.int .i64)) (.pair (.sl (.int .i64)) (.pair (.int .i64) (.pair (.int .i64) .str)))))) true v1 fun a0_2 => listB (.int .i64) true v2 fun a0_3 => bindO (ref10_Params.f k a0_0 a0_1 a0_2 a0_3) fun x : (List Int) => K (.own 0) [.row (.int .i64) x false] | _,_ => none⟩
theorem lp8002 (S : Seals) (k : Nat) : (∀ (a0_0 : List Int) (a0_1 : ByteArray) (a0_2 : List (Int × (List Int) × (List Int) × (List Int) × Int × Int × ByteArray)) (a0_3 : List Int),runF tt (g33 k) lv33 Tryz.f33 k [.agg [.dat (.int .i64) a0_0 true,.s a0_1,.dat (.pair (.int .i64) (.pair (.sl (.int .i64)) (.pair (.sl (.int .i64)) (.pair (.sl (.int .i64)) (.pair (.int .i64) (.pair (.int .i64) .str)))))) a0_2 true,.dat (.int .i64) a0_3 true]] [] = bindO (ref10_Shapes.f k a0_0 a0_1 a0_2 a0_3) (fun x : Int × (List (List Int)) => some (.tup [.own 0,.i .i64 x.1],[.row (.sl (.int .i64)) x.2 false]))) ∧ (∀ (a0_0 : List Int) (a0_1 : ByteArray) (a0_2 : List (Int × (List Int) × (List Int) × (List Int) × Int × Int × ByteArray)) (a0_3 : List Int),runF tt (g34) lv34 Tryz.f34 k [.agg [.dat (.int .i64) a0_0 true,.s a0_1,.dat (.pair (.int .i64) (.pair (.sl (.int .i64)) (.pair (.sl (.int .i64)) (.pair (.sl (.int .i64)) (.pair (.int .i64) (.pair (.int .i64) .str)))))) a0_2 true,.dat (.int .i64) a0_3 true]] [] = bindO (ref10_Params.f k a0_0 a0_1 a0_2 a0_3) (fun x : (List Int) => some (.own 0,[.row (.int .i64) x false]))) := by
 refine cut_ (A := ∀ (n : Nat) {x5 : Int} {x31 : List (Int × (List Int) × (List Int) × (List Int) × Int × Int × ByteArray)} {x32 : Int} {x33 : Int} {x39 : List Int} {x40 : Int} {x41 : Int} {y0_0 : List Int} {y0_1 : ByteArray} {y0_2 : List (Int × (List Int) × (List Int) × (List Int) × Int × Int × ByteArray)} {y0_3 : List Int} {y1 : List (List Int)} {y2_0 : Int} {y2_1 : List Int} {y2_2 : List Int} {y2_3 : List Int} {y2_4 : Int} {y2_5 : Int} {y2_6 : ByteArray} {y3 : List (List Int)} {K : CK},S.lp tt (g33 k) lv33 0 n (loopN Tryz.f33 1) ⟨[(1,.ptr 0 0),(4,.own 1),(5,.i .i64 x5),(6,.ptr 2 0),(7,.own 3),(31,.dat (.pair (.int .i64) (.pair (.sl (.int .i64)) (.pair (.sl (.int .i64)) (.pair (.sl (.int .i64)) (.pair (.int .i64) (.pair (.int .i64) .str)))))) x31 true),(32,.i .i64 x32),(33,.i .i64 x33),(39,.dat (.int .i64) x39 false),(40,.i .i64 x40),(41,.i .i64 x41)],[(0,.var [.dat (.int .i64) y0_0 true,.s y0_1,.dat (.pair (.int .i64) (.pair (.sl (.int .i64)) (.pair (.sl (.int .i64)) (.pair (.sl (.int .i64)) (.pair (.int .i64) (.pair (.int .i64) .str)))))) y0_2 true,.dat (.int .i64) y0_3 true]),(1,.row (.sl (.int .i64)) y1 false),(2,.var [.i .i64 y2_0,.dat (.int .i64) y2_1 false,.dat (.int .i64) y2_2 false,.dat (.int .i64) y2_3 false,.i .i64 y2_4,.i .i64 y2_5,.s y2_6]),(3,.row (.sl (.int .i64)) y3 false)],4,106⟩ K = bindO (ref10_Shapes.l1 n x5 x31 x32 x33 x39 x40 x41 y0_0 y0_1 y0_2 y0_3 y1 y2_0 y2_1 y2_2 y2_3 y2_4 y2_5 y2_6 y3) (Sum.elim (fun x : (List (List Int)) => K (.exit 2) ⟨[(1,.ptr 0 0),(4,.own 1),(6,.ptr 2 0),(7,.own 3),(31,.dat (.pair (.int .i64) (.pair (.sl (.int .i64)) (.pair (.sl (.int .i64)) (.pair (.sl (.int .i64)) (.pair (.int .i64) (.pair (.int .i64) .str)))))) x31 true),(32,.i .i64 x32),(33,.i .i64 x33)],[(0,.var [.dat (.int .i64) y0_0 true,.s y0_1,.dat (.pair (.int .i64) (.pair (.sl (.int .i64)) (.pair (.sl (.int .i64)) (.pair (.sl (.int .i64)) (.pair (.int .i64) (.pair (.int .i64) .str)))))) y0_2 true,.dat (.int .i64) y0_3 true]),(1,.row (.sl (.int .i64)) y1 false),(2,.var [.i .i64 y2_0,.dat (.int .i64) y2_1 false,.dat (.int .i64) y2_2 false,.dat (.int .i64) y2_3 false,.i .i64 y2_4,.i .i64 y2_5,.s y2_6]),(3,.row (.sl (.int .i64)) x false)],4,106⟩) (fun x : Int => K .ret ⟨[(2,.nilsl),(3,.i .i64 x)],[],0,106⟩))) (ind_ (by intros; rw [S.lp_zero]; exact none_c) ?_) ?_
 intro n ih; intros; rw [ref10_Shapes.l1]; refine S.lp_succ ?_; conv => lhs; arg 5; whnf
 rotate_left
 intro w33_1
 refine cut_ (A := ∀ (n : Nat) {x31 : List (Int × (List Int) × (List Int) × (List Int) × Int × Int × ByteArray)} {x32 : Int} {x33 : Int} {y0_0 : List Int} {y0_1 : ByteArray} {y0_2 : List (Int × (List Int) × (List Int) × (List Int) × Int × Int × ByteArray)} {y0_3 : List Int} {y1 : List (List Int)} {K : CK},S.lp tt (g33 k) lv33 0 n (loopN Tryz.f33 0) ⟨[(1,.ptr 0 0),(4,.own 1),(31,.dat (.pair (.int .i64) (.pair (.sl (.int .i64)) (.pair (.sl (.int .i64)) (.pair (.sl (.int .i64)) (.pair (.int .i64) (.pair (.int .i64) .str)))))) x31 true),(32,.i .i64 x32),(33,.i .i64 x33)],[(0,.var [.dat (.int .i64) y0_0 true,.s y0_1,.dat (.pair (.int .i64) (.pair (.sl (.int .i64)) (.pair (.sl (.int .i64)) (.pair (.sl (.int .i64)) (.pair (.int .i64) (.pair (.int .i64) .str)))))) y0_2 true,.dat (.int .i64) y0_3 true]),(1,.row (.sl (.int .i64)) y1 false)],2,106⟩ K = bindO (ref10_Shapes.l0 k n x31 x32 x33 y0_0 y0_1 y0_2 y0_3 y1) (Sum.elim (fun x : (List (List Int)) => K (.exit 0) ⟨[(1,.ptr 0 0),(4,.own 1)],[(0,.var [.dat (.int .i64) y0_0 true,.s y0_1,.dat (.pair (.int .i64) (.pair (.sl (.int .i64)) (.pair (.sl (.int .i64)) (.pair (.sl (.int .i64)) (.pair (.int .i64) (.pair (.int .i64) .str)))))) y0_2 true,.dat (.int .i64) y0_3 true]),(1,.row (.sl (.int .i64)) x false)],2,106⟩) (fun x : Int => K .ret ⟨[(2,.nilsl),(3,.i .i64 x)],[],0,106⟩))) (ind_ (by intros; rw [S.lp_zero]; exact none_c) ?_) ?_
 intro n ih; intros; rw [ref10_Shapes.l0]; refine S.lp_succ ?_; conv => lhs; arg 5; whnf
 rotate_left
 intro w33_0
 refine cut_ (A := ∀ (n : Nat) {x89 : List Int} {x90 : Int} {x91 : Int} {y0_0 : List Int} {y0_1 : ByteArray} {y0_2 : List (Int × (List Int) × (List Int) × (List Int) × Int × Int × ByteArray)} {y0_3 : List Int} {y1 : List (List Int)} {K : CK},S.lp tt (g33 k) lv33 0 n (loopN Tryz.f33 2) ⟨[(1,.ptr 0 0),(4,.own 1),(89,.dat (.int .i64) x89 true),(90,.i .i64 x90),(91,.i .i64 x91)],[(0,.var [.dat (.int .i64) y0_0 true,.s y0_1,.dat (.pair (.int .i64) (.pair (.sl (.int .i64)) (.pair (.sl (.int .i64)) (.pair (.sl (.int .i64)) (.pair (.int .i64) (.pair (.int .i64) .str)))))) y0_2 true,.dat (.int .i64) y0_3 true]),(1,.row (.sl (.int .i64)) y1 false)],2,106⟩ K = bindO (ref10_Shapes.l2 n x89 x90 x91 y0_0 y0_1 y0_2 y0_3 y1) (Sum.elim (fun x : Unit => K (.exit 4) ⟨[(4,.own 0)],[(0,.row (.sl (.int .i64)) y1 false)],1,106⟩) (fun x : Int => K .ret ⟨[(2,.nilsl),(3,.i .i64 x)],[],0,106⟩))) (ind_ (by intros; rw [S.lp_zero]; exact none_c) ?_) ?_
 intro n ih; intros; rw [ref10_Shapes.l2]; refine S.lp_succ ?_; conv => lhs; arg 5; whnf
 rotate_left
 intro w33_2
 refine cut_ (A := ∀ (n : Nat) {x7 : List (Int × (List Int) × (List Int) × (List Int) × Int × Int × ByteArray)} {x8 : Int} {x9 : Int} {y0 : List Int} {K : CK},S.lp tt (g34) lv34 0 n (loopN Tryz.f34 0) ⟨[(3,.own 0),(7,.dat (.pair (.int .i64) (.pair (.sl (.int .i64)) (.pair (.sl (.int .i64)) (.pair (.sl (.int .i64)) (.pair (.int .i64) (.pair (.int .i64) .str)))))) x7 true),(8,.i .i64 x8),(9,.i .i64 x9)],[(0,.row (.int .i64) y0 false)],1,23⟩ K = bindO (ref10_Params.l0 n x7 x8 x9 y0) (fun x : (List Int) => K (.exit 0) ⟨[(3,.own 0)],[(0,.row (.int .i64) x false)],1,23⟩)) (ind_ (by intros; rw [S.lp_zero]; exact none_c) ?_) ?_
 intro n ih; intros; rw [ref10_Params.l0]; refine S.lp_succ ?_; conv => lhs; arg 5; whnf
 rotate_left
 intro w34_0
 refine ⟨?_,?_⟩
 intro a0_0 a0_1 a0_2 a0_3
 unfold ref10_Shapes.f; refine S.run_s rfl rfl ?_; conv => lhs; arg 5; whnf
 conv => lhs; arg 6; whnf
 rotate_left
 intro a0_0 a0_1 a0_2 a0_3
 unfold ref10_Params.f; refine S.run_s rfl rfl ?_; conv => lhs; arg 5; whnf
 conv => lhs; arg 6; whnf
 rotate_left
 all_goals repeat' first|(first|refine S.seq_op rfl ?_|refine S.op_n ?_|refine S.block_x ?_|refine br_lt ?_|refine br_lf ?_|refine br_t (by assumption) ?_|refine br_f (by assumption) ?_|refine req_i (by with_reducible assumption) ?_|refine br_nd (fun _=>?_) (fun _=>?_)|refine br_d (fun _=>?_) (fun _=>?_)|refine br_n (fun _=>?_) (fun _=>?_)|refine br_c (fun _=>?_) (fun _=>?_)|refine req_c fun _=>?_|refine req_i (by assumption) ?_|refine bnd_c fun _=>?_)<;>(conv=>lhs;whnf)|refine S.seq_nil ?_|refine S.reg_n ?_|refine S.region rfl ?_|refine S.two ?_|refine S.blok ?_|refine S.cond rfl ?_|refine S.after_n ?_|refine S.block_n ?_|refine S.block_r ?_|refine S.after_x ?_|refine S.after_r ?_|refine S.skip ?_|refine S.exit ?_|refine S.ret ?_|refine sum_c (fun _=>?_) (fun _=>?_)|exact ih|refine (w33_1 _).trans ?_|refine (w33_0 _).trans ?_|refine (w33_2 _).trans ?_|refine (w34_0 _).trans ?_|(first|refine S.loop ?_|refine S.back_n ?_|refine S.back_x ?_|refine S.back_r ?_|refine S.fin_r ?_|refine S.fin_n ?_|refine S.dk_n ?_|refine S.draw_nil ?_)<;>(conv=>lhs;whnf)|exact ret_c rfl|exact none_c|(refine S.draw_op ?_; conv => lhs; whnf; arg 1; whnf)|refine andK_br ?_|refine andK_req ?_|refine andK_b ?_|refine andK_none ?_
theorem en33 (k : Nat) : EnvOK Tryz.prog (g33 k) := (envOK_add (snd57 k) (envOK_add (snd22 k) (envOK_add (snd56 k) (envOK_nil _))))
theorem snd33 (k : Nat) : Sound Tryz.prog 33 (sp33 k) := by
 refine ⟨⟨Tryz.f33,Tryz.func33,by kernel_rfl,rfl⟩,fun args objs K r h => ?_⟩
 unfold sp33 at h; dsimp only at h; split at h
 ·rename_i v0 a0_1 v1 v2
  obtain ⟨a0_0,h9,ca0_0⟩ := listB_spec h; clear h
  have h := h9; clear h9
  obtain ⟨a0_2,h9,ca0_2⟩ := listB_spec h; clear h
  have h := h9; clear h9
  obtain ⟨a0_3,h9,ca0_3⟩ := listB_spec h; clear h
  have h := h9; clear h9
  obtain ⟨x,hx,h⟩ := bindO_some h
  exact ⟨_,_,h,FnOK.args2 (relL_c (rel_agg (relL_c ca0_0 (relL_c rel_i (relL_c ca0_2 (relL_c ca0_3 relL_n))))) relL_n) (fn_run tab_ok (en33 k) mixed Tryz.func33 (((lp8002 seals k).1 a0_0 a0_1 a0_2 a0_3).trans (bindO_eq hx)))⟩
 ·cases h
theorem en34 : EnvOK Tryz.prog (g34) := (envOK_nil _)
theorem snd34 (k : Nat) : Sound Tryz.prog 34 (sp34 k) := by
 refine ⟨⟨Tryz.f34,Tryz.func34,by kernel_rfl,rfl⟩,fun args objs K r h => ?_⟩
 unfold sp34 at h; dsimp only at h; split at h
 ·rename_i v0 a0_1 v1 v2
  obtain ⟨a0_0,h9,ca0_0⟩ := listB_spec h; clear h
  have h := h9; clear h9
  obtain ⟨a0_2,h9,ca0_2⟩ := listB_spec h; clear h
  have h := h9; clear h9
  obtain ⟨a0_3,h9,ca0_3⟩ := listB_spec h; clear h
  have h := h9; clear h9
  obtain ⟨x,hx,h⟩ := bindO_some h
  exact ⟨_,_,h,FnOK.args2 (relL_c (rel_agg (relL_c ca0_0 (relL_c rel_i (relL_c ca0_2 (relL_c ca0_3 relL_n))))) relL_n) (fn_run tab_ok (en34) mixed Tryz.func34 (((lp8002 seals k).2 a0_0 a0_1 a0_2 a0_3).trans (bindO_eq hx)))⟩
 ·cases h
def lv14 : Live := look ⟨[],[],[],[],[]⟩ []
noncomputable def g14 (k : Nat) : FEnv := (addF 18 (sp18 k) (addF 19 (sp19 k) (addF 17 (sp17 k) (addF 30 (sp30 k) (addF 34 (sp34 k) (addF 31 (sp31 k) (addF 10 (sp10 k) (addF 9 (sp9 k) (addF 33 (sp33 k) (addF 8 (sp8 k) (fun _=>none)))))))))))
def sp14 (k : Nat) : FSpec := ⟨[.rd],fun args objs K => match args,objs with | [.agg [v0,.s a0_1,v1,v2]],[] => listB (.int .i64) true v0 fun a0_0 => listB (.pair (.int .i64) (.pair (.sl (.int .i64)) (.pair (.sl (.int .i64)) (.pair (.sl (.int .i64)) (.pair (.int .i64) (.pair (.int .i64) .str)))))) true v1 fun a0_2 => listB (.int .i64) true v2 fun a0_3 => bindO (law10_same.f k a0_0 a0_1 a0_2 a0_3) fun x : Bool => K (.b x) [] | _,_ => none⟩
def lv58 : Live := look ⟨[],[],[],[],[]⟩ []
noncomputable def g58 : FEnv := (addF 32 sp32 (fun _=>none))
def sp58 : FSpec := ⟨[.rd,.rd],fun args objs K => match args,objs with | [.i .i64 a0,.i .i64 a1],[] => bindO (keep_at.f a0 a1) fun x : Int => K (.i .i64 x) [] | _,_ => none⟩
def lv59 : Live := look ⟨[],[],[],[],[]⟩ []
noncomputable def g59 : FEnv := (addF 58 sp58 (fun _=>none))
def sp59 : FSpec := ⟨[.st,.st],fun args objs K => match args,objs with | [v0,.agg [.i .i64 a1_0,.i .i64 a1_1,.i .i64 a1_2,.i .i64 a1_3,.s a1_4]],[] => listB (.int .i64) false v0 fun a0 => bindO (keep_turned.f a0 a1_0 a1_1 a1_2 a1_3 a1_4) fun x : (List Int) => K (.own 0) [.row (.int .i64) x false] | _,_ => none⟩
theorem lp8003 (S : Seals) (k : Nat) : (∀ (a0_0 : List Int) (a0_1 : ByteArray) (a0_2 : List (Int × (List Int) × (List Int) × (List Int) × Int × Int × ByteArray)) (a0_3 : List Int),runF tt (g14 k) lv14 Tryz.f14 k [.agg [.dat (.int .i64) a0_0 true,.s a0_1,.dat (.pair (.int .i64) (.pair (.sl (.int .i64)) (.pair (.sl (.int .i64)) (.pair (.sl (.int .i64)) (.pair (.int .i64) (.pair (.int .i64) .str)))))) a0_2 true,.dat (.int .i64) a0_3 true]] [] = bindO (law10_same.f k a0_0 a0_1 a0_2 a0_3) (fun x : Bool => some (.b x,[]))) ∧ (∀ (a0 : Int) (a1 : Int),runF tt (g58) lv58 Tryz.f58 k [.i .i64 a0,.i .i64 a1] [] = bindO (keep_at.f a0 a1) (fun x : Int => some (.i .i64 x,[]))) ∧ (∀ (a0 : List Int) (a1_0 : Int) (a1_1 : Int) (a1_2 : Int) (a1_3 : Int) (a1_4 : ByteArray),runF tt (g59) lv59 Tryz.f59 k [.dat (.int .i64) a0 false,.agg [.i .i64 a1_0,.i .i64 a1_1,.i .i64 a1_2,.i .i64 a1_3,.s a1_4]] [] = bindO (keep_turned.f a0 a1_0 a1_1 a1_2 a1_3 a1_4) (fun x : (List Int) => some (.own 0,[.row (.int .i64) x false]))) := by
 refine ⟨?_,?_,?_⟩
 intro a0_0 a0_1 a0_2 a0_3
 unfold law10_same.f; refine S.run_s rfl rfl ?_; conv => lhs; arg 5; whnf
 conv => lhs; arg 6; whnf
 rotate_left
 intro a0 a1
 unfold keep_at.f; refine S.run_s rfl rfl ?_; conv => lhs; arg 5; whnf
 conv => lhs; arg 6; whnf
 rotate_left
 intro a0 a1_0 a1_1 a1_2 a1_3 a1_4
 unfold keep_turned.f; refine S.run_s rfl rfl ?_; conv => lhs; arg 5; whnf
 conv => lhs; arg 6; whnf
 rotate_left
 all_goals repeat' first|(first|refine S.seq_op rfl ?_|refine S.op_n ?_|refine S.block_x ?_|refine br_lt ?_|refine br_lf ?_|refine br_t (by assumption) ?_|refine br_f (by assumption) ?_|refine req_i (by with_reducible assumption) ?_|refine br_nd (fun _=>?_) (fun _=>?_)|refine br_d (fun _=>?_) (fun _=>?_)|refine br_n (fun _=>?_) (fun _=>?_)|refine br_c (fun _=>?_) (fun _=>?_)|refine req_c fun _=>?_|refine req_i (by assumption) ?_|refine bnd_c fun _=>?_)<;>(conv=>lhs;whnf)|refine S.seq_nil ?_|refine S.reg_n ?_|refine S.region rfl ?_|refine S.two ?_|refine S.blok ?_|refine S.cond rfl ?_|refine S.after_n ?_|refine S.block_n ?_|refine S.block_r ?_|refine S.after_x ?_|refine S.after_r ?_|refine S.skip ?_|refine S.exit ?_|refine S.ret ?_|refine sum_c (fun _=>?_) (fun _=>?_)|refine S.region_d (id := 3) (ds := [0,0,3,7,15,15,63,127,255,511,1023,511,4095,8191,16383,32767,65535,32767,262143,524287,1048575,2097151,4194303,8388607,4194303,33554431,67108863,134217727,268435455,268435455,1073741823,2147483647,4294967295]) (mds := [[],[],[],[],[],[],[1,2,1,2],[],[],[],[],[],[],[],[],[],[],[],[],[],[],[],[],[],[],[],[],[],[],[],[],[],[]]) (hm := [(6,[1,2,1,2])]) (by kernel_rfl) (by kernel_rfl) rfl rfl ?_|refine S.region_d (id := 4) (ds := [0,0,2,0,8,30,0,64,255,511]) (mds := [[],[],[],[],[],[],[],[],[],[2]]) (hm := [(9,[2])]) (by kernel_rfl) (by kernel_rfl) rfl rfl ?_|(first|refine S.loop ?_|refine S.back_n ?_|refine S.back_x ?_|refine S.back_r ?_|refine S.fin_r ?_|refine S.fin_n ?_|refine S.dk_n ?_|refine S.draw_nil ?_)<;>(conv=>lhs;whnf)|exact ret_c rfl|exact none_c|(refine S.draw_op ?_; conv => lhs; whnf; arg 1; whnf)|refine andK_br ?_|refine andK_req ?_|refine andK_b ?_|refine andK_none ?_
theorem en14 (k : Nat) : EnvOK Tryz.prog (g14 k) := (envOK_add (snd18 k) (envOK_add (snd19 k) (envOK_add (snd17 k) (envOK_add (snd30 k) (envOK_add (snd34 k) (envOK_add (snd31 k) (envOK_add (snd10 k) (envOK_add (snd9 k) (envOK_add (snd33 k) (envOK_add (snd8 k) (envOK_nil _)))))))))))
theorem snd14 (k : Nat) : Sound Tryz.prog 14 (sp14 k) := by
 refine ⟨⟨Tryz.f14,Tryz.func14,by kernel_rfl,rfl⟩,fun args objs K r h => ?_⟩
 unfold sp14 at h; dsimp only at h; split at h
 ·rename_i v0 a0_1 v1 v2
  obtain ⟨a0_0,h9,ca0_0⟩ := listB_spec h; clear h
  have h := h9; clear h9
  obtain ⟨a0_2,h9,ca0_2⟩ := listB_spec h; clear h
  have h := h9; clear h9
  obtain ⟨a0_3,h9,ca0_3⟩ := listB_spec h; clear h
  have h := h9; clear h9
  obtain ⟨x,hx,h⟩ := bindO_some h
  exact ⟨_,_,h,FnOK.args2 (relL_c (rel_agg (relL_c ca0_0 (relL_c rel_i (relL_c ca0_2 (relL_c ca0_3 relL_n))))) relL_n) (fn_run tab_ok (en14 k) mixed Tryz.func14 (((lp8003 seals k).1 a0_0 a0_1 a0_2 a0_3).trans (bindO_eq hx)))⟩
 ·cases h
theorem en58 : EnvOK Tryz.prog (g58) := (envOK_add snd32 (envOK_nil _))
theorem snd58 : Sound Tryz.prog 58 (sp58) := by
 refine ⟨⟨Tryz.f58,Tryz.func58,by kernel_rfl,rfl⟩,fun args objs K r h => ?_⟩
 unfold sp58 at h; dsimp only at h; split at h
 ·rename_i a0 a1
  obtain ⟨x,hx,h⟩ := bindO_some h
  exact ⟨_,_,h,FnOK.args2 (relL_c rel_i (relL_c rel_i relL_n)) (fn_run tab_ok (en58) mixed Tryz.func58 (((lp8003 seals 0).2.1 a0 a1).trans (bindO_eq hx)))⟩
 ·cases h
theorem en59 : EnvOK Tryz.prog (g59) := (envOK_add snd58 (envOK_nil _))
theorem snd59 : Sound Tryz.prog 59 (sp59) := by
 refine ⟨⟨Tryz.f59,Tryz.func59,by kernel_rfl,rfl⟩,fun args objs K r h => ?_⟩
 unfold sp59 at h; dsimp only at h; split at h
 ·rename_i v0 a1_0 a1_1 a1_2 a1_3 a1_4
  obtain ⟨a0,h9,ca0⟩ := listB_spec h; clear h
  have h := h9; clear h9
  obtain ⟨x,hx,h⟩ := bindO_some h
  exact ⟨_,_,h,FnOK.args2 (relL_c ca0 (relL_c (rel_agg (relL_c rel_i (relL_c rel_i (relL_c rel_i (relL_c rel_i (relL_c rel_i relL_n)))))) relL_n)) (fn_run tab_ok (en59) mixed Tryz.func59 (((lp8003 seals 0).2.2 a0 a1_0 a1_1 a1_2 a1_3 a1_4).trans (bindO_eq hx)))⟩
 ·cases h
end Go.Vm
