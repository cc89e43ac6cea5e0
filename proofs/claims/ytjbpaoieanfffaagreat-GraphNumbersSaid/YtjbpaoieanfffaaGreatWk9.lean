/- Own texts put together: the walks -/
import Derived.Test.YtjbpaoieanfffaaGreatWk0
import Derived.Test.YtjbpaoieanfffaaGreatWk8
import Derived.Test.YtjbpaoieanfffaaGreatWk7
import Derived.Test.YtjbpaoieanfffaaGreatWk2
set_option linter.unusedVariables false
set_option maxRecDepth 60000
set_option maxHeartbeats 40000000
namespace Go.Vm
open Go Go.Proofs Go.Pf

def lv35 : Live := look ⟨[],[],[],[],[]⟩ [(1000000,⟨[],[],[],[(4,0,.fz (.int .i64)),(4,3,.fz (.int .i64))],[]⟩)]
noncomputable def g35 : FEnv := (addF 59 sp59 (addF 58 sp58 (fun _=>none)))
def sp35 : FSpec := ⟨[.st,.st],fun args objs K => match args,objs with | [.agg [v0,.s a0_1,v1,v2],.agg [.i .i64 a1_0,.i .i64 a1_1,.i .i64 a1_2,.i .i64 a1_3,.s a1_4]],[] => listB (.int .i64) false v0 fun a0_0 => listB (.pair (.int .i64) (.pair (.sl (.int .i64)) (.pair (.sl (.int .i64)) (.pair (.sl (.int .i64)) (.pair (.int .i64) (.pair (.int .i64) .str)))))) false v1 fun a0_2 => listB (.int .i64) false v2 fun a0_3 => bindO (keep_odd.f a0_0 a0_1 a0_2 a0_3 a1_0 a1_1 a1_2 a1_3 a1_4) fun x : (List Int) × ByteArray × (List Int) × (List (Int × (List Int) × (List Int) × (List Int) × Int × Int × ByteArray)) => K (.agg [.dat (.int .i64) x.1 false,.s x.2.1,.own 0,.dat (.int .i64) x.2.2.1 false]) [.row (.pair (.int .i64) (.pair (.sl (.int .i64)) (.pair (.sl (.int .i64)) (.pair (.sl (.int .i64)) (.pair (.int .i64) (.pair (.int .i64) .str)))))) x.2.2.2 false] | _,_ => none⟩
theorem lp9000 (S : Seals) (k : Nat) : (∀ (a0_0 : List Int) (a0_1 : ByteArray) (a0_2 : List (Int × (List Int) × (List Int) × (List Int) × Int × Int × ByteArray)) (a0_3 : List Int) (a1_0 : Int) (a1_1 : Int) (a1_2 : Int) (a1_3 : Int) (a1_4 : ByteArray),runF tt (g35) lv35 Tryz.f35 k [.agg [.dat (.int .i64) a0_0 false,.s a0_1,.dat (.pair (.int .i64) (.pair (.sl (.int .i64)) (.pair (.sl (.int .i64)) (.pair (.sl (.int .i64)) (.pair (.int .i64) (.pair (.int .i64) .str)))))) a0_2 false,.dat (.int .i64) a0_3 false],.agg [.i .i64 a1_0,.i .i64 a1_1,.i .i64 a1_2,.i .i64 a1_3,.s a1_4]] [] = bindO (keep_odd.f a0_0 a0_1 a0_2 a0_3 a1_0 a1_1 a1_2 a1_3 a1_4) (fun x : (List Int) × ByteArray × (List Int) × (List (Int × (List Int) × (List Int) × (List Int) × Int × Int × ByteArray)) => some (.agg [.dat (.int .i64) x.1 false,.s x.2.1,.own 0,.dat (.int .i64) x.2.2.1 false],[.row (.pair (.int .i64) (.pair (.sl (.int .i64)) (.pair (.sl (.int .i64)) (.pair (.sl (.int .i64)) (.pair (.int .i64) (.pair (.int .i64) .str)))))) x.2.2.2 false]))) := by
 skip
 intro a0_0 a0_1 a0_2 a0_3 a1_0 a1_1 a1_2 a1_3 a1_4
 unfold keep_odd.f; refine S.run_s rfl rfl ?_; conv => lhs; arg 5; whnf
 conv => lhs; arg 6; whnf
 all_goals repeat' first|(first|refine S.seq_op rfl ?_|refine S.op_n ?_|refine S.block_x ?_|refine br_lt ?_|refine br_lf ?_|refine br_t (by assumption) ?_|refine br_f (by assumption) ?_|refine req_i (by with_reducible assumption) ?_|refine br_nd (fun _=>?_) (fun _=>?_)|refine br_d (fun _=>?_) (fun _=>?_)|refine br_n (fun _=>?_) (fun _=>?_)|refine br_c (fun _=>?_) (fun _=>?_)|refine req_c fun _=>?_|refine req_i (by assumption) ?_|refine bnd_c fun _=>?_)<;>(conv=>lhs;whnf)|refine S.seq_nil ?_|refine S.reg_n ?_|refine S.region rfl ?_|refine S.two ?_|refine S.blok ?_|refine S.cond rfl ?_|refine S.after_n ?_|refine S.block_n ?_|refine S.block_r ?_|refine S.after_x ?_|refine S.after_r ?_|refine S.skip ?_|refine S.exit ?_|refine S.ret ?_|refine sum_c (fun _=>?_) (fun _=>?_)|refine S.region_d (id := 9) (ds := [0,0,2,7,0,16,48,127,255,511]) (mds := [[],[],[],[],[],[],[],[],[],[0]]) (hm := [(9,[0])]) (by kernel_rfl) (by kernel_rfl) rfl rfl ?_|refine S.region_d (id := 13) (ds := [0,0,2,7,0,16,48,127,255,511]) (mds := [[],[],[],[],[],[],[],[],[],[0]]) (hm := [(9,[0])]) (by kernel_rfl) (by kernel_rfl) rfl rfl ?_|refine S.region_d (id := 36) (ds := [0,0,2,7,0,16,48,127,255,511]) (mds := [[],[],[],[],[],[],[],[],[],[5]]) (hm := [(9,[5])]) (by kernel_rfl) (by kernel_rfl) rfl rfl ?_|refine S.region_d (id := 20) (ds := [0,0,2,7,0,16,48,127,255,511]) (mds := [[],[],[],[],[],[],[],[],[],[5]]) (hm := [(9,[5])]) (by kernel_rfl) (by kernel_rfl) rfl rfl ?_|(first|refine S.loop ?_|refine S.back_n ?_|refine S.back_x ?_|refine S.back_r ?_|refine S.fin_r ?_|refine S.fin_n ?_|refine S.dk_n ?_|refine S.draw_nil ?_)<;>(conv=>lhs;whnf)|exact ret_c rfl|exact none_c|(refine S.draw_op ?_; conv => lhs; whnf; arg 1; whnf)|refine andK_br ?_|refine andK_req ?_|refine andK_b ?_|refine andK_none ?_
theorem en35 : EnvOK Tryz.prog (g35) := (envOK_add snd59 (envOK_add snd58 (envOK_nil _)))
theorem snd35 : Sound Tryz.prog 35 (sp35) := by
 refine ⟨⟨Tryz.f35,Tryz.func35,by kernel_rfl,rfl⟩,fun args objs K r h => ?_⟩
 unfold sp35 at h; dsimp only at h; split at h
 ·rename_i v0 a0_1 v1 v2 a1_0 a1_1 a1_2 a1_3 a1_4
  obtain ⟨a0_0,h9,ca0_0⟩ := listB_spec h; clear h
  have h := h9; clear h9
  obtain ⟨a0_2,h9,ca0_2⟩ := listB_spec h; clear h
  have h := h9; clear h9
  obtain ⟨a0_3,h9,ca0_3⟩ := listB_spec h; clear h
  have h := h9; clear h9
  obtain ⟨x,hx,h⟩ := bindO_some h
  exact ⟨_,_,h,FnOK.args2 (relL_c (rel_agg (relL_c ca0_0 (relL_c rel_i (relL_c ca0_2 (relL_c ca0_3 relL_n))))) (relL_c (rel_agg (relL_c rel_i (relL_c rel_i (relL_c rel_i (relL_c rel_i (relL_c rel_i relL_n)))))) relL_n)) (fn_run tab_ok (en35) mixed Tryz.func35 (((lp9000 seals 0) a0_0 a0_1 a0_2 a0_3 a1_0 a1_1 a1_2 a1_3 a1_4).trans (bindO_eq hx)))⟩
 ·cases h
def lv15 : Live := look ⟨[],[],[],[],[]⟩ [(2,⟨[1,2,4,5],[2,4],[4],[(2,2,.fz (.pair (.int .i64) (.pair (.sl (.int .i64)) (.pair (.sl (.int .i64)) (.pair (.sl (.int .i64)) (.pair (.int .i64) (.pair (.int .i64) .str)))))))],[]⟩)]
noncomputable def g15 : FEnv := (addF 35 sp35 (fun _=>none))
def sp15 (k : Nat) : FSpec := ⟨[.st,.st],fun args objs K => match args,objs with | [.agg [v0,.s a0_1,v1,v2],v3],[] => listB (.int .i64) false v0 fun a0_0 => listB (.pair (.int .i64) (.pair (.sl (.int .i64)) (.pair (.sl (.int .i64)) (.pair (.sl (.int .i64)) (.pair (.int .i64) (.pair (.int .i64) .str)))))) false v1 fun a0_2 => listB (.int .i64) false v2 fun a0_3 => listB (.pair (.int .i64) (.pair (.int .i64) (.pair (.int .i64) (.pair (.int .i64) .str)))) false v3 fun a1 => bindO (keep_Odd.f k a0_0 a0_1 a0_2 a0_3 a1) fun x : (List Int) × ByteArray × (List (Int × (List Int) × (List Int) × (List Int) × Int × Int × ByteArray)) × (List Int) => K (.agg [.dat (.int .i64) x.1 false,.s x.2.1,.dat (.pair (.int .i64) (.pair (.sl (.int .i64)) (.pair (.sl (.int .i64)) (.pair (.sl (.int .i64)) (.pair (.int .i64) (.pair (.int .i64) .str)))))) x.2.2.1 false,.dat (.int .i64) x.2.2.2 false]) [] | _,_ => none⟩
def lv16 : Live := look ⟨[],[],[],[],[]⟩ []
noncomputable def g16 (k : Nat) : FEnv := (addF 30 (sp30 k) (addF 22 (sp22 k) (addF 36 (sp36 k) (fun _=>none))))
def sp16 (k : Nat) : FSpec := ⟨[.st,.st],fun args objs K => match args,objs with | [.agg [.i .i64 a0_0,v0,v1,v2,.i .i64 a0_4,.i .i64 a0_5,.s a0_6],v3],[] => listB (.int .i64) false v0 fun a0_1 => listB (.int .i64) false v1 fun a0_2 => listB (.int .i64) false v2 fun a0_3 => listB (.sl (.int .i64)) false v3 fun a1 => bindO (law10_node.f k a0_0 a0_1 a0_2 a0_3 a0_4 a0_5 a0_6 a1) fun x : Bool => K (.b x) [] | _,_ => none⟩
theorem lp9001 (S : Seals) (k : Nat) : (∀ (a0_0 : List Int) (a0_1 : ByteArray) (a0_2 : List (Int × (List Int) × (List Int) × (List Int) × Int × Int × ByteArray)) (a0_3 : List Int) (a1 : List (Int × Int × Int × Int × ByteArray)),runF tt (g15) lv15 Tryz.f15 k [.agg [.dat (.int .i64) a0_0 false,.s a0_1,.dat (.pair (.int .i64) (.pair (.sl (.int .i64)) (.pair (.sl (.int .i64)) (.pair (.sl (.int .i64)) (.pair (.int .i64) (.pair (.int .i64) .str)))))) a0_2 false,.dat (.int .i64) a0_3 false],.dat (.pair (.int .i64) (.pair (.int .i64) (.pair (.int .i64) (.pair (.int .i64) .str)))) a1 false] [] = bindO (keep_Odd.f k a0_0 a0_1 a0_2 a0_3 a1) (fun x : (List Int) × ByteArray × (List (Int × (List Int) × (List Int) × (List Int) × Int × Int × ByteArray)) × (List Int) => some (.agg [.dat (.int .i64) x.1 false,.s x.2.1,.dat (.pair (.int .i64) (.pair (.sl (.int .i64)) (.pair (.sl (.int .i64)) (.pair (.sl (.int .i64)) (.pair (.int .i64) (.pair (.int .i64) .str)))))) x.2.2.1 false,.dat (.int .i64) x.2.2.2 false],[]))) ∧ (∀ (a0_0 : Int) (a0_1 : List Int) (a0_2 : List Int) (a0_3 : List Int) (a0_4 : Int) (a0_5 : Int) (a0_6 : ByteArray) (a1 : List (List Int)),runF tt (g16 k) lv16 Tryz.f16 k [.agg [.i .i64 a0_0,.dat (.int .i64) a0_1 false,.dat (.int .i64) a0_2 false,.dat (.int .i64) a0_3 false,.i .i64 a0_4,.i .i64 a0_5,.s a0_6],.dat (.sl (.int .i64)) a1 false] [] = bindO (law10_node.f k a0_0 a0_1 a0_2 a0_3 a0_4 a0_5 a0_6 a1) (fun x : Bool => some (.b x,[]))) := by
 refine cut_ (A := ∀ (n : Nat) {x1 : List (Int × Int × Int × Int × ByteArray)} {x5 : Int} {y0_0 : List Int} {y0_1 : ByteArray} {y0_2 : List (Int × (List Int) × (List Int) × (List Int) × Int × Int × ByteArray)} {y0_3 : List Int} {y1 : ByteArray} {K : CK},S.lp tt (g15) lv15 0 n (loopN Tryz.f15 0) ⟨[(1,.dat (.pair (.int .i64) (.pair (.int .i64) (.pair (.int .i64) (.pair (.int .i64) .str)))) x1 false),(2,.ptr 0 0),(4,.ptr 1 0),(5,.i .i64 x5)],[(0,.var [.dat (.int .i64) y0_0 false,.s y0_1,.dat (.pair (.int .i64) (.pair (.sl (.int .i64)) (.pair (.sl (.int .i64)) (.pair (.sl (.int .i64)) (.pair (.int .i64) (.pair (.int .i64) .str)))))) y0_2 false,.dat (.int .i64) y0_3 false]),(1,.var [.nilsl,.s y1,.nilsl,.nilsl])],2,23⟩ K = bindO (keep_Odd.l0 n x1 x5 y0_0 y0_1 y0_2 y0_3 y1) (fun x : (List Int) × ByteArray × (List (Int × (List Int) × (List Int) × (List Int) × Int × Int × ByteArray)) × (List Int) => K (.exit 0) ⟨[(2,.ptr 0 0),(4,.ptr 1 0)],[(0,.var [.dat (.int .i64) x.1 false,.s x.2.1,.dat (.pair (.int .i64) (.pair (.sl (.int .i64)) (.pair (.sl (.int .i64)) (.pair (.sl (.int .i64)) (.pair (.int .i64) (.pair (.int .i64) .str)))))) x.2.2.1 false,.dat (.int .i64) x.2.2.2 false]),(1,.var [.nilsl,.s y1,.nilsl,.nilsl])],2,23⟩)) (ind_ (by intros; rw [S.lp_zero]; exact none_c) ?_) ?_
 intro n ih; intros; rw [keep_Odd.l0]; refine S.lp_succ ?_; conv => lhs; arg 5; whnf
 rotate_left
 intro w15_0
 refine ⟨?_,?_⟩
 intro a0_0 a0_1 a0_2 a0_3 a1
 unfold keep_Odd.f; refine S.run_s rfl rfl ?_; conv => lhs; arg 5; whnf
 conv => lhs; arg 6; whnf
 rotate_left
 intro a0_0 a0_1 a0_2 a0_3 a0_4 a0_5 a0_6 a1
 unfold law10_node.f; refine S.run_s rfl rfl ?_; conv => lhs; arg 5; whnf
 conv => lhs; arg 6; whnf
 rotate_left
 all_goals repeat' first|(first|refine S.seq_op rfl ?_|refine S.op_n ?_|refine S.block_x ?_|refine br_lt ?_|refine br_lf ?_|refine br_t (by assumption) ?_|refine br_f (by assumption) ?_|refine req_i (by with_reducible assumption) ?_|refine br_nd (fun _=>?_) (fun _=>?_)|refine br_d (fun _=>?_) (fun _=>?_)|refine br_n (fun _=>?_) (fun _=>?_)|refine br_c (fun _=>?_) (fun _=>?_)|refine req_c fun _=>?_|refine req_i (by assumption) ?_|refine bnd_c fun _=>?_)<;>(conv=>lhs;whnf)|refine S.seq_nil ?_|refine S.reg_n ?_|refine S.region rfl ?_|refine S.two ?_|refine S.blok ?_|refine S.cond rfl ?_|refine S.after_n ?_|refine S.block_n ?_|refine S.block_r ?_|refine S.after_x ?_|refine S.after_r ?_|refine S.skip ?_|refine S.exit ?_|refine S.ret ?_|refine sum_c (fun _=>?_) (fun _=>?_)|refine S.region_d (id := 4) (ds := [0,0,0,6,14,31,63]) (mds := [[],[],[],[],[],[],[0]]) (hm := [(6,[0])]) (by kernel_rfl) (by kernel_rfl) rfl rfl ?_|exact ih|refine (w15_0 _).trans ?_|(first|refine S.loop ?_|refine S.back_n ?_|refine S.back_x ?_|refine S.back_r ?_|refine S.fin_r ?_|refine S.fin_n ?_|refine S.dk_n ?_|refine S.draw_nil ?_)<;>(conv=>lhs;whnf)|exact ret_c rfl|exact none_c|(refine S.draw_op ?_; conv => lhs; whnf; arg 1; whnf)|refine andK_br ?_|refine andK_req ?_|refine andK_b ?_|refine andK_none ?_
theorem en15 : EnvOK Tryz.prog (g15) := (envOK_add snd35 (envOK_nil _))
theorem snd15 (k : Nat) : Sound Tryz.prog 15 (sp15 k) := by
 refine ⟨⟨Tryz.f15,Tryz.func15,by kernel_rfl,rfl⟩,fun args objs K r h => ?_⟩
 unfold sp15 at h; dsimp only at h; split at h
 ·rename_i v0 a0_1 v1 v2 v3
  obtain ⟨a0_0,h9,ca0_0⟩ := listB_spec h; clear h
  have h := h9; clear h9
  obtain ⟨a0_2,h9,ca0_2⟩ := listB_spec h; clear h
  have h := h9; clear h9
  obtain ⟨a0_3,h9,ca0_3⟩ := listB_spec h; clear h
  have h := h9; clear h9
  obtain ⟨a1,h9,ca1⟩ := listB_spec h; clear h
  have h := h9; clear h9
  obtain ⟨x,hx,h⟩ := bindO_some h
  exact ⟨_,_,h,FnOK.args2 (relL_c (rel_agg (relL_c ca0_0 (relL_c rel_i (relL_c ca0_2 (relL_c ca0_3 relL_n))))) (relL_c ca1 relL_n)) (fn_run tab_ok (en15) mixed Tryz.func15 (((lp9001 seals k).1 a0_0 a0_1 a0_2 a0_3 a1).trans (bindO_eq hx)))⟩
 ·cases h
theorem en16 (k : Nat) : EnvOK Tryz.prog (g16 k) := (envOK_add (snd30 k) (envOK_add (snd22 k) (envOK_add (snd36 k) (envOK_nil _))))
theorem snd16 (k : Nat) : Sound Tryz.prog 16 (sp16 k) := by
 refine ⟨⟨Tryz.f16,Tryz.func16,by kernel_rfl,rfl⟩,fun args objs K r h => ?_⟩
 unfold sp16 at h; dsimp only at h; split at h
 ·rename_i a0_0 v0 v1 v2 a0_4 a0_5 a0_6 v3
  obtain ⟨a0_1,h9,ca0_1⟩ := listB_spec h; clear h
  have h := h9; clear h9
  obtain ⟨a0_2,h9,ca0_2⟩ := listB_spec h; clear h
  have h := h9; clear h9
  obtain ⟨a0_3,h9,ca0_3⟩ := listB_spec h; clear h
  have h := h9; clear h9
  obtain ⟨a1,h9,ca1⟩ := listB_spec h; clear h
  have h := h9; clear h9
  obtain ⟨x,hx,h⟩ := bindO_some h
  exact ⟨_,_,h,FnOK.args2 (relL_c (rel_agg (relL_c rel_i (relL_c ca0_1 (relL_c ca0_2 (relL_c ca0_3 (relL_c rel_i (relL_c rel_i (relL_c rel_i relL_n)))))))) (relL_c ca1 relL_n)) (fn_run tab_ok (en16 k) mixed Tryz.func16 (((lp9001 seals k).2 a0_0 a0_1 a0_2 a0_3 a0_4 a0_5 a0_6 a1).trans (bindO_eq hx)))⟩
 ·cases h
def lv5 : Live := look ⟨[],[],[],[],[]⟩ [(2,⟨[1],[],[0],[],[]⟩),(6,⟨[1,2,3],[1],[0],[(2,0,.fz (.int .i64)),(2,2,.fz (.pair (.int .i64) (.pair (.sl (.int .i64)) (.pair (.sl (.int .i64)) (.pair (.sl (.int .i64)) (.pair (.int .i64) (.pair (.int .i64) .str))))))),(2,3,.fz (.int .i64))],[]⟩),(11,⟨[4],[],[0],[],[]⟩),(14,⟨[4,5],[4],[0],[],[]⟩),(22,⟨[4,5,6,7],[4,5],[0],[(6,2,.own (.int .i64)),(6,2,.fz (.int .i64)),(6,3,.own (.int .i64)),(6,3,.fz (.int .i64))],[]⟩),(28,⟨[127,128,129],[],[0],[],[]⟩),(31,⟨[10,127,128,129,133,134,135],[127,128,129],[0],[],[]⟩)]
noncomputable def g5 (k : Nat) : FEnv := (addF 11 (sp11 k) (addF 16 (sp16 k) (addF 15 (sp15 k) (addF 14 (sp14 k) (addF 7 (sp7 k) (addF 13 (sp13 k) (fun _=>none)))))))
def sp5 (k : Nat) : FSpec := ⟨[],fun args objs K => match args,objs with | [],[] => bindO (law10_GraphNumbers.f k) fun x : Bool => K (.b x) [] | _,_ => none⟩
theorem lp9002 (S : Seals) (k : Nat) : (runF tt (g5 k) lv5 Tryz.f5 k [] [] = bindO (law10_GraphNumbers.f k) (fun x : Bool => some (.b x,[]))) := by
 refine cut_ (A := ∀ (n : Nat) {x1 : Int} {x3 : Int} {y0_0 : List Int} {y0_1 : ByteArray} {y0_2 : List (Int × (List Int) × (List Int) × (List Int) × Int × Int × ByteArray)} {y0_3 : List Int} {K : CK},S.lp tt (g5 k) lv5 0 n (loopN Tryz.f5 1) ⟨[(1,.i .i64 x1),(2,.ptr 0 0),(3,.i .i64 x3)],[(0,.var [.dat (.int .i64) y0_0 false,.s y0_1,.dat (.pair (.int .i64) (.pair (.sl (.int .i64)) (.pair (.sl (.int .i64)) (.pair (.sl (.int .i64)) (.pair (.int .i64) (.pair (.int .i64) .str)))))) y0_2 false,.dat (.int .i64) y0_3 false])],1,156⟩ K = bindO (law10_GraphNumbers.l1 k n x1 x3 y0_0 y0_1 y0_2 y0_3) (Sum.elim (fun x : Unit => K (.exit 2) ⟨[(1,.i .i64 x1)],[],0,156⟩) (fun x : Bool => K .ret ⟨[(0,.b x)],[],0,156⟩))) (ind_ (by intros; rw [S.lp_zero]; exact none_c) ?_) ?_
 intro n ih; intros; rw [law10_GraphNumbers.l1]; refine S.lp_succ ?_; conv => lhs; arg 5; whnf
 rotate_left
 intro w5_1
 refine cut_ (A := ∀ (n : Nat) {x1 : Int} {K : CK},S.lp tt (g5 k) lv5 0 n (loopN Tryz.f5 0) ⟨[(1,.i .i64 x1)],[],0,156⟩ K = bindO (law10_GraphNumbers.l0 k n x1) (Sum.elim (fun x : Unit => K (.exit 0) ⟨[],[],0,156⟩) (fun x : Bool => K .ret ⟨[(0,.b x)],[],0,156⟩))) (ind_ (by intros; rw [S.lp_zero]; exact none_c) ?_) ?_
 intro n ih; intros; rw [law10_GraphNumbers.l0]; refine S.lp_succ ?_; conv => lhs; arg 5; whnf
 rotate_left
 intro w5_0
 refine cut_ (A := ∀ (n : Nat) {x4 : Int} {x5 : Int} {x7 : Int} {y0_0 : Int} {y0_1 : List Int} {y0_2 : List Int} {y0_3 : Int} {y0_4 : Int} {y0_5 : ByteArray} {K : CK},S.lp tt (g5 k) lv5 0 n (loopN Tryz.f5 4) ⟨[(4,.i .i64 x4),(5,.i .i64 x5),(6,.ptr 0 0),(7,.i .i64 x7)],[(0,.var [.i .i64 y0_0,.nilsl,.dat (.int .i64) y0_1 false,.dat (.int .i64) y0_2 false,.i .i64 y0_3,.i .i64 y0_4,.s y0_5])],1,156⟩ K = bindO (law10_GraphNumbers.l4 k n x4 x5 x7 y0_0 y0_1 y0_2 y0_3 y0_4 y0_5) (Sum.elim (fun x : Unit => K (.exit 8) ⟨[(4,.i .i64 x4),(5,.i .i64 x5)],[],0,156⟩) (fun x : Bool => K .ret ⟨[(0,.b x)],[],0,156⟩))) (ind_ (by intros; rw [S.lp_zero]; exact none_c) ?_) ?_
 intro n ih; intros; rw [law10_GraphNumbers.l4]; refine S.lp_succ ?_; conv => lhs; arg 5; whnf
 rotate_left
 intro w5_4
 refine cut_ (A := ∀ (n : Nat) {x4 : Int} {x5 : Int} {K : CK},S.lp tt (g5 k) lv5 0 n (loopN Tryz.f5 3) ⟨[(4,.i .i64 x4),(5,.i .i64 x5)],[],0,156⟩ K = bindO (law10_GraphNumbers.l3 k n x4 x5) (Sum.elim (fun x : Unit => K (.exit 6) ⟨[(4,.i .i64 x4)],[],0,156⟩) (fun x : Bool => K .ret ⟨[(0,.b x)],[],0,156⟩))) (ind_ (by intros; rw [S.lp_zero]; exact none_c) ?_) ?_
 intro n ih; intros; rw [law10_GraphNumbers.l3]; refine S.lp_succ ?_; conv => lhs; arg 5; whnf
 rotate_left
 intro w5_3
 refine cut_ (A := ∀ (n : Nat) {x4 : Int} {K : CK},S.lp tt (g5 k) lv5 0 n (loopN Tryz.f5 2) ⟨[(4,.i .i64 x4)],[],0,156⟩ K = bindO (law10_GraphNumbers.l2 k n x4) (Sum.elim (fun x : Unit => K (.exit 4) ⟨[],[],0,156⟩) (fun x : Bool => K .ret ⟨[(0,.b x)],[],0,156⟩))) (ind_ (by intros; rw [S.lp_zero]; exact none_c) ?_) ?_
 intro n ih; intros; rw [law10_GraphNumbers.l2]; refine S.lp_succ ?_; conv => lhs; arg 5; whnf
 rotate_left
 intro w5_2
 refine cut_ (A := ∀ (n : Nat) {x10 : List Int} {x128 : Int} {x129 : Int} {x134 : Int} {x135 : Int} {y0 : List (List Int)} {y1 : List ByteArray} {K : CK},S.lp tt (g5 k) lv5 0 n (loopN Tryz.f5 6) ⟨[(10,.dat (.int .i64) x10 false),(127,.own 0),(128,.i .i64 x128),(129,.i .i64 x129),(133,.own 1),(134,.i .i64 x134),(135,.i .i64 x135)],[(0,.row (.sl (.int .i64)) y0 false),(1,.row .str y1 false)],2,156⟩ K = bindO (law10_GraphNumbers.l6 k n x10 x128 x129 x134 x135 y0 y1) (Sum.elim (fun x : Unit => K (.exit 12) ⟨[(127,.own 0),(128,.i .i64 x128),(129,.i .i64 x129)],[(0,.row (.sl (.int .i64)) y0 false)],1,156⟩) (fun x : Bool => K .ret ⟨[(0,.b x)],[],0,156⟩))) (ind_ (by intros; rw [S.lp_zero]; exact none_c) ?_) ?_
 intro n ih; intros; rw [law10_GraphNumbers.l6]; refine S.lp_succ ?_; conv => lhs; arg 5; whnf
 rotate_left
 intro w5_6
 refine cut_ (A := ∀ (n : Nat) {x128 : Int} {x129 : Int} {y0 : List (List Int)} {K : CK},S.lp tt (g5 k) lv5 0 n (loopN Tryz.f5 5) ⟨[(127,.own 0),(128,.i .i64 x128),(129,.i .i64 x129)],[(0,.row (.sl (.int .i64)) y0 false)],1,156⟩ K = bindO (law10_GraphNumbers.l5 k n x128 x129 y0) (Sum.elim (fun x : Unit => K (.exit 10) ⟨[],[],0,156⟩) (fun x : Bool => K .ret ⟨[(0,.b x)],[],0,156⟩))) (ind_ (by intros; rw [S.lp_zero]; exact none_c) ?_) ?_
 intro n ih; intros; rw [law10_GraphNumbers.l5]; refine S.lp_succ ?_; conv => lhs; arg 5; whnf
 rotate_left
 intro w5_5
 skip
 unfold law10_GraphNumbers.f; refine S.run_s rfl rfl ?_; conv => lhs; arg 5; whnf
 conv => lhs; arg 6; whnf
 rotate_left
 all_goals repeat' first|(first|refine S.seq_op rfl ?_|refine S.op_n ?_|refine S.block_x ?_|refine br_lt ?_|refine br_lf ?_|refine br_t (by assumption) ?_|refine br_f (by assumption) ?_|refine req_i (by with_reducible assumption) ?_|refine br_nd (fun _=>?_) (fun _=>?_)|refine br_d (fun _=>?_) (fun _=>?_)|refine br_n (fun _=>?_) (fun _=>?_)|refine br_c (fun _=>?_) (fun _=>?_)|refine req_c fun _=>?_|refine req_i (by assumption) ?_|refine bnd_c fun _=>?_)<;>(conv=>lhs;whnf)|refine S.seq_nil ?_|refine S.reg_n ?_|refine S.region rfl ?_|refine S.two ?_|refine S.blok ?_|refine S.cond rfl ?_|refine S.after_n ?_|refine S.block_n ?_|refine S.block_r ?_|refine S.after_x ?_|refine S.after_r ?_|refine S.skip ?_|refine S.exit ?_|refine S.ret ?_|refine sum_c (fun _=>?_) (fun _=>?_)|exact ih|refine (w5_1 _).trans ?_|refine (w5_4 _).trans ?_|refine (w5_3 _).trans ?_|refine (w5_6 _).trans ?_|refine (w5_0 _).trans ?_|refine (w5_2 _).trans ?_|refine (w5_5 _).trans ?_|(first|refine S.loop ?_|refine S.back_n ?_|refine S.back_x ?_|refine S.back_r ?_|refine S.fin_r ?_|refine S.fin_n ?_|refine S.dk_n ?_|refine S.draw_nil ?_)<;>(conv=>lhs;whnf)|exact ret_c rfl|exact none_c|(refine S.draw_op ?_; conv => lhs; whnf; arg 1; whnf)|refine andK_br ?_|refine andK_req ?_|refine andK_b ?_|refine andK_none ?_
theorem en5 (k : Nat) : EnvOK Tryz.prog (g5 k) := (envOK_add (snd11 k) (envOK_add (snd16 k) (envOK_add (snd15 k) (envOK_add (snd14 k) (envOK_add (snd7 k) (envOK_add (snd13 k) (envOK_nil _)))))))
theorem snd5 (k : Nat) : Sound Tryz.prog 5 (sp5 k) := by
 refine ⟨⟨Tryz.f5,Tryz.func5,by kernel_rfl,rfl⟩,fun args objs K r h => ?_⟩
 unfold sp5 at h; dsimp only at h; split at h
 ·skip
  obtain ⟨x,hx,h⟩ := bindO_some h
  exact ⟨_,_,h,FnOK.args2 relL_n (fn_run tab_ok (en5 k) mixed Tryz.func5 (((lp9002 seals k)).trans (bindO_eq hx)))⟩
 ·cases h
theorem r5 (S : Seals) (k : Nat)  : runF tt (g5 k) lv5 Tryz.f5 k [] [] = bindO (law10_GraphNumbers.f k) (fun x : Bool => some (.b x,[])) := (lp9002 S k) 
end Go.Vm
