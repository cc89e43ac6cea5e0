/- Own texts put together: the walks -/
import Derived.Test.YtjbpaoieanfffaaGreatWk0
import Derived.Test.YtjbpaoieanfffaaGreatWk3
import Derived.Test.YtjbpaoieanfffaaGreatWk4
import Derived.Test.YtjbpaoieanfffaaGreatWk5
set_option linter.unusedVariables false
set_option maxRecDepth 60000
set_option maxHeartbeats 40000000
namespace Go.Vm
open Go Go.Proofs Go.Pf

def lv51 : Live := look ⟨[],[],[],[],[]⟩ [(1000000,⟨[],[],[],[(4,0,.own (.int .i64)),(4,1,.own (.int .i64))],[]⟩)]
noncomputable def g51 (k : Nat) : FEnv := (addF 78 (sp78 k) (addF 77 (sp77 k) (addF 76 (sp76 k) (addF 75 (sp75 k) (addF 74 (sp74 k) (addF 73 (sp73 k) (addF 72 (sp72 k) (addF 71 (sp71 k) (addF 70 (sp70 k) (addF 69 (sp69 k) (addF 68 (sp68 k) (addF 67 (sp67 k) (addF 66 sp66 (addF 50 (sp50 k) (addF 49 (sp49 k) (fun _=>none))))))))))))))))
def sp51 (k : Nat) : FSpec := ⟨[.rd,.rd],fun args objs K => match args,objs with | [.agg [.i .i64 a0_0,v0,v1,v2,.i .i64 a0_4,.i .i64 a0_5,.s a0_6],v3],[] => listB (.int .i64) true v0 fun a0_1 => listB (.int .i64) true v1 fun a0_2 => listB (.int .i64) true v2 fun a0_3 => listB (.pair (.sl (.int .i64)) (.sl (.int .i64))) true v3 fun a1 => bindO (ref10_work.f k a0_0 a0_1 a0_2 a0_3 a0_4 a0_5 a0_6 a1) fun x : Int × (List Int) × (List Int) => K (.tup [.agg [.own 0,.own 1],.i .i64 x.1]) [.row (.int .i64) x.2.1 false,.row (.int .i64) x.2.2 false] | _,_ => none⟩
theorem lp6000 (S : Seals) (k : Nat) : (∀ (a0_0 : Int) (a0_1 : List Int) (a0_2 : List Int) (a0_3 : List Int) (a0_4 : Int) (a0_5 : Int) (a0_6 : ByteArray) (a1 : List ((List Int) × (List Int))),runF tt (g51 k) lv51 Tryz.f51 k [.agg [.i .i64 a0_0,.dat (.int .i64) a0_1 true,.dat (.int .i64) a0_2 true,.dat (.int .i64) a0_3 true,.i .i64 a0_4,.i .i64 a0_5,.s a0_6],.dat (.pair (.sl (.int .i64)) (.sl (.int .i64))) a1 true] [] = bindO (ref10_work.f k a0_0 a0_1 a0_2 a0_3 a0_4 a0_5 a0_6 a1) (fun x : Int × (List Int) × (List Int) => some (.tup [.agg [.own 0,.own 1],.i .i64 x.1],[.row (.int .i64) x.2.1 false,.row (.int .i64) x.2.2 false]))) := by
 skip
 intro a0_0 a0_1 a0_2 a0_3 a0_4 a0_5 a0_6 a1
 unfold ref10_work.f; refine S.run_s rfl rfl ?_; conv => lhs; arg 5; whnf
 conv => lhs; arg 6; whnf
 all_goals repeat' first|(first|refine S.seq_op rfl ?_|refine S.op_n ?_|refine S.block_x ?_|refine br_lt ?_|refine br_lf ?_|refine br_t (by assumption) ?_|refine br_f (by assumption) ?_|refine req_i (by with_reducible assumption) ?_|refine br_nd (fun _=>?_) (fun _=>?_)|refine br_d (fun _=>?_) (fun _=>?_)|refine br_n (fun _=>?_) (fun _=>?_)|refine br_c (fun _=>?_) (fun _=>?_)|refine req_c fun _=>?_|refine req_i (by assumption) ?_|refine bnd_c fun _=>?_)<;>(conv=>lhs;whnf)|refine S.seq_nil ?_|refine S.reg_n ?_|refine S.region rfl ?_|refine S.two ?_|refine S.blok ?_|refine S.cond rfl ?_|refine S.after_n ?_|refine S.block_n ?_|refine S.block_r ?_|refine S.after_x ?_|refine S.after_r ?_|refine S.skip ?_|refine S.exit ?_|refine S.ret ?_|refine sum_c (fun _=>?_) (fun _=>?_)|refine S.region_d (id := 8) (ds := [0,1,3,7,15,31,63,127,255,511,1023,2047,4095,8191,16383,2047,34815,100351,262143,524287]) (mds := [[],[],[],[],[],[],[],[],[],[],[],[],[],[],[],[],[],[],[],[]]) (hm := []) (by kernel_rfl) (by kernel_rfl) rfl rfl ?_|refine S.region_d (id := 10) (ds := [0,1,0,4,12,28,63,127,255]) (mds := [[],[],[],[],[],[],[],[1],[]]) (hm := [(7,[1])]) (by kernel_rfl) (by kernel_rfl) rfl rfl ?_|refine S.region_d (id := 13) (ds := [0,1,0,4,12,31,63,63,255,511]) (mds := [[],[],[],[],[],[],[],[],[1],[]]) (hm := [(8,[1])]) (by kernel_rfl) (by kernel_rfl) rfl rfl ?_|refine S.region_d (id := 15) (ds := [0,1,3,0,8,24,0,64,192,511,1023,1023,4095,8191]) (mds := [[],[],[],[],[],[],[],[],[],[],[],[],[1],[]]) (hm := [(12,[1])]) (by kernel_rfl) (by kernel_rfl) rfl rfl ?_|refine S.region_d (id := 17) (ds := [0,1,3,0,8,31,63,63,255,511]) (mds := [[],[],[],[],[],[],[],[],[1],[]]) (hm := [(8,[1])]) (by kernel_rfl) (by kernel_rfl) rfl rfl ?_|refine S.region_d (id := 19) (ds := [0,1,3,0,8,0,32,127,255,255,1023,2047]) (mds := [[],[],[],[],[],[],[],[],[],[],[1],[]]) (hm := [(10,[1])]) (by kernel_rfl) (by kernel_rfl) rfl rfl ?_|refine S.region_d (id := 26) (ds := [0,1,3,0,8,0,56,0,128,0,896,2047,4095,4095,16383,32767]) (mds := [[],[],[],[],[],[],[],[],[],[],[],[],[],[],[1],[]]) (hm := [(14,[1])]) (by kernel_rfl) (by kernel_rfl) rfl rfl ?_|refine S.region_d (id := 27) (ds := [0,1,3,0,8,0,56,0,128,0,896,0,2048,8191,16383,16383,65535,131071]) (mds := [[],[],[],[],[],[],[],[],[],[],[],[],[],[],[],[],[1],[]]) (hm := [(16,[1])]) (by kernel_rfl) (by kernel_rfl) rfl rfl ?_|refine S.region_d (id := 34) (ds := [0,1,3,0,8,24,0,64,192,448,1023,2047,2047,8191,16383]) (mds := [[],[],[],[],[],[],[],[],[],[],[],[],[],[1],[]]) (hm := [(13,[1])]) (by kernel_rfl) (by kernel_rfl) rfl rfl ?_|refine S.region_d (id := 36) (ds := [0,1,0,4,12,0,32,127,255,255,1023,2047]) (mds := [[],[],[],[],[],[],[],[],[],[],[1],[]]) (hm := [(10,[1])]) (by kernel_rfl) (by kernel_rfl) rfl rfl ?_|refine S.region_d (id := 40) (ds := [0,1,0,4,12,0,32,96,224,0,512,1536,3584,0,8192,24576,57344,131071,262143,262143,1048575,2097151]) (mds := [[],[],[],[],[],[],[],[],[],[],[],[],[],[],[],[],[],[],[],[],[1],[]]) (hm := [(20,[1])]) (by kernel_rfl) (by kernel_rfl) rfl rfl ?_|refine S.region_d (id := 41) (ds := [0,1,0,4,12,0,32,96,255,511,511,2047,4095]) (mds := [[],[],[],[],[],[],[],[],[],[],[],[1],[]]) (hm := [(11,[1])]) (by kernel_rfl) (by kernel_rfl) rfl rfl ?_|(first|refine S.loop ?_|refine S.back_n ?_|refine S.back_x ?_|refine S.back_r ?_|refine S.fin_r ?_|refine S.fin_n ?_|refine S.dk_n ?_|refine S.draw_nil ?_)<;>(conv=>lhs;whnf)|exact ret_c rfl|exact none_c|(refine S.draw_op ?_; conv => lhs; whnf; arg 1; whnf)|refine andK_br ?_|refine andK_req ?_|refine andK_b ?_|refine andK_none ?_
theorem en51 (k : Nat) : EnvOK Tryz.prog (g51 k) := (envOK_add (snd78 k) (envOK_add (snd77 k) (envOK_add (snd76 k) (envOK_add (snd75 k) (envOK_add (snd74 k) (envOK_add (snd73 k) (envOK_add (snd72 k) (envOK_add (snd71 k) (envOK_add (snd70 k) (envOK_add (snd69 k) (envOK_add (snd68 k) (envOK_add (snd67 k) (envOK_add snd66 (envOK_add (snd50 k) (envOK_add (snd49 k) (envOK_nil _))))))))))))))))
theorem snd51 (k : Nat) : Sound Tryz.prog 51 (sp51 k) := by
 refine ⟨⟨Tryz.f51,Tryz.func51,by kernel_rfl,rfl⟩,fun args objs K r h => ?_⟩
 unfold sp51 at h; dsimp only at h; split at h
 ·rename_i a0_0 v0 v1 v2 a0_4 a0_5 a0_6 v3
  obtain ⟨a0_1,h9,ca0_1⟩ := listB_spec h; clear h
  have h := h9; clear h9
  obtain ⟨a0_2,h9,ca0_2⟩ := listB_spec h; clear h
  have h := h9; clear h9
  obtain ⟨a0_3,h9,ca0_3⟩ := listB_spec h; clear h
  have h := h9; clear h9
  obtain ⟨a1,h9,ca1⟩ := listB_spec h; clear h
  have h := h9; clear h9
  obtain ⟨x,hx,h⟩ := bindO_some h
  exact ⟨_,_,h,FnOK.args2 (relL_c (rel_agg (relL_c rel_i (relL_c ca0_1 (relL_c ca0_2 (relL_c ca0_3 (relL_c rel_i (relL_c rel_i (relL_c rel_i relL_n)))))))) (relL_c ca1 relL_n)) (fn_run tab_ok (en51 k) mixed Tryz.func51 (((lp6000 seals k) a0_0 a0_1 a0_2 a0_3 a0_4 a0_5 a0_6 a1).trans (bindO_eq hx)))⟩
 ·cases h
end Go.Vm
