/- Own texts put together: the walks -/
import Derived.Test.YtjbpaoieanfffaaGreatWk0
import Derived.Test.YtjbpaoieanfffaaGreatWk3
set_option linter.unusedVariables false
set_option maxRecDepth 60000
set_option maxHeartbeats 40000000
namespace Go.Vm
open Go Go.Proofs Go.Pf

def lv102 : Live := look ⟨[],[],[],[],[]⟩ [(5,⟨[0,1,5,6],[5],[4],[],[]⟩)]
noncomputable def g102 (k : Nat) : FEnv := (addF 49 (sp49 k) (fun _=>none))
def sp102 (k : Nat) : FSpec := ⟨[.rd,.rd],fun args objs K => match args,objs with | [v0,v1],[] => listB (.int .i64) true v0 fun a0 => listB (.int .i64) true v1 fun a1 => bindO (ref1_Index.f k a0 a1) fun x : Int => K (.i .i64 x) [] | _,_ => none⟩
def lv101 : Live := look ⟨[],[],[],[],[]⟩ []
noncomputable def g101 (k : Nat) : FEnv := (addF 102 (sp102 k) (fun _=>none))
def sp101 (k : Nat) : FSpec := ⟨[.rd,.rd],fun args objs K => match args,objs with | [.agg [v0,v1],v2],[] => listB (.int .i64) true v0 fun a0_0 => listB (.int .i64) true v1 fun a0_1 => listB (.int .i64) true v2 fun a1 => bindO (ref4_number.f k a0_0 a0_1 a1) fun x : Int => K (.i .i64 x) [] | _,_ => none⟩
def lv70 : Live := look ⟨[],[],[],[],[]⟩ [(8,⟨[1,2,4,6,7,29,30],[1,2,4,7],[4,5],[(7,0,.own (.int .i64))],[]⟩),(17,⟨[1,2,4,7,9,83,84],[4,9],[4,5],[],[]⟩),(22,⟨[1,2,4,7,9,10,11,12,83,84,94,95],[1,2,4,7,9,10,12,83,84],[4,5],[],[]⟩),(1000000,⟨[],[],[],[(4,0,.own (.int .i64)),(4,1,.own (.int .i64))],[]⟩)]
noncomputable def g70 (k : Nat) : FEnv := (addF 101 (sp101 k) (addF 97 (sp97 k) (addF 50 (sp50 k) (addF 100 (sp100 k) (fun _=>none)))))
def sp70 (k : Nat) : FSpec := ⟨[.rd,.rd],fun args objs K => match args,objs with | [.agg [v0,v1],v2],[] => listB (.int .i64) true v0 fun a0_0 => listB (.int .i64) true v1 fun a0_1 => listB (.int .i64) true v2 fun a1 => bindO (ref4_Turn.f k a0_0 a0_1 a1) fun x : Int × (List Int) × (List Int) => K (.tup [.agg [.own 0,.own 1],.i .i64 x.1]) [.row (.int .i64) x.2.1 false,.row (.int .i64) x.2.2 false] | _,_ => none⟩
theorem lp4000 (S : Seals) (k : Nat) : (∀ (a0 : List Int) (a1 : List Int),runF tt (g102 k) lv102 Tryz.f102 k [.dat (.int .i64) a0 true,.dat (.int .i64) a1 true] [] = bindO (ref1_Index.f k a0 a1) (fun x : Int => some (.i .i64 x,[]))) ∧ (∀ (a0_0 : List Int) (a0_1 : List Int) (a1 : List Int),runF tt (g101 k) lv101 Tryz.f101 k [.agg [.dat (.int .i64) a0_0 true,.dat (.int .i64) a0_1 true],.dat (.int .i64) a1 true] [] = bindO (ref4_number.f k a0_0 a0_1 a1) (fun x : Int => some (.i .i64 x,[]))) ∧ (∀ (a0_0 : List Int) (a0_1 : List Int) (a1 : List Int),runF tt (g70 k) lv70 Tryz.f70 k [.agg [.dat (.int .i64) a0_0 true,.dat (.int .i64) a0_1 true],.dat (.int .i64) a1 true] [] = bindO (ref4_Turn.f k a0_0 a0_1 a1) (fun x : Int × (List Int) × (List Int) => some (.tup [.agg [.own 0,.own 1],.i .i64 x.1],[.row (.int .i64) x.2.1 false,.row (.int .i64) x.2.2 false]))) := by
 refine cut_ (A := ∀ (n : Nat) {x0 : List Int} {x1 : List Int} {x5 : Int} {x6 : Int} {K : CK},S.lp tt (g102 k) lv102 0 n (loopN Tryz.f102 0) ⟨[(0,.dat (.int .i64) x0 true),(1,.dat (.int .i64) x1 true),(5,.i .i64 x5),(6,.i .i64 x6)],[],0,51⟩ K = bindO (ref1_Index.l0 n x0 x1 x5 x6) (Sum.elim (fun x : Int => K (.exit 0) ⟨[(5,.i .i64 x)],[],0,51⟩) (fun x : Int => K .ret ⟨[(4,.i .i64 x)],[],0,51⟩))) (ind_ (by intros; rw [S.lp_zero]; exact none_c) ?_) ?_
 intro n ih; intros; rw [ref1_Index.l0]; refine S.lp_succ ?_; conv => lhs; arg 5; whnf
 rotate_left
 intro w102_0
 refine cut_ (A := ∀ (n : Nat) {x1 : List Int} {x29 : Int} {x30 : Int} {y0_0 : List Int} {y0_1 : List Int} {y2 : List Int} {y3 : List Int} {K : CK},S.lp tt (g70 k) lv70 0 n (loopN Tryz.f70 0) ⟨[(1,.dat (.int .i64) x1 true),(2,.ptr 0 0),(4,.ptr 1 0),(6,.own 2),(7,.own 3),(29,.i .i64 x29),(30,.i .i64 x30)],[(0,.var [.dat (.int .i64) y0_0 true,.dat (.int .i64) y0_1 true]),(1,.var [.nilsl,.nilsl]),(2,.row (.int .i64) y2 false),(3,.row (.int .i64) y3 false)],4,118⟩ K = bindO (ref4_Turn.l0 n x1 x29 x30 y0_0 y0_1 y2 y3) (Sum.elim (fun x : (List Int) => K (.exit 0) ⟨[(1,.dat (.int .i64) x1 true),(2,.ptr 0 0),(4,.ptr 1 0),(7,.own 2)],[(0,.var [.dat (.int .i64) y0_0 true,.dat (.int .i64) y0_1 true]),(1,.var [.nilsl,.nilsl]),(2,.row (.int .i64) x false)],3,118⟩) (fun x : Int => K .ret ⟨[(4,.ptr 0 0),(5,.i .i64 x)],[(0,.var [.nilsl,.nilsl])],1,118⟩))) (ind_ (by intros; rw [S.lp_zero]; exact none_c) ?_) ?_
 intro n ih; intros; rw [ref4_Turn.l0]; refine S.lp_succ ?_; conv => lhs; arg 5; whnf
 rotate_left
 intro w70_0
 refine cut_ (A := ∀ (n : Nat) {x1 : List Int} {x10 : Int} {x83 : Int} {x84 : Int} {x94 : Int} {x95 : Int} {y0_0 : List Int} {y0_1 : List Int} {y2 : List Int} {y4 : List Int} {y5 : List Int} {y6 : List Int} {y7 : List Int} {K : CK},S.lp tt (g70 k) lv70 0 n (loopN Tryz.f70 2) ⟨[(1,.dat (.int .i64) x1 true),(2,.ptr 0 0),(4,.ptr 1 0),(7,.own 2),(9,.ptr 3 0),(10,.i .i64 x10),(11,.own 4),(12,.own 5),(83,.i .i64 x83),(84,.i .i64 x84),(94,.i .i64 x94),(95,.i .i64 x95)],[(0,.var [.dat (.int .i64) y0_0 true,.dat (.int .i64) y0_1 true]),(1,.var [.nilsl,.nilsl]),(2,.row (.int .i64) y2 false),(3,.var [.own 6,.own 7]),(4,.row (.int .i64) y4 false),(5,.row (.int .i64) y5 false),(6,.row (.int .i64) y6 false),(7,.row (.int .i64) y7 false)],8,118⟩ K = bindO (ref4_Turn.l2 n x1 x10 x83 x84 x94 x95 y0_0 y0_1 y2 y4 y5 y6 y7) (fun x : (List Int) => K (.exit 4) ⟨[(1,.dat (.int .i64) x1 true),(2,.ptr 0 0),(4,.ptr 1 0),(7,.own 2),(9,.ptr 3 0),(10,.i .i64 x10),(12,.own 4),(83,.i .i64 x83),(84,.i .i64 x84)],[(0,.var [.dat (.int .i64) y0_0 true,.dat (.int .i64) y0_1 true]),(1,.var [.nilsl,.nilsl]),(2,.row (.int .i64) y2 false),(3,.var [.own 5,.own 6]),(4,.row (.int .i64) x false),(5,.row (.int .i64) y6 false),(6,.row (.int .i64) y7 false)],7,118⟩)) (ind_ (by intros; rw [S.lp_zero]; exact none_c) ?_) ?_
 intro n ih; intros; rw [ref4_Turn.l2]; refine S.lp_succ ?_; conv => lhs; arg 5; whnf
 rotate_left
 intro w70_2
 refine cut_ (A := ∀ (n : Nat) {x1 : List Int} {x83 : Int} {x84 : Int} {y0_0 : List Int} {y0_1 : List Int} {y2 : List Int} {y4 : List Int} {y5 : List Int} {K : CK},S.lp tt (g70 k) lv70 0 n (loopN Tryz.f70 1) ⟨[(1,.dat (.int .i64) x1 true),(2,.ptr 0 0),(4,.ptr 1 0),(7,.own 2),(9,.ptr 3 0),(83,.i .i64 x83),(84,.i .i64 x84)],[(0,.var [.dat (.int .i64) y0_0 true,.dat (.int .i64) y0_1 true]),(1,.var [.nilsl,.nilsl]),(2,.row (.int .i64) y2 false),(3,.var [.own 4,.own 5]),(4,.row (.int .i64) y4 false),(5,.row (.int .i64) y5 false)],6,118⟩ K = bindO (ref4_Turn.l1 k n x1 x83 x84 y0_0 y0_1 y2 y4 y5) (fun x : (List Int) => K (.exit 2) ⟨[(4,.ptr 0 0),(9,.ptr 1 0)],[(0,.var [.nilsl,.nilsl]),(1,.var [.own 2,.own 3]),(2,.row (.int .i64) y4 false),(3,.row (.int .i64) x false)],4,118⟩)) (ind_ (by intros; rw [S.lp_zero]; exact none_c) ?_) ?_
 intro n ih; intros; rw [ref4_Turn.l1]; refine S.lp_succ ?_; conv => lhs; arg 5; whnf
 rotate_left
 intro w70_1
 refine ⟨?_,?_,?_⟩
 intro a0 a1
 unfold ref1_Index.f; refine S.run_s rfl rfl ?_; conv => lhs; arg 5; whnf
 conv => lhs; arg 6; whnf
 rotate_left
 intro a0_0 a0_1 a1
 unfold ref4_number.f; refine S.run_s rfl rfl ?_; conv => lhs; arg 5; whnf
 conv => lhs; arg 6; whnf
 rotate_left
 intro a0_0 a0_1 a1
 unfold ref4_Turn.f; refine S.run_s rfl rfl ?_; conv => lhs; arg 5; whnf
 conv => lhs; arg 6; whnf
 rotate_left
 all_goals repeat' first|(first|refine S.seq_op rfl ?_|refine S.op_n ?_|refine S.block_x ?_|refine br_lt ?_|refine br_lf ?_|refine br_t (by assumption) ?_|refine br_f (by assumption) ?_|refine req_i (by with_reducible assumption) ?_|refine br_nd (fun _=>?_) (fun _=>?_)|refine br_d (fun _=>?_) (fun _=>?_)|refine br_n (fun _=>?_) (fun _=>?_)|refine br_c (fun _=>?_) (fun _=>?_)|refine req_c fun _=>?_|refine req_i (by assumption) ?_|refine bnd_c fun _=>?_)<;>(conv=>lhs;whnf)|refine S.seq_nil ?_|refine S.reg_n ?_|refine S.region rfl ?_|refine S.two ?_|refine S.blok ?_|refine S.cond rfl ?_|refine S.after_n ?_|refine S.block_n ?_|refine S.block_r ?_|refine S.after_x ?_|refine S.after_r ?_|refine S.skip ?_|refine S.exit ?_|refine S.ret ?_|refine sum_c (fun _=>?_) (fun _=>?_)|refine S.region_d (id := 7) (ds := [0,0,3,7,15,31,63,63,255,511,63,63,3135,7231,16383,32767]) (mds := [[],[],[],[],[],[],[],[],[],[],[],[],[],[],[],[]]) (hm := []) (by kernel_rfl) (by kernel_rfl) rfl rfl ?_|refine S.region_d (id := 9) (ds := [0,0,0,6,14,31,0,0,192,448,1023,2047]) (mds := [[],[],[],[],[],[],[],[],[],[],[],[]]) (hm := []) (by kernel_rfl) (by kernel_rfl) rfl rfl ?_|exact ih|refine (w102_0 _).trans ?_|refine (w70_2 _).trans ?_|refine (w70_0 _).trans ?_|refine (w70_1 _).trans ?_|refine S.region_d (id := 1) (ds := [0,1,0,4,0,28,63,127,255]) (mds := [[],[],[],[],[],[],[],[],[]]) (hm := []) (by kernel_rfl) (by kernel_rfl) rfl rfl ?_|refine S.region_d (id := 13) (ds := [0,0,2,0,0,24,56,126,254,510,1023,2047]) (mds := [[],[],[],[],[],[],[],[],[],[],[3],[]]) (hm := [(10,[3])]) (by kernel_rfl) (by kernel_rfl) rfl rfl ?_|refine S.region_d (id := 24) (ds := [0,0,0,6,14,0,0,96,224,511,1023]) (mds := [[],[],[],[],[],[],[],[],[],[],[5]]) (hm := [(10,[5])]) (by kernel_rfl) (by kernel_rfl) rfl rfl ?_|refine S.region_d (id := 26) (ds := [0,1,0,0,0,24,63,127]) (mds := [[],[],[],[],[],[4,4],[],[6]]) (hm := [(5,[4,4]),(7,[6])]) (by kernel_rfl) (by kernel_rfl) rfl rfl ?_|(first|refine S.loop ?_|refine S.back_n ?_|refine S.back_x ?_|refine S.back_r ?_|refine S.fin_r ?_|refine S.fin_n ?_|refine S.dk_n ?_|refine S.draw_nil ?_)<;>(conv=>lhs;whnf)|exact ret_c rfl|exact none_c|(refine S.draw_op ?_; conv => lhs; whnf; arg 1; whnf)|refine andK_br ?_|refine andK_req ?_|refine andK_b ?_|refine andK_none ?_
theorem en102 (k : Nat) : EnvOK Tryz.prog (g102 k) := (envOK_add (snd49 k) (envOK_nil _))
theorem snd102 (k : Nat) : Sound Tryz.prog 102 (sp102 k) := by
 refine ⟨⟨Tryz.f102,Tryz.func102,by kernel_rfl,rfl⟩,fun args objs K r h => ?_⟩
 unfold sp102 at h; dsimp only at h; split at h
 ·rename_i v0 v1
  obtain ⟨a0,h9,ca0⟩ := listB_spec h; clear h
  have h := h9; clear h9
  obtain ⟨a1,h9,ca1⟩ := listB_spec h; clear h
  have h := h9; clear h9
  obtain ⟨x,hx,h⟩ := bindO_some h
  exact ⟨_,_,h,FnOK.args2 (relL_c ca0 (relL_c ca1 relL_n)) (fn_run tab_ok (en102 k) mixed Tryz.func102 (((lp4000 seals k).1 a0 a1).trans (bindO_eq hx)))⟩
 ·cases h
theorem en101 (k : Nat) : EnvOK Tryz.prog (g101 k) := (envOK_add (snd102 k) (envOK_nil _))
theorem snd101 (k : Nat) : Sound Tryz.prog 101 (sp101 k) := by
 refine ⟨⟨Tryz.f101,Tryz.func101,by kernel_rfl,rfl⟩,fun args objs K r h => ?_⟩
 unfold sp101 at h; dsimp only at h; split at h
 ·rename_i v0 v1 v2
  obtain ⟨a0_0,h9,ca0_0⟩ := listB_spec h; clear h
  have h := h9; clear h9
  obtain ⟨a0_1,h9,ca0_1⟩ := listB_spec h; clear h
  have h := h9; clear h9
  obtain ⟨a1,h9,ca1⟩ := listB_spec h; clear h
  have h := h9; clear h9
  obtain ⟨x,hx,h⟩ := bindO_some h
  exact ⟨_,_,h,FnOK.args2 (relL_c (rel_agg (relL_c ca0_0 (relL_c ca0_1 relL_n))) (relL_c ca1 relL_n)) (fn_run tab_ok (en101 k) mixed Tryz.func101 (((lp4000 seals k).2.1 a0_0 a0_1 a1).trans (bindO_eq hx)))⟩
 ·cases h
theorem en70 (k : Nat) : EnvOK Tryz.prog (g70 k) := (envOK_add (snd101 k) (envOK_add (snd97 k) (envOK_add (snd50 k) (envOK_add (snd100 k) (envOK_nil _)))))
theorem snd70 (k : Nat) : Sound Tryz.prog 70 (sp70 k) := by
 refine ⟨⟨Tryz.f70,Tryz.func70,by kernel_rfl,rfl⟩,fun args objs K r h => ?_⟩
 unfold sp70 at h; dsimp only at h; split at h
 ·rename_i v0 v1 v2
  obtain ⟨a0_0,h9,ca0_0⟩ := listB_spec h; clear h
  have h := h9; clear h9
  obtain ⟨a0_1,h9,ca0_1⟩ := listB_spec h; clear h
  have h := h9; clear h9
  obtain ⟨a1,h9,ca1⟩ := listB_spec h; clear h
  have h := h9; clear h9
  obtain ⟨x,hx,h⟩ := bindO_some h
  exact ⟨_,_,h,FnOK.args2 (relL_c (rel_agg (relL_c ca0_0 (relL_c ca0_1 relL_n))) (relL_c ca1 relL_n)) (fn_run tab_ok (en70 k) mixed Tryz.func70 (((lp4000 seals k).2.2 a0_0 a0_1 a1).trans (bindO_eq hx)))⟩
 ·cases h
def lv71 : Live := look ⟨[],[],[],[],[]⟩ [(6,⟨[1,2,3,6,31,32],[1,2,3,6],[6,7],[],[]⟩),(13,⟨[1,2,3,6,9,86,87],[6,9],[6,7],[],[]⟩),(18,⟨[1,2,3,6,9,10,11,12,86,87,94,95],[1,2,3,6,9,10,12,86,87],[6,7],[(12,0,.own (.int .i64))],[]⟩),(1000000,⟨[],[],[],[(6,0,.own (.int .i64)),(6,1,.own (.int .i64))],[]⟩)]
noncomputable def g71 (k : Nat) : FEnv := (addF 101 (sp101 k) (addF 97 (sp97 k) (addF 50 (sp50 k) (addF 49 (sp49 k) (addF 100 (sp100 k) (fun _=>none))))))
def sp71 (k : Nat) : FSpec := ⟨[.rd,.rd,.rd],fun args objs K => match args,objs with | [.agg [v0,v1],v2,v3],[] => listB (.int .i64) true v0 fun a0_0 => listB (.int .i64) true v1 fun a0_1 => listB (.int .i64) true v2 fun a1 => listB (.int .i64) true v3 fun a2 => bindO (ref4_Spread.f k a0_0 a0_1 a1 a2) fun x : Int × (List Int) × (List Int) => K (.tup [.agg [.own 0,.own 1],.i .i64 x.1]) [.row (.int .i64) x.2.1 false,.row (.int .i64) x.2.2 false] | _,_ => none⟩
theorem lp4001 (S : Seals) (k : Nat) : (∀ (a0_0 : List Int) (a0_1 : List Int) (a1 : List Int) (a2 : List Int),runF tt (g71 k) lv71 Tryz.f71 k [.agg [.dat (.int .i64) a0_0 true,.dat (.int .i64) a0_1 true],.dat (.int .i64) a1 true,.dat (.int .i64) a2 true] [] = bindO (ref4_Spread.f k a0_0 a0_1 a1 a2) (fun x : Int × (List Int) × (List Int) => some (.tup [.agg [.own 0,.own 1],.i .i64 x.1],[.row (.int .i64) x.2.1 false,.row (.int .i64) x.2.2 false]))) := by
 refine cut_ (A := ∀ (n : Nat) {x1 : List Int} {x2 : List Int} {x31 : Int} {x32 : Int} {y0_0 : List Int} {y0_1 : List Int} {K : CK},S.lp tt (g71 k) lv71 0 n (loopN Tryz.f71 0) ⟨[(1,.dat (.int .i64) x1 true),(2,.dat (.int .i64) x2 true),(3,.ptr 0 0),(6,.ptr 1 0),(31,.i .i64 x31),(32,.i .i64 x32)],[(0,.var [.dat (.int .i64) y0_0 true,.dat (.int .i64) y0_1 true]),(1,.var [.nilsl,.nilsl])],2,118⟩ K = bindO (ref4_Spread.l0 n x1 x2 x31 x32 y0_0 y0_1) (Sum.elim (fun x : Unit => K (.exit 0) ⟨[(1,.dat (.int .i64) x1 true),(2,.dat (.int .i64) x2 true),(3,.ptr 0 0),(6,.ptr 1 0)],[(0,.var [.dat (.int .i64) y0_0 true,.dat (.int .i64) y0_1 true]),(1,.var [.nilsl,.nilsl])],2,118⟩) (fun x : Int => K .ret ⟨[(6,.ptr 0 0),(7,.i .i64 x)],[(0,.var [.nilsl,.nilsl])],1,118⟩))) (ind_ (by intros; rw [S.lp_zero]; exact none_c) ?_) ?_
 intro n ih; intros; rw [ref4_Spread.l0]; refine S.lp_succ ?_; conv => lhs; arg 5; whnf
 rotate_left
 intro w71_0
 refine cut_ (A := ∀ (n : Nat) {x1 : List Int} {x2 : List Int} {x10 : Int} {x86 : Int} {x87 : Int} {x94 : Int} {x95 : Int} {y0_0 : List Int} {y0_1 : List Int} {y3 : List Int} {y4 : List Int} {y5 : List Int} {y6 : List Int} {K : CK},S.lp tt (g71 k) lv71 0 n (loopN Tryz.f71 2) ⟨[(1,.dat (.int .i64) x1 true),(2,.dat (.int .i64) x2 true),(3,.ptr 0 0),(6,.ptr 1 0),(9,.ptr 2 0),(10,.i .i64 x10),(11,.own 3),(12,.own 4),(86,.i .i64 x86),(87,.i .i64 x87),(94,.i .i64 x94),(95,.i .i64 x95)],[(0,.var [.dat (.int .i64) y0_0 true,.dat (.int .i64) y0_1 true]),(1,.var [.nilsl,.nilsl]),(2,.var [.own 5,.own 6]),(3,.row (.int .i64) y3 false),(4,.row (.int .i64) y4 false),(5,.row (.int .i64) y5 false),(6,.row (.int .i64) y6 false)],7,118⟩ K = bindO (ref4_Spread.l2 n x1 x2 x10 x86 x87 x94 x95 y0_0 y0_1 y3 y4 y5 y6) (fun x : (List Int) => K (.exit 4) ⟨[(1,.dat (.int .i64) x1 true),(2,.dat (.int .i64) x2 true),(3,.ptr 0 0),(6,.ptr 1 0),(9,.ptr 2 0),(10,.i .i64 x10),(12,.own 3),(86,.i .i64 x86),(87,.i .i64 x87)],[(0,.var [.dat (.int .i64) y0_0 true,.dat (.int .i64) y0_1 true]),(1,.var [.nilsl,.nilsl]),(2,.var [.own 4,.own 5]),(3,.row (.int .i64) x false),(4,.row (.int .i64) y5 false),(5,.row (.int .i64) y6 false)],6,118⟩)) (ind_ (by intros; rw [S.lp_zero]; exact none_c) ?_) ?_
 intro n ih; intros; rw [ref4_Spread.l2]; refine S.lp_succ ?_; conv => lhs; arg 5; whnf
 rotate_left
 intro w71_2
 refine cut_ (A := ∀ (n : Nat) {x1 : List Int} {x2 : List Int} {x86 : Int} {x87 : Int} {y0_0 : List Int} {y0_1 : List Int} {y3 : List Int} {y4 : List Int} {K : CK},S.lp tt (g71 k) lv71 0 n (loopN Tryz.f71 1) ⟨[(1,.dat (.int .i64) x1 true),(2,.dat (.int .i64) x2 true),(3,.ptr 0 0),(6,.ptr 1 0),(9,.ptr 2 0),(86,.i .i64 x86),(87,.i .i64 x87)],[(0,.var [.dat (.int .i64) y0_0 true,.dat (.int .i64) y0_1 true]),(1,.var [.nilsl,.nilsl]),(2,.var [.own 3,.own 4]),(3,.row (.int .i64) y3 false),(4,.row (.int .i64) y4 false)],5,118⟩ K = bindO (ref4_Spread.l1 k n x1 x2 x86 x87 y0_0 y0_1 y3 y4) (fun x : (List Int) => K (.exit 2) ⟨[(6,.ptr 0 0),(9,.ptr 1 0)],[(0,.var [.nilsl,.nilsl]),(1,.var [.own 2,.own 3]),(2,.row (.int .i64) y3 false),(3,.row (.int .i64) x false)],4,118⟩)) (ind_ (by intros; rw [S.lp_zero]; exact none_c) ?_) ?_
 intro n ih; intros; rw [ref4_Spread.l1]; refine S.lp_succ ?_; conv => lhs; arg 5; whnf
 rotate_left
 intro w71_1
 skip
 intro a0_0 a0_1 a1 a2
 unfold ref4_Spread.f; refine S.run_s rfl rfl ?_; conv => lhs; arg 5; whnf
 conv => lhs; arg 6; whnf
 rotate_left
 all_goals repeat' first|(first|refine S.seq_op rfl ?_|refine S.op_n ?_|refine S.block_x ?_|refine br_lt ?_|refine br_lf ?_|refine br_t (by assumption) ?_|refine br_f (by assumption) ?_|refine req_i (by with_reducible assumption) ?_|refine br_nd (fun _=>?_) (fun _=>?_)|refine br_d (fun _=>?_) (fun _=>?_)|refine br_n (fun _=>?_) (fun _=>?_)|refine br_c (fun _=>?_) (fun _=>?_)|refine req_c fun _=>?_|refine req_i (by assumption) ?_|refine bnd_c fun _=>?_)<;>(conv=>lhs;whnf)|refine S.seq_nil ?_|refine S.reg_n ?_|refine S.region rfl ?_|refine S.two ?_|refine S.blok ?_|refine S.cond rfl ?_|refine S.after_n ?_|refine S.block_n ?_|refine S.block_r ?_|refine S.after_x ?_|refine S.after_r ?_|refine S.skip ?_|refine S.exit ?_|refine S.ret ?_|refine sum_c (fun _=>?_) (fun _=>?_)|refine S.region_d (id := 8) (ds := [0,0,3,7,15,31,63,63,255,511,63,1087,4095,8191,16383,32767,65535,131071,262143,262143,786431,2097151,4194303,262143,262143,25427967,58982399,134217727,268435455,536870911,1073741823,2147483647,2147483647,2147483647,15032385535,32212254719,68719476735,137438953471,2147483647,277025390591,2147483647,1926292832255,4125316087807,8796093022207,17592186044415]) (mds := [[],[],[],[],[],[],[],[],[],[],[],[],[],[],[],[],[],[],[],[],[],[],[],[],[],[],[],[],[],[],[],[],[],[],[],[],[],[],[],[],[],[],[],[],[]]) (hm := []) (by kernel_rfl) (by kernel_rfl) rfl rfl ?_|exact ih|refine (w71_2 _).trans ?_|refine (w71_0 _).trans ?_|refine (w71_1 _).trans ?_|refine S.region_d (id := 22) (ds := [0,1,0,0,0,24,63,127]) (mds := [[],[],[],[],[],[3,3],[],[5]]) (hm := [(5,[3,3]),(7,[5])]) (by kernel_rfl) (by kernel_rfl) rfl rfl ?_|(first|refine S.loop ?_|refine S.back_n ?_|refine S.back_x ?_|refine S.back_r ?_|refine S.fin_r ?_|refine S.fin_n ?_|refine S.dk_n ?_|refine S.draw_nil ?_)<;>(conv=>lhs;whnf)|exact ret_c rfl|exact none_c|(refine S.draw_op ?_; conv => lhs; whnf; arg 1; whnf)|refine andK_br ?_|refine andK_req ?_|refine andK_b ?_|refine andK_none ?_
theorem en71 (k : Nat) : EnvOK Tryz.prog (g71 k) := (envOK_add (snd101 k) (envOK_add (snd97 k) (envOK_add (snd50 k) (envOK_add (snd49 k) (envOK_add (snd100 k) (envOK_nil _))))))
theorem snd71 (k : Nat) : Sound Tryz.prog 71 (sp71 k) := by
 refine ⟨⟨Tryz.f71,Tryz.func71,by kernel_rfl,rfl⟩,fun args objs K r h => ?_⟩
 unfold sp71 at h; dsimp only at h; split at h
 ·rename_i v0 v1 v2 v3
  obtain ⟨a0_0,h9,ca0_0⟩ := listB_spec h; clear h
  have h := h9; clear h9
  obtain ⟨a0_1,h9,ca0_1⟩ := listB_spec h; clear h
  have h := h9; clear h9
  obtain ⟨a1,h9,ca1⟩ := listB_spec h; clear h
  have h := h9; clear h9
  obtain ⟨a2,h9,ca2⟩ := listB_spec h; clear h
  have h := h9; clear h9
  obtain ⟨x,hx,h⟩ := bindO_some h
  exact ⟨_,_,h,FnOK.args2 (relL_c (rel_agg (relL_c ca0_0 (relL_c ca0_1 relL_n))) (relL_c ca1 (relL_c ca2 relL_n))) (fn_run tab_ok (en71 k) mixed Tryz.func71 (((lp4001 seals k) a0_0 a0_1 a1 a2).trans (bindO_eq hx)))⟩
 ·cases h
def lv72 : Live := look ⟨[],[],[],[],[]⟩ [(6,⟨[1,2,3,6,33,34],[1,2,3,6],[6,7],[],[]⟩),(13,⟨[1,2,3,6,9,84,85],[6,9],[6,7],[],[]⟩),(17,⟨[1,2,3,6,9,10,11,84,85,92,93],[1,2,3,6,9,10,11,84,85],[6,7],[],[]⟩),(1000000,⟨[],[],[],[(6,0,.own (.int .i64)),(6,1,.own (.int .i64))],[]⟩)]
noncomputable def g72 (k : Nat) : FEnv := (addF 101 (sp101 k) (addF 97 (sp97 k) (addF 50 (sp50 k) (addF 100 (sp100 k) (fun _=>none)))))
def sp72 (k : Nat) : FSpec := ⟨[.rd,.rd,.rd],fun args objs K => match args,objs with | [.agg [v0,v1],v2,v3],[] => listB (.int .i64) true v0 fun a0_0 => listB (.int .i64) true v1 fun a0_1 => listB (.int .i64) true v2 fun a1 => listB (.int .i64) true v3 fun a2 => bindO (ref4_Slice.f k a0_0 a0_1 a1 a2) fun x : Int × (List Int) × (List Int) => K (.tup [.agg [.own 0,.own 1],.i .i64 x.1]) [.row (.int .i64) x.2.1 false,.row (.int .i64) x.2.2 false] | _,_ => none⟩
theorem lp4002 (S : Seals) (k : Nat) : (∀ (a0_0 : List Int) (a0_1 : List Int) (a1 : List Int) (a2 : List Int),runF tt (g72 k) lv72 Tryz.f72 k [.agg [.dat (.int .i64) a0_0 true,.dat (.int .i64) a0_1 true],.dat (.int .i64) a1 true,.dat (.int .i64) a2 true] [] = bindO (ref4_Slice.f k a0_0 a0_1 a1 a2) (fun x : Int × (List Int) × (List Int) => some (.tup [.agg [.own 0,.own 1],.i .i64 x.1],[.row (.int .i64) x.2.1 false,.row (.int .i64) x.2.2 false]))) := by
 refine cut_ (A := ∀ (n : Nat) {x1 : List Int} {x2 : List Int} {x33 : Int} {x34 : Int} {y0_0 : List Int} {y0_1 : List Int} {K : CK},S.lp tt (g72 k) lv72 0 n (loopN Tryz.f72 0) ⟨[(1,.dat (.int .i64) x1 true),(2,.dat (.int .i64) x2 true),(3,.ptr 0 0),(6,.ptr 1 0),(33,.i .i64 x33),(34,.i .i64 x34)],[(0,.var [.dat (.int .i64) y0_0 true,.dat (.int .i64) y0_1 true]),(1,.var [.nilsl,.nilsl])],2,118⟩ K = bindO (ref4_Slice.l0 n x1 x2 x33 x34 y0_0 y0_1) (Sum.elim (fun x : Unit => K (.exit 0) ⟨[(1,.dat (.int .i64) x1 true),(2,.dat (.int .i64) x2 true),(3,.ptr 0 0),(6,.ptr 1 0)],[(0,.var [.dat (.int .i64) y0_0 true,.dat (.int .i64) y0_1 true]),(1,.var [.nilsl,.nilsl])],2,118⟩) (fun x : Int => K .ret ⟨[(6,.ptr 0 0),(7,.i .i64 x)],[(0,.var [.nilsl,.nilsl])],1,118⟩))) (ind_ (by intros; rw [S.lp_zero]; exact none_c) ?_) ?_
 intro n ih; intros; rw [ref4_Slice.l0]; refine S.lp_succ ?_; conv => lhs; arg 5; whnf
 rotate_left
 intro w72_0
 refine cut_ (A := ∀ (n : Nat) {x1 : List Int} {x2 : List Int} {x10 : Int} {x84 : Int} {x85 : Int} {x92 : Int} {x93 : Int} {y0_0 : List Int} {y0_1 : List Int} {y3 : List Int} {y4 : List Int} {y5 : List Int} {K : CK},S.lp tt (g72 k) lv72 0 n (loopN Tryz.f72 2) ⟨[(1,.dat (.int .i64) x1 true),(2,.dat (.int .i64) x2 true),(3,.ptr 0 0),(6,.ptr 1 0),(9,.ptr 2 0),(10,.i .i64 x10),(11,.own 3),(84,.i .i64 x84),(85,.i .i64 x85),(92,.i .i64 x92),(93,.i .i64 x93)],[(0,.var [.dat (.int .i64) y0_0 true,.dat (.int .i64) y0_1 true]),(1,.var [.nilsl,.nilsl]),(2,.var [.own 4,.own 5]),(3,.row (.int .i64) y3 false),(4,.row (.int .i64) y4 false),(5,.row (.int .i64) y5 false)],6,118⟩ K = bindO (ref4_Slice.l2 n x1 x2 x10 x84 x85 x92 x93 y0_0 y0_1 y3 y4 y5) (fun x : (List Int) => K (.exit 4) ⟨[(1,.dat (.int .i64) x1 true),(2,.dat (.int .i64) x2 true),(3,.ptr 0 0),(6,.ptr 1 0),(9,.ptr 2 0),(10,.i .i64 x10),(11,.own 3),(84,.i .i64 x84),(85,.i .i64 x85)],[(0,.var [.dat (.int .i64) y0_0 true,.dat (.int .i64) y0_1 true]),(1,.var [.nilsl,.nilsl]),(2,.var [.own 4,.own 5]),(3,.row (.int .i64) x false),(4,.row (.int .i64) y4 false),(5,.row (.int .i64) y5 false)],6,118⟩)) (ind_ (by intros; rw [S.lp_zero]; exact none_c) ?_) ?_
 intro n ih; intros; rw [ref4_Slice.l2]; refine S.lp_succ ?_; conv => lhs; arg 5; whnf
 rotate_left
 intro w72_2
 refine cut_ (A := ∀ (n : Nat) {x1 : List Int} {x2 : List Int} {x84 : Int} {x85 : Int} {y0_0 : List Int} {y0_1 : List Int} {y3 : List Int} {y4 : List Int} {K : CK},S.lp tt (g72 k) lv72 0 n (loopN Tryz.f72 1) ⟨[(1,.dat (.int .i64) x1 true),(2,.dat (.int .i64) x2 true),(3,.ptr 0 0),(6,.ptr 1 0),(9,.ptr 2 0),(84,.i .i64 x84),(85,.i .i64 x85)],[(0,.var [.dat (.int .i64) y0_0 true,.dat (.int .i64) y0_1 true]),(1,.var [.nilsl,.nilsl]),(2,.var [.own 3,.own 4]),(3,.row (.int .i64) y3 false),(4,.row (.int .i64) y4 false)],5,118⟩ K = bindO (ref4_Slice.l1 k n x1 x2 x84 x85 y0_0 y0_1 y3 y4) (fun x : (List Int) => K (.exit 2) ⟨[(6,.ptr 0 0),(9,.ptr 1 0)],[(0,.var [.nilsl,.nilsl]),(1,.var [.own 2,.own 3]),(2,.row (.int .i64) y3 false),(3,.row (.int .i64) x false)],4,118⟩)) (ind_ (by intros; rw [S.lp_zero]; exact none_c) ?_) ?_
 intro n ih; intros; rw [ref4_Slice.l1]; refine S.lp_succ ?_; conv => lhs; arg 5; whnf
 rotate_left
 intro w72_1
 skip
 intro a0_0 a0_1 a1 a2
 unfold ref4_Slice.f; refine S.run_s rfl rfl ?_; conv => lhs; arg 5; whnf
 conv => lhs; arg 6; whnf
 rotate_left
 all_goals repeat' first|(first|refine S.seq_op rfl ?_|refine S.op_n ?_|refine S.block_x ?_|refine br_lt ?_|refine br_lf ?_|refine br_t (by assumption) ?_|refine br_f (by assumption) ?_|refine req_i (by with_reducible assumption) ?_|refine br_nd (fun _=>?_) (fun _=>?_)|refine br_d (fun _=>?_) (fun _=>?_)|refine br_n (fun _=>?_) (fun _=>?_)|refine br_c (fun _=>?_) (fun _=>?_)|refine req_c fun _=>?_|refine req_i (by assumption) ?_|refine bnd_c fun _=>?_)<;>(conv=>lhs;whnf)|refine S.seq_nil ?_|refine S.reg_n ?_|refine S.region rfl ?_|refine S.two ?_|refine S.blok ?_|refine S.cond rfl ?_|refine S.after_n ?_|refine S.block_n ?_|refine S.block_r ?_|refine S.after_x ?_|refine S.after_r ?_|refine S.skip ?_|refine S.exit ?_|refine S.ret ?_|refine sum_c (fun _=>?_) (fun _=>?_)|refine S.region_d (id := 8) (ds := [0,0,3,7,15,31,63,63,255,511,1023,2047,4095,8191,8191,32767,65535,8191,139263,8191,925695,1974271,4194303,8388607,16777215,33554431,33554431,134217727,268435455,33554431,570425343,33554431,3791650815,8086618111,33554431,33554431,51573161983,120292638719,274374590463,549755813887,1099511627775]) (mds := [[],[],[],[],[],[],[],[],[],[],[],[],[],[],[],[],[],[],[],[],[],[],[],[],[],[],[],[],[],[],[],[],[],[],[],[],[],[],[],[],[]]) (hm := []) (by kernel_rfl) (by kernel_rfl) rfl rfl ?_|exact ih|refine (w72_2 _).trans ?_|refine (w72_0 _).trans ?_|refine (w72_1 _).trans ?_|refine S.region_d (id := 19) (ds := [0,0,0,0,12,28,0,0,192,448,1020,2047,4095]) (mds := [[],[],[],[],[],[],[],[],[],[],[],[],[3]]) (hm := [(12,[3])]) (by kernel_rfl) (by kernel_rfl) rfl rfl ?_|refine S.region_d (id := 21) (ds := [0,1,0,0,0,24,63,127]) (mds := [[],[],[],[],[],[3,3],[],[5]]) (hm := [(5,[3,3]),(7,[5])]) (by kernel_rfl) (by kernel_rfl) rfl rfl ?_|(first|refine S.loop ?_|refine S.back_n ?_|refine S.back_x ?_|refine S.back_r ?_|refine S.fin_r ?_|refine S.fin_n ?_|refine S.dk_n ?_|refine S.draw_nil ?_)<;>(conv=>lhs;whnf)|exact ret_c rfl|exact none_c|(refine S.draw_op ?_; conv => lhs; whnf; arg 1; whnf)|refine andK_br ?_|refine andK_req ?_|refine andK_b ?_|refine andK_none ?_
theorem en72 (k : Nat) : EnvOK Tryz.prog (g72 k) := (envOK_add (snd101 k) (envOK_add (snd97 k) (envOK_add (snd50 k) (envOK_add (snd100 k) (envOK_nil _)))))
theorem snd72 (k : Nat) : Sound Tryz.prog 72 (sp72 k) := by
 refine ⟨⟨Tryz.f72,Tryz.func72,by kernel_rfl,rfl⟩,fun args objs K r h => ?_⟩
 unfold sp72 at h; dsimp only at h; split at h
 ·rename_i v0 v1 v2 v3
  obtain ⟨a0_0,h9,ca0_0⟩ := listB_spec h; clear h
  have h := h9; clear h9
  obtain ⟨a0_1,h9,ca0_1⟩ := listB_spec h; clear h
  have h := h9; clear h9
  obtain ⟨a1,h9,ca1⟩ := listB_spec h; clear h
  have h := h9; clear h9
  obtain ⟨a2,h9,ca2⟩ := listB_spec h; clear h
  have h := h9; clear h9
  obtain ⟨x,hx,h⟩ := bindO_some h
  exact ⟨_,_,h,FnOK.args2 (relL_c (rel_agg (relL_c ca0_0 (relL_c ca0_1 relL_n))) (relL_c ca1 (relL_c ca2 relL_n))) (fn_run tab_ok (en72 k) mixed Tryz.func72 (((lp4002 seals k) a0_0 a0_1 a1 a2).trans (bindO_eq hx)))⟩
 ·cases h
def lv73 : Live := look ⟨[],[],[],[],[]⟩ [(7,⟨[1,2,3,4,8,10,36,37],[1,3,4,8,10],[8,9],[(10,0,.own (.int .i64))],[]⟩),(17,⟨[1,4,8,10,12,95,96],[8,12],[8,9],[],[]⟩),(21,⟨[1,4,8,10,12,13,14,95,96,104,105],[1,4,8,10,12,13,14,95,96],[8,9],[],[]⟩),(1000000,⟨[],[],[],[(8,0,.own (.int .i64)),(8,1,.own (.int .i64))],[]⟩)]
noncomputable def g73 (k : Nat) : FEnv := (addF 102 (sp102 k) (addF 97 (sp97 k) (addF 50 (sp50 k) (addF 49 (sp49 k) (addF 100 (sp100 k) (fun _=>none))))))
def sp73 (k : Nat) : FSpec := ⟨[.rd,.rd,.rd,.rd],fun args objs K => match args,objs with | [.agg [v0,v1],v2,v3,.i .i64 a3],[] => listB (.int .i64) true v0 fun a0_0 => listB (.int .i64) true v1 fun a0_1 => listB (.int .i64) true v2 fun a1 => listB (.int .i64) true v3 fun a2 => bindO (ref4_Pad.f k a0_0 a0_1 a1 a2 a3) fun x : Int × (List Int) × (List Int) => K (.tup [.agg [.own 0,.own 1],.i .i64 x.1]) [.row (.int .i64) x.2.1 false,.row (.int .i64) x.2.2 false] | _,_ => none⟩
theorem lp4003 (S : Seals) (k : Nat) : (∀ (a0_0 : List Int) (a0_1 : List Int) (a1 : List Int) (a2 : List Int) (a3 : Int),runF tt (g73 k) lv73 Tryz.f73 k [.agg [.dat (.int .i64) a0_0 true,.dat (.int .i64) a0_1 true],.dat (.int .i64) a1 true,.dat (.int .i64) a2 true,.i .i64 a3] [] = bindO (ref4_Pad.f k a0_0 a0_1 a1 a2 a3) (fun x : Int × (List Int) × (List Int) => some (.tup [.agg [.own 0,.own 1],.i .i64 x.1],[.row (.int .i64) x.2.1 false,.row (.int .i64) x.2.2 false]))) := by
 refine cut_ (A := ∀ (n : Nat) {x1 : List Int} {x2 : List Int} {x3 : Int} {x36 : Int} {x37 : Int} {y0_0 : List Int} {y0_1 : List Int} {y2 : List Int} {K : CK},S.lp tt (g73 k) lv73 0 n (loopN Tryz.f73 0) ⟨[(1,.dat (.int .i64) x1 true),(2,.dat (.int .i64) x2 true),(3,.i .i64 x3),(4,.ptr 0 0),(8,.ptr 1 0),(10,.own 2),(36,.i .i64 x36),(37,.i .i64 x37)],[(0,.var [.dat (.int .i64) y0_0 true,.dat (.int .i64) y0_1 true]),(1,.var [.nilsl,.nilsl]),(2,.row (.int .i64) y2 false)],3,134⟩ K = bindO (ref4_Pad.l0 n x1 x2 x3 x36 x37 y0_0 y0_1 y2) (Sum.elim (fun x : (List Int) => K (.exit 0) ⟨[(1,.dat (.int .i64) x1 true),(3,.i .i64 x3),(4,.ptr 0 0),(8,.ptr 1 0),(10,.own 2)],[(0,.var [.dat (.int .i64) y0_0 true,.dat (.int .i64) y0_1 true]),(1,.var [.nilsl,.nilsl]),(2,.row (.int .i64) x false)],3,134⟩) (fun x : Int => K .ret ⟨[(8,.ptr 0 0),(9,.i .i64 x)],[(0,.var [.nilsl,.nilsl])],1,134⟩))) (ind_ (by intros; rw [S.lp_zero]; exact none_c) ?_) ?_
 intro n ih; intros; rw [ref4_Pad.l0]; refine S.lp_succ ?_; conv => lhs; arg 5; whnf
 rotate_left
 intro w73_0
 refine cut_ (A := ∀ (n : Nat) {x1 : List Int} {x13 : Int} {x95 : Int} {x96 : Int} {x104 : Int} {x105 : Int} {y0_0 : List Int} {y0_1 : List Int} {y2 : List Int} {y4 : List Int} {y5 : List Int} {y6 : List Int} {K : CK},S.lp tt (g73 k) lv73 0 n (loopN Tryz.f73 2) ⟨[(1,.dat (.int .i64) x1 true),(4,.ptr 0 0),(8,.ptr 1 0),(10,.own 2),(12,.ptr 3 0),(13,.i .i64 x13),(14,.own 4),(95,.i .i64 x95),(96,.i .i64 x96),(104,.i .i64 x104),(105,.i .i64 x105)],[(0,.var [.dat (.int .i64) y0_0 true,.dat (.int .i64) y0_1 true]),(1,.var [.nilsl,.nilsl]),(2,.row (.int .i64) y2 false),(3,.var [.own 5,.own 6]),(4,.row (.int .i64) y4 false),(5,.row (.int .i64) y5 false),(6,.row (.int .i64) y6 false)],7,134⟩ K = bindO (ref4_Pad.l2 n x1 x13 x95 x96 x104 x105 y0_0 y0_1 y2 y4 y5 y6) (fun x : (List Int) => K (.exit 4) ⟨[(1,.dat (.int .i64) x1 true),(4,.ptr 0 0),(8,.ptr 1 0),(10,.own 2),(12,.ptr 3 0),(13,.i .i64 x13),(14,.own 4),(95,.i .i64 x95),(96,.i .i64 x96)],[(0,.var [.dat (.int .i64) y0_0 true,.dat (.int .i64) y0_1 true]),(1,.var [.nilsl,.nilsl]),(2,.row (.int .i64) y2 false),(3,.var [.own 5,.own 6]),(4,.row (.int .i64) x false),(5,.row (.int .i64) y5 false),(6,.row (.int .i64) y6 false)],7,134⟩)) (ind_ (by intros; rw [S.lp_zero]; exact none_c) ?_) ?_
 intro n ih; intros; rw [ref4_Pad.l2]; refine S.lp_succ ?_; conv => lhs; arg 5; whnf
 rotate_left
 intro w73_2
 refine cut_ (A := ∀ (n : Nat) {x1 : List Int} {x95 : Int} {x96 : Int} {y0_0 : List Int} {y0_1 : List Int} {y2 : List Int} {y4 : List Int} {y5 : List Int} {K : CK},S.lp tt (g73 k) lv73 0 n (loopN Tryz.f73 1) ⟨[(1,.dat (.int .i64) x1 true),(4,.ptr 0 0),(8,.ptr 1 0),(10,.own 2),(12,.ptr 3 0),(95,.i .i64 x95),(96,.i .i64 x96)],[(0,.var [.dat (.int .i64) y0_0 true,.dat (.int .i64) y0_1 true]),(1,.var [.nilsl,.nilsl]),(2,.row (.int .i64) y2 false),(3,.var [.own 4,.own 5]),(4,.row (.int .i64) y4 false),(5,.row (.int .i64) y5 false)],6,134⟩ K = bindO (ref4_Pad.l1 k n x1 x95 x96 y0_0 y0_1 y2 y4 y5) (fun x : (List Int) => K (.exit 2) ⟨[(8,.ptr 0 0),(12,.ptr 1 0)],[(0,.var [.nilsl,.nilsl]),(1,.var [.own 2,.own 3]),(2,.row (.int .i64) y4 false),(3,.row (.int .i64) x false)],4,134⟩)) (ind_ (by intros; rw [S.lp_zero]; exact none_c) ?_) ?_
 intro n ih; intros; rw [ref4_Pad.l1]; refine S.lp_succ ?_; conv => lhs; arg 5; whnf
 rotate_left
 intro w73_1
 skip
 intro a0_0 a0_1 a1 a2 a3
 unfold ref4_Pad.f; refine S.run_s rfl rfl ?_; conv => lhs; arg 5; whnf
 conv => lhs; arg 6; whnf
 rotate_left
 all_goals repeat' first|(first|refine S.seq_op rfl ?_|refine S.op_n ?_|refine S.block_x ?_|refine br_lt ?_|refine br_lf ?_|refine br_t (by assumption) ?_|refine br_f (by assumption) ?_|refine req_i (by with_reducible assumption) ?_|refine br_nd (fun _=>?_) (fun _=>?_)|refine br_d (fun _=>?_) (fun _=>?_)|refine br_n (fun _=>?_) (fun _=>?_)|refine br_c (fun _=>?_) (fun _=>?_)|refine req_c fun _=>?_|refine req_i (by assumption) ?_|refine bnd_c fun _=>?_)<;>(conv=>lhs;whnf)|refine S.seq_nil ?_|refine S.reg_n ?_|refine S.region rfl ?_|refine S.two ?_|refine S.blok ?_|refine S.cond rfl ?_|refine S.after_n ?_|refine S.block_n ?_|refine S.block_r ?_|refine S.after_x ?_|refine S.after_r ?_|refine S.skip ?_|refine S.exit ?_|refine S.ret ?_|refine sum_c (fun _=>?_) (fun _=>?_)|refine S.region_d (id := 11) (ds := [0,0,0,6,14,0,32,0,224,480,1022,0,0,6144,14336,32766,65534,131071,262143]) (mds := [[],[],[],[],[],[],[],[],[],[],[],[],[],[],[],[],[],[2],[]]) (hm := [(17,[2])]) (by kernel_rfl) (by kernel_rfl) rfl rfl ?_|exact ih|refine (w73_2 _).trans ?_|refine (w73_0 _).trans ?_|refine (w73_1 _).trans ?_|refine S.region_d (id := 23) (ds := [0,0,0,0,12,28,0,0,192,448,1020,2047,4095]) (mds := [[],[],[],[],[],[],[],[],[],[],[],[],[4]]) (hm := [(12,[4])]) (by kernel_rfl) (by kernel_rfl) rfl rfl ?_|refine S.region_d (id := 25) (ds := [0,1,0,0,12,0,32,0,224,480,1023,2047]) (mds := [[],[],[],[],[2,4,2,4],[],[],[],[],[],[],[6]]) (hm := [(4,[2,4,2,4]),(11,[6])]) (by kernel_rfl) (by kernel_rfl) rfl rfl ?_|(first|refine S.loop ?_|refine S.back_n ?_|refine S.back_x ?_|refine S.back_r ?_|refine S.fin_r ?_|refine S.fin_n ?_|refine S.dk_n ?_|refine S.draw_nil ?_)<;>(conv=>lhs;whnf)|exact ret_c rfl|exact none_c|(refine S.draw_op ?_; conv => lhs; whnf; arg 1; whnf)|refine andK_br ?_|refine andK_req ?_|refine andK_b ?_|refine andK_none ?_
theorem en73 (k : Nat) : EnvOK Tryz.prog (g73 k) := (envOK_add (snd102 k) (envOK_add (snd97 k) (envOK_add (snd50 k) (envOK_add (snd49 k) (envOK_add (snd100 k) (envOK_nil _))))))
theorem snd73 (k : Nat) : Sound Tryz.prog 73 (sp73 k) := by
 refine ⟨⟨Tryz.f73,Tryz.func73,by kernel_rfl,rfl⟩,fun args objs K r h => ?_⟩
 unfold sp73 at h; dsimp only at h; split at h
 ·rename_i v0 v1 v2 v3 a3
  obtain ⟨a0_0,h9,ca0_0⟩ := listB_spec h; clear h
  have h := h9; clear h9
  obtain ⟨a0_1,h9,ca0_1⟩ := listB_spec h; clear h
  have h := h9; clear h9
  obtain ⟨a1,h9,ca1⟩ := listB_spec h; clear h
  have h := h9; clear h9
  obtain ⟨a2,h9,ca2⟩ := listB_spec h; clear h
  have h := h9; clear h9
  obtain ⟨x,hx,h⟩ := bindO_some h
  exact ⟨_,_,h,FnOK.args2 (relL_c (rel_agg (relL_c ca0_0 (relL_c ca0_1 relL_n))) (relL_c ca1 (relL_c ca2 (relL_c rel_i relL_n)))) (fn_run tab_ok (en73 k) mixed Tryz.func73 (((lp4003 seals k) a0_0 a0_1 a1 a2 a3).trans (bindO_eq hx)))⟩
 ·cases h
def lv74 : Live := look ⟨[],[],[],[],[]⟩ [(2,⟨[0,1,4,16,17],[0,1,4],[4,5],[],[]⟩),(12,⟨[0,1,4,7,55,56],[0,1,4,7],[4,5],[],[]⟩),(17,⟨[0,1,4,7,8,55,56,70,71],[0,1,4,7,8,55,56],[4,5],[],[]⟩),(31,⟨[0,1,4,7,10,11,124,125],[4,10],[4,5],[],[]⟩),(34,⟨[0,1,4,7,10,11,12,124,125,133,134],[0,1,4,7,10,11,12,124,125],[4,5],[],[]⟩),(1000000,⟨[],[],[],[(4,0,.own (.int .i64)),(4,1,.own (.int .i64))],[]⟩)]
noncomputable def g74 (k : Nat) : FEnv := (addF 102 (sp102 k) (addF 97 (sp97 k) (addF 50 (sp50 k) (addF 49 (sp49 k) (addF 100 (sp100 k) (fun _=>none))))))
def sp74 (k : Nat) : FSpec := ⟨[.rd,.rd],fun args objs K => match args,objs with | [.i .i64 a0,v0],[] => listB (.pair (.sl (.int .i64)) (.sl (.int .i64))) true v0 fun a1 => bindO (ref4_Join.f k a0 a1) fun x : Int × (List Int) × (List Int) => K (.tup [.agg [.own 0,.own 1],.i .i64 x.1]) [.row (.int .i64) x.2.1 false,.row (.int .i64) x.2.2 false] | _,_ => none⟩
theorem lp4004 (S : Seals) (k : Nat) : (∀ (a0 : Int) (a1 : List ((List Int) × (List Int))),runF tt (g74 k) lv74 Tryz.f74 k [.i .i64 a0,.dat (.pair (.sl (.int .i64)) (.sl (.int .i64))) a1 true] [] = bindO (ref4_Join.f k a0 a1) (fun x : Int × (List Int) × (List Int) => some (.tup [.agg [.own 0,.own 1],.i .i64 x.1],[.row (.int .i64) x.2.1 false,.row (.int .i64) x.2.2 false]))) := by
 refine cut_ (A := ∀ (n : Nat) {x0 : Int} {x1 : List ((List Int) × (List Int))} {x16 : Int} {x17 : Int} {K : CK},S.lp tt (g74 k) lv74 0 n (loopN Tryz.f74 0) ⟨[(0,.i .i64 x0),(1,.dat (.pair (.sl (.int .i64)) (.sl (.int .i64))) x1 true),(4,.ptr 0 0),(16,.i .i64 x16),(17,.i .i64 x17)],[(0,.var [.nilsl,.nilsl])],1,180⟩ K = bindO (ref4_Join.l0 k n x0 x1 x16 x17) (Sum.elim (fun x : Unit => K (.exit 0) ⟨[(0,.i .i64 x0),(1,.dat (.pair (.sl (.int .i64)) (.sl (.int .i64))) x1 true),(4,.ptr 0 0)],[(0,.var [.nilsl,.nilsl])],1,180⟩) (fun x : Int => K .ret ⟨[(4,.ptr 0 0),(5,.i .i64 x)],[(0,.var [.nilsl,.nilsl])],1,180⟩))) (ind_ (by intros; rw [S.lp_zero]; exact none_c) ?_) ?_
 intro n ih; intros; rw [ref4_Join.l0]; refine S.lp_succ ?_; conv => lhs; arg 5; whnf
 rotate_left
 intro w74_0
 refine cut_ (A := ∀ (n : Nat) {x0 : Int} {x1 : List ((List Int) × (List Int))} {x8 : Int} {x55 : Int} {x56 : Int} {x70 : Int} {x71 : Int} {y1 : List Int} {K : CK},S.lp tt (g74 k) lv74 0 n (loopN Tryz.f74 2) ⟨[(0,.i .i64 x0),(1,.dat (.pair (.sl (.int .i64)) (.sl (.int .i64))) x1 true),(4,.ptr 0 0),(7,.own 1),(8,.i .i64 x8),(55,.i .i64 x55),(56,.i .i64 x56),(70,.i .i64 x70),(71,.i .i64 x71)],[(0,.var [.nilsl,.nilsl]),(1,.row (.int .i64) y1 false)],2,180⟩ K = bindO (ref4_Join.l2 n x0 x1 x8 x55 x56 x70 x71 y1) (Sum.elim (fun x : Unit => K (.exit 4) ⟨[(0,.i .i64 x0),(1,.dat (.pair (.sl (.int .i64)) (.sl (.int .i64))) x1 true),(4,.ptr 0 0),(7,.own 1),(8,.i .i64 x8),(55,.i .i64 x55),(56,.i .i64 x56)],[(0,.var [.nilsl,.nilsl]),(1,.row (.int .i64) y1 false)],2,180⟩) (fun x : Int => K .ret ⟨[(4,.ptr 0 0),(5,.i .i64 x)],[(0,.var [.nilsl,.nilsl])],1,180⟩))) (ind_ (by intros; rw [S.lp_zero]; exact none_c) ?_) ?_
 intro n ih; intros; rw [ref4_Join.l2]; refine S.lp_succ ?_; conv => lhs; arg 5; whnf
 rotate_left
 intro w74_2
 refine cut_ (A := ∀ (n : Nat) {x0 : Int} {x1 : List ((List Int) × (List Int))} {x55 : Int} {x56 : Int} {y1 : List Int} {K : CK},S.lp tt (g74 k) lv74 0 n (loopN Tryz.f74 1) ⟨[(0,.i .i64 x0),(1,.dat (.pair (.sl (.int .i64)) (.sl (.int .i64))) x1 true),(4,.ptr 0 0),(7,.own 1),(55,.i .i64 x55),(56,.i .i64 x56)],[(0,.var [.nilsl,.nilsl]),(1,.row (.int .i64) y1 false)],2,180⟩ K = bindO (ref4_Join.l1 k n x0 x1 x55 x56 y1) (Sum.elim (fun x : (List Int) => K (.exit 2) ⟨[(0,.i .i64 x0),(1,.dat (.pair (.sl (.int .i64)) (.sl (.int .i64))) x1 true),(4,.ptr 0 0),(7,.own 1)],[(0,.var [.nilsl,.nilsl]),(1,.row (.int .i64) x false)],2,180⟩) (fun x : Int => K .ret ⟨[(4,.ptr 0 0),(5,.i .i64 x)],[(0,.var [.nilsl,.nilsl])],1,180⟩))) (ind_ (by intros; rw [S.lp_zero]; exact none_c) ?_) ?_
 intro n ih; intros; rw [ref4_Join.l1]; refine S.lp_succ ?_; conv => lhs; arg 5; whnf
 rotate_left
 intro w74_1
 refine cut_ (A := ∀ (n : Nat) {x0 : Int} {x1 : List ((List Int) × (List Int))} {x11 : Int} {x12 : Int} {x124 : Int} {x125 : Int} {x133 : Int} {x134 : Int} {y1 : List Int} {y3 : List Int} {y4 : List Int} {K : CK},S.lp tt (g74 k) lv74 0 n (loopN Tryz.f74 4) ⟨[(0,.i .i64 x0),(1,.dat (.pair (.sl (.int .i64)) (.sl (.int .i64))) x1 true),(4,.ptr 0 0),(7,.own 1),(10,.ptr 2 0),(11,.i .i64 x11),(12,.i .i64 x12),(124,.i .i64 x124),(125,.i .i64 x125),(133,.i .i64 x133),(134,.i .i64 x134)],[(0,.var [.nilsl,.nilsl]),(1,.row (.int .i64) y1 false),(2,.var [.own 3,.own 4]),(3,.row (.int .i64) y3 false),(4,.row (.int .i64) y4 false)],5,180⟩ K = bindO (ref4_Join.l4 k n x0 x1 x11 x12 x124 x125 x133 x134 y1 y3 y4) (fun x : (List Int) => K (.exit 8) ⟨[(0,.i .i64 x0),(1,.dat (.pair (.sl (.int .i64)) (.sl (.int .i64))) x1 true),(4,.ptr 0 0),(7,.own 1),(10,.ptr 2 0),(11,.i .i64 x11),(12,.i .i64 x12),(124,.i .i64 x124),(125,.i .i64 x125)],[(0,.var [.nilsl,.nilsl]),(1,.row (.int .i64) y1 false),(2,.var [.own 3,.own 4]),(3,.row (.int .i64) y3 false),(4,.row (.int .i64) x false)],5,180⟩)) (ind_ (by intros; rw [S.lp_zero]; exact none_c) ?_) ?_
 intro n ih; intros; rw [ref4_Join.l4]; refine S.lp_succ ?_; conv => lhs; arg 5; whnf
 rotate_left
 intro w74_4
 refine cut_ (A := ∀ (n : Nat) {x0 : Int} {x1 : List ((List Int) × (List Int))} {x11 : Int} {x124 : Int} {x125 : Int} {y1 : List Int} {y3 : List Int} {y4 : List Int} {K : CK},S.lp tt (g74 k) lv74 0 n (loopN Tryz.f74 3) ⟨[(0,.i .i64 x0),(1,.dat (.pair (.sl (.int .i64)) (.sl (.int .i64))) x1 true),(4,.ptr 0 0),(7,.own 1),(10,.ptr 2 0),(11,.i .i64 x11),(124,.i .i64 x124),(125,.i .i64 x125)],[(0,.var [.nilsl,.nilsl]),(1,.row (.int .i64) y1 false),(2,.var [.own 3,.own 4]),(3,.row (.int .i64) y3 false),(4,.row (.int .i64) y4 false)],5,180⟩ K = bindO (ref4_Join.l3 k n x0 x1 x11 x124 x125 y1 y3 y4) (fun x : (List Int) => K (.exit 6) ⟨[(4,.ptr 0 0),(10,.ptr 1 0)],[(0,.var [.nilsl,.nilsl]),(1,.var [.own 2,.own 3]),(2,.row (.int .i64) y3 false),(3,.row (.int .i64) x false)],4,180⟩)) (ind_ (by intros; rw [S.lp_zero]; exact none_c) ?_) ?_
 intro n ih; intros; rw [ref4_Join.l3]; refine S.lp_succ ?_; conv => lhs; arg 5; whnf
 rotate_left
 intro w74_3
 skip
 intro a0 a1
 unfold ref4_Join.f; refine S.run_s rfl rfl ?_; conv => lhs; arg 5; whnf
 conv => lhs; arg 6; whnf
 rotate_left
 all_goals repeat' first|(first|refine S.seq_op rfl ?_|refine S.op_n ?_|refine S.block_x ?_|refine br_lt ?_|refine br_lf ?_|refine br_t (by assumption) ?_|refine br_f (by assumption) ?_|refine req_i (by with_reducible assumption) ?_|refine br_nd (fun _=>?_) (fun _=>?_)|refine br_d (fun _=>?_) (fun _=>?_)|refine br_n (fun _=>?_) (fun _=>?_)|refine br_c (fun _=>?_) (fun _=>?_)|refine req_c fun _=>?_|refine req_i (by assumption) ?_|refine bnd_c fun _=>?_)<;>(conv=>lhs;whnf)|refine S.seq_nil ?_|refine S.reg_n ?_|refine S.region rfl ?_|refine S.two ?_|refine S.blok ?_|refine S.cond rfl ?_|refine S.after_n ?_|refine S.block_n ?_|refine S.block_r ?_|refine S.after_x ?_|refine S.after_r ?_|refine S.skip ?_|refine S.exit ?_|refine S.ret ?_|refine sum_c (fun _=>?_) (fun _=>?_)|exact ih|refine (w74_2 _).trans ?_|refine (w74_4 _).trans ?_|refine (w74_0 _).trans ?_|refine (w74_1 _).trans ?_|refine (w74_3 _).trans ?_|refine S.region_d (id := 19) (ds := [0,0,3,7,15,15,63,127,255,15,1023,2047,15,15,12303,28687,65535,131071]) (mds := [[],[],[],[],[],[],[],[],[],[],[],[],[],[],[],[],[],[]]) (hm := []) (by kernel_rfl) (by kernel_rfl) rfl rfl ?_|refine S.region_d (id := 22) (ds := [0,0,0,0,12,28,0,0,192,448,960,0,4032,8128,16380,32767,65535]) (mds := [[],[],[],[],[],[],[],[],[],[],[],[],[],[],[],[],[1]]) (hm := [(16,[1])]) (by kernel_rfl) (by kernel_rfl) rfl rfl ?_|refine S.region_d (id := 38) (ds := [0,1,0,0,12,0,0,96,224,480,0,2016,4064,8191,16383]) (mds := [[],[],[],[],[1,5,1,5],[],[],[],[],[],[],[],[],[],[4]]) (hm := [(4,[1,5,1,5]),(14,[4])]) (by kernel_rfl) (by kernel_rfl) rfl rfl ?_|(first|refine S.loop ?_|refine S.back_n ?_|refine S.back_x ?_|refine S.back_r ?_|refine S.fin_r ?_|refine S.fin_n ?_|refine S.dk_n ?_|refine S.draw_nil ?_)<;>(conv=>lhs;whnf)|exact ret_c rfl|exact none_c|(refine S.draw_op ?_; conv => lhs; whnf; arg 1; whnf)|refine andK_br ?_|refine andK_req ?_|refine andK_b ?_|refine andK_none ?_
theorem en74 (k : Nat) : EnvOK Tryz.prog (g74 k) := (envOK_add (snd102 k) (envOK_add (snd97 k) (envOK_add (snd50 k) (envOK_add (snd49 k) (envOK_add (snd100 k) (envOK_nil _))))))
theorem snd74 (k : Nat) : Sound Tryz.prog 74 (sp74 k) := by
 refine ⟨⟨Tryz.f74,Tryz.func74,by kernel_rfl,rfl⟩,fun args objs K r h => ?_⟩
 unfold sp74 at h; dsimp only at h; split at h
 ·rename_i a0 v0
  obtain ⟨a1,h9,ca1⟩ := listB_spec h; clear h
  have h := h9; clear h9
  obtain ⟨x,hx,h⟩ := bindO_some h
  exact ⟨_,_,h,FnOK.args2 (relL_c rel_i (relL_c ca1 relL_n)) (fn_run tab_ok (en74 k) mixed Tryz.func74 (((lp4004 seals k) a0 a1).trans (bindO_eq hx)))⟩
 ·cases h
def lv103 : Live := look ⟨[],[],[],[],[]⟩ [(1000000,⟨[],[],[],[(6,0,.own (.int .i64))],[]⟩)]
noncomputable def g103 (k : Nat) : FEnv := (addF 42 (sp42 k) (addF 49 (sp49 k) (fun _=>none)))
def sp103 (k : Nat) : FSpec := ⟨[.rd,.rd,.rd],fun args objs K => match args,objs with | [v0,v1,.i .i64 a2],[] => listB (.int .i64) true v0 fun a0 => listB (.int .i64) true v1 fun a1 => bindO (ref4_DotShape.f k a0 a1 a2) fun x : Int × (List Int) => K (.tup [.own 0,.i .i64 x.1]) [.row (.int .i64) x.2 false] | _,_ => none⟩
theorem lp4005 (S : Seals) (k : Nat) : (∀ (a0 : List Int) (a1 : List Int) (a2 : Int),runF tt (g103 k) lv103 Tryz.f103 k [.dat (.int .i64) a0 true,.dat (.int .i64) a1 true,.i .i64 a2] [] = bindO (ref4_DotShape.f k a0 a1 a2) (fun x : Int × (List Int) => some (.tup [.own 0,.i .i64 x.1],[.row (.int .i64) x.2 false]))) := by
 skip
 intro a0 a1 a2
 unfold ref4_DotShape.f; refine S.run_s rfl rfl ?_; conv => lhs; arg 5; whnf
 conv => lhs; arg 6; whnf
 all_goals repeat' first|(first|refine S.seq_op rfl ?_|refine S.op_n ?_|refine S.block_x ?_|refine br_lt ?_|refine br_lf ?_|refine br_t (by assumption) ?_|refine br_f (by assumption) ?_|refine req_i (by with_reducible assumption) ?_|refine br_nd (fun _=>?_) (fun _=>?_)|refine br_d (fun _=>?_) (fun _=>?_)|refine br_n (fun _=>?_) (fun _=>?_)|refine br_c (fun _=>?_) (fun _=>?_)|refine req_c fun _=>?_|refine req_i (by assumption) ?_|refine bnd_c fun _=>?_)<;>(conv=>lhs;whnf)|refine S.seq_nil ?_|refine S.reg_n ?_|refine S.region rfl ?_|refine S.two ?_|refine S.blok ?_|refine S.cond rfl ?_|refine S.after_n ?_|refine S.block_n ?_|refine S.block_r ?_|refine S.after_x ?_|refine S.after_r ?_|refine S.skip ?_|refine S.exit ?_|refine S.ret ?_|refine sum_c (fun _=>?_) (fun _=>?_)|refine S.region_d (id := 3) (ds := [0,1,3,7,15,31,63,127,255,511,511,2047,511,511,12799,32767,65535,131071,262143,524287,524287,1572863,3670015,8388607,16777215,524287,524287,101187583,235405311,536870911,1073741823]) (mds := [[],[],[],[],[],[],[],[],[],[],[],[],[],[],[],[],[],[],[],[],[],[],[],[],[],[],[],[],[],[],[]]) (hm := []) (by kernel_rfl) (by kernel_rfl) rfl rfl ?_|refine S.region_d (id := 5) (ds := [0,0,0,4,12,30,63,0,0,256,896,2047,4095]) (mds := [[],[],[],[],[],[],[],[],[],[],[],[],[]]) (hm := []) (by kernel_rfl) (by kernel_rfl) rfl rfl ?_|(first|refine S.loop ?_|refine S.back_n ?_|refine S.back_x ?_|refine S.back_r ?_|refine S.fin_r ?_|refine S.fin_n ?_|refine S.dk_n ?_|refine S.draw_nil ?_)<;>(conv=>lhs;whnf)|exact ret_c rfl|exact none_c|(refine S.draw_op ?_; conv => lhs; whnf; arg 1; whnf)|refine andK_br ?_|refine andK_req ?_|refine andK_b ?_|refine andK_none ?_
theorem en103 (k : Nat) : EnvOK Tryz.prog (g103 k) := (envOK_add (snd42 k) (envOK_add (snd49 k) (envOK_nil _)))
theorem snd103 (k : Nat) : Sound Tryz.prog 103 (sp103 k) := by
 refine ⟨⟨Tryz.f103,Tryz.func103,by kernel_rfl,rfl⟩,fun args objs K r h => ?_⟩
 unfold sp103 at h; dsimp only at h; split at h
 ·rename_i v0 v1 a2
  obtain ⟨a0,h9,ca0⟩ := listB_spec h; clear h
  have h := h9; clear h9
  obtain ⟨a1,h9,ca1⟩ := listB_spec h; clear h
  have h := h9; clear h9
  obtain ⟨x,hx,h⟩ := bindO_some h
  exact ⟨_,_,h,FnOK.args2 (relL_c ca0 (relL_c ca1 (relL_c rel_i relL_n))) (fn_run tab_ok (en103 k) mixed Tryz.func103 (((lp4005 seals k) a0 a1 a2).trans (bindO_eq hx)))⟩
 ·cases h
end Go.Vm
