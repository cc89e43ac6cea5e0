/- Own texts put together: the walks -/
import Derived.Test.YtjbpaoieanfffaaGreatWk0
import Derived.Test.YtjbpaoieanfffaaGreatWk3
import Derived.Test.YtjbpaoieanfffaaGreatWk4
set_option linter.unusedVariables false
set_option maxRecDepth 60000
set_option maxHeartbeats 40000000
namespace Go.Vm
open Go Go.Proofs Go.Pf

def lv75 : Live := look ⟨[],[],[],[],[]⟩ [(9,⟨[2,3,4,6,8,10,11,47,48],[6,10],[6,7],[],[]⟩),(13,⟨[2,3,4,6,8,10,11,12,13,14,47,48],[2,3,4,6,8,10,11,47,48],[6,7],[],[]⟩),(1000000,⟨[],[],[],[(6,0,.own (.int .i64)),(6,1,.own (.int .i64))],[]⟩)]
noncomputable def g75 (k : Nat) : FEnv := (addF 101 (sp101 k) (addF 97 (sp97 k) (addF 50 (sp50 k) (addF 103 (sp103 k) (addF 100 (sp100 k) (fun _=>none))))))
def sp75 (k : Nat) : FSpec := ⟨[.rd,.rd,.rd],fun args objs K => match args,objs with | [.agg [v0,v1],.agg [v2,v3],.i .i64 a2],[] => listB (.int .i64) true v0 fun a0_0 => listB (.int .i64) true v1 fun a0_1 => listB (.int .i64) true v2 fun a1_0 => listB (.int .i64) true v3 fun a1_1 => bindO (ref4_Dot.f k a0_0 a0_1 a1_0 a1_1 a2) fun x : Int × (List Int) × (List Int) => K (.tup [.agg [.own 0,.own 1],.i .i64 x.1]) [.row (.int .i64) x.2.1 false,.row (.int .i64) x.2.2 false] | _,_ => none⟩
def lv104 : Live := look ⟨[],[],[],[],[]⟩ []
noncomputable def g104 : FEnv := (fun _=>none)
def sp104 : FSpec := ⟨[.rd],fun args objs K => match args,objs with | [.i .i64 a0],[] => bindO (ref4_How.f a0) fun x : Bool => K (.b x) [] | _,_ => none⟩
theorem lp5000 (S : Seals) (k : Nat) : (∀ (a0_0 : List Int) (a0_1 : List Int) (a1_0 : List Int) (a1_1 : List Int) (a2 : Int),runF tt (g75 k) lv75 Tryz.f75 k [.agg [.dat (.int .i64) a0_0 true,.dat (.int .i64) a0_1 true],.agg [.dat (.int .i64) a1_0 true,.dat (.int .i64) a1_1 true],.i .i64 a2] [] = bindO (ref4_Dot.f k a0_0 a0_1 a1_0 a1_1 a2) (fun x : Int × (List Int) × (List Int) => some (.tup [.agg [.own 0,.own 1],.i .i64 x.1],[.row (.int .i64) x.2.1 false,.row (.int .i64) x.2.2 false]))) ∧ (∀ (a0 : Int),runF tt (g104) lv104 Tryz.f104 k [.i .i64 a0] [] = bindO (ref4_How.f a0) (fun x : Bool => some (.b x,[]))) := by
 refine cut_ (A := ∀ (n : Nat) {x2 : Int} {x11 : Int} {x12 : Int} {x14 : Int} {x47 : Int} {x48 : Int} {y0_0 : List Int} {y0_1 : List Int} {y1_0 : List Int} {y1_1 : List Int} {y3 : List Int} {y5 : List Int} {y6 : List Int} {y7 : List Int} {K : CK},S.lp tt (g75 k) lv75 0 n (loopN Tryz.f75 1) ⟨[(2,.i .i64 x2),(3,.ptr 0 0),(4,.ptr 1 0),(6,.ptr 2 0),(8,.own 3),(10,.ptr 4 0),(11,.i .i64 x11),(12,.i .i64 x12),(13,.own 5),(14,.i .i64 x14),(47,.i .i64 x47),(48,.i .i64 x48)],[(0,.var [.dat (.int .i64) y0_0 true,.dat (.int .i64) y0_1 true]),(1,.var [.dat (.int .i64) y1_0 true,.dat (.int .i64) y1_1 true]),(2,.var [.nilsl,.nilsl]),(3,.row (.int .i64) y3 false),(4,.var [.own 6,.own 7]),(5,.row (.int .i64) y5 false),(6,.row (.int .i64) y6 false),(7,.row (.int .i64) y7 false)],8,102⟩ K = bindO (ref4_Dot.l1 k n x2 x11 x12 x14 x47 x48 y0_0 y0_1 y1_0 y1_1 y3 y5 y6 y7) (fun x : (List Int) => K (.exit 2) ⟨[(2,.i .i64 x2),(3,.ptr 0 0),(4,.ptr 1 0),(6,.ptr 2 0),(8,.own 3),(10,.ptr 4 0),(11,.i .i64 x11),(47,.i .i64 x47),(48,.i .i64 x48)],[(0,.var [.dat (.int .i64) y0_0 true,.dat (.int .i64) y0_1 true]),(1,.var [.dat (.int .i64) y1_0 true,.dat (.int .i64) y1_1 true]),(2,.var [.nilsl,.nilsl]),(3,.row (.int .i64) y3 false),(4,.var [.own 5,.own 6]),(5,.row (.int .i64) y6 false),(6,.row (.int .i64) x false)],7,102⟩)) (ind_ (by intros; rw [S.lp_zero]; exact none_c) ?_) ?_
 intro n ih; intros; rw [ref4_Dot.l1]; refine S.lp_succ ?_; conv => lhs; arg 5; whnf
 rotate_left
 intro w75_1
 refine cut_ (A := ∀ (n : Nat) {x2 : Int} {x11 : Int} {x47 : Int} {x48 : Int} {y0_0 : List Int} {y0_1 : List Int} {y1_0 : List Int} {y1_1 : List Int} {y3 : List Int} {y5 : List Int} {y6 : List Int} {K : CK},S.lp tt (g75 k) lv75 0 n (loopN Tryz.f75 0) ⟨[(2,.i .i64 x2),(3,.ptr 0 0),(4,.ptr 1 0),(6,.ptr 2 0),(8,.own 3),(10,.ptr 4 0),(11,.i .i64 x11),(47,.i .i64 x47),(48,.i .i64 x48)],[(0,.var [.dat (.int .i64) y0_0 true,.dat (.int .i64) y0_1 true]),(1,.var [.dat (.int .i64) y1_0 true,.dat (.int .i64) y1_1 true]),(2,.var [.nilsl,.nilsl]),(3,.row (.int .i64) y3 false),(4,.var [.own 5,.own 6]),(5,.row (.int .i64) y5 false),(6,.row (.int .i64) y6 false)],7,102⟩ K = bindO (ref4_Dot.l0 k n x2 x11 x47 x48 y0_0 y0_1 y1_0 y1_1 y3 y5 y6) (fun x : (List Int) => K (.exit 0) ⟨[(6,.ptr 0 0),(10,.ptr 1 0)],[(0,.var [.nilsl,.nilsl]),(1,.var [.own 2,.own 3]),(2,.row (.int .i64) y5 false),(3,.row (.int .i64) x false)],4,102⟩)) (ind_ (by intros; rw [S.lp_zero]; exact none_c) ?_) ?_
 intro n ih; intros; rw [ref4_Dot.l0]; refine S.lp_succ ?_; conv => lhs; arg 5; whnf
 rotate_left
 intro w75_0
 refine ⟨?_,?_⟩
 intro a0_0 a0_1 a1_0 a1_1 a2
 unfold ref4_Dot.f; refine S.run_s rfl rfl ?_; conv => lhs; arg 5; whnf
 conv => lhs; arg 6; whnf
 rotate_left
 intro a0
 unfold ref4_How.f; refine S.run_s rfl rfl ?_; conv => lhs; arg 5; whnf
 conv => lhs; arg 6; whnf
 rotate_left
 all_goals repeat' first|(first|refine S.seq_op rfl ?_|refine S.op_n ?_|refine S.block_x ?_|refine br_lt ?_|refine br_lf ?_|refine br_t (by assumption) ?_|refine br_f (by assumption) ?_|refine req_i (by with_reducible assumption) ?_|refine br_nd (fun _=>?_) (fun _=>?_)|refine br_d (fun _=>?_) (fun _=>?_)|refine br_n (fun _=>?_) (fun _=>?_)|refine br_c (fun _=>?_) (fun _=>?_)|refine req_c fun _=>?_|refine req_i (by assumption) ?_|refine bnd_c fun _=>?_)<;>(conv=>lhs;whnf)|refine S.seq_nil ?_|refine S.reg_n ?_|refine S.region rfl ?_|refine S.two ?_|refine S.blok ?_|refine S.cond rfl ?_|refine S.after_n ?_|refine S.block_n ?_|refine S.block_r ?_|refine S.after_x ?_|refine S.after_r ?_|refine S.skip ?_|refine S.exit ?_|refine S.ret ?_|refine sum_c (fun _=>?_) (fun _=>?_)|refine S.region_d (id := 16) (ds := [0,0,0,6,15,0,32,127,0,0,768,2047,4095]) (mds := [[],[],[],[],[],[],[],[],[],[],[],[],[]]) (hm := []) (by kernel_rfl) (by kernel_rfl) rfl rfl ?_|refine S.region_d (id := 17) (ds := [0,1,0,0,8,0,56,120,0,0,768,0,0,7936,16128,32760,65535,131071]) (mds := [[],[],[],[],[],[],[],[],[],[],[11,11],[],[],[16,16],[],[],[],[7]]) (hm := [(10,[11,11]),(13,[16,16]),(17,[7])]) (by kernel_rfl) (by kernel_rfl) rfl rfl ?_|exact ih|refine (w75_1 _).trans ?_|refine (w75_0 _).trans ?_|(first|refine S.loop ?_|refine S.back_n ?_|refine S.back_x ?_|refine S.back_r ?_|refine S.fin_r ?_|refine S.fin_n ?_|refine S.dk_n ?_|refine S.draw_nil ?_)<;>(conv=>lhs;whnf)|exact ret_c rfl|exact none_c|(refine S.draw_op ?_; conv => lhs; whnf; arg 1; whnf)|refine andK_br ?_|refine andK_req ?_|refine andK_b ?_|refine andK_none ?_
theorem en75 (k : Nat) : EnvOK Tryz.prog (g75 k) := (envOK_add (snd101 k) (envOK_add (snd97 k) (envOK_add (snd50 k) (envOK_add (snd103 k) (envOK_add (snd100 k) (envOK_nil _))))))
theorem snd75 (k : Nat) : Sound Tryz.prog 75 (sp75 k) := by
 refine ⟨⟨Tryz.f75,Tryz.func75,by kernel_rfl,rfl⟩,fun args objs K r h => ?_⟩
 unfold sp75 at h; dsimp only at h; split at h
 ·rename_i v0 v1 v2 v3 a2
  obtain ⟨a0_0,h9,ca0_0⟩ := listB_spec h; clear h
  have h := h9; clear h9
  obtain ⟨a0_1,h9,ca0_1⟩ := listB_spec h; clear h
  have h := h9; clear h9
  obtain ⟨a1_0,h9,ca1_0⟩ := listB_spec h; clear h
  have h := h9; clear h9
  obtain ⟨a1_1,h9,ca1_1⟩ := listB_spec h; clear h
  have h := h9; clear h9
  obtain ⟨x,hx,h⟩ := bindO_some h
  exact ⟨_,_,h,FnOK.args2 (relL_c (rel_agg (relL_c ca0_0 (relL_c ca0_1 relL_n))) (relL_c (rel_agg (relL_c ca1_0 (relL_c ca1_1 relL_n))) (relL_c rel_i relL_n))) (fn_run tab_ok (en75 k) mixed Tryz.func75 (((lp5000 seals k).1 a0_0 a0_1 a1_0 a1_1 a2).trans (bindO_eq hx)))⟩
 ·cases h
theorem en104 : EnvOK Tryz.prog (g104) := (envOK_nil _)
theorem snd104 : Sound Tryz.prog 104 (sp104) := by
 refine ⟨⟨Tryz.f104,Tryz.func104,by kernel_rfl,rfl⟩,fun args objs K r h => ?_⟩
 unfold sp104 at h; dsimp only at h; split at h
 ·rename_i a0
  obtain ⟨x,hx,h⟩ := bindO_some h
  exact ⟨_,_,h,FnOK.args2 (relL_c rel_i relL_n) (fn_run tab_ok (en104) mixed Tryz.func104 (((lp5000 seals 0).2 a0).trans (bindO_eq hx)))⟩
 ·cases h
def lv105 : Live := look ⟨[],[],[],[],[]⟩ [(2,⟨[0,1,7,8],[],[4],[],[]⟩)]
noncomputable def g105 : FEnv := (fun _=>none)
def sp105 (k : Nat) : FSpec := ⟨[.rd,.rd],fun args objs K => match args,objs with | [v0,.i .i64 a1],[] => listB (.int .i64) true v0 fun a0 => bindO (ref4_rising.f k a0 a1) fun x : Bool => K (.b x) [] | _,_ => none⟩
def lv106 : Live := look ⟨[],[],[],[],[]⟩ [(2,⟨[0,1,7,8],[],[4],[],[]⟩)]
noncomputable def g106 : FEnv := (fun _=>none)
def sp106 (k : Nat) : FSpec := ⟨[.rd,.rd],fun args objs K => match args,objs with | [v0,.i .i64 a1],[] => listB (.int .i64) true v0 fun a0 => bindO (ref4_has.f k a0 a1) fun x : Bool => K (.b x) [] | _,_ => none⟩
def lv107 : Live := look ⟨[],[],[],[],[]⟩ []
noncomputable def g107 : FEnv := (fun _=>none)
def sp107 : FSpec := ⟨[.rd],fun args objs K => match args,objs with | [.i .i64 a0],[] => bindO (ref4_None.f a0) fun x : Int => K (.i .i64 x) [] | _,_ => none⟩
def lv108 : Live := look ⟨[],[],[],[],[]⟩ []
noncomputable def g108 : FEnv := (fun _=>none)
def sp108 : FSpec := ⟨[.rd,.rd,.rd],fun args objs K => match args,objs with | [.i .i64 a0,.i .i64 a1,.i .i64 a2],[] => bindO (ref4_Put.f a0 a1 a2) fun x : Int => K (.i .i64 x) [] | _,_ => none⟩
theorem lp5001 (S : Seals) (k : Nat) : (∀ (a0 : List Int) (a1 : Int),runF tt (g105) lv105 Tryz.f105 k [.dat (.int .i64) a0 true,.i .i64 a1] [] = bindO (ref4_rising.f k a0 a1) (fun x : Bool => some (.b x,[]))) ∧ (∀ (a0 : List Int) (a1 : Int),runF tt (g106) lv106 Tryz.f106 k [.dat (.int .i64) a0 true,.i .i64 a1] [] = bindO (ref4_has.f k a0 a1) (fun x : Bool => some (.b x,[]))) ∧ (∀ (a0 : Int),runF tt (g107) lv107 Tryz.f107 k [.i .i64 a0] [] = bindO (ref4_None.f a0) (fun x : Int => some (.i .i64 x,[]))) ∧ (∀ (a0 : Int) (a1 : Int) (a2 : Int),runF tt (g108) lv108 Tryz.f108 k [.i .i64 a0,.i .i64 a1,.i .i64 a2] [] = bindO (ref4_Put.f a0 a1 a2) (fun x : Int => some (.i .i64 x,[]))) := by
 refine cut_ (A := ∀ (n : Nat) {x0 : List Int} {x1 : Int} {x7 : Int} {x8 : Int} {K : CK},S.lp tt (g105) lv105 0 n (loopN Tryz.f105 0) ⟨[(0,.dat (.int .i64) x0 true),(1,.i .i64 x1),(7,.i .i64 x7),(8,.i .i64 x8)],[],0,41⟩ K = bindO (ref4_rising.l0 n x0 x1 x7 x8) (Sum.elim (fun x : Unit => K (.exit 0) ⟨[],[],0,41⟩) (fun x : Bool => K .ret ⟨[(4,.b x)],[],0,41⟩))) (ind_ (by intros; rw [S.lp_zero]; exact none_c) ?_) ?_
 intro n ih; intros; rw [ref4_rising.l0]; refine S.lp_succ ?_; conv => lhs; arg 5; whnf
 rotate_left
 intro w105_0
 refine cut_ (A := ∀ (n : Nat) {x0 : List Int} {x1 : Int} {x7 : Int} {x8 : Int} {K : CK},S.lp tt (g106) lv106 0 n (loopN Tryz.f106 0) ⟨[(0,.dat (.int .i64) x0 true),(1,.i .i64 x1),(7,.i .i64 x7),(8,.i .i64 x8)],[],0,18⟩ K = bindO (ref4_has.l0 n x0 x1 x7 x8) (Sum.elim (fun x : Unit => K (.exit 0) ⟨[],[],0,18⟩) (fun x : Bool => K .ret ⟨[(4,.b x)],[],0,18⟩))) (ind_ (by intros; rw [S.lp_zero]; exact none_c) ?_) ?_
 intro n ih; intros; rw [ref4_has.l0]; refine S.lp_succ ?_; conv => lhs; arg 5; whnf
 rotate_left
 intro w106_0
 refine ⟨?_,?_,?_,?_⟩
 intro a0 a1
 unfold ref4_rising.f; refine S.run_s rfl rfl ?_; conv => lhs; arg 5; whnf
 conv => lhs; arg 6; whnf
 rotate_left
 intro a0 a1
 unfold ref4_has.f; refine S.run_s rfl rfl ?_; conv => lhs; arg 5; whnf
 conv => lhs; arg 6; whnf
 rotate_left
 intro a0
 unfold ref4_None.f; refine S.run_s rfl rfl ?_; conv => lhs; arg 5; whnf
 conv => lhs; arg 6; whnf
 rotate_left
 intro a0 a1 a2
 unfold ref4_Put.f; refine S.run_s rfl rfl ?_; conv => lhs; arg 5; whnf
 conv => lhs; arg 6; whnf
 rotate_left
 all_goals repeat' first|(first|refine S.seq_op rfl ?_|refine S.op_n ?_|refine S.block_x ?_|refine br_lt ?_|refine br_lf ?_|refine br_t (by assumption) ?_|refine br_f (by assumption) ?_|refine req_i (by with_reducible assumption) ?_|refine br_nd (fun _=>?_) (fun _=>?_)|refine br_d (fun _=>?_) (fun _=>?_)|refine br_n (fun _=>?_) (fun _=>?_)|refine br_c (fun _=>?_) (fun _=>?_)|refine req_c fun _=>?_|refine req_i (by assumption) ?_|refine bnd_c fun _=>?_)<;>(conv=>lhs;whnf)|refine S.seq_nil ?_|refine S.reg_n ?_|refine S.region rfl ?_|refine S.two ?_|refine S.blok ?_|refine S.cond rfl ?_|refine S.after_n ?_|refine S.block_n ?_|refine S.block_r ?_|refine S.after_x ?_|refine S.after_r ?_|refine S.skip ?_|refine S.exit ?_|refine S.ret ?_|refine sum_c (fun _=>?_) (fun _=>?_)|refine S.region_d (id := 4) (ds := [0,0,3,7,15,31,63,63,255,511,63,2047,4095,8191,16383,32767,65535,131071,131071,393215,1048575,2097151,131071,131071,12713983,29491199,67108863,134217727,268435455]) (mds := [[],[],[],[],[],[],[],[],[],[],[],[],[],[],[],[],[],[],[],[],[],[],[],[],[],[],[],[],[]]) (hm := []) (by kernel_rfl) (by kernel_rfl) rfl rfl ?_|exact ih|refine (w105_0 _).trans ?_|refine (w106_0 _).trans ?_|(first|refine S.loop ?_|refine S.back_n ?_|refine S.back_x ?_|refine S.back_r ?_|refine S.fin_r ?_|refine S.fin_n ?_|refine S.dk_n ?_|refine S.draw_nil ?_)<;>(conv=>lhs;whnf)|exact ret_c rfl|exact none_c|(refine S.draw_op ?_; conv => lhs; whnf; arg 1; whnf)|refine andK_br ?_|refine andK_req ?_|refine andK_b ?_|refine andK_none ?_
theorem en105 : EnvOK Tryz.prog (g105) := (envOK_nil _)
theorem snd105 (k : Nat) : Sound Tryz.prog 105 (sp105 k) := by
 refine ⟨⟨Tryz.f105,Tryz.func105,by kernel_rfl,rfl⟩,fun args objs K r h => ?_⟩
 unfold sp105 at h; dsimp only at h; split at h
 ·rename_i v0 a1
  obtain ⟨a0,h9,ca0⟩ := listB_spec h; clear h
  have h := h9; clear h9
  obtain ⟨x,hx,h⟩ := bindO_some h
  exact ⟨_,_,h,FnOK.args2 (relL_c ca0 (relL_c rel_i relL_n)) (fn_run tab_ok (en105) mixed Tryz.func105 (((lp5001 seals k).1 a0 a1).trans (bindO_eq hx)))⟩
 ·cases h
theorem en106 : EnvOK Tryz.prog (g106) := (envOK_nil _)
theorem snd106 (k : Nat) : Sound Tryz.prog 106 (sp106 k) := by
 refine ⟨⟨Tryz.f106,Tryz.func106,by kernel_rfl,rfl⟩,fun args objs K r h => ?_⟩
 unfold sp106 at h; dsimp only at h; split at h
 ·rename_i v0 a1
  obtain ⟨a0,h9,ca0⟩ := listB_spec h; clear h
  have h := h9; clear h9
  obtain ⟨x,hx,h⟩ := bindO_some h
  exact ⟨_,_,h,FnOK.args2 (relL_c ca0 (relL_c rel_i relL_n)) (fn_run tab_ok (en106) mixed Tryz.func106 (((lp5001 seals k).2.1 a0 a1).trans (bindO_eq hx)))⟩
 ·cases h
theorem en107 : EnvOK Tryz.prog (g107) := (envOK_nil _)
theorem snd107 : Sound Tryz.prog 107 (sp107) := by
 refine ⟨⟨Tryz.f107,Tryz.func107,by kernel_rfl,rfl⟩,fun args objs K r h => ?_⟩
 unfold sp107 at h; dsimp only at h; split at h
 ·rename_i a0
  obtain ⟨x,hx,h⟩ := bindO_some h
  exact ⟨_,_,h,FnOK.args2 (relL_c rel_i relL_n) (fn_run tab_ok (en107) mixed Tryz.func107 (((lp5001 seals 0).2.2.1 a0).trans (bindO_eq hx)))⟩
 ·cases h
theorem en108 : EnvOK Tryz.prog (g108) := (envOK_nil _)
theorem snd108 : Sound Tryz.prog 108 (sp108) := by
 refine ⟨⟨Tryz.f108,Tryz.func108,by kernel_rfl,rfl⟩,fun args objs K r h => ?_⟩
 unfold sp108 at h; dsimp only at h; split at h
 ·rename_i a0 a1 a2
  obtain ⟨x,hx,h⟩ := bindO_some h
  exact ⟨_,_,h,FnOK.args2 (relL_c rel_i (relL_c rel_i (relL_c rel_i relL_n))) (fn_run tab_ok (en108) mixed Tryz.func108 (((lp5001 seals 0).2.2.2 a0 a1 a2).trans (bindO_eq hx)))⟩
 ·cases h
def lv76 : Live := look ⟨[],[],[],[],[]⟩ [(9,⟨[0,2,4,6,8,33,34],[0,2,4,6,8],[6,7],[(8,0,.own (.int .i64))],[]⟩),(18,⟨[0,2,4,6,8,10,60,61],[6,10],[6,7],[],[]⟩),(22,⟨[0,2,4,6,8,10,11,12,60,61,67,68,69],[0,2,4,6,8,10,11,12,60,61],[6,7],[(12,0,.own (.int .i64))],[]⟩),(1000000,⟨[],[],[],[(6,0,.own (.int .i64)),(6,1,.own (.int .i64))],[]⟩)]
noncomputable def g76 (k : Nat) : FEnv := (addF 108 sp108 (addF 102 (sp102 k) (addF 97 (sp97 k) (addF 50 (sp50 k) (addF 107 sp107 (addF 49 (sp49 k) (addF 106 (sp106 k) (addF 105 (sp105 k) (addF 100 (sp100 k) (addF 104 sp104 (fun _=>none)))))))))))
def sp76 (k : Nat) : FSpec := ⟨[.rd,.rd,.rd],fun args objs K => match args,objs with | [.i .i64 a0,.agg [v0,v1],v2],[] => listB (.int .i64) true v0 fun a1_0 => listB (.int .i64) true v1 fun a1_1 => listB (.int .i64) true v2 fun a2 => bindO (ref4_Fold.f k a0 a1_0 a1_1 a2) fun x : Int × (List Int) × (List Int) => K (.tup [.agg [.own 0,.own 1],.i .i64 x.1]) [.row (.int .i64) x.2.1 false,.row (.int .i64) x.2.2 false] | _,_ => none⟩
def lv109 : Live := look ⟨[],[],[],[],[]⟩ []
noncomputable def g109 : FEnv := (fun _=>none)
def sp109 : FSpec := ⟨[.rd,.rd,.rd],fun args objs K => match args,objs with | [.i .i64 a0,.i .i64 a1,.i .i64 a2],[] => bindO (ref4_Windows.f a0 a1 a2) fun x : Int => K (.i .i64 x) [] | _,_ => none⟩
def lv77 : Live := look ⟨[],[],[],[],[]⟩ [(11,⟨[0,2,3,4,6,10,12,13,72,73],[10,13],[10,11],[],[]⟩),(16,⟨[0,2,3,4,6,10,12,13,14,15,16,17,72,73],[0,2,3,4,6,10,12,13,72,73],[10,11],[],[]⟩),(1000000,⟨[],[],[],[(10,0,.own (.int .i64)),(10,1,.own (.int .i64))],[]⟩)]
noncomputable def g77 (k : Nat) : FEnv := (addF 108 sp108 (addF 101 (sp101 k) (addF 97 (sp97 k) (addF 50 (sp50 k) (addF 107 sp107 (addF 109 sp109 (addF 100 (sp100 k) (addF 104 sp104 (fun _=>none)))))))))
def sp77 (k : Nat) : FSpec := ⟨[.rd,.rd,.rd,.rd,.rd],fun args objs K => match args,objs with | [.i .i64 a0,.agg [v0,v1],.i .i64 a2,.i .i64 a3,.i .i64 a4],[] => listB (.int .i64) true v0 fun a1_0 => listB (.int .i64) true v1 fun a1_1 => bindO (ref4_Window.f k a0 a1_0 a1_1 a2 a3 a4) fun x : Int × (List Int) × (List Int) => K (.tup [.agg [.own 0,.own 1],.i .i64 x.1]) [.row (.int .i64) x.2.1 false,.row (.int .i64) x.2.2 false] | _,_ => none⟩
theorem lp5002 (S : Seals) (k : Nat) : (∀ (a0 : Int) (a1_0 : List Int) (a1_1 : List Int) (a2 : List Int),runF tt (g76 k) lv76 Tryz.f76 k [.i .i64 a0,.agg [.dat (.int .i64) a1_0 true,.dat (.int .i64) a1_1 true],.dat (.int .i64) a2 true] [] = bindO (ref4_Fold.f k a0 a1_0 a1_1 a2) (fun x : Int × (List Int) × (List Int) => some (.tup [.agg [.own 0,.own 1],.i .i64 x.1],[.row (.int .i64) x.2.1 false,.row (.int .i64) x.2.2 false]))) ∧ (∀ (a0 : Int) (a1 : Int) (a2 : Int),runF tt (g109) lv109 Tryz.f109 k [.i .i64 a0,.i .i64 a1,.i .i64 a2] [] = bindO (ref4_Windows.f a0 a1 a2) (fun x : Int => some (.i .i64 x,[]))) ∧ (∀ (a0 : Int) (a1_0 : List Int) (a1_1 : List Int) (a2 : Int) (a3 : Int) (a4 : Int),runF tt (g77 k) lv77 Tryz.f77 k [.i .i64 a0,.agg [.dat (.int .i64) a1_0 true,.dat (.int .i64) a1_1 true],.i .i64 a2,.i .i64 a3,.i .i64 a4] [] = bindO (ref4_Window.f k a0 a1_0 a1_1 a2 a3 a4) (fun x : Int × (List Int) × (List Int) => some (.tup [.agg [.own 0,.own 1],.i .i64 x.1],[.row (.int .i64) x.2.1 false,.row (.int .i64) x.2.2 false]))) := by
 refine cut_ (A := ∀ (n : Nat) {x0 : Int} {x2 : List Int} {x33 : Int} {x34 : Int} {y0_0 : List Int} {y0_1 : List Int} {y2 : List Int} {K : CK},S.lp tt (g76 k) lv76 0 n (loopN Tryz.f76 0) ⟨[(0,.i .i64 x0),(2,.dat (.int .i64) x2 true),(4,.ptr 0 0),(6,.ptr 1 0),(8,.own 2),(33,.i .i64 x33),(34,.i .i64 x34)],[(0,.var [.dat (.int .i64) y0_0 true,.dat (.int .i64) y0_1 true]),(1,.var [.nilsl,.nilsl]),(2,.row (.int .i64) y2 false)],3,104⟩ K = bindO (ref4_Fold.l0 k n x0 x2 x33 x34 y0_0 y0_1 y2) (fun x : (List Int) => K (.exit 0) ⟨[(0,.i .i64 x0),(2,.dat (.int .i64) x2 true),(4,.ptr 0 0),(6,.ptr 1 0),(8,.own 2)],[(0,.var [.dat (.int .i64) y0_0 true,.dat (.int .i64) y0_1 true]),(1,.var [.nilsl,.nilsl]),(2,.row (.int .i64) x false)],3,104⟩)) (ind_ (by intros; rw [S.lp_zero]; exact none_c) ?_) ?_
 intro n ih; intros; rw [ref4_Fold.l0]; refine S.lp_succ ?_; conv => lhs; arg 5; whnf
 rotate_left
 intro w76_0
 refine cut_ (A := ∀ (n : Nat) {x0 : Int} {x2 : List Int} {x11 : Int} {x60 : Int} {x61 : Int} {x68 : Int} {x69 : Int} {y0_0 : List Int} {y0_1 : List Int} {y2 : List Int} {y4 : List Int} {y5 : List Int} {y6 : List Int} {y7 : List Int} {K : CK},S.lp tt (g76 k) lv76 0 n (loopN Tryz.f76 2) ⟨[(0,.i .i64 x0),(2,.dat (.int .i64) x2 true),(4,.ptr 0 0),(6,.ptr 1 0),(8,.own 2),(10,.ptr 3 0),(11,.i .i64 x11),(12,.own 4),(60,.i .i64 x60),(61,.i .i64 x61),(67,.own 5),(68,.i .i64 x68),(69,.i .i64 x69)],[(0,.var [.dat (.int .i64) y0_0 true,.dat (.int .i64) y0_1 true]),(1,.var [.nilsl,.nilsl]),(2,.row (.int .i64) y2 false),(3,.var [.own 6,.own 7]),(4,.row (.int .i64) y4 false),(5,.row (.int .i64) y5 false),(6,.row (.int .i64) y6 false),(7,.row (.int .i64) y7 false)],8,104⟩ K = bindO (ref4_Fold.l2 k n x0 x2 x11 x60 x61 x68 x69 y0_0 y0_1 y2 y4 y5 y6 y7) (fun x : (List Int) => K (.exit 4) ⟨[(0,.i .i64 x0),(2,.dat (.int .i64) x2 true),(4,.ptr 0 0),(6,.ptr 1 0),(8,.own 2),(10,.ptr 3 0),(11,.i .i64 x11),(12,.own 4),(60,.i .i64 x60),(61,.i .i64 x61)],[(0,.var [.dat (.int .i64) y0_0 true,.dat (.int .i64) y0_1 true]),(1,.var [.nilsl,.nilsl]),(2,.row (.int .i64) y2 false),(3,.var [.own 5,.own 6]),(4,.row (.int .i64) x false),(5,.row (.int .i64) y6 false),(6,.row (.int .i64) y7 false)],7,104⟩)) (ind_ (by intros; rw [S.lp_zero]; exact none_c) ?_) ?_
 intro n ih; intros; rw [ref4_Fold.l2]; refine S.lp_succ ?_; conv => lhs; arg 5; whnf
 rotate_left
 intro w76_2
 refine cut_ (A := ∀ (n : Nat) {x0 : Int} {x2 : List Int} {x60 : Int} {x61 : Int} {y0_0 : List Int} {y0_1 : List Int} {y2 : List Int} {y4 : List Int} {y5 : List Int} {K : CK},S.lp tt (g76 k) lv76 0 n (loopN Tryz.f76 1) ⟨[(0,.i .i64 x0),(2,.dat (.int .i64) x2 true),(4,.ptr 0 0),(6,.ptr 1 0),(8,.own 2),(10,.ptr 3 0),(60,.i .i64 x60),(61,.i .i64 x61)],[(0,.var [.dat (.int .i64) y0_0 true,.dat (.int .i64) y0_1 true]),(1,.var [.nilsl,.nilsl]),(2,.row (.int .i64) y2 false),(3,.var [.own 4,.own 5]),(4,.row (.int .i64) y4 false),(5,.row (.int .i64) y5 false)],6,104⟩ K = bindO (ref4_Fold.l1 k n x0 x2 x60 x61 y0_0 y0_1 y2 y4 y5) (fun x : (List Int) => K (.exit 2) ⟨[(6,.ptr 0 0),(10,.ptr 1 0)],[(0,.var [.nilsl,.nilsl]),(1,.var [.own 2,.own 3]),(2,.row (.int .i64) y4 false),(3,.row (.int .i64) x false)],4,104⟩)) (ind_ (by intros; rw [S.lp_zero]; exact none_c) ?_) ?_
 intro n ih; intros; rw [ref4_Fold.l1]; refine S.lp_succ ?_; conv => lhs; arg 5; whnf
 rotate_left
 intro w76_1
 refine cut_ (A := ∀ (n : Nat) {x0 : Int} {x2 : Int} {x3 : Int} {x4 : Int} {x14 : Int} {x16 : Int} {x17 : Int} {x72 : Int} {x73 : Int} {y0_0 : List Int} {y0_1 : List Int} {y2 : List Int} {y4 : List Int} {y5 : List Int} {y6 : List Int} {K : CK},S.lp tt (g77 k) lv77 0 n (loopN Tryz.f77 1) ⟨[(0,.i .i64 x0),(2,.i .i64 x2),(3,.i .i64 x3),(4,.i .i64 x4),(6,.ptr 0 0),(10,.ptr 1 0),(12,.own 2),(13,.ptr 3 0),(14,.i .i64 x14),(15,.own 4),(16,.i .i64 x16),(17,.i .i64 x17),(72,.i .i64 x72),(73,.i .i64 x73)],[(0,.var [.dat (.int .i64) y0_0 true,.dat (.int .i64) y0_1 true]),(1,.var [.nilsl,.nilsl]),(2,.row (.int .i64) y2 false),(3,.var [.own 5,.own 6]),(4,.row (.int .i64) y4 false),(5,.row (.int .i64) y5 false),(6,.row (.int .i64) y6 false)],7,112⟩ K = bindO (ref4_Window.l1 k n x0 x2 x3 x4 x14 x16 x17 x72 x73 y0_0 y0_1 y2 y4 y5 y6) (fun x : (List Int) => K (.exit 2) ⟨[(0,.i .i64 x0),(2,.i .i64 x2),(3,.i .i64 x3),(4,.i .i64 x4),(6,.ptr 0 0),(10,.ptr 1 0),(12,.own 2),(13,.ptr 3 0),(72,.i .i64 x72),(73,.i .i64 x73)],[(0,.var [.dat (.int .i64) y0_0 true,.dat (.int .i64) y0_1 true]),(1,.var [.nilsl,.nilsl]),(2,.row (.int .i64) y2 false),(3,.var [.own 4,.own 5]),(4,.row (.int .i64) y5 false),(5,.row (.int .i64) x false)],6,112⟩)) (ind_ (by intros; rw [S.lp_zero]; exact none_c) ?_) ?_
 intro n ih; intros; rw [ref4_Window.l1]; refine S.lp_succ ?_; conv => lhs; arg 5; whnf
 rotate_left
 intro w77_1
 refine cut_ (A := ∀ (n : Nat) {x0 : Int} {x2 : Int} {x3 : Int} {x4 : Int} {x72 : Int} {x73 : Int} {y0_0 : List Int} {y0_1 : List Int} {y2 : List Int} {y4 : List Int} {y5 : List Int} {K : CK},S.lp tt (g77 k) lv77 0 n (loopN Tryz.f77 0) ⟨[(0,.i .i64 x0),(2,.i .i64 x2),(3,.i .i64 x3),(4,.i .i64 x4),(6,.ptr 0 0),(10,.ptr 1 0),(12,.own 2),(13,.ptr 3 0),(72,.i .i64 x72),(73,.i .i64 x73)],[(0,.var [.dat (.int .i64) y0_0 true,.dat (.int .i64) y0_1 true]),(1,.var [.nilsl,.nilsl]),(2,.row (.int .i64) y2 false),(3,.var [.own 4,.own 5]),(4,.row (.int .i64) y4 false),(5,.row (.int .i64) y5 false)],6,112⟩ K = bindO (ref4_Window.l0 k n x0 x2 x3 x4 x72 x73 y0_0 y0_1 y2 y4 y5) (fun x : (List Int) => K (.exit 0) ⟨[(10,.ptr 0 0),(13,.ptr 1 0)],[(0,.var [.nilsl,.nilsl]),(1,.var [.own 2,.own 3]),(2,.row (.int .i64) y4 false),(3,.row (.int .i64) x false)],4,112⟩)) (ind_ (by intros; rw [S.lp_zero]; exact none_c) ?_) ?_
 intro n ih; intros; rw [ref4_Window.l0]; refine S.lp_succ ?_; conv => lhs; arg 5; whnf
 rotate_left
 intro w77_0
 refine ⟨?_,?_,?_⟩
 intro a0 a1_0 a1_1 a2
 unfold ref4_Fold.f; refine S.run_s rfl rfl ?_; conv => lhs; arg 5; whnf
 conv => lhs; arg 6; whnf
 rotate_left
 intro a0 a1 a2
 unfold ref4_Windows.f; refine S.run_s rfl rfl ?_; conv => lhs; arg 5; whnf
 conv => lhs; arg 6; whnf
 rotate_left
 intro a0 a1_0 a1_1 a2 a3 a4
 unfold ref4_Window.f; refine S.run_s rfl rfl ?_; conv => lhs; arg 5; whnf
 conv => lhs; arg 6; whnf
 rotate_left
 all_goals repeat' first|(first|refine S.seq_op rfl ?_|refine S.op_n ?_|refine S.block_x ?_|refine br_lt ?_|refine br_lf ?_|refine br_t (by assumption) ?_|refine br_f (by assumption) ?_|refine req_i (by with_reducible assumption) ?_|refine br_nd (fun _=>?_) (fun _=>?_)|refine br_d (fun _=>?_) (fun _=>?_)|refine br_n (fun _=>?_) (fun _=>?_)|refine br_c (fun _=>?_) (fun _=>?_)|refine req_c fun _=>?_|refine req_i (by assumption) ?_|refine bnd_c fun _=>?_)<;>(conv=>lhs;whnf)|refine S.seq_nil ?_|refine S.reg_n ?_|refine S.region rfl ?_|refine S.two ?_|refine S.blok ?_|refine S.cond rfl ?_|refine S.after_n ?_|refine S.block_n ?_|refine S.block_r ?_|refine S.after_x ?_|refine S.after_r ?_|refine S.skip ?_|refine S.exit ?_|refine S.ret ?_|refine sum_c (fun _=>?_) (fun _=>?_)|exact ih|refine (w76_2 _).trans ?_|refine (w76_0 _).trans ?_|refine (w76_1 _).trans ?_|refine (w77_1 _).trans ?_|refine (w77_0 _).trans ?_|refine S.region_d (id := 28) (ds := [0,1,0,0,0,16,0,112,240,0,512,0,3584,7680,16376,32767,65535]) (mds := [[],[],[],[],[],[],[],[],[],[],[],[],[],[],[],[],[6]]) (hm := [(16,[6])]) (by kernel_rfl) (by kernel_rfl) rfl rfl ?_|refine S.region_d (id := 19) (ds := [0,1,0,0,0,16,0,112,240,0,0,1536,4088,8191,16383]) (mds := [[],[],[],[],[],[],[],[],[],[],[],[4,4],[],[],[6]]) (hm := [(11,[4,4]),(14,[6])]) (by kernel_rfl) (by kernel_rfl) rfl rfl ?_|(first|refine S.loop ?_|refine S.back_n ?_|refine S.back_x ?_|refine S.back_r ?_|refine S.fin_r ?_|refine S.fin_n ?_|refine S.dk_n ?_|refine S.draw_nil ?_)<;>(conv=>lhs;whnf)|exact ret_c rfl|exact none_c|(refine S.draw_op ?_; conv => lhs; whnf; arg 1; whnf)|refine andK_br ?_|refine andK_req ?_|refine andK_b ?_|refine andK_none ?_
theorem en76 (k : Nat) : EnvOK Tryz.prog (g76 k) := (envOK_add snd108 (envOK_add (snd102 k) (envOK_add (snd97 k) (envOK_add (snd50 k) (envOK_add snd107 (envOK_add (snd49 k) (envOK_add (snd106 k) (envOK_add (snd105 k) (envOK_add (snd100 k) (envOK_add snd104 (envOK_nil _)))))))))))
theorem snd76 (k : Nat) : Sound Tryz.prog 76 (sp76 k) := by
 refine ⟨⟨Tryz.f76,Tryz.func76,by kernel_rfl,rfl⟩,fun args objs K r h => ?_⟩
 unfold sp76 at h; dsimp only at h; split at h
 ·rename_i a0 v0 v1 v2
  obtain ⟨a1_0,h9,ca1_0⟩ := listB_spec h; clear h
  have h := h9; clear h9
  obtain ⟨a1_1,h9,ca1_1⟩ := listB_spec h; clear h
  have h := h9; clear h9
  obtain ⟨a2,h9,ca2⟩ := listB_spec h; clear h
  have h := h9; clear h9
  obtain ⟨x,hx,h⟩ := bindO_some h
  exact ⟨_,_,h,FnOK.args2 (relL_c rel_i (relL_c (rel_agg (relL_c ca1_0 (relL_c ca1_1 relL_n))) (relL_c ca2 relL_n))) (fn_run tab_ok (en76 k) mixed Tryz.func76 (((lp5002 seals k).1 a0 a1_0 a1_1 a2).trans (bindO_eq hx)))⟩
 ·cases h
theorem en109 : EnvOK Tryz.prog (g109) := (envOK_nil _)
theorem snd109 : Sound Tryz.prog 109 (sp109) := by
 refine ⟨⟨Tryz.f109,Tryz.func109,by kernel_rfl,rfl⟩,fun args objs K r h => ?_⟩
 unfold sp109 at h; dsimp only at h; split at h
 ·rename_i a0 a1 a2
  obtain ⟨x,hx,h⟩ := bindO_some h
  exact ⟨_,_,h,FnOK.args2 (relL_c rel_i (relL_c rel_i (relL_c rel_i relL_n))) (fn_run tab_ok (en109) mixed Tryz.func109 (((lp5002 seals 0).2.1 a0 a1 a2).trans (bindO_eq hx)))⟩
 ·cases h
theorem en77 (k : Nat) : EnvOK Tryz.prog (g77 k) := (envOK_add snd108 (envOK_add (snd101 k) (envOK_add (snd97 k) (envOK_add (snd50 k) (envOK_add snd107 (envOK_add snd109 (envOK_add (snd100 k) (envOK_add snd104 (envOK_nil _)))))))))
theorem snd77 (k : Nat) : Sound Tryz.prog 77 (sp77 k) := by
 refine ⟨⟨Tryz.f77,Tryz.func77,by kernel_rfl,rfl⟩,fun args objs K r h => ?_⟩
 unfold sp77 at h; dsimp only at h; split at h
 ·rename_i a0 v0 v1 a2 a3 a4
  obtain ⟨a1_0,h9,ca1_0⟩ := listB_spec h; clear h
  have h := h9; clear h9
  obtain ⟨a1_1,h9,ca1_1⟩ := listB_spec h; clear h
  have h := h9; clear h9
  obtain ⟨x,hx,h⟩ := bindO_some h
  exact ⟨_,_,h,FnOK.args2 (relL_c rel_i (relL_c (rel_agg (relL_c ca1_0 (relL_c ca1_1 relL_n))) (relL_c rel_i (relL_c rel_i (relL_c rel_i relL_n))))) (fn_run tab_ok (en77 k) mixed Tryz.func77 (((lp5002 seals k).2.2 a0 a1_0 a1_1 a2 a3 a4).trans (bindO_eq hx)))⟩
 ·cases h
def lv78 : Live := look ⟨[],[],[],[],[]⟩ [(8,⟨[0,4,5,6,9,31,32],[6,9],[6,7],[],[]⟩),(1000000,⟨[],[],[],[(6,0,.own (.int .i64)),(6,1,.own (.int .i64))],[]⟩)]
noncomputable def g78 (k : Nat) : FEnv := (addF 99 sp99 (addF 50 (sp50 k) (addF 98 (sp98 k) (fun _=>none))))
def sp78 (k : Nat) : FSpec := ⟨[.st,.st,.st],fun args objs K => match args,objs with | [.i .i64 a0,.agg [v0,v1],.agg [v2,v3]],[] => listB (.int .i64) false v0 fun a1_0 => listB (.int .i64) false v1 fun a1_1 => listB (.int .i64) false v2 fun a2_0 => listB (.int .i64) false v3 fun a2_1 => bindO (ref4_Two.f k a0 a1_0 a1_1 a2_0 a2_1) fun x : Int × (List Int) × (List Int) => K (.tup [.agg [.own 0,.own 1],.i .i64 x.1]) [.row (.int .i64) x.2.1 false,.row (.int .i64) x.2.2 false] | _,_ => none⟩
theorem lp5003 (S : Seals) (k : Nat) : (∀ (a0 : Int) (a1_0 : List Int) (a1_1 : List Int) (a2_0 : List Int) (a2_1 : List Int),runF tt (g78 k) lv78 Tryz.f78 k [.i .i64 a0,.agg [.dat (.int .i64) a1_0 false,.dat (.int .i64) a1_1 false],.agg [.dat (.int .i64) a2_0 false,.dat (.int .i64) a2_1 false]] [] = bindO (ref4_Two.f k a0 a1_0 a1_1 a2_0 a2_1) (fun x : Int × (List Int) × (List Int) => some (.tup [.agg [.own 0,.own 1],.i .i64 x.1],[.row (.int .i64) x.2.1 false,.row (.int .i64) x.2.2 false]))) := by
 refine cut_ (A := ∀ (n : Nat) {x0 : Int} {x31 : Int} {x32 : Int} {y0_0 : List Int} {y0_1 : List Int} {y1_0 : List Int} {y1_1 : List Int} {y4 : List Int} {y5 : List Int} {K : CK},S.lp tt (g78 k) lv78 0 n (loopN Tryz.f78 0) ⟨[(0,.i .i64 x0),(4,.ptr 0 0),(5,.ptr 1 0),(6,.ptr 2 0),(9,.ptr 3 0),(31,.i .i64 x31),(32,.i .i64 x32)],[(0,.var [.dat (.int .i64) y0_0 false,.dat (.int .i64) y0_1 false]),(1,.var [.dat (.int .i64) y1_0 false,.dat (.int .i64) y1_1 false]),(2,.var [.nilsl,.nilsl]),(3,.var [.own 4,.own 5]),(4,.row (.int .i64) y4 false),(5,.row (.int .i64) y5 false)],6,53⟩ K = bindO (ref4_Two.l0 n x0 x31 x32 y0_0 y0_1 y1_0 y1_1 y4 y5) (fun x : (List Int) => K (.exit 0) ⟨[(6,.ptr 0 0),(9,.ptr 1 0)],[(0,.var [.nilsl,.nilsl]),(1,.var [.own 2,.own 3]),(2,.row (.int .i64) y4 false),(3,.row (.int .i64) x false)],4,53⟩)) (ind_ (by intros; rw [S.lp_zero]; exact none_c) ?_) ?_
 intro n ih; intros; rw [ref4_Two.l0]; refine S.lp_succ ?_; conv => lhs; arg 5; whnf
 rotate_left
 intro w78_0
 skip
 intro a0 a1_0 a1_1 a2_0 a2_1
 unfold ref4_Two.f; refine S.run_s rfl rfl ?_; conv => lhs; arg 5; whnf
 conv => lhs; arg 6; whnf
 rotate_left
 all_goals repeat' first|(first|refine S.seq_op rfl ?_|refine S.op_n ?_|refine S.block_x ?_|refine br_lt ?_|refine br_lf ?_|refine br_t (by assumption) ?_|refine br_f (by assumption) ?_|refine req_i (by with_reducible assumption) ?_|refine br_nd (fun _=>?_) (fun _=>?_)|refine br_d (fun _=>?_) (fun _=>?_)|refine br_n (fun _=>?_) (fun _=>?_)|refine br_c (fun _=>?_) (fun _=>?_)|refine req_c fun _=>?_|refine req_i (by assumption) ?_|refine bnd_c fun _=>?_)<;>(conv=>lhs;whnf)|refine S.seq_nil ?_|refine S.reg_n ?_|refine S.region rfl ?_|refine S.two ?_|refine S.blok ?_|refine S.cond rfl ?_|refine S.after_n ?_|refine S.block_n ?_|refine S.block_r ?_|refine S.after_x ?_|refine S.after_r ?_|refine S.skip ?_|refine S.exit ?_|refine S.ret ?_|refine sum_c (fun _=>?_) (fun _=>?_)|refine S.region_d (id := 10) (ds := [0,1,0,0,0,16,0,112,240,0,512,0,3584,7680,16376,32767,65535]) (mds := [[],[],[],[],[],[],[],[],[],[],[],[],[],[],[],[],[5]]) (hm := [(16,[5])]) (by kernel_rfl) (by kernel_rfl) rfl rfl ?_|exact ih|refine (w78_0 _).trans ?_|(first|refine S.loop ?_|refine S.back_n ?_|refine S.back_x ?_|refine S.back_r ?_|refine S.fin_r ?_|refine S.fin_n ?_|refine S.dk_n ?_|refine S.draw_nil ?_)<;>(conv=>lhs;whnf)|exact ret_c rfl|exact none_c|(refine S.draw_op ?_; conv => lhs; whnf; arg 1; whnf)|refine andK_br ?_|refine andK_req ?_|refine andK_b ?_|refine andK_none ?_
theorem en78 (k : Nat) : EnvOK Tryz.prog (g78 k) := (envOK_add snd99 (envOK_add (snd50 k) (envOK_add (snd98 k) (envOK_nil _))))
theorem snd78 (k : Nat) : Sound Tryz.prog 78 (sp78 k) := by
 refine ⟨⟨Tryz.f78,Tryz.func78,by kernel_rfl,rfl⟩,fun args objs K r h => ?_⟩
 unfold sp78 at h; dsimp only at h; split at h
 ·rename_i a0 v0 v1 v2 v3
  obtain ⟨a1_0,h9,ca1_0⟩ := listB_spec h; clear h
  have h := h9; clear h9
  obtain ⟨a1_1,h9,ca1_1⟩ := listB_spec h; clear h
  have h := h9; clear h9
  obtain ⟨a2_0,h9,ca2_0⟩ := listB_spec h; clear h
  have h := h9; clear h9
  obtain ⟨a2_1,h9,ca2_1⟩ := listB_spec h; clear h
  have h := h9; clear h9
  obtain ⟨x,hx,h⟩ := bindO_some h
  exact ⟨_,_,h,FnOK.args2 (relL_c rel_i (relL_c (rel_agg (relL_c ca1_0 (relL_c ca1_1 relL_n))) (relL_c (rel_agg (relL_c ca2_0 (relL_c ca2_1 relL_n))) relL_n))) (fn_run tab_ok (en78 k) mixed Tryz.func78 (((lp5003 seals k) a0 a1_0 a1_1 a2_0 a2_1).trans (bindO_eq hx)))⟩
 ·cases h
end Go.Vm
