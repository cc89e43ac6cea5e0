/- Own texts put together: the walks -/
import Derived.Test.YtjbpaoieanfffaaGreatWk0
import Derived.Test.YtjbpaoieanfffaaGreatWk3
import Derived.Test.YtjbpaoieanfffaaGreatWk6
import Derived.Test.YtjbpaoieanfffaaGreatWk2
set_option linter.unusedVariables false
set_option maxRecDepth 60000
set_option maxHeartbeats 40000000
namespace Go.Vm
open Go Go.Proofs Go.Pf

def lv22 : Live := look ⟨[],[],[],[],[]⟩ [(5,⟨[1,2,6,16,17],[2,6],[4,5],[(6,0,.own (.pair (.sl (.int .i64)) (.sl (.int .i64))))],[]⟩),(1000000,⟨[],[],[],[(4,0,.own (.int .i64))],[]⟩)]
noncomputable def g22 (k : Nat) : FEnv := (addF 51 (sp51 k) (addF 50 (sp50 k) (addF 49 (sp49 k) (addF 48 sp48 (fun _=>none)))))
def sp22 (k : Nat) : FSpec := ⟨[.rd,.rd],fun args objs K => match args,objs with | [.agg [.i .i64 a0_0,v0,v1,v2,.i .i64 a0_4,.i .i64 a0_5,.s a0_6],v3],[] => listB (.int .i64) true v0 fun a0_1 => listB (.int .i64) true v1 fun a0_2 => listB (.int .i64) true v2 fun a0_3 => listB (.sl (.int .i64)) true v3 fun a1 => bindO (ref10_Shape.f k a0_0 a0_1 a0_2 a0_3 a0_4 a0_5 a0_6 a1) fun x : Int × (List Int) => K (.tup [.own 0,.i .i64 x.1]) [.row (.int .i64) x.2 false] | _,_ => none⟩
def lv47 : Live := look ⟨[],[],[],[],[]⟩ [(3,⟨[0,1,2,6,7,8],[2,6],[6],[],[]⟩),(7,⟨[0,1,2,6,7,8,9,10],[0,1,2,6,7,8],[6],[],[]⟩),(1000000,⟨[],[],[],[(6,3,.own (.int .i64))],[]⟩)]
noncomputable def g47 (k : Nat) : FEnv := (addF 23 (sp23 k) (addF 22 (sp22 k) (addF 12 sp12 (fun _=>none))))
def sp47 (k : Nat) : FSpec := ⟨[.rd,.rd,.rd],fun args objs K => match args,objs with | [.ptr 0 0,v0,.i .i64 a2],[.var [v1,.i .i64 o0_1]] => listB (.sl (.int .i64)) true v0 fun a1 => datK (.int .i64) false v1 fun o0_0 => bindO (keep_Tape_dot.f k a1 a2 o0_0 o0_1) fun x : Int × Int × Int × ByteArray × Int × (List Int) × (List Int) => K (.agg [.i .i64 x.1,.own 1,.nilsl,.own 2,.i .i64 x.2.1,.i .i64 x.2.2.1,.s x.2.2.2.1]) [.var [.dat (.int .i64) o0_0 false,.i .i64 x.2.2.2.2.1],.row (.int .i64) x.2.2.2.2.2.1 false,.row (.int .i64) x.2.2.2.2.2.2 false] | _,_ => none⟩
theorem lp7000 (S : Seals) (k : Nat) : (∀ (a0_0 : Int) (a0_1 : List Int) (a0_2 : List Int) (a0_3 : List Int) (a0_4 : Int) (a0_5 : Int) (a0_6 : ByteArray) (a1 : List (List Int)),runF tt (g22 k) lv22 Tryz.f22 k [.agg [.i .i64 a0_0,.dat (.int .i64) a0_1 true,.dat (.int .i64) a0_2 true,.dat (.int .i64) a0_3 true,.i .i64 a0_4,.i .i64 a0_5,.s a0_6],.dat (.sl (.int .i64)) a1 true] [] = bindO (ref10_Shape.f k a0_0 a0_1 a0_2 a0_3 a0_4 a0_5 a0_6 a1) (fun x : Int × (List Int) => some (.tup [.own 0,.i .i64 x.1],[.row (.int .i64) x.2 false]))) ∧ (∀ (a1 : List (List Int)) (a2 : Int) (o0_0 : List Int) (o0_1 : Int),runF tt (g47 k) lv47 Tryz.f47 k [.ptr 0 0,.dat (.sl (.int .i64)) a1 true,.i .i64 a2] [.var [.dat (.int .i64) o0_0 false,.i .i64 o0_1]] = bindO (keep_Tape_dot.f k a1 a2 o0_0 o0_1) (fun x : Int × Int × Int × ByteArray × Int × (List Int) × (List Int) => some (.agg [.i .i64 x.1,.own 1,.nilsl,.own 2,.i .i64 x.2.1,.i .i64 x.2.2.1,.s x.2.2.2.1],[.var [.dat (.int .i64) o0_0 false,.i .i64 x.2.2.2.2.1],.row (.int .i64) x.2.2.2.2.2.1 false,.row (.int .i64) x.2.2.2.2.2.2 false]))) := by
 refine cut_ (A := ∀ (n : Nat) {x1 : List (List Int)} {x16 : Int} {x17 : Int} {y0_0 : Int} {y0_1 : List Int} {y0_2 : List Int} {y0_3 : List Int} {y0_4 : Int} {y0_5 : Int} {y0_6 : ByteArray} {y1 : List ((List Int) × (List Int))} {K : CK},S.lp tt (g22 k) lv22 0 n (loopN Tryz.f22 0) ⟨[(1,.dat (.sl (.int .i64)) x1 true),(2,.ptr 0 0),(6,.own 1),(16,.i .i64 x16),(17,.i .i64 x17)],[(0,.var [.i .i64 y0_0,.dat (.int .i64) y0_1 true,.dat (.int .i64) y0_2 true,.dat (.int .i64) y0_3 true,.i .i64 y0_4,.i .i64 y0_5,.s y0_6]),(1,.row (.pair (.sl (.int .i64)) (.sl (.int .i64))) y1 false)],2,57⟩ K = bindO (ref10_Shape.l0 k n x1 x16 x17 y0_0 y0_1 y0_2 y0_3 y0_4 y0_5 y0_6 y1) (Sum.elim (fun x : (List ((List Int) × (List Int))) => K (.exit 0) ⟨[(2,.ptr 0 0),(6,.own 1)],[(0,.var [.i .i64 y0_0,.dat (.int .i64) y0_1 true,.dat (.int .i64) y0_2 true,.dat (.int .i64) y0_3 true,.i .i64 y0_4,.i .i64 y0_5,.s y0_6]),(1,.row (.pair (.sl (.int .i64)) (.sl (.int .i64))) x false)],2,57⟩) (fun x : Int => K .ret ⟨[(4,.nilsl),(5,.i .i64 x)],[],0,57⟩))) (ind_ (by intros; rw [S.lp_zero]; exact none_c) ?_) ?_
 intro n ih; intros; rw [ref10_Shape.l0]; refine S.lp_succ ?_; conv => lhs; arg 5; whnf
 rotate_left
 intro w22_0
 refine cut_ (A := ∀ (n : Nat) {x1 : List (List Int)} {x2 : Int} {x7 : List Int} {x8 : Int} {x9 : Int} {x10 : Int} {y0_0 : List Int} {y0_1 : Int} {y1_0 : Int} {y1_1 : Int} {y1_2 : Int} {y1_3 : ByteArray} {K : CK},S.lp tt (g47 k) lv47 1 n (loopN Tryz.f47 1) ⟨[(0,.ptr 0 0),(1,.dat (.sl (.int .i64)) x1 true),(2,.i .i64 x2),(6,.ptr 1 0),(7,.dat (.int .i64) x7 false),(8,.i .i64 x8),(9,.i .i64 x9),(10,.i .i64 x10)],[(0,.var [.dat (.int .i64) y0_0 false,.i .i64 y0_1]),(1,.var [.i .i64 y1_0,.nilsl,.nilsl,.nilsl,.i .i64 y1_1,.i .i64 y1_2,.s y1_3])],2,64⟩ K = bindO (keep_Tape_dot.l1 k n x1 x2 x7 x8 x9 x10 y0_0 y0_1 y1_0 y1_1 y1_2 y1_3) (Sum.elim (fun x : Unit => K (.exit 2) ⟨[(0,.ptr 0 0),(1,.dat (.sl (.int .i64)) x1 true),(2,.i .i64 x2),(6,.ptr 1 0),(7,.dat (.int .i64) x7 false),(8,.i .i64 x8)],[(0,.var [.dat (.int .i64) y0_0 false,.i .i64 y0_1]),(1,.var [.i .i64 y1_0,.nilsl,.nilsl,.nilsl,.i .i64 y1_1,.i .i64 y1_2,.s y1_3])],2,64⟩) (fun x : Int × Int × Int × ByteArray × (List Int) × (List Int) => K .ret ⟨[(6,.ptr 1 0)],[(0,.var [.dat (.int .i64) y0_0 false,.i .i64 y0_1]),(1,.var [.i .i64 x.1,.own 2,.nilsl,.own 3,.i .i64 x.2.1,.i .i64 x.2.2.1,.s x.2.2.2.1]),(2,.row (.int .i64) x.2.2.2.2.1 false),(3,.row (.int .i64) x.2.2.2.2.2 false)],4,64⟩))) (ind_ (by intros; rw [S.lp_zero]; exact none_c) ?_) ?_
 intro n ih; intros; rw [keep_Tape_dot.l1]; refine S.lp_succ ?_; conv => lhs; arg 5; whnf
 rotate_left
 intro w47_1
 refine cut_ (A := ∀ (n : Nat) {x1 : List (List Int)} {x2 : Int} {x7 : List Int} {x8 : Int} {y0_0 : List Int} {y0_1 : Int} {y1_0 : Int} {y1_1 : Int} {y1_2 : Int} {y1_3 : ByteArray} {K : CK},S.lp tt (g47 k) lv47 1 n (loopN Tryz.f47 0) ⟨[(0,.ptr 0 0),(1,.dat (.sl (.int .i64)) x1 true),(2,.i .i64 x2),(6,.ptr 1 0),(7,.dat (.int .i64) x7 false),(8,.i .i64 x8)],[(0,.var [.dat (.int .i64) y0_0 false,.i .i64 y0_1]),(1,.var [.i .i64 y1_0,.nilsl,.nilsl,.nilsl,.i .i64 y1_1,.i .i64 y1_2,.s y1_3])],2,64⟩ K = bindO (keep_Tape_dot.l0 k n x1 x2 x7 x8 y0_0 y0_1 y1_0 y1_1 y1_2 y1_3) (Sum.elim (fun x : Int => K (.exit 0) ⟨[(2,.i .i64 x2),(6,.ptr 1 0)],[(0,.var [.dat (.int .i64) y0_0 false,.i .i64 x]),(1,.var [.i .i64 y1_0,.nilsl,.nilsl,.nilsl,.i .i64 y1_1,.i .i64 y1_2,.s y1_3])],2,64⟩) (fun x : Int × Int × Int × Int × ByteArray × (List Int) × (List Int) => K .ret ⟨[(6,.ptr 1 0)],[(0,.var [.dat (.int .i64) y0_0 false,.i .i64 x.1]),(1,.var [.i .i64 x.2.1,.own 2,.nilsl,.own 3,.i .i64 x.2.2.1,.i .i64 x.2.2.2.1,.s x.2.2.2.2.1]),(2,.row (.int .i64) x.2.2.2.2.2.1 false),(3,.row (.int .i64) x.2.2.2.2.2.2 false)],4,64⟩))) (ind_ (by intros; rw [S.lp_zero]; exact none_c) ?_) ?_
 intro n ih; intros; rw [keep_Tape_dot.l0]; refine S.lp_succ ?_; conv => lhs; arg 5; whnf
 rotate_left
 intro w47_0
 refine ⟨?_,?_⟩
 intro a0_0 a0_1 a0_2 a0_3 a0_4 a0_5 a0_6 a1
 unfold ref10_Shape.f; refine S.run_s rfl rfl ?_; conv => lhs; arg 5; whnf
 conv => lhs; arg 6; whnf
 rotate_left
 intro a1 a2 o0_0 o0_1
 unfold keep_Tape_dot.f; refine S.run_s rfl rfl ?_; conv => lhs; arg 5; whnf
 conv => lhs; arg 6; whnf
 rotate_left
 all_goals repeat' first|(first|refine S.seq_op rfl ?_|refine S.op_n ?_|refine S.block_x ?_|refine br_lt ?_|refine br_lf ?_|refine br_t (by assumption) ?_|refine br_f (by assumption) ?_|refine req_i (by with_reducible assumption) ?_|refine br_nd (fun _=>?_) (fun _=>?_)|refine br_d (fun _=>?_) (fun _=>?_)|refine br_n (fun _=>?_) (fun _=>?_)|refine br_c (fun _=>?_) (fun _=>?_)|refine req_c fun _=>?_|refine req_i (by assumption) ?_|refine bnd_c fun _=>?_)<;>(conv=>lhs;whnf)|refine S.seq_nil ?_|refine S.reg_n ?_|refine S.region rfl ?_|refine S.two ?_|refine S.blok ?_|refine S.cond rfl ?_|refine S.after_n ?_|refine S.block_n ?_|refine S.block_r ?_|refine S.after_x ?_|refine S.after_r ?_|refine S.skip ?_|refine S.exit ?_|refine S.ret ?_|refine sum_c (fun _=>?_) (fun _=>?_)|exact ih|refine (w22_0 _).trans ?_|refine (w47_1 _).trans ?_|refine (w47_0 _).trans ?_|(first|refine S.loop ?_|refine S.back_n ?_|refine S.back_x ?_|refine S.back_r ?_|refine S.fin_r ?_|refine S.fin_n ?_|refine S.dk_n ?_|refine S.draw_nil ?_)<;>(conv=>lhs;whnf)|exact ret_c rfl|exact none_c|(refine S.draw_op ?_; conv => lhs; whnf; arg 1; whnf)|refine andK_br ?_|refine andK_req ?_|refine andK_b ?_|refine andK_none ?_
theorem en22 (k : Nat) : EnvOK Tryz.prog (g22 k) := (envOK_add (snd51 k) (envOK_add (snd50 k) (envOK_add (snd49 k) (envOK_add snd48 (envOK_nil _)))))
theorem snd22 (k : Nat) : Sound Tryz.prog 22 (sp22 k) := by
 refine ⟨⟨Tryz.f22,Tryz.func22,by kernel_rfl,rfl⟩,fun args objs K r h => ?_⟩
 unfold sp22 at h; dsimp only at h; split at h
 ·rename_i a0_0 v0 v1 v2 a0_4 a0_5 a0_6 v3
  obtain ⟨a0_1,h9,ca0_1⟩ := listB_spec h; clear h
  have h := h9; clear h9
  obtain ⟨a0_2,h9,ca0_2⟩ := listB_spec h; clear h
  have h := h9; clear h9
  obtain ⟨a0_3,h9,ca0_3⟩ := listB_spec h; clear h
  have h := h9; clear h9
  obtain ⟨a1,h9,ca1⟩ := listB_spec h; clear h
  have h := h9; clear h9
  obtain ⟨x,hx,h⟩ := bindO_some h
  exact ⟨_,_,h,FnOK.args2 (relL_c (rel_agg (relL_c rel_i (relL_c ca0_1 (relL_c ca0_2 (relL_c ca0_3 (relL_c rel_i (relL_c rel_i (relL_c rel_i relL_n)))))))) (relL_c ca1 relL_n)) (fn_run tab_ok (en22 k) mixed Tryz.func22 (((lp7000 seals k).1 a0_0 a0_1 a0_2 a0_3 a0_4 a0_5 a0_6 a1).trans (bindO_eq hx)))⟩
 ·cases h
theorem en47 (k : Nat) : EnvOK Tryz.prog (g47 k) := (envOK_add (snd23 k) (envOK_add (snd22 k) (envOK_add snd12 (envOK_nil _))))
theorem snd47 (k : Nat) : Sound Tryz.prog 47 (sp47 k) := by
 refine ⟨⟨Tryz.f47,Tryz.func47,by kernel_rfl,rfl⟩,fun args objs K r h => ?_⟩
 unfold sp47 at h; dsimp only at h; split at h
 ·rename_i v0 a2 v1 o0_1
  obtain ⟨a1,h9,ca1⟩ := listB_spec h; clear h
  have h := h9; clear h9
  obtain ⟨o0_0,h9,eo0_0⟩ := datK_spec h; clear h; subst eo0_0
  have h := h9; clear h9
  obtain ⟨x,hx,h⟩ := bindO_some h
  exact ⟨_,_,h,FnOK.args2 (relL_c rel_i (relL_c ca1 (relL_c rel_i relL_n))) (fn_run tab_ok (en47 k) mixed Tryz.func47 (((lp7000 seals k).2 a1 a2 o0_0 o0_1).trans (bindO_eq hx)))⟩
 ·cases h
def lv21 : Live := look ⟨[],[],[],[],[]⟩ [(27,⟨[0,4,7,11,127,128],[4,7,11],[4],[(11,0,.own (.int .i64))],[]⟩),(40,⟨[4,7,14,15,16,180,181],[4,7,15,16],[4],[(16,0,.own (.int .i64))],[]⟩),(49,⟨[0,4,7,8,18,19,200,201],[4,7,18,19],[4],[(18,0,.own (.int .i64)),(19,0,.own (.int .i64))],[]⟩),(58,⟨[0,4,7,22,23,237,238],[0,4,7,22,23],[4],[(22,0,.own (.int .i64)),(23,0,.own (.int .i64))],[]⟩),(70,⟨[0,4,7,25,293,294],[0,4,7,25],[4],[(25,0,.own (.int .i64))],[]⟩),(1000000,⟨[],[],[],[(4,2,.fz (.int .i64)),(4,3,.own (.int .i64)),(4,1,.own (.int .i64)),(4,1,.fz (.int .i64))],[]⟩)]
noncomputable def g21 (k : Nat) : FEnv := (addF 47 (sp47 k) (addF 46 (sp46 k) (addF 45 sp45 (addF 44 (sp44 k) (addF 12 sp12 (fun _=>none))))))
def sp21 (k : Nat) : FSpec := ⟨[.rd,.rd],fun args objs K => match args,objs with | [.ptr 0 0,v0],[.var [v1,.i .i64 o0_1]] => listB (.sl (.int .i64)) true v0 fun a1 => datK (.int .i64) false v1 fun o0_0 => bindO (keep_Tape_node.f k a1 o0_0 o0_1) fun x : Int × (List Int) × (List Int) × Int × Int × ByteArray × Int × (List Int) => K (.agg [.i .i64 x.1,.dat (.int .i64) x.2.1 false,.dat (.int .i64) x.2.2.1 false,.own 1,.i .i64 x.2.2.2.1,.i .i64 x.2.2.2.2.1,.s x.2.2.2.2.2.1]) [.var [.dat (.int .i64) o0_0 false,.i .i64 x.2.2.2.2.2.2.1],.row (.int .i64) x.2.2.2.2.2.2.2 false] | _,_ => none⟩
theorem lp7001 (S : Seals) (k : Nat) : (∀ (a1 : List (List Int)) (o0_0 : List Int) (o0_1 : Int),runF tt (g21 k) lv21 Tryz.f21 k [.ptr 0 0,.dat (.sl (.int .i64)) a1 true] [.var [.dat (.int .i64) o0_0 false,.i .i64 o0_1]] = bindO (keep_Tape_node.f k a1 o0_0 o0_1) (fun x : Int × (List Int) × (List Int) × Int × Int × ByteArray × Int × (List Int) => some (.agg [.i .i64 x.1,.dat (.int .i64) x.2.1 false,.dat (.int .i64) x.2.2.1 false,.own 1,.i .i64 x.2.2.2.1,.i .i64 x.2.2.2.2.1,.s x.2.2.2.2.2.1],[.var [.dat (.int .i64) o0_0 false,.i .i64 x.2.2.2.2.2.2.1],.row (.int .i64) x.2.2.2.2.2.2.2 false]))) := by
 refine cut_ (A := ∀ (n : Nat) {x7 : Int} {x127 : Int} {x128 : Int} {y0_0 : List Int} {y0_1 : Int} {y1_0 : Int} {y1_1 : Int} {y1_2 : Int} {y1_3 : ByteArray} {y2 : List Int} {K : CK},S.lp tt (g21 k) lv21 1 n (loopN Tryz.f21 0) ⟨[(0,.ptr 0 0),(4,.ptr 1 0),(7,.i .i64 x7),(11,.own 2),(127,.i .i64 x127),(128,.i .i64 x128)],[(0,.var [.dat (.int .i64) y0_0 false,.i .i64 y0_1]),(1,.var [.i .i64 y1_0,.nilsl,.nilsl,.nilsl,.i .i64 y1_1,.i .i64 y1_2,.s y1_3]),(2,.row (.int .i64) y2 false)],3,341⟩ K = bindO (keep_Tape_node.l0 n x7 x127 x128 y0_0 y0_1 y1_0 y1_1 y1_2 y1_3 y2) (fun x : Int × (List Int) => K (.exit 2) ⟨[(4,.ptr 1 0),(7,.i .i64 x7),(11,.own 2)],[(0,.var [.dat (.int .i64) y0_0 false,.i .i64 x.1]),(1,.var [.i .i64 y1_0,.nilsl,.nilsl,.nilsl,.i .i64 y1_1,.i .i64 y1_2,.s y1_3]),(2,.row (.int .i64) x.2 false)],3,341⟩)) (ind_ (by intros; rw [S.lp_zero]; exact none_c) ?_) ?_
 intro n ih; intros; rw [keep_Tape_node.l0]; refine S.lp_succ ?_; conv => lhs; arg 5; whnf
 rotate_left
 intro w21_0
 refine cut_ (A := ∀ (n : Nat) {x7 : Int} {x14 : Int} {x180 : Int} {x181 : Int} {y0_0 : List Int} {y0_1 : Int} {y1_0 : Int} {y1_1 : Int} {y1_2 : Int} {y1_3 : ByteArray} {y2 : List Int} {y3 : List Int} {K : CK},S.lp tt (g21 k) lv21 1 n (loopN Tryz.f21 1) ⟨[(4,.ptr 1 0),(7,.i .i64 x7),(14,.i .i64 x14),(15,.own 2),(16,.own 3),(180,.i .i64 x180),(181,.i .i64 x181)],[(0,.var [.dat (.int .i64) y0_0 false,.i .i64 y0_1]),(1,.var [.i .i64 y1_0,.nilsl,.nilsl,.nilsl,.i .i64 y1_1,.i .i64 y1_2,.s y1_3]),(2,.row (.int .i64) y2 false),(3,.row (.int .i64) y3 false)],4,341⟩ K = bindO (keep_Tape_node.l1 n x7 x14 x180 x181 y0_0 y0_1 y1_0 y1_1 y1_2 y1_3 y2 y3) (fun x : (List Int) => K (.exit 4) ⟨[(4,.ptr 1 0),(7,.i .i64 x7),(15,.own 2),(16,.own 3)],[(0,.var [.dat (.int .i64) y0_0 false,.i .i64 y0_1]),(1,.var [.i .i64 y1_0,.nilsl,.nilsl,.nilsl,.i .i64 y1_1,.i .i64 y1_2,.s y1_3]),(2,.row (.int .i64) y2 false),(3,.row (.int .i64) x false)],4,341⟩)) (ind_ (by intros; rw [S.lp_zero]; exact none_c) ?_) ?_
 intro n ih; intros; rw [keep_Tape_node.l1]; refine S.lp_succ ?_; conv => lhs; arg 5; whnf
 rotate_left
 intro w21_1
 refine cut_ (A := ∀ (n : Nat) {x7 : Int} {x8 : List Int} {x200 : Int} {x201 : Int} {y0_0 : List Int} {y0_1 : Int} {y1_0 : Int} {y1_1 : Int} {y1_2 : Int} {y1_3 : ByteArray} {y2 : List Int} {y3 : List Int} {K : CK},S.lp tt (g21 k) lv21 1 n (loopN Tryz.f21 2) ⟨[(0,.ptr 0 0),(4,.ptr 1 0),(7,.i .i64 x7),(8,.dat (.int .i64) x8 false),(18,.own 2),(19,.own 3),(200,.i .i64 x200),(201,.i .i64 x201)],[(0,.var [.dat (.int .i64) y0_0 false,.i .i64 y0_1]),(1,.var [.i .i64 y1_0,.nilsl,.nilsl,.nilsl,.i .i64 y1_1,.i .i64 y1_2,.s y1_3]),(2,.row (.int .i64) y2 false),(3,.row (.int .i64) y3 false)],4,341⟩ K = bindO (keep_Tape_node.l2 n x7 x8 x200 x201 y0_0 y0_1 y1_0 y1_1 y1_2 y1_3 y2 y3) (fun x : Int × (List Int) × (List Int) => K (.exit 6) ⟨[(4,.ptr 1 0),(7,.i .i64 x7),(18,.own 2),(19,.own 3)],[(0,.var [.dat (.int .i64) y0_0 false,.i .i64 x.1]),(1,.var [.i .i64 y1_0,.nilsl,.nilsl,.nilsl,.i .i64 y1_1,.i .i64 y1_2,.s y1_3]),(2,.row (.int .i64) x.2.1 false),(3,.row (.int .i64) x.2.2 false)],4,341⟩)) (ind_ (by intros; rw [S.lp_zero]; exact none_c) ?_) ?_
 intro n ih; intros; rw [keep_Tape_node.l2]; refine S.lp_succ ?_; conv => lhs; arg 5; whnf
 rotate_left
 intro w21_2
 refine cut_ (A := ∀ (n : Nat) {x7 : Int} {x237 : Int} {x238 : Int} {y0_0 : List Int} {y0_1 : Int} {y1_0 : Int} {y1_1 : Int} {y1_2 : Int} {y1_3 : ByteArray} {y2 : List Int} {y3 : List Int} {K : CK},S.lp tt (g21 k) lv21 1 n (loopN Tryz.f21 3) ⟨[(0,.ptr 0 0),(4,.ptr 1 0),(7,.i .i64 x7),(22,.own 2),(23,.own 3),(237,.i .i64 x237),(238,.i .i64 x238)],[(0,.var [.dat (.int .i64) y0_0 false,.i .i64 y0_1]),(1,.var [.i .i64 y1_0,.nilsl,.nilsl,.nilsl,.i .i64 y1_1,.i .i64 y1_2,.s y1_3]),(2,.row (.int .i64) y2 false),(3,.row (.int .i64) y3 false)],4,341⟩ K = bindO (keep_Tape_node.l3 n x7 x237 x238 y0_0 y0_1 y1_0 y1_1 y1_2 y1_3 y2 y3) (fun x : Int × (List Int) × (List Int) => K (.exit 8) ⟨[(0,.ptr 0 0),(4,.ptr 1 0),(7,.i .i64 x7),(22,.own 2),(23,.own 3)],[(0,.var [.dat (.int .i64) y0_0 false,.i .i64 x.1]),(1,.var [.i .i64 y1_0,.nilsl,.nilsl,.nilsl,.i .i64 y1_1,.i .i64 y1_2,.s y1_3]),(2,.row (.int .i64) x.2.1 false),(3,.row (.int .i64) x.2.2 false)],4,341⟩)) (ind_ (by intros; rw [S.lp_zero]; exact none_c) ?_) ?_
 intro n ih; intros; rw [keep_Tape_node.l3]; refine S.lp_succ ?_; conv => lhs; arg 5; whnf
 rotate_left
 intro w21_3
 refine cut_ (A := ∀ (n : Nat) {x7 : Int} {x293 : Int} {x294 : Int} {y0_0 : List Int} {y0_1 : Int} {y1_0 : Int} {y1_1 : Int} {y1_2 : Int} {y1_3 : ByteArray} {y2 : List Int} {K : CK},S.lp tt (g21 k) lv21 1 n (loopN Tryz.f21 4) ⟨[(0,.ptr 0 0),(4,.ptr 1 0),(7,.i .i64 x7),(25,.own 2),(293,.i .i64 x293),(294,.i .i64 x294)],[(0,.var [.dat (.int .i64) y0_0 false,.i .i64 y0_1]),(1,.var [.i .i64 y1_0,.nilsl,.nilsl,.nilsl,.i .i64 y1_1,.i .i64 y1_2,.s y1_3]),(2,.row (.int .i64) y2 false)],3,341⟩ K = bindO (keep_Tape_node.l4 n x7 x293 x294 y0_0 y0_1 y1_0 y1_1 y1_2 y1_3 y2) (fun x : Int × (List Int) => K (.exit 10) ⟨[(0,.ptr 0 0),(4,.ptr 1 0),(7,.i .i64 x7),(25,.own 2)],[(0,.var [.dat (.int .i64) y0_0 false,.i .i64 x.1]),(1,.var [.i .i64 y1_0,.nilsl,.nilsl,.nilsl,.i .i64 y1_1,.i .i64 y1_2,.s y1_3]),(2,.row (.int .i64) x.2 false)],3,341⟩)) (ind_ (by intros; rw [S.lp_zero]; exact none_c) ?_) ?_
 intro n ih; intros; rw [keep_Tape_node.l4]; refine S.lp_succ ?_; conv => lhs; arg 5; whnf
 rotate_left
 intro w21_4
 skip
 intro a1 o0_0 o0_1
 unfold keep_Tape_node.f; refine S.run_s rfl rfl ?_; conv => lhs; arg 5; whnf
 conv => lhs; arg 6; whnf
 rotate_left
 all_goals repeat' first|(first|refine S.seq_op rfl ?_|refine S.op_n ?_|refine S.block_x ?_|refine br_lt ?_|refine br_lf ?_|refine br_t (by assumption) ?_|refine br_f (by assumption) ?_|refine req_i (by with_reducible assumption) ?_|refine br_nd (fun _=>?_) (fun _=>?_)|refine br_d (fun _=>?_) (fun _=>?_)|refine br_n (fun _=>?_) (fun _=>?_)|refine br_c (fun _=>?_) (fun _=>?_)|refine req_c fun _=>?_|refine req_i (by assumption) ?_|refine bnd_c fun _=>?_)<;>(conv=>lhs;whnf)|refine S.seq_nil ?_|refine S.reg_n ?_|refine S.region rfl ?_|refine S.two ?_|refine S.blok ?_|refine S.cond rfl ?_|refine S.after_n ?_|refine S.block_n ?_|refine S.block_r ?_|refine S.after_x ?_|refine S.after_r ?_|refine S.skip ?_|refine S.exit ?_|refine S.ret ?_|refine sum_c (fun _=>?_) (fun _=>?_)|refine S.region_d (id := 30) (ds := [0,0,0,6,15,0,32,127,0,0,768,2047,4095]) (mds := [[],[],[],[],[],[],[],[],[],[],[],[],[]]) (hm := []) (by kernel_rfl) (by kernel_rfl) rfl rfl ?_|exact ih|refine (w21_0 _).trans ?_|refine (w21_1 _).trans ?_|refine (w21_2 _).trans ?_|refine (w21_3 _).trans ?_|refine (w21_4 _).trans ?_|refine S.region_d (id := 52) (ds := [0,0,2,7,0,0,0,0,192,448,0,1984,4032,8175,16367,32767,65535,131071]) (mds := [[],[],[],[2],[],[],[],[],[],[],[],[],[],[0],[],[3],[],[]]) (hm := [(3,[2]),(13,[0]),(15,[3])]) (by kernel_rfl) (by kernel_rfl) rfl rfl ?_|refine S.region_d (id := 23) (ds := [0,0,0,0,8,28,62,126,0,0,0,1024,3644,7996,16188,32767,65535,131071]) (mds := [[],[],[],[],[],[0],[],[],[],[],[],[],[0],[],[],[],[],[1]]) (hm := [(5,[0]),(12,[0]),(17,[1])]) (by kernel_rfl) (by kernel_rfl) rfl rfl ?_|refine S.region_d (id := 37) (ds := [0,0,0,6,15,0,63,127,255,511,0,0,3072,8191,16383]) (mds := [[],[],[],[],[],[],[0],[],[],[],[],[],[],[],[]]) (hm := [(6,[0])]) (by kernel_rfl) (by kernel_rfl) rfl rfl ?_|refine S.region_d (id := 66) (ds := [0,0,0,0,8,28,62,126,0,511,0,1084,3132,8191,0,0,32768,117820,248892,524287,1048575]) (mds := [[],[],[],[],[],[0],[],[],[],[],[],[0],[],[],[],[],[],[0],[],[],[1]]) (hm := [(5,[0]),(11,[0]),(17,[0]),(20,[1])]) (by kernel_rfl) (by kernel_rfl) rfl rfl ?_|(first|refine S.loop ?_|refine S.back_n ?_|refine S.back_x ?_|refine S.back_r ?_|refine S.fin_r ?_|refine S.fin_n ?_|refine S.dk_n ?_|refine S.draw_nil ?_)<;>(conv=>lhs;whnf)|exact ret_c rfl|exact none_c|(refine S.draw_op ?_; conv => lhs; whnf; arg 1; whnf)|refine andK_br ?_|refine andK_req ?_|refine andK_b ?_|refine andK_none ?_
theorem en21 (k : Nat) : EnvOK Tryz.prog (g21 k) := (envOK_add (snd47 k) (envOK_add (snd46 k) (envOK_add snd45 (envOK_add (snd44 k) (envOK_add snd12 (envOK_nil _))))))
theorem snd21 (k : Nat) : Sound Tryz.prog 21 (sp21 k) := by
 refine ⟨⟨Tryz.f21,Tryz.func21,by kernel_rfl,rfl⟩,fun args objs K r h => ?_⟩
 unfold sp21 at h; dsimp only at h; split at h
 ·rename_i v0 v1 o0_1
  obtain ⟨a1,h9,ca1⟩ := listB_spec h; clear h
  have h := h9; clear h9
  obtain ⟨o0_0,h9,eo0_0⟩ := datK_spec h; clear h; subst eo0_0
  have h := h9; clear h9
  obtain ⟨x,hx,h⟩ := bindO_some h
  exact ⟨_,_,h,FnOK.args2 (relL_c rel_i (relL_c ca1 relL_n)) (fn_run tab_ok (en21 k) mixed Tryz.func21 (((lp7001 seals k) a1 o0_0 o0_1).trans (bindO_eq hx)))⟩
 ·cases h
def lv52 : Live := look ⟨[],[],[],[],[]⟩ [(3,⟨[3,7],[3],[2],[(3,0,.own (.int .i32))],[]⟩)]
noncomputable def g52 : FEnv := (fun _=>none)
def sp52 (k : Nat) : FSpec := ⟨[.rd],fun args objs K => match args,objs with | [.s a0],[] => bindO (ref9_Runes.f k a0) fun x : (List Int) => K (.own 0) [.row (.int .i32) x false] | _,_ => none⟩
def lv24 : Live := look ⟨[],[],[],[],[]⟩ [(4,⟨[1,5,6,11,12],[6],[4],[],[]⟩)]
noncomputable def g24 (k : Nat) : FEnv := (addF 52 (sp52 k) (fun _=>none))
def sp24 (k : Nat) : FSpec := ⟨[.rd,.rd],fun args objs K => match args,objs with | [.s a0,v0],[] => listB (.int .i64) true v0 fun a1 => bindO (ref9_Text.f k a0 a1) fun x : ByteArray => K (.s x) [] | _,_ => none⟩
def lv25 : Live := look ⟨[],[],[],[],[]⟩ [(4,⟨[0,1,7,8,17,18],[7],[6],[],[]⟩)]
noncomputable def g25 : FEnv := (addF 12 sp12 (fun _=>none))
def sp25 (k : Nat) : FSpec := ⟨[.rd,.rd,.rd],fun args objs K => match args,objs with | [.ptr 0 0,v0,.i .i64 a2],[.var [v1,.i .i64 o0_1]] => listB (.int .i64) true v0 fun a1 => datK (.int .i64) false v1 fun o0_0 => bindO (keep_Tape_Spec.f k a1 a2 o0_0 o0_1) fun x : Int × (List Int) => K (.own 1) [.var [.dat (.int .i64) o0_0 false,.i .i64 x.1],.row (.int .i64) x.2 false] | _,_ => none⟩
theorem lp7002 (S : Seals) (k : Nat) : (∀ (a0 : ByteArray),runF tt (g52) lv52 Tryz.f52 k [.s a0] [] = bindO (ref9_Runes.f k a0) (fun x : (List Int) => some (.own 0,[.row (.int .i32) x false]))) ∧ (∀ (a0 : ByteArray) (a1 : List Int),runF tt (g24 k) lv24 Tryz.f24 k [.s a0,.dat (.int .i64) a1 true] [] = bindO (ref9_Text.f k a0 a1) (fun x : ByteArray => some (.s x,[]))) ∧ (∀ (a1 : List Int) (a2 : Int) (o0_0 : List Int) (o0_1 : Int),runF tt (g25) lv25 Tryz.f25 k [.ptr 0 0,.dat (.int .i64) a1 true,.i .i64 a2] [.var [.dat (.int .i64) o0_0 false,.i .i64 o0_1]] = bindO (keep_Tape_Spec.f k a1 a2 o0_0 o0_1) (fun x : Int × (List Int) => some (.own 1,[.var [.dat (.int .i64) o0_0 false,.i .i64 x.1],.row (.int .i64) x.2 false]))) := by
 refine cut_ (A := ∀ (n : Nat) {y0 : List Int} {y1_0 : ByteArray} {y1_1 : Nat} {K : CK},S.lp tt (g52) lv52 0 n (loopN Tryz.f52 0) ⟨[(3,.own 0),(7,.ptr 1 0)],[(0,.row (.int .i32) y0 false),(1,.ext (.iter y1_0 y1_1))],2,16⟩ K = bindO (ref9_Runes.l0 n y0 y1_0 y1_1) (fun x : (List Int) => K (.exit 0) ⟨[(3,.own 0)],[(0,.row (.int .i32) x false)],1,16⟩)) (ind_ (by intros; rw [S.lp_zero]; exact none_c) ?_) ?_
 intro n ih; intros; rw [ref9_Runes.l0]; refine S.lp_succ ?_; conv => lhs; arg 5; whnf
 rotate_left
 intro w52_0
 refine cut_ (A := ∀ (n : Nat) {x1 : List Int} {x6 : ByteArray} {x11 : Int} {x12 : Int} {y0 : List Int} {K : CK},S.lp tt (g24 k) lv24 0 n (loopN Tryz.f24 0) ⟨[(1,.dat (.int .i64) x1 true),(5,.own 0),(6,.s x6),(11,.i .i64 x11),(12,.i .i64 x12)],[(0,.row (.int .i32) y0 false)],1,43⟩ K = bindO (ref9_Text.l0 n x1 x6 x11 x12 y0) (fun x : ByteArray => K (.exit 0) ⟨[(6,.s x)],[],0,43⟩)) (ind_ (by intros; rw [S.lp_zero]; exact none_c) ?_) ?_
 intro n ih; intros; rw [ref9_Text.l0]; refine S.lp_succ ?_; conv => lhs; arg 5; whnf
 rotate_left
 intro w24_0
 refine cut_ (A := ∀ (n : Nat) {x1 : List Int} {x17 : Int} {x18 : Int} {y0_0 : List Int} {y0_1 : Int} {y1 : List Int} {y2 : List Bool} {K : CK},S.lp tt (g25) lv25 1 n (loopN Tryz.f25 0) ⟨[(0,.ptr 0 0),(1,.dat (.int .i64) x1 true),(7,.own 1),(8,.own 2),(17,.i .i64 x17),(18,.i .i64 x18)],[(0,.var [.dat (.int .i64) y0_0 false,.i .i64 y0_1]),(1,.row (.int .i64) y1 false),(2,.row .bool y2 false)],3,50⟩ K = bindO (keep_Tape_Spec.l0 n x1 x17 x18 y0_0 y0_1 y1 y2) (fun x : Int × (List Int) => K (.exit 0) ⟨[(7,.own 1)],[(0,.var [.dat (.int .i64) y0_0 false,.i .i64 x.1]),(1,.row (.int .i64) x.2 false)],2,50⟩)) (ind_ (by intros; rw [S.lp_zero]; exact none_c) ?_) ?_
 intro n ih; intros; rw [keep_Tape_Spec.l0]; refine S.lp_succ ?_; conv => lhs; arg 5; whnf
 rotate_left
 intro w25_0
 refine ⟨?_,?_,?_⟩
 intro a0
 unfold ref9_Runes.f; refine S.run_s rfl rfl ?_; conv => lhs; arg 5; whnf
 conv => lhs; arg 6; whnf
 rotate_left
 intro a0 a1
 unfold ref9_Text.f; refine S.run_s rfl rfl ?_; conv => lhs; arg 5; whnf
 conv => lhs; arg 6; whnf
 rotate_left
 intro a1 a2 o0_0 o0_1
 unfold keep_Tape_Spec.f; refine S.run_s rfl rfl ?_; conv => lhs; arg 5; whnf
 conv => lhs; arg 6; whnf
 rotate_left
 all_goals repeat' first|(first|refine S.seq_op rfl ?_|refine S.op_n ?_|refine S.block_x ?_|refine br_lt ?_|refine br_lf ?_|refine br_t (by assumption) ?_|refine br_f (by assumption) ?_|refine req_i (by with_reducible assumption) ?_|refine br_nd (fun _=>?_) (fun _=>?_)|refine br_d (fun _=>?_) (fun _=>?_)|refine br_n (fun _=>?_) (fun _=>?_)|refine br_c (fun _=>?_) (fun _=>?_)|refine req_c fun _=>?_|refine req_i (by assumption) ?_|refine bnd_c fun _=>?_)<;>(conv=>lhs;whnf)|refine S.seq_nil ?_|refine S.reg_n ?_|refine S.region rfl ?_|refine S.two ?_|refine S.blok ?_|refine S.cond rfl ?_|refine S.after_n ?_|refine S.block_n ?_|refine S.block_r ?_|refine S.after_x ?_|refine S.after_r ?_|refine S.skip ?_|refine S.exit ?_|refine S.ret ?_|refine sum_c (fun _=>?_) (fun _=>?_)|exact ih|refine (w52_0 _).trans ?_|refine (w24_0 _).trans ?_|refine (w25_0 _).trans ?_|(first|refine S.loop ?_|refine S.back_n ?_|refine S.back_x ?_|refine S.back_r ?_|refine S.fin_r ?_|refine S.fin_n ?_|refine S.dk_n ?_|refine S.draw_nil ?_)<;>(conv=>lhs;whnf)|exact ret_c rfl|exact none_c|(refine S.draw_op ?_; conv => lhs; whnf; arg 1; whnf)|refine andK_br ?_|refine andK_req ?_|refine andK_b ?_|refine andK_none ?_
theorem en52 : EnvOK Tryz.prog (g52) := (envOK_nil _)
theorem snd52 (k : Nat) : Sound Tryz.prog 52 (sp52 k) := by
 refine ⟨⟨Tryz.f52,Tryz.func52,by kernel_rfl,rfl⟩,fun args objs K r h => ?_⟩
 unfold sp52 at h; dsimp only at h; split at h
 ·rename_i a0
  obtain ⟨x,hx,h⟩ := bindO_some h
  exact ⟨_,_,h,FnOK.args2 (relL_c rel_i relL_n) (fn_run tab_ok (en52) mixed Tryz.func52 (((lp7002 seals k).1 a0).trans (bindO_eq hx)))⟩
 ·cases h
theorem en24 (k : Nat) : EnvOK Tryz.prog (g24 k) := (envOK_add (snd52 k) (envOK_nil _))
theorem snd24 (k : Nat) : Sound Tryz.prog 24 (sp24 k) := by
 refine ⟨⟨Tryz.f24,Tryz.func24,by kernel_rfl,rfl⟩,fun args objs K r h => ?_⟩
 unfold sp24 at h; dsimp only at h; split at h
 ·rename_i a0 v0
  obtain ⟨a1,h9,ca1⟩ := listB_spec h; clear h
  have h := h9; clear h9
  obtain ⟨x,hx,h⟩ := bindO_some h
  exact ⟨_,_,h,FnOK.args2 (relL_c rel_i (relL_c ca1 relL_n)) (fn_run tab_ok (en24 k) mixed Tryz.func24 (((lp7002 seals k).2.1 a0 a1).trans (bindO_eq hx)))⟩
 ·cases h
theorem en25 : EnvOK Tryz.prog (g25) := (envOK_add snd12 (envOK_nil _))
theorem snd25 (k : Nat) : Sound Tryz.prog 25 (sp25 k) := by
 refine ⟨⟨Tryz.f25,Tryz.func25,by kernel_rfl,rfl⟩,fun args objs K r h => ?_⟩
 unfold sp25 at h; dsimp only at h; split at h
 ·rename_i v0 a2 v1 o0_1
  obtain ⟨a1,h9,ca1⟩ := listB_spec h; clear h
  have h := h9; clear h9
  obtain ⟨o0_0,h9,eo0_0⟩ := datK_spec h; clear h; subst eo0_0
  have h := h9; clear h9
  obtain ⟨x,hx,h⟩ := bindO_some h
  exact ⟨_,_,h,FnOK.args2 (relL_c rel_i (relL_c ca1 (relL_c rel_i relL_n))) (fn_run tab_ok (en25) mixed Tryz.func25 (((lp7002 seals k).2.2 a1 a2 o0_0 o0_1).trans (bindO_eq hx)))⟩
 ·cases h
def lv7 : Live := look ⟨[],[],[],[],[]⟩ [(6,⟨[2,3,4,5,6],[2,3,4,5],[2],[(5,0,.own (.sl (.int .i64))),(4,2,.own (.pair (.int .i64) (.pair (.sl (.int .i64)) (.pair (.sl (.int .i64)) (.pair (.sl (.int .i64)) (.pair (.int .i64) (.pair (.int .i64) .str)))))))],[]⟩),(11,⟨[2,3,4,5,6,7,8,35,36,37],[2,3,4,5,6,7,8],[2],[(8,0,.own (.sl (.int .i64)))],[]⟩),(21,⟨[2,3,4,5,13],[2,4],[2],[(4,3,.own (.int .i64))],[]⟩)]
noncomputable def g7 (k : Nat) : FEnv := (addF 24 (sp24 k) (addF 25 (sp25 k) (addF 23 (sp23 k) (addF 22 (sp22 k) (addF 21 (sp21 k) (addF 12 sp12 (addF 20 sp20 (fun _=>none))))))))
def sp7 (k : Nat) : FSpec := ⟨[.st],fun args objs K => match args,objs with | [v0],[] => listB (.int .i64) false v0 fun a0 => bindO (keep_Graph.f k a0) fun x : ByteArray × (List Int) × (List (Int × (List Int) × (List Int) × (List Int) × Int × Int × ByteArray)) × (List Int) => K (.agg [.own 0,.s x.1,.own 1,.own 2]) [.row (.int .i64) x.2.1 false,.row (.pair (.int .i64) (.pair (.sl (.int .i64)) (.pair (.sl (.int .i64)) (.pair (.sl (.int .i64)) (.pair (.int .i64) (.pair (.int .i64) .str)))))) x.2.2.1 false,.row (.int .i64) x.2.2.2 false] | _,_ => none⟩
def lv9 : Live := look ⟨[],[],[],[],[]⟩ [(4,⟨[0,1,12,13],[],[4],[],[]⟩)]
noncomputable def g9 (k : Nat) : FEnv := (addF 30 (sp30 k) (fun _=>none))
def sp9 (k : Nat) : FSpec := ⟨[.rd,.rd],fun args objs K => match args,objs with | [v0,v1],[] => listB (.sl (.int .i64)) true v0 fun a0 => listB (.sl (.int .i64)) true v1 fun a1 => bindO (law10_rows.f k a0 a1) fun x : Bool => K (.b x) [] | _,_ => none⟩
def lv3 : Live := look ⟨[],[],[],[],[]⟩ []
noncomputable def g3 (k : Nat) : FEnv := (addF 11 (sp11 k) (addF 10 (sp10 k) (addF 9 (sp9 k) (addF 8 (sp8 k) (addF 7 (sp7 k) (fun _=>none))))))
def sp3 (k : Nat) : FSpec := ⟨[.st],fun args objs K => match args,objs with | [v0],[] => listB (.int .i64) false v0 fun a0 => bindO (law10_GraphMade.f k a0) fun x : Bool => K (.b x) [] | _,_ => none⟩
theorem lp7003 (S : Seals) (k : Nat) : (∀ (a0 : List Int),runF tt (g7 k) lv7 Tryz.f7 k [.dat (.int .i64) a0 false] [] = bindO (keep_Graph.f k a0) (fun x : ByteArray × (List Int) × (List (Int × (List Int) × (List Int) × (List Int) × Int × Int × ByteArray)) × (List Int) => some (.agg [.own 0,.s x.1,.own 1,.own 2],[.row (.int .i64) x.2.1 false,.row (.pair (.int .i64) (.pair (.sl (.int .i64)) (.pair (.sl (.int .i64)) (.pair (.sl (.int .i64)) (.pair (.int .i64) (.pair (.int .i64) .str)))))) x.2.2.1 false,.row (.int .i64) x.2.2.2 false]))) ∧ (∀ (a0 : List (List Int)) (a1 : List (List Int)),runF tt (g9 k) lv9 Tryz.f9 k [.dat (.sl (.int .i64)) a0 true,.dat (.sl (.int .i64)) a1 true] [] = bindO (law10_rows.f k a0 a1) (fun x : Bool => some (.b x,[]))) ∧ (∀ (a0 : List Int),runF tt (g3 k) lv3 Tryz.f3 k [.dat (.int .i64) a0 false] [] = bindO (law10_GraphMade.f k a0) (fun x : Bool => some (.b x,[]))) := by
 refine cut_ (A := ∀ (n : Nat) {x6 : Int} {x35 : List Int} {x36 : Int} {x37 : Int} {y0 : ByteArray} {y1_0 : List Int} {y1_1 : Int} {y2 : ByteArray} {y3 : List (List Int)} {y4_0 : Int} {y4_1 : List Int} {y4_2 : List Int} {y4_3 : Int} {y4_4 : Int} {y4_5 : ByteArray} {y5 : List (List Int)} {y6 : List Int} {y7 : List (Int × (List Int) × (List Int) × (List Int) × Int × Int × ByteArray)} {y8 : List Int} {K : CK},S.lp tt (g7 k) lv7 0 n (loopN Tryz.f7 1) ⟨[(2,.ptr 0 0),(3,.ptr 1 0),(4,.ptr 2 0),(5,.own 3),(6,.i .i64 x6),(7,.ptr 4 0),(8,.own 5),(35,.dat (.int .i64) x35 false),(36,.i .i64 x36),(37,.i .i64 x37)],[(0,.var [.nilsl,.s y0,.nilsl,.nilsl]),(1,.var [.dat (.int .i64) y1_0 false,.i .i64 y1_1]),(2,.var [.own 6,.s y2,.own 7,.nilsl]),(3,.row (.sl (.int .i64)) y3 false),(4,.var [.i .i64 y4_0,.dat (.int .i64) y4_1 false,.dat (.int .i64) y4_2 false,.own 8,.i .i64 y4_3,.i .i64 y4_4,.s y4_5]),(5,.row (.sl (.int .i64)) y5 false),(6,.row (.int .i64) y6 false),(7,.row (.pair (.int .i64) (.pair (.sl (.int .i64)) (.pair (.sl (.int .i64)) (.pair (.sl (.int .i64)) (.pair (.int .i64) (.pair (.int .i64) .str)))))) y7 false),(8,.row (.int .i64) y8 false)],9,115⟩ K = bindO (keep_Graph.l1 n x6 x35 x36 x37 y0 y1_0 y1_1 y2 y3 y4_0 y4_1 y4_2 y4_3 y4_4 y4_5 y5 y6 y7 y8) (fun x : (List (List Int)) => K (.exit 2) ⟨[(2,.ptr 0 0),(3,.ptr 1 0),(4,.ptr 2 0),(5,.own 3),(6,.i .i64 x6),(7,.ptr 4 0),(8,.own 5)],[(0,.var [.nilsl,.s y0,.nilsl,.nilsl]),(1,.var [.dat (.int .i64) y1_0 false,.i .i64 y1_1]),(2,.var [.own 6,.s y2,.own 7,.nilsl]),(3,.row (.sl (.int .i64)) y3 false),(4,.var [.i .i64 y4_0,.dat (.int .i64) y4_1 false,.dat (.int .i64) y4_2 false,.own 8,.i .i64 y4_3,.i .i64 y4_4,.s y4_5]),(5,.row (.sl (.int .i64)) x false),(6,.row (.int .i64) y6 false),(7,.row (.pair (.int .i64) (.pair (.sl (.int .i64)) (.pair (.sl (.int .i64)) (.pair (.sl (.int .i64)) (.pair (.int .i64) (.pair (.int .i64) .str)))))) y7 false),(8,.row (.int .i64) y8 false)],9,115⟩)) (ind_ (by intros; rw [S.lp_zero]; exact none_c) ?_) ?_
 intro n ih; intros; rw [keep_Graph.l1]; refine S.lp_succ ?_; conv => lhs; arg 5; whnf
 rotate_left
 intro w7_1
 refine cut_ (A := ∀ (n : Nat) {x6 : Int} {y0 : ByteArray} {y1_0 : List Int} {y1_1 : Int} {y2 : ByteArray} {y3 : List (List Int)} {y4 : List Int} {y5 : List (Int × (List Int) × (List Int) × (List Int) × Int × Int × ByteArray)} {K : CK},S.lp tt (g7 k) lv7 0 n (loopN Tryz.f7 0) ⟨[(2,.ptr 0 0),(3,.ptr 1 0),(4,.ptr 2 0),(5,.own 3),(6,.i .i64 x6)],[(0,.var [.nilsl,.s y0,.nilsl,.nilsl]),(1,.var [.dat (.int .i64) y1_0 false,.i .i64 y1_1]),(2,.var [.own 4,.s y2,.own 5,.nilsl]),(3,.row (.sl (.int .i64)) y3 false),(4,.row (.int .i64) y4 false),(5,.row (.pair (.int .i64) (.pair (.sl (.int .i64)) (.pair (.sl (.int .i64)) (.pair (.sl (.int .i64)) (.pair (.int .i64) (.pair (.int .i64) .str)))))) y5 false)],6,115⟩ K = bindO (keep_Graph.l0 k n x6 y0 y1_0 y1_1 y2 y3 y4 y5) (fun x : Int × (List (List Int)) × (List (Int × (List Int) × (List Int) × (List Int) × Int × Int × ByteArray)) => K (.exit 0) ⟨[(2,.ptr 0 0),(3,.ptr 1 0),(4,.ptr 2 0),(5,.own 3)],[(0,.var [.nilsl,.s y0,.nilsl,.nilsl]),(1,.var [.dat (.int .i64) y1_0 false,.i .i64 x.1]),(2,.var [.own 4,.s y2,.own 5,.nilsl]),(3,.row (.sl (.int .i64)) x.2.1 false),(4,.row (.int .i64) y4 false),(5,.row (.pair (.int .i64) (.pair (.sl (.int .i64)) (.pair (.sl (.int .i64)) (.pair (.sl (.int .i64)) (.pair (.int .i64) (.pair (.int .i64) .str)))))) x.2.2 false)],6,115⟩)) (ind_ (by intros; rw [S.lp_zero]; exact none_c) ?_) ?_
 intro n ih; intros; rw [keep_Graph.l0]; refine S.lp_succ ?_; conv => lhs; arg 5; whnf
 rotate_left
 intro w7_0
 refine cut_ (A := ∀ (n : Nat) {x13 : Int} {y0 : ByteArray} {y1_0 : List Int} {y1_1 : Int} {y2 : ByteArray} {y3 : List (List Int)} {y4 : List Int} {y5 : List (Int × (List Int) × (List Int) × (List Int) × Int × Int × ByteArray)} {y6 : List Int} {K : CK},S.lp tt (g7 k) lv7 0 n (loopN Tryz.f7 2) ⟨[(2,.ptr 0 0),(3,.ptr 1 0),(4,.ptr 2 0),(5,.own 3),(13,.i .i64 x13)],[(0,.var [.nilsl,.s y0,.nilsl,.nilsl]),(1,.var [.dat (.int .i64) y1_0 false,.i .i64 y1_1]),(2,.var [.own 4,.s y2,.own 5,.own 6]),(3,.row (.sl (.int .i64)) y3 false),(4,.row (.int .i64) y4 false),(5,.row (.pair (.int .i64) (.pair (.sl (.int .i64)) (.pair (.sl (.int .i64)) (.pair (.sl (.int .i64)) (.pair (.int .i64) (.pair (.int .i64) .str)))))) y5 false),(6,.row (.int .i64) y6 false)],7,115⟩ K = bindO (keep_Graph.l2 n x13 y0 y1_0 y1_1 y2 y3 y4 y5 y6) (fun x : (List Int) => K (.exit 4) ⟨[(2,.ptr 0 0),(4,.ptr 1 0)],[(0,.var [.nilsl,.s y0,.nilsl,.nilsl]),(1,.var [.own 2,.s y2,.own 3,.own 4]),(2,.row (.int .i64) y4 false),(3,.row (.pair (.int .i64) (.pair (.sl (.int .i64)) (.pair (.sl (.int .i64)) (.pair (.sl (.int .i64)) (.pair (.int .i64) (.pair (.int .i64) .str)))))) y5 false),(4,.row (.int .i64) x false)],5,115⟩)) (ind_ (by intros; rw [S.lp_zero]; exact none_c) ?_) ?_
 intro n ih; intros; rw [keep_Graph.l2]; refine S.lp_succ ?_; conv => lhs; arg 5; whnf
 rotate_left
 intro w7_2
 refine cut_ (A := ∀ (n : Nat) {x0 : List (List Int)} {x1 : List (List Int)} {x12 : Int} {x13 : Int} {K : CK},S.lp tt (g9 k) lv9 0 n (loopN Tryz.f9 0) ⟨[(0,.dat (.sl (.int .i64)) x0 true),(1,.dat (.sl (.int .i64)) x1 true),(12,.i .i64 x12),(13,.i .i64 x13)],[],0,27⟩ K = bindO (law10_rows.l0 k n x0 x1 x12 x13) (Sum.elim (fun x : Unit => K (.exit 0) ⟨[],[],0,27⟩) (fun x : Bool => K .ret ⟨[(4,.b x)],[],0,27⟩))) (ind_ (by intros; rw [S.lp_zero]; exact none_c) ?_) ?_
 intro n ih; intros; rw [law10_rows.l0]; refine S.lp_succ ?_; conv => lhs; arg 5; whnf
 rotate_left
 intro w9_0
 refine ⟨?_,?_,?_⟩
 intro a0
 unfold keep_Graph.f; refine S.run_s rfl rfl ?_; conv => lhs; arg 5; whnf
 conv => lhs; arg 6; whnf
 rotate_left
 intro a0 a1
 unfold law10_rows.f; refine S.run_s rfl rfl ?_; conv => lhs; arg 5; whnf
 conv => lhs; arg 6; whnf
 rotate_left
 intro a0
 unfold law10_GraphMade.f; refine S.run_s rfl rfl ?_; conv => lhs; arg 5; whnf
 conv => lhs; arg 6; whnf
 rotate_left
 all_goals repeat' first|(first|refine S.seq_op rfl ?_|refine S.op_n ?_|refine S.block_x ?_|refine br_lt ?_|refine br_lf ?_|refine br_t (by assumption) ?_|refine br_f (by assumption) ?_|refine req_i (by with_reducible assumption) ?_|refine br_nd (fun _=>?_) (fun _=>?_)|refine br_d (fun _=>?_) (fun _=>?_)|refine br_n (fun _=>?_) (fun _=>?_)|refine br_c (fun _=>?_) (fun _=>?_)|refine req_c fun _=>?_|refine req_i (by assumption) ?_|refine bnd_c fun _=>?_)<;>(conv=>lhs;whnf)|refine S.seq_nil ?_|refine S.reg_n ?_|refine S.region rfl ?_|refine S.two ?_|refine S.blok ?_|refine S.cond rfl ?_|refine S.after_n ?_|refine S.block_n ?_|refine S.block_r ?_|refine S.after_x ?_|refine S.after_r ?_|refine S.skip ?_|refine S.exit ?_|refine S.ret ?_|refine sum_c (fun _=>?_) (fun _=>?_)|exact ih|refine (w7_1 _).trans ?_|refine (w7_0 _).trans ?_|refine (w7_2 _).trans ?_|refine (w9_0 _).trans ?_|refine S.region_d (id := 18) (ds := [0,1,0,0,8,0,32,124,255,511,1023]) (mds := [[],[],[],[],[],[],[],[1,6,6],[],[],[4]]) (hm := [(7,[1,6,6]),(10,[4])]) (by kernel_rfl) (by kernel_rfl) rfl rfl ?_|refine S.region_d (id := 23) (ds := [0,1,0,4,12,0,0,64,224,508,0,1504,4092,8188,16380,32767,65535,131071]) (mds := [[],[],[],[],[],[],[],[],[1],[],[],[1],[],[],[],[6],[],[2]]) (hm := [(8,[1]),(11,[1]),(15,[6]),(17,[2])]) (by kernel_rfl) (by kernel_rfl) rfl rfl ?_|refine S.region_d (id := 6) (ds := [0,0,3,7,0,0,48,112,255,511]) (mds := [[],[],[],[],[],[],[],[],[],[]]) (hm := []) (by kernel_rfl) (by kernel_rfl) rfl rfl ?_|refine S.region_d (id := 7) (ds := [0,0,2,7,0,16,48,112,255,511,1023]) (mds := [[],[],[],[],[],[],[],[],[],[],[5]]) (hm := [(10,[5])]) (by kernel_rfl) (by kernel_rfl) rfl rfl ?_|(first|refine S.loop ?_|refine S.back_n ?_|refine S.back_x ?_|refine S.back_r ?_|refine S.fin_r ?_|refine S.fin_n ?_|refine S.dk_n ?_|refine S.draw_nil ?_)<;>(conv=>lhs;whnf)|exact ret_c rfl|exact none_c|(refine S.draw_op ?_; conv => lhs; whnf; arg 1; whnf)|refine andK_br ?_|refine andK_req ?_|refine andK_b ?_|refine andK_none ?_
theorem en7 (k : Nat) : EnvOK Tryz.prog (g7 k) := (envOK_add (snd24 k) (envOK_add (snd25 k) (envOK_add (snd23 k) (envOK_add (snd22 k) (envOK_add (snd21 k) (envOK_add snd12 (envOK_add snd20 (envOK_nil _))))))))
theorem snd7 (k : Nat) : Sound Tryz.prog 7 (sp7 k) := by
 refine ⟨⟨Tryz.f7,Tryz.func7,by kernel_rfl,rfl⟩,fun args objs K r h => ?_⟩
 unfold sp7 at h; dsimp only at h; split at h
 ·rename_i v0
  obtain ⟨a0,h9,ca0⟩ := listB_spec h; clear h
  have h := h9; clear h9
  obtain ⟨x,hx,h⟩ := bindO_some h
  exact ⟨_,_,h,FnOK.args2 (relL_c ca0 relL_n) (fn_run tab_ok (en7 k) mixed Tryz.func7 (((lp7003 seals k).1 a0).trans (bindO_eq hx)))⟩
 ·cases h
theorem en9 (k : Nat) : EnvOK Tryz.prog (g9 k) := (envOK_add (snd30 k) (envOK_nil _))
theorem snd9 (k : Nat) : Sound Tryz.prog 9 (sp9 k) := by
 refine ⟨⟨Tryz.f9,Tryz.func9,by kernel_rfl,rfl⟩,fun args objs K r h => ?_⟩
 unfold sp9 at h; dsimp only at h; split at h
 ·rename_i v0 v1
  obtain ⟨a0,h9,ca0⟩ := listB_spec h; clear h
  have h := h9; clear h9
  obtain ⟨a1,h9,ca1⟩ := listB_spec h; clear h
  have h := h9; clear h9
  obtain ⟨x,hx,h⟩ := bindO_some h
  exact ⟨_,_,h,FnOK.args2 (relL_c ca0 (relL_c ca1 relL_n)) (fn_run tab_ok (en9 k) mixed Tryz.func9 (((lp7003 seals k).2.1 a0 a1).trans (bindO_eq hx)))⟩
 ·cases h
theorem en3 (k : Nat) : EnvOK Tryz.prog (g3 k) := (envOK_add (snd11 k) (envOK_add (snd10 k) (envOK_add (snd9 k) (envOK_add (snd8 k) (envOK_add (snd7 k) (envOK_nil _))))))
theorem snd3 (k : Nat) : Sound Tryz.prog 3 (sp3 k) := by
 refine ⟨⟨Tryz.f3,Tryz.func3,by kernel_rfl,rfl⟩,fun args objs K r h => ?_⟩
 unfold sp3 at h; dsimp only at h; split at h
 ·rename_i v0
  obtain ⟨a0,h9,ca0⟩ := listB_spec h; clear h
  have h := h9; clear h9
  obtain ⟨x,hx,h⟩ := bindO_some h
  exact ⟨_,_,h,FnOK.args2 (relL_c ca0 relL_n) (fn_run tab_ok (en3 k) mixed Tryz.func3 (((lp7003 seals k).2.2 a0).trans (bindO_eq hx)))⟩
 ·cases h
theorem r3 (S : Seals) (k : Nat) (a0 : List Int) : runF tt (g3 k) lv3 Tryz.f3 k [.dat (.int .i64) a0 false] [] = bindO (law10_GraphMade.f k a0) (fun x : Bool => some (.b x,[])) := (lp7003 S k).2.2 a0
def lv4 : Live := look ⟨[],[],[],[],[]⟩ [(9,⟨[6,8,9,37,38,39],[6,9],[4],[(9,2,.own (.pair (.int .i64) (.pair (.sl (.int .i64)) (.pair (.sl (.int .i64)) (.pair (.sl (.int .i64)) (.pair (.int .i64) (.pair (.int .i64) .str)))))))],[]⟩),(13,⟨[6,8,9,11,37,38,39,49,50],[6,8,9,11,37,38,39],[4],[],[]⟩)]
noncomputable def g4 (k : Nat) : FEnv := (addF 10 (sp10 k) (addF 11 (sp11 k) (addF 9 (sp9 k) (addF 12 sp12 (addF 8 (sp8 k) (addF 7 (sp7 k) (fun _=>none)))))))
def sp4 (k : Nat) : FSpec := ⟨[.st,.st],fun args objs K => match args,objs with | [v0,v1],[] => listB (.int .i64) false v0 fun a0 => listB (.int .i64) false v1 fun a1 => bindO (law10_GraphNotes.f k a0 a1) fun x : Bool => K (.b x) [] | _,_ => none⟩
theorem lp7004 (S : Seals) (k : Nat) : (∀ (a0 : List Int) (a1 : List Int),runF tt (g4 k) lv4 Tryz.f4 k [.dat (.int .i64) a0 false,.dat (.int .i64) a1 false] [] = bindO (law10_GraphNotes.f k a0 a1) (fun x : Bool => some (.b x,[]))) := by
 refine cut_ (A := ∀ (n : Nat) {x38 : Int} {x39 : Int} {x49 : Int} {x50 : Int} {y0 : List (List Int)} {y1_0 : List Int} {y1_1 : Int} {y2 : ByteArray} {y3_0 : Int} {y3_1 : List Int} {y3_2 : List Int} {y3_3 : List Int} {y3_4 : Int} {y3_5 : Int} {y3_6 : ByteArray} {y4 : List (Int × (List Int) × (List Int) × (List Int) × Int × Int × ByteArray)} {y5 : List Int} {y6 : List (Int × (List Int) × (List Int) × (List Int) × Int × Int × ByteArray)} {y7 : List Int} {K : CK},S.lp tt (g4 k) lv4 0 n (loopN Tryz.f4 1) ⟨[(6,.own 0),(8,.ptr 1 0),(9,.ptr 2 0),(11,.ptr 3 0),(37,.own 4),(38,.i .i64 x38),(39,.i .i64 x39),(49,.i .i64 x49),(50,.i .i64 x50)],[(0,.row (.sl (.int .i64)) y0 false),(1,.var [.dat (.int .i64) y1_0 false,.i .i64 y1_1]),(2,.var [.own 5,.s y2,.own 6,.own 7]),(3,.var [.i .i64 y3_0,.dat (.int .i64) y3_1 false,.dat (.int .i64) y3_2 false,.dat (.int .i64) y3_3 false,.i .i64 y3_4,.i .i64 y3_5,.s y3_6]),(4,.row (.pair (.int .i64) (.pair (.sl (.int .i64)) (.pair (.sl (.int .i64)) (.pair (.sl (.int .i64)) (.pair (.int .i64) (.pair (.int .i64) .str)))))) y4 false),(5,.row (.int .i64) y5 false),(6,.row (.pair (.int .i64) (.pair (.sl (.int .i64)) (.pair (.sl (.int .i64)) (.pair (.sl (.int .i64)) (.pair (.int .i64) (.pair (.int .i64) .str)))))) y6 false),(7,.row (.int .i64) y7 false)],8,101⟩ K = bindO (law10_GraphNotes.l1 n x38 x39 x49 x50 y0 y1_0 y1_1 y2 y3_0 y3_1 y3_2 y3_3 y3_4 y3_5 y3_6 y4 y5 y6 y7) (fun x : Int × ByteArray => K (.exit 2) ⟨[(6,.own 0),(8,.ptr 1 0),(9,.ptr 2 0),(11,.ptr 3 0),(37,.own 4),(38,.i .i64 x38),(39,.i .i64 x39)],[(0,.row (.sl (.int .i64)) y0 false),(1,.var [.dat (.int .i64) y1_0 false,.i .i64 x.1]),(2,.var [.own 5,.s y2,.own 6,.own 7]),(3,.var [.i .i64 y3_0,.dat (.int .i64) y3_1 false,.dat (.int .i64) y3_2 false,.dat (.int .i64) y3_3 false,.i .i64 y3_4,.i .i64 y3_5,.s x.2]),(4,.row (.pair (.int .i64) (.pair (.sl (.int .i64)) (.pair (.sl (.int .i64)) (.pair (.sl (.int .i64)) (.pair (.int .i64) (.pair (.int .i64) .str)))))) y4 false),(5,.row (.int .i64) y5 false),(6,.row (.pair (.int .i64) (.pair (.sl (.int .i64)) (.pair (.sl (.int .i64)) (.pair (.sl (.int .i64)) (.pair (.int .i64) (.pair (.int .i64) .str)))))) y6 false),(7,.row (.int .i64) y7 false)],8,101⟩)) (ind_ (by intros; rw [S.lp_zero]; exact none_c) ?_) ?_
 intro n ih; intros; rw [law10_GraphNotes.l1]; refine S.lp_succ ?_; conv => lhs; arg 5; whnf
 rotate_left
 intro w4_1
 refine cut_ (A := ∀ (n : Nat) {x38 : Int} {x39 : Int} {y0 : List (List Int)} {y1_0 : List Int} {y1_1 : Int} {y2 : ByteArray} {y3 : List (Int × (List Int) × (List Int) × (List Int) × Int × Int × ByteArray)} {y4 : List Int} {y5 : List (Int × (List Int) × (List Int) × (List Int) × Int × Int × ByteArray)} {y6 : List Int} {K : CK},S.lp tt (g4 k) lv4 0 n (loopN Tryz.f4 0) ⟨[(6,.own 0),(8,.ptr 1 0),(9,.ptr 2 0),(37,.own 3),(38,.i .i64 x38),(39,.i .i64 x39)],[(0,.row (.sl (.int .i64)) y0 false),(1,.var [.dat (.int .i64) y1_0 false,.i .i64 y1_1]),(2,.var [.own 4,.s y2,.own 5,.own 6]),(3,.row (.pair (.int .i64) (.pair (.sl (.int .i64)) (.pair (.sl (.int .i64)) (.pair (.sl (.int .i64)) (.pair (.int .i64) (.pair (.int .i64) .str)))))) y3 false),(4,.row (.int .i64) y4 false),(5,.row (.pair (.int .i64) (.pair (.sl (.int .i64)) (.pair (.sl (.int .i64)) (.pair (.sl (.int .i64)) (.pair (.int .i64) (.pair (.int .i64) .str)))))) y5 false),(6,.row (.int .i64) y6 false)],7,101⟩ K = bindO (law10_GraphNotes.l0 k n x38 x39 y0 y1_0 y1_1 y2 y3 y4 y5 y6) (fun x : (List (Int × (List Int) × (List Int) × (List Int) × Int × Int × ByteArray)) => K (.exit 0) ⟨[(6,.own 0),(9,.ptr 1 0)],[(0,.row (.sl (.int .i64)) y0 false),(1,.var [.own 2,.s y2,.own 3,.own 4]),(2,.row (.int .i64) y4 false),(3,.row (.pair (.int .i64) (.pair (.sl (.int .i64)) (.pair (.sl (.int .i64)) (.pair (.sl (.int .i64)) (.pair (.int .i64) (.pair (.int .i64) .str)))))) x false),(4,.row (.int .i64) y6 false)],5,101⟩)) (ind_ (by intros; rw [S.lp_zero]; exact none_c) ?_) ?_
 intro n ih; intros; rw [law10_GraphNotes.l0]; refine S.lp_succ ?_; conv => lhs; arg 5; whnf
 rotate_left
 intro w4_0
 skip
 intro a0 a1
 unfold law10_GraphNotes.f; refine S.run_s rfl rfl ?_; conv => lhs; arg 5; whnf
 conv => lhs; arg 6; whnf
 rotate_left
 all_goals repeat' first|(first|refine S.seq_op rfl ?_|refine S.op_n ?_|refine S.block_x ?_|refine br_lt ?_|refine br_lf ?_|refine br_t (by assumption) ?_|refine br_f (by assumption) ?_|refine req_i (by with_reducible assumption) ?_|refine br_nd (fun _=>?_) (fun _=>?_)|refine br_d (fun _=>?_) (fun _=>?_)|refine br_n (fun _=>?_) (fun _=>?_)|refine br_c (fun _=>?_) (fun _=>?_)|refine req_c fun _=>?_|refine req_i (by assumption) ?_|refine bnd_c fun _=>?_)<;>(conv=>lhs;whnf)|refine S.seq_nil ?_|refine S.reg_n ?_|refine S.region rfl ?_|refine S.two ?_|refine S.blok ?_|refine S.cond rfl ?_|refine S.after_n ?_|refine S.block_n ?_|refine S.block_r ?_|refine S.after_x ?_|refine S.after_r ?_|refine S.skip ?_|refine S.exit ?_|refine S.ret ?_|refine sum_c (fun _=>?_) (fun _=>?_)|refine S.region_d (id := 14) (ds := [0,1,0,0,8,28,60,127,255,511]) (mds := [[],[],[],[],[1],[],[],[],[],[3]]) (hm := [(4,[1]),(9,[3])]) (by kernel_rfl) (by kernel_rfl) rfl rfl ?_|exact ih|refine (w4_1 _).trans ?_|refine (w4_0 _).trans ?_|(first|refine S.loop ?_|refine S.back_n ?_|refine S.back_x ?_|refine S.back_r ?_|refine S.fin_r ?_|refine S.fin_n ?_|refine S.dk_n ?_|refine S.draw_nil ?_)<;>(conv=>lhs;whnf)|exact ret_c rfl|exact none_c|(refine S.draw_op ?_; conv => lhs; whnf; arg 1; whnf)|refine andK_br ?_|refine andK_req ?_|refine andK_b ?_|refine andK_none ?_
theorem en4 (k : Nat) : EnvOK Tryz.prog (g4 k) := (envOK_add (snd10 k) (envOK_add (snd11 k) (envOK_add (snd9 k) (envOK_add snd12 (envOK_add (snd8 k) (envOK_add (snd7 k) (envOK_nil _)))))))
theorem snd4 (k : Nat) : Sound Tryz.prog 4 (sp4 k) := by
 refine ⟨⟨Tryz.f4,Tryz.func4,by kernel_rfl,rfl⟩,fun args objs K r h => ?_⟩
 unfold sp4 at h; dsimp only at h; split at h
 ·rename_i v0 v1
  obtain ⟨a0,h9,ca0⟩ := listB_spec h; clear h
  have h := h9; clear h9
  obtain ⟨a1,h9,ca1⟩ := listB_spec h; clear h
  have h := h9; clear h9
  obtain ⟨x,hx,h⟩ := bindO_some h
  exact ⟨_,_,h,FnOK.args2 (relL_c ca0 (relL_c ca1 relL_n)) (fn_run tab_ok (en4 k) mixed Tryz.func4 (((lp7004 seals k) a0 a1).trans (bindO_eq hx)))⟩
 ·cases h
theorem r4 (S : Seals) (k : Nat) (a0 : List Int) (a1 : List Int) : runF tt (g4 k) lv4 Tryz.f4 k [.dat (.int .i64) a0 false,.dat (.int .i64) a1 false] [] = bindO (law10_GraphNotes.f k a0 a1) (fun x : Bool => some (.b x,[])) := (lp7004 S k) a0 a1
end Go.Vm
