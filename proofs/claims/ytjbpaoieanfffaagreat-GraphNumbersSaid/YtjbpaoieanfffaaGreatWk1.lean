/- Own texts put together: the walks -/
import Derived.Test.YtjbpaoieanfffaaGreatWk0
set_option linter.unusedVariables false
set_option maxRecDepth 60000
set_option maxHeartbeats 40000000
namespace Go.Vm
open Go Go.Proofs Go.Pf

def lv114 : Live := look ⟨[],[],[],[],[]⟩ [(6,⟨[1,2,8,9,27,28,29],[9],[6,7],[],[]⟩),(1000000,⟨[],[],[],[(6,0,.own (.int .i64))],[]⟩)]
noncomputable def g114 (k : Nat) : FEnv := (addF 63 (sp63 k) (addF 123 sp123 (fun _=>none)))
def sp114 (k : Nat) : FSpec := ⟨[.rd,.rd,.rd],fun args objs K => match args,objs with | [v0,v1,v2],[] => listB (.int .i64) true v0 fun a0 => listB (.int .i64) true v1 fun a1 => listB (.int .i64) true v2 fun a2 => bindO (axes_Padded.f k a0 a1 a2) fun x : Int × (List Int) => K (.tup [.own 0,.i .i64 x.1]) [.row (.int .i64) x.2 false] | _,_ => none⟩
def lv91 : Live := look ⟨[],[],[],[],[]⟩ [(1000000,⟨[],[],[],[(4,0,.dat (.int .i64)),(4,0,.fz (.int .i64))],[]⟩)]
noncomputable def g91 (k : Nat) : FEnv := (addF 114 (sp114 k) (addF 113 (sp113 k) (fun _=>none)))
def sp91 (k : Nat) : FSpec := ⟨[.st,.st],fun args objs K => match args,objs with | [.agg [.i .i64 a0_0,v0,v1,v2,.i .i64 a0_4,.i .i64 a0_5,.s a0_6],v3],[] => listB (.int .i64) false v0 fun a0_1 => listB (.int .i64) false v1 fun a0_2 => listB (.int .i64) false v2 fun a0_3 => listB (.int .i64) false v3 fun a1 => bindO (graph_cut.f k a0_0 a0_1 a0_2 a0_3 a0_4 a0_5 a0_6 a1) fun x : (List Int) × Int => K (.tup [.dat (.int .i64) x.1 false,.i .i64 x.2]) [] | _,_ => none⟩
def lv92 : Live := look ⟨[],[],[],[],[]⟩ [(6,⟨[0,6,33,34,35],[6],[4,5],[],[]⟩),(11,⟨[0,6,8,33,34,35,44,45,46],[0,6,8,33,34,35],[4,5],[],[]⟩),(1000000,⟨[],[],[],[(4,0,.own (.int .i64))],[]⟩)]
noncomputable def g92 (k : Nat) : FEnv := (addF 63 (sp63 k) (addF 37 sp37 (fun _=>none)))
def sp92 (k : Nat) : FSpec := ⟨[.rd,.rd],fun args objs K => match args,objs with | [.i .i64 a0,v0],[] => listB (.sl (.int .i64)) true v0 fun a1 => bindO (axes_Joined.f k a0 a1) fun x : Int × (List Int) => K (.tup [.own 0,.i .i64 x.1]) [.row (.int .i64) x.2 false] | _,_ => none⟩
def lv39 : Live := look ⟨[],[],[],[],[]⟩ [(4,⟨[0,1,12,13],[],[4],[],[]⟩)]
noncomputable def g39 : FEnv := (fun _=>none)
def sp39 (k : Nat) : FSpec := ⟨[.rd,.rd],fun args objs K => match args,objs with | [v0,v1],[] => listB (.int .i64) true v0 fun a0 => listB (.int .i64) true v1 fun a1 => bindO (slices_Equal_int.f k a0 a1) fun x : Bool => K (.b x) [] | _,_ => none⟩
def lv115 : Live := look ⟨[],[],[],[],[]⟩ []
noncomputable def g115 (k : Nat) : FEnv := (addF 39 (sp39 k) (fun _=>none))
def sp115 (k : Nat) : FSpec := ⟨[.rd,.rd],fun args objs K => match args,objs with | [v0,v1],[] => listB (.int .i64) true v0 fun a0 => listB (.int .i64) true v1 fun a1 => bindO (shape_Same.f k a0 a1) fun x : Bool => K (.b x) [] | _,_ => none⟩
theorem lp1000 (S : Seals) (k : Nat) : (∀ (a0 : List Int) (a1 : List Int) (a2 : List Int),runF tt (g114 k) lv114 Tryz.f114 k [.dat (.int .i64) a0 true,.dat (.int .i64) a1 true,.dat (.int .i64) a2 true] [] = bindO (axes_Padded.f k a0 a1 a2) (fun x : Int × (List Int) => some (.tup [.own 0,.i .i64 x.1],[.row (.int .i64) x.2 false]))) ∧ (∀ (a0_0 : Int) (a0_1 : List Int) (a0_2 : List Int) (a0_3 : List Int) (a0_4 : Int) (a0_5 : Int) (a0_6 : ByteArray) (a1 : List Int),runF tt (g91 k) lv91 Tryz.f91 k [.agg [.i .i64 a0_0,.dat (.int .i64) a0_1 false,.dat (.int .i64) a0_2 false,.dat (.int .i64) a0_3 false,.i .i64 a0_4,.i .i64 a0_5,.s a0_6],.dat (.int .i64) a1 false] [] = bindO (graph_cut.f k a0_0 a0_1 a0_2 a0_3 a0_4 a0_5 a0_6 a1) (fun x : (List Int) × Int => some (.tup [.dat (.int .i64) x.1 false,.i .i64 x.2],[]))) ∧ (∀ (a0 : Int) (a1 : List (List Int)),runF tt (g92 k) lv92 Tryz.f92 k [.i .i64 a0,.dat (.sl (.int .i64)) a1 true] [] = bindO (axes_Joined.f k a0 a1) (fun x : Int × (List Int) => some (.tup [.own 0,.i .i64 x.1],[.row (.int .i64) x.2 false]))) ∧ (∀ (a0 : List Int) (a1 : List Int),runF tt (g39) lv39 Tryz.f39 k [.dat (.int .i64) a0 true,.dat (.int .i64) a1 true] [] = bindO (slices_Equal_int.f k a0 a1) (fun x : Bool => some (.b x,[]))) ∧ (∀ (a0 : List Int) (a1 : List Int),runF tt (g115 k) lv115 Tryz.f115 k [.dat (.int .i64) a0 true,.dat (.int .i64) a1 true] [] = bindO (shape_Same.f k a0 a1) (fun x : Bool => some (.b x,[]))) := by
 refine cut_ (A := ∀ (n : Nat) {x1 : List Int} {x2 : List Int} {x27 : List Int} {x28 : Int} {x29 : Int} {y0 : List Int} {K : CK},S.lp tt (g114 k) lv114 0 n (loopN Tryz.f114 0) ⟨[(1,.dat (.int .i64) x1 true),(2,.dat (.int .i64) x2 true),(8,.fn 123 []),(9,.own 0),(27,.dat (.int .i64) x27 true),(28,.i .i64 x28),(29,.i .i64 x29)],[(0,.row (.int .i64) y0 false)],1,69⟩ K = bindO (axes_Padded.l0 n x1 x2 x27 x28 x29 y0) (Sum.elim (fun x : (List Int) => K (.exit 0) ⟨[(9,.own 0)],[(0,.row (.int .i64) x false)],1,69⟩) (fun x : Int => K .ret ⟨[(6,.nilsl),(7,.i .i64 x)],[],0,69⟩))) (ind_ (by intros; rw [S.lp_zero]; exact none_c) ?_) ?_
 intro n ih; intros; rw [axes_Padded.l0]; refine S.lp_succ ?_; conv => lhs; arg 5; whnf
 rotate_left
 intro w114_0
 refine cut_ (A := ∀ (n : Nat) {x0 : Int} {x8 : List Int} {x33 : List (List Int)} {x34 : Int} {x35 : Int} {x44 : List Int} {x45 : Int} {x46 : Int} {y0 : List Int} {K : CK},S.lp tt (g92 k) lv92 0 n (loopN Tryz.f92 1) ⟨[(0,.i .i64 x0),(6,.own 0),(8,.dat (.int .i64) x8 false),(33,.dat (.sl (.int .i64)) x33 true),(34,.i .i64 x34),(35,.i .i64 x35),(44,.dat (.int .i64) x44 false),(45,.i .i64 x45),(46,.i .i64 x46)],[(0,.row (.int .i64) y0 false)],1,83⟩ K = bindO (axes_Joined.l1 n x0 x8 x33 x34 x35 x44 x45 x46 y0) (Sum.elim (fun x : Unit => K (.exit 2) ⟨[(0,.i .i64 x0),(6,.own 0),(8,.dat (.int .i64) x8 false),(33,.dat (.sl (.int .i64)) x33 true),(34,.i .i64 x34),(35,.i .i64 x35)],[(0,.row (.int .i64) y0 false)],1,83⟩) (fun x : Int => K .ret ⟨[(4,.nilsl),(5,.i .i64 x)],[],0,83⟩))) (ind_ (by intros; rw [S.lp_zero]; exact none_c) ?_) ?_
 intro n ih; intros; rw [axes_Joined.l1]; refine S.lp_succ ?_; conv => lhs; arg 5; whnf
 rotate_left
 intro w92_1
 refine cut_ (A := ∀ (n : Nat) {x0 : Int} {x33 : List (List Int)} {x34 : Int} {x35 : Int} {y0 : List Int} {K : CK},S.lp tt (g92 k) lv92 0 n (loopN Tryz.f92 0) ⟨[(0,.i .i64 x0),(6,.own 0),(33,.dat (.sl (.int .i64)) x33 true),(34,.i .i64 x34),(35,.i .i64 x35)],[(0,.row (.int .i64) y0 false)],1,83⟩ K = bindO (axes_Joined.l0 k n x0 x33 x34 x35 y0) (Sum.elim (fun x : (List Int) => K (.exit 0) ⟨[(6,.own 0)],[(0,.row (.int .i64) x false)],1,83⟩) (fun x : Int => K .ret ⟨[(4,.nilsl),(5,.i .i64 x)],[],0,83⟩))) (ind_ (by intros; rw [S.lp_zero]; exact none_c) ?_) ?_
 intro n ih; intros; rw [axes_Joined.l0]; refine S.lp_succ ?_; conv => lhs; arg 5; whnf
 rotate_left
 intro w92_0
 refine cut_ (A := ∀ (n : Nat) {x0 : List Int} {x1 : List Int} {x12 : Int} {x13 : Int} {K : CK},S.lp tt (g39) lv39 0 n (loopN Tryz.f39 0) ⟨[(0,.dat (.int .i64) x0 true),(1,.dat (.int .i64) x1 true),(12,.i .i64 x12),(13,.i .i64 x13)],[],0,26⟩ K = bindO (slices_Equal_int.l0 n x0 x1 x12 x13) (Sum.elim (fun x : Unit => K (.exit 0) ⟨[],[],0,26⟩) (fun x : Bool => K .ret ⟨[(4,.b x)],[],0,26⟩))) (ind_ (by intros; rw [S.lp_zero]; exact none_c) ?_) ?_
 intro n ih; intros; rw [slices_Equal_int.l0]; refine S.lp_succ ?_; conv => lhs; arg 5; whnf
 rotate_left
 intro w39_0
 refine ⟨?_,?_,?_,?_,?_⟩
 intro a0 a1 a2
 unfold axes_Padded.f; refine S.run_s rfl rfl ?_; conv => lhs; arg 5; whnf
 conv => lhs; arg 6; whnf
 rotate_left
 intro a0_0 a0_1 a0_2 a0_3 a0_4 a0_5 a0_6 a1
 unfold graph_cut.f; refine S.run_s rfl rfl ?_; conv => lhs; arg 5; whnf
 conv => lhs; arg 6; whnf
 rotate_left
 intro a0 a1
 unfold axes_Joined.f; refine S.run_s rfl rfl ?_; conv => lhs; arg 5; whnf
 conv => lhs; arg 6; whnf
 rotate_left
 intro a0 a1
 unfold slices_Equal_int.f; refine S.run_s rfl rfl ?_; conv => lhs; arg 5; whnf
 conv => lhs; arg 6; whnf
 rotate_left
 intro a0 a1
 unfold shape_Same.f; refine S.run_s rfl rfl ?_; conv => lhs; arg 5; whnf
 conv => lhs; arg 6; whnf
 rotate_left
 all_goals repeat' first|(first|refine S.seq_op rfl ?_|refine S.op_n ?_|refine S.block_x ?_|refine br_lt ?_|refine br_lf ?_|refine br_t (by assumption) ?_|refine br_f (by assumption) ?_|refine req_i (by with_reducible assumption) ?_|refine br_nd (fun _=>?_) (fun _=>?_)|refine br_d (fun _=>?_) (fun _=>?_)|refine br_n (fun _=>?_) (fun _=>?_)|refine br_c (fun _=>?_) (fun _=>?_)|refine req_c fun _=>?_|refine req_i (by assumption) ?_|refine bnd_c fun _=>?_)<;>(conv=>lhs;whnf)|refine S.seq_nil ?_|refine S.reg_n ?_|refine S.region rfl ?_|refine S.two ?_|refine S.blok ?_|refine S.cond rfl ?_|refine S.after_n ?_|refine S.block_n ?_|refine S.block_r ?_|refine S.after_x ?_|refine S.after_r ?_|refine S.skip ?_|refine S.exit ?_|refine S.ret ?_|refine sum_c (fun _=>?_) (fun _=>?_)|refine S.region_d (id := 10) (ds := [0,0,0,0,12,28,0,124,0,0,768,1792,4092,8191,16383]) (mds := [[],[],[],[],[],[],[],[],[],[],[],[],[],[],[0]]) (hm := [(14,[0])]) (by kernel_rfl) (by kernel_rfl) rfl rfl ?_|exact ih|refine (w114_0 _).trans ?_|refine (w92_1 _).trans ?_|refine (w92_0 _).trans ?_|refine (w39_0 _).trans ?_|refine S.region_d (id := 3) (ds := [0,1,0,4,15,0,32,0,128,480,31,2047]) (mds := [[],[],[],[],[],[],[],[],[],[],[],[]]) (hm := []) (by kernel_rfl) (by kernel_rfl) rfl rfl ?_|refine S.region_d (id := 16) (ds := [0,0,3,7,0,0,48,112,255,511,1023]) (mds := [[],[],[],[],[],[],[],[],[],[],[0]]) (hm := [(10,[0])]) (by kernel_rfl) (by kernel_rfl) rfl rfl ?_|refine S.region_d (id := 6) (ds := [0,0,3,7,0,0,48,112,255]) (mds := [[],[],[],[],[],[],[],[],[]]) (hm := []) (by kernel_rfl) (by kernel_rfl) rfl rfl ?_|(first|refine S.loop ?_|refine S.back_n ?_|refine S.back_x ?_|refine S.back_r ?_|refine S.fin_r ?_|refine S.fin_n ?_|refine S.dk_n ?_|refine S.draw_nil ?_)<;>(conv=>lhs;whnf)|exact ret_c rfl|exact none_c|(refine S.draw_op ?_; conv => lhs; whnf; arg 1; whnf)|refine andK_br ?_|refine andK_req ?_|refine andK_b ?_|refine andK_none ?_
theorem en114 (k : Nat) : EnvOK Tryz.prog (g114 k) := (envOK_add (snd63 k) (envOK_add snd123 (envOK_nil _)))
theorem snd114 (k : Nat) : Sound Tryz.prog 114 (sp114 k) := by
 refine ⟨⟨Tryz.f114,Tryz.func114,by kernel_rfl,rfl⟩,fun args objs K r h => ?_⟩
 unfold sp114 at h; dsimp only at h; split at h
 ·rename_i v0 v1 v2
  obtain ⟨a0,h9,ca0⟩ := listB_spec h; clear h
  have h := h9; clear h9
  obtain ⟨a1,h9,ca1⟩ := listB_spec h; clear h
  have h := h9; clear h9
  obtain ⟨a2,h9,ca2⟩ := listB_spec h; clear h
  have h := h9; clear h9
  obtain ⟨x,hx,h⟩ := bindO_some h
  exact ⟨_,_,h,FnOK.args2 (relL_c ca0 (relL_c ca1 (relL_c ca2 relL_n))) (fn_run tab_ok (en114 k) mixed Tryz.func114 (((lp1000 seals k).1 a0 a1 a2).trans (bindO_eq hx)))⟩
 ·cases h
theorem en91 (k : Nat) : EnvOK Tryz.prog (g91 k) := (envOK_add (snd114 k) (envOK_add (snd113 k) (envOK_nil _)))
theorem snd91 (k : Nat) : Sound Tryz.prog 91 (sp91 k) := by
 refine ⟨⟨Tryz.f91,Tryz.func91,by kernel_rfl,rfl⟩,fun args objs K r h => ?_⟩
 unfold sp91 at h; dsimp only at h; split at h
 ·rename_i a0_0 v0 v1 v2 a0_4 a0_5 a0_6 v3
  obtain ⟨a0_1,h9,ca0_1⟩ := listB_spec h; clear h
  have h := h9; clear h9
  obtain ⟨a0_2,h9,ca0_2⟩ := listB_spec h; clear h
  have h := h9; clear h9
  obtain ⟨a0_3,h9,ca0_3⟩ := listB_spec h; clear h
  have h := h9; clear h9
  obtain ⟨a1,h9,ca1⟩ := listB_spec h; clear h
  have h := h9; clear h9
  obtain ⟨x,hx,h⟩ := bindO_some h
  exact ⟨_,_,h,FnOK.args2 (relL_c (rel_agg (relL_c rel_i (relL_c ca0_1 (relL_c ca0_2 (relL_c ca0_3 (relL_c rel_i (relL_c rel_i (relL_c rel_i relL_n)))))))) (relL_c ca1 relL_n)) (fn_run tab_ok (en91 k) mixed Tryz.func91 (((lp1000 seals k).2.1 a0_0 a0_1 a0_2 a0_3 a0_4 a0_5 a0_6 a1).trans (bindO_eq hx)))⟩
 ·cases h
theorem en92 (k : Nat) : EnvOK Tryz.prog (g92 k) := (envOK_add (snd63 k) (envOK_add snd37 (envOK_nil _)))
theorem snd92 (k : Nat) : Sound Tryz.prog 92 (sp92 k) := by
 refine ⟨⟨Tryz.f92,Tryz.func92,by kernel_rfl,rfl⟩,fun args objs K r h => ?_⟩
 unfold sp92 at h; dsimp only at h; split at h
 ·rename_i a0 v0
  obtain ⟨a1,h9,ca1⟩ := listB_spec h; clear h
  have h := h9; clear h9
  obtain ⟨x,hx,h⟩ := bindO_some h
  exact ⟨_,_,h,FnOK.args2 (relL_c rel_i (relL_c ca1 relL_n)) (fn_run tab_ok (en92 k) mixed Tryz.func92 (((lp1000 seals k).2.2.1 a0 a1).trans (bindO_eq hx)))⟩
 ·cases h
theorem en39 : EnvOK Tryz.prog (g39) := (envOK_nil _)
theorem snd39 (k : Nat) : Sound Tryz.prog 39 (sp39 k) := by
 refine ⟨⟨Tryz.f39,Tryz.func39,by kernel_rfl,rfl⟩,fun args objs K r h => ?_⟩
 unfold sp39 at h; dsimp only at h; split at h
 ·rename_i v0 v1
  obtain ⟨a0,h9,ca0⟩ := listB_spec h; clear h
  have h := h9; clear h9
  obtain ⟨a1,h9,ca1⟩ := listB_spec h; clear h
  have h := h9; clear h9
  obtain ⟨x,hx,h⟩ := bindO_some h
  exact ⟨_,_,h,FnOK.args2 (relL_c ca0 (relL_c ca1 relL_n)) (fn_run tab_ok (en39) mixed Tryz.func39 (((lp1000 seals k).2.2.2.1 a0 a1).trans (bindO_eq hx)))⟩
 ·cases h
theorem en115 (k : Nat) : EnvOK Tryz.prog (g115 k) := (envOK_add (snd39 k) (envOK_nil _))
theorem snd115 (k : Nat) : Sound Tryz.prog 115 (sp115 k) := by
 refine ⟨⟨Tryz.f115,Tryz.func115,by kernel_rfl,rfl⟩,fun args objs K r h => ?_⟩
 unfold sp115 at h; dsimp only at h; split at h
 ·rename_i v0 v1
  obtain ⟨a0,h9,ca0⟩ := listB_spec h; clear h
  have h := h9; clear h9
  obtain ⟨a1,h9,ca1⟩ := listB_spec h; clear h
  have h := h9; clear h9
  obtain ⟨x,hx,h⟩ := bindO_some h
  exact ⟨_,_,h,FnOK.args2 (relL_c ca0 (relL_c ca1 relL_n)) (fn_run tab_ok (en115 k) mixed Tryz.func115 (((lp1000 seals k).2.2.2.2 a0 a1).trans (bindO_eq hx)))⟩
 ·cases h
def lv124 : Live := look ⟨[],[],[],[],[]⟩ [(1000000,⟨[],[],[],[(4,0,.own (.int .i64)),(4,0,.trim)],[]⟩)]
noncomputable def g124 : FEnv := (fun _=>none)
def sp124 : FSpec := ⟨[.kp,.kp],fun args objs K => match args,objs with | [.nilsl,.i .i64 a1],[] => bindO (slices_Grow_int.f a1) fun x : (List Int) => K (.own 0) [.row (.int .i64) x false] | _,_ => none⟩
def lv116 : Live := look ⟨[],[],[],[],[]⟩ [(3,⟨[0,3,9,10,11],[0,3],[2],[],[]⟩),(11,⟨[6,25,26,27],[6],[2],[],[]⟩)]
noncomputable def g116 : FEnv := (addF 124 sp124 (fun _=>none))
def sp116 (k : Nat) : FSpec := ⟨[.rd],fun args objs K => match args,objs with | [v0],[] => listB (.sl (.int .i64)) true v0 fun a0 => bindO (slices_Concat_int.f k a0) fun x : (List Int) => K (.own 0) [.row (.int .i64) x false] | _,_ => none⟩
theorem lp1001 (S : Seals) (k : Nat) : (∀ (a1 : Int),runF tt (g124) lv124 Tryz.f124 k [.nilsl,.i .i64 a1] [] = bindO (slices_Grow_int.f a1) (fun x : (List Int) => some (.own 0,[.row (.int .i64) x false]))) ∧ (∀ (a0 : List (List Int)),runF tt (g116) lv116 Tryz.f116 k [.dat (.sl (.int .i64)) a0 true] [] = bindO (slices_Concat_int.f k a0) (fun x : (List Int) => some (.own 0,[.row (.int .i64) x false]))) := by
 refine cut_ (A := ∀ (n : Nat) {x0 : List (List Int)} {x3 : Int} {x9 : List (List Int)} {x10 : Int} {x11 : Int} {K : CK},S.lp tt (g116) lv116 0 n (loopN Tryz.f116 0) ⟨[(0,.dat (.sl (.int .i64)) x0 true),(3,.i .i64 x3),(9,.dat (.sl (.int .i64)) x9 true),(10,.i .i64 x10),(11,.i .i64 x11)],[],0,36⟩ K = bindO (slices_Concat_int.l0 n x0 x3 x9 x10 x11) (fun x : Int => K (.exit 0) ⟨[(0,.dat (.sl (.int .i64)) x0 true),(3,.i .i64 x)],[],0,36⟩)) (ind_ (by intros; rw [S.lp_zero]; exact none_c) ?_) ?_
 intro n ih; intros; rw [slices_Concat_int.l0]; refine S.lp_succ ?_; conv => lhs; arg 5; whnf
 rotate_left
 intro w116_0
 refine cut_ (A := ∀ (n : Nat) {x25 : List (List Int)} {x26 : Int} {x27 : Int} {y0 : List Int} {K : CK},S.lp tt (g116) lv116 0 n (loopN Tryz.f116 1) ⟨[(6,.own 0),(25,.dat (.sl (.int .i64)) x25 true),(26,.i .i64 x26),(27,.i .i64 x27)],[(0,.row (.int .i64) y0 false)],1,36⟩ K = bindO (slices_Concat_int.l1 n x25 x26 x27 y0) (fun x : (List Int) => K (.exit 2) ⟨[(6,.own 0)],[(0,.row (.int .i64) x false)],1,36⟩)) (ind_ (by intros; rw [S.lp_zero]; exact none_c) ?_) ?_
 intro n ih; intros; rw [slices_Concat_int.l1]; refine S.lp_succ ?_; conv => lhs; arg 5; whnf
 rotate_left
 intro w116_1
 refine ⟨?_,?_⟩
 intro a1
 unfold slices_Grow_int.f; refine S.run_s rfl rfl ?_; conv => lhs; arg 5; whnf
 conv => lhs; arg 6; whnf
 rotate_left
 intro a0
 unfold slices_Concat_int.f; refine S.run_s rfl rfl ?_; conv => lhs; arg 5; whnf
 conv => lhs; arg 6; whnf
 rotate_left
 all_goals repeat' first|(first|refine S.seq_op rfl ?_|refine S.op_n ?_|refine S.block_x ?_|refine br_lt ?_|refine br_lf ?_|refine br_t (by assumption) ?_|refine br_f (by assumption) ?_|refine req_i (by with_reducible assumption) ?_|refine br_nd (fun _=>?_) (fun _=>?_)|refine br_d (fun _=>?_) (fun _=>?_)|refine br_n (fun _=>?_) (fun _=>?_)|refine br_c (fun _=>?_) (fun _=>?_)|refine req_c fun _=>?_|refine req_i (by assumption) ?_|refine bnd_c fun _=>?_)<;>(conv=>lhs;whnf)|refine S.seq_nil ?_|refine S.reg_n ?_|refine S.region rfl ?_|refine S.two ?_|refine S.blok ?_|refine S.cond rfl ?_|refine S.after_n ?_|refine S.block_n ?_|refine S.block_r ?_|refine S.after_x ?_|refine S.after_r ?_|refine S.skip ?_|refine S.exit ?_|refine S.ret ?_|refine sum_c (fun _=>?_) (fun _=>?_)|exact ih|refine (w116_0 _).trans ?_|refine (w116_1 _).trans ?_|(first|refine S.loop ?_|refine S.back_n ?_|refine S.back_x ?_|refine S.back_r ?_|refine S.fin_r ?_|refine S.fin_n ?_|refine S.dk_n ?_|refine S.draw_nil ?_)<;>(conv=>lhs;whnf)|exact ret_c rfl|exact none_c|(refine S.draw_op ?_; conv => lhs; whnf; arg 1; whnf)|refine andK_br ?_|refine andK_req ?_|refine andK_b ?_|refine andK_none ?_
theorem en124 : EnvOK Tryz.prog (g124) := (envOK_nil _)
theorem snd124 : Sound Tryz.prog 124 (sp124) := by
 refine ⟨⟨Tryz.f124,Tryz.func124,by kernel_rfl,rfl⟩,fun args objs K r h => ?_⟩
 unfold sp124 at h; dsimp only at h; split at h
 ·rename_i a1
  obtain ⟨x,hx,h⟩ := bindO_some h
  exact ⟨_,_,h,FnOK.args2 (relL_c rel_i (relL_c rel_i relL_n)) (fn_run tab_ok (en124) mixed Tryz.func124 (((lp1001 seals 0).1 a1).trans (bindO_eq hx)))⟩
 ·cases h
theorem en116 : EnvOK Tryz.prog (g116) := (envOK_add snd124 (envOK_nil _))
theorem snd116 (k : Nat) : Sound Tryz.prog 116 (sp116 k) := by
 refine ⟨⟨Tryz.f116,Tryz.func116,by kernel_rfl,rfl⟩,fun args objs K r h => ?_⟩
 unfold sp116 at h; dsimp only at h; split at h
 ·rename_i v0
  obtain ⟨a0,h9,ca0⟩ := listB_spec h; clear h
  have h := h9; clear h9
  obtain ⟨x,hx,h⟩ := bindO_some h
  exact ⟨_,_,h,FnOK.args2 (relL_c ca0 relL_n) (fn_run tab_ok (en116) mixed Tryz.func116 (((lp1001 seals k).2 a0).trans (bindO_eq hx)))⟩
 ·cases h
def lv93 : Live := look ⟨[],[],[],[],[]⟩ [(1000000,⟨[],[],[],[(6,0,.own (.int .i64))],[]⟩)]
noncomputable def g93 (k : Nat) : FEnv := (addF 116 (sp116 k) (addF 115 (sp115 k) (addF 63 (sp63 k) (fun _=>none))))
def sp93 (k : Nat) : FSpec := ⟨[.st,.st,.st],fun args objs K => match args,objs with | [v0,v1,.i .i64 a2],[] => listB (.int .i64) false v0 fun a0 => listB (.int .i64) false v1 fun a1 => bindO (dot_Shape.f k a0 a1 a2) fun x : Int × (List Int) => K (.tup [.own 0,.i .i64 x.1]) [.row (.int .i64) x.2 false] | _,_ => none⟩
def lv117 : Live := look ⟨[],[],[],[],[]⟩ []
noncomputable def g117 : FEnv := (fun _=>none)
def sp117 : FSpec := ⟨[.rd],fun args objs K => match args,objs with | [.i .i64 a0],[] => bindO (fold_Right.f a0) fun x : Bool => K (.b x) [] | _,_ => none⟩
def lv118 : Live := look ⟨[],[],[],[],[]⟩ [(5,⟨[1,6,14,15,16],[6],[4,5],[(6,0,.own (.int .i64))],[]⟩),(1000000,⟨[],[],[],[(4,0,.own (.int .i64))],[]⟩)]
noncomputable def g118 (k : Nat) : FEnv := (addF 112 (sp112 k) (fun _=>none))
def sp118 (k : Nat) : FSpec := ⟨[.rd,.rd],fun args objs K => match args,objs with | [v0,v1],[] => listB (.int .i64) true v0 fun a0 => listB (.int .i64) true v1 fun a1 => bindO (fold_Left.f k a0 a1) fun x : Int × (List Int) => K (.tup [.own 0,.i .i64 x.1]) [.row (.int .i64) x.2 false] | _,_ => none⟩
theorem lp1002 (S : Seals) (k : Nat) : (∀ (a0 : List Int) (a1 : List Int) (a2 : Int),runF tt (g93 k) lv93 Tryz.f93 k [.dat (.int .i64) a0 false,.dat (.int .i64) a1 false,.i .i64 a2] [] = bindO (dot_Shape.f k a0 a1 a2) (fun x : Int × (List Int) => some (.tup [.own 0,.i .i64 x.1],[.row (.int .i64) x.2 false]))) ∧ (∀ (a0 : Int),runF tt (g117) lv117 Tryz.f117 k [.i .i64 a0] [] = bindO (fold_Right.f a0) (fun x : Bool => some (.b x,[]))) ∧ (∀ (a0 : List Int) (a1 : List Int),runF tt (g118 k) lv118 Tryz.f118 k [.dat (.int .i64) a0 true,.dat (.int .i64) a1 true] [] = bindO (fold_Left.f k a0 a1) (fun x : Int × (List Int) => some (.tup [.own 0,.i .i64 x.1],[.row (.int .i64) x.2 false]))) := by
 refine cut_ (A := ∀ (n : Nat) {x1 : List Int} {x14 : List Int} {x15 : Int} {x16 : Int} {y0 : List Int} {K : CK},S.lp tt (g118 k) lv118 0 n (loopN Tryz.f118 0) ⟨[(1,.dat (.int .i64) x1 true),(6,.own 0),(14,.dat (.int .i64) x14 true),(15,.i .i64 x15),(16,.i .i64 x16)],[(0,.row (.int .i64) y0 false)],1,39⟩ K = bindO (fold_Left.l0 n x1 x14 x15 x16 y0) (fun x : (List Int) => K (.exit 0) ⟨[(6,.own 0)],[(0,.row (.int .i64) x false)],1,39⟩)) (ind_ (by intros; rw [S.lp_zero]; exact none_c) ?_) ?_
 intro n ih; intros; rw [fold_Left.l0]; refine S.lp_succ ?_; conv => lhs; arg 5; whnf
 rotate_left
 intro w118_0
 refine ⟨?_,?_,?_⟩
 intro a0 a1 a2
 unfold dot_Shape.f; refine S.run_s rfl rfl ?_; conv => lhs; arg 5; whnf
 conv => lhs; arg 6; whnf
 rotate_left
 intro a0
 unfold fold_Right.f; refine S.run_s rfl rfl ?_; conv => lhs; arg 5; whnf
 conv => lhs; arg 6; whnf
 rotate_left
 intro a0 a1
 unfold fold_Left.f; refine S.run_s rfl rfl ?_; conv => lhs; arg 5; whnf
 conv => lhs; arg 6; whnf
 rotate_left
 all_goals repeat' first|(first|refine S.seq_op rfl ?_|refine S.op_n ?_|refine S.block_x ?_|refine br_lt ?_|refine br_lf ?_|refine br_t (by assumption) ?_|refine br_f (by assumption) ?_|refine req_i (by with_reducible assumption) ?_|refine br_nd (fun _=>?_) (fun _=>?_)|refine br_d (fun _=>?_) (fun _=>?_)|refine br_n (fun _=>?_) (fun _=>?_)|refine br_c (fun _=>?_) (fun _=>?_)|refine req_c fun _=>?_|refine req_i (by assumption) ?_|refine bnd_c fun _=>?_)<;>(conv=>lhs;whnf)|refine S.seq_nil ?_|refine S.reg_n ?_|refine S.region rfl ?_|refine S.two ?_|refine S.blok ?_|refine S.cond rfl ?_|refine S.after_n ?_|refine S.block_n ?_|refine S.block_r ?_|refine S.after_x ?_|refine S.after_r ?_|refine S.skip ?_|refine S.exit ?_|refine S.ret ?_|refine sum_c (fun _=>?_) (fun _=>?_)|refine S.region_d (id := 3) (ds := [0,1,3,7,15,31,63,127,255,511,511,2047,511,511,12799,32767,65535,131071,262143,524287,524287,1572863,3670015,8388607,16777215,524287,524287,101187583,235405311,536870911,1073741823,2147483647]) (mds := [[],[],[],[],[],[],[],[],[],[],[],[],[],[],[],[],[],[],[],[],[],[],[],[],[],[],[],[],[],[],[],[]]) (hm := []) (by kernel_rfl) (by kernel_rfl) rfl rfl ?_|refine S.region_d (id := 5) (ds := [0,0,2,6,15,0,0,64,224,511,1023,2047]) (mds := [[],[],[],[],[],[],[],[],[],[],[],[]]) (hm := []) (by kernel_rfl) (by kernel_rfl) rfl rfl ?_|exact ih|refine (w118_0 _).trans ?_|(first|refine S.loop ?_|refine S.back_n ?_|refine S.back_x ?_|refine S.back_r ?_|refine S.fin_r ?_|refine S.fin_n ?_|refine S.dk_n ?_|refine S.draw_nil ?_)<;>(conv=>lhs;whnf)|exact ret_c rfl|exact none_c|(refine S.draw_op ?_; conv => lhs; whnf; arg 1; whnf)|refine andK_br ?_|refine andK_req ?_|refine andK_b ?_|refine andK_none ?_
theorem en93 (k : Nat) : EnvOK Tryz.prog (g93 k) := (envOK_add (snd116 k) (envOK_add (snd115 k) (envOK_add (snd63 k) (envOK_nil _))))
theorem snd93 (k : Nat) : Sound Tryz.prog 93 (sp93 k) := by
 refine ⟨⟨Tryz.f93,Tryz.func93,by kernel_rfl,rfl⟩,fun args objs K r h => ?_⟩
 unfold sp93 at h; dsimp only at h; split at h
 ·rename_i v0 v1 a2
  obtain ⟨a0,h9,ca0⟩ := listB_spec h; clear h
  have h := h9; clear h9
  obtain ⟨a1,h9,ca1⟩ := listB_spec h; clear h
  have h := h9; clear h9
  obtain ⟨x,hx,h⟩ := bindO_some h
  exact ⟨_,_,h,FnOK.args2 (relL_c ca0 (relL_c ca1 (relL_c rel_i relL_n))) (fn_run tab_ok (en93 k) mixed Tryz.func93 (((lp1002 seals k).1 a0 a1 a2).trans (bindO_eq hx)))⟩
 ·cases h
theorem en117 : EnvOK Tryz.prog (g117) := (envOK_nil _)
theorem snd117 : Sound Tryz.prog 117 (sp117) := by
 refine ⟨⟨Tryz.f117,Tryz.func117,by kernel_rfl,rfl⟩,fun args objs K r h => ?_⟩
 unfold sp117 at h; dsimp only at h; split at h
 ·rename_i a0
  obtain ⟨x,hx,h⟩ := bindO_some h
  exact ⟨_,_,h,FnOK.args2 (relL_c rel_i relL_n) (fn_run tab_ok (en117) mixed Tryz.func117 (((lp1002 seals 0).2.1 a0).trans (bindO_eq hx)))⟩
 ·cases h
theorem en118 (k : Nat) : EnvOK Tryz.prog (g118 k) := (envOK_add (snd112 k) (envOK_nil _))
theorem snd118 (k : Nat) : Sound Tryz.prog 118 (sp118 k) := by
 refine ⟨⟨Tryz.f118,Tryz.func118,by kernel_rfl,rfl⟩,fun args objs K r h => ?_⟩
 unfold sp118 at h; dsimp only at h; split at h
 ·rename_i v0 v1
  obtain ⟨a0,h9,ca0⟩ := listB_spec h; clear h
  have h := h9; clear h9
  obtain ⟨a1,h9,ca1⟩ := listB_spec h; clear h
  have h := h9; clear h9
  obtain ⟨x,hx,h⟩ := bindO_some h
  exact ⟨_,_,h,FnOK.args2 (relL_c ca0 (relL_c ca1 relL_n)) (fn_run tab_ok (en118 k) mixed Tryz.func118 (((lp1002 seals k).2.2 a0 a1).trans (bindO_eq hx)))⟩
 ·cases h
def lv94 : Live := look ⟨[],[],[],[],[]⟩ [(1000000,⟨[],[],[],[(4,0,.own (.int .i64))],[]⟩)]
noncomputable def g94 (k : Nat) : FEnv := (addF 63 (sp63 k) (addF 118 (sp118 k) (addF 117 sp117 (fun _=>none))))
def sp94 (k : Nat) : FSpec := ⟨[.rd,.rd],fun args objs K => match args,objs with | [.agg [.i .i64 a0_0,v0,v1,v2,.i .i64 a0_4,.i .i64 a0_5,.s a0_6],v3],[] => listB (.int .i64) true v0 fun a0_1 => listB (.int .i64) true v1 fun a0_2 => listB (.int .i64) true v2 fun a0_3 => listB (.int .i64) true v3 fun a1 => bindO (graph_folded.f k a0_0 a0_1 a0_2 a0_3 a0_4 a0_5 a0_6 a1) fun x : Int × (List Int) => K (.tup [.own 0,.i .i64 x.1]) [.row (.int .i64) x.2 false] | _,_ => none⟩
def lv125 : Live := look ⟨[],[],[],[],[]⟩ []
noncomputable def g125 : FEnv := (fun _=>none)
def sp125 : FSpec := ⟨[.rd],fun args objs K => match args,objs with | [.i .i64 a0],[] => bindO (window_May_1.f a0) fun x : Bool => K (.b x) [] | _,_ => none⟩
def lv119 : Live := look ⟨[],[],[],[],[]⟩ []
noncomputable def g119 : FEnv := (addF 125 sp125 (addF 117 sp117 (fun _=>none)))
def sp119 : FSpec := ⟨[.rd,.rd,.rd],fun args objs K => match args,objs with | [.i .i64 a0,.i .i64 a1,.i .i64 a2],[] => bindO (window_May.f a0 a1 a2) fun x : Bool => K (.b x) [] | _,_ => none⟩
def lv120 : Live := look ⟨[],[],[],[],[]⟩ []
noncomputable def g120 : FEnv := (fun _=>none)
def sp120 : FSpec := ⟨[.rd,.rd,.rd],fun args objs K => match args,objs with | [.i .i64 a0,.i .i64 a1,.i .i64 a2],[] => bindO (window_Out.f a0 a1 a2) fun x : Int => K (.i .i64 x) [] | _,_ => none⟩
theorem lp1003 (S : Seals) (k : Nat) : (∀ (a0_0 : Int) (a0_1 : List Int) (a0_2 : List Int) (a0_3 : List Int) (a0_4 : Int) (a0_5 : Int) (a0_6 : ByteArray) (a1 : List Int),runF tt (g94 k) lv94 Tryz.f94 k [.agg [.i .i64 a0_0,.dat (.int .i64) a0_1 true,.dat (.int .i64) a0_2 true,.dat (.int .i64) a0_3 true,.i .i64 a0_4,.i .i64 a0_5,.s a0_6],.dat (.int .i64) a1 true] [] = bindO (graph_folded.f k a0_0 a0_1 a0_2 a0_3 a0_4 a0_5 a0_6 a1) (fun x : Int × (List Int) => some (.tup [.own 0,.i .i64 x.1],[.row (.int .i64) x.2 false]))) ∧ (∀ (a0 : Int),runF tt (g125) lv125 Tryz.f125 k [.i .i64 a0] [] = bindO (window_May_1.f a0) (fun x : Bool => some (.b x,[]))) ∧ (∀ (a0 : Int) (a1 : Int) (a2 : Int),runF tt (g119) lv119 Tryz.f119 k [.i .i64 a0,.i .i64 a1,.i .i64 a2] [] = bindO (window_May.f a0 a1 a2) (fun x : Bool => some (.b x,[]))) ∧ (∀ (a0 : Int) (a1 : Int) (a2 : Int),runF tt (g120) lv120 Tryz.f120 k [.i .i64 a0,.i .i64 a1,.i .i64 a2] [] = bindO (window_Out.f a0 a1 a2) (fun x : Int => some (.i .i64 x,[]))) := by
 refine ⟨?_,?_,?_,?_⟩
 intro a0_0 a0_1 a0_2 a0_3 a0_4 a0_5 a0_6 a1
 unfold graph_folded.f; refine S.run_s rfl rfl ?_; conv => lhs; arg 5; whnf
 conv => lhs; arg 6; whnf
 rotate_left
 intro a0
 unfold window_May_1.f; refine S.run_s rfl rfl ?_; conv => lhs; arg 5; whnf
 conv => lhs; arg 6; whnf
 rotate_left
 intro a0 a1 a2
 unfold window_May.f; refine S.run_s rfl rfl ?_; conv => lhs; arg 5; whnf
 conv => lhs; arg 6; whnf
 rotate_left
 intro a0 a1 a2
 unfold window_Out.f; refine S.run_s rfl rfl ?_; conv => lhs; arg 5; whnf
 conv => lhs; arg 6; whnf
 rotate_left
 all_goals repeat' first|(first|refine S.seq_op rfl ?_|refine S.op_n ?_|refine S.block_x ?_|refine br_lt ?_|refine br_lf ?_|refine br_t (by assumption) ?_|refine br_f (by assumption) ?_|refine req_i (by with_reducible assumption) ?_|refine br_nd (fun _=>?_) (fun _=>?_)|refine br_d (fun _=>?_) (fun _=>?_)|refine br_n (fun _=>?_) (fun _=>?_)|refine br_c (fun _=>?_) (fun _=>?_)|refine req_c fun _=>?_|refine req_i (by assumption) ?_|refine bnd_c fun _=>?_)<;>(conv=>lhs;whnf)|refine S.seq_nil ?_|refine S.reg_n ?_|refine S.region rfl ?_|refine S.two ?_|refine S.blok ?_|refine S.cond rfl ?_|refine S.after_n ?_|refine S.block_n ?_|refine S.block_r ?_|refine S.after_x ?_|refine S.after_r ?_|refine S.skip ?_|refine S.exit ?_|refine S.ret ?_|refine sum_c (fun _=>?_) (fun _=>?_)|(first|refine S.loop ?_|refine S.back_n ?_|refine S.back_x ?_|refine S.back_r ?_|refine S.fin_r ?_|refine S.fin_n ?_|refine S.dk_n ?_|refine S.draw_nil ?_)<;>(conv=>lhs;whnf)|exact ret_c rfl|exact none_c|(refine S.draw_op ?_; conv => lhs; whnf; arg 1; whnf)|refine andK_br ?_|refine andK_req ?_|refine andK_b ?_|refine andK_none ?_
theorem en94 (k : Nat) : EnvOK Tryz.prog (g94 k) := (envOK_add (snd63 k) (envOK_add (snd118 k) (envOK_add snd117 (envOK_nil _))))
theorem snd94 (k : Nat) : Sound Tryz.prog 94 (sp94 k) := by
 refine ⟨⟨Tryz.f94,Tryz.func94,by kernel_rfl,rfl⟩,fun args objs K r h => ?_⟩
 unfold sp94 at h; dsimp only at h; split at h
 ·rename_i a0_0 v0 v1 v2 a0_4 a0_5 a0_6 v3
  obtain ⟨a0_1,h9,ca0_1⟩ := listB_spec h; clear h
  have h := h9; clear h9
  obtain ⟨a0_2,h9,ca0_2⟩ := listB_spec h; clear h
  have h := h9; clear h9
  obtain ⟨a0_3,h9,ca0_3⟩ := listB_spec h; clear h
  have h := h9; clear h9
  obtain ⟨a1,h9,ca1⟩ := listB_spec h; clear h
  have h := h9; clear h9
  obtain ⟨x,hx,h⟩ := bindO_some h
  exact ⟨_,_,h,FnOK.args2 (relL_c (rel_agg (relL_c rel_i (relL_c ca0_1 (relL_c ca0_2 (relL_c ca0_3 (relL_c rel_i (relL_c rel_i (relL_c rel_i relL_n)))))))) (relL_c ca1 relL_n)) (fn_run tab_ok (en94 k) mixed Tryz.func94 (((lp1003 seals k).1 a0_0 a0_1 a0_2 a0_3 a0_4 a0_5 a0_6 a1).trans (bindO_eq hx)))⟩
 ·cases h
theorem en125 : EnvOK Tryz.prog (g125) := (envOK_nil _)
theorem snd125 : Sound Tryz.prog 125 (sp125) := by
 refine ⟨⟨Tryz.f125,Tryz.func125,by kernel_rfl,rfl⟩,fun args objs K r h => ?_⟩
 unfold sp125 at h; dsimp only at h; split at h
 ·rename_i a0
  obtain ⟨x,hx,h⟩ := bindO_some h
  exact ⟨_,_,h,FnOK.args2 (relL_c rel_i relL_n) (fn_run tab_ok (en125) mixed Tryz.func125 (((lp1003 seals 0).2.1 a0).trans (bindO_eq hx)))⟩
 ·cases h
theorem en119 : EnvOK Tryz.prog (g119) := (envOK_add snd125 (envOK_add snd117 (envOK_nil _)))
theorem snd119 : Sound Tryz.prog 119 (sp119) := by
 refine ⟨⟨Tryz.f119,Tryz.func119,by kernel_rfl,rfl⟩,fun args objs K r h => ?_⟩
 unfold sp119 at h; dsimp only at h; split at h
 ·rename_i a0 a1 a2
  obtain ⟨x,hx,h⟩ := bindO_some h
  exact ⟨_,_,h,FnOK.args2 (relL_c rel_i (relL_c rel_i (relL_c rel_i relL_n))) (fn_run tab_ok (en119) mixed Tryz.func119 (((lp1003 seals 0).2.2.1 a0 a1 a2).trans (bindO_eq hx)))⟩
 ·cases h
theorem en120 : EnvOK Tryz.prog (g120) := (envOK_nil _)
theorem snd120 : Sound Tryz.prog 120 (sp120) := by
 refine ⟨⟨Tryz.f120,Tryz.func120,by kernel_rfl,rfl⟩,fun args objs K r h => ?_⟩
 unfold sp120 at h; dsimp only at h; split at h
 ·rename_i a0 a1 a2
  obtain ⟨x,hx,h⟩ := bindO_some h
  exact ⟨_,_,h,FnOK.args2 (relL_c rel_i (relL_c rel_i (relL_c rel_i relL_n))) (fn_run tab_ok (en120) mixed Tryz.func120 (((lp1003 seals 0).2.2.2 a0 a1 a2).trans (bindO_eq hx)))⟩
 ·cases h
def lv95 : Live := look ⟨[],[],[],[],[]⟩ [(1000000,⟨[],[],[],[(4,0,.own (.int .i64))],[]⟩)]
noncomputable def g95 : FEnv := (addF 120 sp120 (addF 37 sp37 (addF 119 sp119 (fun _=>none))))
def sp95 : FSpec := ⟨[.rd,.rd],fun args objs K => match args,objs with | [.agg [.i .i64 a0_0,v0,v1,v2,.i .i64 a0_4,.i .i64 a0_5,.s a0_6],v3],[] => listB (.int .i64) true v0 fun a0_1 => listB (.int .i64) true v1 fun a0_2 => listB (.int .i64) true v2 fun a0_3 => listB (.int .i64) true v3 fun a1 => bindO (graph_along.f a0_0 a0_1 a0_2 a0_3 a0_4 a0_5 a0_6 a1) fun x : Int × (List Int) => K (.tup [.own 0,.i .i64 x.1]) [.row (.int .i64) x.2 false] | _,_ => none⟩
def lv121 : Live := look ⟨[],[],[],[],[]⟩ []
noncomputable def g121 (k : Nat) : FEnv := (addF 115 (sp115 k) (fun _=>none))
def sp121 (k : Nat) : FSpec := ⟨[.rd,.rd],fun args objs K => match args,objs with | [v0,.ptr 0 0],[.var [v1]] => listB (.int .i64) true v0 fun a0 => datK (.sl (.int .i64)) false v1 fun o0 => bindO (graph_alike_1.f k a0 o0) fun x : Bool => K (.b x) [.var [.dat (.sl (.int .i64)) o0 false]] | _,_ => none⟩
theorem lp1004 (S : Seals) (k : Nat) : (∀ (a0_0 : Int) (a0_1 : List Int) (a0_2 : List Int) (a0_3 : List Int) (a0_4 : Int) (a0_5 : Int) (a0_6 : ByteArray) (a1 : List Int),runF tt (g95) lv95 Tryz.f95 k [.agg [.i .i64 a0_0,.dat (.int .i64) a0_1 true,.dat (.int .i64) a0_2 true,.dat (.int .i64) a0_3 true,.i .i64 a0_4,.i .i64 a0_5,.s a0_6],.dat (.int .i64) a1 true] [] = bindO (graph_along.f a0_0 a0_1 a0_2 a0_3 a0_4 a0_5 a0_6 a1) (fun x : Int × (List Int) => some (.tup [.own 0,.i .i64 x.1],[.row (.int .i64) x.2 false]))) ∧ (∀ (a0 : List Int) (o0 : List (List Int)),runF tt (g121 k) lv121 Tryz.f121 k [.dat (.int .i64) a0 true,.ptr 0 0] [.var [.dat (.sl (.int .i64)) o0 false]] = bindO (graph_alike_1.f k a0 o0) (fun x : Bool => some (.b x,[.var [.dat (.sl (.int .i64)) o0 false]]))) := by
 refine ⟨?_,?_⟩
 intro a0_0 a0_1 a0_2 a0_3 a0_4 a0_5 a0_6 a1
 unfold graph_along.f; refine S.run_s rfl rfl ?_; conv => lhs; arg 5; whnf
 conv => lhs; arg 6; whnf
 rotate_left
 intro a0 o0
 unfold graph_alike_1.f; refine S.run_s rfl rfl ?_; conv => lhs; arg 5; whnf
 conv => lhs; arg 6; whnf
 rotate_left
 all_goals repeat' first|(first|refine S.seq_op rfl ?_|refine S.op_n ?_|refine S.block_x ?_|refine br_lt ?_|refine br_lf ?_|refine br_t (by assumption) ?_|refine br_f (by assumption) ?_|refine req_i (by with_reducible assumption) ?_|refine br_nd (fun _=>?_) (fun _=>?_)|refine br_d (fun _=>?_) (fun _=>?_)|refine br_n (fun _=>?_) (fun _=>?_)|refine br_c (fun _=>?_) (fun _=>?_)|refine req_c fun _=>?_|refine req_i (by assumption) ?_|refine bnd_c fun _=>?_)<;>(conv=>lhs;whnf)|refine S.seq_nil ?_|refine S.reg_n ?_|refine S.region rfl ?_|refine S.two ?_|refine S.blok ?_|refine S.cond rfl ?_|refine S.after_n ?_|refine S.block_n ?_|refine S.block_r ?_|refine S.after_x ?_|refine S.after_r ?_|refine S.skip ?_|refine S.exit ?_|refine S.ret ?_|refine sum_c (fun _=>?_) (fun _=>?_)|refine S.region_d (id := 1) (ds := [0,1,3,7,15,31,63,31,159,415,927,31,2079,6175,14367,32767,65535,131071,262143,524287,1048575,2097151,4194303,8388607,16777215,33554431,67108863,134217727,268435455,536870911,67108863,1140850687,4294967295,8589934591]) (mds := [[],[],[],[],[],[],[],[],[],[],[],[],[],[],[],[],[],[],[],[],[],[],[],[],[],[],[],[],[],[],[],[],[],[]]) (hm := []) (by kernel_rfl) (by kernel_rfl) rfl rfl ?_|refine S.region_d (id := 4) (ds := [0,0,2,6,14,0,0,64,192,448,992,2016,0,4096,12288,28672,0,65536,196608,458752,1048544,2097151,4194303]) (mds := [[],[],[],[],[],[],[],[],[],[],[],[],[],[],[],[],[],[],[],[],[],[],[1]]) (hm := [(22,[1])]) (by kernel_rfl) (by kernel_rfl) rfl rfl ?_|(first|refine S.loop ?_|refine S.back_n ?_|refine S.back_x ?_|refine S.back_r ?_|refine S.fin_r ?_|refine S.fin_n ?_|refine S.dk_n ?_|refine S.draw_nil ?_)<;>(conv=>lhs;whnf)|exact ret_c rfl|exact none_c|(refine S.draw_op ?_; conv => lhs; whnf; arg 1; whnf)|refine andK_br ?_|refine andK_req ?_|refine andK_b ?_|refine andK_none ?_
theorem en95 : EnvOK Tryz.prog (g95) := (envOK_add snd120 (envOK_add snd37 (envOK_add snd119 (envOK_nil _))))
theorem snd95 : Sound Tryz.prog 95 (sp95) := by
 refine ⟨⟨Tryz.f95,Tryz.func95,by kernel_rfl,rfl⟩,fun args objs K r h => ?_⟩
 unfold sp95 at h; dsimp only at h; split at h
 ·rename_i a0_0 v0 v1 v2 a0_4 a0_5 a0_6 v3
  obtain ⟨a0_1,h9,ca0_1⟩ := listB_spec h; clear h
  have h := h9; clear h9
  obtain ⟨a0_2,h9,ca0_2⟩ := listB_spec h; clear h
  have h := h9; clear h9
  obtain ⟨a0_3,h9,ca0_3⟩ := listB_spec h; clear h
  have h := h9; clear h9
  obtain ⟨a1,h9,ca1⟩ := listB_spec h; clear h
  have h := h9; clear h9
  obtain ⟨x,hx,h⟩ := bindO_some h
  exact ⟨_,_,h,FnOK.args2 (relL_c (rel_agg (relL_c rel_i (relL_c ca0_1 (relL_c ca0_2 (relL_c ca0_3 (relL_c rel_i (relL_c rel_i (relL_c rel_i relL_n)))))))) (relL_c ca1 relL_n)) (fn_run tab_ok (en95) mixed Tryz.func95 (((lp1004 seals 0).1 a0_0 a0_1 a0_2 a0_3 a0_4 a0_5 a0_6 a1).trans (bindO_eq hx)))⟩
 ·cases h
theorem en121 (k : Nat) : EnvOK Tryz.prog (g121 k) := (envOK_add (snd115 k) (envOK_nil _))
theorem snd121 (k : Nat) : Sound Tryz.prog 121 (sp121 k) := by
 refine ⟨⟨Tryz.f121,Tryz.func121,by kernel_rfl,rfl⟩,fun args objs K r h => ?_⟩
 unfold sp121 at h; dsimp only at h; split at h
 ·rename_i v0 v1
  obtain ⟨a0,h9,ca0⟩ := listB_spec h; clear h
  have h := h9; clear h9
  obtain ⟨o0,h9,eo0⟩ := datK_spec h; clear h; subst eo0
  have h := h9; clear h9
  obtain ⟨x,hx,h⟩ := bindO_some h
  exact ⟨_,_,h,FnOK.args2 (relL_c ca0 (relL_c rel_i relL_n)) (fn_run tab_ok (en121 k) mixed Tryz.func121 (((lp1004 seals k).2 a0 o0).trans (bindO_eq hx)))⟩
 ·cases h
def lv87_2 : Live := look ⟨[],[],[],[],[]⟩ [(2,⟨[0,1,7,8],[],[4],[],[]⟩)]
noncomputable def g87_2 (k : Nat) : FEnv := (addF 121 (sp121 k) (fun _=>none))
def sp87_2 (k : Nat) : FSpec := ⟨[.rd,.rd],fun args objs K => match args,objs with | [v0,.fn 121 [.ptr 0 0]],[.var [v1]] => listB (.sl (.int .i64)) true v0 fun a0 => datK (.sl (.int .i64)) false v1 fun o0 => bindO (slices_IndexFunc_int_int__graph_alike_1.f k a0 o0) fun x : Int => K (.i .i64 x) [.var [.dat (.sl (.int .i64)) o0 false]] | _,_ => none⟩
def lv61_2 : Live := look ⟨[],[],[],[],[]⟩ []
noncomputable def g61_2 (k : Nat) : FEnv := (addF 87 (sp87_2 k) (fun _=>none))
def sp61_2 (k : Nat) : FSpec := ⟨[.rd,.rd],fun args objs K => match args,objs with | [v0,.fn 121 [.ptr 0 0]],[.var [v1]] => listB (.sl (.int .i64)) true v0 fun a0 => datK (.sl (.int .i64)) false v1 fun o0 => bindO (slices_ContainsFunc_int_int__graph_alike_1.f k a0 o0) fun x : Bool => K (.b x) [.var [.dat (.sl (.int .i64)) o0 false]] | _,_ => none⟩
def lv96 : Live := look ⟨[],[],[],[],[]⟩ [(1000000,⟨[],[],[],[(2,0,.dat (.int .i64))],[]⟩)]
noncomputable def g96 (k : Nat) : FEnv := (addF 61 (sp61_2 k) (fun _=>none))
def sp96 (k : Nat) : FSpec := ⟨[.st],fun args objs K => match args,objs with | [v0],[] => listB (.sl (.int .i64)) false v0 fun a0 => bindO (graph_alike.f k a0) fun x : (List Int) × Int => K (.tup [.dat (.int .i64) x.1 false,.i .i64 x.2]) [] | _,_ => none⟩
theorem lp1005 (S : Seals) (k : Nat) : (∀ (a0 : List (List Int)) (o0 : List (List Int)),runF tt (g87_2 k) lv87_2 Tryz.f87 k [.dat (.sl (.int .i64)) a0 true,.fn 121 [.ptr 0 0]] [.var [.dat (.sl (.int .i64)) o0 false]] = bindO (slices_IndexFunc_int_int__graph_alike_1.f k a0 o0) (fun x : Int => some (.i .i64 x,[.var [.dat (.sl (.int .i64)) o0 false]]))) ∧ (∀ (a0 : List (List Int)) (o0 : List (List Int)),runF tt (g61_2 k) lv61_2 Tryz.f61 k [.dat (.sl (.int .i64)) a0 true,.fn 121 [.ptr 0 0]] [.var [.dat (.sl (.int .i64)) o0 false]] = bindO (slices_ContainsFunc_int_int__graph_alike_1.f k a0 o0) (fun x : Bool => some (.b x,[.var [.dat (.sl (.int .i64)) o0 false]]))) ∧ (∀ (a0 : List (List Int)),runF tt (g96 k) lv96 Tryz.f96 k [.dat (.sl (.int .i64)) a0 false] [] = bindO (graph_alike.f k a0) (fun x : (List Int) × Int => some (.tup [.dat (.int .i64) x.1 false,.i .i64 x.2],[]))) := by
 refine cut_ (A := ∀ (n : Nat) {x0 : List (List Int)} {x7 : Int} {x8 : Int} {y0 : List (List Int)} {K : CK},S.lp tt (g87_2 k) lv87_2 1 n (loopN Tryz.f87 0) ⟨[(0,.dat (.sl (.int .i64)) x0 true),(1,.fn 121 [.ptr 0 0]),(7,.i .i64 x7),(8,.i .i64 x8)],[(0,.var [.dat (.sl (.int .i64)) y0 false])],1,19⟩ K = bindO (slices_IndexFunc_int_int__graph_alike_1.l0 k n x0 x7 x8 y0) (Sum.elim (fun x : Unit => K (.exit 0) ⟨[],[(0,.var [.dat (.sl (.int .i64)) y0 false])],1,19⟩) (fun x : Int => K .ret ⟨[(4,.i .i64 x)],[(0,.var [.dat (.sl (.int .i64)) y0 false])],1,19⟩))) (ind_ (by intros; rw [S.lp_zero]; exact none_c) ?_) ?_
 intro n ih; intros; rw [slices_IndexFunc_int_int__graph_alike_1.l0]; refine S.lp_succ ?_; conv => lhs; arg 5; whnf
 rotate_left
 intro w87_2_0
 refine ⟨?_,?_,?_⟩
 intro a0 o0
 unfold slices_IndexFunc_int_int__graph_alike_1.f; refine S.run_s rfl rfl ?_; conv => lhs; arg 5; whnf
 conv => lhs; arg 6; whnf
 rotate_left
 intro a0 o0
 unfold slices_ContainsFunc_int_int__graph_alike_1.f; refine S.run_s rfl rfl ?_; conv => lhs; arg 5; whnf
 conv => lhs; arg 6; whnf
 rotate_left
 intro a0
 unfold graph_alike.f; refine S.run_s rfl rfl ?_; conv => lhs; arg 5; whnf
 conv => lhs; arg 6; whnf
 rotate_left
 all_goals repeat' first|(first|refine S.seq_op rfl ?_|refine S.op_n ?_|refine S.block_x ?_|refine br_lt ?_|refine br_lf ?_|refine br_t (by assumption) ?_|refine br_f (by assumption) ?_|refine req_i (by with_reducible assumption) ?_|refine br_nd (fun _=>?_) (fun _=>?_)|refine br_d (fun _=>?_) (fun _=>?_)|refine br_n (fun _=>?_) (fun _=>?_)|refine br_c (fun _=>?_) (fun _=>?_)|refine req_c fun _=>?_|refine req_i (by assumption) ?_|refine bnd_c fun _=>?_)<;>(conv=>lhs;whnf)|refine S.seq_nil ?_|refine S.reg_n ?_|refine S.region rfl ?_|refine S.two ?_|refine S.blok ?_|refine S.cond rfl ?_|refine S.after_n ?_|refine S.block_n ?_|refine S.block_r ?_|refine S.after_x ?_|refine S.after_r ?_|refine S.skip ?_|refine S.exit ?_|refine S.ret ?_|refine sum_c (fun _=>?_) (fun _=>?_)|exact ih|refine (w87_2_0 _).trans ?_|(first|refine S.loop ?_|refine S.back_n ?_|refine S.back_x ?_|refine S.back_r ?_|refine S.fin_r ?_|refine S.fin_n ?_|refine S.dk_n ?_|refine S.draw_nil ?_)<;>(conv=>lhs;whnf)|exact ret_c rfl|exact none_c|(refine S.draw_op ?_; conv => lhs; whnf; arg 1; whnf)|refine andK_br ?_|refine andK_req ?_|refine andK_b ?_|refine andK_none ?_
theorem en87_2 (k : Nat) : EnvOK Tryz.prog (g87_2 k) := (envOK_add (snd121 k) (envOK_nil _))
theorem snd87_2 (k : Nat) : Sound Tryz.prog 87 (sp87_2 k) := by
 refine ⟨⟨Tryz.f87,Tryz.func87,by kernel_rfl,rfl⟩,fun args objs K r h => ?_⟩
 unfold sp87_2 at h; dsimp only at h; split at h
 ·rename_i v0 v1
  obtain ⟨a0,h9,ca0⟩ := listB_spec h; clear h
  have h := h9; clear h9
  obtain ⟨o0,h9,eo0⟩ := datK_spec h; clear h; subst eo0
  have h := h9; clear h9
  obtain ⟨x,hx,h⟩ := bindO_some h
  exact ⟨_,_,h,FnOK.args2 (relL_c ca0 (relL_c rel_i relL_n)) (fn_run tab_ok (en87_2 k) mixed Tryz.func87 (((lp1005 seals k).1 a0 o0).trans (bindO_eq hx)))⟩
 ·cases h
theorem en61_2 (k : Nat) : EnvOK Tryz.prog (g61_2 k) := (envOK_add (snd87_2 k) (envOK_nil _))
theorem snd61_2 (k : Nat) : Sound Tryz.prog 61 (sp61_2 k) := by
 refine ⟨⟨Tryz.f61,Tryz.func61,by kernel_rfl,rfl⟩,fun args objs K r h => ?_⟩
 unfold sp61_2 at h; dsimp only at h; split at h
 ·rename_i v0 v1
  obtain ⟨a0,h9,ca0⟩ := listB_spec h; clear h
  have h := h9; clear h9
  obtain ⟨o0,h9,eo0⟩ := datK_spec h; clear h; subst eo0
  have h := h9; clear h9
  obtain ⟨x,hx,h⟩ := bindO_some h
  exact ⟨_,_,h,FnOK.args2 (relL_c ca0 (relL_c rel_i relL_n)) (fn_run tab_ok (en61_2 k) mixed Tryz.func61 (((lp1005 seals k).2.1 a0 o0).trans (bindO_eq hx)))⟩
 ·cases h
theorem en96 (k : Nat) : EnvOK Tryz.prog (g96 k) := (envOK_add (snd61_2 k) (envOK_nil _))
theorem snd96 (k : Nat) : Sound Tryz.prog 96 (sp96 k) := by
 refine ⟨⟨Tryz.f96,Tryz.func96,by kernel_rfl,rfl⟩,fun args objs K r h => ?_⟩
 unfold sp96 at h; dsimp only at h; split at h
 ·rename_i v0
  obtain ⟨a0,h9,ca0⟩ := listB_spec h; clear h
  have h := h9; clear h9
  obtain ⟨x,hx,h⟩ := bindO_some h
  exact ⟨_,_,h,FnOK.args2 (relL_c ca0 relL_n) (fn_run tab_ok (en96 k) mixed Tryz.func96 (((lp1005 seals k).2.2 a0).trans (bindO_eq hx)))⟩
 ·cases h
def lv64 : Live := look ⟨[],[],[],[],[]⟩ [(1000000,⟨[],[],[],[(4,0,.fz (.int .i64))],[]⟩)]
noncomputable def g64 (k : Nat) : FEnv := (addF 96 (sp96 k) (addF 95 sp95 (addF 94 (sp94 k) (addF 93 (sp93 k) (addF 92 (sp92 k) (addF 91 (sp91 k) (addF 90 (sp90 k) (addF 89 (sp89 k) (addF 88 (sp88 k) (fun _=>none))))))))))
def sp64 (k : Nat) : FSpec := ⟨[.st,.st],fun args objs K => match args,objs with | [.agg [.i .i64 a0_0,v0,v1,v2,.i .i64 a0_4,.i .i64 a0_5,.s a0_6],v3],[] => listB (.int .i64) false v0 fun a0_1 => listB (.int .i64) false v1 fun a0_2 => listB (.int .i64) false v2 fun a0_3 => listB (.sl (.int .i64)) false v3 fun a1 => bindO (graph_shapeOf.f k a0_0 a0_1 a0_2 a0_3 a0_4 a0_5 a0_6 a1) fun x : (List Int) × Int => K (.tup [.dat (.int .i64) x.1 false,.i .i64 x.2]) [] | _,_ => none⟩
theorem lp1006 (S : Seals) (k : Nat) : (∀ (a0_0 : Int) (a0_1 : List Int) (a0_2 : List Int) (a0_3 : List Int) (a0_4 : Int) (a0_5 : Int) (a0_6 : ByteArray) (a1 : List (List Int)),runF tt (g64 k) lv64 Tryz.f64 k [.agg [.i .i64 a0_0,.dat (.int .i64) a0_1 false,.dat (.int .i64) a0_2 false,.dat (.int .i64) a0_3 false,.i .i64 a0_4,.i .i64 a0_5,.s a0_6],.dat (.sl (.int .i64)) a1 false] [] = bindO (graph_shapeOf.f k a0_0 a0_1 a0_2 a0_3 a0_4 a0_5 a0_6 a1) (fun x : (List Int) × Int => some (.tup [.dat (.int .i64) x.1 false,.i .i64 x.2],[]))) := by
 skip
 intro a0_0 a0_1 a0_2 a0_3 a0_4 a0_5 a0_6 a1
 unfold graph_shapeOf.f; refine S.run_s rfl rfl ?_; conv => lhs; arg 5; whnf
 conv => lhs; arg 6; whnf
 all_goals repeat' first|(first|refine S.seq_op rfl ?_|refine S.op_n ?_|refine S.block_x ?_|refine br_lt ?_|refine br_lf ?_|refine br_t (by assumption) ?_|refine br_f (by assumption) ?_|refine req_i (by with_reducible assumption) ?_|refine br_nd (fun _=>?_) (fun _=>?_)|refine br_d (fun _=>?_) (fun _=>?_)|refine br_n (fun _=>?_) (fun _=>?_)|refine br_c (fun _=>?_) (fun _=>?_)|refine req_c fun _=>?_|refine req_i (by assumption) ?_|refine bnd_c fun _=>?_)<;>(conv=>lhs;whnf)|refine S.seq_nil ?_|refine S.reg_n ?_|refine S.region rfl ?_|refine S.two ?_|refine S.blok ?_|refine S.cond rfl ?_|refine S.after_n ?_|refine S.block_n ?_|refine S.block_r ?_|refine S.after_x ?_|refine S.after_r ?_|refine S.skip ?_|refine S.exit ?_|refine S.ret ?_|refine sum_c (fun _=>?_) (fun _=>?_)|refine S.region_d (id := 7) (ds := [0,1,3,0,8,31,63,63,255,511]) (mds := [[],[],[],[],[],[],[],[],[],[]]) (hm := []) (by kernel_rfl) (by kernel_rfl) rfl rfl ?_|refine S.region_d (id := 9) (ds := [0,1,0,4,12,0,32,0,128,508,1023,2047]) (mds := [[],[],[],[],[],[],[],[],[],[],[],[]]) (hm := []) (by kernel_rfl) (by kernel_rfl) rfl rfl ?_|refine S.region_d (id := 12) (ds := [0,0,2,6,15,31,31,127,255]) (mds := [[],[],[],[],[],[],[],[],[]]) (hm := []) (by kernel_rfl) (by kernel_rfl) rfl rfl ?_|refine S.region_d (id := 19) (ds := [0,1,3,0,8,24,0,64,192,448,1023,2047,2047,8191,16383]) (mds := [[],[],[],[],[],[],[],[],[],[],[],[],[],[],[]]) (hm := []) (by kernel_rfl) (by kernel_rfl) rfl rfl ?_|refine S.region_d (id := 21) (ds := [0,0,2,6,15,31,31,127,255]) (mds := [[],[],[],[],[],[],[],[],[]]) (hm := []) (by kernel_rfl) (by kernel_rfl) rfl rfl ?_|refine S.region_d (id := 23) (ds := [0,0,2,6,15,31,31,127,255]) (mds := [[],[],[],[],[],[],[],[],[]]) (hm := []) (by kernel_rfl) (by kernel_rfl) rfl rfl ?_|(first|refine S.loop ?_|refine S.back_n ?_|refine S.back_x ?_|refine S.back_r ?_|refine S.fin_r ?_|refine S.fin_n ?_|refine S.dk_n ?_|refine S.draw_nil ?_)<;>(conv=>lhs;whnf)|exact ret_c rfl|exact none_c|(refine S.draw_op ?_; conv => lhs; whnf; arg 1; whnf)|refine andK_br ?_|refine andK_req ?_|refine andK_b ?_|refine andK_none ?_
theorem en64 (k : Nat) : EnvOK Tryz.prog (g64 k) := (envOK_add (snd96 k) (envOK_add snd95 (envOK_add (snd94 k) (envOK_add (snd93 k) (envOK_add (snd92 k) (envOK_add (snd91 k) (envOK_add (snd90 k) (envOK_add (snd89 k) (envOK_add (snd88 k) (envOK_nil _))))))))))
theorem snd64 (k : Nat) : Sound Tryz.prog 64 (sp64 k) := by
 refine ⟨⟨Tryz.f64,Tryz.func64,by kernel_rfl,rfl⟩,fun args objs K r h => ?_⟩
 unfold sp64 at h; dsimp only at h; split at h
 ·rename_i a0_0 v0 v1 v2 a0_4 a0_5 a0_6 v3
  obtain ⟨a0_1,h9,ca0_1⟩ := listB_spec h; clear h
  have h := h9; clear h9
  obtain ⟨a0_2,h9,ca0_2⟩ := listB_spec h; clear h
  have h := h9; clear h9
  obtain ⟨a0_3,h9,ca0_3⟩ := listB_spec h; clear h
  have h := h9; clear h9
  obtain ⟨a1,h9,ca1⟩ := listB_spec h; clear h
  have h := h9; clear h9
  obtain ⟨x,hx,h⟩ := bindO_some h
  exact ⟨_,_,h,FnOK.args2 (relL_c (rel_agg (relL_c rel_i (relL_c ca0_1 (relL_c ca0_2 (relL_c ca0_3 (relL_c rel_i (relL_c rel_i (relL_c rel_i relL_n)))))))) (relL_c ca1 relL_n)) (fn_run tab_ok (en64 k) mixed Tryz.func64 (((lp1006 seals k) a0_0 a0_1 a0_2 a0_3 a0_4 a0_5 a0_6 a1).trans (bindO_eq hx)))⟩
 ·cases h
end Go.Vm
