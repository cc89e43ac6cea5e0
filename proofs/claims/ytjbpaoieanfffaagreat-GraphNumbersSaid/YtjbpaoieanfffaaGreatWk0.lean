/- Own texts put together: the walks -/
import Derived.Test.YtjbpaoieanfffaaGreatVm1
import Derived.Test.YtjbpaoieanfffaaGreatPl0
import Derived.Test.YtjbpaoieanfffaaGreatProg
set_option linter.unusedVariables false
set_option maxRecDepth 60000
set_option maxHeartbeats 40000000
namespace Go.Vm
open Go Go.Proofs Go.Pf

theorem ind_ {P : Nat → Prop} (h0 : P 0) (hs : ∀ n,P n → P (n + 1)) : ∀ n,P n
 | 0 => h0
 | n + 1 => hs n (ind_ h0 hs n)
theorem cut_ {A B : Prop} (a : A) (f : A → B) : B := f a
def tt : Tab := [default,
 default,
 ⟨.int .i64,1,8,[.i .i64 0],some (.int .i64)⟩,
 ⟨.int .i64,1,8,[.i .i64 0],some (.int .i64)⟩,
 ⟨.bool,1,1,[.b false],some .bool⟩,
 default,
 default,
 default,
 default,
 ⟨.str,1,16,[.s ByteArray.empty],some .str⟩,
 default,
 default,
 default,
 default,
 default,
 default,
 default,
 default,
 default,
 default,
 default,
 ⟨.int .i32,1,4,[.i .i32 0],some (.int .i32)⟩,
 ⟨.sl 3,1,24,[.nilsl],some (.sl (.int .i64))⟩,
 ⟨.sl 32,1,24,[.nilsl],some (.sl (.pair (.int .i64) (.pair (.sl (.int .i64)) (.pair (.sl (.int .i64)) (.pair (.sl (.int .i64)) (.pair (.int .i64) (.pair (.int .i64) .str)))))))⟩,
 default,
 ⟨.struct [(0,22),(1,9),(2,23),(3,22)],4,88,[.nilsl,.s ByteArray.empty,.nilsl,.nilsl],some (.pair (.sl (.int .i64)) (.pair .str (.pair (.sl (.pair (.int .i64) (.pair (.sl (.int .i64)) (.pair (.sl (.int .i64)) (.pair (.sl (.int .i64)) (.pair (.int .i64) (.pair (.int .i64) .str))))))) (.sl (.int .i64)))))⟩,
 default,
 ⟨.sl 22,1,24,[.nilsl],some (.sl (.sl (.int .i64)))⟩,
 ⟨.int .i64,1,8,[.i .i64 0],some (.int .i64)⟩,
 default,
 default,
 default,
 ⟨.struct [(0,3),(1,22),(2,22),(3,22),(4,2),(5,3),(6,9)],7,112,[.i .i64 0,.nilsl,.nilsl,.nilsl,.i .i64 0,.i .i64 0,.s ByteArray.empty],some (.pair (.int .i64) (.pair (.sl (.int .i64)) (.pair (.sl (.int .i64)) (.pair (.sl (.int .i64)) (.pair (.int .i64) (.pair (.int .i64) .str))))))⟩,
 default,
 default,
 default,
 ⟨.func,1,8,[.kon (.nilFunc)],none⟩,
 ⟨.ptr 39,1,8,[.kon (.pointer none)],none⟩,
 default,
 ⟨.struct [(0,22),(1,3)],2,32,[.nilsl,.i .i64 0],some (.pair (.sl (.int .i64)) (.int .i64))⟩,
 ⟨.sl 9,1,24,[.nilsl],some (.sl .str)⟩,
 default,
 default,
 default,
 default,
 default,
 default,
 ⟨.struct [(0,3),(1,3),(2,3),(3,3),(4,9)],5,48,[.i .i64 0,.i .i64 0,.i .i64 0,.i .i64 0,.s ByteArray.empty],some (.pair (.int .i64) (.pair (.int .i64) (.pair (.int .i64) (.pair (.int .i64) .str))))⟩,
 ⟨.sl 47,1,24,[.nilsl],some (.sl (.pair (.int .i64) (.pair (.int .i64) (.pair (.int .i64) (.pair (.int .i64) .str)))))⟩,
 default,
 default,
 default,
 default,
 default,
 default,
 default,
 default,
 default,
 default,
 default,
 default,
 default,
 ⟨.func,1,8,[.kon (.nilFunc)],none⟩,
 default,
 default,
 default,
 default,
 default,
 default,
 ⟨.func,1,8,[.kon (.nilFunc)],none⟩,
 default,
 default,
 default,
 default,
 default,
 ⟨.sl 78,1,24,[.nilsl],some (.sl (.pair (.sl (.int .i64)) (.sl (.int .i64))))⟩,
 ⟨.sl 2,1,24,[.nilsl],some (.sl (.int .i64))⟩,
 default,
 ⟨.struct [(0,22),(1,76)],2,48,[.nilsl,.nilsl],some (.pair (.sl (.int .i64)) (.sl (.int .i64)))⟩,
 default,
 default,
 default,
 ⟨.sl 21,1,24,[.nilsl],some (.sl (.int .i32))⟩,
 default,
 ⟨.sl 4,1,24,[.nilsl],some (.sl .bool)⟩,
 default,
 default,
 default,
 default,
 default,
 default,
 default,
 default,
 default,
 default,
 default,
 default,
 default,
 default,
 default,
 default,
 default,
 default,
 default,
 default,
 default,
 default,
 default,
 default,
 default,
 ⟨.struct [(0,3),(1,4),(2,4),(3,4),(4,4),(5,4)],6,16,[.i .i64 0,.b false,.b false,.b false,.b false,.b false],some (.pair (.int .i64) (.pair .bool (.pair .bool (.pair .bool (.pair .bool .bool)))))⟩]
theorem tab_ok : TabOK Tryz.prog tt := tabOK_of (by kernel_rfl)
theorem mixed : Tryz.prog.follows .mixedOrders = true := by kernel_rfl

def lv79 : Live := look ⟨[],[],[],[],[]⟩ [(3,⟨[3,7],[3],[2],[(3,0,.own (.int .i32))],[]⟩)]
noncomputable def g79 : FEnv := (fun _=>none)
def sp79 (k : Nat) : FSpec := ⟨[.rd],fun args objs K => match args,objs with | [.s a0],[] => bindO (names_Runes.f k a0) fun x : (List Int) => K (.own 0) [.row (.int .i32) x false] | _,_ => none⟩
def lv80 : Live := look ⟨[],[],[],[],[]⟩ []
noncomputable def g80 : FEnv := (fun _=>none)
def sp80 : FSpec := ⟨[.rd],fun args objs K => match args,objs with | [.i .i32 a0],[] => bindO (names_may.f a0) fun x : Bool => K (.b x) [] | _,_ => none⟩
def lv110 : Live := look ⟨[],[],[],[],[]⟩ [(2,⟨[0,1,7,8],[],[4],[],[]⟩)]
noncomputable def g110 : FEnv := (fun _=>none)
def sp110 (k : Nat) : FSpec := ⟨[.rd,.rd],fun args objs K => match args,objs with | [v0,.i .i32 a1],[] => listB (.int .i32) true v0 fun a0 => bindO (slices_Index_rune.f k a0 a1) fun x : Int => K (.i .i64 x) [] | _,_ => none⟩
def lv81 : Live := look ⟨[],[],[],[],[]⟩ []
noncomputable def g81 (k : Nat) : FEnv := (addF 110 (sp110 k) (fun _=>none))
def sp81 (k : Nat) : FSpec := ⟨[.rd,.rd],fun args objs K => match args,objs with | [v0,.i .i32 a1],[] => listB (.int .i32) true v0 fun a0 => bindO (slices_Contains_rune.f k a0 a1) fun x : Bool => K (.b x) [] | _,_ => none⟩
def lv53 : Live := look ⟨[],[],[],[],[]⟩ [(5,⟨[5,18,19,20],[],[4],[],[]⟩)]
noncomputable def g53 (k : Nat) : FEnv := (addF 81 (sp81 k) (addF 80 sp80 (addF 79 (sp79 k) (fun _=>none))))
def sp53 (k : Nat) : FSpec := ⟨[.rd,.rd],fun args objs K => match args,objs with | [.s a0,.i .i64 a1],[] => bindO (names_Right.f k a0 a1) fun x : Bool => K (.b x) [] | _,_ => none⟩
theorem lp0 (S : Seals) (k : Nat) : (∀ (a0 : ByteArray),runF tt (g79) lv79 Tryz.f79 k [.s a0] [] = bindO (names_Runes.f k a0) (fun x : (List Int) => some (.own 0,[.row (.int .i32) x false]))) ∧ (∀ (a0 : Int),runF tt (g80) lv80 Tryz.f80 k [.i .i32 a0] [] = bindO (names_may.f a0) (fun x : Bool => some (.b x,[]))) ∧ (∀ (a0 : List Int) (a1 : Int),runF tt (g110) lv110 Tryz.f110 k [.dat (.int .i32) a0 true,.i .i32 a1] [] = bindO (slices_Index_rune.f k a0 a1) (fun x : Int => some (.i .i64 x,[]))) ∧ (∀ (a0 : List Int) (a1 : Int),runF tt (g81 k) lv81 Tryz.f81 k [.dat (.int .i32) a0 true,.i .i32 a1] [] = bindO (slices_Contains_rune.f k a0 a1) (fun x : Bool => some (.b x,[]))) ∧ (∀ (a0 : ByteArray) (a1 : Int),runF tt (g53 k) lv53 Tryz.f53 k [.s a0,.i .i64 a1] [] = bindO (names_Right.f k a0 a1) (fun x : Bool => some (.b x,[]))) := by
 refine cut_ (A := ∀ (n : Nat) {y0 : List Int} {y1_0 : ByteArray} {y1_1 : Nat} {K : CK},S.lp tt (g79) lv79 0 n (loopN Tryz.f79 0) ⟨[(3,.own 0),(7,.ptr 1 0)],[(0,.row (.int .i32) y0 false),(1,.ext (.iter y1_0 y1_1))],2,16⟩ K = bindO (names_Runes.l0 n y0 y1_0 y1_1) (fun x : (List Int) => K (.exit 0) ⟨[(3,.own 0)],[(0,.row (.int .i32) x false)],1,16⟩)) (ind_ (by intros; rw [S.lp_zero]; exact none_c) ?_) ?_
 intro n ih; intros; rw [names_Runes.l0]; refine S.lp_succ ?_; conv => lhs; arg 5; whnf
 rotate_left
 intro w79_0
 refine cut_ (A := ∀ (n : Nat) {x0 : List Int} {x1 : Int} {x7 : Int} {x8 : Int} {K : CK},S.lp tt (g110) lv110 0 n (loopN Tryz.f110 0) ⟨[(0,.dat (.int .i32) x0 true),(1,.i .i32 x1),(7,.i .i64 x7),(8,.i .i64 x8)],[],0,19⟩ K = bindO (slices_Index_rune.l0 n x0 x1 x7 x8) (Sum.elim (fun x : Unit => K (.exit 0) ⟨[],[],0,19⟩) (fun x : Int => K .ret ⟨[(4,.i .i64 x)],[],0,19⟩))) (ind_ (by intros; rw [S.lp_zero]; exact none_c) ?_) ?_
 intro n ih; intros; rw [slices_Index_rune.l0]; refine S.lp_succ ?_; conv => lhs; arg 5; whnf
 rotate_left
 intro w110_0
 refine cut_ (A := ∀ (n : Nat) {x19 : Int} {x20 : Int} {y0 : List Int} {K : CK},S.lp tt (g53 k) lv53 0 n (loopN Tryz.f53 0) ⟨[(5,.own 0),(18,.own 0),(19,.i .i64 x19),(20,.i .i64 x20)],[(0,.row (.int .i32) y0 false)],1,36⟩ K = bindO (names_Right.l0 k n x19 x20 y0) (Sum.elim (fun x : Unit => K (.exit 0) ⟨[],[],0,36⟩) (fun x : Bool => K .ret ⟨[(4,.b x)],[],0,36⟩))) (ind_ (by intros; rw [S.lp_zero]; exact none_c) ?_) ?_
 intro n ih; intros; rw [names_Right.l0]; refine S.lp_succ ?_; conv => lhs; arg 5; whnf
 rotate_left
 intro w53_0
 refine ⟨?_,?_,?_,?_,?_⟩
 intro a0
 unfold names_Runes.f; refine S.run_s rfl rfl ?_; conv => lhs; arg 5; whnf
 conv => lhs; arg 6; whnf
 rotate_left
 intro a0
 unfold names_may.f; refine S.run_s rfl rfl ?_; conv => lhs; arg 5; whnf
 conv => lhs; arg 6; whnf
 rotate_left
 intro a0 a1
 unfold slices_Index_rune.f; refine S.run_s rfl rfl ?_; conv => lhs; arg 5; whnf
 conv => lhs; arg 6; whnf
 rotate_left
 intro a0 a1
 unfold slices_Contains_rune.f; refine S.run_s rfl rfl ?_; conv => lhs; arg 5; whnf
 conv => lhs; arg 6; whnf
 rotate_left
 intro a0 a1
 unfold names_Right.f; refine S.run_s rfl rfl ?_; conv => lhs; arg 5; whnf
 conv => lhs; arg 6; whnf
 rotate_left
 all_goals repeat' first|(first|refine S.seq_op rfl ?_|refine S.op_n ?_|refine S.block_x ?_|refine br_lt ?_|refine br_lf ?_|refine br_t (by assumption) ?_|refine br_f (by assumption) ?_|refine req_i (by with_reducible assumption) ?_|refine br_nd (fun _=>?_) (fun _=>?_)|refine br_d (fun _=>?_) (fun _=>?_)|refine br_n (fun _=>?_) (fun _=>?_)|refine br_c (fun _=>?_) (fun _=>?_)|refine req_c fun _=>?_|refine req_i (by assumption) ?_|refine bnd_c fun _=>?_)<;>(conv=>lhs;whnf)|refine S.seq_nil ?_|refine S.reg_n ?_|refine S.region rfl ?_|refine S.two ?_|refine S.blok ?_|refine S.cond rfl ?_|refine S.after_n ?_|refine S.block_n ?_|refine S.block_r ?_|refine S.after_x ?_|refine S.after_r ?_|refine S.skip ?_|refine S.exit ?_|refine S.ret ?_|refine sum_c (fun _=>?_) (fun _=>?_)|exact ih|refine (w79_0 _).trans ?_|refine (w110_0 _).trans ?_|refine (w53_0 _).trans ?_|(first|refine S.loop ?_|refine S.back_n ?_|refine S.back_x ?_|refine S.back_r ?_|refine S.fin_r ?_|refine S.fin_n ?_|refine S.dk_n ?_|refine S.draw_nil ?_)<;>(conv=>lhs;whnf)|exact ret_c rfl|exact none_c|(refine S.draw_op ?_; conv => lhs; whnf; arg 1; whnf)|refine andK_br ?_|refine andK_req ?_|refine andK_b ?_|refine andK_none ?_
theorem en79 : EnvOK Tryz.prog (g79) := (envOK_nil _)
theorem snd79 (k : Nat) : Sound Tryz.prog 79 (sp79 k) := by
 refine ⟨⟨Tryz.f79,Tryz.func79,by kernel_rfl,rfl⟩,fun args objs K r h => ?_⟩
 unfold sp79 at h; dsimp only at h; split at h
 ·rename_i a0
  obtain ⟨x,hx,h⟩ := bindO_some h
  exact ⟨_,_,h,FnOK.args2 (relL_c rel_i relL_n) (fn_run tab_ok (en79) mixed Tryz.func79 (((lp0 seals k).1 a0).trans (bindO_eq hx)))⟩
 ·cases h
theorem en80 : EnvOK Tryz.prog (g80) := (envOK_nil _)
theorem snd80 : Sound Tryz.prog 80 (sp80) := by
 refine ⟨⟨Tryz.f80,Tryz.func80,by kernel_rfl,rfl⟩,fun args objs K r h => ?_⟩
 unfold sp80 at h; dsimp only at h; split at h
 ·rename_i a0
  obtain ⟨x,hx,h⟩ := bindO_some h
  exact ⟨_,_,h,FnOK.args2 (relL_c rel_i relL_n) (fn_run tab_ok (en80) mixed Tryz.func80 (((lp0 seals 0).2.1 a0).trans (bindO_eq hx)))⟩
 ·cases h
theorem en110 : EnvOK Tryz.prog (g110) := (envOK_nil _)
theorem snd110 (k : Nat) : Sound Tryz.prog 110 (sp110 k) := by
 refine ⟨⟨Tryz.f110,Tryz.func110,by kernel_rfl,rfl⟩,fun args objs K r h => ?_⟩
 unfold sp110 at h; dsimp only at h; split at h
 ·rename_i v0 a1
  obtain ⟨a0,h9,ca0⟩ := listB_spec h; clear h
  have h := h9; clear h9
  obtain ⟨x,hx,h⟩ := bindO_some h
  exact ⟨_,_,h,FnOK.args2 (relL_c ca0 (relL_c rel_i relL_n)) (fn_run tab_ok (en110) mixed Tryz.func110 (((lp0 seals k).2.2.1 a0 a1).trans (bindO_eq hx)))⟩
 ·cases h
theorem en81 (k : Nat) : EnvOK Tryz.prog (g81 k) := (envOK_add (snd110 k) (envOK_nil _))
theorem snd81 (k : Nat) : Sound Tryz.prog 81 (sp81 k) := by
 refine ⟨⟨Tryz.f81,Tryz.func81,by kernel_rfl,rfl⟩,fun args objs K r h => ?_⟩
 unfold sp81 at h; dsimp only at h; split at h
 ·rename_i v0 a1
  obtain ⟨a0,h9,ca0⟩ := listB_spec h; clear h
  have h := h9; clear h9
  obtain ⟨x,hx,h⟩ := bindO_some h
  exact ⟨_,_,h,FnOK.args2 (relL_c ca0 (relL_c rel_i relL_n)) (fn_run tab_ok (en81 k) mixed Tryz.func81 (((lp0 seals k).2.2.2.1 a0 a1).trans (bindO_eq hx)))⟩
 ·cases h
theorem en53 (k : Nat) : EnvOK Tryz.prog (g53 k) := (envOK_add (snd81 k) (envOK_add snd80 (envOK_add (snd79 k) (envOK_nil _))))
theorem snd53 (k : Nat) : Sound Tryz.prog 53 (sp53 k) := by
 refine ⟨⟨Tryz.f53,Tryz.func53,by kernel_rfl,rfl⟩,fun args objs K r h => ?_⟩
 unfold sp53 at h; dsimp only at h; split at h
 ·rename_i a0 a1
  obtain ⟨x,hx,h⟩ := bindO_some h
  exact ⟨_,_,h,FnOK.args2 (relL_c rel_i (relL_c rel_i relL_n)) (fn_run tab_ok (en53 k) mixed Tryz.func53 (((lp0 seals k).2.2.2.2 a0 a1).trans (bindO_eq hx)))⟩
 ·cases h
def lv26 : Live := look ⟨[],[],[],[],[]⟩ [(5,⟨[1,3,11,12,13],[1,3],[2],[],[]⟩)]
noncomputable def g26 (k : Nat) : FEnv := (addF 53 (sp53 k) (fun _=>none))
def sp26 (k : Nat) : FSpec := ⟨[.rd],fun args objs K => match args,objs with | [.agg [v0,.s a0_1,v1,v2]],[] => listB (.int .i64) true v0 fun a0_0 => listB (.pair (.int .i64) (.pair (.sl (.int .i64)) (.pair (.sl (.int .i64)) (.pair (.sl (.int .i64)) (.pair (.int .i64) (.pair (.int .i64) .str)))))) true v1 fun a0_2 => listB (.int .i64) true v2 fun a0_3 => bindO (graph_mesh.f k a0_0 a0_1 a0_2 a0_3) fun x : Bool => K (.b x) [] | _,_ => none⟩
theorem lp1 (S : Seals) (k : Nat) : (∀ (a0_0 : List Int) (a0_1 : ByteArray) (a0_2 : List (Int × (List Int) × (List Int) × (List Int) × Int × Int × ByteArray)) (a0_3 : List Int),runF tt (g26 k) lv26 Tryz.f26 k [.agg [.dat (.int .i64) a0_0 true,.s a0_1,.dat (.pair (.int .i64) (.pair (.sl (.int .i64)) (.pair (.sl (.int .i64)) (.pair (.sl (.int .i64)) (.pair (.int .i64) (.pair (.int .i64) .str)))))) a0_2 true,.dat (.int .i64) a0_3 true]] [] = bindO (graph_mesh.f k a0_0 a0_1 a0_2 a0_3) (fun x : Bool => some (.b x,[]))) := by
 refine cut_ (A := ∀ (n : Nat) {x3 : Int} {x11 : List Int} {x12 : Int} {x13 : Int} {y0_0 : List Int} {y0_1 : ByteArray} {y0_2 : List (Int × (List Int) × (List Int) × (List Int) × Int × Int × ByteArray)} {y0_3 : List Int} {K : CK},S.lp tt (g26 k) lv26 0 n (loopN Tryz.f26 0) ⟨[(1,.ptr 0 0),(3,.i .i64 x3),(11,.dat (.int .i64) x11 true),(12,.i .i64 x12),(13,.i .i64 x13)],[(0,.var [.dat (.int .i64) y0_0 true,.s y0_1,.dat (.pair (.int .i64) (.pair (.sl (.int .i64)) (.pair (.sl (.int .i64)) (.pair (.sl (.int .i64)) (.pair (.int .i64) (.pair (.int .i64) .str)))))) y0_2 true,.dat (.int .i64) y0_3 true])],1,37⟩ K = bindO (graph_mesh.l0 n x3 x11 x12 x13 y0_0 y0_1 y0_2 y0_3) (Sum.elim (fun x : Int => K (.exit 0) ⟨[(1,.ptr 0 0),(3,.i .i64 x)],[(0,.var [.dat (.int .i64) y0_0 true,.s y0_1,.dat (.pair (.int .i64) (.pair (.sl (.int .i64)) (.pair (.sl (.int .i64)) (.pair (.sl (.int .i64)) (.pair (.int .i64) (.pair (.int .i64) .str)))))) y0_2 true,.dat (.int .i64) y0_3 true])],1,37⟩) (fun x : Bool => K .ret ⟨[(2,.b x)],[],0,37⟩))) (ind_ (by intros; rw [S.lp_zero]; exact none_c) ?_) ?_
 intro n ih; intros; rw [graph_mesh.l0]; refine S.lp_succ ?_; conv => lhs; arg 5; whnf
 rotate_left
 intro w26_0
 skip
 intro a0_0 a0_1 a0_2 a0_3
 unfold graph_mesh.f; refine S.run_s rfl rfl ?_; conv => lhs; arg 5; whnf
 conv => lhs; arg 6; whnf
 rotate_left
 all_goals repeat' first|(first|refine S.seq_op rfl ?_|refine S.op_n ?_|refine S.block_x ?_|refine br_lt ?_|refine br_lf ?_|refine br_t (by assumption) ?_|refine br_f (by assumption) ?_|refine req_i (by with_reducible assumption) ?_|refine br_nd (fun _=>?_) (fun _=>?_)|refine br_d (fun _=>?_) (fun _=>?_)|refine br_n (fun _=>?_) (fun _=>?_)|refine br_c (fun _=>?_) (fun _=>?_)|refine req_c fun _=>?_|refine req_i (by assumption) ?_|refine bnd_c fun _=>?_)<;>(conv=>lhs;whnf)|refine S.seq_nil ?_|refine S.reg_n ?_|refine S.region rfl ?_|refine S.two ?_|refine S.blok ?_|refine S.cond rfl ?_|refine S.after_n ?_|refine S.block_n ?_|refine S.block_r ?_|refine S.after_x ?_|refine S.after_r ?_|refine S.skip ?_|refine S.exit ?_|refine S.ret ?_|refine sum_c (fun _=>?_) (fun _=>?_)|exact ih|refine (w26_0 _).trans ?_|(first|refine S.loop ?_|refine S.back_n ?_|refine S.back_x ?_|refine S.back_r ?_|refine S.fin_r ?_|refine S.fin_n ?_|refine S.dk_n ?_|refine S.draw_nil ?_)<;>(conv=>lhs;whnf)|exact ret_c rfl|exact none_c|(refine S.draw_op ?_; conv => lhs; whnf; arg 1; whnf)|refine andK_br ?_|refine andK_req ?_|refine andK_b ?_|refine andK_none ?_
theorem en26 (k : Nat) : EnvOK Tryz.prog (g26 k) := (envOK_add (snd53 k) (envOK_nil _))
theorem snd26 (k : Nat) : Sound Tryz.prog 26 (sp26 k) := by
 refine ⟨⟨Tryz.f26,Tryz.func26,by kernel_rfl,rfl⟩,fun args objs K r h => ?_⟩
 unfold sp26 at h; dsimp only at h; split at h
 ·rename_i v0 a0_1 v1 v2
  obtain ⟨a0_0,h9,ca0_0⟩ := listB_spec h; clear h
  have h := h9; clear h9
  obtain ⟨a0_2,h9,ca0_2⟩ := listB_spec h; clear h
  have h := h9; clear h9
  obtain ⟨a0_3,h9,ca0_3⟩ := listB_spec h; clear h
  have h := h9; clear h9
  obtain ⟨x,hx,h⟩ := bindO_some h
  exact ⟨_,_,h,FnOK.args2 (relL_c (rel_agg (relL_c ca0_0 (relL_c rel_i (relL_c ca0_2 (relL_c ca0_3 relL_n))))) relL_n) (fn_run tab_ok (en26 k) mixed Tryz.func26 (((lp1 seals k) a0_0 a0_1 a0_2 a0_3).trans (bindO_eq hx)))⟩
 ·cases h
def lv37 : Live := look ⟨[],[],[],[],[]⟩ [(1000000,⟨[],[],[],[(2,0,.own (.int .i64))],[]⟩)]
noncomputable def g37 : FEnv := (fun _=>none)
theorem en37 : EnvOK Tryz.prog (g37) := (envOK_nil _)
theorem r37 (S : Seals) (k : Nat) (a0 : List Int) : runF tt (g37) lv37 Tryz.f37 k [.dat (.int .i64) a0 true] [] = bindO (slices_Clone_int.f a0) (fun x : (List Int) => some (.own 0,[.row (.int .i64) x false])) := by
 unfold slices_Clone_int.f; cases a0
 ·rw [if_pos (by decide)]; refine S.run_s rfl rfl ?_; conv => lhs; arg 5; whnf
  conv => lhs; arg 6; whnf
  repeat' first|(first|refine req_i (by decide) ?_|refine S.seq_op rfl ?_|refine S.op_n ?_|refine S.block_x ?_|refine br_lt ?_|refine br_lf ?_|refine br_t (by assumption) ?_|refine br_f (by assumption) ?_|refine req_i (by with_reducible assumption) ?_|refine br_nd (fun _=>?_) (fun _=>?_)|refine br_d (fun _=>?_) (fun _=>?_)|refine br_n (fun _=>?_) (fun _=>?_)|refine br_c (fun _=>?_) (fun _=>?_)|refine req_c fun _=>?_|refine req_i (by assumption) ?_|refine bnd_c fun _=>?_)<;>(conv=>lhs;whnf)|refine S.seq_nil ?_|refine S.reg_n ?_|refine S.region rfl ?_|refine S.two ?_|refine S.blok ?_|refine S.cond rfl ?_|refine S.after_n ?_|refine S.block_n ?_|refine S.block_r ?_|refine S.after_x ?_|refine S.after_r ?_|refine S.skip ?_|refine S.exit ?_|refine S.ret ?_|refine sum_c (fun _=>?_) (fun _=>?_)|refine both_c ?_ ?_|(first|refine S.loop ?_|refine S.back_n ?_|refine S.back_x ?_|refine S.back_r ?_|refine S.fin_r ?_|refine S.fin_n ?_|refine S.dk_n ?_|refine S.draw_nil ?_)<;>(conv=>lhs;whnf)|exact ret_c rfl|exact none_c|(refine S.draw_op ?_; conv => lhs; whnf; arg 1; whnf)|refine andK_br ?_|refine andK_req ?_|refine andK_b ?_|refine andK_none ?_
 ·refine S.run_s rfl rfl ?_; conv => lhs; arg 5; whnf
  conv => lhs; arg 6; whnf
  repeat' first|(first|refine S.seq_op rfl ?_|refine S.op_n ?_|refine S.block_x ?_|refine br_lt ?_|refine br_lf ?_|refine br_t (by assumption) ?_|refine br_f (by assumption) ?_|refine req_i (by with_reducible assumption) ?_|refine br_nd (fun _=>?_) (fun _=>?_)|refine br_d (fun _=>?_) (fun _=>?_)|refine br_n (fun _=>?_) (fun _=>?_)|refine br_c (fun _=>?_) (fun _=>?_)|refine req_c fun _=>?_|refine req_i (by assumption) ?_|refine bnd_c fun _=>?_)<;>(conv=>lhs;whnf)|refine S.seq_nil ?_|refine S.reg_n ?_|refine S.region rfl ?_|refine S.two ?_|refine S.blok ?_|refine S.cond rfl ?_|refine S.after_n ?_|refine S.block_n ?_|refine S.block_r ?_|refine S.after_x ?_|refine S.after_r ?_|refine S.skip ?_|refine S.exit ?_|refine S.ret ?_|refine sum_c (fun _=>?_) (fun _=>?_)|(first|refine S.loop ?_|refine S.back_n ?_|refine S.back_x ?_|refine S.back_r ?_|refine S.fin_r ?_|refine S.fin_n ?_|refine S.dk_n ?_|refine S.draw_nil ?_)<;>(conv=>lhs;whnf)|exact ret_c rfl|exact none_c|(refine S.draw_op ?_; conv => lhs; whnf; arg 1; whnf)|refine andK_br ?_|refine andK_req ?_|refine andK_b ?_|refine andK_none ?_
def sp37 : FSpec := ⟨[.rd],fun args objs K => match args,objs with | [v0],[] => listB (.int .i64) true v0 fun a0 => bindO (slices_Clone_int.f a0) fun x : (List Int) => K (.own 0) [.row (.int .i64) x false] | _,_ => none⟩
theorem snd37 : Sound Tryz.prog 37 (sp37) := by
 refine ⟨⟨Tryz.f37,Tryz.func37,by kernel_rfl,rfl⟩,fun args objs K r h => ?_⟩
 unfold sp37 at h; dsimp only at h; split at h
 ·rename_i v0
  obtain ⟨a0,h9,ca0⟩ := listB_spec h; clear h
  have h := h9; clear h9
  obtain ⟨x,hx,h⟩ := bindO_some h
  exact ⟨_,_,h,FnOK.args2 (relL_c ca0 relL_n) (fn_run tab_ok (en37) mixed Tryz.func37 ((r37 seals 0 a0).trans (bindO_eq hx)))⟩
 ·cases h

def lv86 : Live := look ⟨[],[],[],[],[]⟩ []
noncomputable def g86 : FEnv := (fun _=>none)
def sp86 : FSpec := ⟨[.rd],fun args objs K => match args,objs with | [.i .i64 a0],[] => bindO (graph_asks.f a0) fun x : Int × Bool × Bool × Bool × Bool × Bool × Bool => K (.tup [.agg [.i .i64 x.1,.b x.2.1,.b x.2.2.1,.b x.2.2.2.1,.b x.2.2.2.2.1,.b x.2.2.2.2.2.1],.b x.2.2.2.2.2.2]) [] | _,_ => none⟩
def lv60 : Live := look ⟨[],[],[],[],[]⟩ []
noncomputable def g60 : FEnv := (addF 86 sp86 (fun _=>none))
def sp60 : FSpec := ⟨[.rd,.rd],fun args objs K => match args,objs with | [.agg [.i .i64 a0_0,v0,v1,v2,.i .i64 a0_4,.i .i64 a0_5,.s a0_6],.i .i64 a1],[] => listB (.int .i64) true v0 fun a0_1 => listB (.int .i64) true v1 fun a0_2 => listB (.int .i64) true v2 fun a0_3 => bindO (graph_asked.f a0_0 a0_1 a0_2 a0_3 a0_4 a0_5 a0_6 a1) fun x : Bool => K (.b x) [] | _,_ => none⟩
def lv63 : Live := look ⟨[],[],[],[],[]⟩ [(5,⟨[3,9,10,11],[3],[2],[],[]⟩)]
noncomputable def g63 : FEnv := (fun _=>none)
def sp63 (k : Nat) : FSpec := ⟨[.rd],fun args objs K => match args,objs with | [v0],[] => listB (.int .i64) true v0 fun a0 => bindO (shape_Right.f k a0) fun x : Bool => K (.b x) [] | _,_ => none⟩
theorem lp2 (S : Seals) (k : Nat) : (∀ (a0 : Int),runF tt (g86) lv86 Tryz.f86 k [.i .i64 a0] [] = bindO (graph_asks.f a0) (fun x : Int × Bool × Bool × Bool × Bool × Bool × Bool => some (.tup [.agg [.i .i64 x.1,.b x.2.1,.b x.2.2.1,.b x.2.2.2.1,.b x.2.2.2.2.1,.b x.2.2.2.2.2.1],.b x.2.2.2.2.2.2],[]))) ∧ (∀ (a0_0 : Int) (a0_1 : List Int) (a0_2 : List Int) (a0_3 : List Int) (a0_4 : Int) (a0_5 : Int) (a0_6 : ByteArray) (a1 : Int),runF tt (g60) lv60 Tryz.f60 k [.agg [.i .i64 a0_0,.dat (.int .i64) a0_1 true,.dat (.int .i64) a0_2 true,.dat (.int .i64) a0_3 true,.i .i64 a0_4,.i .i64 a0_5,.s a0_6],.i .i64 a1] [] = bindO (graph_asked.f a0_0 a0_1 a0_2 a0_3 a0_4 a0_5 a0_6 a1) (fun x : Bool => some (.b x,[]))) ∧ (∀ (a0 : List Int),runF tt (g63) lv63 Tryz.f63 k [.dat (.int .i64) a0 true] [] = bindO (shape_Right.f k a0) (fun x : Bool => some (.b x,[]))) := by
 refine cut_ (A := ∀ (n : Nat) {x3 : Int} {x9 : List Int} {x10 : Int} {x11 : Int} {K : CK},S.lp tt (g63) lv63 0 n (loopN Tryz.f63 0) ⟨[(3,.i .i64 x3),(9,.dat (.int .i64) x9 true),(10,.i .i64 x10),(11,.i .i64 x11)],[],0,27⟩ K = bindO (shape_Right.l0 n x3 x9 x10 x11) (Sum.elim (fun x : Int => K (.exit 0) ⟨[(3,.i .i64 x)],[],0,27⟩) (fun x : Bool => K .ret ⟨[(2,.b x)],[],0,27⟩))) (ind_ (by intros; rw [S.lp_zero]; exact none_c) ?_) ?_
 intro n ih; intros; rw [shape_Right.l0]; refine S.lp_succ ?_; conv => lhs; arg 5; whnf
 rotate_left
 intro w63_0
 refine ⟨?_,?_,?_⟩
 intro a0
 unfold graph_asks.f; refine S.run_s rfl rfl ?_; conv => lhs; arg 5; whnf
 conv => lhs; arg 6; whnf
 rotate_left
 intro a0_0 a0_1 a0_2 a0_3 a0_4 a0_5 a0_6 a1
 unfold graph_asked.f; refine S.run_s rfl rfl ?_; conv => lhs; arg 5; whnf
 conv => lhs; arg 6; whnf
 rotate_left
 intro a0
 unfold shape_Right.f; refine S.run_s rfl rfl ?_; conv => lhs; arg 5; whnf
 conv => lhs; arg 6; whnf
 rotate_left
 all_goals repeat' first|(first|refine S.seq_op rfl ?_|refine S.op_n ?_|refine S.block_x ?_|refine br_lt ?_|refine br_lf ?_|refine br_t (by assumption) ?_|refine br_f (by assumption) ?_|refine req_i (by with_reducible assumption) ?_|refine br_nd (fun _=>?_) (fun _=>?_)|refine br_d (fun _=>?_) (fun _=>?_)|refine br_n (fun _=>?_) (fun _=>?_)|refine br_c (fun _=>?_) (fun _=>?_)|refine req_c fun _=>?_|refine req_i (by assumption) ?_|refine bnd_c fun _=>?_)<;>(conv=>lhs;whnf)|refine S.seq_nil ?_|refine S.reg_n ?_|refine S.region rfl ?_|refine S.two ?_|refine S.blok ?_|refine S.cond rfl ?_|refine S.after_n ?_|refine S.block_n ?_|refine S.block_r ?_|refine S.after_x ?_|refine S.after_r ?_|refine S.skip ?_|refine S.exit ?_|refine S.ret ?_|refine sum_c (fun _=>?_) (fun _=>?_)|exact ih|refine (w63_0 _).trans ?_|(first|refine S.loop ?_|refine S.back_n ?_|refine S.back_x ?_|refine S.back_r ?_|refine S.fin_r ?_|refine S.fin_n ?_|refine S.dk_n ?_|refine S.draw_nil ?_)<;>(conv=>lhs;whnf)|exact ret_c rfl|exact none_c|(refine S.draw_op ?_; conv => lhs; whnf; arg 1; whnf)|refine andK_br ?_|refine andK_req ?_|refine andK_b ?_|refine andK_none ?_
theorem en86 : EnvOK Tryz.prog (g86) := (envOK_nil _)
theorem snd86 : Sound Tryz.prog 86 (sp86) := by
 refine ⟨⟨Tryz.f86,Tryz.func86,by kernel_rfl,rfl⟩,fun args objs K r h => ?_⟩
 unfold sp86 at h; dsimp only at h; split at h
 ·rename_i a0
  obtain ⟨x,hx,h⟩ := bindO_some h
  exact ⟨_,_,h,FnOK.args2 (relL_c rel_i relL_n) (fn_run tab_ok (en86) mixed Tryz.func86 (((lp2 seals 0).1 a0).trans (bindO_eq hx)))⟩
 ·cases h
theorem en60 : EnvOK Tryz.prog (g60) := (envOK_add snd86 (envOK_nil _))
theorem snd60 : Sound Tryz.prog 60 (sp60) := by
 refine ⟨⟨Tryz.f60,Tryz.func60,by kernel_rfl,rfl⟩,fun args objs K r h => ?_⟩
 unfold sp60 at h; dsimp only at h; split at h
 ·rename_i a0_0 v0 v1 v2 a0_4 a0_5 a0_6 a1
  obtain ⟨a0_1,h9,ca0_1⟩ := listB_spec h; clear h
  have h := h9; clear h9
  obtain ⟨a0_2,h9,ca0_2⟩ := listB_spec h; clear h
  have h := h9; clear h9
  obtain ⟨a0_3,h9,ca0_3⟩ := listB_spec h; clear h
  have h := h9; clear h9
  obtain ⟨x,hx,h⟩ := bindO_some h
  exact ⟨_,_,h,FnOK.args2 (relL_c (rel_agg (relL_c rel_i (relL_c ca0_1 (relL_c ca0_2 (relL_c ca0_3 (relL_c rel_i (relL_c rel_i (relL_c rel_i relL_n)))))))) (relL_c rel_i relL_n)) (fn_run tab_ok (en60) mixed Tryz.func60 (((lp2 seals 0).2.1 a0_0 a0_1 a0_2 a0_3 a0_4 a0_5 a0_6 a1).trans (bindO_eq hx)))⟩
 ·cases h
theorem en63 : EnvOK Tryz.prog (g63) := (envOK_nil _)
theorem snd63 (k : Nat) : Sound Tryz.prog 63 (sp63 k) := by
 refine ⟨⟨Tryz.f63,Tryz.func63,by kernel_rfl,rfl⟩,fun args objs K r h => ?_⟩
 unfold sp63 at h; dsimp only at h; split at h
 ·rename_i v0
  obtain ⟨a0,h9,ca0⟩ := listB_spec h; clear h
  have h := h9; clear h9
  obtain ⟨x,hx,h⟩ := bindO_some h
  exact ⟨_,_,h,FnOK.args2 (relL_c ca0 relL_n) (fn_run tab_ok (en63) mixed Tryz.func63 (((lp2 seals k).2.2 a0).trans (bindO_eq hx)))⟩
 ·cases h
def lv62 : Live := look ⟨[],[],[],[],[]⟩ []
noncomputable def g62 (k : Nat) : FEnv := (addF 63 (sp63 k) (fun _=>none))
def sp62 (k : Nat) : FSpec := ⟨[.rd],fun args objs K => match args,objs with | [v0],[] => listB (.int .i64) true v0 fun a0 => bindO (graph_Shape_1.f k a0) fun x : Bool => K (.b x) [] | _,_ => none⟩
def lv87_1 : Live := look ⟨[],[],[],[],[]⟩ [(2,⟨[0,1,7,8],[],[4],[],[]⟩)]
noncomputable def g87_1 (k : Nat) : FEnv := (addF 62 (sp62 k) (fun _=>none))
def sp87_1 (k : Nat) : FSpec := ⟨[.rd,.rd],fun args objs K => match args,objs with | [v0,.fn 62 []],[] => listB (.sl (.int .i64)) true v0 fun a0 => bindO (slices_IndexFunc_int_int__graph_Shape_1.f k a0) fun x : Int => K (.i .i64 x) [] | _,_ => none⟩
def lv61_1 : Live := look ⟨[],[],[],[],[]⟩ []
noncomputable def g61_1 (k : Nat) : FEnv := (addF 87 (sp87_1 k) (fun _=>none))
def sp61_1 (k : Nat) : FSpec := ⟨[.rd,.rd],fun args objs K => match args,objs with | [v0,.fn 62 []],[] => listB (.sl (.int .i64)) true v0 fun a0 => bindO (slices_ContainsFunc_int_int__graph_Shape_1.f k a0) fun x : Bool => K (.b x) [] | _,_ => none⟩
def lv88 : Live := look ⟨[],[],[],[],[]⟩ [(1000000,⟨[],[],[],[(2,0,.dat (.int .i64))],[]⟩)]
noncomputable def g88 (k : Nat) : FEnv := (addF 63 (sp63 k) (fun _=>none))
def sp88 (k : Nat) : FSpec := ⟨[.st],fun args objs K => match args,objs with | [.agg [.i .i64 a0_0,v0,v1,v2,.i .i64 a0_4,.i .i64 a0_5,.s a0_6]],[] => listB (.int .i64) false v0 fun a0_1 => listB (.int .i64) false v1 fun a0_2 => listB (.int .i64) false v2 fun a0_3 => bindO (graph_given.f k a0_0 a0_1 a0_2 a0_3 a0_4 a0_5 a0_6) fun x : (List Int) × Int => K (.tup [.dat (.int .i64) x.1 false,.i .i64 x.2]) [] | _,_ => none⟩
theorem lp3 (S : Seals) (k : Nat) : (∀ (a0 : List Int),runF tt (g62 k) lv62 Tryz.f62 k [.dat (.int .i64) a0 true] [] = bindO (graph_Shape_1.f k a0) (fun x : Bool => some (.b x,[]))) ∧ (∀ (a0 : List (List Int)),runF tt (g87_1 k) lv87_1 Tryz.f87 k [.dat (.sl (.int .i64)) a0 true,.fn 62 []] [] = bindO (slices_IndexFunc_int_int__graph_Shape_1.f k a0) (fun x : Int => some (.i .i64 x,[]))) ∧ (∀ (a0 : List (List Int)),runF tt (g61_1 k) lv61_1 Tryz.f61 k [.dat (.sl (.int .i64)) a0 true,.fn 62 []] [] = bindO (slices_ContainsFunc_int_int__graph_Shape_1.f k a0) (fun x : Bool => some (.b x,[]))) ∧ (∀ (a0_0 : Int) (a0_1 : List Int) (a0_2 : List Int) (a0_3 : List Int) (a0_4 : Int) (a0_5 : Int) (a0_6 : ByteArray),runF tt (g88 k) lv88 Tryz.f88 k [.agg [.i .i64 a0_0,.dat (.int .i64) a0_1 false,.dat (.int .i64) a0_2 false,.dat (.int .i64) a0_3 false,.i .i64 a0_4,.i .i64 a0_5,.s a0_6]] [] = bindO (graph_given.f k a0_0 a0_1 a0_2 a0_3 a0_4 a0_5 a0_6) (fun x : (List Int) × Int => some (.tup [.dat (.int .i64) x.1 false,.i .i64 x.2],[]))) := by
 refine cut_ (A := ∀ (n : Nat) {x0 : List (List Int)} {x7 : Int} {x8 : Int} {K : CK},S.lp tt (g87_1 k) lv87_1 0 n (loopN Tryz.f87 0) ⟨[(0,.dat (.sl (.int .i64)) x0 true),(1,.fn 62 []),(7,.i .i64 x7),(8,.i .i64 x8)],[],0,19⟩ K = bindO (slices_IndexFunc_int_int__graph_Shape_1.l0 k n x0 x7 x8) (Sum.elim (fun x : Unit => K (.exit 0) ⟨[],[],0,19⟩) (fun x : Int => K .ret ⟨[(4,.i .i64 x)],[],0,19⟩))) (ind_ (by intros; rw [S.lp_zero]; exact none_c) ?_) ?_
 intro n ih; intros; rw [slices_IndexFunc_int_int__graph_Shape_1.l0]; refine S.lp_succ ?_; conv => lhs; arg 5; whnf
 rotate_left
 intro w87_1_0
 refine ⟨?_,?_,?_,?_⟩
 intro a0
 unfold graph_Shape_1.f; refine S.run_s rfl rfl ?_; conv => lhs; arg 5; whnf
 conv => lhs; arg 6; whnf
 rotate_left
 intro a0
 unfold slices_IndexFunc_int_int__graph_Shape_1.f; refine S.run_s rfl rfl ?_; conv => lhs; arg 5; whnf
 conv => lhs; arg 6; whnf
 rotate_left
 intro a0
 unfold slices_ContainsFunc_int_int__graph_Shape_1.f; refine S.run_s rfl rfl ?_; conv => lhs; arg 5; whnf
 conv => lhs; arg 6; whnf
 rotate_left
 intro a0_0 a0_1 a0_2 a0_3 a0_4 a0_5 a0_6
 unfold graph_given.f; refine S.run_s rfl rfl ?_; conv => lhs; arg 5; whnf
 conv => lhs; arg 6; whnf
 rotate_left
 all_goals repeat' first|(first|refine S.seq_op rfl ?_|refine S.op_n ?_|refine S.block_x ?_|refine br_lt ?_|refine br_lf ?_|refine br_t (by assumption) ?_|refine br_f (by assumption) ?_|refine req_i (by with_reducible assumption) ?_|refine br_nd (fun _=>?_) (fun _=>?_)|refine br_d (fun _=>?_) (fun _=>?_)|refine br_n (fun _=>?_) (fun _=>?_)|refine br_c (fun _=>?_) (fun _=>?_)|refine req_c fun _=>?_|refine req_i (by assumption) ?_|refine bnd_c fun _=>?_)<;>(conv=>lhs;whnf)|refine S.seq_nil ?_|refine S.reg_n ?_|refine S.region rfl ?_|refine S.two ?_|refine S.blok ?_|refine S.cond rfl ?_|refine S.after_n ?_|refine S.block_n ?_|refine S.block_r ?_|refine S.after_x ?_|refine S.after_r ?_|refine S.skip ?_|refine S.exit ?_|refine S.ret ?_|refine sum_c (fun _=>?_) (fun _=>?_)|exact ih|refine (w87_1_0 _).trans ?_|refine S.region_d (id := 3) (ds := [0,1,3,7,15,31,63,127,255,511,1023,2047,4095,8191,16383,32767,65535,131071,262143,524287,65535,1114111,3211263,8388607,16777215,33554431,67108863]) (mds := [[],[],[],[],[],[],[],[],[],[],[],[],[],[],[],[],[],[],[],[],[],[],[],[],[],[],[]]) (hm := []) (by kernel_rfl) (by kernel_rfl) rfl rfl ?_|(first|refine S.loop ?_|refine S.back_n ?_|refine S.back_x ?_|refine S.back_r ?_|refine S.fin_r ?_|refine S.fin_n ?_|refine S.dk_n ?_|refine S.draw_nil ?_)<;>(conv=>lhs;whnf)|exact ret_c rfl|exact none_c|(refine S.draw_op ?_; conv => lhs; whnf; arg 1; whnf)|refine andK_br ?_|refine andK_req ?_|refine andK_b ?_|refine andK_none ?_
theorem en62 (k : Nat) : EnvOK Tryz.prog (g62 k) := (envOK_add (snd63 k) (envOK_nil _))
theorem snd62 (k : Nat) : Sound Tryz.prog 62 (sp62 k) := by
 refine ⟨⟨Tryz.f62,Tryz.func62,by kernel_rfl,rfl⟩,fun args objs K r h => ?_⟩
 unfold sp62 at h; dsimp only at h; split at h
 ·rename_i v0
  obtain ⟨a0,h9,ca0⟩ := listB_spec h; clear h
  have h := h9; clear h9
  obtain ⟨x,hx,h⟩ := bindO_some h
  exact ⟨_,_,h,FnOK.args2 (relL_c ca0 relL_n) (fn_run tab_ok (en62 k) mixed Tryz.func62 (((lp3 seals k).1 a0).trans (bindO_eq hx)))⟩
 ·cases h
theorem en87_1 (k : Nat) : EnvOK Tryz.prog (g87_1 k) := (envOK_add (snd62 k) (envOK_nil _))
theorem snd87_1 (k : Nat) : Sound Tryz.prog 87 (sp87_1 k) := by
 refine ⟨⟨Tryz.f87,Tryz.func87,by kernel_rfl,rfl⟩,fun args objs K r h => ?_⟩
 unfold sp87_1 at h; dsimp only at h; split at h
 ·rename_i v0
  obtain ⟨a0,h9,ca0⟩ := listB_spec h; clear h
  have h := h9; clear h9
  obtain ⟨x,hx,h⟩ := bindO_some h
  exact ⟨_,_,h,FnOK.args2 (relL_c ca0 (relL_c rel_i relL_n)) (fn_run tab_ok (en87_1 k) mixed Tryz.func87 (((lp3 seals k).2.1 a0).trans (bindO_eq hx)))⟩
 ·cases h
theorem en61_1 (k : Nat) : EnvOK Tryz.prog (g61_1 k) := (envOK_add (snd87_1 k) (envOK_nil _))
theorem snd61_1 (k : Nat) : Sound Tryz.prog 61 (sp61_1 k) := by
 refine ⟨⟨Tryz.f61,Tryz.func61,by kernel_rfl,rfl⟩,fun args objs K r h => ?_⟩
 unfold sp61_1 at h; dsimp only at h; split at h
 ·rename_i v0
  obtain ⟨a0,h9,ca0⟩ := listB_spec h; clear h
  have h := h9; clear h9
  obtain ⟨x,hx,h⟩ := bindO_some h
  exact ⟨_,_,h,FnOK.args2 (relL_c ca0 (relL_c rel_i relL_n)) (fn_run tab_ok (en61_1 k) mixed Tryz.func61 (((lp3 seals k).2.2.1 a0).trans (bindO_eq hx)))⟩
 ·cases h
theorem en88 (k : Nat) : EnvOK Tryz.prog (g88 k) := (envOK_add (snd63 k) (envOK_nil _))
theorem snd88 (k : Nat) : Sound Tryz.prog 88 (sp88 k) := by
 refine ⟨⟨Tryz.f88,Tryz.func88,by kernel_rfl,rfl⟩,fun args objs K r h => ?_⟩
 unfold sp88 at h; dsimp only at h; split at h
 ·rename_i a0_0 v0 v1 v2 a0_4 a0_5 a0_6
  obtain ⟨a0_1,h9,ca0_1⟩ := listB_spec h; clear h
  have h := h9; clear h9
  obtain ⟨a0_2,h9,ca0_2⟩ := listB_spec h; clear h
  have h := h9; clear h9
  obtain ⟨a0_3,h9,ca0_3⟩ := listB_spec h; clear h
  have h := h9; clear h9
  obtain ⟨x,hx,h⟩ := bindO_some h
  exact ⟨_,_,h,FnOK.args2 (relL_c (rel_agg (relL_c rel_i (relL_c ca0_1 (relL_c ca0_2 (relL_c ca0_3 (relL_c rel_i (relL_c rel_i (relL_c rel_i relL_n)))))))) relL_n) (fn_run tab_ok (en88 k) mixed Tryz.func88 (((lp3 seals k).2.2.2 a0_0 a0_1 a0_2 a0_3 a0_4 a0_5 a0_6).trans (bindO_eq hx)))⟩
 ·cases h
def lv89 : Live := look ⟨[],[],[],[],[]⟩ [(6,⟨[0,6,7,21,22,23],[6],[4,5],[],[]⟩),(1000000,⟨[],[],[],[(4,0,.own (.int .i64))],[]⟩)]
noncomputable def g89 : FEnv := (fun _=>none)
def sp89 (k : Nat) : FSpec := ⟨[.rd,.rd],fun args objs K => match args,objs with | [v0,v1],[] => listB (.int .i64) true v0 fun a0 => listB (.int .i64) true v1 fun a1 => bindO (axes_Turned.f k a0 a1) fun x : Int × (List Int) => K (.tup [.own 0,.i .i64 x.1]) [.row (.int .i64) x.2 false] | _,_ => none⟩
def lv112 : Live := look ⟨[],[],[],[],[]⟩ [(3,⟨[1,5,8,9,10],[],[4],[],[]⟩)]
noncomputable def g112 : FEnv := (fun _=>none)
def sp112 (k : Nat) : FSpec := ⟨[.rd,.rd],fun args objs K => match args,objs with | [v0,.i .i64 a1],[] => listB (.int .i64) true v0 fun a0 => bindO (axes_Rising.f k a0 a1) fun x : Bool => K (.b x) [] | _,_ => none⟩
def lv90 : Live := look ⟨[],[],[],[],[]⟩ [(6,⟨[0,1,24,25,26],[],[6],[],[]⟩)]
noncomputable def g90 (k : Nat) : FEnv := (addF 112 (sp112 k) (addF 63 (sp63 k) (fun _=>none)))
def sp90 (k : Nat) : FSpec := ⟨[.rd,.rd,.rd],fun args objs K => match args,objs with | [v0,v1,v2],[] => listB (.int .i64) true v0 fun a0 => listB (.int .i64) true v1 fun a1 => listB (.int .i64) true v2 fun a2 => bindO (axes_Wider.f k a0 a1 a2) fun x : Int => K (.i .i64 x) [] | _,_ => none⟩
theorem lp4 (S : Seals) (k : Nat) : (∀ (a0 : List Int) (a1 : List Int),runF tt (g89) lv89 Tryz.f89 k [.dat (.int .i64) a0 true,.dat (.int .i64) a1 true] [] = bindO (axes_Turned.f k a0 a1) (fun x : Int × (List Int) => some (.tup [.own 0,.i .i64 x.1],[.row (.int .i64) x.2 false]))) ∧ (∀ (a0 : List Int) (a1 : Int),runF tt (g112) lv112 Tryz.f112 k [.dat (.int .i64) a0 true,.i .i64 a1] [] = bindO (axes_Rising.f k a0 a1) (fun x : Bool => some (.b x,[]))) ∧ (∀ (a0 : List Int) (a1 : List Int) (a2 : List Int),runF tt (g90 k) lv90 Tryz.f90 k [.dat (.int .i64) a0 true,.dat (.int .i64) a1 true,.dat (.int .i64) a2 true] [] = bindO (axes_Wider.f k a0 a1 a2) (fun x : Int => some (.i .i64 x,[]))) := by
 refine cut_ (A := ∀ (n : Nat) {x0 : List Int} {x21 : List Int} {x22 : Int} {x23 : Int} {y0 : List Int} {y1 : List Bool} {K : CK},S.lp tt (g89) lv89 0 n (loopN Tryz.f89 0) ⟨[(0,.dat (.int .i64) x0 true),(6,.own 0),(7,.own 1),(21,.dat (.int .i64) x21 true),(22,.i .i64 x22),(23,.i .i64 x23)],[(0,.row (.int .i64) y0 false),(1,.row .bool y1 false)],2,54⟩ K = bindO (axes_Turned.l0 n x0 x21 x22 x23 y0 y1) (Sum.elim (fun x : (List Int) => K (.exit 0) ⟨[(6,.own 0)],[(0,.row (.int .i64) x false)],1,54⟩) (fun x : Int => K .ret ⟨[(4,.nilsl),(5,.i .i64 x)],[],0,54⟩))) (ind_ (by intros; rw [S.lp_zero]; exact none_c) ?_) ?_
 intro n ih; intros; rw [axes_Turned.l0]; refine S.lp_succ ?_; conv => lhs; arg 5; whnf
 rotate_left
 intro w89_0
 refine cut_ (A := ∀ (n : Nat) {x1 : Int} {x5 : Int} {x8 : List Int} {x9 : Int} {x10 : Int} {K : CK},S.lp tt (g112) lv112 0 n (loopN Tryz.f112 0) ⟨[(1,.i .i64 x1),(5,.i .i64 x5),(8,.dat (.int .i64) x8 true),(9,.i .i64 x9),(10,.i .i64 x10)],[],0,24⟩ K = bindO (axes_Rising.l0 n x1 x5 x8 x9 x10) (Sum.elim (fun x : Unit => K (.exit 0) ⟨[],[],0,24⟩) (fun x : Bool => K .ret ⟨[(4,.b x)],[],0,24⟩))) (ind_ (by intros; rw [S.lp_zero]; exact none_c) ?_) ?_
 intro n ih; intros; rw [axes_Rising.l0]; refine S.lp_succ ?_; conv => lhs; arg 5; whnf
 rotate_left
 intro w112_0
 refine cut_ (A := ∀ (n : Nat) {x0 : List Int} {x1 : List Int} {x24 : List Int} {x25 : Int} {x26 : Int} {K : CK},S.lp tt (g90 k) lv90 0 n (loopN Tryz.f90 0) ⟨[(0,.dat (.int .i64) x0 true),(1,.dat (.int .i64) x1 true),(24,.dat (.int .i64) x24 true),(25,.i .i64 x25),(26,.i .i64 x26)],[],0,41⟩ K = bindO (axes_Wider.l0 n x0 x1 x24 x25 x26) (Sum.elim (fun x : Unit => K (.exit 0) ⟨[],[],0,41⟩) (fun x : Int => K .ret ⟨[(6,.i .i64 x)],[],0,41⟩))) (ind_ (by intros; rw [S.lp_zero]; exact none_c) ?_) ?_
 intro n ih; intros; rw [axes_Wider.l0]; refine S.lp_succ ?_; conv => lhs; arg 5; whnf
 rotate_left
 intro w90_0
 refine ⟨?_,?_,?_⟩
 intro a0 a1
 unfold axes_Turned.f; refine S.run_s rfl rfl ?_; conv => lhs; arg 5; whnf
 conv => lhs; arg 6; whnf
 rotate_left
 intro a0 a1
 unfold axes_Rising.f; refine S.run_s rfl rfl ?_; conv => lhs; arg 5; whnf
 conv => lhs; arg 6; whnf
 rotate_left
 intro a0 a1 a2
 unfold axes_Wider.f; refine S.run_s rfl rfl ?_; conv => lhs; arg 5; whnf
 conv => lhs; arg 6; whnf
 rotate_left
 all_goals repeat' first|(first|refine S.seq_op rfl ?_|refine S.op_n ?_|refine S.block_x ?_|refine br_lt ?_|refine br_lf ?_|refine br_t (by assumption) ?_|refine br_f (by assumption) ?_|refine req_i (by with_reducible assumption) ?_|refine br_nd (fun _=>?_) (fun _=>?_)|refine br_d (fun _=>?_) (fun _=>?_)|refine br_n (fun _=>?_) (fun _=>?_)|refine br_c (fun _=>?_) (fun _=>?_)|refine req_c fun _=>?_|refine req_i (by assumption) ?_|refine bnd_c fun _=>?_)<;>(conv=>lhs;whnf)|refine S.seq_nil ?_|refine S.reg_n ?_|refine S.region rfl ?_|refine S.two ?_|refine S.blok ?_|refine S.cond rfl ?_|refine S.after_n ?_|refine S.block_n ?_|refine S.block_r ?_|refine S.after_x ?_|refine S.after_r ?_|refine S.skip ?_|refine S.exit ?_|refine S.ret ?_|refine sum_c (fun _=>?_) (fun _=>?_)|exact ih|refine (w89_0 _).trans ?_|refine (w112_0 _).trans ?_|refine (w90_0 _).trans ?_|refine S.region_d (id := 8) (ds := [0,0,3,7,0,0,48,112,255]) (mds := [[],[],[],[],[],[],[],[],[]]) (hm := []) (by kernel_rfl) (by kernel_rfl) rfl rfl ?_|(first|refine S.loop ?_|refine S.back_n ?_|refine S.back_x ?_|refine S.back_r ?_|refine S.fin_r ?_|refine S.fin_n ?_|refine S.dk_n ?_|refine S.draw_nil ?_)<;>(conv=>lhs;whnf)|exact ret_c rfl|exact none_c|(refine S.draw_op ?_; conv => lhs; whnf; arg 1; whnf)|refine andK_br ?_|refine andK_req ?_|refine andK_b ?_|refine andK_none ?_
theorem en89 : EnvOK Tryz.prog (g89) := (envOK_nil _)
theorem snd89 (k : Nat) : Sound Tryz.prog 89 (sp89 k) := by
 refine ⟨⟨Tryz.f89,Tryz.func89,by kernel_rfl,rfl⟩,fun args objs K r h => ?_⟩
 unfold sp89 at h; dsimp only at h; split at h
 ·rename_i v0 v1
  obtain ⟨a0,h9,ca0⟩ := listB_spec h; clear h
  have h := h9; clear h9
  obtain ⟨a1,h9,ca1⟩ := listB_spec h; clear h
  have h := h9; clear h9
  obtain ⟨x,hx,h⟩ := bindO_some h
  exact ⟨_,_,h,FnOK.args2 (relL_c ca0 (relL_c ca1 relL_n)) (fn_run tab_ok (en89) mixed Tryz.func89 (((lp4 seals k).1 a0 a1).trans (bindO_eq hx)))⟩
 ·cases h
theorem en112 : EnvOK Tryz.prog (g112) := (envOK_nil _)
theorem snd112 (k : Nat) : Sound Tryz.prog 112 (sp112 k) := by
 refine ⟨⟨Tryz.f112,Tryz.func112,by kernel_rfl,rfl⟩,fun args objs K r h => ?_⟩
 unfold sp112 at h; dsimp only at h; split at h
 ·rename_i v0 a1
  obtain ⟨a0,h9,ca0⟩ := listB_spec h; clear h
  have h := h9; clear h9
  obtain ⟨x,hx,h⟩ := bindO_some h
  exact ⟨_,_,h,FnOK.args2 (relL_c ca0 (relL_c rel_i relL_n)) (fn_run tab_ok (en112) mixed Tryz.func112 (((lp4 seals k).2.1 a0 a1).trans (bindO_eq hx)))⟩
 ·cases h
theorem en90 (k : Nat) : EnvOK Tryz.prog (g90 k) := (envOK_add (snd112 k) (envOK_add (snd63 k) (envOK_nil _)))
theorem snd90 (k : Nat) : Sound Tryz.prog 90 (sp90 k) := by
 refine ⟨⟨Tryz.f90,Tryz.func90,by kernel_rfl,rfl⟩,fun args objs K r h => ?_⟩
 unfold sp90 at h; dsimp only at h; split at h
 ·rename_i v0 v1 v2
  obtain ⟨a0,h9,ca0⟩ := listB_spec h; clear h
  have h := h9; clear h9
  obtain ⟨a1,h9,ca1⟩ := listB_spec h; clear h
  have h := h9; clear h9
  obtain ⟨a2,h9,ca2⟩ := listB_spec h; clear h
  have h := h9; clear h9
  obtain ⟨x,hx,h⟩ := bindO_some h
  exact ⟨_,_,h,FnOK.args2 (relL_c ca0 (relL_c ca1 (relL_c ca2 relL_n))) (fn_run tab_ok (en90 k) mixed Tryz.func90 (((lp4 seals k).2.2 a0 a1 a2).trans (bindO_eq hx)))⟩
 ·cases h
def lv113 : Live := look ⟨[],[],[],[],[]⟩ [(4,⟨[1,2,21,22,23],[],[6],[],[]⟩)]
noncomputable def g113 : FEnv := (fun _=>none)
def sp113 (k : Nat) : FSpec := ⟨[.rd,.rd,.rd],fun args objs K => match args,objs with | [v0,v1,v2],[] => listB (.int .i64) true v0 fun a0 => listB (.int .i64) true v1 fun a1 => listB (.int .i64) true v2 fun a2 => bindO (axes_Sliced.f k a0 a1 a2) fun x : Int => K (.i .i64 x) [] | _,_ => none⟩
def lv123 : Live := look ⟨[],[],[],[],[]⟩ []
noncomputable def g123 : FEnv := (fun _=>none)
def sp123 : FSpec := ⟨[.rd],fun args objs K => match args,objs with | [.i .i64 a0],[] => bindO (axes_Padded_1.f a0) fun x : Bool => K (.b x) [] | _,_ => none⟩
theorem lp5 (S : Seals) (k : Nat) : (∀ (a0 : List Int) (a1 : List Int) (a2 : List Int),runF tt (g113) lv113 Tryz.f113 k [.dat (.int .i64) a0 true,.dat (.int .i64) a1 true,.dat (.int .i64) a2 true] [] = bindO (axes_Sliced.f k a0 a1 a2) (fun x : Int => some (.i .i64 x,[]))) ∧ (∀ (a0 : Int),runF tt (g123) lv123 Tryz.f123 k [.i .i64 a0] [] = bindO (axes_Padded_1.f a0) (fun x : Bool => some (.b x,[]))) := by
 refine cut_ (A := ∀ (n : Nat) {x1 : List Int} {x2 : List Int} {x21 : List Int} {x22 : Int} {x23 : Int} {K : CK},S.lp tt (g113) lv113 0 n (loopN Tryz.f113 0) ⟨[(1,.dat (.int .i64) x1 true),(2,.dat (.int .i64) x2 true),(21,.dat (.int .i64) x21 true),(22,.i .i64 x22),(23,.i .i64 x23)],[],0,62⟩ K = bindO (axes_Sliced.l0 n x1 x2 x21 x22 x23) (Sum.elim (fun x : Unit => K (.exit 0) ⟨[],[],0,62⟩) (fun x : Int => K .ret ⟨[(6,.i .i64 x)],[],0,62⟩))) (ind_ (by intros; rw [S.lp_zero]; exact none_c) ?_) ?_
 intro n ih; intros; rw [axes_Sliced.l0]; refine S.lp_succ ?_; conv => lhs; arg 5; whnf
 rotate_left
 intro w113_0
 refine ⟨?_,?_⟩
 intro a0 a1 a2
 unfold axes_Sliced.f; refine S.run_s rfl rfl ?_; conv => lhs; arg 5; whnf
 conv => lhs; arg 6; whnf
 rotate_left
 intro a0
 unfold axes_Padded_1.f; refine S.run_s rfl rfl ?_; conv => lhs; arg 5; whnf
 conv => lhs; arg 6; whnf
 rotate_left
 all_goals repeat' first|(first|refine S.seq_op rfl ?_|refine S.op_n ?_|refine S.block_x ?_|refine br_lt ?_|refine br_lf ?_|refine br_t (by assumption) ?_|refine br_f (by assumption) ?_|refine req_i (by with_reducible assumption) ?_|refine br_nd (fun _=>?_) (fun _=>?_)|refine br_d (fun _=>?_) (fun _=>?_)|refine br_n (fun _=>?_) (fun _=>?_)|refine br_c (fun _=>?_) (fun _=>?_)|refine req_c fun _=>?_|refine req_i (by assumption) ?_|refine bnd_c fun _=>?_)<;>(conv=>lhs;whnf)|refine S.seq_nil ?_|refine S.reg_n ?_|refine S.region rfl ?_|refine S.two ?_|refine S.blok ?_|refine S.cond rfl ?_|refine S.after_n ?_|refine S.block_n ?_|refine S.block_r ?_|refine S.after_x ?_|refine S.after_r ?_|refine S.skip ?_|refine S.exit ?_|refine S.ret ?_|refine sum_c (fun _=>?_) (fun _=>?_)|refine S.region_d (id := 6) (ds := [0,0,3,7,15,31,63,63,255,511,63,2047,4095,8191,16383,16383,65535,131071,262143,524287,1048575,2097151,2097151,8388607,16777215,2097151,2097151,2097151,203423743,471859199,1042284543,2147483647,4294967295]) (mds := [[],[],[],[],[],[],[],[],[],[],[],[],[],[],[],[],[],[],[],[],[],[],[],[],[],[],[],[],[],[],[],[],[]]) (hm := []) (by kernel_rfl) (by kernel_rfl) rfl rfl ?_|exact ih|refine (w113_0 _).trans ?_|(first|refine S.loop ?_|refine S.back_n ?_|refine S.back_x ?_|refine S.back_r ?_|refine S.fin_r ?_|refine S.fin_n ?_|refine S.dk_n ?_|refine S.draw_nil ?_)<;>(conv=>lhs;whnf)|exact ret_c rfl|exact none_c|(refine S.draw_op ?_; conv => lhs; whnf; arg 1; whnf)|refine andK_br ?_|refine andK_req ?_|refine andK_b ?_|refine andK_none ?_
theorem en113 : EnvOK Tryz.prog (g113) := (envOK_nil _)
theorem snd113 (k : Nat) : Sound Tryz.prog 113 (sp113 k) := by
 refine ⟨⟨Tryz.f113,Tryz.func113,by kernel_rfl,rfl⟩,fun args objs K r h => ?_⟩
 unfold sp113 at h; dsimp only at h; split at h
 ·rename_i v0 v1 v2
  obtain ⟨a0,h9,ca0⟩ := listB_spec h; clear h
  have h := h9; clear h9
  obtain ⟨a1,h9,ca1⟩ := listB_spec h; clear h
  have h := h9; clear h9
  obtain ⟨a2,h9,ca2⟩ := listB_spec h; clear h
  have h := h9; clear h9
  obtain ⟨x,hx,h⟩ := bindO_some h
  exact ⟨_,_,h,FnOK.args2 (relL_c ca0 (relL_c ca1 (relL_c ca2 relL_n))) (fn_run tab_ok (en113) mixed Tryz.func113 (((lp5 seals k).1 a0 a1 a2).trans (bindO_eq hx)))⟩
 ·cases h
theorem en123 : EnvOK Tryz.prog (g123) := (envOK_nil _)
theorem snd123 : Sound Tryz.prog 123 (sp123) := by
 refine ⟨⟨Tryz.f123,Tryz.func123,by kernel_rfl,rfl⟩,fun args objs K r h => ?_⟩
 unfold sp123 at h; dsimp only at h; split at h
 ·rename_i a0
  obtain ⟨x,hx,h⟩ := bindO_some h
  exact ⟨_,_,h,FnOK.args2 (relL_c rel_i relL_n) (fn_run tab_ok (en123) mixed Tryz.func123 (((lp5 seals 0).2 a0).trans (bindO_eq hx)))⟩
 ·cases h
end Go.Vm
