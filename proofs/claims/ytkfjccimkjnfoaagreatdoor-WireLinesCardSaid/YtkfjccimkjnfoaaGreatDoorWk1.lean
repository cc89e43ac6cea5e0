/- Own texts put together: the walks -/
import Derived.Test.YtkfjccimkjnfoaaGreatDoorWk0
import Derived.Test.YtkfjccimkjnfoaaGreatDoorVm1
set_option linter.unusedVariables false
set_option maxRecDepth 60000
set_option maxHeartbeats 40000000
namespace Go.Vm
open Go Go.Proofs Go.Pf
noncomputable section

def lv121 : Live := look ⟨[],[],[],[],[]⟩ [(6,⟨[0,1,24,25,26],[],[6],[],[]⟩)]
def g121 (k : Nat) : FEnv := (addF 128 (sp128 k).fs (addF 108 (sp108 k).fs (fun _=>none)))
def sp121 (k : Nat) : SP := .mk [.rd,.rd,.rd] (dL ti true (dL ti true (dL ti true dN))) oN fun (a0,a1,a2,_) _ C => C _ (qbM.f k a0 a1 a2) (fun x => .i .i64 x) fun x => []
def lv129 : Live := look ⟨[],[],[],[],[]⟩ [(4,⟨[1,2,21,22,23],[],[6],[],[]⟩)]
def g129 : FEnv := (fun _=>none)
def sp129 (k : Nat) : SP := .mk [.rd,.rd,.rd] (dL ti true (dL ti true (dL ti true dN))) oN fun (a0,a1,a2,_) _ C => C _ (qbw.f k a0 a1 a2) (fun x => .i .i64 x) fun x => []
def lv138 : Live := look ⟨[],[],[],[],[]⟩ []
def g138 : FEnv := (fun _=>none)
def sp138 : SP := .mk [.rd] (dI .i64 dN) oN fun (a0,_) _ C => C _ (qcn.f a0) (fun x => .b x) fun x => []
def lv130 : Live := look ⟨[],[],[],[],[]⟩ [(6,⟨[1,2,8,9,27,28,29],[9],[6,7],[],[]⟩),(1000000,⟨[],[],[],[(6,0,.own ti)],[]⟩)]
def g130 (k : Nat) : FEnv := (addF 108 (sp108 k).fs (addF 138 sp138.fs (fun _=>none)))
def sp130 (k : Nat) : SP := .mk [.rd,.rd,.rd] (dL ti true (dL ti true (dL ti true dN))) oN fun (a0,a1,a2,_) _ C => C _ (qbx.f k a0 a1 a2) (fun x => .tup [.own 0,.i .i64 x.1]) fun x => [.row ti x.2 false]
def lv122 : Live := look ⟨[],[],[],[],[]⟩ [(1000000,⟨[],[],[],[(4,0,.dat ti),(4,0,.fz ti)],[]⟩)]
def g122 (k : Nat) : FEnv := (addF 130 (sp130 k).fs (addF 129 (sp129 k).fs (fun _=>none)))
def sp122 (k : Nat) : SP := .mk [.st,.st] (dG (dI .i64 (dL ti false (dL ti false (dL ti false (dI .i64 (dI .i64 (dS dN))))))) (dL ti false dN)) oN fun ((a0_0,a0_1,a0_2,a0_3,a0_4,a0_5,a0_6,_),a1,_) _ C => C _ (qdE.f k a0_0 a0_1 a0_2 a0_3 a0_4 a0_5 a0_6 a1) (fun x => .tup [.dat ti x.1 false,.i .i64 x.2]) fun x => []
theorem lp1000 (S : Seals) (k : Nat) : (sp121 k).St tt (g121 k) lv121 Tryz.f121 k ∧ (sp129 k).St tt (g129) lv129 Tryz.f129 k ∧ sp138.St tt (g138) lv138 Tryz.f138 k ∧ (sp130 k).St tt (g130 k) lv130 Tryz.f130 k ∧ (sp122 k).St tt (g122 k) lv122 Tryz.f122 k := by
 refine cu_ (A := ∀ (n : Nat) {x0 x1 x24 : LI} {x25 x26 : Int} {K : CK},S.lp tt (g121 k) lv121 0 n (loopN Tryz.f121 0) ⟨[(0,.dat ti x0 true),(1,.dat ti x1 true),(24,.dat ti x24 true),(25,.i .i64 x25),(26,.i .i64 x26)],[],0,41⟩ K = bindO (qbM.l0 n x0 x1 x24 x25 x26) (Sum.elim (fun x : Unit => K (.exit 0) ⟨[],[],0,41⟩) (fun x : Int => K .ret ⟨[(6,.i .i64 x)],[],0,41⟩))) (fun w121_0=>?_) (ind_ ?_ ?_)
 refine cu_ (A := ∀ (n : Nat) {x1 x2 x21 : LI} {x22 x23 : Int} {K : CK},S.lp tt (g129) lv129 0 n (loopN Tryz.f129 0) ⟨[(1,.dat ti x1 true),(2,.dat ti x2 true),(21,.dat ti x21 true),(22,.i .i64 x22),(23,.i .i64 x23)],[],0,62⟩ K = bindO (qbw.l0 n x1 x2 x21 x22 x23) (Sum.elim (fun x : Unit => K (.exit 0) ⟨[],[],0,62⟩) (fun x : Int => K .ret ⟨[(6,.i .i64 x)],[],0,62⟩))) (fun w129_0=>?_) (ind_ ?_ ?_)
 refine cu_ (A := ∀ (n : Nat) {x1 x2 x27 : LI} {x28 x29 : Int} {y0 : LI} {K : CK},S.lp tt (g130 k) lv130 0 n (loopN Tryz.f130 0) ⟨[(1,.dat ti x1 true),(2,.dat ti x2 true),(8,.fn 138 []),(9,.own 0),(27,.dat ti x27 true),(28,.i .i64 x28),(29,.i .i64 x29)],[(0,.row ti y0 false)],1,69⟩ K = bindO (qbx.l0 n x1 x2 x27 x28 x29 y0) (Sum.elim (fun x : LI => K (.exit 0) ⟨[(9,.own 0)],[(0,.row ti x false)],1,69⟩) (fun x : Int => K .ret ⟨[(6,.nilsl),(7,.i .i64 x)],[],0,69⟩))) (fun w130_0=>?_) (ind_ ?_ ?_)
 and_intros
 all_goals first|(dsimp only [SP.St,sp121,sp129,sp138,sp130,sp122,dN,dL,dI,dS,dG,oN]; intros; (first|unfold qbM.f|unfold qbw.f|unfold qcn.f|unfold qbx.f|unfold qdE.f); refine S.run_s rfl rfl ?_; (conv=>lhs;arg 5;whnf); conv=>lhs;arg 6;whnf)|(intros; rw [S.lp_zero]; exact qa0)|(intro n ih; intros; (first|rw [qbM.l0]|rw [qbw.l0]|rw [qbx.l0]); refine S.lp_succ ?_; conv=>lhs;arg 5;whnf)
 all_goals repeat' first|(first|refine S.seq_op rfl ?_|refine S.op_n ?_|refine S.block_x ?_|refine qcG ?_|refine qcH ?_|refine br_t (by assumption) ?_|refine br_f (by assumption) ?_|refine qbo (by with_reducible assumption) ?_|refine qcF (fun _=>?_) (fun _=>?_)|refine br_d (fun _=>?_) (fun _=>?_)|refine br_n (fun _=>?_) (fun _=>?_)|refine br_c (fun _=>?_) (fun _=>?_)|refine qcE fun _=>?_|refine qbo (by assumption) ?_|refine qcI fun _=>?_)<;>(conv=>lhs;whnf)|refine S.seq_nil ?_|refine S.reg_n ?_|refine S.region rfl ?_|refine S.two ?_|refine S.blok ?_|refine S.cond rfl ?_|refine S.after_n ?_|refine S.block_n ?_|refine S.block_r ?_|refine S.after_x ?_|refine S.after_r ?_|refine S.skip ?_|refine S.exit ?_|refine S.ret ?_|refine qcC (fun _=>?_) (fun _=>?_)|refine S.region_d (id := 8) (ds := [0,0,3,7,0,0,48,112,255]) (mds := [[],[],[],[],[],[],[],[],[]]) (hm := []) (by kernel_rfl) (by kernel_rfl) rfl rfl ?_|exact ih|refine (w121_0 _).trans ?_|refine (w129_0 _).trans ?_|refine (w130_0 _).trans ?_|refine S.region_d (id := 6) (ds := [0,0,3,7,15,31,63,63,255,511,63,2047,4095,8191,16383,16383,65535,131071,262143,524287,1048575,2097151,2097151,8388607,16777215,2097151,2097151,2097151,203423743,471859199,1042284543,2147483647,4294967295]) (mds := [[],[],[],[],[],[],[],[],[],[],[],[],[],[],[],[],[],[],[],[],[],[],[],[],[],[],[],[],[],[],[],[],[]]) (hm := []) (by kernel_rfl) (by kernel_rfl) rfl rfl ?_|refine S.region_d (id := 10) (ds := [0,0,0,0,12,28,0,124,0,0,768,1792,4092,8191,16383]) (mds := [[],[],[],[],[],[],[],[],[],[],[],[],[],[],[0]]) (hm := [(14,[0])]) (by kernel_rfl) (by kernel_rfl) rfl rfl ?_|refine S.region_d (id := 3) (ds := [0,1,0,4,15,0,32,0,128,480,31,2047]) (mds := [[],[],[],[],[],[],[],[],[],[],[],[]]) (hm := []) (by kernel_rfl) (by kernel_rfl) rfl rfl ?_|(first|refine S.loop ?_|refine S.back_n ?_|refine S.back_x ?_|refine S.back_r ?_|refine S.fin_r ?_|refine S.fin_n ?_|refine S.dk_n ?_|refine S.draw_nil ?_)<;>(conv=>lhs;whnf)|exact qcD rfl|exact qa0|(refine S.draw_op ?_; conv => lhs; whnf; arg 1; whnf)|refine qbp ?_|refine qa4 ?_|refine qb2 ?_|refine qaT ?_
theorem snd121 (k : Nat) : Sound Tryz.prog 121 (sp121 k).fs := sn_ qaj mixed Tryz.func121 (by kernel_rfl) rfl (qaa (snd128 k) (qaa (snd108 k) (qab _))) (lp1000 seals k).1
theorem snd129 (k : Nat) : Sound Tryz.prog 129 (sp129 k).fs := sn_ qaj mixed Tryz.func129 (by kernel_rfl) rfl (qab _) (lp1000 seals k).2.1
theorem snd138 : Sound Tryz.prog 138 sp138.fs := sn_ qaj mixed Tryz.func138 (by kernel_rfl) rfl (qab _) (lp1000 seals 0).2.2.1
theorem snd130 (k : Nat) : Sound Tryz.prog 130 (sp130 k).fs := sn_ qaj mixed Tryz.func130 (by kernel_rfl) rfl (qaa (snd108 k) (qaa snd138 (qab _))) (lp1000 seals k).2.2.2.1
theorem snd122 (k : Nat) : Sound Tryz.prog 122 (sp122 k).fs := sn_ qaj mixed Tryz.func122 (by kernel_rfl) rfl (qaa (snd130 k) (qaa (snd129 k) (qab _))) (lp1000 seals k).2.2.2.2
def lv110 : Live := look ⟨[],[],[],[],[]⟩ [(1000000,⟨[],[],[],[(2,0,.own ti)],[]⟩)]
noncomputable def g110 : FEnv := (fun _=>none)
theorem en110 : EnvOK Tryz.prog (g110) := (qab _)
theorem r110 (S : Seals) (k : Nat) (a0 : LI) : runF tt (g110) lv110 Tryz.f110 k [.dat ti a0 true] [] = bindO (qbn.f a0) (fun x : LI => some (.own 0,[.row ti x false])) := by
 unfold qbn.f; cases a0
 ·rw [if_pos (by decide)]; refine S.run_s rfl rfl ?_; conv => lhs; arg 5; whnf
  conv => lhs; arg 6; whnf
  repeat' first|(first|refine qbo (by decide) ?_|refine S.seq_op rfl ?_|refine S.op_n ?_|refine S.block_x ?_|refine qcG ?_|refine qcH ?_|refine br_t (by assumption) ?_|refine br_f (by assumption) ?_|refine qbo (by with_reducible assumption) ?_|refine qcF (fun _=>?_) (fun _=>?_)|refine br_d (fun _=>?_) (fun _=>?_)|refine br_n (fun _=>?_) (fun _=>?_)|refine br_c (fun _=>?_) (fun _=>?_)|refine qcE fun _=>?_|refine qbo (by assumption) ?_|refine qcI fun _=>?_)<;>(conv=>lhs;whnf)|refine S.seq_nil ?_|refine S.reg_n ?_|refine S.region rfl ?_|refine S.two ?_|refine S.blok ?_|refine S.cond rfl ?_|refine S.after_n ?_|refine S.block_n ?_|refine S.block_r ?_|refine S.after_x ?_|refine S.after_r ?_|refine S.skip ?_|refine S.exit ?_|refine S.ret ?_|refine qcC (fun _=>?_) (fun _=>?_)|refine qpr ?_ ?_|(first|refine S.loop ?_|refine S.back_n ?_|refine S.back_x ?_|refine S.back_r ?_|refine S.fin_r ?_|refine S.fin_n ?_|refine S.dk_n ?_|refine S.draw_nil ?_)<;>(conv=>lhs;whnf)|exact qcD rfl|exact qa0|(refine S.draw_op ?_; conv => lhs; whnf; arg 1; whnf)|refine qbp ?_|refine qa4 ?_|refine qb2 ?_|refine qaT ?_
 ·refine S.run_s rfl rfl ?_; conv => lhs; arg 5; whnf
  conv => lhs; arg 6; whnf
  repeat' first|(first|refine S.seq_op rfl ?_|refine S.op_n ?_|refine S.block_x ?_|refine qcG ?_|refine qcH ?_|refine br_t (by assumption) ?_|refine br_f (by assumption) ?_|refine qbo (by with_reducible assumption) ?_|refine qcF (fun _=>?_) (fun _=>?_)|refine br_d (fun _=>?_) (fun _=>?_)|refine br_n (fun _=>?_) (fun _=>?_)|refine br_c (fun _=>?_) (fun _=>?_)|refine qcE fun _=>?_|refine qbo (by assumption) ?_|refine qcI fun _=>?_)<;>(conv=>lhs;whnf)|refine S.seq_nil ?_|refine S.reg_n ?_|refine S.region rfl ?_|refine S.two ?_|refine S.blok ?_|refine S.cond rfl ?_|refine S.after_n ?_|refine S.block_n ?_|refine S.block_r ?_|refine S.after_x ?_|refine S.after_r ?_|refine S.skip ?_|refine S.exit ?_|refine S.ret ?_|refine qcC (fun _=>?_) (fun _=>?_)|(first|refine S.loop ?_|refine S.back_n ?_|refine S.back_x ?_|refine S.back_r ?_|refine S.fin_r ?_|refine S.fin_n ?_|refine S.dk_n ?_|refine S.draw_nil ?_)<;>(conv=>lhs;whnf)|exact qcD rfl|exact qa0|(refine S.draw_op ?_; conv => lhs; whnf; arg 1; whnf)|refine qbp ?_|refine qa4 ?_|refine qb2 ?_|refine qaT ?_
def sp110 : FSpec := ⟨[.rd],fun args objs K => match args,objs with | [v0],[] => listB ti true v0 fun a0 => bindO (qbn.f a0) fun x : LI => K (.own 0) [.row ti x false] | _,_ => none⟩
theorem snd110 : Sound Tryz.prog 110 (sp110) := by
 refine ⟨⟨Tryz.f110,Tryz.func110,by kernel_rfl,rfl⟩,fun args objs K r h => ?_⟩
 unfold sp110 at h; dsimp only at h; split at h
 ·rename_i v0
  obtain ⟨a0,h9,ca0⟩ := qfN h; clear h
  have h := h9; clear h9
  obtain ⟨x,hx,h⟩ := qcP h
  exact ⟨_,_,h,FnOK.args2 (qdc ca0 qi8) (qjB qaj (en110) mixed Tryz.func110 ((r110 seals 0 a0).trans (qeu hx)))⟩
 ·cases h

def lv123 : Live := look ⟨[],[],[],[],[]⟩ [(6,⟨[0,6,33,34,35],[6],[4,5],[],[]⟩),(11,⟨[0,6,8,33,34,35,44,45,46],[0,6,8,33,34,35],[4,5],[],[]⟩),(1000000,⟨[],[],[],[(4,0,.own ti)],[]⟩)]
def g123 (k : Nat) : FEnv := (addF 108 (sp108 k).fs (addF 110 sp110 (fun _=>none)))
def sp123 (k : Nat) : SP := .mk [.rd,.rd] (dI .i64 (dL (.sl ti) true dN)) oN fun (a0,a1,_) _ C => C _ (qaO.f k a0 a1) (fun x => .tup [.own 0,.i .i64 x.1]) fun x => [.row ti x.2 false]
def lv139 : Live := look ⟨[],[],[],[],[]⟩ [(4,⟨[0,1,12,13],[],[4],[],[]⟩)]
def g139 : FEnv := (fun _=>none)
def sp139 (k : Nat) : SP := .mk [.rd,.rd] (dL ti true (dL ti true dN)) oN fun (a0,a1,_) _ C => C _ (qaP.f k a0 a1) (fun x => .b x) fun x => []
def lv131 : Live := look ⟨[],[],[],[],[]⟩ []
def g131 (k : Nat) : FEnv := (addF 139 (sp139 k).fs (fun _=>none))
def sp131 (k : Nat) : SP := .mk [.rd,.rd] (dL ti true (dL ti true dN)) oN fun (a0,a1,_) _ C => C _ (qc7.f k a0 a1) (fun x => .b x) fun x => []
def lv140 : Live := look ⟨[],[],[],[],[]⟩ [(1000000,⟨[],[],[],[(4,0,.own ti),(4,0,.trim)],[]⟩)]
def g140 : FEnv := (fun _=>none)
def sp140 : SP := .mk [.kp,.kp] (dZ (dI .i64 dN)) oN fun (a1,_) _ C => C _ (qcf.f a1) (fun x => .own 0) fun x => [.row ti x false]
def lv132 : Live := look ⟨[],[],[],[],[]⟩ [(3,⟨[0,3,9,10,11],[0,3],[2],[],[]⟩),(11,⟨[6,25,26,27],[6],[2],[],[]⟩)]
def g132 : FEnv := (addF 140 sp140.fs (fun _=>none))
def sp132 (k : Nat) : SP := .mk [.rd] (dL (.sl ti) true dN) oN fun (a0,_) _ C => C _ (qam.f k a0) (fun x => .own 0) fun x => [.row ti x false]
def lv124 : Live := look ⟨[],[],[],[],[]⟩ [(1000000,⟨[],[],[],[(6,0,.own ti)],[]⟩)]
def g124 (k : Nat) : FEnv := (addF 132 (sp132 k).fs (addF 131 (sp131 k).fs (addF 108 (sp108 k).fs (fun _=>none))))
def sp124 (k : Nat) : SP := .mk [.st,.st,.st] (dL ti false (dL ti false (dI .i64 dN))) oN fun (a0,a1,a2,_) _ C => C _ (qeh.f k a0 a1 a2) (fun x => .tup [.own 0,.i .i64 x.1]) fun x => [.row ti x.2 false]
def lv133 : Live := look ⟨[],[],[],[],[]⟩ []
def g133 : FEnv := (fun _=>none)
def sp133 : SP := .mk [.rd] (dI .i64 dN) oN fun (a0,_) _ C => C _ (qda.f a0) (fun x => .b x) fun x => []
theorem lp1001 (S : Seals) (k : Nat) : (sp123 k).St tt (g123 k) lv123 Tryz.f123 k ∧ (sp139 k).St tt (g139) lv139 Tryz.f139 k ∧ (sp131 k).St tt (g131 k) lv131 Tryz.f131 k ∧ sp140.St tt (g140) lv140 Tryz.f140 k ∧ (sp132 k).St tt (g132) lv132 Tryz.f132 k ∧ (sp124 k).St tt (g124 k) lv124 Tryz.f124 k ∧ sp133.St tt (g133) lv133 Tryz.f133 k := by
 refine cu_ (A := ∀ (n : Nat) {x0 : Int} {x8 : LI} {x33 : List LI} {x34 x35 : Int} {x44 : LI} {x45 x46 : Int} {y0 : LI} {K : CK},S.lp tt (g123 k) lv123 0 n (loopN Tryz.f123 1) ⟨[(0,.i .i64 x0),(6,.own 0),(8,.dat ti x8 false),(33,.dat (.sl ti) x33 true),(34,.i .i64 x34),(35,.i .i64 x35),(44,.dat ti x44 false),(45,.i .i64 x45),(46,.i .i64 x46)],[(0,.row ti y0 false)],1,83⟩ K = bindO (qaO.l1 n x0 x8 x33 x34 x35 x44 x45 x46 y0) (Sum.elim (fun x : Unit => K (.exit 2) ⟨[(0,.i .i64 x0),(6,.own 0),(8,.dat ti x8 false),(33,.dat (.sl ti) x33 true),(34,.i .i64 x34),(35,.i .i64 x35)],[(0,.row ti y0 false)],1,83⟩) (fun x : Int => K .ret ⟨[(4,.nilsl),(5,.i .i64 x)],[],0,83⟩))) (fun w123_1=>?_) (ind_ ?_ ?_)
 refine cu_ (A := ∀ (n : Nat) {x0 : Int} {x33 : List LI} {x34 x35 : Int} {y0 : LI} {K : CK},S.lp tt (g123 k) lv123 0 n (loopN Tryz.f123 0) ⟨[(0,.i .i64 x0),(6,.own 0),(33,.dat (.sl ti) x33 true),(34,.i .i64 x34),(35,.i .i64 x35)],[(0,.row ti y0 false)],1,83⟩ K = bindO (qaO.l0 k n x0 x33 x34 x35 y0) (Sum.elim (fun x : LI => K (.exit 0) ⟨[(6,.own 0)],[(0,.row ti x false)],1,83⟩) (fun x : Int => K .ret ⟨[(4,.nilsl),(5,.i .i64 x)],[],0,83⟩))) (fun w123_0=>?_) (ind_ ?_ ?_)
 refine cu_ (A := ∀ (n : Nat) {x0 x1 : LI} {x12 x13 : Int} {K : CK},S.lp tt (g139) lv139 0 n (loopN Tryz.f139 0) ⟨[(0,.dat ti x0 true),(1,.dat ti x1 true),(12,.i .i64 x12),(13,.i .i64 x13)],[],0,26⟩ K = bindO (qaP.l0 n x0 x1 x12 x13) (Sum.elim (fun x : Unit => K (.exit 0) ⟨[],[],0,26⟩) (fun x : Bool => K .ret ⟨[(4,.b x)],[],0,26⟩))) (fun w139_0=>?_) (ind_ ?_ ?_)
 refine cu_ (A := ∀ (n : Nat) {x0 : List LI} {x3 : Int} {x9 : List LI} {x10 x11 : Int} {K : CK},S.lp tt (g132) lv132 0 n (loopN Tryz.f132 0) ⟨[(0,.dat (.sl ti) x0 true),(3,.i .i64 x3),(9,.dat (.sl ti) x9 true),(10,.i .i64 x10),(11,.i .i64 x11)],[],0,36⟩ K = bindO (qam.l0 n x0 x3 x9 x10 x11) (fun x : Int => K (.exit 0) ⟨[(0,.dat (.sl ti) x0 true),(3,.i .i64 x)],[],0,36⟩)) (fun w132_0=>?_) (ind_ ?_ ?_)
 refine cu_ (A := ∀ (n : Nat) {x25 : List LI} {x26 x27 : Int} {y0 : LI} {K : CK},S.lp tt (g132) lv132 0 n (loopN Tryz.f132 1) ⟨[(6,.own 0),(25,.dat (.sl ti) x25 true),(26,.i .i64 x26),(27,.i .i64 x27)],[(0,.row ti y0 false)],1,36⟩ K = bindO (qam.l1 n x25 x26 x27 y0) (fun x : LI => K (.exit 2) ⟨[(6,.own 0)],[(0,.row ti x false)],1,36⟩)) (fun w132_1=>?_) (ind_ ?_ ?_)
 and_intros
 all_goals first|(dsimp only [SP.St,sp123,sp139,sp131,sp140,sp132,sp124,sp133,dN,dL,dI,dZ,oN]; intros; (first|unfold qaO.f|unfold qaP.f|unfold qc7.f|unfold qcf.f|unfold qam.f|unfold qeh.f|unfold qda.f); refine S.run_s rfl rfl ?_; (conv=>lhs;arg 5;whnf); conv=>lhs;arg 6;whnf)|(intros; rw [S.lp_zero]; exact qa0)|(intro n ih; intros; (first|rw [qaO.l1]|rw [qaO.l0]|rw [qaP.l0]|rw [qam.l0]|rw [qam.l1]); refine S.lp_succ ?_; conv=>lhs;arg 5;whnf)
 all_goals repeat' first|(first|refine S.seq_op rfl ?_|refine S.op_n ?_|refine S.block_x ?_|refine qcG ?_|refine qcH ?_|refine br_t (by assumption) ?_|refine br_f (by assumption) ?_|refine qbo (by with_reducible assumption) ?_|refine qcF (fun _=>?_) (fun _=>?_)|refine br_d (fun _=>?_) (fun _=>?_)|refine br_n (fun _=>?_) (fun _=>?_)|refine br_c (fun _=>?_) (fun _=>?_)|refine qcE fun _=>?_|refine qbo (by assumption) ?_|refine qcI fun _=>?_)<;>(conv=>lhs;whnf)|refine S.seq_nil ?_|refine S.reg_n ?_|refine S.region rfl ?_|refine S.two ?_|refine S.blok ?_|refine S.cond rfl ?_|refine S.after_n ?_|refine S.block_n ?_|refine S.block_r ?_|refine S.after_x ?_|refine S.after_r ?_|refine S.skip ?_|refine S.exit ?_|refine S.ret ?_|refine qcC (fun _=>?_) (fun _=>?_)|exact ih|refine (w123_1 _).trans ?_|refine (w123_0 _).trans ?_|refine (w139_0 _).trans ?_|refine (w132_0 _).trans ?_|refine (w132_1 _).trans ?_|refine S.region_d (id := 16) (ds := [0,0,3,7,0,0,48,112,255,511,1023]) (mds := [[],[],[],[],[],[],[],[],[],[],[0]]) (hm := [(10,[0])]) (by kernel_rfl) (by kernel_rfl) rfl rfl ?_|refine S.region_d (id := 6) (ds := [0,0,3,7,0,0,48,112,255]) (mds := [[],[],[],[],[],[],[],[],[]]) (hm := []) (by kernel_rfl) (by kernel_rfl) rfl rfl ?_|refine S.region_d (id := 3) (ds := [0,1,3,7,15,31,63,127,255,511,511,2047,511,511,12799,32767,65535,131071,262143,524287,524287,1572863,3670015,8388607,16777215,524287,524287,101187583,235405311,536870911,1073741823,2147483647]) (mds := [[],[],[],[],[],[],[],[],[],[],[],[],[],[],[],[],[],[],[],[],[],[],[],[],[],[],[],[],[],[],[],[]]) (hm := []) (by kernel_rfl) (by kernel_rfl) rfl rfl ?_|refine S.region_d (id := 5) (ds := [0,0,2,6,15,0,0,64,224,511,1023,2047]) (mds := [[],[],[],[],[],[],[],[],[],[],[],[]]) (hm := []) (by kernel_rfl) (by kernel_rfl) rfl rfl ?_|(first|refine S.loop ?_|refine S.back_n ?_|refine S.back_x ?_|refine S.back_r ?_|refine S.fin_r ?_|refine S.fin_n ?_|refine S.dk_n ?_|refine S.draw_nil ?_)<;>(conv=>lhs;whnf)|exact qcD rfl|exact qa0|(refine S.draw_op ?_; conv => lhs; whnf; arg 1; whnf)|refine qbp ?_|refine qa4 ?_|refine qb2 ?_|refine qaT ?_
theorem snd123 (k : Nat) : Sound Tryz.prog 123 (sp123 k).fs := sn_ qaj mixed Tryz.func123 (by kernel_rfl) rfl (qaa (snd108 k) (qaa snd110 (qab _))) (lp1001 seals k).1
theorem snd139 (k : Nat) : Sound Tryz.prog 139 (sp139 k).fs := sn_ qaj mixed Tryz.func139 (by kernel_rfl) rfl (qab _) (lp1001 seals k).2.1
theorem snd131 (k : Nat) : Sound Tryz.prog 131 (sp131 k).fs := sn_ qaj mixed Tryz.func131 (by kernel_rfl) rfl (qaa (snd139 k) (qab _)) (lp1001 seals k).2.2.1
theorem snd140 : Sound Tryz.prog 140 sp140.fs := sn_ qaj mixed Tryz.func140 (by kernel_rfl) rfl (qab _) (lp1001 seals 0).2.2.2.1
theorem snd132 (k : Nat) : Sound Tryz.prog 132 (sp132 k).fs := sn_ qaj mixed Tryz.func132 (by kernel_rfl) rfl (qaa snd140 (qab _)) (lp1001 seals k).2.2.2.2.1
theorem snd124 (k : Nat) : Sound Tryz.prog 124 (sp124 k).fs := sn_ qaj mixed Tryz.func124 (by kernel_rfl) rfl (qaa (snd132 k) (qaa (snd131 k) (qaa (snd108 k) (qab _)))) (lp1001 seals k).2.2.2.2.2.1
theorem snd133 : Sound Tryz.prog 133 sp133.fs := sn_ qaj mixed Tryz.func133 (by kernel_rfl) rfl (qab _) (lp1001 seals 0).2.2.2.2.2.2
def lv134 : Live := look ⟨[],[],[],[],[]⟩ [(5,⟨[1,6,14,15,16],[6],[4,5],[(6,0,.own ti)],[]⟩),(1000000,⟨[],[],[],[(4,0,.own ti)],[]⟩)]
def g134 (k : Nat) : FEnv := (addF 128 (sp128 k).fs (fun _=>none))
def sp134 (k : Nat) : SP := .mk [.rd,.rd] (dL ti true (dL ti true dN)) oN fun (a0,a1,_) _ C => C _ (qbB.f k a0 a1) (fun x => .tup [.own 0,.i .i64 x.1]) fun x => [.row ti x.2 false]
def lv125 : Live := look ⟨[],[],[],[],[]⟩ [(1000000,⟨[],[],[],[(4,0,.own ti)],[]⟩)]
def g125 (k : Nat) : FEnv := (addF 108 (sp108 k).fs (addF 134 (sp134 k).fs (addF 133 sp133.fs (fun _=>none))))
def sp125 (k : Nat) : SP := .mk [.rd,.rd] (dG (dI .i64 (dL ti true (dL ti true (dL ti true (dI .i64 (dI .i64 (dS dN))))))) (dL ti true dN)) oN fun ((a0_0,a0_1,a0_2,a0_3,a0_4,a0_5,a0_6,_),a1,_) _ C => C _ (qdr.f k a0_0 a0_1 a0_2 a0_3 a0_4 a0_5 a0_6 a1) (fun x => .tup [.own 0,.i .i64 x.1]) fun x => [.row ti x.2 false]
def lv141 : Live := look ⟨[],[],[],[],[]⟩ []
def g141 : FEnv := (fun _=>none)
def sp141 : SP := .mk [.rd] (dI .i64 dN) oN fun (a0,_) _ C => C _ (qcu.f a0) (fun x => .b x) fun x => []
def lv135 : Live := look ⟨[],[],[],[],[]⟩ []
def g135 : FEnv := (addF 141 sp141.fs (addF 133 sp133.fs (fun _=>none)))
def sp135 : SP := .mk [.rd,.rd,.rd] (dI .i64 (dI .i64 (dI .i64 dN))) oN fun (a0,a1,a2,_) _ C => C _ (qdw.f a0 a1 a2) (fun x => .b x) fun x => []
def lv136 : Live := look ⟨[],[],[],[],[]⟩ []
def g136 : FEnv := (fun _=>none)
def sp136 : SP := .mk [.rd,.rd,.rd] (dI .i64 (dI .i64 (dI .i64 dN))) oN fun (a0,a1,a2,_) _ C => C _ (qdv.f a0 a1 a2) (fun x => .i .i64 x) fun x => []
def lv126 : Live := look ⟨[],[],[],[],[]⟩ [(1000000,⟨[],[],[],[(4,0,.own ti)],[]⟩)]
def g126 : FEnv := (addF 136 sp136.fs (addF 110 sp110 (addF 135 sp135.fs (fun _=>none))))
def sp126 : SP := .mk [.rd,.rd] (dG (dI .i64 (dL ti true (dL ti true (dL ti true (dI .i64 (dI .i64 (dS dN))))))) (dL ti true dN)) oN fun ((a0_0,a0_1,a0_2,a0_3,a0_4,a0_5,a0_6,_),a1,_) _ C => C _ (qdT.f a0_0 a0_1 a0_2 a0_3 a0_4 a0_5 a0_6 a1) (fun x => .tup [.own 0,.i .i64 x.1]) fun x => [.row ti x.2 false]
def lv137 : Live := look ⟨[],[],[],[],[]⟩ []
def g137 (k : Nat) : FEnv := (addF 131 (sp131 k).fs (fun _=>none))
def sp137 (k : Nat) : SP := .mk [.rd,.rd] (dL ti true (dP 0 0 dN)) (oV 44 (cD (.sl ti) false cN) oN) fun (a0,_) ((o0,_),_) C => C _ (qc5.f k a0 o0) (fun x => .b x) fun x => [.var 44 [.dat (.sl ti) o0 false]]
theorem lp1002 (S : Seals) (k : Nat) : (sp134 k).St tt (g134 k) lv134 Tryz.f134 k ∧ (sp125 k).St tt (g125 k) lv125 Tryz.f125 k ∧ sp141.St tt (g141) lv141 Tryz.f141 k ∧ sp135.St tt (g135) lv135 Tryz.f135 k ∧ sp136.St tt (g136) lv136 Tryz.f136 k ∧ sp126.St tt (g126) lv126 Tryz.f126 k ∧ (sp137 k).St tt (g137 k) lv137 Tryz.f137 k := by
 refine cu_ (A := ∀ (n : Nat) {x1 x14 : LI} {x15 x16 : Int} {y0 : LI} {K : CK},S.lp tt (g134 k) lv134 0 n (loopN Tryz.f134 0) ⟨[(1,.dat ti x1 true),(6,.own 0),(14,.dat ti x14 true),(15,.i .i64 x15),(16,.i .i64 x16)],[(0,.row ti y0 false)],1,39⟩ K = bindO (qbB.l0 n x1 x14 x15 x16 y0) (fun x : LI => K (.exit 0) ⟨[(6,.own 0)],[(0,.row ti x false)],1,39⟩)) (fun w134_0=>?_) (ind_ ?_ ?_)
 and_intros
 all_goals first|(dsimp only [SP.St,sp134,sp125,sp141,sp135,sp136,sp126,sp137,dN,dL,dI,dS,dP,dG,cN,cD,oN,oV]; intros; (first|unfold qbB.f|unfold qdr.f|unfold qcu.f|unfold qdw.f|unfold qdv.f|unfold qdT.f|unfold qc5.f); refine S.run_s rfl rfl ?_; (conv=>lhs;arg 5;whnf); conv=>lhs;arg 6;whnf)|(intros; rw [S.lp_zero]; exact qa0)|(intro n ih; intros; rw [qbB.l0]; refine S.lp_succ ?_; conv=>lhs;arg 5;whnf)
 all_goals repeat' first|(first|refine S.seq_op rfl ?_|refine S.op_n ?_|refine S.block_x ?_|refine qcG ?_|refine qcH ?_|refine br_t (by assumption) ?_|refine br_f (by assumption) ?_|refine qbo (by with_reducible assumption) ?_|refine qcF (fun _=>?_) (fun _=>?_)|refine br_d (fun _=>?_) (fun _=>?_)|refine br_n (fun _=>?_) (fun _=>?_)|refine br_c (fun _=>?_) (fun _=>?_)|refine qcE fun _=>?_|refine qbo (by assumption) ?_|refine qcI fun _=>?_)<;>(conv=>lhs;whnf)|refine S.seq_nil ?_|refine S.reg_n ?_|refine S.region rfl ?_|refine S.two ?_|refine S.blok ?_|refine S.cond rfl ?_|refine S.after_n ?_|refine S.block_n ?_|refine S.block_r ?_|refine S.after_x ?_|refine S.after_r ?_|refine S.skip ?_|refine S.exit ?_|refine S.ret ?_|refine qcC (fun _=>?_) (fun _=>?_)|exact ih|refine (w134_0 _).trans ?_|refine S.region_d (id := 1) (ds := [0,1,3,7,15,31,63,31,159,415,927,31,2079,6175,14367,32767,65535,131071,262143,524287,1048575,2097151,4194303,8388607,16777215,33554431,67108863,134217727,268435455,536870911,67108863,1140850687,4294967295,8589934591]) (mds := [[],[],[],[],[],[],[],[],[],[],[],[],[],[],[],[],[],[],[],[],[],[],[],[],[],[],[],[],[],[],[],[],[],[]]) (hm := []) (by kernel_rfl) (by kernel_rfl) rfl rfl ?_|refine S.region_d (id := 4) (ds := [0,0,2,6,14,0,0,64,192,448,992,2016,0,4096,12288,28672,0,65536,196608,458752,1048544,2097151,4194303]) (mds := [[],[],[],[],[],[],[],[],[],[],[],[],[],[],[],[],[],[],[],[],[],[],[1]]) (hm := [(22,[1])]) (by kernel_rfl) (by kernel_rfl) rfl rfl ?_|(first|refine S.loop ?_|refine S.back_n ?_|refine S.back_x ?_|refine S.back_r ?_|refine S.fin_r ?_|refine S.fin_n ?_|refine S.dk_n ?_|refine S.draw_nil ?_)<;>(conv=>lhs;whnf)|exact qcD rfl|exact qa0|(refine S.draw_op ?_; conv => lhs; whnf; arg 1; whnf)|refine qbp ?_|refine qa4 ?_|refine qb2 ?_|refine qaT ?_
theorem snd134 (k : Nat) : Sound Tryz.prog 134 (sp134 k).fs := sn_ qaj mixed Tryz.func134 (by kernel_rfl) rfl (qaa (snd128 k) (qab _)) (lp1002 seals k).1
theorem snd125 (k : Nat) : Sound Tryz.prog 125 (sp125 k).fs := sn_ qaj mixed Tryz.func125 (by kernel_rfl) rfl (qaa (snd108 k) (qaa (snd134 k) (qaa snd133 (qab _)))) (lp1002 seals k).2.1
theorem snd141 : Sound Tryz.prog 141 sp141.fs := sn_ qaj mixed Tryz.func141 (by kernel_rfl) rfl (qab _) (lp1002 seals 0).2.2.1
theorem snd135 : Sound Tryz.prog 135 sp135.fs := sn_ qaj mixed Tryz.func135 (by kernel_rfl) rfl (qaa snd141 (qaa snd133 (qab _))) (lp1002 seals 0).2.2.2.1
theorem snd136 : Sound Tryz.prog 136 sp136.fs := sn_ qaj mixed Tryz.func136 (by kernel_rfl) rfl (qab _) (lp1002 seals 0).2.2.2.2.1
theorem snd126 : Sound Tryz.prog 126 sp126.fs := sn_ qaj mixed Tryz.func126 (by kernel_rfl) rfl (qaa snd136 (qaa snd110 (qaa snd135 (qab _)))) (lp1002 seals 0).2.2.2.2.2.1
theorem snd137 (k : Nat) : Sound Tryz.prog 137 (sp137 k).fs := sn_ qaj mixed Tryz.func137 (by kernel_rfl) rfl (qaa (snd131 k) (qab _)) (lp1002 seals k).2.2.2.2.2.2
end
end Go.Vm
