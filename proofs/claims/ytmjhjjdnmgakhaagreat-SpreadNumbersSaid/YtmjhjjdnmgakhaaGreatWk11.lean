/- Own walks -/
import Derived.Test.YtmjhjjdnmgakhaaGreatWk0
import Derived.Test.YtmjhjjdnmgakhaaGreatWk10
import Derived.Test.YtmjhjjdnmgakhaaGreatVm2
set_option linter.unusedVariables false
set_option maxRecDepth 60000
set_option maxHeartbeats 40000000
namespace Go.Vm
open Go Go.Proofs Go.Pf
noncomputable section

def lv221 : Live := look ⟨[],[],[],[],[]⟩ [(1000000,⟨[],[],[],[(2,0,.dat ti)],[]⟩)]
def g221 (k : Nat) : FEnv := (addF 121 (sp121 k).fs (fun _=>none))
def sp221 (k : Nat) : SP := .mk [.st] (dG (dI .i64 (dL ti false (dL ti false (dL ti false (dI .i64 (dI .i64 (dS dN))))))) dN) oN fun ((a0_0,a0_1,a0_2,a0_3,a0_4,a0_5,a0_6,_),_) _ C => C _ (qcO.f k a0_0 a0_1 a0_2 a0_3 a0_4 a0_5 a0_6) (fun x => .tup [.dat ti x.1 false,.i .i64 x.2]) fun x => []
def lv222 : Live := look ⟨[],[],[],[],[]⟩ [(6,⟨[0,6,7,21,22,23],[6],[4,5],[],[]⟩),(1000000,⟨[],[],[],[(4,0,.own ti)],[]⟩)]
def g222 : FEnv := (fun _=>none)
def sp222 (k : Nat) : SP := .mk [.rd,.rd] (dL ti true (dL ti true dN)) oN fun (a0,a1,_) _ C => C _ (qbG.f k a0 a1) (fun x => .tup [.own 0,.i .i64 x.1]) fun x => [.row ti x.2 false]
def lv259 : Live := look ⟨[],[],[],[],[]⟩ [(3,⟨[1,5,8,9,10],[],[4],[],[]⟩)]
def g259 : FEnv := (fun _=>none)
def sp259 (k : Nat) : SP := .mk [.rd,.rd] (dL ti true (dI .i64 dN)) oN fun (a0,a1,_) _ C => C _ (qa8.f k a0 a1) (fun x => .b x) fun x => []
def lv223 : Live := look ⟨[],[],[],[],[]⟩ [(6,⟨[0,1,24,25,26],[],[6],[],[]⟩)]
def g223 (k : Nat) : FEnv := (addF 259 (sp259 k).fs (addF 121 (sp121 k).fs (fun _=>none)))
def sp223 (k : Nat) : SP := .mk [.rd,.rd,.rd] (dL ti true (dL ti true (dL ti true dN))) oN fun (a0,a1,a2,_) _ C => C _ (qb2.f k a0 a1 a2) (fun x => .i .i64 x) fun x => []
def lv238 : Live := look ⟨[],[],[],[],[]⟩ [(4,⟨[1,2,21,22,23],[],[6],[],[]⟩)]
def g238 : FEnv := (fun _=>none)
def sp238 (k : Nat) : SP := .mk [.rd,.rd,.rd] (dL ti true (dL ti true (dL ti true dN))) oN fun (a0,a1,a2,_) _ C => C _ (qbH.f k a0 a1 a2) (fun x => .i .i64 x) fun x => []
def lv264 : Live := look ⟨[],[],[],[],[]⟩ []
def g264 : FEnv := (fun _=>none)
def sp264 : SP := .mk [.rd] (dI .i64 dN) oN fun (a0,_) _ C => C _ (qcD.f a0) (fun x => .b x) fun x => []
theorem lp11000 (S : Seals) (k : Nat) : (sp221 k).St tt (g221 k) lv221 Tryz.f221 k /\ (sp222 k).St tt (g222) lv222 Tryz.f222 k /\ (sp259 k).St tt (g259) lv259 Tryz.f259 k /\ (sp223 k).St tt (g223 k) lv223 Tryz.f223 k /\ (sp238 k).St tt (g238) lv238 Tryz.f238 k /\ sp264.St tt (g264) lv264 Tryz.f264 k := by
 refine cu_ (A := ∀ (n : Nat) {x0 x21 : LI} {x22 x23 : Int} {y0 : LI} {y1 : List Bool} {K : CK},S.lp tt (g222) lv222 0 n (loopN Tryz.f222 0) ⟨[(0,.dat ti x0 true),(6,.own 0),(7,.own 1),(21,.dat ti x21 true),(22,.i .i64 x22),(23,.i .i64 x23)],[(0,.row ti y0 false),(1,.row .bool y1 false)],2,54⟩ K = bindO (qbG.l0 n x0 x21 x22 x23 y0 y1) (Sum.elim (fun x : LI => K (.exit 0) ⟨[(6,.own 0)],[(0,.row ti x false)],1,54⟩) (fun x : Int => K .ret ⟨[(4,.nilsl),(5,.i .i64 x)],[],0,54⟩))) (fun w222_0=>?_) (ind_ ?_ ?_)
 refine cu_ (A := ∀ (n : Nat) {x1 x5 : Int} {x8 : LI} {x9 x10 : Int} {K : CK},S.lp tt (g259) lv259 0 n (loopN Tryz.f259 0) ⟨[(1,.i .i64 x1),(5,.i .i64 x5),(8,.dat ti x8 true),(9,.i .i64 x9),(10,.i .i64 x10)],[],0,24⟩ K = bindO (qa8.l0 n x1 x5 x8 x9 x10) (Sum.elim (fun x : Unit => K (.exit 0) ⟨[],[],0,24⟩) (fun x : Bool => K .ret ⟨[(4,.b x)],[],0,24⟩))) (fun w259_0=>?_) (ind_ ?_ ?_)
 refine cu_ (A := ∀ (n : Nat) {x0 x1 x24 : LI} {x25 x26 : Int} {K : CK},S.lp tt (g223 k) lv223 0 n (loopN Tryz.f223 0) ⟨[(0,.dat ti x0 true),(1,.dat ti x1 true),(24,.dat ti x24 true),(25,.i .i64 x25),(26,.i .i64 x26)],[],0,41⟩ K = bindO (qb2.l0 n x0 x1 x24 x25 x26) (Sum.elim (fun x : Unit => K (.exit 0) ⟨[],[],0,41⟩) (fun x : Int => K .ret ⟨[(6,.i .i64 x)],[],0,41⟩))) (fun w223_0=>?_) (ind_ ?_ ?_)
 refine cu_ (A := ∀ (n : Nat) {x1 x2 x21 : LI} {x22 x23 : Int} {K : CK},S.lp tt (g238) lv238 0 n (loopN Tryz.f238 0) ⟨[(1,.dat ti x1 true),(2,.dat ti x2 true),(21,.dat ti x21 true),(22,.i .i64 x22),(23,.i .i64 x23)],[],0,62⟩ K = bindO (qbH.l0 n x1 x2 x21 x22 x23) (Sum.elim (fun x : Unit => K (.exit 0) ⟨[],[],0,62⟩) (fun x : Int => K .ret ⟨[(6,.i .i64 x)],[],0,62⟩))) (fun w238_0=>?_) (ind_ ?_ ?_)
 and_intros
 all_goals first|(dsimp only [SP.St,sp221,sp222,sp259,sp223,sp238,sp264,dN,dL,dI,dS,dG,oN]; intros; (first|unfold qcO.f|unfold qbG.f|unfold qa8.f|unfold qb2.f|unfold qbH.f|unfold qcD.f); refine S.run_s rfl rfl ?_; (conv=>lhs;arg 5;whnf); conv=>lhs;arg 6;whnf)|(intros; rw [S.lp_zero]; exact qaR)|(intro n ih; intros; (first|rw [qbG.l0]|rw [qa8.l0]|rw [qb2.l0]|rw [qbH.l0]); refine S.lp_succ ?_; conv=>lhs;arg 5;whnf)
 all_goals as_aux_lemma=>repeat' first|(first|refine S.seq_op rfl ?_|refine S.op_n ?_|refine S.block_x ?_|refine qcw ?_|refine qcx ?_|refine br_t (by assumption) ?_|refine br_f (by assumption) ?_|refine qbd (by with_reducible assumption) ?_|refine qcz fun _=>?_|refine qcv (fun _=>?_) (fun _=>?_)|refine br_d (fun _=>?_) (fun _=>?_)|refine br_n (fun _=>?_) (fun _=>?_)|refine br_c (fun _=>?_) (fun _=>?_)|refine qcr fun _=>?_|refine qbd (by assumption) ?_)<;>(conv=>lhs;whnf)|refine S.seq_nil ?_|refine S.reg_n ?_|refine S.region rfl ?_|refine S.two ?_|refine S.blok ?_|refine S.cond rfl ?_|refine S.after_n ?_|refine S.block_n ?_|refine S.block_r ?_|refine S.after_x ?_|refine S.after_r ?_|refine S.skip ?_|refine S.exit ?_|refine S.ret ?_|refine qco (fun _=>?_) (fun _=>?_)|refine S.region_d (id := 3) (ds := [0,1,3,7,15,31,63,127,255,511,1023,2047,4095,8191,16383,32767,65535,131071,262143,524287,65535,1114111,3211263,8388607,16777215,33554431,67108863]) (mds := [[],[],[],[],[],[],[],[],[],[],[],[],[],[],[],[],[],[],[],[],[],[],[],[],[],[],[]]) (hm := []) (by kernel_rfl) (by kernel_rfl) rfl rfl ?_|exact ih|refine (w222_0 _).trans ?_|refine (w259_0 _).trans ?_|refine (w223_0 _).trans ?_|refine (w238_0 _).trans ?_|refine S.region_d (id := 8) (ds := [0,0,3,7,0,0,48,112,255]) (mds := [[],[],[],[],[],[],[],[],[]]) (hm := []) (by kernel_rfl) (by kernel_rfl) rfl rfl ?_|refine S.region_d (id := 6) (ds := [0,0,3,7,15,31,63,63,255,511,63,2047,4095,8191,16383,16383,65535,131071,262143,524287,1048575,2097151,2097151,8388607,16777215,2097151,2097151,2097151,203423743,471859199,1042284543,2147483647,4294967295]) (mds := [[],[],[],[],[],[],[],[],[],[],[],[],[],[],[],[],[],[],[],[],[],[],[],[],[],[],[],[],[],[],[],[],[]]) (hm := []) (by kernel_rfl) (by kernel_rfl) rfl rfl ?_|(first|refine S.loop ?_|refine S.back_n ?_|refine S.back_x ?_|refine S.back_r ?_|refine S.fin_r ?_|refine S.fin_n ?_|refine S.dk_n ?_|refine S.draw_nil ?_)<;>(conv=>lhs;whnf)|(refine S.draw_op ?_; conv => lhs; whnf; arg 1; whnf)|refine qbe ?_|refine qa2 ?_|refine qbO ?_|refine qaN ?_|exact qcq rfl|exact qaR
theorem snd221 (k : Nat) : Sound Tryz.prog 221 (sp221 k).fs := sn_ qal mixed Tryz.func221 (by kernel_rfl) rfl (qaa (snd121 k) (qac _)) (lp11000 seals k).1
theorem snd222 (k : Nat) : Sound Tryz.prog 222 (sp222 k).fs := sn_ qal mixed Tryz.func222 (by kernel_rfl) rfl (qac _) (lp11000 seals k).2.1
theorem snd259 (k : Nat) : Sound Tryz.prog 259 (sp259 k).fs := sn_ qal mixed Tryz.func259 (by kernel_rfl) rfl (qac _) (lp11000 seals k).2.2.1
theorem snd223 (k : Nat) : Sound Tryz.prog 223 (sp223 k).fs := sn_ qal mixed Tryz.func223 (by kernel_rfl) rfl (qaa (snd259 k) (qaa (snd121 k) (qac _))) (lp11000 seals k).2.2.2.1
theorem snd238 (k : Nat) : Sound Tryz.prog 238 (sp238 k).fs := sn_ qal mixed Tryz.func238 (by kernel_rfl) rfl (qac _) (lp11000 seals k).2.2.2.2.1
theorem snd264 : Sound Tryz.prog 264 sp264.fs := sn_ qal mixed Tryz.func264 (by kernel_rfl) rfl (qac _) (lp11000 seals 0).2.2.2.2.2
def lv240 : Live := look ⟨[],[],[],[],[]⟩ [(6,⟨[1,2,8,9,27,28,29],[9],[6,7],[],[]⟩),(1000000,⟨[],[],[],[(6,0,.own ti)],[]⟩)]
def g240 (k : Nat) : FEnv := (addF 121 (sp121 k).fs (addF 264 sp264.fs (fun _=>none)))
def sp240 (k : Nat) : SP := .mk [.rd,.rd,.rd] (dL ti true (dL ti true (dL ti true dN))) oN fun (a0,a1,a2,_) _ C => C _ (qbI.f k a0 a1 a2) (fun x => .tup [.own 0,.i .i64 x.1]) fun x => [.row ti x.2 false]
def lv224 : Live := look ⟨[],[],[],[],[]⟩ [(1000000,⟨[],[],[],[(4,0,.dat ti),(4,0,.fz ti)],[]⟩)]
def g224 (k : Nat) : FEnv := (addF 240 (sp240 k).fs (addF 238 (sp238 k).fs (fun _=>none)))
def sp224 (k : Nat) : SP := .mk [.st,.st] (dG (dI .i64 (dL ti false (dL ti false (dL ti false (dI .i64 (dI .i64 (dS dN))))))) (dL ti false dN)) oN fun ((a0_0,a0_1,a0_2,a0_3,a0_4,a0_5,a0_6,_),a1,_) _ C => C _ (qdW.f k a0_0 a0_1 a0_2 a0_3 a0_4 a0_5 a0_6 a1) (fun x => .tup [.dat ti x.1 false,.i .i64 x.2]) fun x => []
theorem lp11001 (S : Seals) (k : Nat) : (sp240 k).St tt (g240 k) lv240 Tryz.f240 k /\ (sp224 k).St tt (g224 k) lv224 Tryz.f224 k := by
 refine cu_ (A := ∀ (n : Nat) {x1 x2 x27 : LI} {x28 x29 : Int} {y0 : LI} {K : CK},S.lp tt (g240 k) lv240 0 n (loopN Tryz.f240 0) ⟨[(1,.dat ti x1 true),(2,.dat ti x2 true),(8,.fn 264 []),(9,.own 0),(27,.dat ti x27 true),(28,.i .i64 x28),(29,.i .i64 x29)],[(0,.row ti y0 false)],1,69⟩ K = bindO (qbI.l0 n x1 x2 x27 x28 x29 y0) (Sum.elim (fun x : LI => K (.exit 0) ⟨[(9,.own 0)],[(0,.row ti x false)],1,69⟩) (fun x : Int => K .ret ⟨[(6,.nilsl),(7,.i .i64 x)],[],0,69⟩))) (fun w240_0=>?_) (ind_ ?_ ?_)
 and_intros
 all_goals first|(dsimp only [SP.St,sp240,sp224,dN,dL,dI,dS,dG,oN]; intros; (first|unfold qbI.f|unfold qdW.f); refine S.run_s rfl rfl ?_; (conv=>lhs;arg 5;whnf); conv=>lhs;arg 6;whnf)|(intros; rw [S.lp_zero]; exact qaR)|(intro n ih; intros; rw [qbI.l0]; refine S.lp_succ ?_; conv=>lhs;arg 5;whnf)
 all_goals as_aux_lemma=>repeat' first|(first|refine S.seq_op rfl ?_|refine S.op_n ?_|refine S.block_x ?_|refine qcw ?_|refine qcx ?_|refine br_t (by assumption) ?_|refine br_f (by assumption) ?_|refine qbd (by with_reducible assumption) ?_|refine qcz fun _=>?_|refine qcv (fun _=>?_) (fun _=>?_)|refine br_d (fun _=>?_) (fun _=>?_)|refine br_n (fun _=>?_) (fun _=>?_)|refine br_c (fun _=>?_) (fun _=>?_)|refine qcr fun _=>?_|refine qbd (by assumption) ?_)<;>(conv=>lhs;whnf)|refine S.seq_nil ?_|refine S.reg_n ?_|refine S.region rfl ?_|refine S.two ?_|refine S.blok ?_|refine S.cond rfl ?_|refine S.after_n ?_|refine S.block_n ?_|refine S.block_r ?_|refine S.after_x ?_|refine S.after_r ?_|refine S.skip ?_|refine S.exit ?_|refine S.ret ?_|refine qco (fun _=>?_) (fun _=>?_)|refine S.region_d (id := 10) (ds := [0,0,0,0,12,28,0,124,0,0,768,1792,4092,8191,16383]) (mds := [[],[],[],[],[],[],[],[],[],[],[],[],[],[],[0]]) (hm := [(14,[0])]) (by kernel_rfl) (by kernel_rfl) rfl rfl ?_|exact ih|refine (w240_0 _).trans ?_|refine S.region_d (id := 3) (ds := [0,1,0,4,15,0,32,0,128,480,31,2047]) (mds := [[],[],[],[],[],[],[],[],[],[],[],[]]) (hm := []) (by kernel_rfl) (by kernel_rfl) rfl rfl ?_|(first|refine S.loop ?_|refine S.back_n ?_|refine S.back_x ?_|refine S.back_r ?_|refine S.fin_r ?_|refine S.fin_n ?_|refine S.dk_n ?_|refine S.draw_nil ?_)<;>(conv=>lhs;whnf)|(refine S.draw_op ?_; conv => lhs; whnf; arg 1; whnf)|refine qbe ?_|refine qa2 ?_|refine qbO ?_|refine qaN ?_|exact qcq rfl|exact qaR
theorem snd240 (k : Nat) : Sound Tryz.prog 240 (sp240 k).fs := sn_ qal mixed Tryz.func240 (by kernel_rfl) rfl (qaa (snd121 k) (qaa snd264 (qac _))) (lp11001 seals k).1
theorem snd224 (k : Nat) : Sound Tryz.prog 224 (sp224 k).fs := sn_ qal mixed Tryz.func224 (by kernel_rfl) rfl (qaa (snd240 k) (qaa (snd238 k) (qac _))) (lp11001 seals k).2
end
end Go.Vm
