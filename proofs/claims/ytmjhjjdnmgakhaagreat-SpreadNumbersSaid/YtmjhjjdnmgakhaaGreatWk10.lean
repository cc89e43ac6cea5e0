/- Own walks -/
import Derived.Test.YtmjhjjdnmgakhaaGreatWk0
import Derived.Test.YtmjhjjdnmgakhaaGreatVm2
set_option linter.unusedVariables false
set_option maxRecDepth 60000
set_option maxHeartbeats 40000000
namespace Go.Vm
open Go Go.Proofs Go.Pf
noncomputable section

def lv23 : Live := look ⟨[],[],[],[],[]⟩ [(4,⟨[0,1,5],[],[4],[],[]⟩)]
def g23 : FEnv := (fun _=>none)
def sp23 (k : Nat) : SP := .mk [.rd,.rd] (dL ti true (dL ti true dN)) oN fun (a0,a1,_) _ C => C _ (qao.f k a0 a1) (fun x => .b x) fun x => []
def lv107 : Live := look ⟨[],[],[],[],[]⟩ [(3,⟨[3,7],[3],[2],[(3,0,.own (.int .i32))],[]⟩)]
def g107 : FEnv := (fun _=>none)
def sp107 (k : Nat) : SP := .mk [.rd] (dS dN) oN fun (a0,_) _ C => C _ (qbn.f k a0) (fun x => .own 0) fun x => [.row (.int .i32) x false]
def lv186 : Live := look ⟨[],[],[],[],[]⟩ []
def g186 : FEnv := (fun _=>none)
def sp186 : SP := .mk [.rd] (dI .i32 dN) oN fun (a0,_) _ C => C _ (qew.f a0) (fun x => .b x) fun x => []
def lv156 : Live := look ⟨[],[],[],[],[]⟩ [(2,⟨[0,1,7,8],[],[4],[],[]⟩)]
def g156 : FEnv := (fun _=>none)
def sp156 (k : Nat) : SP := .mk [.rd,.rd] (dL (.int .i32) true (dI .i32 dN)) oN fun (a0,a1,_) _ C => C _ (qaO.f k a0 a1) (fun x => .i .i64 x) fun x => []
def lv187 : Live := look ⟨[],[],[],[],[]⟩ []
def g187 (k : Nat) : FEnv := (addF 156 (sp156 k).fs (fun _=>none))
def sp187 (k : Nat) : SP := .mk [.rd,.rd] (dL (.int .i32) true (dI .i32 dN)) oN fun (a0,a1,_) _ C => C _ (qbT.f k a0 a1) (fun x => .b x) fun x => []
def lv148 : Live := look ⟨[],[],[],[],[]⟩ [(5,⟨[5,18,19,20],[],[4],[],[]⟩)]
def g148 (k : Nat) : FEnv := (addF 187 (sp187 k).fs (addF 186 sp186.fs (addF 107 (sp107 k).fs (fun _=>none))))
def sp148 (k : Nat) : SP := .mk [.rd,.rd] (dS (dI .i64 dN)) oN fun (a0,a1,_) _ C => C _ (qbx.f k a0 a1) (fun x => .b x) fun x => []
def lv97 : Live := look ⟨[],[],[],[],[]⟩ [(5,⟨[1,3,11,12,13],[1,3],[2],[],[]⟩)]
def g97 (k : Nat) : FEnv := (addF 148 (sp148 k).fs (fun _=>none))
def sp97 (k : Nat) : SP := .mk [.rd] (dG (dL ti true (dS (dL (.pair ti (.pair (.sl ti) (.pair (.sl ti) (.pair (.sl ti) (.pair ti (.pair ti .str)))))) true (dL ti true dN)))) dN) oN fun ((a0_0,a0_1,a0_2,a0_3,_),_) _ C => C _ (qb0.f k a0_0 a0_1 a0_2 a0_3) (fun x => .b x) fun x => []
def lv219 : Live := look ⟨[],[],[],[],[]⟩ []
def g219 : FEnv := (fun _=>none)
def sp219 : SP := .mk [.rd] (dI .i64 dN) oN fun (a0,_) _ C => C _ (qdX.f a0) (fun x => .tup [.agg [.i .i64 x.1,.b x.2.1,.b x.2.2.1,.b x.2.2.2.1,.b x.2.2.2.2.1,.b x.2.2.2.2.2.1],.b x.2.2.2.2.2.2]) fun x => []
theorem lp10000 (S : Seals) (k : Nat) : (sp23 k).St tt (g23) lv23 Tryz.f23 k /\ (sp107 k).St tt (g107) lv107 Tryz.f107 k /\ sp186.St tt (g186) lv186 Tryz.f186 k /\ (sp156 k).St tt (g156) lv156 Tryz.f156 k /\ (sp187 k).St tt (g187 k) lv187 Tryz.f187 k /\ (sp148 k).St tt (g148 k) lv148 Tryz.f148 k /\ (sp97 k).St tt (g97 k) lv97 Tryz.f97 k /\ sp219.St tt (g219) lv219 Tryz.f219 k := by
 refine cu_ (A := ∀ (n : Nat) {x0 x1 : LI} {x5 : Int} {K : CK},S.lp tt (g23) lv23 0 n (loopN Tryz.f23 0) ⟨[(0,.dat ti x0 true),(1,.dat ti x1 true),(5,.i .i64 x5)],[],0,26⟩ K = bindO (qao.l0 n x0 x1 x5) (Sum.elim (fun x : Unit => K (.exit 0) ⟨[],[],0,26⟩) (fun x : Bool => K .ret ⟨[(4,.b x)],[],0,26⟩))) (fun w23_0=>?_) (ind_ ?_ ?_)
 refine cu_ (A := ∀ (n : Nat) {y0 : LI} {y1_0 : ByteArray} {y1_1 : Nat} {K : CK},S.lp tt (g107) lv107 0 n (loopN Tryz.f107 0) ⟨[(3,.own 0),(7,.ptr 1 0)],[(0,.row (.int .i32) y0 false),(1,.ext (.iter y1_0 y1_1))],2,16⟩ K = bindO (qbn.l0 n y0 y1_0 y1_1) (fun x : LI => K (.exit 0) ⟨[(3,.own 0)],[(0,.row (.int .i32) x false)],1,16⟩)) (fun w107_0=>?_) (ind_ ?_ ?_)
 refine cu_ (A := ∀ (n : Nat) {x0 : LI} {x1 x7 x8 : Int} {K : CK},S.lp tt (g156) lv156 0 n (loopN Tryz.f156 0) ⟨[(0,.dat (.int .i32) x0 true),(1,.i .i32 x1),(7,.i .i64 x7),(8,.i .i64 x8)],[],0,19⟩ K = bindO (qaO.l0 n x0 x1 x7 x8) (Sum.elim (fun x : Unit => K (.exit 0) ⟨[],[],0,19⟩) (fun x : Int => K .ret ⟨[(4,.i .i64 x)],[],0,19⟩))) (fun w156_0=>?_) (ind_ ?_ ?_)
 refine cu_ (A := ∀ (n : Nat) {x19 x20 : Int} {y0 : LI} {K : CK},S.lp tt (g148 k) lv148 0 n (loopN Tryz.f148 0) ⟨[(5,.own 0),(18,.own 0),(19,.i .i64 x19),(20,.i .i64 x20)],[(0,.row (.int .i32) y0 false)],1,36⟩ K = bindO (qbx.l0 k n x19 x20 y0) (Sum.elim (fun x : Unit => K (.exit 0) ⟨[],[],0,36⟩) (fun x : Bool => K .ret ⟨[(4,.b x)],[],0,36⟩))) (fun w148_0=>?_) (ind_ ?_ ?_)
 refine cu_ (A := ∀ (n : Nat) {x3 : Int} {x11 : LI} {x12 x13 : Int} {y0_0 : LI} {y0_1 : ByteArray} {y0_2 : List LN} {y0_3 : LI} {K : CK},S.lp tt (g97 k) lv97 0 n (loopN Tryz.f97 0) ⟨[(1,.ptr 0 0),(3,.i .i64 x3),(11,.dat ti x11 true),(12,.i .i64 x12),(13,.i .i64 x13)],[(0,.var 25 [.dat ti y0_0 true,.s y0_1,.dat (.pair ti (.pair (.sl ti) (.pair (.sl ti) (.pair (.sl ti) (.pair ti (.pair ti .str)))))) y0_2 true,.dat ti y0_3 true])],1,37⟩ K = bindO (qb0.l0 n x3 x11 x12 x13 y0_0 y0_1 y0_2 y0_3) (Sum.elim (fun x : Int => K (.exit 0) ⟨[(1,.ptr 0 0),(3,.i .i64 x)],[(0,.var 25 [.dat ti y0_0 true,.s y0_1,.dat (.pair ti (.pair (.sl ti) (.pair (.sl ti) (.pair (.sl ti) (.pair ti (.pair ti .str)))))) y0_2 true,.dat ti y0_3 true])],1,37⟩) (fun x : Bool => K .ret ⟨[(2,.b x)],[],0,37⟩))) (fun w97_0=>?_) (ind_ ?_ ?_)
 and_intros
 all_goals first|(dsimp only [SP.St,sp23,sp107,sp186,sp156,sp187,sp148,sp97,sp219,dN,dL,dI,dS,dG,oN]; intros; (first|unfold qao.f|unfold qbn.f|unfold qew.f|unfold qaO.f|unfold qbT.f|unfold qbx.f|unfold qb0.f|unfold qdX.f); refine S.run_s rfl rfl ?_; (conv=>lhs;arg 5;whnf); conv=>lhs;arg 6;whnf)|(intros; rw [S.lp_zero]; exact qaR)|(intro n ih; intros; (first|rw [qao.l0]|rw [qbn.l0]|rw [qaO.l0]|rw [qbx.l0]|rw [qb0.l0]); refine S.lp_succ ?_; conv=>lhs;arg 5;whnf)
 all_goals as_aux_lemma=>repeat' first|(first|refine S.seq_op rfl ?_|refine S.op_n ?_|refine S.block_x ?_|refine qcw ?_|refine qcx ?_|refine br_t (by assumption) ?_|refine br_f (by assumption) ?_|refine qbd (by with_reducible assumption) ?_|refine qcz fun _=>?_|refine qcv (fun _=>?_) (fun _=>?_)|refine br_d (fun _=>?_) (fun _=>?_)|refine br_n (fun _=>?_) (fun _=>?_)|refine br_c (fun _=>?_) (fun _=>?_)|refine qcr fun _=>?_|refine qbd (by assumption) ?_)<;>(conv=>lhs;whnf)|refine S.seq_nil ?_|refine S.reg_n ?_|refine S.region rfl ?_|refine S.two ?_|refine S.blok ?_|refine S.cond rfl ?_|refine S.after_n ?_|refine S.block_n ?_|refine S.block_r ?_|refine S.after_x ?_|refine S.after_r ?_|refine S.skip ?_|refine S.exit ?_|refine S.ret ?_|refine qco (fun _=>?_) (fun _=>?_)|refine S.region_d (id := 6) (ds := [0,0,3,7,0,0,48,112,255]) (mds := [[],[],[],[],[],[],[],[],[]]) (hm := []) (by kernel_rfl) (by kernel_rfl) rfl rfl ?_|exact ih|refine (w23_0 _).trans ?_|refine (w107_0 _).trans ?_|refine (w156_0 _).trans ?_|refine (w148_0 _).trans ?_|refine (w97_0 _).trans ?_|(first|refine S.loop ?_|refine S.back_n ?_|refine S.back_x ?_|refine S.back_r ?_|refine S.fin_r ?_|refine S.fin_n ?_|refine S.dk_n ?_|refine S.draw_nil ?_)<;>(conv=>lhs;whnf)|(refine S.draw_op ?_; conv => lhs; whnf; arg 1; whnf)|refine qbe ?_|refine qa2 ?_|refine qbO ?_|refine qaN ?_|exact qcq rfl|exact qaR
theorem snd23 (k : Nat) : Sound Tryz.prog 23 (sp23 k).fs := sn_ qal mixed Tryz.func23 (by kernel_rfl) rfl (qac _) (lp10000 seals k).1
theorem snd107 (k : Nat) : Sound Tryz.prog 107 (sp107 k).fs := sn_ qal mixed Tryz.func107 (by kernel_rfl) rfl (qac _) (lp10000 seals k).2.1
theorem snd186 : Sound Tryz.prog 186 sp186.fs := sn_ qal mixed Tryz.func186 (by kernel_rfl) rfl (qac _) (lp10000 seals 0).2.2.1
theorem snd156 (k : Nat) : Sound Tryz.prog 156 (sp156 k).fs := sn_ qal mixed Tryz.func156 (by kernel_rfl) rfl (qac _) (lp10000 seals k).2.2.2.1
theorem snd187 (k : Nat) : Sound Tryz.prog 187 (sp187 k).fs := sn_ qal mixed Tryz.func187 (by kernel_rfl) rfl (qaa (snd156 k) (qac _)) (lp10000 seals k).2.2.2.2.1
theorem snd148 (k : Nat) : Sound Tryz.prog 148 (sp148 k).fs := sn_ qal mixed Tryz.func148 (by kernel_rfl) rfl (qaa (snd187 k) (qaa snd186 (qaa (snd107 k) (qac _)))) (lp10000 seals k).2.2.2.2.2.1
theorem snd97 (k : Nat) : Sound Tryz.prog 97 (sp97 k).fs := sn_ qal mixed Tryz.func97 (by kernel_rfl) rfl (qaa (snd148 k) (qac _)) (lp10000 seals k).2.2.2.2.2.2.1
theorem snd219 : Sound Tryz.prog 219 sp219.fs := sn_ qal mixed Tryz.func219 (by kernel_rfl) rfl (qac _) (lp10000 seals 0).2.2.2.2.2.2.2
def lv188 : Live := look ⟨[],[],[],[],[]⟩ []
def g188 : FEnv := (addF 219 sp219.fs (fun _=>none))
def sp188 : SP := .mk [.rd,.rd] (dG (dI .i64 (dL ti true (dL ti true (dL ti true (dI .i64 (dI .i64 (dS dN))))))) (dI .i64 dN)) oN fun ((a0_0,a0_1,a0_2,a0_3,a0_4,a0_5,a0_6,_),a1,_) _ C => C _ (qdx.f a0_0 a0_1 a0_2 a0_3 a0_4 a0_5 a0_6 a1) (fun x => .b x) fun x => []
def lv121 : Live := look ⟨[],[],[],[],[]⟩ [(5,⟨[3,9,10,11],[3],[2],[],[]⟩)]
def g121 : FEnv := (fun _=>none)
def sp121 (k : Nat) : SP := .mk [.rd] (dL ti true dN) oN fun (a0,_) _ C => C _ (qaW.f k a0) (fun x => .b x) fun x => []
def lv190 : Live := look ⟨[],[],[],[],[]⟩ []
def g190 (k : Nat) : FEnv := (addF 121 (sp121 k).fs (fun _=>none))
def sp190 (k : Nat) : SP := .mk [.rd] (dL ti true dN) oN fun (a0,_) _ C => C _ (qdl.f k a0) (fun x => .b x) fun x => []
def qne : Live := look ⟨[],[],[],[],[]⟩ [(2,⟨[0,1,7,8],[],[4],[],[]⟩)]
def qoJ (k : Nat) : FEnv := (addF 190 (sp190 k).fs (fun _=>none))
def qiL (k : Nat) : SP := .mk [.rd,.rd] (dL (.sl ti) true (dF 190 cN dN)) oN fun (a0,_,_) _ C => C _ (qai.f k a0) (fun x => .i .i64 x) fun x => []
def qpc : Live := look ⟨[],[],[],[],[]⟩ []
def qpN (k : Nat) : FEnv := (addF 220 (qiL k).fs (fun _=>none))
def qiN (k : Nat) : SP := .mk [.rd,.rd] (dL (.sl ti) true (dF 190 cN dN)) oN fun (a0,_,_) _ C => C _ (qaI.f k a0) (fun x => .b x) fun x => []
theorem lp10001 (S : Seals) (k : Nat) : sp188.St tt (g188) lv188 Tryz.f188 k /\ (sp121 k).St tt (g121) lv121 Tryz.f121 k /\ (sp190 k).St tt (g190 k) lv190 Tryz.f190 k /\ (qiL k).St tt (qoJ k) qne Tryz.f220 k /\ (qiN k).St tt (qpN k) qpc Tryz.f189 k := by
 refine cu_ (A := ∀ (n : Nat) {x3 : Int} {x9 : LI} {x10 x11 : Int} {K : CK},S.lp tt (g121) lv121 0 n (loopN Tryz.f121 0) ⟨[(3,.i .i64 x3),(9,.dat ti x9 true),(10,.i .i64 x10),(11,.i .i64 x11)],[],0,27⟩ K = bindO (qaW.l0 n x3 x9 x10 x11) (Sum.elim (fun x : Int => K (.exit 0) ⟨[(3,.i .i64 x)],[],0,27⟩) (fun x : Bool => K .ret ⟨[(2,.b x)],[],0,27⟩))) (fun w121_0=>?_) (ind_ ?_ ?_)
 refine cu_ (A := ∀ (n : Nat) {x0 : List LI} {x7 x8 : Int} {K : CK},S.lp tt (qoJ k) qne 0 n (loopN Tryz.f220 0) ⟨[(0,.dat (.sl ti) x0 true),(1,.fn 190 []),(7,.i .i64 x7),(8,.i .i64 x8)],[],0,19⟩ K = bindO (qai.l0 k n x0 x7 x8) (Sum.elim (fun x : Unit => K (.exit 0) ⟨[],[],0,19⟩) (fun x : Int => K .ret ⟨[(4,.i .i64 x)],[],0,19⟩))) (fun w220_1_0=>?_) (ind_ ?_ ?_)
 and_intros
 all_goals first|(dsimp only [SP.St,sp188,sp121,sp190,qiL,qiN,dN,dL,dI,dS,dG,dF,cN,oN]; intros; (first|unfold qdx.f|unfold qaW.f|unfold qdl.f|unfold qai.f|unfold qaI.f); refine S.run_s rfl rfl ?_; (conv=>lhs;arg 5;whnf); conv=>lhs;arg 6;whnf)|(intros; rw [S.lp_zero]; exact qaR)|(intro n ih; intros; (first|rw [qaW.l0]|rw [qai.l0]); refine S.lp_succ ?_; conv=>lhs;arg 5;whnf)
 all_goals as_aux_lemma=>repeat' first|(first|refine S.seq_op rfl ?_|refine S.op_n ?_|refine S.block_x ?_|refine qcw ?_|refine qcx ?_|refine br_t (by assumption) ?_|refine br_f (by assumption) ?_|refine qbd (by with_reducible assumption) ?_|refine qcz fun _=>?_|refine qcv (fun _=>?_) (fun _=>?_)|refine br_d (fun _=>?_) (fun _=>?_)|refine br_n (fun _=>?_) (fun _=>?_)|refine br_c (fun _=>?_) (fun _=>?_)|refine qcr fun _=>?_|refine qbd (by assumption) ?_)<;>(conv=>lhs;whnf)|refine S.seq_nil ?_|refine S.reg_n ?_|refine S.region rfl ?_|refine S.two ?_|refine S.blok ?_|refine S.cond rfl ?_|refine S.after_n ?_|refine S.block_n ?_|refine S.block_r ?_|refine S.after_x ?_|refine S.after_r ?_|refine S.skip ?_|refine S.exit ?_|refine S.ret ?_|refine qco (fun _=>?_) (fun _=>?_)|exact ih|refine (w121_0 _).trans ?_|refine (w220_1_0 _).trans ?_|(first|refine S.loop ?_|refine S.back_n ?_|refine S.back_x ?_|refine S.back_r ?_|refine S.fin_r ?_|refine S.fin_n ?_|refine S.dk_n ?_|refine S.draw_nil ?_)<;>(conv=>lhs;whnf)|(refine S.draw_op ?_; conv => lhs; whnf; arg 1; whnf)|refine qbe ?_|refine qa2 ?_|refine qbO ?_|refine qaN ?_|exact qcq rfl|exact qaR
theorem snd188 : Sound Tryz.prog 188 sp188.fs := sn_ qal mixed Tryz.func188 (by kernel_rfl) rfl (qaa snd219 (qac _)) (lp10001 seals 0).1
theorem snd121 (k : Nat) : Sound Tryz.prog 121 (sp121 k).fs := sn_ qal mixed Tryz.func121 (by kernel_rfl) rfl (qac _) (lp10001 seals k).2.1
theorem snd190 (k : Nat) : Sound Tryz.prog 190 (sp190 k).fs := sn_ qal mixed Tryz.func190 (by kernel_rfl) rfl (qaa (snd121 k) (qac _)) (lp10001 seals k).2.2.1
theorem qnT (k : Nat) : Sound Tryz.prog 220 (qiL k).fs := sn_ qal mixed Tryz.func220 (by kernel_rfl) rfl (qaa (snd190 k) (qac _)) (lp10001 seals k).2.2.2.1
theorem qnV (k : Nat) : Sound Tryz.prog 189 (qiN k).fs := sn_ qal mixed Tryz.func189 (by kernel_rfl) rfl (qaa (qnT k) (qac _)) (lp10001 seals k).2.2.2.2
end
end Go.Vm
