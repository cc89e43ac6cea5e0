/- Own walks -/
import Derived.Test.YtmjhjjdnmgakhaaGreatWk0
import Derived.Test.YtmjhjjdnmgakhaaGreatWk10
import Derived.Test.YtmjhjjdnmgakhaaGreatWk9
import Derived.Test.YtmjhjjdnmgakhaaGreatWk11
import Derived.Test.YtmjhjjdnmgakhaaGreatVm2
set_option linter.unusedVariables false
set_option maxRecDepth 60000
set_option maxHeartbeats 40000000
namespace Go.Vm
open Go Go.Proofs Go.Pf
noncomputable section

def lv225 : Live := look ⟨[],[],[],[],[]⟩ [(6,⟨[0,6,33,34,35],[6],[4,5],[],[]⟩),(11,⟨[0,6,8,33,34,35,44,45,46],[0,6,8,33,34,35],[4,5],[],[]⟩),(1000000,⟨[],[],[],[(4,0,.own ti)],[]⟩)]
def g225 (k : Nat) : FEnv := (addF 121 (sp121 k).fs (addF 52 sp52 (fun _=>none)))
def sp225 (k : Nat) : SP := .mk [.rd,.rd] (dI .i64 (dL (.sl ti) true dN)) oN fun (a0,a1,_) _ C => C _ (qaY.f k a0 a1) (fun x => .tup [.own 0,.i .i64 x.1]) fun x => [.row ti x.2 false]
def lv234 : Live := look ⟨[],[],[],[],[]⟩ []
def g234 (k : Nat) : FEnv := (addF 54 (sp54 k).fs (fun _=>none))
def sp234 (k : Nat) : SP := .mk [.rd,.rd] (dL ti true (dL ti true dN)) oN fun (a0,a1,_) _ C => C _ (qdm.f k a0 a1) (fun x => .b x) fun x => []
def lv268 : Live := look ⟨[],[],[],[],[]⟩ [(1000000,⟨[],[],[],[(4,0,.own ti),(4,0,.trim)],[]⟩)]
def g268 : FEnv := (fun _=>none)
def sp268 : SP := .mk [.kp,.kp] (dZ (dI .i64 dN)) oN fun (a1,_) _ C => C _ (qcp.f a1) (fun x => .own 0) fun x => [.row ti x false]
def lv260 : Live := look ⟨[],[],[],[],[]⟩ [(3,⟨[0,3,9,10,11],[0,3],[2],[],[]⟩),(11,⟨[6,25,26,27],[6],[2],[],[]⟩)]
def g260 : FEnv := (addF 268 sp268.fs (fun _=>none))
def sp260 (k : Nat) : SP := .mk [.rd] (dL (.sl ti) true dN) oN fun (a0,_) _ C => C _ (qap.f k a0) (fun x => .own 0) fun x => [.row ti x false]
def lv226 : Live := look ⟨[],[],[],[],[]⟩ [(1000000,⟨[],[],[],[(6,0,.own ti)],[]⟩)]
def g226 (k : Nat) : FEnv := (addF 260 (sp260 k).fs (addF 234 (sp234 k).fs (addF 121 (sp121 k).fs (fun _=>none))))
def sp226 (k : Nat) : SP := .mk [.st,.st,.st] (dL ti false (dL ti false (dI .i64 dN))) oN fun (a0,a1,a2,_) _ C => C _ (qeG.f k a0 a1 a2) (fun x => .tup [.own 0,.i .i64 x.1]) fun x => [.row ti x.2 false]
def lv244 : Live := look ⟨[],[],[],[],[]⟩ []
def g244 : FEnv := (fun _=>none)
def sp244 : SP := .mk [.rd] (dI .i64 dN) oN fun (a0,_) _ C => C _ (qdo.f a0) (fun x => .b x) fun x => []
def lv245 : Live := look ⟨[],[],[],[],[]⟩ [(5,⟨[1,6,14,15,16],[6],[4,5],[(6,0,.own ti)],[]⟩),(1000000,⟨[],[],[],[(4,0,.own ti)],[]⟩)]
def g245 (k : Nat) : FEnv := (addF 259 (sp259 k).fs (fun _=>none))
def sp245 (k : Nat) : SP := .mk [.rd,.rd] (dL ti true (dL ti true dN)) oN fun (a0,a1,_) _ C => C _ (qbN.f k a0 a1) (fun x => .tup [.own 0,.i .i64 x.1]) fun x => [.row ti x.2 false]
theorem lp12000 (S : Seals) (k : Nat) : (sp225 k).St tt (g225 k) lv225 Tryz.f225 k /\ (sp234 k).St tt (g234 k) lv234 Tryz.f234 k /\ sp268.St tt (g268) lv268 Tryz.f268 k /\ (sp260 k).St tt (g260) lv260 Tryz.f260 k /\ (sp226 k).St tt (g226 k) lv226 Tryz.f226 k /\ sp244.St tt (g244) lv244 Tryz.f244 k /\ (sp245 k).St tt (g245 k) lv245 Tryz.f245 k := by
 refine cu_ (A := ∀ (n : Nat) {x0 : Int} {x8 : LI} {x33 : List LI} {x34 x35 : Int} {x44 : LI} {x45 x46 : Int} {y0 : LI} {K : CK},S.lp tt (g225 k) lv225 0 n (loopN Tryz.f225 1) ⟨[(0,.i .i64 x0),(6,.own 0),(8,.dat ti x8 false),(33,.dat (.sl ti) x33 true),(34,.i .i64 x34),(35,.i .i64 x35),(44,.dat ti x44 false),(45,.i .i64 x45),(46,.i .i64 x46)],[(0,.row ti y0 false)],1,83⟩ K = bindO (qaY.l1 n x0 x8 x33 x34 x35 x44 x45 x46 y0) (Sum.elim (fun x : Unit => K (.exit 2) ⟨[(0,.i .i64 x0),(6,.own 0),(8,.dat ti x8 false),(33,.dat (.sl ti) x33 true),(34,.i .i64 x34),(35,.i .i64 x35)],[(0,.row ti y0 false)],1,83⟩) (fun x : Int => K .ret ⟨[(4,.nilsl),(5,.i .i64 x)],[],0,83⟩))) (fun w225_1=>?_) (ind_ ?_ ?_)
 refine cu_ (A := ∀ (n : Nat) {x0 : Int} {x33 : List LI} {x34 x35 : Int} {y0 : LI} {K : CK},S.lp tt (g225 k) lv225 0 n (loopN Tryz.f225 0) ⟨[(0,.i .i64 x0),(6,.own 0),(33,.dat (.sl ti) x33 true),(34,.i .i64 x34),(35,.i .i64 x35)],[(0,.row ti y0 false)],1,83⟩ K = bindO (qaY.l0 k n x0 x33 x34 x35 y0) (Sum.elim (fun x : LI => K (.exit 0) ⟨[(6,.own 0)],[(0,.row ti x false)],1,83⟩) (fun x : Int => K .ret ⟨[(4,.nilsl),(5,.i .i64 x)],[],0,83⟩))) (fun w225_0=>?_) (ind_ ?_ ?_)
 refine cu_ (A := ∀ (n : Nat) {x0 : List LI} {x3 : Int} {x9 : List LI} {x10 x11 : Int} {K : CK},S.lp tt (g260) lv260 0 n (loopN Tryz.f260 0) ⟨[(0,.dat (.sl ti) x0 true),(3,.i .i64 x3),(9,.dat (.sl ti) x9 true),(10,.i .i64 x10),(11,.i .i64 x11)],[],0,36⟩ K = bindO (qap.l0 n x0 x3 x9 x10 x11) (fun x : Int => K (.exit 0) ⟨[(0,.dat (.sl ti) x0 true),(3,.i .i64 x)],[],0,36⟩)) (fun w260_0=>?_) (ind_ ?_ ?_)
 refine cu_ (A := ∀ (n : Nat) {x25 : List LI} {x26 x27 : Int} {y0 : LI} {K : CK},S.lp tt (g260) lv260 0 n (loopN Tryz.f260 1) ⟨[(6,.own 0),(25,.dat (.sl ti) x25 true),(26,.i .i64 x26),(27,.i .i64 x27)],[(0,.row ti y0 false)],1,36⟩ K = bindO (qap.l1 n x25 x26 x27 y0) (fun x : LI => K (.exit 2) ⟨[(6,.own 0)],[(0,.row ti x false)],1,36⟩)) (fun w260_1=>?_) (ind_ ?_ ?_)
 refine cu_ (A := ∀ (n : Nat) {x1 x14 : LI} {x15 x16 : Int} {y0 : LI} {K : CK},S.lp tt (g245 k) lv245 0 n (loopN Tryz.f245 0) ⟨[(1,.dat ti x1 true),(6,.own 0),(14,.dat ti x14 true),(15,.i .i64 x15),(16,.i .i64 x16)],[(0,.row ti y0 false)],1,39⟩ K = bindO (qbN.l0 n x1 x14 x15 x16 y0) (fun x : LI => K (.exit 0) ⟨[(6,.own 0)],[(0,.row ti x false)],1,39⟩)) (fun w245_0=>?_) (ind_ ?_ ?_)
 and_intros
 all_goals first|(dsimp only [SP.St,sp225,sp234,sp268,sp260,sp226,sp244,sp245,dN,dL,dI,dZ,oN]; intros; (first|unfold qaY.f|unfold qdm.f|unfold qcp.f|unfold qap.f|unfold qeG.f|unfold qdo.f|unfold qbN.f); refine S.run_s rfl rfl ?_; (conv=>lhs;arg 5;whnf); conv=>lhs;arg 6;whnf)|(intros; rw [S.lp_zero]; exact qaR)|(intro n ih; intros; (first|rw [qaY.l1]|rw [qaY.l0]|rw [qap.l0]|rw [qap.l1]|rw [qbN.l0]); refine S.lp_succ ?_; conv=>lhs;arg 5;whnf)
 all_goals as_aux_lemma=>repeat' first|(first|refine S.seq_op rfl ?_|refine S.op_n ?_|refine S.block_x ?_|refine qcw ?_|refine qcx ?_|refine br_t (by assumption) ?_|refine br_f (by assumption) ?_|refine qbd (by with_reducible assumption) ?_|refine qcz fun _=>?_|refine qcv (fun _=>?_) (fun _=>?_)|refine br_d (fun _=>?_) (fun _=>?_)|refine br_n (fun _=>?_) (fun _=>?_)|refine br_c (fun _=>?_) (fun _=>?_)|refine qcr fun _=>?_|refine qbd (by assumption) ?_)<;>(conv=>lhs;whnf)|refine S.seq_nil ?_|refine S.reg_n ?_|refine S.region rfl ?_|refine S.two ?_|refine S.blok ?_|refine S.cond rfl ?_|refine S.after_n ?_|refine S.block_n ?_|refine S.block_r ?_|refine S.after_x ?_|refine S.after_r ?_|refine S.skip ?_|refine S.exit ?_|refine S.ret ?_|refine qco (fun _=>?_) (fun _=>?_)|exact ih|refine (w225_1 _).trans ?_|refine (w225_0 _).trans ?_|refine (w260_0 _).trans ?_|refine (w260_1 _).trans ?_|refine (w245_0 _).trans ?_|refine S.region_d (id := 16) (ds := [0,0,3,7,0,0,48,112,255,511,1023]) (mds := [[],[],[],[],[],[],[],[],[],[],[0]]) (hm := [(10,[0])]) (by kernel_rfl) (by kernel_rfl) rfl rfl ?_|refine S.region_d (id := 3) (ds := [0,1,3,7,15,31,63,127,255,511,511,2047,511,511,12799,32767,65535,131071,262143,524287,524287,1572863,3670015,8388607,16777215,524287,524287,101187583,235405311,536870911,1073741823,2147483647]) (mds := [[],[],[],[],[],[],[],[],[],[],[],[],[],[],[],[],[],[],[],[],[],[],[],[],[],[],[],[],[],[],[],[]]) (hm := []) (by kernel_rfl) (by kernel_rfl) rfl rfl ?_|refine S.region_d (id := 5) (ds := [0,0,2,6,15,0,0,64,224,511,1023,2047]) (mds := [[],[],[],[],[],[],[],[],[],[],[],[]]) (hm := []) (by kernel_rfl) (by kernel_rfl) rfl rfl ?_|(first|refine S.loop ?_|refine S.back_n ?_|refine S.back_x ?_|refine S.back_r ?_|refine S.fin_r ?_|refine S.fin_n ?_|refine S.dk_n ?_|refine S.draw_nil ?_)<;>(conv=>lhs;whnf)|(refine S.draw_op ?_; conv => lhs; whnf; arg 1; whnf)|refine qbe ?_|refine qa2 ?_|refine qbO ?_|refine qaN ?_|exact qcq rfl|exact qaR
theorem snd225 (k : Nat) : Sound Tryz.prog 225 (sp225 k).fs := sn_ qal mixed Tryz.func225 (by kernel_rfl) rfl (qaa (snd121 k) (qaa snd52 (qac _))) (lp12000 seals k).1
theorem snd234 (k : Nat) : Sound Tryz.prog 234 (sp234 k).fs := sn_ qal mixed Tryz.func234 (by kernel_rfl) rfl (qaa (snd54 k) (qac _)) (lp12000 seals k).2.1
theorem snd268 : Sound Tryz.prog 268 sp268.fs := sn_ qal mixed Tryz.func268 (by kernel_rfl) rfl (qac _) (lp12000 seals 0).2.2.1
theorem snd260 (k : Nat) : Sound Tryz.prog 260 (sp260 k).fs := sn_ qal mixed Tryz.func260 (by kernel_rfl) rfl (qaa snd268 (qac _)) (lp12000 seals k).2.2.2.1
theorem snd226 (k : Nat) : Sound Tryz.prog 226 (sp226 k).fs := sn_ qal mixed Tryz.func226 (by kernel_rfl) rfl (qaa (snd260 k) (qaa (snd234 k) (qaa (snd121 k) (qac _)))) (lp12000 seals k).2.2.2.2.1
theorem snd244 : Sound Tryz.prog 244 sp244.fs := sn_ qal mixed Tryz.func244 (by kernel_rfl) rfl (qac _) (lp12000 seals 0).2.2.2.2.2.1
theorem snd245 (k : Nat) : Sound Tryz.prog 245 (sp245 k).fs := sn_ qal mixed Tryz.func245 (by kernel_rfl) rfl (qaa (snd259 k) (qac _)) (lp12000 seals k).2.2.2.2.2.2
def lv227 : Live := look ⟨[],[],[],[],[]⟩ [(1000000,⟨[],[],[],[(4,0,.own ti)],[]⟩)]
def g227 (k : Nat) : FEnv := (addF 121 (sp121 k).fs (addF 245 (sp245 k).fs (addF 244 sp244.fs (fun _=>none))))
def sp227 (k : Nat) : SP := .mk [.rd,.rd] (dG (dI .i64 (dL ti true (dL ti true (dL ti true (dI .i64 (dI .i64 (dS dN))))))) (dL ti true dN)) oN fun ((a0_0,a0_1,a0_2,a0_3,a0_4,a0_5,a0_6,_),a1,_) _ C => C _ (qdH.f k a0_0 a0_1 a0_2 a0_3 a0_4 a0_5 a0_6 a1) (fun x => .tup [.own 0,.i .i64 x.1]) fun x => [.row ti x.2 false]
def lv266 : Live := look ⟨[],[],[],[],[]⟩ []
def g266 : FEnv := (fun _=>none)
def sp266 : SP := .mk [.rd] (dI .i64 dN) oN fun (a0,_) _ C => C _ (qcT.f a0) (fun x => .b x) fun x => []
def lv251 : Live := look ⟨[],[],[],[],[]⟩ []
def g251 : FEnv := (addF 266 sp266.fs (addF 244 sp244.fs (fun _=>none)))
def sp251 : SP := .mk [.rd,.rd,.rd] (dI .i64 (dI .i64 (dI .i64 dN))) oN fun (a0,a1,a2,_) _ C => C _ (qdO.f a0 a1 a2) (fun x => .b x) fun x => []
def lv252 : Live := look ⟨[],[],[],[],[]⟩ []
def g252 : FEnv := (fun _=>none)
def sp252 : SP := .mk [.rd,.rd,.rd] (dI .i64 (dI .i64 (dI .i64 dN))) oN fun (a0,a1,a2,_) _ C => C _ (qdN.f a0 a1 a2) (fun x => .i .i64 x) fun x => []
theorem lp12001 (S : Seals) (k : Nat) : (sp227 k).St tt (g227 k) lv227 Tryz.f227 k /\ sp266.St tt (g266) lv266 Tryz.f266 k /\ sp251.St tt (g251) lv251 Tryz.f251 k /\ sp252.St tt (g252) lv252 Tryz.f252 k := by
 and_intros
 all_goals (dsimp only [SP.St,sp227,sp266,sp251,sp252,dN,dL,dI,dS,dG,oN]; intros; (first|unfold qdH.f|unfold qcT.f|unfold qdO.f|unfold qdN.f); refine S.run_s rfl rfl ?_; (conv=>lhs;arg 5;whnf); conv=>lhs;arg 6;whnf)
 all_goals as_aux_lemma=>repeat' first|(first|refine S.seq_op rfl ?_|refine S.op_n ?_|refine S.block_x ?_|refine qcw ?_|refine qcx ?_|refine br_t (by assumption) ?_|refine br_f (by assumption) ?_|refine qbd (by with_reducible assumption) ?_|refine qcz fun _=>?_|refine qcv (fun _=>?_) (fun _=>?_)|refine br_d (fun _=>?_) (fun _=>?_)|refine br_n (fun _=>?_) (fun _=>?_)|refine br_c (fun _=>?_) (fun _=>?_)|refine qcr fun _=>?_|refine qbd (by assumption) ?_)<;>(conv=>lhs;whnf)|refine S.seq_nil ?_|refine S.reg_n ?_|refine S.region rfl ?_|refine S.two ?_|refine S.blok ?_|refine S.cond rfl ?_|refine S.after_n ?_|refine S.block_n ?_|refine S.block_r ?_|refine S.after_x ?_|refine S.after_r ?_|refine S.skip ?_|refine S.exit ?_|refine S.ret ?_|refine qco (fun _=>?_) (fun _=>?_)|(first|refine S.loop ?_|refine S.back_n ?_|refine S.back_x ?_|refine S.back_r ?_|refine S.fin_r ?_|refine S.fin_n ?_|refine S.dk_n ?_|refine S.draw_nil ?_)<;>(conv=>lhs;whnf)|(refine S.draw_op ?_; conv => lhs; whnf; arg 1; whnf)|refine qbe ?_|refine qa2 ?_|refine qbO ?_|refine qaN ?_|exact qcq rfl|exact qaR
theorem snd227 (k : Nat) : Sound Tryz.prog 227 (sp227 k).fs := sn_ qal mixed Tryz.func227 (by kernel_rfl) rfl (qaa (snd121 k) (qaa (snd245 k) (qaa snd244 (qac _)))) (lp12001 seals k).1
theorem snd266 : Sound Tryz.prog 266 sp266.fs := sn_ qal mixed Tryz.func266 (by kernel_rfl) rfl (qac _) (lp12001 seals 0).2.1
theorem snd251 : Sound Tryz.prog 251 sp251.fs := sn_ qal mixed Tryz.func251 (by kernel_rfl) rfl (qaa snd266 (qaa snd244 (qac _))) (lp12001 seals 0).2.2.1
theorem snd252 : Sound Tryz.prog 252 sp252.fs := sn_ qal mixed Tryz.func252 (by kernel_rfl) rfl (qac _) (lp12001 seals 0).2.2.2
end
end Go.Vm
