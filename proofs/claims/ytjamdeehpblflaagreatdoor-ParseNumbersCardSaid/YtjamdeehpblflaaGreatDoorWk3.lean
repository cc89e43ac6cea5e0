/- Own texts put together: the walks -/
import Derived.Test.YtjamdeehpblflaaGreatDoorWk0
import Derived.Test.YtjamdeehpblflaaGreatDoorWk1
import Derived.Test.YtjamdeehpblflaaGreatDoorWk2
import Derived.Test.YtjamdeehpblflaaGreatDoorVm1
set_option linter.unusedVariables false
set_option maxRecDepth 60000
set_option maxHeartbeats 40000000
namespace Go.Vm
open Go Go.Proofs Go.Pf
noncomputable section

def lv126 : Live := look ⟨[],[],[],[],[]⟩ [(1000000,⟨[],[],[],[(4,0,.own ti)],[]⟩)]
def g126 (k : Nat) : FEnv := (addF 147 sp147 (addF 146 (sp146 k).fs (addF 143 (qjh k).fs (addF 142 sp142.fs (fun _=>none)))))
def sp126 (k : Nat) : SP := .mk [.st,.st] (dG (dI .i64 (dL ti false (dL ti false (dL ti false (dI .i64 (dI .i64 (dS dN))))))) (dL (.sl ti) false dN)) oN fun ((a0_0,a0_1,a0_2,a0_3,a0_4,a0_5,a0_6,_),a1,_) _ C => C _ (qdR.f k a0_0 a0_1 a0_2 a0_3 a0_4 a0_5 a0_6 a1) (fun x => .tup [.own 0,.i .i64 x.1]) fun x => [.row ti x.2 false]
def lv101 : Live := look ⟨[],[],[],[],[]⟩ [(3,⟨[2,3,4,8,14,15,16],[3,4,8],[6,7],[(8,0,.own (.sl ti))],[]⟩),(1000000,⟨[],[],[],[(6,0,.own ti)],[]⟩)]
def g101 (k : Nat) : FEnv := (addF 105 (sp105 k).fs (addF 126 (sp126 k).fs (fun _=>none)))
def sp101 (k : Nat) : SP := .mk [.rd,.st,.rd] (dG (dL ti true (dS (dL (.pair ti (.pair (.sl ti) (.pair (.sl ti) (.pair (.sl ti) (.pair ti (.pair ti .str)))))) true (dL ti true dN)))) (dG (dI .i64 (dL ti false (dL ti false (dL ti false (dI .i64 (dI .i64 (dS dN))))))) (dL (.sl ti) true dN))) oN fun ((a0_0,a0_1,a0_2,a0_3,_),(a1_0,a1_1,a1_2,a1_3,a1_4,a1_5,a1_6,_),a2,_) _ C => C _ (qbX.f k a0_0 a0_1 a0_2 a0_3 a1_0 a1_1 a1_2 a1_3 a1_4 a1_5 a1_6 a2) (fun x => .tup [.own 0,.i .i64 x.1]) fun x => [.row ti x.2 false]
def lv103 : Live := look ⟨[],[],[],[],[]⟩ []
def g103 : FEnv := (fun _=>none)
def sp103 : SP := .mk [.rd,.rd] (dI .i64 (dP 0 0 dN)) (oV 49 (cO 1 cN) (oR (.sl ti) false oN)) fun (a0,_) (_,o1,_) C => C _ (qcW.f a0 o1) (fun x => .b x) fun x => [.var 49 [.own 1],.row (.sl ti) o1 false]
def qod : Live := look ⟨[],[],[],[],[]⟩ [(2,⟨[0,1,7,8],[],[4],[],[]⟩)]
def qpH : FEnv := (addF 103 sp103.fs (fun _=>none))
def qji (k : Nat) : SP := .mk [.rd,.rd] (dL ti true (dF 103 (cP 0 0 cN) dN)) (oV 49 (cO 1 cN) (oR (.sl ti) false oN)) fun (a0,_,_) (_,o1,_) C => C _ (qai.f k a0 o1) (fun x => .i .i64 x) fun x => [.var 49 [.own 1],.row (.sl ti) o1 false]
def qqh : Live := look ⟨[],[],[],[],[]⟩ []
def qqY (k : Nat) : FEnv := (addF 127 (qji k).fs (fun _=>none))
def qjj (k : Nat) : SP := .mk [.rd,.rd] (dL ti true (dF 103 (cP 0 0 cN) dN)) (oV 49 (cO 1 cN) (oR (.sl ti) false oN)) fun (a0,_,_) (_,o1,_) C => C _ (qaG.f k a0 o1) (fun x => .b x) fun x => [.var 49 [.own 1],.row (.sl ti) o1 false]
def lv66 : Live := look ⟨[],[],[],[],[]⟩ [(7,⟨[1,4,25,26,27],[1,4],[2,3],[(4,0,.own (.sl ti))],[]⟩),(1000000,⟨[],[],[],[(2,0,.own (.sl ti))],[]⟩)]
def g66 (k : Nat) : FEnv := (addF 102 (qjj k).fs (addF 101 (sp101 k).fs (addF 100 (sp100 k).fs (fun _=>none))))
def sp66 (k : Nat) : SP := .mk [.rd] (dG (dL ti true (dS (dL (.pair ti (.pair (.sl ti) (.pair (.sl ti) (.pair (.sl ti) (.pair ti (.pair ti .str)))))) true (dL ti true dN)))) dN) oN fun ((a0_0,a0_1,a0_2,a0_3,_),_) _ C => C _ (qbk.f k a0_0 a0_1 a0_2 a0_3) (fun x => .tup [.own 0,.i .i64 x.1]) fun x => [.row (.sl ti) x.2 false]
def lv37 : Live := look ⟨[],[],[],[],[]⟩ []
def g37 (k : Nat) : FEnv := (addF 66 (sp66 k).fs (fun _=>none))
def sp37 (k : Nat) : SP := .mk [.rd] (dG (dL ti true (dS (dL (.pair ti (.pair (.sl ti) (.pair (.sl ti) (.pair (.sl ti) (.pair ti (.pair ti .str)))))) true (dL ti true dN)))) dN) oN fun ((a0_0,a0_1,a0_2,a0_3,_),_) _ C => C _ (qdS.f k a0_0 a0_1 a0_2 a0_3) (fun x => .i .i64 x) fun x => []
def lv67 : Live := look ⟨[],[],[],[],[]⟩ []
def g67 : FEnv := (fun _=>none)
def sp67 : SP := .mk [.rd] (dS dN) oN fun (a0,_) _ C => C _ (qcu.f a0) (fun x => .s x) fun x => []
def lv68 : Live := look ⟨[],[],[],[],[]⟩ [(3,⟨[3,6,7,8],[3],[2],[(3,0,.own .str)],[]⟩)]
def g68 : FEnv := (addF 75 sp75.fs (fun _=>none))
def sp68 (k : Nat) : SP := .mk [.rd] (dL ti true dN) oN fun (a0,_) _ C => C _ (qbd.f k a0) (fun x => .own 0) fun x => [.row .str x false]
def lv106 : Live := look ⟨[],[],[],[],[]⟩ [(4,⟨[5,6,11,12,13],[6],[4],[(6,0,.own (.int .i32))],[]⟩)]
def g106 (k : Nat) : FEnv := (addF 128 (sp128 k).fs (fun _=>none))
def sp106 (k : Nat) : SP := .mk [.rd,.rd] (dS (dL ti true dN)) oN fun (a0,a1,_) _ C => C _ (qbM.f k a0 a1) (fun x => .s x) fun x => []
theorem lp3000 (S : Seals) (k : Nat) : (sp126 k).St tt (g126 k) lv126 Tryz.f126 k ∧ (sp101 k).St tt (g101 k) lv101 Tryz.f101 k ∧ sp103.St tt (g103) lv103 Tryz.f103 k ∧ (qji k).St tt (qpH) qod Tryz.f127 k ∧ (qjj k).St tt (qqY k) qqh Tryz.f102 k ∧ (sp66 k).St tt (g66 k) lv66 Tryz.f66 k ∧ (sp37 k).St tt (g37 k) lv37 Tryz.f37 k ∧ sp67.St tt (g67) lv67 Tryz.f67 k ∧ (sp68 k).St tt (g68) lv68 Tryz.f68 k ∧ (sp106 k).St tt (g106 k) lv106 Tryz.f106 k := by
 refine cu_ (A := ∀ (n : Nat) {x2 : List LI} {x14 : LI} {x15 x16 : Int} {y0_0 : LI} {y0_1 : ByteArray} {y0_2 : List LN} {y0_3 : LI} {y1_0 : Int} {y1_1 y1_2 y1_3 : LI} {y1_4 y1_5 : Int} {y1_6 : ByteArray} {y2 : List LI} {K : CK},S.lp tt (g101 k) lv101 0 n (loopN Tryz.f101 0) ⟨[(2,.dat (.sl ti) x2 true),(3,.ptr 0 0),(4,.ptr 1 0),(8,.own 2),(14,.dat ti x14 false),(15,.i .i64 x15),(16,.i .i64 x16)],[(0,.var 28 [.dat ti y0_0 true,.s y0_1,.dat (.pair ti (.pair (.sl ti) (.pair (.sl ti) (.pair (.sl ti) (.pair ti (.pair ti .str)))))) y0_2 true,.dat ti y0_3 true]),(1,.var 53 [.i .i64 y1_0,.dat ti y1_1 false,.dat ti y1_2 false,.dat ti y1_3 false,.i .i64 y1_4,.i .i64 y1_5,.s y1_6]),(2,.row (.sl ti) y2 false)],3,58⟩ K = bindO (qbX.l0 n x2 x14 x15 x16 y0_0 y0_1 y0_2 y0_3 y1_0 y1_1 y1_2 y1_3 y1_4 y1_5 y1_6 y2) (Sum.elim (fun x : (List LI) => K (.exit 0) ⟨[(3,.ptr 0 0),(4,.ptr 1 0),(8,.own 2)],[(0,.var 28 [.dat ti y0_0 true,.s y0_1,.dat (.pair ti (.pair (.sl ti) (.pair (.sl ti) (.pair (.sl ti) (.pair ti (.pair ti .str)))))) y0_2 true,.dat ti y0_3 true]),(1,.var 53 [.i .i64 y1_0,.dat ti y1_1 false,.dat ti y1_2 false,.dat ti y1_3 false,.i .i64 y1_4,.i .i64 y1_5,.s y1_6]),(2,.row (.sl ti) x false)],3,58⟩) (fun x : Int => K .ret ⟨[(6,.nilsl),(7,.i .i64 x)],[],0,58⟩))) (fun w101_0=>?_) (ind_ ?_ ?_)
 refine cu_ (A := ∀ (n : Nat) {x0 : LI} {x7 x8 : Int} {y1 : List LI} {K : CK},S.lp tt (qpH) qod 2 n (loopN Tryz.f127 0) ⟨[(0,.dat ti x0 true),(1,.fn 103 [.ptr 0 0]),(7,.i .i64 x7),(8,.i .i64 x8)],[(0,.var 49 [.own 1]),(1,.row (.sl ti) y1 false)],2,19⟩ K = bindO (qai.l0 n x0 x7 x8 y1) (Sum.elim (fun x : Unit => K (.exit 0) ⟨[],[(0,.var 49 [.own 1]),(1,.row (.sl ti) y1 false)],2,19⟩) (fun x : Int => K .ret ⟨[(4,.i .i64 x)],[(0,.var 49 [.own 1]),(1,.row (.sl ti) y1 false)],2,19⟩))) (fun w127_1_0=>?_) (ind_ ?_ ?_)
 refine cu_ (A := ∀ (n : Nat) {x25 : List LN} {x26 x27 : Int} {y0_0 : LI} {y0_1 : ByteArray} {y0_2 : List LN} {y0_3 : LI} {y2 : List LI} {K : CK},S.lp tt (g66 k) lv66 0 n (loopN Tryz.f66 0) ⟨[(1,.ptr 0 0),(4,.ptr 1 0),(25,.dat (.pair ti (.pair (.sl ti) (.pair (.sl ti) (.pair (.sl ti) (.pair ti (.pair ti .str)))))) x25 true),(26,.i .i64 x26),(27,.i .i64 x27)],[(0,.var 28 [.dat ti y0_0 true,.s y0_1,.dat (.pair ti (.pair (.sl ti) (.pair (.sl ti) (.pair (.sl ti) (.pair ti (.pair ti .str)))))) y0_2 true,.dat ti y0_3 true]),(1,.var 49 [.own 2]),(2,.row (.sl ti) y2 false)],3,51⟩ K = bindO (qbk.l0 k n x25 x26 x27 y0_0 y0_1 y0_2 y0_3 y2) (Sum.elim (fun x : (List LI) => K (.exit 1) ⟨[(1,.ptr 0 0),(4,.ptr 1 0)],[(0,.var 28 [.dat ti y0_0 true,.s y0_1,.dat (.pair ti (.pair (.sl ti) (.pair (.sl ti) (.pair (.sl ti) (.pair ti (.pair ti .str)))))) y0_2 true,.dat ti y0_3 true]),(1,.var 49 [.own 2]),(2,.row (.sl ti) x false)],3,51⟩) (fun x : Int => K .ret ⟨[(2,.nilsl),(3,.i .i64 x)],[],0,51⟩))) (fun w66_0=>?_) (ind_ ?_ ?_)
 refine cu_ (A := ∀ (n : Nat) {x6 : LI} {x7 x8 : Int} {y0 : List ByteArray} {K : CK},S.lp tt (g68) lv68 0 n (loopN Tryz.f68 0) ⟨[(3,.own 0),(6,.dat ti x6 true),(7,.i .i64 x7),(8,.i .i64 x8)],[(0,.row .str y0 false)],1,19⟩ K = bindO (qbd.l0 n x6 x7 x8 y0) (fun x : (List ByteArray) => K (.exit 0) ⟨[(3,.own 0)],[(0,.row .str x false)],1,19⟩)) (fun w68_0=>?_) (ind_ ?_ ?_)
 refine cu_ (A := ∀ (n : Nat) {x11 : LI} {x12 x13 : Int} {y0 y1 : LI} {K : CK},S.lp tt (g106 k) lv106 0 n (loopN Tryz.f106 0) ⟨[(5,.own 0),(6,.own 1),(11,.dat ti x11 true),(12,.i .i64 x12),(13,.i .i64 x13)],[(0,.row (.int .i32) y0 false),(1,.row (.int .i32) y1 false)],2,38⟩ K = bindO (qbM.l0 n x11 x12 x13 y0 y1) (fun x : LI => K (.exit 0) ⟨[(6,.own 0)],[(0,.row (.int .i32) x false)],1,38⟩)) (fun w106_0=>?_) (ind_ ?_ ?_)
 and_intros
 all_goals first|(dsimp only [SP.St,sp126,sp101,sp103,qji,qjj,sp66,sp37,sp67,sp68,sp106,dN,dL,dI,dS,dP,dG,dF,cN,cO,cP,oN,oR,oV]; intros; (first|unfold qdR.f|unfold qbX.f|unfold qcW.f|unfold qai.f|unfold qaG.f|unfold qbk.f|unfold qdS.f|unfold qcu.f|unfold qbd.f|unfold qbM.f); refine S.run_s rfl rfl ?_; (conv=>lhs;arg 5;whnf); conv=>lhs;arg 6;whnf)|(intros; rw [S.lp_zero]; exact qaN)|(intro n ih; intros; (first|rw [qbX.l0]|rw [qai.l0]|rw [qbk.l0]|rw [qbd.l0]|rw [qbM.l0]); refine S.lp_succ ?_; conv=>lhs;arg 5;whnf)
 all_goals repeat' first|(first|refine S.seq_op rfl ?_|refine S.op_n ?_|refine S.block_x ?_|refine qcC ?_|refine qcD ?_|refine br_t (by assumption) ?_|refine br_f (by assumption) ?_|refine qa8 (by with_reducible assumption) ?_|refine qcB (fun _=>?_) (fun _=>?_)|refine br_d (fun _=>?_) (fun _=>?_)|refine br_n (fun _=>?_) (fun _=>?_)|refine br_c (fun _=>?_) (fun _=>?_)|refine qcA fun _=>?_|refine qa8 (by assumption) ?_|refine qcE fun _=>?_)<;>(conv=>lhs;whnf)|refine S.seq_nil ?_|refine S.reg_n ?_|refine S.region rfl ?_|refine S.two ?_|refine S.blok ?_|refine S.cond rfl ?_|refine S.after_n ?_|refine S.block_n ?_|refine S.block_r ?_|refine S.after_x ?_|refine S.after_r ?_|refine S.skip ?_|refine S.exit ?_|refine S.ret ?_|refine qcy (fun _=>?_) (fun _=>?_)|exact ih|refine (w101_0 _).trans ?_|refine (w127_1_0 _).trans ?_|refine (w66_0 _).trans ?_|refine (w68_0 _).trans ?_|refine (w106_0 _).trans ?_|(first|refine S.loop ?_|refine S.back_n ?_|refine S.back_x ?_|refine S.back_r ?_|refine S.fin_r ?_|refine S.fin_n ?_|refine S.dk_n ?_|refine S.draw_nil ?_)<;>(conv=>lhs;whnf)|(refine S.draw_op ?_; conv => lhs; whnf; arg 1; whnf)|refine qbb ?_|refine qaT ?_|refine qbJ ?_|refine qaD ?_|exact qcz rfl|exact qaN
theorem snd126 (k : Nat) : Sound Tryz.prog 126 (sp126 k).fs := sn_ qah mixed Tryz.func126 (by kernel_rfl) rfl (qaa snd147 (qaa (snd146 k) (qaa (qoK k) (qaa snd142 (qab _))))) (lp3000 seals k).1
theorem snd101 (k : Nat) : Sound Tryz.prog 101 (sp101 k).fs := sn_ qah mixed Tryz.func101 (by kernel_rfl) rfl (qaa (snd105 k) (qaa (snd126 k) (qab _))) (lp3000 seals k).2.1
theorem snd103 : Sound Tryz.prog 103 sp103.fs := sn_ qah mixed Tryz.func103 (by kernel_rfl) rfl (qab _) (lp3000 seals 0).2.2.1
theorem qoL (k : Nat) : Sound Tryz.prog 127 (qji k).fs := sn_ qah mixed Tryz.func127 (by kernel_rfl) rfl (qaa snd103 (qab _)) (lp3000 seals k).2.2.2.1
theorem qoN (k : Nat) : Sound Tryz.prog 102 (qjj k).fs := sn_ qah mixed Tryz.func102 (by kernel_rfl) rfl (qaa (qoL k) (qab _)) (lp3000 seals k).2.2.2.2.1
theorem snd66 (k : Nat) : Sound Tryz.prog 66 (sp66 k).fs := sn_ qah mixed Tryz.func66 (by kernel_rfl) rfl (qaa (qoN k) (qaa (snd101 k) (qaa (snd100 k) (qab _)))) (lp3000 seals k).2.2.2.2.2.1
theorem snd37 (k : Nat) : Sound Tryz.prog 37 (sp37 k).fs := sn_ qah mixed Tryz.func37 (by kernel_rfl) rfl (qaa (snd66 k) (qab _)) (lp3000 seals k).2.2.2.2.2.2.1
theorem snd67 : Sound Tryz.prog 67 sp67.fs := sn_ qah mixed Tryz.func67 (by kernel_rfl) rfl (qab _) (lp3000 seals 0).2.2.2.2.2.2.2.1
theorem snd68 (k : Nat) : Sound Tryz.prog 68 (sp68 k).fs := sn_ qah mixed Tryz.func68 (by kernel_rfl) rfl (qaa snd75 (qab _)) (lp3000 seals k).2.2.2.2.2.2.2.2.1
theorem snd106 (k : Nat) : Sound Tryz.prog 106 (sp106 k).fs := sn_ qah mixed Tryz.func106 (by kernel_rfl) rfl (qaa (snd128 k) (qab _)) (lp3000 seals k).2.2.2.2.2.2.2.2.2
def lv69 : Live := look ⟨[],[],[],[],[]⟩ [(3,⟨[2,3,4,7,23,24,25],[2,3,4,7],[6],[],[]⟩)]
def g69 (k : Nat) : FEnv := (addF 67 sp67.fs (addF 106 (sp106 k).fs (addF 75 sp75.fs (addF 105 (sp105 k).fs (addF 68 (sp68 k).fs (addF 104 sp104.fs (fun _=>none)))))))
def sp69 (k : Nat) : SP := .mk [.st,.st,.kp] (dG (dL ti false (dS (dL (.pair ti (.pair (.sl ti) (.pair (.sl ti) (.pair (.sl ti) (.pair ti (.pair ti .str)))))) false (dL ti false dN)))) (dG (dI .i64 (dL ti false (dL ti false (dL ti false (dI .i64 (dI .i64 (dS dN))))))) (dI .i64 dN))) oN fun ((a0_0,a0_1,a0_2,a0_3,_),(a1_0,a1_1,a1_2,a1_3,a1_4,a1_5,a1_6,_),a2,_) _ C => C _ (qcb.f k a0_0 a0_1 a0_2 a0_3 a1_0 a1_1 a1_2 a1_3 a1_4 a1_5 a1_6 a2) (fun x => .own 0) fun x => [.row .str x false]
theorem lp3001 (S : Seals) (k : Nat) : (sp69 k).St tt (g69 k) lv69 Tryz.f69 k := by
 refine cu_ (A := ∀ (n : Nat) {x2 x24 x25 : Int} {y0_0 : LI} {y0_1 : ByteArray} {y0_2 : List LN} {y0_3 : LI} {y1_0 : Int} {y1_1 y1_2 y1_3 : LI} {y1_4 y1_5 : Int} {y1_6 : ByteArray} {y2 : List ByteArray} {y3 : List LI} {K : CK},S.lp tt (g69 k) lv69 0 n (loopN Tryz.f69 0) ⟨[(2,.i .i64 x2),(3,.ptr 0 0),(4,.ptr 1 0),(7,.own 2),(23,.own 3),(24,.i .i64 x24),(25,.i .i64 x25)],[(0,.var 28 [.dat ti y0_0 false,.s y0_1,.dat (.pair ti (.pair (.sl ti) (.pair (.sl ti) (.pair (.sl ti) (.pair ti (.pair ti .str)))))) y0_2 false,.dat ti y0_3 false]),(1,.var 53 [.i .i64 y1_0,.dat ti y1_1 false,.dat ti y1_2 false,.dat ti y1_3 false,.i .i64 y1_4,.i .i64 y1_5,.s y1_6]),(2,.row .str y2 false),(3,.row (.sl ti) y3 false)],4,62⟩ K = bindO (qcb.l0 k n x2 x24 x25 y0_0 y0_1 y0_2 y0_3 y1_0 y1_1 y1_2 y1_3 y1_4 y1_5 y1_6 y2 y3) (fun x : (List ByteArray) => K (.exit 0) ⟨[(2,.i .i64 x2),(3,.ptr 0 0),(4,.ptr 1 0),(7,.own 2)],[(0,.var 28 [.dat ti y0_0 false,.s y0_1,.dat (.pair ti (.pair (.sl ti) (.pair (.sl ti) (.pair (.sl ti) (.pair ti (.pair ti .str)))))) y0_2 false,.dat ti y0_3 false]),(1,.var 53 [.i .i64 y1_0,.dat ti y1_1 false,.dat ti y1_2 false,.dat ti y1_3 false,.i .i64 y1_4,.i .i64 y1_5,.s y1_6]),(2,.row .str x false)],3,62⟩)) (fun w69_0=>?_) (ind_ ?_ ?_)
 all_goals first|(dsimp only [SP.St,sp69,dN,dL,dI,dS,dG,oN]; intros; unfold qcb.f; refine S.run_s rfl rfl ?_; (conv=>lhs;arg 5;whnf); conv=>lhs;arg 6;whnf)|(intros; rw [S.lp_zero]; exact qaN)|(intro n ih; intros; rw [qcb.l0]; refine S.lp_succ ?_; conv=>lhs;arg 5;whnf)
 all_goals repeat' first|(first|refine S.seq_op rfl ?_|refine S.op_n ?_|refine S.block_x ?_|refine qcC ?_|refine qcD ?_|refine br_t (by assumption) ?_|refine br_f (by assumption) ?_|refine qa8 (by with_reducible assumption) ?_|refine qcB (fun _=>?_) (fun _=>?_)|refine br_d (fun _=>?_) (fun _=>?_)|refine br_n (fun _=>?_) (fun _=>?_)|refine br_c (fun _=>?_) (fun _=>?_)|refine qcA fun _=>?_|refine qa8 (by assumption) ?_|refine qcE fun _=>?_)<;>(conv=>lhs;whnf)|refine S.seq_nil ?_|refine S.reg_n ?_|refine S.region rfl ?_|refine S.two ?_|refine S.blok ?_|refine S.cond rfl ?_|refine S.after_n ?_|refine S.block_n ?_|refine S.block_r ?_|refine S.after_x ?_|refine S.after_r ?_|refine S.skip ?_|refine S.exit ?_|refine S.ret ?_|refine qcy (fun _=>?_) (fun _=>?_)|exact ih|refine (w69_0 _).trans ?_|refine S.region_d (id := 8) (ds := [0,0,2,6,0,16,62,0,128,0,1022,2046,4094,8191,16383]) (mds := [[],[],[],[],[],[],[],[],[],[],[3,3],[],[],[2],[]]) (hm := [(10,[3,3]),(13,[2])]) (by kernel_rfl) (by kernel_rfl) rfl rfl ?_|(first|refine S.loop ?_|refine S.back_n ?_|refine S.back_x ?_|refine S.back_r ?_|refine S.fin_r ?_|refine S.fin_n ?_|refine S.dk_n ?_|refine S.draw_nil ?_)<;>(conv=>lhs;whnf)|(refine S.draw_op ?_; conv => lhs; whnf; arg 1; whnf)|refine qbb ?_|refine qaT ?_|refine qbJ ?_|refine qaD ?_|exact qcz rfl|exact qaN
theorem snd69 (k : Nat) : Sound Tryz.prog 69 (sp69 k).fs := sn_ qah mixed Tryz.func69 (by kernel_rfl) rfl (qaa snd67 (qaa (snd106 k) (qaa snd75 (qaa (snd105 k) (qaa (snd68 k) (qaa snd104 (qab _))))))) (lp3001 seals k)
def qnF : FSpec := spCC 119
set_option maxRecDepth 60000 in
theorem qoM : Sound Tryz.prog 107 qnF := sndCC { Tryz.lays156 with } Tryz.Builder_X72_156 ⟨Tryz.f107,Tryz.func107,by kernel_rfl,rfl⟩

def qqU : Live := look ⟨[],[],[],[],[]⟩ []
noncomputable def qqV : FEnv := (addF 107 qnF (fun _=>none))
theorem qq1 : EnvOK Tryz.prog (qqV) := (qaa qoM (qab _))
set_option maxRecDepth 60000 in
set_option maxHeartbeats 40000000 in
theorem r70_2 (S : Seals) (k : Nat) (a1 : ByteArray) (o1 : LI) : runF tt (qqV) qqU Tryz.f70 k [.ptr 0 0,.s a1] [.var 119 [.optp 0,.own 1],.row (.int .u8) o1 false] = bindO (qaK.f a1 o1) (fun x : Int × LI => some (.tup [.i .i64 x.1,.kon (.nilIface)],[.var 119 [.optp 0,.own 2],.dead,.row (.int .u8) x.2 false])) := by
 unfold qaK.f; refine S.run_s rfl rfl ?_; conv => lhs; arg 5; whnf
 conv => lhs; arg 6; whnf
 repeat' first|(first|refine S.seq_op rfl ?_|refine S.op_n ?_|refine S.block_x ?_|refine qcC ?_|refine qcD ?_|refine br_t (by assumption) ?_|refine br_f (by assumption) ?_|refine qa8 (by with_reducible assumption) ?_|refine qcB (fun _=>?_) (fun _=>?_)|refine br_d (fun _=>?_) (fun _=>?_)|refine br_n (fun _=>?_) (fun _=>?_)|refine br_c (fun _=>?_) (fun _=>?_)|refine qcA fun _=>?_|refine qa8 (by assumption) ?_|refine qcE fun _=>?_)<;>(conv=>lhs;whnf)|refine S.seq_nil ?_|refine S.reg_n ?_|refine S.region rfl ?_|refine S.two ?_|refine S.blok ?_|refine S.cond rfl ?_|refine S.after_n ?_|refine S.block_n ?_|refine S.block_r ?_|refine S.after_x ?_|refine S.after_r ?_|refine S.skip ?_|refine S.exit ?_|refine S.ret ?_|refine qcy (fun _=>?_) (fun _=>?_)|(first|refine S.loop ?_|refine S.back_n ?_|refine S.back_x ?_|refine S.back_r ?_|refine S.fin_r ?_|refine S.fin_n ?_|refine S.dk_n ?_|refine S.draw_nil ?_)<;>(conv=>lhs;whnf)|(refine S.draw_op ?_; conv => lhs; whnf; arg 1; whnf)|refine qbb ?_|refine qaT ?_|refine qbJ ?_|refine qaD ?_|exact qcz rfl|exact qaN
def qnE : FSpec := ⟨[.kp,.kp],fun args objs K => match args,objs with | [.ptr 0 0,.s a1],[.var 119 [.optp 0,.own 1],w1] => rowK (.int .u8) false w1 fun o1 => bindO (qaK.f a1 o1) fun x : Int × LI => K (.tup [.i .i64 x.1,.kon (.nilIface)]) [.var 119 [.optp 0,.own 2],.dead,.row (.int .u8) x.2 false] | _,_ => none⟩
theorem qpX : Sound Tryz.prog 70 (qnE) := by
 refine ⟨⟨Tryz.f70,Tryz.func70,by kernel_rfl,rfl⟩,fun args objs K r h => ?_⟩
 unfold qnE at h; dsimp only at h; split at h
 ·rename_i a1 w1
  obtain ⟨o1,h9,eo1⟩ := qfX h; clear h; subst eo1
  have h := h9; clear h9
  obtain ⟨x,hx,h⟩ := qc6 h
  exact ⟨_,_,h,FnOK.args2 (qdI qgt (qdI qgt qki)) (qkL qah (qq1) mixed Tryz.func70 ((r70_2 seals 0 a1 o1).trans (qfc hx)))⟩
 ·cases h

def sp71 : FSpec := spJoin
set_option maxRecDepth 60000 in
theorem snd71 : Sound Tryz.prog 71 sp71 := sndJoin Tryz.lays156 Tryz.Builder_Extra_156 ⟨Tryz.f71,Tryz.func71,by kernel_rfl,rfl⟩

def lv72 : Live := look ⟨[],[],[],[],[]⟩ []
noncomputable def g72 : FEnv := (fun _=>none)
theorem en72 : EnvOK Tryz.prog (g72) := (qab _)
set_option maxRecDepth 60000 in
set_option maxHeartbeats 40000000 in
theorem r72 (S : Seals) (k : Nat) (o1 : LI) : runF tt (g72) lv72 Tryz.f72 k [.ptr 0 0] [.var 119 [.optp 0,.own 1],.row (.int .u8) o1 false] = bindO (qbK.f o1) (fun x : Int => some (.i .i64 x,[.var 119 [.optp 0,.own 1],.row (.int .u8) o1 false])) := by
 unfold qbK.f; refine S.run_s rfl rfl ?_; conv => lhs; arg 5; whnf
 conv => lhs; arg 6; whnf
 repeat' first|(first|refine S.seq_op rfl ?_|refine S.op_n ?_|refine S.block_x ?_|refine qcC ?_|refine qcD ?_|refine br_t (by assumption) ?_|refine br_f (by assumption) ?_|refine qa8 (by with_reducible assumption) ?_|refine qcB (fun _=>?_) (fun _=>?_)|refine br_d (fun _=>?_) (fun _=>?_)|refine br_n (fun _=>?_) (fun _=>?_)|refine br_c (fun _=>?_) (fun _=>?_)|refine qcA fun _=>?_|refine qa8 (by assumption) ?_|refine qcE fun _=>?_)<;>(conv=>lhs;whnf)|refine S.seq_nil ?_|refine S.reg_n ?_|refine S.region rfl ?_|refine S.two ?_|refine S.blok ?_|refine S.cond rfl ?_|refine S.after_n ?_|refine S.block_n ?_|refine S.block_r ?_|refine S.after_x ?_|refine S.after_r ?_|refine S.skip ?_|refine S.exit ?_|refine S.ret ?_|refine qcy (fun _=>?_) (fun _=>?_)|(first|refine S.loop ?_|refine S.back_n ?_|refine S.back_x ?_|refine S.back_r ?_|refine S.fin_r ?_|refine S.fin_n ?_|refine S.dk_n ?_|refine S.draw_nil ?_)<;>(conv=>lhs;whnf)|(refine S.draw_op ?_; conv => lhs; whnf; arg 1; whnf)|refine qbb ?_|refine qaT ?_|refine qbJ ?_|refine qaD ?_|exact qcz rfl|exact qaN
def sp72 : FSpec := ⟨[.kp],fun args objs K => match args,objs with | [.ptr 0 0],[.var 119 [.optp 0,.own 1],w1] => rowK (.int .u8) false w1 fun o1 => bindO (qbK.f o1) fun x : Int => K (.i .i64 x) [.var 119 [.optp 0,.own 1],.row (.int .u8) o1 false] | _,_ => none⟩
theorem snd72 : Sound Tryz.prog 72 (sp72) := by
 refine ⟨⟨Tryz.f72,Tryz.func72,by kernel_rfl,rfl⟩,fun args objs K r h => ?_⟩
 unfold sp72 at h; dsimp only at h; split at h
 ·rename_i w1
  obtain ⟨o1,h9,eo1⟩ := qfX h; clear h; subst eo1
  have h := h9; clear h9
  obtain ⟨x,hx,h⟩ := qc6 h
  exact ⟨_,_,h,FnOK.args2 (qdI qgt qki) (qkL qah (en72) mixed Tryz.func72 ((r72 seals 0 o1).trans (qfc hx)))⟩
 ·cases h

def sp73 : FSpec := spStr 119
set_option maxRecDepth 60000 in
theorem snd73 : Sound Tryz.prog 73 sp73 := sndStr { Tryz.lays156 with } Tryz.Builder_Extra_156 ⟨Tryz.f73,Tryz.func73,by kernel_rfl,rfl⟩ rfl

def lv38 : Live := look ⟨[],[],[],[],[]⟩ [(6,⟨[1,4,6,30,31,32],[1,6],[2,3],[],[]⟩),(13,⟨[9,57,58,59],[9],[2,3],[(9,0,.selfp 7),(9,1,.own (.int .u8))],[]⟩)]
def g38 (k : Nat) : FEnv := (addF 73 sp73 (addF 72 sp72 (addF 70 qnE (addF 71 sp71 (addF 69 (sp69 k).fs (addF 68 (sp68 k).fs (addF 67 sp67.fs (addF 66 (sp66 k).fs (fun _=>none)))))))))
def sp38 (k : Nat) : SP := .mk [.st] (dG (dL ti false (dS (dL (.pair ti (.pair (.sl ti) (.pair (.sl ti) (.pair (.sl ti) (.pair ti (.pair ti .str)))))) false (dL ti false dN)))) dN) oN fun ((a0_0,a0_1,a0_2,a0_3,_),_) _ C => C _ (qbe.f k a0_0 a0_1 a0_2 a0_3) (fun x => .tup [.s x.1,.i .i64 x.2]) fun x => []
def lv15 : Live := look ⟨[],[],[],[],[]⟩ [(1000000,⟨[],[],[],[(2,0,.own ti),(2,2,.own (.pair ti (.pair (.sl ti) (.pair (.sl ti) (.pair (.sl ti) (.pair ti (.pair ti .str))))))),(2,3,.own ti),(2,0,.fz ti),(2,2,.fz (.pair ti (.pair (.sl ti) (.pair (.sl ti) (.pair (.sl ti) (.pair ti (.pair ti .str))))))),(2,3,.fz ti)],[]⟩)]
def g15 (k : Nat) : FEnv := (addF 38 (sp38 k).fs (addF 37 (sp37 k).fs (addF 36 (sp36 k).fs (fun _=>none))))
def sp15 (k : Nat) : SP := .mk [.rd] (dS dN) oN fun (a0,_) _ C => C _ (qc0.f k a0) (fun x => .tup [.agg [.dat ti x.1 false,.s x.2.1,.dat (.pair ti (.pair (.sl ti) (.pair (.sl ti) (.pair (.sl ti) (.pair ti (.pair ti .str)))))) x.2.2.1 false,.dat ti x.2.2.2.1 false],.i .i64 x.2.2.2.2]) fun x => []
def lv39 : Live := look ⟨[],[],[],[],[]⟩ [(4,⟨[0,1,5],[],[4],[],[]⟩)]
def g39 : FEnv := (fun _=>none)
def sp39 (k : Nat) : SP := .mk [.rd,.rd] (dL ti true (dL ti true dN)) oN fun (a0,a1,_) _ C => C _ (qbs.f k a0 a1) (fun x => .b x) fun x => []
theorem lp3002 (S : Seals) (k : Nat) : (sp38 k).St tt (g38 k) lv38 Tryz.f38 k ∧ (sp15 k).St tt (g15 k) lv15 Tryz.f15 k ∧ (sp39 k).St tt (g39) lv39 Tryz.f39 k := by
 refine cu_ (A := ∀ (n : Nat) {x30 : List LN} {x31 x32 : Int} {y0_0 : LI} {y0_1 : ByteArray} {y0_2 : List LN} {y0_3 : LI} {y1 : List LI} {y2 : List (List ByteArray)} {K : CK},S.lp tt (g38 k) lv38 0 n (loopN Tryz.f38 0) ⟨[(1,.ptr 0 0),(4,.own 1),(6,.own 2),(30,.dat (.pair ti (.pair (.sl ti) (.pair (.sl ti) (.pair (.sl ti) (.pair ti (.pair ti .str)))))) x30 false),(31,.i .i64 x31),(32,.i .i64 x32)],[(0,.var 28 [.dat ti y0_0 false,.s y0_1,.dat (.pair ti (.pair (.sl ti) (.pair (.sl ti) (.pair (.sl ti) (.pair ti (.pair ti .str)))))) y0_2 false,.dat ti y0_3 false]),(1,.row (.sl ti) y1 false),(2,.row (.sl .str) y2 false)],3,71⟩ K = bindO (qbe.l0 k n x30 x31 x32 y0_0 y0_1 y0_2 y0_3 y1 y2) (fun x : (List (List ByteArray)) => K (.exit 0) ⟨[(1,.ptr 0 0),(6,.own 1)],[(0,.var 28 [.dat ti y0_0 false,.s y0_1,.dat (.pair ti (.pair (.sl ti) (.pair (.sl ti) (.pair (.sl ti) (.pair ti (.pair ti .str)))))) y0_2 false,.dat ti y0_3 false]),(1,.row (.sl .str) x false)],2,71⟩)) (fun w38_0=>?_) (ind_ ?_ ?_)
 refine cu_ (A := ∀ (n : Nat) {x58 x59 : Int} {y1 : List (List ByteArray)} {y2 : LI} {K : CK},S.lp tt (g38 k) lv38 0 n (loopN Tryz.f38 1) ⟨[(9,.ptr 0 0),(57,.own 1),(58,.i .i64 x58),(59,.i .i64 x59)],[(0,.var 119 [.optp 0,.own 2]),(1,.row (.sl .str) y1 false),(2,.row (.int .u8) y2 false)],3,71⟩ K = bindO (qbe.l1 n x58 x59 y1 y2) (fun x : LI => K (.exit 2) ⟨[(9,.ptr 0 0)],[(0,.var 119 [.optp 0,.own 1]),(1,.row (.int .u8) x false)],2,71⟩)) (fun w38_1=>?_) (ind_ ?_ ?_)
 refine cu_ (A := ∀ (n : Nat) {x0 x1 : LI} {x5 : Int} {K : CK},S.lp tt (g39) lv39 0 n (loopN Tryz.f39 0) ⟨[(0,.dat ti x0 true),(1,.dat ti x1 true),(5,.i .i64 x5)],[],0,26⟩ K = bindO (qbs.l0 n x0 x1 x5) (Sum.elim (fun x : Unit => K (.exit 0) ⟨[],[],0,26⟩) (fun x : Bool => K .ret ⟨[(4,.b x)],[],0,26⟩))) (fun w39_0=>?_) (ind_ ?_ ?_)
 and_intros
 all_goals first|(dsimp only [SP.St,sp38,sp15,sp39,dN,dL,dS,dG,oN]; intros; (first|unfold qbe.f|unfold qc0.f|unfold qbs.f); refine S.run_s rfl rfl ?_; (conv=>lhs;arg 5;whnf); conv=>lhs;arg 6;whnf)|(intros; rw [S.lp_zero]; exact qaN)|(intro n ih; intros; (first|rw [qbe.l0]|rw [qbe.l1]|rw [qbs.l0]); refine S.lp_succ ?_; conv=>lhs;arg 5;whnf)
 all_goals repeat' first|(first|refine S.seq_op rfl ?_|refine S.op_n ?_|refine S.block_x ?_|refine qcC ?_|refine qcD ?_|refine br_t (by assumption) ?_|refine br_f (by assumption) ?_|refine qa8 (by with_reducible assumption) ?_|refine qcB (fun _=>?_) (fun _=>?_)|refine br_d (fun _=>?_) (fun _=>?_)|refine br_n (fun _=>?_) (fun _=>?_)|refine br_c (fun _=>?_) (fun _=>?_)|refine qcA fun _=>?_|refine qa8 (by assumption) ?_|refine qcE fun _=>?_)<;>(conv=>lhs;whnf)|refine S.seq_nil ?_|refine S.reg_n ?_|refine S.region rfl ?_|refine S.two ?_|refine S.blok ?_|refine S.cond rfl ?_|refine S.after_n ?_|refine S.block_n ?_|refine S.block_r ?_|refine S.after_x ?_|refine S.after_r ?_|refine S.skip ?_|refine S.exit ?_|refine S.ret ?_|refine qcy (fun _=>?_) (fun _=>?_)|refine S.region_d (id := 8) (ds := [0,0,0,0,0,24,56,120,254,510,1023,2047]) (mds := [[],[],[],[],[],[],[],[],[],[],[2],[]]) (hm := [(10,[2])]) (by kernel_rfl) (by kernel_rfl) rfl rfl ?_|exact ih|refine (w38_0 _).trans ?_|refine (w38_1 _).trans ?_|refine (w39_0 _).trans ?_|refine S.region_d (id := 4) (ds := [0,1,3,7,0,16,55,127,255,511]) (mds := [[],[],[],[],[],[],[],[],[],[]]) (hm := []) (by kernel_rfl) (by kernel_rfl) rfl rfl ?_|refine S.region_d (id := 6) (ds := [0,0,3,7,0,0,48,112,255]) (mds := [[],[],[],[],[],[],[],[],[]]) (hm := []) (by kernel_rfl) (by kernel_rfl) rfl rfl ?_|(first|refine S.loop ?_|refine S.back_n ?_|refine S.back_x ?_|refine S.back_r ?_|refine S.fin_r ?_|refine S.fin_n ?_|refine S.dk_n ?_|refine S.draw_nil ?_)<;>(conv=>lhs;whnf)|(refine S.draw_op ?_; conv => lhs; whnf; arg 1; whnf)|refine qbb ?_|refine qaT ?_|refine qbJ ?_|refine qaD ?_|exact qcz rfl|exact qaN
theorem snd38 (k : Nat) : Sound Tryz.prog 38 (sp38 k).fs := sn_ qah mixed Tryz.func38 (by kernel_rfl) rfl (qaa snd73 (qaa snd72 (qaa qpX (qaa snd71 (qaa (snd69 k) (qaa (snd68 k) (qaa snd67 (qaa (snd66 k) (qab _))))))))) (lp3002 seals k).1
theorem snd15 (k : Nat) : Sound Tryz.prog 15 (sp15 k).fs := sn_ qah mixed Tryz.func15 (by kernel_rfl) rfl (qaa (snd38 k) (qaa (snd37 k) (qaa (snd36 k) (qab _)))) (lp3002 seals k).2.1
theorem snd39 (k : Nat) : Sound Tryz.prog 39 (sp39 k).fs := sn_ qah mixed Tryz.func39 (by kernel_rfl) rfl (qab _) (lp3002 seals k).2.2
end
end Go.Vm
