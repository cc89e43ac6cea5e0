/- Own walks -/
import Derived.Test.YtjamdeehpblflaaGreatDoorWk0
import Derived.Test.YtjamdeehpblflaaGreatDoorWk4
import Derived.Test.YtjamdeehpblflaaGreatDoorVm1
set_option linter.unusedVariables false
set_option maxRecDepth 60000
set_option maxHeartbeats 40000000
namespace Go.Vm
open Go Go.Proofs Go.Pf
noncomputable section

def lv94 : Live := look ⟨[],[],[],[],[]⟩ [(3,⟨[0,3],[3],[2],[(3,0,.own ti)],[]⟩)]
def g94 (k : Nat) : FEnv := (addF 34 (sp34 k).fs (addF 56 sp56.fs (fun _=>none)))
def sp94 (k : Nat) : SP := .mk [.rd] (dP 0 0 dN) (oV 102 (cD .str false (cB cN)) oN) fun _ ((o0_0,o0_1,_),_) C => C _ (qat.f k o0_0 o0_1) (fun x => .own 1) fun x => [.var 102 [.dat .str x.1 false,.b x.2.1],.row ti x.2.2 false]
def lv58 : Live := look ⟨[],[],[],[],[]⟩ []
def g58 (k : Nat) : FEnv := (addF 92 (sp92 k).fs (addF 94 (sp94 k).fs (addF 93 (sp93 k).fs (addF 56 sp56.fs (addF 33 (sp33 k).fs (fun _=>none))))))
def sp58 (k : Nat) : SP := .mk [.rd] (dS dN) oN fun (a0,_) _ C => C _ (qej.f k a0) (fun x => .tup [.agg [.i .i64 x.1,.own 0,.own 1,.own 2,.i .i64 x.2.1,.i .i64 x.2.2.1,.s x.2.2.2.1],.b x.2.2.2.2.1]) fun x => [.row ti x.2.2.2.2.2.1 false,.row ti x.2.2.2.2.2.2.1 false,.row ti x.2.2.2.2.2.2.2 false]
def lv78 : Live := look ⟨[],[],[],[],[]⟩ []
def g78 : FEnv := (fun _=>none)
def sp78 : SP := .mk [.rd] (dI .i64 dN) oN fun (a0,_) _ C => C _ (qdO.f a0) (fun x => .tup [.i .i64 x.1,.b x.2.1,.b x.2.2.1,.b x.2.2.2.1,.b x.2.2.2.2]) fun x => []
theorem lp5000 (S : Seals) (k : Nat) : (sp94 k).St tt (g94 k) lv94 Tryz.f94 k /\ (sp58 k).St tt (g58 k) lv58 Tryz.f58 k /\ sp78.St tt (g78) lv78 Tryz.f78 k := by
 refine cu_ (A := ∀ (n : Nat) {y0_0 : List ByteArray} {y0_1 : Bool} {y1 : LI} {K : CK},S.lp tt (g94 k) lv94 1 n (loopN Tryz.f94 0) ⟨[(0,.ptr 0 0),(3,.own 1)],[(0,.var 102 [.dat .str y0_0 false,.b y0_1]),(1,.row ti y1 false)],2,49⟩ K = bindO (qat.l0 k n y0_0 y0_1 y1) (fun x : (List ByteArray) × Bool × LI => K (.exit 0) ⟨[(3,.own 1)],[(0,.var 102 [.dat .str x.1 false,.b x.2.1]),(1,.row ti x.2.2 false)],2,49⟩)) (fun w94_0=>?_) (ind_ ?_ ?_)
 and_intros
 all_goals first|(dsimp only [SP.St,sp94,sp58,sp78,dN,dI,dS,dP,cN,cD,cB,oN,oV]; intros; (first|unfold qat.f|unfold qej.f|unfold qdO.f); refine S.run_s rfl rfl ?_; (conv=>lhs;arg 5;whnf); conv=>lhs;arg 6;whnf)|(intros; rw [S.lp_zero]; exact qbu)|(intro n ih; intros; rw [qat.l0]; refine S.lp_succ ?_; conv=>lhs;arg 5;whnf)
 all_goals as_aux_lemma=>repeat' first|(first|refine S.seq_op rfl ?_|refine S.op_n ?_|refine S.block_x ?_|refine qdC ?_|refine qdD ?_|refine br_t (by assumption) ?_|refine br_f (by assumption) ?_|refine qb1 (by with_reducible assumption) ?_|refine qdE fun _=>?_|refine qdB (fun _=>?_) (fun _=>?_)|refine br_d (fun _=>?_) (fun _=>?_)|refine br_n (fun _=>?_) (fun _=>?_)|refine br_c (fun _=>?_) (fun _=>?_)|refine qdu fun _=>?_|refine qb1 (by assumption) ?_)<;>(conv=>lhs;whnf)|refine S.seq_nil ?_|refine S.reg_n ?_|refine S.region rfl ?_|refine S.two ?_|refine S.blok ?_|refine S.cond rfl ?_|refine S.after_n ?_|refine S.block_n ?_|refine S.block_r ?_|refine S.after_x ?_|refine S.after_r ?_|refine S.skip ?_|refine S.exit ?_|refine S.ret ?_|refine qdt (fun _=>?_) (fun _=>?_)|exact ih|refine (w94_0 _).trans ?_|refine S.region_d (id := 12) (ds := [0,0,2,6,14,30,62,126,254,510,1022,2046,4094,8190,16382,32766,65534,131070,262142,4095,1048575]) (mds := [[],[],[],[],[],[],[],[],[],[],[],[],[],[],[],[],[],[],[],[0,3,4,5],[]]) (hm := [(19,[0,3,4,5])]) (by kernel_rfl) (by kernel_rfl) rfl rfl ?_|(first|refine S.loop ?_|refine S.back_n ?_|refine S.back_x ?_|refine S.back_r ?_|refine S.fin_r ?_|refine S.fin_n ?_|refine S.dk_n ?_|refine S.draw_nil ?_)<;>(conv=>lhs;whnf)|(refine S.draw_op ?_; conv => lhs; whnf; arg 1; whnf)|refine qb4 ?_|refine qbt ?_|refine qcD ?_|refine qa9 ?_|exact qdM rfl|exact qbu
theorem snd94 (k : Nat) : Sound Tryz.prog 94 (sp94 k).fs := sn_ qag mixed Tryz.func94 (by kernel_rfl) rfl (qaa (snd34 k) (qaa snd56 (qab _))) (lp5000 seals k).1
theorem snd58 (k : Nat) : Sound Tryz.prog 58 (sp58 k).fs := sn_ qag mixed Tryz.func58 (by kernel_rfl) rfl (qaa (snd92 k) (qaa (snd94 k) (qaa (snd93 k) (qaa snd56 (qaa (snd33 k) (qab _)))))) (lp5000 seals k).2.1
theorem snd78 : Sound Tryz.prog 78 sp78.fs := sn_ qag mixed Tryz.func78 (by kernel_rfl) rfl (qab _) (lp5000 seals 0).2.2
end
end Go.Vm
