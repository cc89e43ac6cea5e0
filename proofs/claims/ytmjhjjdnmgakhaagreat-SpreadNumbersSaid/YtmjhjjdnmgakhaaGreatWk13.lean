/- Own walks -/
import Derived.Test.YtmjhjjdnmgakhaaGreatWk0
import Derived.Test.YtmjhjjdnmgakhaaGreatWk12
import Derived.Test.YtmjhjjdnmgakhaaGreatWk9
import Derived.Test.YtmjhjjdnmgakhaaGreatVm2
set_option linter.unusedVariables false
set_option maxRecDepth 60000
set_option maxHeartbeats 40000000
namespace Go.Vm
open Go Go.Proofs Go.Pf
noncomputable section

def lv228 : Live := look ⟨[],[],[],[],[]⟩ [(1000000,⟨[],[],[],[(4,0,.own ti)],[]⟩)]
def g228 : FEnv := (addF 252 sp252.fs (addF 52 sp52 (addF 251 sp251.fs (fun _=>none))))
def sp228 : SP := .mk [.rd,.rd] (dG (dI .i64 (dL ti true (dL ti true (dL ti true (dI .i64 (dI .i64 (dS dN))))))) (dL ti true dN)) oN fun ((a0_0,a0_1,a0_2,a0_3,a0_4,a0_5,a0_6,_),a1,_) _ C => C _ (qee.f a0_0 a0_1 a0_2 a0_3 a0_4 a0_5 a0_6 a1) (fun x => .tup [.own 0,.i .i64 x.1]) fun x => [.row ti x.2 false]
def lv261 : Live := look ⟨[],[],[],[],[]⟩ []
def g261 (k : Nat) : FEnv := (addF 234 (sp234 k).fs (fun _=>none))
def sp261 (k : Nat) : SP := .mk [.rd,.rd] (dL ti true (dP 0 0 dN)) (oV 35 (cD (.sl ti) false cN) oN) fun (a0,_) ((o0,_),_) C => C _ (qdk.f k a0 o0) (fun x => .b x) fun x => [.var 35 [.dat (.sl ti) o0 false]]
def qnd : Live := look ⟨[],[],[],[],[]⟩ [(2,⟨[0,1,7,8],[],[4],[],[]⟩)]
def qoI (k : Nat) : FEnv := (addF 261 (sp261 k).fs (fun _=>none))
def qiK (k : Nat) : SP := .mk [.rd,.rd] (dL (.sl ti) true (dF 261 (cP 0 0 cN) dN)) (oV 35 (cD (.sl ti) false cN) oN) fun (a0,_,_) ((o0,_),_) C => C _ (qah.f k a0 o0) (fun x => .i .i64 x) fun x => [.var 35 [.dat (.sl ti) o0 false]]
def qpb : Live := look ⟨[],[],[],[],[]⟩ []
def qpM (k : Nat) : FEnv := (addF 220 (qiK k).fs (fun _=>none))
def qiM (k : Nat) : SP := .mk [.rd,.rd] (dL (.sl ti) true (dF 261 (cP 0 0 cN) dN)) (oV 35 (cD (.sl ti) false cN) oN) fun (a0,_,_) ((o0,_),_) C => C _ (qaT.f k a0 o0) (fun x => .b x) fun x => [.var 35 [.dat (.sl ti) o0 false]]
def lv229 : Live := look ⟨[],[],[],[],[]⟩ [(1000000,⟨[],[],[],[(2,0,.dat ti)],[]⟩)]
def g229 (k : Nat) : FEnv := (addF 189 (qiM k).fs (fun _=>none))
def sp229 (k : Nat) : SP := .mk [.st] (dL (.sl ti) false dN) oN fun (a0,_) _ C => C _ (qdy.f k a0) (fun x => .tup [.dat ti x.1 false,.i .i64 x.2]) fun x => []
theorem lp13000 (S : Seals) (k : Nat) : sp228.St tt (g228) lv228 Tryz.f228 k /\ (sp261 k).St tt (g261 k) lv261 Tryz.f261 k /\ (qiK k).St tt (qoI k) qnd Tryz.f220 k /\ (qiM k).St tt (qpM k) qpb Tryz.f189 k /\ (sp229 k).St tt (g229 k) lv229 Tryz.f229 k := by
 refine cu_ (A := ∀ (n : Nat) {x0 : List LI} {x7 x8 : Int} {y0 : List LI} {K : CK},S.lp tt (qoI k) qnd 1 n (loopN Tryz.f220 0) ⟨[(0,.dat (.sl ti) x0 true),(1,.fn 261 [.ptr 0 0]),(7,.i .i64 x7),(8,.i .i64 x8)],[(0,.var 35 [.dat (.sl ti) y0 false])],1,19⟩ K = bindO (qah.l0 k n x0 x7 x8 y0) (Sum.elim (fun x : Unit => K (.exit 0) ⟨[],[(0,.var 35 [.dat (.sl ti) y0 false])],1,19⟩) (fun x : Int => K .ret ⟨[(4,.i .i64 x)],[(0,.var 35 [.dat (.sl ti) y0 false])],1,19⟩))) (fun w220_2_0=>?_) (ind_ ?_ ?_)
 and_intros
 all_goals first|(dsimp only [SP.St,sp228,sp261,qiK,qiM,sp229,dN,dL,dI,dS,dP,dG,dF,cN,cD,cP,oN,oV]; intros; (first|unfold qee.f|unfold qdk.f|unfold qah.f|unfold qaT.f|unfold qdy.f); refine S.run_s rfl rfl ?_; (conv=>lhs;arg 5;whnf); conv=>lhs;arg 6;whnf)|(intros; rw [S.lp_zero]; exact qaR)|(intro n ih; intros; rw [qah.l0]; refine S.lp_succ ?_; conv=>lhs;arg 5;whnf)
 all_goals as_aux_lemma=>repeat' first|(first|refine S.seq_op rfl ?_|refine S.op_n ?_|refine S.block_x ?_|refine qcw ?_|refine qcx ?_|refine br_t (by assumption) ?_|refine br_f (by assumption) ?_|refine qbd (by with_reducible assumption) ?_|refine qcz fun _=>?_|refine qcv (fun _=>?_) (fun _=>?_)|refine br_d (fun _=>?_) (fun _=>?_)|refine br_n (fun _=>?_) (fun _=>?_)|refine br_c (fun _=>?_) (fun _=>?_)|refine qcr fun _=>?_|refine qbd (by assumption) ?_)<;>(conv=>lhs;whnf)|refine S.seq_nil ?_|refine S.reg_n ?_|refine S.region rfl ?_|refine S.two ?_|refine S.blok ?_|refine S.cond rfl ?_|refine S.after_n ?_|refine S.block_n ?_|refine S.block_r ?_|refine S.after_x ?_|refine S.after_r ?_|refine S.skip ?_|refine S.exit ?_|refine S.ret ?_|refine qco (fun _=>?_) (fun _=>?_)|refine S.region_d (id := 1) (ds := [0,1,3,7,15,31,63,31,159,415,927,31,2079,6175,14367,32767,65535,131071,262143,524287,1048575,2097151,4194303,8388607,16777215,33554431,67108863,134217727,268435455,536870911,67108863,1140850687,4294967295,8589934591]) (mds := [[],[],[],[],[],[],[],[],[],[],[],[],[],[],[],[],[],[],[],[],[],[],[],[],[],[],[],[],[],[],[],[],[],[]]) (hm := []) (by kernel_rfl) (by kernel_rfl) rfl rfl ?_|refine S.region_d (id := 4) (ds := [0,0,2,6,14,0,0,64,192,448,992,2016,0,4096,12288,28672,0,65536,196608,458752,1048544,2097151,4194303]) (mds := [[],[],[],[],[],[],[],[],[],[],[],[],[],[],[],[],[],[],[],[],[],[],[1]]) (hm := [(22,[1])]) (by kernel_rfl) (by kernel_rfl) rfl rfl ?_|exact ih|refine (w220_2_0 _).trans ?_|(first|refine S.loop ?_|refine S.back_n ?_|refine S.back_x ?_|refine S.back_r ?_|refine S.fin_r ?_|refine S.fin_n ?_|refine S.dk_n ?_|refine S.draw_nil ?_)<;>(conv=>lhs;whnf)|(refine S.draw_op ?_; conv => lhs; whnf; arg 1; whnf)|refine qbe ?_|refine qa2 ?_|refine qbO ?_|refine qaN ?_|exact qcq rfl|exact qaR
theorem snd228 : Sound Tryz.prog 228 sp228.fs := sn_ qal mixed Tryz.func228 (by kernel_rfl) rfl (qaa snd252 (qaa snd52 (qaa snd251 (qac _)))) (lp13000 seals 0).1
theorem snd261 (k : Nat) : Sound Tryz.prog 261 (sp261 k).fs := sn_ qal mixed Tryz.func261 (by kernel_rfl) rfl (qaa (snd234 k) (qac _)) (lp13000 seals k).2.1
theorem qnS (k : Nat) : Sound Tryz.prog 220 (qiK k).fs := sn_ qal mixed Tryz.func220 (by kernel_rfl) rfl (qaa (snd261 k) (qac _)) (lp13000 seals k).2.2.1
theorem qnU (k : Nat) : Sound Tryz.prog 189 (qiM k).fs := sn_ qal mixed Tryz.func189 (by kernel_rfl) rfl (qaa (qnS k) (qac _)) (lp13000 seals k).2.2.2.1
theorem snd229 (k : Nat) : Sound Tryz.prog 229 (sp229 k).fs := sn_ qal mixed Tryz.func229 (by kernel_rfl) rfl (qaa (qnU k) (qac _)) (lp13000 seals k).2.2.2.2
end
end Go.Vm
