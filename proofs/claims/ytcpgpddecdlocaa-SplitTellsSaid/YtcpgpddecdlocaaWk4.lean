/- Own texts put together: the walks -/
import Derived.Test.YtcpgpddecdlocaaWk0
import Derived.Test.YtcpgpddecdlocaaWk3
import Derived.Test.YtcpgpddecdlocaaWk2
import Derived.Test.YtcpgpddecdlocaaWk1
import Derived.Test.YtcpgpddecdlocaaVm1
set_option linter.unusedVariables false
set_option maxRecDepth 60000
set_option maxHeartbeats 40000000
namespace Go.Vm
open Go Go.Proofs Go.Pf
noncomputable section

def lv23 : Live := look ⟨[],[],[],[],[]⟩ [(3,⟨[0,3,4],[3],[2],[(3,0,.own ti)],[]⟩)]
def g23 : FEnv := (addF 21 sp21.fs (fun _=>none))
def sp23 (k : Nat) : SP := .mk [.rd] (dP 0 0 dN) (oV (cD ti false (cI .i64 cN)) oN) fun _ ((o0_0,o0_1,_),_) C => C _ (qaz.f k o0_0 o0_1) (fun x => .own 1) fun x => [.var [.dat ti o0_0 false,.i .i64 x.1],.row ti x.2 false]
def lv24 : Live := look ⟨[],[],[],[],[]⟩ [(4,⟨[0,1,7,8,17,18],[7],[6],[],[]⟩)]
def g24 : FEnv := (addF 21 sp21.fs (fun _=>none))
def sp24 (k : Nat) : SP := .mk [.rd,.rd,.rd] (dP 0 0 (dL ti true (dI .i64 dN))) (oV (cD ti false (cI .i64 cN)) oN) fun (a1,a2,_) ((o0_0,o0_1,_),_) C => C _ (qao.f k a1 a2 o0_0 o0_1) (fun x => .own 1) fun x => [.var [.dat ti o0_0 false,.i .i64 x.1],.row ti x.2 false]
def lv7 : Live := look ⟨[],[],[],[],[]⟩ []
def g7 (k : Nat) : FEnv := (addF 24 (sp24 k).fs (addF 22 (sp22 k).fs (addF 23 (sp23 k).fs (addF 21 sp21.fs (fun _=>none)))))
def sp7 (k : Nat) : SP := .mk [.st] (dL ti false dN) oN fun (a0,_) _ C => C _ (qb5.f k a0) (fun x => .tup [.agg [.own 0,.own 1],.dat ti x.1 false,.own 2]) fun x => [.row ti x.2.1 false,.row ti x.2.2.1 false,.row ti x.2.2.2 false]
def lv27 : Live := look ⟨[],[],[],[],[]⟩ [(4,⟨[0,1,5],[],[4],[],[]⟩)]
def g27 (k : Nat) : FEnv := (addF 15 (sp15 k).fs (fun _=>none))
def sp27 (k : Nat) : SP := .mk [.rd,.rd] (dL (.pair (.sl ti) (.sl ti)) true (dL (.pair (.sl ti) (.sl ti)) true dN)) oN fun (a0,a1,_) _ C => C _ (qaL.f k a0 a1) (fun x => .b x) fun x => []
def lv9 : Live := look ⟨[],[],[],[],[]⟩ []
def g9 (k : Nat) : FEnv := (addF 27 (sp27 k).fs (addF 15 (sp15 k).fs (addF 10 (sp10 k).fs (addF 13 (sp13 k).fs (addF 26 (sp26 k).fs (addF 25 (sp25 k).fs (fun _=>none)))))))
def sp9 (k : Nat) : SP := .mk [.rd,.rd,.rd,.rd] (dG (dL ti true (dL ti true dN)) (dL ti true (dL ti true (dI .i64 dN)))) oN fun ((a0_0,a0_1,_),a1,a2,a3,_) _ C => C _ (qaB.f k a0_0 a0_1 a1 a2 a3) (fun x => .b x) fun x => []
def tth4 : Tab := tt ++ [⟨.other,0,0,[.own 75],none⟩]
theorem qiJ : TabOK Try.prog tth4 := qhW (by kernel_rfl)
def lv4 : Live := look ⟨[],[],[],[],[]⟩ []
def g4 (k : Nat) : FEnv := (addF 12 (sp12 k).fs (addF 11 (sp11 k).fs (addF 9 (sp9 k).fs (addF 10 (sp10 k).fs (addF 7 (sp7 k).fs (fun _=>none))))))
def sp4 (k : Nat) : SP := .mk [.st,.st,.st,.st,.st,.st,.st,.st,.st] (dL ti false (dG (dL ti false (dL ti false dN)) (dL ti false (dL ti false (dL ti false (dL (.pair (.sl ti) (.sl ti)) false (dI .i64 (dI .i64 (dI .i64 dN))))))))) oN fun (a0,(a1_0,a1_1,_),a2,a3,a4,a5,a6,a7,a8,_) _ C => C _ (qbj.f k a0 a1_0 a1_1 a2 a3 a4 a5 a6 a7 a8) (fun x => .b x) fun x => []
theorem lp4000 (S : Seals) (k : Nat) : (sp23 k).St tt (g23) lv23 Try.f23 k ∧ (sp24 k).St tt (g24) lv24 Try.f24 k ∧ (sp7 k).St tt (g7 k) lv7 Try.f7 k ∧ (sp27 k).St tt (g27 k) lv27 Try.f27 k ∧ (sp9 k).St tt (g9 k) lv9 Try.f9 k ∧ (sp4 k).St tth4 (g4 k) lv4 Try.f4 k := by
 refine cu_ (A := ∀ (n : Nat) {x4 : Int} {y0_0 : LI} {y0_1 : Int} {y1 : LI} {K : CK},S.lp tt (g23) lv23 1 n (loopN Try.f23 0) ⟨[(0,.ptr 0 0),(3,.own 1),(4,.i .i64 x4)],[(0,.var [.dat ti y0_0 false,.i .i64 y0_1]),(1,.row ti y1 false)],2,20⟩ K = bindO (qaz.l0 n x4 y0_0 y0_1 y1) (fun x : Int × LI => K (.exit 0) ⟨[(3,.own 1)],[(0,.var [.dat ti y0_0 false,.i .i64 x.1]),(1,.row ti x.2 false)],2,20⟩)) (fun w23_0=>?_) (ind_ ?_ ?_)
 refine cu_ (A := ∀ (n : Nat) {x1 : LI} {x17 x18 : Int} {y0_0 : LI} {y0_1 : Int} {y1 : LI} {y2 : List Bool} {K : CK},S.lp tt (g24) lv24 1 n (loopN Try.f24 0) ⟨[(0,.ptr 0 0),(1,.dat ti x1 true),(7,.own 1),(8,.own 2),(17,.i .i64 x17),(18,.i .i64 x18)],[(0,.var [.dat ti y0_0 false,.i .i64 y0_1]),(1,.row ti y1 false),(2,.row .bool y2 false)],3,50⟩ K = bindO (qao.l0 n x1 x17 x18 y0_0 y0_1 y1 y2) (fun x : Int × LI => K (.exit 0) ⟨[(7,.own 1)],[(0,.var [.dat ti y0_0 false,.i .i64 x.1]),(1,.row ti x.2 false)],2,50⟩)) (fun w24_0=>?_) (ind_ ?_ ?_)
 refine cu_ (A := ∀ (n : Nat) {x0 x1 : List LT} {x5 : Int} {K : CK},S.lp tt (g27 k) lv27 0 n (loopN Try.f27 0) ⟨[(0,.dat (.pair (.sl ti) (.sl ti)) x0 true),(1,.dat (.pair (.sl ti) (.sl ti)) x1 true),(5,.i .i64 x5)],[],0,27⟩ K = bindO (qaL.l0 k n x0 x1 x5) (Sum.elim (fun x : Unit => K (.exit 0) ⟨[],[],0,27⟩) (fun x : Bool => K .ret ⟨[(4,.b x)],[],0,27⟩))) (fun w27_0=>?_) (ind_ ?_ ?_)
 and_intros
 all_goals first|(dsimp only [SP.St,sp23,sp24,sp7,sp27,sp9,sp4,dN,dL,dI,dP,dG,cN,cD,cI,oN,oV]; intros; (first|unfold qaz.f|unfold qao.f|unfold qb5.f|unfold qaL.f|unfold qaB.f|unfold qbj.f); refine S.run_s rfl rfl ?_; (conv=>lhs;arg 5;whnf); conv=>lhs;arg 6;whnf)|(intros; rw [S.lp_zero]; exact qbh)|(intro n ih; intros; (first|rw [qaz.l0]|rw [qao.l0]|rw [qaL.l0]); refine S.lp_succ ?_; conv=>lhs;arg 5;whnf)
 all_goals repeat' first|(first|refine S.seq_op rfl ?_|refine S.op_n ?_|refine S.block_x ?_|refine qen ?_|refine qeo ?_|refine br_t (by assumption) ?_|refine br_f (by assumption) ?_|refine qbC (by with_reducible assumption) ?_|refine qem (fun _=>?_) (fun _=>?_)|refine br_d (fun _=>?_) (fun _=>?_)|refine br_n (fun _=>?_) (fun _=>?_)|refine br_c (fun _=>?_) (fun _=>?_)|refine qdW fun _=>?_|refine qbC (by assumption) ?_|refine qep fun _=>?_)<;>(conv=>lhs;whnf)|refine S.seq_nil ?_|refine S.reg_n ?_|refine S.region rfl ?_|refine S.two ?_|refine S.blok ?_|refine S.cond rfl ?_|refine S.after_n ?_|refine S.block_n ?_|refine S.block_r ?_|refine S.after_x ?_|refine S.after_r ?_|refine S.skip ?_|refine S.exit ?_|refine S.ret ?_|refine qdF (fun _=>?_) (fun _=>?_)|exact ih|refine (w23_0 _).trans ?_|refine (w24_0 _).trans ?_|refine (w27_0 _).trans ?_|refine S.region_d (id := 4) (ds := [0,0,0,0,0,16,48,124,253,511,1023]) (mds := [[],[],[],[],[],[],[],[1],[0,11,12],[],[]]) (hm := [(7,[1]),(8,[0,11,12])]) (by kernel_rfl) (by kernel_rfl) rfl rfl ?_|refine S.region_d (id := 6) (ds := [0,0,3,7,0,0,48,112,255,511]) (mds := [[],[],[],[],[],[],[],[],[],[]]) (hm := []) (by kernel_rfl) (by kernel_rfl) rfl rfl ?_|refine S.region_d (id := 8) (ds := [0,0,0,0,12,28,60,0,0,0,768,1792,3840,8064,16380,32767,65535]) (mds := [[],[],[],[],[],[],[],[],[],[],[],[],[],[],[],[],[7]]) (hm := [(16,[7])]) (by kernel_rfl) (by kernel_rfl) rfl rfl ?_|(first|refine S.loop ?_|refine S.back_n ?_|refine S.back_x ?_|refine S.back_r ?_|refine S.fin_r ?_|refine S.fin_n ?_|refine S.dk_n ?_|refine S.draw_nil ?_)<;>(conv=>lhs;whnf)|exact qdV rfl|exact qbh|(refine S.draw_op ?_; conv => lhs; whnf; arg 1; whnf)|refine qbG ?_|refine qbr ?_|refine qcj ?_|refine qbb ?_
theorem snd23 (k : Nat) : Sound Try.prog 23 (sp23 k).fs := sn_ qak mixed Try.func23 (by kernel_rfl) rfl (qaa snd21 (qab _)) (lp4000 seals k).1
theorem snd24 (k : Nat) : Sound Try.prog 24 (sp24 k).fs := sn_ qak mixed Try.func24 (by kernel_rfl) rfl (qaa snd21 (qab _)) (lp4000 seals k).2.1
theorem snd7 (k : Nat) : Sound Try.prog 7 (sp7 k).fs := sn_ qak mixed Try.func7 (by kernel_rfl) rfl (qaa (snd24 k) (qaa (snd22 k) (qaa (snd23 k) (qaa snd21 (qab _))))) (lp4000 seals k).2.2.1
theorem r7 (S : Seals) (k : Nat) (a0 : LI) : runF tt (g7 k) lv7 Try.f7 k [.dat ti a0 false] [] = bindO (qb5.f k a0) (fun x : LI × LI × LI × LI => some (.tup [.agg [.own 0,.own 1],.dat ti x.1 false,.own 2],[.row ti x.2.1 false,.row ti x.2.2.1 false,.row ti x.2.2.2 false])) := (lp4000 S k).2.2.1 a0
theorem snd27 (k : Nat) : Sound Try.prog 27 (sp27 k).fs := sn_ qak mixed Try.func27 (by kernel_rfl) rfl (qaa (snd15 k) (qab _)) (lp4000 seals k).2.2.2.1
theorem snd9 (k : Nat) : Sound Try.prog 9 (sp9 k).fs := sn_ qak mixed Try.func9 (by kernel_rfl) rfl (qaa (snd27 k) (qaa (snd15 k) (qaa (snd10 k) (qaa (snd13 k) (qaa (snd26 k) (qaa (snd25 k) (qab _))))))) (lp4000 seals k).2.2.2.2.1
theorem en4 (k : Nat) : EnvOK Try.prog (g4 k) := (qaa (snd12 k) (qaa (snd11 k) (qaa (snd9 k) (qaa (snd10 k) (qaa (snd7 k) (qab _))))))
theorem snd4 (k : Nat) : Sound Try.prog 4 (sp4 k).fs := sn_ qiJ mixed Try.func4 (by kernel_rfl) rfl (qaa (snd12 k) (qaa (snd11 k) (qaa (snd9 k) (qaa (snd10 k) (qaa (snd7 k) (qab _)))))) (lp4000 seals k).2.2.2.2.2
theorem r4 (S : Seals) (k : Nat) (a0 a1_0 : LI) (a1_1 a2 : LI) (a3 a4 : LI) (a5 : List LT) (a6 a7 a8 : Int) : runF tth4 (g4 k) lv4 Try.f4 k [.dat ti a0 false,.agg [.dat ti a1_0 false,.dat ti a1_1 false],.dat ti a2 false,.dat ti a3 false,.dat ti a4 false,.dat (.pair (.sl ti) (.sl ti)) a5 false,.i .i64 a6,.i .i64 a7,.i .i64 a8] [] = bindO (qbj.f k a0 a1_0 a1_1 a2 a3 a4 a5 a6 a7 a8) (fun x : Bool => some (.b x,[])) := (lp4000 S k).2.2.2.2.2 a0 a1_0 a1_1 a2 a3 a4 a5 a6 a7 a8
end
end Go.Vm
