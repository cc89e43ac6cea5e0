/- Own texts put together: the walks -/
import Derived.Test.YtjamdeehpblflaaGreatDoorWk0
import Derived.Test.YtjamdeehpblflaaGreatDoorWk3
import Derived.Test.YtjamdeehpblflaaGreatDoorVm1
set_option linter.unusedVariables false
set_option maxRecDepth 60000
set_option maxHeartbeats 40000000
namespace Go.Vm
open Go Go.Proofs Go.Pf
noncomputable section

def lv40 : Live := look ⟨[],[],[],[],[]⟩ []
def g40 (k : Nat) : FEnv := (addF 39 (sp39 k).fs (fun _=>none))
def sp40 (k : Nat) : SP := .mk [.rd,.rd] (dG (dI .i64 (dL ti true (dL ti true (dL ti true (dI .i64 (dI .i64 (dS dN))))))) (dG (dI .i64 (dL ti true (dL ti true (dL ti true (dI .i64 (dI .i64 (dS dN))))))) dN)) oN fun ((a0_0,a0_1,a0_2,a0_3,a0_4,a0_5,a0_6,_),(a1_0,a1_1,a1_2,a1_3,a1_4,a1_5,a1_6,_),_) _ C => C _ (qdK.f k a0_0 a0_1 a0_2 a0_3 a0_4 a0_5 a0_6 a1_0 a1_1 a1_2 a1_3 a1_4 a1_5 a1_6) (fun x => .b x) fun x => []
def lv16 : Live := look ⟨[],[],[],[],[]⟩ [(4,⟨[2,3,38,39],[],[4],[],[]⟩)]
def g16 (k : Nat) : FEnv := (addF 40 (sp40 k).fs (addF 39 (sp39 k).fs (fun _=>none)))
def sp16 (k : Nat) : SP := .mk [.rd,.rd] (dG (dL ti true (dS (dL (.pair ti (.pair (.sl ti) (.pair (.sl ti) (.pair (.sl ti) (.pair ti (.pair ti .str)))))) true (dL ti true dN)))) (dG (dL ti true (dS (dL (.pair ti (.pair (.sl ti) (.pair (.sl ti) (.pair (.sl ti) (.pair ti (.pair ti .str)))))) true (dL ti true dN)))) dN)) oN fun ((a0_0,a0_1,a0_2,a0_3,_),(a1_0,a1_1,a1_2,a1_3,_),_) _ C => C _ (qb4.f k a0_0 a0_1 a0_2 a0_3 a1_0 a1_1 a1_2 a1_3) (fun x => .b x) fun x => []
def lv33 : Live := look ⟨[],[],[],[],[]⟩ [(4,⟨[0,3,4,5],[0,3,4],[2],[(3,0,.own .str)],[]⟩),(1000000,⟨[],[],[],[(2,0,.fz .str)],[]⟩)]
def g33 : FEnv := (fun _=>none)
def sp33 (k : Nat) : SP := .mk [.rd] (dS dN) oN fun (a0,_) _ C => C _ (qa9.f k a0) (fun x => .dat .str x false) fun x => []
def lv55 : Live := look ⟨[],[],[],[],[]⟩ [(4,⟨[0,4,5,6],[0,4,5],[2,3],[(4,0,.own .str)],[]⟩)]
def g55 : FEnv := (fun _=>none)
def sp55 (k : Nat) : SP := .mk [.rd] (dS dN) oN fun (a0,_) _ C => C _ (qbL.f k a0) (fun x => .tup [.own 0,.b x.1]) fun x => [.row .str x.2 false]
def lv56 : Live := look ⟨[],[],[],[],[]⟩ []
def g56 : FEnv := (fun _=>none)
def sp56 : SP := .mk [.rd] (dP 0 0 dN) (oV 102 (cD .str false (cB cN)) oN) fun _ ((o0_0,o0_1,_),_) C => C _ (qaB.f o0_0 o0_1) (fun x => .s x.1) fun x => [.var 102 [.dat .str x.2.1 false,.b x.2.2]]
def lv18 : Live := look ⟨[],[],[],[],[]⟩ [(5,⟨[0,3,4],[0,3],[2],[],[]⟩)]
def g18 : FEnv := (fun _=>none)
def sp18 (k : Nat) : SP := .mk [.rd] (dI .i64 dN) oN fun (a0,_) _ C => C _ (qaE.f k a0) (fun x => .s x) fun x => []
def lv34 : Live := look ⟨[],[],[],[],[]⟩ [(5,⟨[0,4,5],[0,4],[2,3],[],[]⟩)]
def g34 (k : Nat) : FEnv := (addF 18 (sp18 k).fs (fun _=>none))
def sp34 (k : Nat) : SP := .mk [.rd] (dS dN) oN fun (a0,_) _ C => C _ (qaA.f k a0) (fun x => .tup [.i .i64 x.1,.b x.2]) fun x => []
def lv92 : Live := look ⟨[],[],[],[],[]⟩ []
def g92 (k : Nat) : FEnv := (addF 34 (sp34 k).fs (addF 56 sp56.fs (fun _=>none)))
def sp92 (k : Nat) : SP := .mk [.rd] (dP 0 0 dN) (oV 102 (cD .str false (cB cN)) oN) fun _ ((o0_0,o0_1,_),_) C => C _ (qbp.f k o0_0 o0_1) (fun x => .i .i64 x.1) fun x => [.var 102 [.dat .str x.2.1 false,.b x.2.2]]
theorem lp4000 (S : Seals) (k : Nat) : (sp40 k).St tt (g40 k) lv40 Tryz.f40 k ∧ (sp16 k).St tt (g16 k) lv16 Tryz.f16 k ∧ (sp33 k).St tt (g33) lv33 Tryz.f33 k ∧ (sp55 k).St tt (g55) lv55 Tryz.f55 k ∧ sp56.St tt (g56) lv56 Tryz.f56 k ∧ (sp18 k).St tt (g18) lv18 Tryz.f18 k ∧ (sp34 k).St tt (g34 k) lv34 Tryz.f34 k ∧ (sp92 k).St tt (g92 k) lv92 Tryz.f92 k := by
 refine cu_ (A := ∀ (n : Nat) {x38 x39 : Int} {y0_0 : LI} {y0_1 : ByteArray} {y0_2 : List LN} {y0_3 y1_0 : LI} {y1_1 : ByteArray} {y1_2 : List LN} {y1_3 : LI} {K : CK},S.lp tt (g16 k) lv16 0 n (loopN Tryz.f16 0) ⟨[(2,.ptr 0 0),(3,.ptr 1 0),(38,.i .i64 x38),(39,.i .i64 x39)],[(0,.var 28 [.dat ti y0_0 true,.s y0_1,.dat (.pair ti (.pair (.sl ti) (.pair (.sl ti) (.pair (.sl ti) (.pair ti (.pair ti .str)))))) y0_2 true,.dat ti y0_3 true]),(1,.var 28 [.dat ti y1_0 true,.s y1_1,.dat (.pair ti (.pair (.sl ti) (.pair (.sl ti) (.pair (.sl ti) (.pair ti (.pair ti .str)))))) y1_2 true,.dat ti y1_3 true])],2,55⟩ K = bindO (qb4.l0 k n x38 x39 y0_0 y0_1 y0_2 y0_3 y1_0 y1_1 y1_2 y1_3) (Sum.elim (fun x : Unit => K (.exit 0) ⟨[],[],0,55⟩) (fun x : Bool => K .ret ⟨[(4,.b x)],[],0,55⟩))) (fun w16_0=>?_) (ind_ ?_ ?_)
 refine cu_ (A := ∀ (n : Nat) {x0 : ByteArray} {x4 x5 : Int} {y0 : List ByteArray} {K : CK},S.lp tt (g33) lv33 0 n (loopN Tryz.f33 0) ⟨[(0,.s x0),(3,.own 0),(4,.i .i64 x4),(5,.i .i64 x5)],[(0,.row .str y0 false)],1,31⟩ K = bindO (qa9.l0 n x0 x4 x5 y0) (fun x : Int × (List ByteArray) => K (.exit 0) ⟨[(0,.s x0),(3,.own 0),(4,.i .i64 x.1)],[(0,.row .str x.2 false)],1,31⟩)) (fun w33_0=>?_) (ind_ ?_ ?_)
 refine cu_ (A := ∀ (n : Nat) {x0 : ByteArray} {x5 x6 : Int} {y0 : List ByteArray} {K : CK},S.lp tt (g55) lv55 0 n (loopN Tryz.f55 0) ⟨[(0,.s x0),(4,.own 0),(5,.i .i64 x5),(6,.i .i64 x6)],[(0,.row .str y0 false)],1,31⟩ K = bindO (qbL.l0 n x0 x5 x6 y0) (fun x : Int × (List ByteArray) => K (.exit 0) ⟨[(0,.s x0),(4,.own 0),(5,.i .i64 x.1)],[(0,.row .str x.2 false)],1,31⟩)) (fun w55_0=>?_) (ind_ ?_ ?_)
 refine cu_ (A := ∀ (n : Nat) {x0 : Int} {x3 : ByteArray} {x4 : Int} {K : CK},S.lp tt (g18) lv18 0 n (loopN Tryz.f18 0) ⟨[(0,.i .i64 x0),(3,.s x3),(4,.i .i64 x4)],[],0,30⟩ K = bindO (qaE.l0 n x0 x3 x4) (fun x : ByteArray => K (.exit 0) ⟨[(0,.i .i64 x0),(3,.s x)],[],0,30⟩)) (fun w18_0=>?_) (ind_ ?_ ?_)
 refine cu_ (A := ∀ (n : Nat) {x0 : ByteArray} {x4 x5 : Int} {K : CK},S.lp tt (g34 k) lv34 0 n (loopN Tryz.f34 0) ⟨[(0,.s x0),(4,.i .i64 x4),(5,.i .i64 x5)],[],0,55⟩ K = bindO (qaA.l0 n x0 x4 x5) (Sum.elim (fun x : Int => K (.exit 0) ⟨[(0,.s x0),(4,.i .i64 x)],[],0,55⟩) (fun x : Int × Bool => K .ret ⟨[(2,.i .i64 x.1),(3,.b x.2)],[],0,55⟩))) (fun w34_0=>?_) (ind_ ?_ ?_)
 and_intros
 all_goals first|(dsimp only [SP.St,sp40,sp16,sp33,sp55,sp56,sp18,sp34,sp92,dN,dL,dI,dS,dP,dG,cN,cD,cB,oN,oV]; intros; (first|unfold qdK.f|unfold qb4.f|unfold qa9.f|unfold qbL.f|unfold qaB.f|unfold qaE.f|unfold qaA.f|unfold qbp.f); refine S.run_s rfl rfl ?_; (conv=>lhs;arg 5;whnf); conv=>lhs;arg 6;whnf)|(intros; rw [S.lp_zero]; exact qaN)|(intro n ih; intros; (first|rw [qb4.l0]|rw [qa9.l0]|rw [qbL.l0]|rw [qaE.l0]|rw [qaA.l0]); refine S.lp_succ ?_; conv=>lhs;arg 5;whnf)
 all_goals repeat' first|(first|refine S.seq_op rfl ?_|refine S.op_n ?_|refine S.block_x ?_|refine qcC ?_|refine qcD ?_|refine br_t (by assumption) ?_|refine br_f (by assumption) ?_|refine qa8 (by with_reducible assumption) ?_|refine qcB (fun _=>?_) (fun _=>?_)|refine br_d (fun _=>?_) (fun _=>?_)|refine br_n (fun _=>?_) (fun _=>?_)|refine br_c (fun _=>?_) (fun _=>?_)|refine qcA fun _=>?_|refine qa8 (by assumption) ?_|refine qcE fun _=>?_)<;>(conv=>lhs;whnf)|refine S.seq_nil ?_|refine S.reg_n ?_|refine S.region rfl ?_|refine S.two ?_|refine S.blok ?_|refine S.cond rfl ?_|refine S.after_n ?_|refine S.block_n ?_|refine S.block_r ?_|refine S.after_x ?_|refine S.after_r ?_|refine S.skip ?_|refine S.exit ?_|refine S.ret ?_|refine qcy (fun _=>?_) (fun _=>?_)|exact ih|refine (w16_0 _).trans ?_|refine (w33_0 _).trans ?_|refine (w55_0 _).trans ?_|refine (w18_0 _).trans ?_|refine (w34_0 _).trans ?_|refine S.region_d (id := 6) (ds := [0,1,0,7,15,0,32,0,224,480,1023,2047]) (mds := [[],[],[],[],[],[],[],[],[],[],[],[]]) (hm := []) (by kernel_rfl) (by kernel_rfl) rfl rfl ?_|(first|refine S.loop ?_|refine S.back_n ?_|refine S.back_x ?_|refine S.back_r ?_|refine S.fin_r ?_|refine S.fin_n ?_|refine S.dk_n ?_|refine S.draw_nil ?_)<;>(conv=>lhs;whnf)|(refine S.draw_op ?_; conv => lhs; whnf; arg 1; whnf)|refine qbb ?_|refine qaT ?_|refine qbJ ?_|refine qaD ?_|exact qcz rfl|exact qaN
theorem snd40 (k : Nat) : Sound Tryz.prog 40 (sp40 k).fs := sn_ qah mixed Tryz.func40 (by kernel_rfl) rfl (qaa (snd39 k) (qab _)) (lp4000 seals k).1
theorem snd16 (k : Nat) : Sound Tryz.prog 16 (sp16 k).fs := sn_ qah mixed Tryz.func16 (by kernel_rfl) rfl (qaa (snd40 k) (qaa (snd39 k) (qab _))) (lp4000 seals k).2.1
theorem snd33 (k : Nat) : Sound Tryz.prog 33 (sp33 k).fs := sn_ qah mixed Tryz.func33 (by kernel_rfl) rfl (qab _) (lp4000 seals k).2.2.1
theorem snd55 (k : Nat) : Sound Tryz.prog 55 (sp55 k).fs := sn_ qah mixed Tryz.func55 (by kernel_rfl) rfl (qab _) (lp4000 seals k).2.2.2.1
theorem snd56 : Sound Tryz.prog 56 sp56.fs := sn_ qah mixed Tryz.func56 (by kernel_rfl) rfl (qab _) (lp4000 seals 0).2.2.2.2.1
theorem snd18 (k : Nat) : Sound Tryz.prog 18 (sp18 k).fs := sn_ qah mixed Tryz.func18 (by kernel_rfl) rfl (qab _) (lp4000 seals k).2.2.2.2.2.1
theorem snd34 (k : Nat) : Sound Tryz.prog 34 (sp34 k).fs := sn_ qah mixed Tryz.func34 (by kernel_rfl) rfl (qaa (snd18 k) (qab _)) (lp4000 seals k).2.2.2.2.2.2.1
theorem snd92 (k : Nat) : Sound Tryz.prog 92 (sp92 k).fs := sn_ qah mixed Tryz.func92 (by kernel_rfl) rfl (qaa (snd34 k) (qaa snd56 (qab _))) (lp4000 seals k).2.2.2.2.2.2.2
def lv57 : Live := look ⟨[],[],[],[],[]⟩ [(2,⟨[0,3],[3],[2],[(3,0,.own ti)],[]⟩)]
def g57 (k : Nat) : FEnv := (addF 92 (sp92 k).fs (fun _=>none))
def sp57 (k : Nat) : SP := .mk [.rd] (dP 0 0 dN) (oV 102 (cD .str false (cB cN)) oN) fun _ ((o0_0,o0_1,_),_) C => C _ (qap.f k o0_0 o0_1) (fun x => .own 1) fun x => [.var 102 [.dat .str x.1 false,.b x.2.1],.row ti x.2.2 false]
def lv45 : Live := look ⟨[],[],[],[],[]⟩ []
def g45 : FEnv := (fun _=>none)
def sp45 : SP := .mk [] dN oN fun _ _ C => C _ (qcZ.f) (fun x => .own 0) fun x => [.row .str x false]
def lv93 : Live := look ⟨[],[],[],[],[]⟩ [(2,⟨[0,5,6,7],[],[2],[],[]⟩)]
def g93 : FEnv := (addF 45 sp45.fs (fun _=>none))
def sp93 (k : Nat) : SP := .mk [.rd] (dS dN) oN fun (a0,_) _ C => C _ (qcq.f k a0) (fun x => .i .i64 x) fun x => []
def lv94 : Live := look ⟨[],[],[],[],[]⟩ [(3,⟨[0,3],[3],[2],[(3,0,.own ti)],[]⟩)]
def g94 (k : Nat) : FEnv := (addF 34 (sp34 k).fs (addF 56 sp56.fs (fun _=>none)))
def sp94 (k : Nat) : SP := .mk [.rd] (dP 0 0 dN) (oV 102 (cD .str false (cB cN)) oN) fun _ ((o0_0,o0_1,_),_) C => C _ (qat.f k o0_0 o0_1) (fun x => .own 1) fun x => [.var 102 [.dat .str x.1 false,.b x.2.1],.row ti x.2.2 false]
theorem lp4001 (S : Seals) (k : Nat) : (sp57 k).St tt (g57 k) lv57 Tryz.f57 k ∧ sp45.St tt (g45) lv45 Tryz.f45 k ∧ (sp93 k).St tt (g93) lv93 Tryz.f93 k ∧ (sp94 k).St tt (g94 k) lv94 Tryz.f94 k := by
 refine cu_ (A := ∀ (n : Nat) {y0_0 : List ByteArray} {y0_1 : Bool} {y1 : LI} {K : CK},S.lp tt (g57 k) lv57 1 n (loopN Tryz.f57 0) ⟨[(0,.ptr 0 0),(3,.own 1)],[(0,.var 102 [.dat .str y0_0 false,.b y0_1]),(1,.row ti y1 false)],2,23⟩ K = bindO (qap.l0 k n y0_0 y0_1 y1) (fun x : (List ByteArray) × Bool × LI => K (.exit 0) ⟨[(3,.own 1)],[(0,.var 102 [.dat .str x.1 false,.b x.2.1]),(1,.row ti x.2.2 false)],2,23⟩)) (fun w57_0=>?_) (ind_ ?_ ?_)
 refine cu_ (A := ∀ (n : Nat) {x0 : ByteArray} {x6 x7 : Int} {y0 : List ByteArray} {K : CK},S.lp tt (g93) lv93 0 n (loopN Tryz.f93 0) ⟨[(0,.s x0),(5,.own 0),(6,.i .i64 x6),(7,.i .i64 x7)],[(0,.row .str y0 false)],1,21⟩ K = bindO (qcq.l0 n x0 x6 x7 y0) (Sum.elim (fun x : Unit => K (.exit 0) ⟨[],[],0,21⟩) (fun x : Int => K .ret ⟨[(2,.i .i64 x)],[],0,21⟩))) (fun w93_0=>?_) (ind_ ?_ ?_)
 refine cu_ (A := ∀ (n : Nat) {y0_0 : List ByteArray} {y0_1 : Bool} {y1 : LI} {K : CK},S.lp tt (g94 k) lv94 1 n (loopN Tryz.f94 0) ⟨[(0,.ptr 0 0),(3,.own 1)],[(0,.var 102 [.dat .str y0_0 false,.b y0_1]),(1,.row ti y1 false)],2,49⟩ K = bindO (qat.l0 k n y0_0 y0_1 y1) (fun x : (List ByteArray) × Bool × LI => K (.exit 0) ⟨[(3,.own 1)],[(0,.var 102 [.dat .str x.1 false,.b x.2.1]),(1,.row ti x.2.2 false)],2,49⟩)) (fun w94_0=>?_) (ind_ ?_ ?_)
 and_intros
 all_goals first|(dsimp only [SP.St,sp57,sp45,sp93,sp94,dN,dS,dP,cN,cD,cB,oN,oV]; intros; (first|unfold qap.f|unfold qcZ.f|unfold qcq.f|unfold qat.f); refine S.run_s rfl rfl ?_; (conv=>lhs;arg 5;whnf); conv=>lhs;arg 6;whnf)|(intros; rw [S.lp_zero]; exact qaN)|(intro n ih; intros; (first|rw [qap.l0]|rw [qcq.l0]|rw [qat.l0]); refine S.lp_succ ?_; conv=>lhs;arg 5;whnf)
 all_goals repeat' first|(first|refine S.seq_op rfl ?_|refine S.op_n ?_|refine S.block_x ?_|refine qcC ?_|refine qcD ?_|refine br_t (by assumption) ?_|refine br_f (by assumption) ?_|refine qa8 (by with_reducible assumption) ?_|refine qcB (fun _=>?_) (fun _=>?_)|refine br_d (fun _=>?_) (fun _=>?_)|refine br_n (fun _=>?_) (fun _=>?_)|refine br_c (fun _=>?_) (fun _=>?_)|refine qcA fun _=>?_|refine qa8 (by assumption) ?_|refine qcE fun _=>?_)<;>(conv=>lhs;whnf)|refine S.seq_nil ?_|refine S.reg_n ?_|refine S.region rfl ?_|refine S.two ?_|refine S.blok ?_|refine S.cond rfl ?_|refine S.after_n ?_|refine S.block_n ?_|refine S.block_r ?_|refine S.after_x ?_|refine S.after_r ?_|refine S.skip ?_|refine S.exit ?_|refine S.ret ?_|refine qcy (fun _=>?_) (fun _=>?_)|exact ih|refine (w57_0 _).trans ?_|refine (w93_0 _).trans ?_|refine (w94_0 _).trans ?_|(first|refine S.loop ?_|refine S.back_n ?_|refine S.back_x ?_|refine S.back_r ?_|refine S.fin_r ?_|refine S.fin_n ?_|refine S.dk_n ?_|refine S.draw_nil ?_)<;>(conv=>lhs;whnf)|(refine S.draw_op ?_; conv => lhs; whnf; arg 1; whnf)|refine qbb ?_|refine qaT ?_|refine qbJ ?_|refine qaD ?_|exact qcz rfl|exact qaN
theorem snd57 (k : Nat) : Sound Tryz.prog 57 (sp57 k).fs := sn_ qah mixed Tryz.func57 (by kernel_rfl) rfl (qaa (snd92 k) (qab _)) (lp4001 seals k).1
theorem snd45 : Sound Tryz.prog 45 sp45.fs := sn_ qah mixed Tryz.func45 (by kernel_rfl) rfl (qab _) (lp4001 seals 0).2.1
theorem snd93 (k : Nat) : Sound Tryz.prog 93 (sp93 k).fs := sn_ qah mixed Tryz.func93 (by kernel_rfl) rfl (qaa snd45 (qab _)) (lp4001 seals k).2.2.1
theorem snd94 (k : Nat) : Sound Tryz.prog 94 (sp94 k).fs := sn_ qah mixed Tryz.func94 (by kernel_rfl) rfl (qaa (snd34 k) (qaa snd56 (qab _))) (lp4001 seals k).2.2.2
def lv58 : Live := look ⟨[],[],[],[],[]⟩ []
def g58 (k : Nat) : FEnv := (addF 92 (sp92 k).fs (addF 94 (sp94 k).fs (addF 93 (sp93 k).fs (addF 56 sp56.fs (addF 33 (sp33 k).fs (fun _=>none))))))
def sp58 (k : Nat) : SP := .mk [.rd] (dS dN) oN fun (a0,_) _ C => C _ (qef.f k a0) (fun x => .tup [.agg [.i .i64 x.1,.own 0,.own 1,.own 2,.i .i64 x.2.1,.i .i64 x.2.2.1,.s x.2.2.2.1],.b x.2.2.2.2.1]) fun x => [.row ti x.2.2.2.2.2.1 false,.row ti x.2.2.2.2.2.2.1 false,.row ti x.2.2.2.2.2.2.2 false]
def lv78 : Live := look ⟨[],[],[],[],[]⟩ []
def g78 : FEnv := (fun _=>none)
def sp78 : SP := .mk [.rd] (dI .i64 dN) oN fun (a0,_) _ C => C _ (qdJ.f a0) (fun x => .tup [.i .i64 x.1,.b x.2.1,.b x.2.2.1,.b x.2.2.2.1,.b x.2.2.2.2]) fun x => []
theorem lp4002 (S : Seals) (k : Nat) : (sp58 k).St tt (g58 k) lv58 Tryz.f58 k ∧ sp78.St tt (g78) lv78 Tryz.f78 k := by
 and_intros
 all_goals (dsimp only [SP.St,sp58,sp78,dN,dI,dS,oN]; intros; (first|unfold qef.f|unfold qdJ.f); refine S.run_s rfl rfl ?_; (conv=>lhs;arg 5;whnf); conv=>lhs;arg 6;whnf)
 all_goals repeat' first|(first|refine S.seq_op rfl ?_|refine S.op_n ?_|refine S.block_x ?_|refine qcC ?_|refine qcD ?_|refine br_t (by assumption) ?_|refine br_f (by assumption) ?_|refine qa8 (by with_reducible assumption) ?_|refine qcB (fun _=>?_) (fun _=>?_)|refine br_d (fun _=>?_) (fun _=>?_)|refine br_n (fun _=>?_) (fun _=>?_)|refine br_c (fun _=>?_) (fun _=>?_)|refine qcA fun _=>?_|refine qa8 (by assumption) ?_|refine qcE fun _=>?_)<;>(conv=>lhs;whnf)|refine S.seq_nil ?_|refine S.reg_n ?_|refine S.region rfl ?_|refine S.two ?_|refine S.blok ?_|refine S.cond rfl ?_|refine S.after_n ?_|refine S.block_n ?_|refine S.block_r ?_|refine S.after_x ?_|refine S.after_r ?_|refine S.skip ?_|refine S.exit ?_|refine S.ret ?_|refine qcy (fun _=>?_) (fun _=>?_)|refine S.region_d (id := 12) (ds := [0,0,2,6,14,30,62,126,254,510,1022,2046,4094,8190,16382,32766,65534,131070,262142,4095,1048575]) (mds := [[],[],[],[],[],[],[],[],[],[],[],[],[],[],[],[],[],[],[],[0,3,4,5],[]]) (hm := [(19,[0,3,4,5])]) (by kernel_rfl) (by kernel_rfl) rfl rfl ?_|(first|refine S.loop ?_|refine S.back_n ?_|refine S.back_x ?_|refine S.back_r ?_|refine S.fin_r ?_|refine S.fin_n ?_|refine S.dk_n ?_|refine S.draw_nil ?_)<;>(conv=>lhs;whnf)|(refine S.draw_op ?_; conv => lhs; whnf; arg 1; whnf)|refine qbb ?_|refine qaT ?_|refine qbJ ?_|refine qaD ?_|exact qcz rfl|exact qaN
theorem snd58 (k : Nat) : Sound Tryz.prog 58 (sp58 k).fs := sn_ qah mixed Tryz.func58 (by kernel_rfl) rfl (qaa (snd92 k) (qaa (snd94 k) (qaa (snd93 k) (qaa snd56 (qaa (snd33 k) (qab _)))))) (lp4002 seals k).1
theorem snd78 : Sound Tryz.prog 78 sp78.fs := sn_ qah mixed Tryz.func78 (by kernel_rfl) rfl (qab _) (lp4002 seals 0).2
def lv50 : Live := look ⟨[],[],[],[],[]⟩ []
def g50 : FEnv := (addF 78 sp78.fs (fun _=>none))
def sp50 : SP := .mk [.rd,.rd] (dG (dI .i64 (dL ti true (dL ti true (dL ti true (dI .i64 (dI .i64 (dS dN))))))) (dI .i64 dN)) oN fun ((a0_0,a0_1,a0_2,a0_3,a0_4,a0_5,a0_6,_),a1,_) _ C => C _ (qeg.f a0_0 a0_1 a0_2 a0_3 a0_4 a0_5 a0_6 a1) (fun x => .b x) fun x => []
def lv51 : Live := look ⟨[],[],[],[],[]⟩ [(3,⟨[0,3,4],[3],[2],[],[]⟩)]
def g51 : FEnv := (fun _=>none)
def sp51 (k : Nat) : SP := .mk [.rd] (dL ti true dN) oN fun (a0,_) _ C => C _ (qaF.f k a0) (fun x => .b x) fun x => []
def lv29 : Live := look ⟨[],[],[],[],[]⟩ [(5,⟨[0,3,4],[3],[2],[],[]⟩)]
def g29 (k : Nat) : FEnv := (addF 51 (sp51 k).fs (fun _=>none))
def sp29 (k : Nat) : SP := .mk [.rd] (dL ti true dN) oN fun (a0,_) _ C => C _ (qbU.f k a0) (fun x => .i .i64 x) fun x => []
theorem lp4003 (S : Seals) (k : Nat) : sp50.St tt (g50) lv50 Tryz.f50 k ∧ (sp51 k).St tt (g51) lv51 Tryz.f51 k ∧ (sp29 k).St tt (g29 k) lv29 Tryz.f29 k := by
 refine cu_ (A := ∀ (n : Nat) {x0 : LI} {x3 x4 : Int} {K : CK},S.lp tt (g51) lv51 0 n (loopN Tryz.f51 0) ⟨[(0,.dat ti x0 true),(3,.i .i64 x3),(4,.i .i64 x4)],[],0,35⟩ K = bindO (qaF.l0 n x0 x3 x4) (Sum.elim (fun x : Int => K (.exit 0) ⟨[(3,.i .i64 x)],[],0,35⟩) (fun x : Bool => K .ret ⟨[(2,.b x)],[],0,35⟩))) (fun w51_0=>?_) (ind_ ?_ ?_)
 refine cu_ (A := ∀ (n : Nat) {x0 : LI} {x3 x4 : Int} {K : CK},S.lp tt (g29 k) lv29 0 n (loopN Tryz.f29 0) ⟨[(0,.dat ti x0 true),(3,.i .i64 x3),(4,.i .i64 x4)],[],0,21⟩ K = bindO (qbU.l0 n x0 x3 x4) (fun x : Int => K (.exit 0) ⟨[(3,.i .i64 x)],[],0,21⟩)) (fun w29_0=>?_) (ind_ ?_ ?_)
 and_intros
 all_goals first|(dsimp only [SP.St,sp50,sp51,sp29,dN,dL,dI,dS,dG,oN]; intros; (first|unfold qeg.f|unfold qaF.f|unfold qbU.f); refine S.run_s rfl rfl ?_; (conv=>lhs;arg 5;whnf); conv=>lhs;arg 6;whnf)|(intros; rw [S.lp_zero]; exact qaN)|(intro n ih; intros; (first|rw [qaF.l0]|rw [qbU.l0]); refine S.lp_succ ?_; conv=>lhs;arg 5;whnf)
 all_goals repeat' first|(first|refine S.seq_op rfl ?_|refine S.op_n ?_|refine S.block_x ?_|refine qcC ?_|refine qcD ?_|refine br_t (by assumption) ?_|refine br_f (by assumption) ?_|refine qa8 (by with_reducible assumption) ?_|refine qcB (fun _=>?_) (fun _=>?_)|refine br_d (fun _=>?_) (fun _=>?_)|refine br_n (fun _=>?_) (fun _=>?_)|refine br_c (fun _=>?_) (fun _=>?_)|refine qcA fun _=>?_|refine qa8 (by assumption) ?_|refine qcE fun _=>?_)<;>(conv=>lhs;whnf)|refine S.seq_nil ?_|refine S.reg_n ?_|refine S.region rfl ?_|refine S.two ?_|refine S.blok ?_|refine S.cond rfl ?_|refine S.after_n ?_|refine S.block_n ?_|refine S.block_r ?_|refine S.after_x ?_|refine S.after_r ?_|refine S.skip ?_|refine S.exit ?_|refine S.ret ?_|refine qcy (fun _=>?_) (fun _=>?_)|exact ih|refine (w51_0 _).trans ?_|refine (w29_0 _).trans ?_|(first|refine S.loop ?_|refine S.back_n ?_|refine S.back_x ?_|refine S.back_r ?_|refine S.fin_r ?_|refine S.fin_n ?_|refine S.dk_n ?_|refine S.draw_nil ?_)<;>(conv=>lhs;whnf)|(refine S.draw_op ?_; conv => lhs; whnf; arg 1; whnf)|refine qbb ?_|refine qaT ?_|refine qbJ ?_|refine qaD ?_|exact qcz rfl|exact qaN
theorem snd50 : Sound Tryz.prog 50 sp50.fs := sn_ qah mixed Tryz.func50 (by kernel_rfl) rfl (qaa snd78 (qab _)) (lp4003 seals 0).1
theorem snd51 (k : Nat) : Sound Tryz.prog 51 (sp51 k).fs := sn_ qah mixed Tryz.func51 (by kernel_rfl) rfl (qab _) (lp4003 seals k).2.1
theorem snd29 (k : Nat) : Sound Tryz.prog 29 (sp29 k).fs := sn_ qah mixed Tryz.func29 (by kernel_rfl) rfl (qaa (snd51 k) (qab _)) (lp4003 seals k).2.2
end
end Go.Vm
