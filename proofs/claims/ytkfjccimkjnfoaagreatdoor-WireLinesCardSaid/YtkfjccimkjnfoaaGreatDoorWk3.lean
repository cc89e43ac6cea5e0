/- Own texts put together: the walks -/
import Derived.Test.YtkfjccimkjnfoaaGreatDoorWk0
import Derived.Test.YtkfjccimkjnfoaaGreatDoorWk2
import Derived.Test.YtkfjccimkjnfoaaGreatDoorVm1
set_option linter.unusedVariables false
set_option maxRecDepth 60000
set_option maxHeartbeats 40000000
namespace Go.Vm
open Go Go.Proofs Go.Pf
noncomputable section

def lv13 : Live := look ⟨[],[],[],[],[]⟩ [(6,⟨[1,4,6,30,31,32],[1,6],[2,3],[],[]⟩),(13,⟨[9,57,58,59],[9],[2,3],[(9,0,.selfp 7),(9,1,.own (.int .u8))],[]⟩)]
def g13 (k : Nat) : FEnv := (addF 31 sp31 (addF 30 sp30 (addF 28 qmb (addF 29 sp29 (addF 27 (sp27 k).fs (addF 26 (sp26 k).fs (addF 25 sp25.fs (addF 24 (sp24 k).fs (fun _=>none)))))))))
def sp13 (k : Nat) : SP := .mk [.st] (dG (dL ti false (dS (dL (.pair ti (.pair (.sl ti) (.pair (.sl ti) (.pair (.sl ti) (.pair ti (.pair ti .str)))))) false (dL ti false dN)))) dN) oN fun ((a0_0,a0_1,a0_2,a0_3,_),_) _ C => C _ (qaS.f k a0_0 a0_1 a0_2 a0_3) (fun x => .tup [.s x.1,.i .i64 x.2]) fun x => []
def lv12 : Live := look ⟨[],[],[],[],[]⟩ []
def g12 (k : Nat) : FEnv := (addF 10 sp10.fs (addF 8 sp8.fs (addF 13 (sp13 k).fs (fun _=>none))))
def sp12 (k : Nat) : SP := .mk [] dN oN fun _ _ C => C _ (qcO.f k) (fun x => .b x) fun x => []
def lv35 : Live := look ⟨[],[],[],[],[]⟩ []
def g35 : FEnv := (fun _=>none)
def sp35 : SP := .mk [.rd,.rd,.rd] (dI .i64 (dI .i64 (dI .i64 dN))) oN fun (a0,a1,a2,_) _ C => C _ (qdm.f a0 a1 a2) (fun x => .i .i64 x) fun x => []
def lv16 : Live := look ⟨[],[],[],[],[]⟩ []
def g16 : FEnv := (addF 35 sp35.fs (fun _=>none))
def sp16 : SP := .mk [.rd,.rd] (dP 0 0 (dI .i64 dN)) (oV 41 (cD ti false (cI .i64 cN)) oN) fun (a1,_) ((o0_0,o0_1,_),_) C => C _ (qac.f a1 o0_0 o0_1) (fun x => .i .i64 x.1) fun x => [.var 41 [.dat ti o0_0 false,.i .i64 x.2]]
def lv15 : Live := look ⟨[],[],[],[],[]⟩ []
def g15 : FEnv := (addF 16 sp16.fs (fun _=>none))
def sp15 : SP := .mk [.rd] (dP 0 0 dN) (oV 41 (cD ti false (cI .i64 cN)) oN) fun _ ((o0_0,o0_1,_),_) C => C _ (qb1.f o0_0 o0_1) (fun x => .tup [.own 1,.s x.1]) fun x => [.var 41 [.dat ti o0_0 false,.i .i64 x.2.1],.row ti x.2.2 false]
def lv36 : Live := look ⟨[],[],[],[],[]⟩ [(3,⟨[0,3,4],[3],[2],[(3,0,.own ti)],[]⟩)]
def g36 : FEnv := (addF 16 sp16.fs (fun _=>none))
def sp36 (k : Nat) : SP := .mk [.rd] (dP 0 0 dN) (oV 41 (cD ti false (cI .i64 cN)) oN) fun _ ((o0_0,o0_1,_),_) C => C _ (qav.f k o0_0 o0_1) (fun x => .own 1) fun x => [.var 41 [.dat ti o0_0 false,.i .i64 x.1],.row ti x.2 false]
def lv37 : Live := look ⟨[],[],[],[],[]⟩ []
def g37 : FEnv := (addF 16 sp16.fs (fun _=>none))
def sp37 : SP := .mk [.rd] (dP 0 0 dN) (oV 41 (cD ti false (cI .i64 cN)) oN) fun _ ((o0_0,o0_1,_),_) C => C _ (qa6.f o0_0 o0_1) (fun x => .i .i64 x.1) fun x => [.var 41 [.dat ti o0_0 false,.i .i64 x.2]]
def lv56 : Live := look ⟨[],[],[],[],[]⟩ [(4,⟨[0,1,5],[],[4],[],[]⟩)]
def g56 : FEnv := (fun _=>none)
def sp56 (k : Nat) : SP := .mk [.rd,.rd] (dL ti true (dL ti true dN)) oN fun (a0,a1,_) _ C => C _ (qbQ.f k a0 a1) (fun x => .b x) fun x => []
def lv38 : Live := look ⟨[],[],[],[],[]⟩ [(3,⟨[0,1,5,8,9],[5],[4],[(5,0,.own ti)],[]⟩)]
def g38 (k : Nat) : FEnv := (addF 56 (sp56 k).fs (fun _=>none))
def sp38 (k : Nat) : SP := .mk [.rd,.rd] (dL (.sl ti) true (dL ti true dN)) oN fun (a0,a1,_) _ C => C _ (qbs.f k a0 a1) (fun x => .own 0) fun x => [.row ti x false]
theorem lp3000 (S : Seals) (k : Nat) : (sp13 k).St tt (g13 k) lv13 Tryz.f13 k ∧ (sp12 k).St tt (g12 k) lv12 Tryz.f12 k ∧ sp35.St tt (g35) lv35 Tryz.f35 k ∧ sp16.St tt (g16) lv16 Tryz.f16 k ∧ sp15.St tt (g15) lv15 Tryz.f15 k ∧ (sp36 k).St tt (g36) lv36 Tryz.f36 k ∧ sp37.St tt (g37) lv37 Tryz.f37 k ∧ (sp56 k).St tt (g56) lv56 Tryz.f56 k ∧ (sp38 k).St tt (g38 k) lv38 Tryz.f38 k := by
 refine cu_ (A := ∀ (n : Nat) {x30 : List LN} {x31 x32 : Int} {y0_0 : LI} {y0_1 : ByteArray} {y0_2 : List LN} {y0_3 : LI} {y1 : List LI} {y2 : List (List ByteArray)} {K : CK},S.lp tt (g13 k) lv13 0 n (loopN Tryz.f13 0) ⟨[(1,.ptr 0 0),(4,.own 1),(6,.own 2),(30,.dat (.pair ti (.pair (.sl ti) (.pair (.sl ti) (.pair (.sl ti) (.pair ti (.pair ti .str)))))) x30 false),(31,.i .i64 x31),(32,.i .i64 x32)],[(0,.var 26 [.dat ti y0_0 false,.s y0_1,.dat (.pair ti (.pair (.sl ti) (.pair (.sl ti) (.pair (.sl ti) (.pair ti (.pair ti .str)))))) y0_2 false,.dat ti y0_3 false]),(1,.row (.sl ti) y1 false),(2,.row (.sl .str) y2 false)],3,71⟩ K = bindO (qaS.l0 k n x30 x31 x32 y0_0 y0_1 y0_2 y0_3 y1 y2) (fun x : (List (List ByteArray)) => K (.exit 0) ⟨[(1,.ptr 0 0),(6,.own 1)],[(0,.var 26 [.dat ti y0_0 false,.s y0_1,.dat (.pair ti (.pair (.sl ti) (.pair (.sl ti) (.pair (.sl ti) (.pair ti (.pair ti .str)))))) y0_2 false,.dat ti y0_3 false]),(1,.row (.sl .str) x false)],2,71⟩)) (fun w13_0=>?_) (ind_ ?_ ?_)
 refine cu_ (A := ∀ (n : Nat) {x58 x59 : Int} {y1 : List (List ByteArray)} {y2 : LI} {K : CK},S.lp tt (g13 k) lv13 0 n (loopN Tryz.f13 1) ⟨[(9,.ptr 0 0),(57,.own 1),(58,.i .i64 x58),(59,.i .i64 x59)],[(0,.var 64 [.optp 0,.own 2]),(1,.row (.sl .str) y1 false),(2,.row (.int .u8) y2 false)],3,71⟩ K = bindO (qaS.l1 n x58 x59 y1 y2) (fun x : LI => K (.exit 2) ⟨[(9,.ptr 0 0)],[(0,.var 64 [.optp 0,.own 1]),(1,.row (.int .u8) x false)],2,71⟩)) (fun w13_1=>?_) (ind_ ?_ ?_)
 refine cu_ (A := ∀ (n : Nat) {x4 : Int} {y0_0 : LI} {y0_1 : Int} {y1 : LI} {K : CK},S.lp tt (g36) lv36 1 n (loopN Tryz.f36 0) ⟨[(0,.ptr 0 0),(3,.own 1),(4,.i .i64 x4)],[(0,.var 41 [.dat ti y0_0 false,.i .i64 y0_1]),(1,.row ti y1 false)],2,20⟩ K = bindO (qav.l0 n x4 y0_0 y0_1 y1) (fun x : Int × LI => K (.exit 0) ⟨[(3,.own 1)],[(0,.var 41 [.dat ti y0_0 false,.i .i64 x.1]),(1,.row ti x.2 false)],2,20⟩)) (fun w36_0=>?_) (ind_ ?_ ?_)
 refine cu_ (A := ∀ (n : Nat) {x0 x1 : LI} {x5 : Int} {K : CK},S.lp tt (g56) lv56 0 n (loopN Tryz.f56 0) ⟨[(0,.dat ti x0 true),(1,.dat ti x1 true),(5,.i .i64 x5)],[],0,26⟩ K = bindO (qbQ.l0 n x0 x1 x5) (Sum.elim (fun x : Unit => K (.exit 0) ⟨[],[],0,26⟩) (fun x : Bool => K .ret ⟨[(4,.b x)],[],0,26⟩))) (fun w56_0=>?_) (ind_ ?_ ?_)
 refine cu_ (A := ∀ (n : Nat) {x0 : List LI} {x1 : LI} {x8 x9 : Int} {y0 : LI} {K : CK},S.lp tt (g38 k) lv38 0 n (loopN Tryz.f38 0) ⟨[(0,.dat (.sl ti) x0 true),(1,.dat ti x1 true),(5,.own 0),(8,.i .i64 x8),(9,.i .i64 x9)],[(0,.row ti y0 false)],1,24⟩ K = bindO (qbs.l0 k n x0 x1 x8 x9 y0) (fun x : LI => K (.exit 0) ⟨[(5,.own 0)],[(0,.row ti x false)],1,24⟩)) (fun w38_0=>?_) (ind_ ?_ ?_)
 and_intros
 all_goals first|(dsimp only [SP.St,sp13,sp12,sp35,sp16,sp15,sp36,sp37,sp56,sp38,dN,dL,dI,dS,dP,dG,cN,cD,cI,oN,oV]; intros; (first|unfold qaS.f|unfold qcO.f|unfold qdm.f|unfold qac.f|unfold qb1.f|unfold qav.f|unfold qa6.f|unfold qbQ.f|unfold qbs.f); refine S.run_s rfl rfl ?_; (conv=>lhs;arg 5;whnf); conv=>lhs;arg 6;whnf)|(intros; rw [S.lp_zero]; exact qa0)|(intro n ih; intros; (first|rw [qaS.l0]|rw [qaS.l1]|rw [qav.l0]|rw [qbQ.l0]|rw [qbs.l0]); refine S.lp_succ ?_; conv=>lhs;arg 5;whnf)
 all_goals repeat' first|(first|refine S.seq_op rfl ?_|refine S.op_n ?_|refine S.block_x ?_|refine qcG ?_|refine qcH ?_|refine br_t (by assumption) ?_|refine br_f (by assumption) ?_|refine qbo (by with_reducible assumption) ?_|refine qcF (fun _=>?_) (fun _=>?_)|refine br_d (fun _=>?_) (fun _=>?_)|refine br_n (fun _=>?_) (fun _=>?_)|refine br_c (fun _=>?_) (fun _=>?_)|refine qcE fun _=>?_|refine qbo (by assumption) ?_|refine qcI fun _=>?_)<;>(conv=>lhs;whnf)|refine S.seq_nil ?_|refine S.reg_n ?_|refine S.region rfl ?_|refine S.two ?_|refine S.blok ?_|refine S.cond rfl ?_|refine S.after_n ?_|refine S.block_n ?_|refine S.block_r ?_|refine S.after_x ?_|refine S.after_r ?_|refine S.skip ?_|refine S.exit ?_|refine S.ret ?_|refine qcC (fun _=>?_) (fun _=>?_)|refine S.region_d (id := 8) (ds := [0,0,0,0,0,24,56,120,254,510,1023,2047]) (mds := [[],[],[],[],[],[],[],[],[],[],[2],[]]) (hm := [(10,[2])]) (by kernel_rfl) (by kernel_rfl) rfl rfl ?_|exact ih|refine (w13_0 _).trans ?_|refine (w13_1 _).trans ?_|refine (w36_0 _).trans ?_|refine (w56_0 _).trans ?_|refine (w38_0 _).trans ?_|refine S.region_d (id := 4) (ds := [0,1,3,7,0,16,55,127,255,511]) (mds := [[],[],[],[],[],[],[],[],[],[]]) (hm := []) (by kernel_rfl) (by kernel_rfl) rfl rfl ?_|refine S.region_d (id := 1) (ds := [0,1,3,7,0,16,48,112,240,511,1023,2047,4095,8191]) (mds := [[],[],[],[],[],[],[],[],[],[],[],[],[],[]]) (hm := []) (by kernel_rfl) (by kernel_rfl) rfl rfl ?_|refine S.region_d (id := 4) (ds := [0,1,3,7,0,16,48,112,240,511,1023,2047,0,8191,16383]) (mds := [[],[],[],[],[],[],[],[],[],[],[],[],[],[],[]]) (hm := []) (by kernel_rfl) (by kernel_rfl) rfl rfl ?_|refine S.region_d (id := 6) (ds := [0,0,3,7,0,0,48,112,255]) (mds := [[],[],[],[],[],[],[],[],[]]) (hm := []) (by kernel_rfl) (by kernel_rfl) rfl rfl ?_|(first|refine S.loop ?_|refine S.back_n ?_|refine S.back_x ?_|refine S.back_r ?_|refine S.fin_r ?_|refine S.fin_n ?_|refine S.dk_n ?_|refine S.draw_nil ?_)<;>(conv=>lhs;whnf)|exact qcD rfl|exact qa0|(refine S.draw_op ?_; conv => lhs; whnf; arg 1; whnf)|refine qbp ?_|refine qa4 ?_|refine qb2 ?_|refine qaT ?_
theorem snd13 (k : Nat) : Sound Tryz.prog 13 (sp13 k).fs := sn_ qaj mixed Tryz.func13 (by kernel_rfl) rfl (qaa snd31 (qaa snd30 (qaa qoo (qaa snd29 (qaa (snd27 k) (qaa (snd26 k) (qaa snd25 (qaa (snd24 k) (qab _))))))))) (lp3000 seals k).1
theorem snd12 (k : Nat) : Sound Tryz.prog 12 (sp12 k).fs := sn_ qaj mixed Tryz.func12 (by kernel_rfl) rfl (qaa snd10 (qaa snd8 (qaa (snd13 k) (qab _)))) (lp3000 seals k).2.1
theorem snd35 : Sound Tryz.prog 35 sp35.fs := sn_ qaj mixed Tryz.func35 (by kernel_rfl) rfl (qab _) (lp3000 seals 0).2.2.1
theorem snd16 : Sound Tryz.prog 16 sp16.fs := sn_ qaj mixed Tryz.func16 (by kernel_rfl) rfl (qaa snd35 (qab _)) (lp3000 seals 0).2.2.2.1
theorem snd15 : Sound Tryz.prog 15 sp15.fs := sn_ qaj mixed Tryz.func15 (by kernel_rfl) rfl (qaa snd16 (qab _)) (lp3000 seals 0).2.2.2.2.1
theorem snd36 (k : Nat) : Sound Tryz.prog 36 (sp36 k).fs := sn_ qaj mixed Tryz.func36 (by kernel_rfl) rfl (qaa snd16 (qab _)) (lp3000 seals k).2.2.2.2.2.1
theorem snd37 : Sound Tryz.prog 37 sp37.fs := sn_ qaj mixed Tryz.func37 (by kernel_rfl) rfl (qaa snd16 (qab _)) (lp3000 seals 0).2.2.2.2.2.2.1
theorem snd56 (k : Nat) : Sound Tryz.prog 56 (sp56 k).fs := sn_ qaj mixed Tryz.func56 (by kernel_rfl) rfl (qab _) (lp3000 seals k).2.2.2.2.2.2.2.1
theorem snd38 (k : Nat) : Sound Tryz.prog 38 (sp38 k).fs := sn_ qaj mixed Tryz.func38 (by kernel_rfl) rfl (qaa (snd56 k) (qab _)) (lp3000 seals k).2.2.2.2.2.2.2.2
def lv57 : Live := look ⟨[],[],[],[],[]⟩ []
def g57 : FEnv := (fun _=>none)
def sp57 : SP := .mk [.rd] (dI .i64 dN) oN fun (a0,_) _ C => C _ (qdd.f a0) (fun x => .tup [.i .i64 x.1,.b x.2.1,.b x.2.2.1,.b x.2.2.2.1,.b x.2.2.2.2]) fun x => []
def lv40 : Live := look ⟨[],[],[],[],[]⟩ []
def g40 : FEnv := (addF 57 sp57.fs (fun _=>none))
def sp40 : SP := .mk [.rd,.rd] (dG (dI .i64 (dL ti true (dL ti true (dL ti true (dI .i64 (dI .i64 (dS dN))))))) (dI .i64 dN)) oN fun ((a0_0,a0_1,a0_2,a0_3,a0_4,a0_5,a0_6,_),a1,_) _ C => C _ (qdB.f a0_0 a0_1 a0_2 a0_3 a0_4 a0_5 a0_6 a1) (fun x => .b x) fun x => []
def lv41 : Live := look ⟨[],[],[],[],[]⟩ [(3,⟨[0,3,4],[3],[2],[],[]⟩)]
def g41 : FEnv := (fun _=>none)
def sp41 (k : Nat) : SP := .mk [.rd] (dL ti true dN) oN fun (a0,_) _ C => C _ (qaB.f k a0) (fun x => .b x) fun x => []
def lv19 : Live := look ⟨[],[],[],[],[]⟩ [(5,⟨[0,3,4],[3],[2],[],[]⟩)]
def g19 (k : Nat) : FEnv := (addF 41 (sp41 k).fs (fun _=>none))
def sp19 (k : Nat) : SP := .mk [.rd] (dL ti true dN) oN fun (a0,_) _ C => C _ (qbA.f k a0) (fun x => .i .i64 x) fun x => []
def lv42 : Live := look ⟨[],[],[],[],[]⟩ [(3,⟨[0,1,4,5,6],[4,5],[4],[(5,1,.own ti)],[]⟩)]
def g42 (k : Nat) : FEnv := (addF 19 (sp19 k).fs (fun _=>none))
def sp42 (k : Nat) : SP := .mk [.rd,.rd] (dL ti true (dI .i64 dN)) oN fun (a0,a1,_) _ C => C _ (qaV.f k a0 a1) (fun x => .agg [.own 0,.own 1]) fun x => [.row ti x.1 false,.row ti x.2 false]
def lv58 : Live := look ⟨[],[],[],[],[]⟩ []
def g58 : FEnv := (fun _=>none)
def sp58 : SP := .mk [.rd,.rd] (dG (dI .i64 (dL ti true (dL ti true (dL ti true (dI .i64 (dI .i64 (dS dN))))))) (dI .i64 dN)) oN fun ((a0_0,a0_1,a0_2,a0_3,a0_4,a0_5,a0_6,_),a1,_) _ C => C _ (qb9.f a0_0 a0_1 a0_2 a0_3 a0_4 a0_5 a0_6 a1) (fun x => .b x) fun x => []
theorem lp3001 (S : Seals) (k : Nat) : sp57.St tt (g57) lv57 Tryz.f57 k ∧ sp40.St tt (g40) lv40 Tryz.f40 k ∧ (sp41 k).St tt (g41) lv41 Tryz.f41 k ∧ (sp19 k).St tt (g19 k) lv19 Tryz.f19 k ∧ (sp42 k).St tt (g42 k) lv42 Tryz.f42 k ∧ sp58.St tt (g58) lv58 Tryz.f58 k := by
 refine cu_ (A := ∀ (n : Nat) {x0 : LI} {x3 x4 : Int} {K : CK},S.lp tt (g41) lv41 0 n (loopN Tryz.f41 0) ⟨[(0,.dat ti x0 true),(3,.i .i64 x3),(4,.i .i64 x4)],[],0,35⟩ K = bindO (qaB.l0 n x0 x3 x4) (Sum.elim (fun x : Int => K (.exit 0) ⟨[(3,.i .i64 x)],[],0,35⟩) (fun x : Bool => K .ret ⟨[(2,.b x)],[],0,35⟩))) (fun w41_0=>?_) (ind_ ?_ ?_)
 refine cu_ (A := ∀ (n : Nat) {x0 : LI} {x3 x4 : Int} {K : CK},S.lp tt (g19 k) lv19 0 n (loopN Tryz.f19 0) ⟨[(0,.dat ti x0 true),(3,.i .i64 x3),(4,.i .i64 x4)],[],0,21⟩ K = bindO (qbA.l0 n x0 x3 x4) (fun x : Int => K (.exit 0) ⟨[(3,.i .i64 x)],[],0,21⟩)) (fun w19_0=>?_) (ind_ ?_ ?_)
 refine cu_ (A := ∀ (n : Nat) {x0 : LI} {x1 x6 : Int} {y2 y3 : LI} {K : CK},S.lp tt (g42 k) lv42 0 n (loopN Tryz.f42 0) ⟨[(0,.dat ti x0 true),(1,.i .i64 x1),(4,.ptr 0 0),(5,.ptr 1 0),(6,.i .i64 x6)],[(0,.var 82 [.nilsl,.nilsl]),(1,.var 82 [.own 2,.own 3]),(2,.row ti y2 false),(3,.row ti y3 false)],4,24⟩ K = bindO (qaV.l0 k n x0 x1 x6 y2 y3) (fun x : LI => K (.exit 0) ⟨[(4,.ptr 0 0),(5,.ptr 1 0)],[(0,.var 82 [.nilsl,.nilsl]),(1,.var 82 [.own 2,.own 3]),(2,.row ti y2 false),(3,.row ti x false)],4,24⟩)) (fun w42_0=>?_) (ind_ ?_ ?_)
 and_intros
 all_goals first|(dsimp only [SP.St,sp57,sp40,sp41,sp19,sp42,sp58,dN,dL,dI,dS,dG,oN]; intros; (first|unfold qdd.f|unfold qdB.f|unfold qaB.f|unfold qbA.f|unfold qaV.f|unfold qb9.f); refine S.run_s rfl rfl ?_; (conv=>lhs;arg 5;whnf); conv=>lhs;arg 6;whnf)|(intros; rw [S.lp_zero]; exact qa0)|(intro n ih; intros; (first|rw [qaB.l0]|rw [qbA.l0]|rw [qaV.l0]); refine S.lp_succ ?_; conv=>lhs;arg 5;whnf)
 all_goals repeat' first|(first|refine S.seq_op rfl ?_|refine S.op_n ?_|refine S.block_x ?_|refine qcG ?_|refine qcH ?_|refine br_t (by assumption) ?_|refine br_f (by assumption) ?_|refine qbo (by with_reducible assumption) ?_|refine qcF (fun _=>?_) (fun _=>?_)|refine br_d (fun _=>?_) (fun _=>?_)|refine br_n (fun _=>?_) (fun _=>?_)|refine br_c (fun _=>?_) (fun _=>?_)|refine qcE fun _=>?_|refine qbo (by assumption) ?_|refine qcI fun _=>?_)<;>(conv=>lhs;whnf)|refine S.seq_nil ?_|refine S.reg_n ?_|refine S.region rfl ?_|refine S.two ?_|refine S.blok ?_|refine S.cond rfl ?_|refine S.after_n ?_|refine S.block_n ?_|refine S.block_r ?_|refine S.after_x ?_|refine S.after_r ?_|refine S.skip ?_|refine S.exit ?_|refine S.ret ?_|refine qcC (fun _=>?_) (fun _=>?_)|exact ih|refine (w41_0 _).trans ?_|refine (w19_0 _).trans ?_|refine (w42_0 _).trans ?_|(first|refine S.loop ?_|refine S.back_n ?_|refine S.back_x ?_|refine S.back_r ?_|refine S.fin_r ?_|refine S.fin_n ?_|refine S.dk_n ?_|refine S.draw_nil ?_)<;>(conv=>lhs;whnf)|exact qcD rfl|exact qa0|(refine S.draw_op ?_; conv => lhs; whnf; arg 1; whnf)|refine qbp ?_|refine qa4 ?_|refine qb2 ?_|refine qaT ?_
theorem snd57 : Sound Tryz.prog 57 sp57.fs := sn_ qaj mixed Tryz.func57 (by kernel_rfl) rfl (qab _) (lp3001 seals 0).1
theorem snd40 : Sound Tryz.prog 40 sp40.fs := sn_ qaj mixed Tryz.func40 (by kernel_rfl) rfl (qaa snd57 (qab _)) (lp3001 seals 0).2.1
theorem snd41 (k : Nat) : Sound Tryz.prog 41 (sp41 k).fs := sn_ qaj mixed Tryz.func41 (by kernel_rfl) rfl (qab _) (lp3001 seals k).2.2.1
theorem snd19 (k : Nat) : Sound Tryz.prog 19 (sp19 k).fs := sn_ qaj mixed Tryz.func19 (by kernel_rfl) rfl (qaa (snd41 k) (qab _)) (lp3001 seals k).2.2.2.1
theorem snd42 (k : Nat) : Sound Tryz.prog 42 (sp42 k).fs := sn_ qaj mixed Tryz.func42 (by kernel_rfl) rfl (qaa (snd19 k) (qab _)) (lp3001 seals k).2.2.2.2.1
theorem snd58 : Sound Tryz.prog 58 sp58.fs := sn_ qaj mixed Tryz.func58 (by kernel_rfl) rfl (qab _) (lp3001 seals 0).2.2.2.2.2
def lv85 : Live := look ⟨[],[],[],[],[]⟩ [(5,⟨[0,1,5,6],[5],[4],[],[]⟩),(1000000,⟨[],[],[],[(4,0,.own ti)],[]⟩)]
def g85 (k : Nat) : FEnv := (addF 19 (sp19 k).fs (fun _=>none))
def sp85 (k : Nat) : SP := .mk [.rd,.rd] (dL ti true (dI .i64 dN)) oN fun (a0,a1,_) _ C => C _ (qa1.f k a0 a1) (fun x => .own 0) fun x => [.row ti x false]
def lv59 : Live := look ⟨[],[],[],[],[]⟩ [(3,⟨[0,1,4,5,6],[4,5],[4],[],[]⟩)]
def g59 (k : Nat) : FEnv := (addF 85 (sp85 k).fs (addF 42 (sp42 k).fs (fun _=>none)))
def sp59 (k : Nat) : SP := .mk [.rd,.rd] (dL ti true (dI .i64 dN)) oN fun (a0,a1,_) _ C => C _ (qbY.f k a0 a1) (fun x => .agg [.own 0,.own 1]) fun x => [.row ti x.1 false,.row ti x.2 false]
def lv88 : Live := look ⟨[],[],[],[],[]⟩ []
def g88 (k : Nat) : FEnv := (addF 19 (sp19 k).fs (addF 41 (sp41 k).fs (fun _=>none)))
def sp88 (k : Nat) : SP := .mk [.rd] (dG (dL ti true (dL ti true dN)) dN) oN fun ((a0_0,a0_1,_),_) _ C => C _ (qbh.f k a0_0 a0_1) (fun x => .b x) fun x => []
def lv86 : Live := look ⟨[],[],[],[],[]⟩ [(2,⟨[0,3],[],[2],[],[]⟩)]
def g86 (k : Nat) : FEnv := (addF 56 (sp56 k).fs (addF 88 (sp88 k).fs (fun _=>none)))
def sp86 (k : Nat) : SP := .mk [.rd] (dL (.pair (.sl ti) (.sl ti)) true dN) oN fun (a0,_) _ C => C _ (qby.f k a0) (fun x => .i .i64 x) fun x => []
def lv114 : Live := look ⟨[],[],[],[],[]⟩ []
def g114 : FEnv := (fun _=>none)
def sp114 : SP := .mk [.rd] (dB dN) oN fun (a0,_) _ C => C _ (qff.f a0) (fun x => .i .i64 x) fun x => []
theorem lp3002 (S : Seals) (k : Nat) : (sp85 k).St tt (g85 k) lv85 Tryz.f85 k ∧ (sp59 k).St tt (g59 k) lv59 Tryz.f59 k ∧ (sp88 k).St tt (g88 k) lv88 Tryz.f88 k ∧ (sp86 k).St tt (g86 k) lv86 Tryz.f86 k ∧ sp114.St tt (g114) lv114 Tryz.f114 k := by
 refine cu_ (A := ∀ (n : Nat) {x0 : LI} {x1 x6 : Int} {y0 : LI} {K : CK},S.lp tt (g85 k) lv85 0 n (loopN Tryz.f85 0) ⟨[(0,.dat ti x0 true),(1,.i .i64 x1),(5,.own 0),(6,.i .i64 x6)],[(0,.row ti y0 false)],1,41⟩ K = bindO (qa1.l0 n x0 x1 x6 y0) (fun x : LI => K (.exit 0) ⟨[(5,.own 0)],[(0,.row ti x false)],1,41⟩)) (fun w85_0=>?_) (ind_ ?_ ?_)
 refine cu_ (A := ∀ (n : Nat) {x0 : LI} {x1 x6 : Int} {y2 y3 : LI} {K : CK},S.lp tt (g59 k) lv59 0 n (loopN Tryz.f59 0) ⟨[(0,.dat ti x0 true),(1,.i .i64 x1),(4,.ptr 0 0),(5,.ptr 1 0),(6,.i .i64 x6)],[(0,.var 82 [.nilsl,.nilsl]),(1,.var 82 [.own 2,.own 3]),(2,.row ti y2 false),(3,.row ti y3 false)],4,27⟩ K = bindO (qbY.l0 k n x0 x1 x6 y2 y3) (fun x : LI => K (.exit 0) ⟨[(4,.ptr 0 0),(5,.ptr 1 0)],[(0,.var 82 [.nilsl,.nilsl]),(1,.var 82 [.own 2,.own 3]),(2,.row ti y2 false),(3,.row ti x false)],4,27⟩)) (fun w59_0=>?_) (ind_ ?_ ?_)
 refine cu_ (A := ∀ (n : Nat) {x0 : List LT} {x3 : Int} {K : CK},S.lp tt (g86 k) lv86 0 n (loopN Tryz.f86 0) ⟨[(0,.dat (.pair (.sl ti) (.sl ti)) x0 true),(3,.i .i64 x3)],[],0,29⟩ K = bindO (qby.l0 k n x0 x3) (Sum.elim (fun x : Unit => K (.exit 0) ⟨[],[],0,29⟩) (fun x : Int => K .ret ⟨[(2,.i .i64 x)],[],0,29⟩))) (fun w86_0=>?_) (ind_ ?_ ?_)
 and_intros
 all_goals first|(dsimp only [SP.St,sp85,sp59,sp88,sp86,sp114,dN,dL,dI,dB,dG,oN]; intros; (first|unfold qa1.f|unfold qbY.f|unfold qbh.f|unfold qby.f|unfold qff.f); refine S.run_s rfl rfl ?_; (conv=>lhs;arg 5;whnf); conv=>lhs;arg 6;whnf)|(intros; rw [S.lp_zero]; exact qa0)|(intro n ih; intros; (first|rw [qa1.l0]|rw [qbY.l0]|rw [qby.l0]); refine S.lp_succ ?_; conv=>lhs;arg 5;whnf)
 all_goals repeat' first|(first|refine S.seq_op rfl ?_|refine S.op_n ?_|refine S.block_x ?_|refine qcG ?_|refine qcH ?_|refine br_t (by assumption) ?_|refine br_f (by assumption) ?_|refine qbo (by with_reducible assumption) ?_|refine qcF (fun _=>?_) (fun _=>?_)|refine br_d (fun _=>?_) (fun _=>?_)|refine br_n (fun _=>?_) (fun _=>?_)|refine br_c (fun _=>?_) (fun _=>?_)|refine qcE fun _=>?_|refine qbo (by assumption) ?_|refine qcI fun _=>?_)<;>(conv=>lhs;whnf)|refine S.seq_nil ?_|refine S.reg_n ?_|refine S.region rfl ?_|refine S.two ?_|refine S.blok ?_|refine S.cond rfl ?_|refine S.after_n ?_|refine S.block_n ?_|refine S.block_r ?_|refine S.after_x ?_|refine S.after_r ?_|refine S.skip ?_|refine S.exit ?_|refine S.ret ?_|refine qcC (fun _=>?_) (fun _=>?_)|exact ih|refine (w85_0 _).trans ?_|refine (w59_0 _).trans ?_|refine (w86_0 _).trans ?_|refine S.region_d (id := 5) (ds := [0,1,0,0,0,24,0,120,248,511,1023]) (mds := [[],[],[],[],[],[],[],[],[],[],[3]]) (hm := [(10,[3])]) (by kernel_rfl) (by kernel_rfl) rfl rfl ?_|refine S.region_d (id := 1) (ds := [0,1,3,7,15,31,63,15,143,399,1023,2047,4095]) (mds := [[],[],[],[],[],[],[],[],[],[],[],[],[]]) (hm := []) (by kernel_rfl) (by kernel_rfl) rfl rfl ?_|refine S.region_d (id := 4) (ds := [0,0,3,7,15,31,63,127,127,511,1023,2047,127,4223,12415,28799,65535,131071,262143]) (mds := [[],[],[],[],[],[],[],[],[],[],[],[],[],[],[],[],[],[],[]]) (hm := []) (by kernel_rfl) (by kernel_rfl) rfl rfl ?_|(first|refine S.loop ?_|refine S.back_n ?_|refine S.back_x ?_|refine S.back_r ?_|refine S.fin_r ?_|refine S.fin_n ?_|refine S.dk_n ?_|refine S.draw_nil ?_)<;>(conv=>lhs;whnf)|exact qcD rfl|exact qa0|(refine S.draw_op ?_; conv => lhs; whnf; arg 1; whnf)|refine qbp ?_|refine qa4 ?_|refine qb2 ?_|refine qaT ?_
theorem snd85 (k : Nat) : Sound Tryz.prog 85 (sp85 k).fs := sn_ qaj mixed Tryz.func85 (by kernel_rfl) rfl (qaa (snd19 k) (qab _)) (lp3002 seals k).1
theorem snd59 (k : Nat) : Sound Tryz.prog 59 (sp59 k).fs := sn_ qaj mixed Tryz.func59 (by kernel_rfl) rfl (qaa (snd85 k) (qaa (snd42 k) (qab _))) (lp3002 seals k).2.1
theorem snd88 (k : Nat) : Sound Tryz.prog 88 (sp88 k).fs := sn_ qaj mixed Tryz.func88 (by kernel_rfl) rfl (qaa (snd19 k) (qaa (snd41 k) (qab _))) (lp3002 seals k).2.2.1
theorem snd86 (k : Nat) : Sound Tryz.prog 86 (sp86 k).fs := sn_ qaj mixed Tryz.func86 (by kernel_rfl) rfl (qaa (snd56 k) (qaa (snd88 k) (qab _))) (lp3002 seals k).2.2.2.1
theorem snd114 : Sound Tryz.prog 114 sp114.fs := sn_ qaj mixed Tryz.func114 (by kernel_rfl) rfl (qab _) (lp3002 seals 0).2.2.2.2
end
end Go.Vm
