/- Own walks -/
import Derived.Test.YtjamdeehpblflaaGreatDoorWk0
import Derived.Test.YtjamdeehpblflaaGreatDoorWk5
import Derived.Test.YtjamdeehpblflaaGreatDoorWk4
import Derived.Test.YtjamdeehpblflaaGreatDoorVm1
set_option linter.unusedVariables false
set_option maxRecDepth 60000
set_option maxHeartbeats 40000000
namespace Go.Vm
open Go Go.Proofs Go.Pf
noncomputable section

def lv50 : Live := look ⟨[],[],[],[],[]⟩ []
def g50 : FEnv := (addF 78 sp78.fs (fun _=>none))
def sp50 : SP := .mk [.rd,.rd] (dG (dI .i64 (dL ti true (dL ti true (dL ti true (dI .i64 (dI .i64 (dS dN))))))) (dI .i64 dN)) oN fun ((a0_0,a0_1,a0_2,a0_3,a0_4,a0_5,a0_6,_),a1,_) _ C => C _ (qek.f a0_0 a0_1 a0_2 a0_3 a0_4 a0_5 a0_6 a1) (fun x => .b x) fun x => []
def lv51 : Live := look ⟨[],[],[],[],[]⟩ [(3,⟨[0,3,4],[3],[2],[],[]⟩)]
def g51 : FEnv := (fun _=>none)
def sp51 (k : Nat) : SP := .mk [.rd] (dL ti true dN) oN fun (a0,_) _ C => C _ (qaE.f k a0) (fun x => .b x) fun x => []
def lv29 : Live := look ⟨[],[],[],[],[]⟩ [(5,⟨[0,3,4],[3],[2],[],[]⟩)]
def g29 (k : Nat) : FEnv := (addF 51 (sp51 k).fs (fun _=>none))
def sp29 (k : Nat) : SP := .mk [.rd] (dL ti true dN) oN fun (a0,_) _ C => C _ (qbT.f k a0) (fun x => .i .i64 x) fun x => []
def lv52 : Live := look ⟨[],[],[],[],[]⟩ [(3,⟨[0,1,4,5,6],[4,5],[4],[(5,1,.own ti)],[]⟩)]
def g52 (k : Nat) : FEnv := (addF 29 (sp29 k).fs (fun _=>none))
def sp52 (k : Nat) : SP := .mk [.rd,.rd] (dL ti true (dI .i64 dN)) oN fun (a0,a1,_) _ C => C _ (qa0.f k a0 a1) (fun x => .agg [.own 0,.own 1]) fun x => [.row ti x.1 false,.row ti x.2 false]
def lv79 : Live := look ⟨[],[],[],[],[]⟩ []
def g79 : FEnv := (fun _=>none)
def sp79 : SP := .mk [.rd,.rd] (dG (dI .i64 (dL ti true (dL ti true (dL ti true (dI .i64 (dI .i64 (dS dN))))))) (dI .i64 dN)) oN fun ((a0_0,a0_1,a0_2,a0_3,a0_4,a0_5,a0_6,_),a1,_) _ C => C _ (qcs.f a0_0 a0_1 a0_2 a0_3 a0_4 a0_5 a0_6 a1) (fun x => .b x) fun x => []
def lv112 : Live := look ⟨[],[],[],[],[]⟩ [(5,⟨[0,1,5,6],[5],[4],[],[]⟩),(1000000,⟨[],[],[],[(4,0,.own ti)],[]⟩)]
def g112 (k : Nat) : FEnv := (addF 29 (sp29 k).fs (fun _=>none))
def sp112 (k : Nat) : SP := .mk [.rd,.rd] (dL ti true (dI .i64 dN)) oN fun (a0,a1,_) _ C => C _ (qa5.f k a0 a1) (fun x => .own 0) fun x => [.row ti x false]
def lv80 : Live := look ⟨[],[],[],[],[]⟩ [(3,⟨[0,1,4,5,6],[4,5],[4],[],[]⟩)]
def g80 (k : Nat) : FEnv := (addF 112 (sp112 k).fs (addF 52 (sp52 k).fs (fun _=>none)))
def sp80 (k : Nat) : SP := .mk [.rd,.rd] (dL ti true (dI .i64 dN)) oN fun (a0,a1,_) _ C => C _ (qcg.f k a0 a1) (fun x => .agg [.own 0,.own 1]) fun x => [.row ti x.1 false,.row ti x.2 false]
def lv115 : Live := look ⟨[],[],[],[],[]⟩ []
def g115 (k : Nat) : FEnv := (addF 29 (sp29 k).fs (addF 51 (sp51 k).fs (fun _=>none)))
def sp115 (k : Nat) : SP := .mk [.rd] (dG (dL ti true (dL ti true dN)) dN) oN fun ((a0_0,a0_1,_),_) _ C => C _ (qby.f k a0_0 a0_1) (fun x => .b x) fun x => []
def lv113 : Live := look ⟨[],[],[],[],[]⟩ [(2,⟨[0,3],[],[2],[],[]⟩)]
def g113 (k : Nat) : FEnv := (addF 39 (sp39 k).fs (addF 115 (sp115 k).fs (fun _=>none)))
def sp113 (k : Nat) : SP := .mk [.rd] (dL (.pair (.sl ti) (.sl ti)) true dN) oN fun (a0,_) _ C => C _ (qbQ.f k a0) (fun x => .i .i64 x) fun x => []
def lv139 : Live := look ⟨[],[],[],[],[]⟩ []
def g139 : FEnv := (fun _=>none)
def sp139 : SP := .mk [.rd] (dB dN) oN fun (a0,_) _ C => C _ (qf5.f a0) (fun x => .i .i64 x) fun x => []
def lv114 : Live := look ⟨[],[],[],[],[]⟩ []
def g114 : FEnv := (addF 139 sp139.fs (fun _=>none))
def sp114 : SP := .mk [.rd,.rd,.rd] (dI .i64 (dI .i64 (dI .i64 dN))) oN fun (a0,a1,a2,_) _ C => C _ (qeh.f a0 a1 a2) (fun x => .i .i64 x) fun x => []
def lv81 : Live := look ⟨[],[],[],[],[]⟩ [(8,⟨[0,3,4,7,28,29],[4,7],[4,5],[],[]⟩),(1000000,⟨[],[],[],[(4,0,.own ti),(4,1,.own ti)],[]⟩)]
def g81 (k : Nat) : FEnv := (addF 114 sp114.fs (addF 52 (sp52 k).fs (addF 113 (sp113 k).fs (fun _=>none))))
def sp81 (k : Nat) : SP := .mk [.st,.st] (dI .i64 (dG (dL ti false (dL ti false dN)) dN)) oN fun (a0,(a1_0,a1_1,_),_) _ C => C _ (qcl.f k a0 a1_0 a1_1) (fun x => .tup [.agg [.own 0,.own 1],.i .i64 x.1]) fun x => [.row ti x.2.1 false,.row ti x.2.2 false]
def lv82 : Live := look ⟨[],[],[],[],[]⟩ [(6,⟨[3,4,5,6,9,25,26],[6,9],[6,7],[],[]⟩),(1000000,⟨[],[],[],[(6,0,.own ti),(6,1,.own ti)],[]⟩)]
def g82 (k : Nat) : FEnv := (addF 52 (sp52 k).fs (addF 113 (sp113 k).fs (fun _=>none)))
def sp82 (k : Nat) : SP := .mk [.st,.st,.st] (dG (dL ti false (dL ti false dN)) (dG (dL ti false (dL ti false dN)) (dG (dL ti false (dL ti false dN)) dN))) oN fun ((a0_0,a0_1,_),(a1_0,a1_1,_),(a2_0,a2_1,_),_) _ C => C _ (qce.f k a0_0 a0_1 a1_0 a1_1 a2_0 a2_1) (fun x => .tup [.agg [.own 0,.own 1],.i .i64 x.1]) fun x => [.row ti x.2.1 false,.row ti x.2.2 false]
theorem lp6000 (S : Seals) (k : Nat) : sp50.St tt (g50) lv50 Tryz.f50 k /\ (sp51 k).St tt (g51) lv51 Tryz.f51 k /\ (sp29 k).St tt (g29 k) lv29 Tryz.f29 k /\ (sp52 k).St tt (g52 k) lv52 Tryz.f52 k /\ sp79.St tt (g79) lv79 Tryz.f79 k /\ (sp112 k).St tt (g112 k) lv112 Tryz.f112 k /\ (sp80 k).St tt (g80 k) lv80 Tryz.f80 k /\ (sp115 k).St tt (g115 k) lv115 Tryz.f115 k /\ (sp113 k).St tt (g113 k) lv113 Tryz.f113 k /\ sp139.St tt (g139) lv139 Tryz.f139 k /\ sp114.St tt (g114) lv114 Tryz.f114 k /\ (sp81 k).St tt (g81 k) lv81 Tryz.f81 k /\ (sp82 k).St tt (g82 k) lv82 Tryz.f82 k := by
 refine cu_ (A := ∀ (n : Nat) {x0 : LI} {x3 x4 : Int} {K : CK},S.lp tt (g51) lv51 0 n (loopN Tryz.f51 0) ⟨[(0,.dat ti x0 true),(3,.i .i64 x3),(4,.i .i64 x4)],[],0,35⟩ K = bindO (qaE.l0 n x0 x3 x4) (Sum.elim (fun x : Int => K (.exit 0) ⟨[(3,.i .i64 x)],[],0,35⟩) (fun x : Bool => K .ret ⟨[(2,.b x)],[],0,35⟩))) (fun w51_0=>?_) (ind_ ?_ ?_)
 refine cu_ (A := ∀ (n : Nat) {x0 : LI} {x3 x4 : Int} {K : CK},S.lp tt (g29 k) lv29 0 n (loopN Tryz.f29 0) ⟨[(0,.dat ti x0 true),(3,.i .i64 x3),(4,.i .i64 x4)],[],0,21⟩ K = bindO (qbT.l0 n x0 x3 x4) (fun x : Int => K (.exit 0) ⟨[(3,.i .i64 x)],[],0,21⟩)) (fun w29_0=>?_) (ind_ ?_ ?_)
 refine cu_ (A := ∀ (n : Nat) {x0 : LI} {x1 x6 : Int} {y2 y3 : LI} {K : CK},S.lp tt (g52 k) lv52 0 n (loopN Tryz.f52 0) ⟨[(0,.dat ti x0 true),(1,.i .i64 x1),(4,.ptr 0 0),(5,.ptr 1 0),(6,.i .i64 x6)],[(0,.var 91 [.nilsl,.nilsl]),(1,.var 91 [.own 2,.own 3]),(2,.row ti y2 false),(3,.row ti y3 false)],4,24⟩ K = bindO (qa0.l0 k n x0 x1 x6 y2 y3) (fun x : LI => K (.exit 0) ⟨[(4,.ptr 0 0),(5,.ptr 1 0)],[(0,.var 91 [.nilsl,.nilsl]),(1,.var 91 [.own 2,.own 3]),(2,.row ti y2 false),(3,.row ti x false)],4,24⟩)) (fun w52_0=>?_) (ind_ ?_ ?_)
 refine cu_ (A := ∀ (n : Nat) {x0 : LI} {x1 x6 : Int} {y0 : LI} {K : CK},S.lp tt (g112 k) lv112 0 n (loopN Tryz.f112 0) ⟨[(0,.dat ti x0 true),(1,.i .i64 x1),(5,.own 0),(6,.i .i64 x6)],[(0,.row ti y0 false)],1,41⟩ K = bindO (qa5.l0 n x0 x1 x6 y0) (fun x : LI => K (.exit 0) ⟨[(5,.own 0)],[(0,.row ti x false)],1,41⟩)) (fun w112_0=>?_) (ind_ ?_ ?_)
 refine cu_ (A := ∀ (n : Nat) {x0 : LI} {x1 x6 : Int} {y2 y3 : LI} {K : CK},S.lp tt (g80 k) lv80 0 n (loopN Tryz.f80 0) ⟨[(0,.dat ti x0 true),(1,.i .i64 x1),(4,.ptr 0 0),(5,.ptr 1 0),(6,.i .i64 x6)],[(0,.var 91 [.nilsl,.nilsl]),(1,.var 91 [.own 2,.own 3]),(2,.row ti y2 false),(3,.row ti y3 false)],4,27⟩ K = bindO (qcg.l0 k n x0 x1 x6 y2 y3) (fun x : LI => K (.exit 0) ⟨[(4,.ptr 0 0),(5,.ptr 1 0)],[(0,.var 91 [.nilsl,.nilsl]),(1,.var 91 [.own 2,.own 3]),(2,.row ti y2 false),(3,.row ti x false)],4,27⟩)) (fun w80_0=>?_) (ind_ ?_ ?_)
 refine cu_ (A := ∀ (n : Nat) {x0 : List LT} {x3 : Int} {K : CK},S.lp tt (g113 k) lv113 0 n (loopN Tryz.f113 0) ⟨[(0,.dat (.pair (.sl ti) (.sl ti)) x0 true),(3,.i .i64 x3)],[],0,29⟩ K = bindO (qbQ.l0 k n x0 x3) (Sum.elim (fun x : Unit => K (.exit 0) ⟨[],[],0,29⟩) (fun x : Int => K .ret ⟨[(2,.i .i64 x)],[],0,29⟩))) (fun w113_0=>?_) (ind_ ?_ ?_)
 refine cu_ (A := ∀ (n : Nat) {x0 x28 x29 : Int} {y0_0 y0_1 : LI} {y3 y4 : LI} {K : CK},S.lp tt (g81 k) lv81 0 n (loopN Tryz.f81 0) ⟨[(0,.i .i64 x0),(3,.ptr 0 0),(4,.ptr 1 0),(7,.ptr 2 0),(28,.i .i64 x28),(29,.i .i64 x29)],[(0,.var 91 [.dat ti y0_0 false,.dat ti y0_1 false]),(1,.var 91 [.nilsl,.nilsl]),(2,.var 91 [.own 3,.own 4]),(3,.row ti y3 false),(4,.row ti y4 false)],5,45⟩ K = bindO (qcl.l0 n x0 x28 x29 y0_0 y0_1 y3 y4) (fun x : LI => K (.exit 0) ⟨[(4,.ptr 0 0),(7,.ptr 1 0)],[(0,.var 91 [.nilsl,.nilsl]),(1,.var 91 [.own 2,.own 3]),(2,.row ti y3 false),(3,.row ti x false)],4,45⟩)) (fun w81_0=>?_) (ind_ ?_ ?_)
 refine cu_ (A := ∀ (n : Nat) {x25 x26 : Int} {y0_0 y0_1 : LI} {y1_0 y1_1 : LI} {y2_0 y2_1 : LI} {y5 y6 : LI} {K : CK},S.lp tt (g82 k) lv82 0 n (loopN Tryz.f82 0) ⟨[(3,.ptr 0 0),(4,.ptr 1 0),(5,.ptr 2 0),(6,.ptr 3 0),(9,.ptr 4 0),(25,.i .i64 x25),(26,.i .i64 x26)],[(0,.var 91 [.dat ti y0_0 false,.dat ti y0_1 false]),(1,.var 91 [.dat ti y1_0 false,.dat ti y1_1 false]),(2,.var 91 [.dat ti y2_0 false,.dat ti y2_1 false]),(3,.var 91 [.nilsl,.nilsl]),(4,.var 91 [.own 5,.own 6]),(5,.row ti y5 false),(6,.row ti y6 false)],7,55⟩ K = bindO (qce.l0 n x25 x26 y0_0 y0_1 y1_0 y1_1 y2_0 y2_1 y5 y6) (fun x : LI => K (.exit 0) ⟨[(6,.ptr 0 0),(9,.ptr 1 0)],[(0,.var 91 [.nilsl,.nilsl]),(1,.var 91 [.own 2,.own 3]),(2,.row ti y5 false),(3,.row ti x false)],4,55⟩)) (fun w82_0=>?_) (ind_ ?_ ?_)
 and_intros
 all_goals first|(dsimp only [SP.St,sp50,sp51,sp29,sp52,sp79,sp112,sp80,sp115,sp113,sp139,sp114,sp81,sp82,dN,dL,dI,dB,dS,dG,oN]; intros; (first|unfold qek.f|unfold qaE.f|unfold qbT.f|unfold qa0.f|unfold qcs.f|unfold qa5.f|unfold qcg.f|unfold qby.f|unfold qbQ.f|unfold qf5.f|unfold qeh.f|unfold qcl.f|unfold qce.f); refine S.run_s rfl rfl ?_; (conv=>lhs;arg 5;whnf); conv=>lhs;arg 6;whnf)|(intros; rw [S.lp_zero]; exact qbu)|(intro n ih; intros; (first|rw [qaE.l0]|rw [qbT.l0]|rw [qa0.l0]|rw [qa5.l0]|rw [qcg.l0]|rw [qbQ.l0]|rw [qcl.l0]|rw [qce.l0]); refine S.lp_succ ?_; conv=>lhs;arg 5;whnf)
 all_goals as_aux_lemma=>repeat' first|(first|refine S.seq_op rfl ?_|refine S.op_n ?_|refine S.block_x ?_|refine qdC ?_|refine qdD ?_|refine br_t (by assumption) ?_|refine br_f (by assumption) ?_|refine qb1 (by with_reducible assumption) ?_|refine qdE fun _=>?_|refine qdB (fun _=>?_) (fun _=>?_)|refine br_d (fun _=>?_) (fun _=>?_)|refine br_n (fun _=>?_) (fun _=>?_)|refine br_c (fun _=>?_) (fun _=>?_)|refine qdu fun _=>?_|refine qb1 (by assumption) ?_)<;>(conv=>lhs;whnf)|refine S.seq_nil ?_|refine S.reg_n ?_|refine S.region rfl ?_|refine S.two ?_|refine S.blok ?_|refine S.cond rfl ?_|refine S.after_n ?_|refine S.block_n ?_|refine S.block_r ?_|refine S.after_x ?_|refine S.after_r ?_|refine S.skip ?_|refine S.exit ?_|refine S.ret ?_|refine qdt (fun _=>?_) (fun _=>?_)|exact ih|refine (w51_0 _).trans ?_|refine (w29_0 _).trans ?_|refine (w52_0 _).trans ?_|refine (w112_0 _).trans ?_|refine (w80_0 _).trans ?_|refine (w113_0 _).trans ?_|refine (w81_0 _).trans ?_|refine (w82_0 _).trans ?_|refine S.region_d (id := 5) (ds := [0,1,0,0,0,24,0,120,248,511,1023]) (mds := [[],[],[],[],[],[],[],[],[],[],[3]]) (hm := [(10,[3])]) (by kernel_rfl) (by kernel_rfl) rfl rfl ?_|refine S.region_d (id := 1) (ds := [0,1,3,7,15,31,63,15,143,399,1023,2047,4095]) (mds := [[],[],[],[],[],[],[],[],[],[],[],[],[]]) (hm := []) (by kernel_rfl) (by kernel_rfl) rfl rfl ?_|refine S.region_d (id := 4) (ds := [0,0,3,7,15,31,63,127,127,511,1023,2047,127,4223,12415,28799,65535,131071,262143]) (mds := [[],[],[],[],[],[],[],[],[],[],[],[],[],[],[],[],[],[],[]]) (hm := []) (by kernel_rfl) (by kernel_rfl) rfl rfl ?_|refine S.region_d (id := 10) (ds := [0,1,0,0,0,16,0,112,240,504,1023,2047]) (mds := [[],[],[],[],[],[],[],[],[],[],[],[4]]) (hm := [(11,[4])]) (by kernel_rfl) (by kernel_rfl) rfl rfl ?_|refine S.region_d (id := 8) (ds := [0,1,0,0,8,0,56,120,255,511]) (mds := [[],[],[],[],[],[],[],[],[],[6]]) (hm := [(9,[6])]) (by kernel_rfl) (by kernel_rfl) rfl rfl ?_|refine S.region_d (id := 10) (ds := [0,1,0,0,8,0,56,120,255,511]) (mds := [[],[],[],[],[],[],[],[],[],[6]]) (hm := [(9,[6])]) (by kernel_rfl) (by kernel_rfl) rfl rfl ?_|(first|refine S.loop ?_|refine S.back_n ?_|refine S.back_x ?_|refine S.back_r ?_|refine S.fin_r ?_|refine S.fin_n ?_|refine S.dk_n ?_|refine S.draw_nil ?_)<;>(conv=>lhs;whnf)|(refine S.draw_op ?_; conv => lhs; whnf; arg 1; whnf)|refine qb4 ?_|refine qbt ?_|refine qcD ?_|refine qa9 ?_|exact qdM rfl|exact qbu
theorem snd50 : Sound Tryz.prog 50 sp50.fs := sn_ qag mixed Tryz.func50 (by kernel_rfl) rfl (qaa snd78 (qab _)) (lp6000 seals 0).1
theorem snd51 (k : Nat) : Sound Tryz.prog 51 (sp51 k).fs := sn_ qag mixed Tryz.func51 (by kernel_rfl) rfl (qab _) (lp6000 seals k).2.1
theorem snd29 (k : Nat) : Sound Tryz.prog 29 (sp29 k).fs := sn_ qag mixed Tryz.func29 (by kernel_rfl) rfl (qaa (snd51 k) (qab _)) (lp6000 seals k).2.2.1
theorem snd52 (k : Nat) : Sound Tryz.prog 52 (sp52 k).fs := sn_ qag mixed Tryz.func52 (by kernel_rfl) rfl (qaa (snd29 k) (qab _)) (lp6000 seals k).2.2.2.1
theorem snd79 : Sound Tryz.prog 79 sp79.fs := sn_ qag mixed Tryz.func79 (by kernel_rfl) rfl (qab _) (lp6000 seals 0).2.2.2.2.1
theorem snd112 (k : Nat) : Sound Tryz.prog 112 (sp112 k).fs := sn_ qag mixed Tryz.func112 (by kernel_rfl) rfl (qaa (snd29 k) (qab _)) (lp6000 seals k).2.2.2.2.2.1
theorem snd80 (k : Nat) : Sound Tryz.prog 80 (sp80 k).fs := sn_ qag mixed Tryz.func80 (by kernel_rfl) rfl (qaa (snd112 k) (qaa (snd52 k) (qab _))) (lp6000 seals k).2.2.2.2.2.2.1
theorem snd115 (k : Nat) : Sound Tryz.prog 115 (sp115 k).fs := sn_ qag mixed Tryz.func115 (by kernel_rfl) rfl (qaa (snd29 k) (qaa (snd51 k) (qab _))) (lp6000 seals k).2.2.2.2.2.2.2.1
theorem snd113 (k : Nat) : Sound Tryz.prog 113 (sp113 k).fs := sn_ qag mixed Tryz.func113 (by kernel_rfl) rfl (qaa (snd39 k) (qaa (snd115 k) (qab _))) (lp6000 seals k).2.2.2.2.2.2.2.2.1
theorem snd139 : Sound Tryz.prog 139 sp139.fs := sn_ qag mixed Tryz.func139 (by kernel_rfl) rfl (qab _) (lp6000 seals 0).2.2.2.2.2.2.2.2.2.1
theorem snd114 : Sound Tryz.prog 114 sp114.fs := sn_ qag mixed Tryz.func114 (by kernel_rfl) rfl (qaa snd139 (qab _)) (lp6000 seals 0).2.2.2.2.2.2.2.2.2.2.1
theorem snd81 (k : Nat) : Sound Tryz.prog 81 (sp81 k).fs := sn_ qag mixed Tryz.func81 (by kernel_rfl) rfl (qaa snd114 (qaa (snd52 k) (qaa (snd113 k) (qab _)))) (lp6000 seals k).2.2.2.2.2.2.2.2.2.2.2.1
theorem snd82 (k : Nat) : Sound Tryz.prog 82 (sp82 k).fs := sn_ qag mixed Tryz.func82 (by kernel_rfl) rfl (qaa (snd52 k) (qaa (snd113 k) (qab _))) (lp6000 seals k).2.2.2.2.2.2.2.2.2.2.2.2
end
end Go.Vm
