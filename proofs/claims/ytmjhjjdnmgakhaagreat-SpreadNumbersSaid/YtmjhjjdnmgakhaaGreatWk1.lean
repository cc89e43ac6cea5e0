/- Own walks -/
import Derived.Test.YtmjhjjdnmgakhaaGreatWk0
import Derived.Test.YtmjhjjdnmgakhaaGreatVm2
set_option linter.unusedVariables false
set_option maxRecDepth 60000
set_option maxHeartbeats 40000000
namespace Go.Vm
open Go Go.Proofs Go.Pf
noncomputable section

def lv93 : Live := look ⟨[],[],[],[],[]⟩ []
def g93 : FEnv := (addF 134 sp134.fs (fun _=>none))
def sp93 : SP := .mk [.rd,.rd] (dG (dI .i64 (dL ti true (dL ti true (dL ti true (dI .i64 (dI .i64 (dS dN))))))) (dI .i64 dN)) oN fun ((a0_0,a0_1,a0_2,a0_3,a0_4,a0_5,a0_6,_),a1,_) _ C => C _ (qdU.f a0_0 a0_1 a0_2 a0_3 a0_4 a0_5 a0_6 a1) (fun x => .b x) fun x => []
def lv94 : Live := look ⟨[],[],[],[],[]⟩ [(3,⟨[0,3,4],[3],[2],[],[]⟩)]
def g94 : FEnv := (fun _=>none)
def sp94 (k : Nat) : SP := .mk [.rd] (dL ti true dN) oN fun (a0,_) _ C => C _ (qaL.f k a0) (fun x => .b x) fun x => []
def lv50 : Live := look ⟨[],[],[],[],[]⟩ [(5,⟨[0,3,4],[3],[2],[],[]⟩)]
def g50 (k : Nat) : FEnv := (addF 94 (sp94 k).fs (fun _=>none))
def sp50 (k : Nat) : SP := .mk [.rd] (dL ti true dN) oN fun (a0,_) _ C => C _ (qbM.f k a0) (fun x => .i .i64 x) fun x => []
def lv95 : Live := look ⟨[],[],[],[],[]⟩ [(3,⟨[0,1,4,5,6],[4,5],[4],[(5,1,.own ti)],[]⟩)]
def g95 (k : Nat) : FEnv := (addF 50 (sp50 k).fs (fun _=>none))
def sp95 (k : Nat) : SP := .mk [.rd,.rd] (dL ti true (dI .i64 dN)) oN fun (a0,a1,_) _ C => C _ (qa4.f k a0 a1) (fun x => .agg [.own 0,.own 1]) fun x => [.row ti x.1 false,.row ti x.2 false]
def lv135 : Live := look ⟨[],[],[],[],[]⟩ []
def g135 : FEnv := (fun _=>none)
def sp135 : SP := .mk [.rd,.rd] (dG (dI .i64 (dL ti true (dL ti true (dL ti true (dI .i64 (dI .i64 (dS dN))))))) (dI .i64 dN)) oN fun ((a0_0,a0_1,a0_2,a0_3,a0_4,a0_5,a0_6,_),a1,_) _ C => C _ (qcj.f a0_0 a0_1 a0_2 a0_3 a0_4 a0_5 a0_6 a1) (fun x => .b x) fun x => []
def lv174 : Live := look ⟨[],[],[],[],[]⟩ [(5,⟨[0,1,5,6],[5],[4],[],[]⟩),(1000000,⟨[],[],[],[(4,0,.own ti)],[]⟩)]
def g174 (k : Nat) : FEnv := (addF 50 (sp50 k).fs (fun _=>none))
def sp174 (k : Nat) : SP := .mk [.rd,.rd] (dL ti true (dI .i64 dN)) oN fun (a0,a1,_) _ C => C _ (qa9.f k a0 a1) (fun x => .own 0) fun x => [.row ti x false]
theorem lp1000 (S : Seals) (k : Nat) : sp93.St tt (g93) lv93 Tryz.f93 k /\ (sp94 k).St tt (g94) lv94 Tryz.f94 k /\ (sp50 k).St tt (g50 k) lv50 Tryz.f50 k /\ (sp95 k).St tt (g95 k) lv95 Tryz.f95 k /\ sp135.St tt (g135) lv135 Tryz.f135 k /\ (sp174 k).St tt (g174 k) lv174 Tryz.f174 k := by
 refine cu_ (A := ∀ (n : Nat) {x0 : LI} {x3 x4 : Int} {K : CK},S.lp tt (g94) lv94 0 n (loopN Tryz.f94 0) ⟨[(0,.dat ti x0 true),(3,.i .i64 x3),(4,.i .i64 x4)],[],0,35⟩ K = bindO (qaL.l0 n x0 x3 x4) (Sum.elim (fun x : Int => K (.exit 0) ⟨[(3,.i .i64 x)],[],0,35⟩) (fun x : Bool => K .ret ⟨[(2,.b x)],[],0,35⟩))) (fun w94_0=>?_) (ind_ ?_ ?_)
 refine cu_ (A := ∀ (n : Nat) {x0 : LI} {x3 x4 : Int} {K : CK},S.lp tt (g50 k) lv50 0 n (loopN Tryz.f50 0) ⟨[(0,.dat ti x0 true),(3,.i .i64 x3),(4,.i .i64 x4)],[],0,21⟩ K = bindO (qbM.l0 n x0 x3 x4) (fun x : Int => K (.exit 0) ⟨[(3,.i .i64 x)],[],0,21⟩)) (fun w50_0=>?_) (ind_ ?_ ?_)
 refine cu_ (A := ∀ (n : Nat) {x0 : LI} {x1 x6 : Int} {y2 y3 : LI} {K : CK},S.lp tt (g95 k) lv95 0 n (loopN Tryz.f95 0) ⟨[(0,.dat ti x0 true),(1,.i .i64 x1),(4,.ptr 0 0),(5,.ptr 1 0),(6,.i .i64 x6)],[(0,.var 67 [.nilsl,.nilsl]),(1,.var 67 [.own 2,.own 3]),(2,.row ti y2 false),(3,.row ti y3 false)],4,24⟩ K = bindO (qa4.l0 k n x0 x1 x6 y2 y3) (fun x : LI => K (.exit 0) ⟨[(4,.ptr 0 0),(5,.ptr 1 0)],[(0,.var 67 [.nilsl,.nilsl]),(1,.var 67 [.own 2,.own 3]),(2,.row ti y2 false),(3,.row ti x false)],4,24⟩)) (fun w95_0=>?_) (ind_ ?_ ?_)
 refine cu_ (A := ∀ (n : Nat) {x0 : LI} {x1 x6 : Int} {y0 : LI} {K : CK},S.lp tt (g174 k) lv174 0 n (loopN Tryz.f174 0) ⟨[(0,.dat ti x0 true),(1,.i .i64 x1),(5,.own 0),(6,.i .i64 x6)],[(0,.row ti y0 false)],1,41⟩ K = bindO (qa9.l0 n x0 x1 x6 y0) (fun x : LI => K (.exit 0) ⟨[(5,.own 0)],[(0,.row ti x false)],1,41⟩)) (fun w174_0=>?_) (ind_ ?_ ?_)
 and_intros
 all_goals first|(dsimp only [SP.St,sp93,sp94,sp50,sp95,sp135,sp174,dN,dL,dI,dS,dG,oN]; intros; (first|unfold qdU.f|unfold qaL.f|unfold qbM.f|unfold qa4.f|unfold qcj.f|unfold qa9.f); refine S.run_s rfl rfl ?_; (conv=>lhs;arg 5;whnf); conv=>lhs;arg 6;whnf)|(intros; rw [S.lp_zero]; exact qaR)|(intro n ih; intros; (first|rw [qaL.l0]|rw [qbM.l0]|rw [qa4.l0]|rw [qa9.l0]); refine S.lp_succ ?_; conv=>lhs;arg 5;whnf)
 all_goals as_aux_lemma=>repeat' first|(first|refine S.seq_op rfl ?_|refine S.op_n ?_|refine S.block_x ?_|refine qcw ?_|refine qcx ?_|refine br_t (by assumption) ?_|refine br_f (by assumption) ?_|refine qbd (by with_reducible assumption) ?_|refine qcz fun _=>?_|refine qcv (fun _=>?_) (fun _=>?_)|refine br_d (fun _=>?_) (fun _=>?_)|refine br_n (fun _=>?_) (fun _=>?_)|refine br_c (fun _=>?_) (fun _=>?_)|refine qcr fun _=>?_|refine qbd (by assumption) ?_)<;>(conv=>lhs;whnf)|refine S.seq_nil ?_|refine S.reg_n ?_|refine S.region rfl ?_|refine S.two ?_|refine S.blok ?_|refine S.cond rfl ?_|refine S.after_n ?_|refine S.block_n ?_|refine S.block_r ?_|refine S.after_x ?_|refine S.after_r ?_|refine S.skip ?_|refine S.exit ?_|refine S.ret ?_|refine qco (fun _=>?_) (fun _=>?_)|exact ih|refine (w94_0 _).trans ?_|refine (w50_0 _).trans ?_|refine (w95_0 _).trans ?_|refine (w174_0 _).trans ?_|(first|refine S.loop ?_|refine S.back_n ?_|refine S.back_x ?_|refine S.back_r ?_|refine S.fin_r ?_|refine S.fin_n ?_|refine S.dk_n ?_|refine S.draw_nil ?_)<;>(conv=>lhs;whnf)|(refine S.draw_op ?_; conv => lhs; whnf; arg 1; whnf)|refine qbe ?_|refine qa2 ?_|refine qbO ?_|refine qaN ?_|exact qcq rfl|exact qaR
theorem snd93 : Sound Tryz.prog 93 sp93.fs := sn_ qal mixed Tryz.func93 (by kernel_rfl) rfl (qaa snd134 (qac _)) (lp1000 seals 0).1
theorem snd94 (k : Nat) : Sound Tryz.prog 94 (sp94 k).fs := sn_ qal mixed Tryz.func94 (by kernel_rfl) rfl (qac _) (lp1000 seals k).2.1
theorem snd50 (k : Nat) : Sound Tryz.prog 50 (sp50 k).fs := sn_ qal mixed Tryz.func50 (by kernel_rfl) rfl (qaa (snd94 k) (qac _)) (lp1000 seals k).2.2.1
theorem snd95 (k : Nat) : Sound Tryz.prog 95 (sp95 k).fs := sn_ qal mixed Tryz.func95 (by kernel_rfl) rfl (qaa (snd50 k) (qac _)) (lp1000 seals k).2.2.2.1
theorem snd135 : Sound Tryz.prog 135 sp135.fs := sn_ qal mixed Tryz.func135 (by kernel_rfl) rfl (qac _) (lp1000 seals 0).2.2.2.2.1
theorem snd174 (k : Nat) : Sound Tryz.prog 174 (sp174 k).fs := sn_ qal mixed Tryz.func174 (by kernel_rfl) rfl (qaa (snd50 k) (qac _)) (lp1000 seals k).2.2.2.2.2
def lv136 : Live := look ⟨[],[],[],[],[]⟩ [(3,⟨[0,1,4,5,6],[4,5],[4],[],[]⟩)]
def g136 (k : Nat) : FEnv := (addF 174 (sp174 k).fs (addF 95 (sp95 k).fs (fun _=>none)))
def sp136 (k : Nat) : SP := .mk [.rd,.rd] (dL ti true (dI .i64 dN)) oN fun (a0,a1,_) _ C => C _ (qb7.f k a0 a1) (fun x => .agg [.own 0,.own 1]) fun x => [.row ti x.1 false,.row ti x.2 false]
def lv112 : Live := look ⟨[],[],[],[],[]⟩ []
def g112 (k : Nat) : FEnv := (addF 50 (sp50 k).fs (addF 94 (sp94 k).fs (fun _=>none)))
def sp112 (k : Nat) : SP := .mk [.rd] (dG (dL ti true (dL ti true dN)) dN) oN fun ((a0_0,a0_1,_),_) _ C => C _ (qbu.f k a0_0 a0_1) (fun x => .b x) fun x => []
theorem lp1001 (S : Seals) (k : Nat) : (sp136 k).St tt (g136 k) lv136 Tryz.f136 k /\ (sp112 k).St tt (g112 k) lv112 Tryz.f112 k := by
 refine cu_ (A := ∀ (n : Nat) {x0 : LI} {x1 x6 : Int} {y2 y3 : LI} {K : CK},S.lp tt (g136 k) lv136 0 n (loopN Tryz.f136 0) ⟨[(0,.dat ti x0 true),(1,.i .i64 x1),(4,.ptr 0 0),(5,.ptr 1 0),(6,.i .i64 x6)],[(0,.var 67 [.nilsl,.nilsl]),(1,.var 67 [.own 2,.own 3]),(2,.row ti y2 false),(3,.row ti y3 false)],4,27⟩ K = bindO (qb7.l0 k n x0 x1 x6 y2 y3) (fun x : LI => K (.exit 0) ⟨[(4,.ptr 0 0),(5,.ptr 1 0)],[(0,.var 67 [.nilsl,.nilsl]),(1,.var 67 [.own 2,.own 3]),(2,.row ti y2 false),(3,.row ti x false)],4,27⟩)) (fun w136_0=>?_) (ind_ ?_ ?_)
 and_intros
 all_goals first|(dsimp only [SP.St,sp136,sp112,dN,dL,dI,dG,oN]; intros; (first|unfold qb7.f|unfold qbu.f); refine S.run_s rfl rfl ?_; (conv=>lhs;arg 5;whnf); conv=>lhs;arg 6;whnf)|(intros; rw [S.lp_zero]; exact qaR)|(intro n ih; intros; rw [qb7.l0]; refine S.lp_succ ?_; conv=>lhs;arg 5;whnf)
 all_goals as_aux_lemma=>repeat' first|(first|refine S.seq_op rfl ?_|refine S.op_n ?_|refine S.block_x ?_|refine qcw ?_|refine qcx ?_|refine br_t (by assumption) ?_|refine br_f (by assumption) ?_|refine qbd (by with_reducible assumption) ?_|refine qcz fun _=>?_|refine qcv (fun _=>?_) (fun _=>?_)|refine br_d (fun _=>?_) (fun _=>?_)|refine br_n (fun _=>?_) (fun _=>?_)|refine br_c (fun _=>?_) (fun _=>?_)|refine qcr fun _=>?_|refine qbd (by assumption) ?_)<;>(conv=>lhs;whnf)|refine S.seq_nil ?_|refine S.reg_n ?_|refine S.region rfl ?_|refine S.two ?_|refine S.blok ?_|refine S.cond rfl ?_|refine S.after_n ?_|refine S.block_n ?_|refine S.block_r ?_|refine S.after_x ?_|refine S.after_r ?_|refine S.skip ?_|refine S.exit ?_|refine S.ret ?_|refine qco (fun _=>?_) (fun _=>?_)|refine S.region_d (id := 5) (ds := [0,1,0,0,0,24,0,120,248,511,1023]) (mds := [[],[],[],[],[],[],[],[],[],[],[3]]) (hm := [(10,[3])]) (by kernel_rfl) (by kernel_rfl) rfl rfl ?_|exact ih|refine (w136_0 _).trans ?_|refine S.region_d (id := 1) (ds := [0,1,3,7,15,31,63,15,143,399,1023,2047,4095]) (mds := [[],[],[],[],[],[],[],[],[],[],[],[],[]]) (hm := []) (by kernel_rfl) (by kernel_rfl) rfl rfl ?_|(first|refine S.loop ?_|refine S.back_n ?_|refine S.back_x ?_|refine S.back_r ?_|refine S.fin_r ?_|refine S.fin_n ?_|refine S.dk_n ?_|refine S.draw_nil ?_)<;>(conv=>lhs;whnf)|(refine S.draw_op ?_; conv => lhs; whnf; arg 1; whnf)|refine qbe ?_|refine qa2 ?_|refine qbO ?_|refine qaN ?_|exact qcq rfl|exact qaR
theorem snd136 (k : Nat) : Sound Tryz.prog 136 (sp136 k).fs := sn_ qal mixed Tryz.func136 (by kernel_rfl) rfl (qaa (snd174 k) (qaa (snd95 k) (qac _))) (lp1001 seals k).1
theorem snd112 (k : Nat) : Sound Tryz.prog 112 (sp112 k).fs := sn_ qal mixed Tryz.func112 (by kernel_rfl) rfl (qaa (snd50 k) (qaa (snd94 k) (qac _))) (lp1001 seals k).2
end
end Go.Vm
