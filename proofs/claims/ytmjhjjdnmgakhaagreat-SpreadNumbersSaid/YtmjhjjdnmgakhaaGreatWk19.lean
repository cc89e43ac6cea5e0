/- Own walks -/
import Derived.Test.YtmjhjjdnmgakhaaGreatWk0
import Derived.Test.YtmjhjjdnmgakhaaGreatWk9
import Derived.Test.YtmjhjjdnmgakhaaGreatWk16
import Derived.Test.YtmjhjjdnmgakhaaGreatWk18
import Derived.Test.YtmjhjjdnmgakhaaGreatVm2
set_option linter.unusedVariables false
set_option maxRecDepth 60000
set_option maxHeartbeats 40000000
namespace Go.Vm
open Go Go.Proofs Go.Pf
noncomputable section

def lv18 : Live := look ⟨[],[],[],[],[]⟩ [(4,⟨[2,3,9,10,11],[2,3],[2],[(3,2,.own (.pair ti (.pair (.sl ti) (.pair (.sl ti) (.pair (.sl ti) (.pair ti (.pair ti .str)))))))],[]⟩)]
def g18 : FEnv := (fun _=>none)
def sp18 (k : Nat) : SP := .mk [.st] (dG (dL ti false (dS (dL (.pair ti (.pair (.sl ti) (.pair (.sl ti) (.pair (.sl ti) (.pair ti (.pair ti .str)))))) false (dL ti false dN)))) dN) oN fun ((a0_0,a0_1,a0_2,a0_3,_),_) _ C => C _ (qbR.f k a0_0 a0_1 a0_2 a0_3) (fun x => .agg [.dat ti a0_0 false,.s a0_1,.own 0,.dat ti a0_3 false]) fun x => [.row (.pair ti (.pair (.sl ti) (.pair (.sl ti) (.pair (.sl ti) (.pair ti (.pair ti .str)))))) x false]
def lv4 : Live := look ⟨[],[],[],[],[]⟩ [(2,⟨[1],[],[0],[],[]⟩)]
def g4 (k : Nat) : FEnv := (addF 19 (sp19 k).fs (addF 18 (sp18 k).fs (addF 17 (sp17 k).fs (addF 11 (sp11 k).fs (addF 16 (sp16 k).fs (fun _=>none))))))
def sp4 (k : Nat) : SP := .mk [] dN oN fun _ _ C => C _ (qaG.f k) (fun x => .b x) fun x => []
theorem lp19000 (S : Seals) (k : Nat) : (sp18 k).St tt (g18) lv18 Tryz.f18 k /\ (sp4 k).St tt (g4 k) lv4 Tryz.f4 k := by
 refine cu_ (A := ∀ (n : Nat) {x9 : List LN} {x10 x11 : Int} {y0 : ByteArray} {y1_0 : LI} {y1_1 : ByteArray} {y1_2 : LI} {y2 : List LN} {K : CK},S.lp tt (g18) lv18 0 n (loopN Tryz.f18 0) ⟨[(2,.ptr 0 0),(3,.ptr 1 0),(9,.dat (.pair ti (.pair (.sl ti) (.pair (.sl ti) (.pair (.sl ti) (.pair ti (.pair ti .str)))))) x9 false),(10,.i .i64 x10),(11,.i .i64 x11)],[(0,.var 25 [.nilsl,.s y0,.nilsl,.nilsl]),(1,.var 25 [.dat ti y1_0 false,.s y1_1,.own 2,.dat ti y1_2 false]),(2,.row (.pair ti (.pair (.sl ti) (.pair (.sl ti) (.pair (.sl ti) (.pair ti (.pair ti .str)))))) y2 false)],3,24⟩ K = bindO (qbR.l0 n x9 x10 x11 y0 y1_0 y1_1 y1_2 y2) (fun x : (List LN) => K (.exit 0) ⟨[(2,.ptr 0 0),(3,.ptr 1 0)],[(0,.var 25 [.nilsl,.s y0,.nilsl,.nilsl]),(1,.var 25 [.dat ti y1_0 false,.s y1_1,.own 2,.dat ti y1_2 false]),(2,.row (.pair ti (.pair (.sl ti) (.pair (.sl ti) (.pair (.sl ti) (.pair ti (.pair ti .str)))))) x false)],3,24⟩)) (fun w18_0=>?_) (ind_ ?_ ?_)
 refine cu_ (A := ∀ (n : Nat) {x1 : Int} {K : CK},S.lp tt (g4 k) lv4 0 n (loopN Tryz.f4 0) ⟨[(1,.i .i64 x1)],[],0,24⟩ K = bindO (qaG.l0 k n x1) (Sum.elim (fun x : Unit => K (.exit 0) ⟨[],[],0,24⟩) (fun x : Bool => K .ret ⟨[(0,.b x)],[],0,24⟩))) (fun w4_0=>?_) (ind_ ?_ ?_)
 and_intros
 all_goals first|(dsimp only [SP.St,sp18,sp4,dN,dL,dS,dG,oN]; intros; (first|unfold qbR.f|unfold qaG.f); refine S.run_s rfl rfl ?_; (conv=>lhs;arg 5;whnf); conv=>lhs;arg 6;whnf)|(intros; rw [S.lp_zero]; exact qaR)|(intro n ih; intros; (first|rw [qbR.l0]|rw [qaG.l0]); refine S.lp_succ ?_; conv=>lhs;arg 5;whnf)
 all_goals as_aux_lemma=>repeat' first|(first|refine S.seq_op rfl ?_|refine S.op_n ?_|refine S.block_x ?_|refine qcw ?_|refine qcx ?_|refine br_t (by assumption) ?_|refine br_f (by assumption) ?_|refine qbd (by with_reducible assumption) ?_|refine qcz fun _=>?_|refine qcv (fun _=>?_) (fun _=>?_)|refine br_d (fun _=>?_) (fun _=>?_)|refine br_n (fun _=>?_) (fun _=>?_)|refine br_c (fun _=>?_) (fun _=>?_)|refine qcr fun _=>?_|refine qbd (by assumption) ?_)<;>(conv=>lhs;whnf)|refine S.seq_nil ?_|refine S.reg_n ?_|refine S.region rfl ?_|refine S.two ?_|refine S.blok ?_|refine S.cond rfl ?_|refine S.after_n ?_|refine S.block_n ?_|refine S.block_r ?_|refine S.after_x ?_|refine S.after_r ?_|refine S.skip ?_|refine S.exit ?_|refine S.ret ?_|refine qco (fun _=>?_) (fun _=>?_)|exact ih|refine (w18_0 _).trans ?_|refine (w4_0 _).trans ?_|(first|refine S.loop ?_|refine S.back_n ?_|refine S.back_x ?_|refine S.back_r ?_|refine S.fin_r ?_|refine S.fin_n ?_|refine S.dk_n ?_|refine S.draw_nil ?_)<;>(conv=>lhs;whnf)|(refine S.draw_op ?_; conv => lhs; whnf; arg 1; whnf)|refine qbe ?_|refine qa2 ?_|refine qbO ?_|refine qaN ?_|exact qcq rfl|exact qaR
theorem snd18 (k : Nat) : Sound Tryz.prog 18 (sp18 k).fs := sn_ qal mixed Tryz.func18 (by kernel_rfl) rfl (qac _) (lp19000 seals k).1
theorem en4 (k : Nat) : EnvOK Tryz.prog (g4 k) := (qaa (snd19 k) (qaa (snd18 k) (qaa (snd17 k) (qaa (snd11 k) (qaa (snd16 k) (qac _))))))
theorem snd4 (k : Nat) : Sound Tryz.prog 4 (sp4 k).fs := sn_ qal mixed Tryz.func4 (by kernel_rfl) rfl (qaa (snd19 k) (qaa (snd18 k) (qaa (snd17 k) (qaa (snd11 k) (qaa (snd16 k) (qac _)))))) (lp19000 seals k).2
theorem r4 (S : Seals) (k : Nat)  : runF tt (g4 k) lv4 Tryz.f4 k [] [] = bindO (qaG.f k) (fun x : Bool => some (.b x,[])) := (lp19000 S k).2 
end
end Go.Vm
