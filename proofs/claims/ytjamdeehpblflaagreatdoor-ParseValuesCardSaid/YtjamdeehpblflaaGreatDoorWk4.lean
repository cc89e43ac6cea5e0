/- Own texts put together: the walks -/
import Derived.Test.YtjamdeehpblflaaGreatDoorWk0
import Derived.Test.YtjamdeehpblflaaGreatDoorWk3
import Derived.Test.YtjamdeehpblflaaGreatDoorVm1
set_option linter.unusedVariables false
set_option maxRecDepth 60000
set_option maxHeartbeats 40000000
namespace Go.Vm
open Go Go.Proofs Go.Pf
noncomputable section

def lv6 : Live := look ⟨[],[],[],[],[]⟩ []
def g6 (k : Nat) : FEnv := (addF 12 (sp12 k).fs (addF 20 (sp20 k).fs (addF 19 sp19.fs (addF 18 (sp18 k).fs (fun _=>none)))))
def sp6 (k : Nat) : SP := .mk [.st] (dI .i64 dN) oN fun (a0,_) _ C => C _ (qbg.f k a0) (fun x => .b x) fun x => []
theorem lp4000 (S : Seals) (k : Nat) : (sp6 k).St tt (g6 k) lv6 Tryz.f6 k := by
 all_goals (dsimp only [SP.St,sp6,dN,dI,oN]; intros; unfold qbg.f; refine S.run_s rfl rfl ?_; (conv=>lhs;arg 5;whnf); conv=>lhs;arg 6;whnf)
 all_goals repeat' first|(first|refine S.seq_op rfl ?_|refine S.op_n ?_|refine S.block_x ?_|refine qcP ?_|refine qcQ ?_|refine br_t (by assumption) ?_|refine br_f (by assumption) ?_|refine qbo (by with_reducible assumption) ?_|refine qcO (fun _=>?_) (fun _=>?_)|refine br_d (fun _=>?_) (fun _=>?_)|refine br_n (fun _=>?_) (fun _=>?_)|refine br_c (fun _=>?_) (fun _=>?_)|refine qcN fun _=>?_|refine qbo (by assumption) ?_|refine qcR fun _=>?_)<;>(conv=>lhs;whnf)|refine S.seq_nil ?_|refine S.reg_n ?_|refine S.region rfl ?_|refine S.two ?_|refine S.blok ?_|refine S.cond rfl ?_|refine S.after_n ?_|refine S.block_n ?_|refine S.block_r ?_|refine S.after_x ?_|refine S.after_r ?_|refine S.skip ?_|refine S.exit ?_|refine S.ret ?_|refine qcL (fun _=>?_) (fun _=>?_)|(first|refine S.loop ?_|refine S.back_n ?_|refine S.back_x ?_|refine S.back_r ?_|refine S.fin_r ?_|refine S.fin_n ?_|refine S.dk_n ?_|refine S.draw_nil ?_)<;>(conv=>lhs;whnf)|exact qcM rfl|exact qba|(refine S.draw_op ?_; conv => lhs; whnf; arg 1; whnf)|refine qbp ?_|refine qa9 ?_|refine qbL ?_|refine qaS ?_
theorem en6 (k : Nat) : EnvOK Tryz.prog (g6 k) := (qaa (snd12 k) (qaa (snd20 k) (qaa snd19 (qaa (snd18 k) (qab _)))))
theorem snd6 (k : Nat) : Sound Tryz.prog 6 (sp6 k).fs := sn_ qah mixed Tryz.func6 (by kernel_rfl) rfl (qaa (snd12 k) (qaa (snd20 k) (qaa snd19 (qaa (snd18 k) (qab _))))) (lp4000 seals k)
theorem r6 (S : Seals) (k : Nat) (a0 : Int) : runF tt (g6 k) lv6 Tryz.f6 k [.i .i64 a0] [] = bindO (qbg.f k a0) (fun x : Bool => some (.b x,[])) := (lp4000 S k) a0
end
end Go.Vm
