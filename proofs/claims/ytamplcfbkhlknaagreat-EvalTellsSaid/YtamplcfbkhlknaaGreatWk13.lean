/- Own texts put together: the walks -/
import Derived.Test.YtamplcfbkhlknaaGreatWk0
import Derived.Test.YtamplcfbkhlknaaGreatWk10
import Derived.Test.YtamplcfbkhlknaaGreatWk11
import Derived.Test.YtamplcfbkhlknaaGreatWk12
import Derived.Test.YtamplcfbkhlknaaGreatWk6
import Derived.Test.YtamplcfbkhlknaaGreatVm1
set_option linter.unusedVariables false
set_option maxRecDepth 60000
set_option maxHeartbeats 40000000
namespace Go.Vm
open Go Go.Proofs Go.Pf
noncomputable section

def lv4 : Live := look ⟨[],[],[],[],[]⟩ []
def g4 (k : Nat) : FEnv := (addF 13 (sp13 k).fs (addF 12 (sp12 k).fs (addF 10 (sp10 k).fs (addF 9 (sp9 k).fs (addF 14 (sp14 k).fs (addF 7 (sp7 k).fs (fun _=>none)))))))
def sp4 (k : Nat) : SP := .mk [.st,.st,.st,.st,.st] (dL ti false (dL ti false (dL (.pair ti (.pair ti (.pair ti (.pair ti .str)))) false (dG (dI .i64 (dL ti false (dL ti false (dL ti false (dI .i64 (dI .i64 (dS dN))))))) (dL (.pair (.sl ti) (.sl ti)) false dN))))) oN fun (a0,a1,a2,(a3_0,a3_1,a3_2,a3_3,a3_4,a3_5,a3_6,_),a4,_) _ C => C _ (qcX.f k a0 a1 a2 a3_0 a3_1 a3_2 a3_3 a3_4 a3_5 a3_6 a4) (fun x => .b x) fun x => []
def lv6 : Live := look ⟨[],[],[],[],[]⟩ []
def g6 (k : Nat) : FEnv := (addF 13 (sp13 k).fs (addF 18 (sp18 k).fs (addF 16 (sp16 k).fs (addF 19 (sp19 k).fs (addF 9 (sp9 k).fs (addF 7 (sp7 k).fs (fun _=>none)))))))
def sp6 (k : Nat) : SP := .mk [.st,.st] (dL ti false (dL ti false dN)) oN fun (a0,a1,_) _ C => C _ (qcW.f k a0 a1) (fun x => .b x) fun x => []
theorem lp13000 (S : Seals) (k : Nat) : (sp4 k).St tt (g4 k) lv4 Tryz.f4 k ∧ (sp6 k).St tt (g6 k) lv6 Tryz.f6 k := by
 and_intros
 all_goals (dsimp only [SP.St,sp4,sp6,dN,dL,dI,dS,dG,oN]; intros; (first|unfold qcX.f|unfold qcW.f); refine S.run_s rfl rfl ?_; (conv=>lhs;arg 5;whnf); conv=>lhs;arg 6;whnf)
 all_goals repeat' first|(first|refine S.seq_op rfl ?_|refine S.op_n ?_|refine S.block_x ?_|refine qcC ?_|refine qcD ?_|refine br_t (by assumption) ?_|refine br_f (by assumption) ?_|refine qbb (by with_reducible assumption) ?_|refine qcB (fun _=>?_) (fun _=>?_)|refine br_d (fun _=>?_) (fun _=>?_)|refine br_n (fun _=>?_) (fun _=>?_)|refine br_c (fun _=>?_) (fun _=>?_)|refine qcA fun _=>?_|refine qbb (by assumption) ?_|refine qcE fun _=>?_)<;>(conv=>lhs;whnf)|refine S.seq_nil ?_|refine S.reg_n ?_|refine S.region rfl ?_|refine S.two ?_|refine S.blok ?_|refine S.cond rfl ?_|refine S.after_n ?_|refine S.block_n ?_|refine S.block_r ?_|refine S.after_x ?_|refine S.after_r ?_|refine S.skip ?_|refine S.exit ?_|refine S.ret ?_|refine qcy (fun _=>?_) (fun _=>?_)|refine S.region_d (id := 5) (ds := [0,0,0,6,15,31,63,63,63,447,1023,2047,4095,8191,8191,32767,65535,131071,262143,262143,1048575,2097151,4194303,8388607,16777215,33554431]) (mds := [[],[],[],[1,2,3],[1,2,3],[],[],[],[],[1,2,3],[],[],[],[],[],[1,2,3],[],[],[],[],[],[],[],[],[],[]]) (hm := [(3,[1,2,3]),(4,[1,2,3]),(9,[1,2,3]),(15,[1,2,3])]) (by kernel_rfl) (by kernel_rfl) rfl rfl ?_|(first|refine S.loop ?_|refine S.back_n ?_|refine S.back_x ?_|refine S.back_r ?_|refine S.fin_r ?_|refine S.fin_n ?_|refine S.dk_n ?_|refine S.draw_nil ?_)<;>(conv=>lhs;whnf)|exact qcz rfl|exact qaO|(refine S.draw_op ?_; conv => lhs; whnf; arg 1; whnf)|refine qbc ?_|refine qaR ?_|refine qbC ?_|refine qaF ?_
theorem en4 (k : Nat) : EnvOK Tryz.prog (g4 k) := (qaa (snd13 k) (qaa (snd12 k) (qaa (snd10 k) (qaa (snd9 k) (qaa (snd14 k) (qaa (snd7 k) (qab _)))))))
theorem snd4 (k : Nat) : Sound Tryz.prog 4 (sp4 k).fs := sn_ qaf mixed Tryz.func4 (by kernel_rfl) rfl (qaa (snd13 k) (qaa (snd12 k) (qaa (snd10 k) (qaa (snd9 k) (qaa (snd14 k) (qaa (snd7 k) (qab _))))))) (lp13000 seals k).1
theorem r4 (S : Seals) (k : Nat) (a0 a1 : LI) (a2 : List (Int × Int × Int × Int × ByteArray)) (a3_0 : Int) (a3_1 a3_2 a3_3 : LI) (a3_4 a3_5 : Int) (a3_6 : ByteArray) (a4 : List LT) : runF tt (g4 k) lv4 Tryz.f4 k [.dat ti a0 false,.dat ti a1 false,.dat (.pair ti (.pair ti (.pair ti (.pair ti .str)))) a2 false,.agg [.i .i64 a3_0,.dat ti a3_1 false,.dat ti a3_2 false,.dat ti a3_3 false,.i .i64 a3_4,.i .i64 a3_5,.s a3_6],.dat (.pair (.sl ti) (.sl ti)) a4 false] [] = bindO (qcX.f k a0 a1 a2 a3_0 a3_1 a3_2 a3_3 a3_4 a3_5 a3_6 a4) (fun x : Bool => some (.b x,[])) := (lp13000 S k).1 a0 a1 a2 a3_0 a3_1 a3_2 a3_3 a3_4 a3_5 a3_6 a4
theorem en6 (k : Nat) : EnvOK Tryz.prog (g6 k) := (qaa (snd13 k) (qaa (snd18 k) (qaa (snd16 k) (qaa (snd19 k) (qaa (snd9 k) (qaa (snd7 k) (qab _)))))))
theorem snd6 (k : Nat) : Sound Tryz.prog 6 (sp6 k).fs := sn_ qaf mixed Tryz.func6 (by kernel_rfl) rfl (qaa (snd13 k) (qaa (snd18 k) (qaa (snd16 k) (qaa (snd19 k) (qaa (snd9 k) (qaa (snd7 k) (qab _))))))) (lp13000 seals k).2
theorem r6 (S : Seals) (k : Nat) (a0 a1 : LI) : runF tt (g6 k) lv6 Tryz.f6 k [.dat ti a0 false,.dat ti a1 false] [] = bindO (qcW.f k a0 a1) (fun x : Bool => some (.b x,[])) := (lp13000 S k).2 a0 a1
end
end Go.Vm
