/- Own walks -/
import Derived.Test.YtjamdeehpblflaaGreatDoorWk0
import Derived.Test.YtjamdeehpblflaaGreatDoorWk12
import Derived.Test.YtjamdeehpblflaaGreatDoorWk13
import Derived.Test.YtjamdeehpblflaaGreatDoorWk11
import Derived.Test.YtjamdeehpblflaaGreatDoorWk14
import Derived.Test.YtjamdeehpblflaaGreatDoorVm1
set_option linter.unusedVariables false
set_option maxRecDepth 60000
set_option maxHeartbeats 40000000
namespace Go.Vm
open Go Go.Proofs Go.Pf
noncomputable section

def lv4 : Live := look ⟨[],[],[],[],[]⟩ []
noncomputable def g4 (k : Nat) : FEnv := (addF 12 (sp12 k).fs (addF 11 (sp11 k).fs (addF 10 (sp10 k).fs (addF 14 sp14.fs (addF 7 (sp7 k).fs (addF 13 (sp13 k).fs (addF 8 (sp8 k).fs (fun _=>none))))))))
theorem en4 (k : Nat) : EnvOK Tryz.prog (g4 k) := (qaa (snd12 k) (qaa (snd11 k) (qaa (snd10 k) (qaa snd14 (qaa (snd7 k) (qaa (snd13 k) (qaa (snd8 k) (qab _))))))))
set_option maxRecDepth 60000 in
set_option maxHeartbeats 40000000 in
theorem r4 (S : Seals) (k : Nat) (a0 : LI) (a1 : List (Int × Int × Int × Int × ByteArray)) (a2 a3 : Int) (a4 a5 : ByteArray) : runF tt (g4 k) lv4 Tryz.f4 k [.dat ti a0 false,.dat (.pair ti (.pair ti (.pair ti (.pair ti .str)))) a1 false,.i .i64 a2,.i .i64 a3,.s a4,.s a5] [] = bindO (qcV.f k a0 a1 a2 a3 a4 a5) (fun x : Bool => some (.b x,[])) := by
 unfold qcV.f; refine S.run_s rfl rfl ?_; conv => lhs; arg 5; whnf
 conv => lhs; arg 6; whnf
 iterate 6
  all_goals
   repeat' first|(first|refine S.seq_op rfl ?_|refine S.op_n ?_|refine S.block_x ?_|refine qdC ?_|refine qdD ?_|refine br_t (by assumption) ?_|refine br_f (by assumption) ?_|refine qb1 (by with_reducible assumption) ?_|refine qdu fun _=>?_|refine qb1 (by assumption) ?_|refine qdE fun _=>?_)<;>(conv=>lhs;whnf)|refine S.seq_nil ?_|refine S.reg_n ?_|refine S.region rfl ?_|refine S.two ?_|refine S.blok ?_|refine S.cond rfl ?_|refine S.after_n ?_|refine S.block_n ?_|refine S.block_r ?_|refine S.after_x ?_|refine S.after_r ?_|refine S.skip ?_|refine S.exit ?_|refine S.ret ?_|refine qdt (fun _=>?_) (fun _=>?_)|refine S.region_d (id := 8) (ds := [0,1,3,7,7,31,7,127,7,7,775,2047,4095,8191,16383,32767,32767,131071,32767,32767,819199,2097151,4194303,8388607,16777215,33554431,67108863,134217727,268435455,536870911,1073741823,2147483647,4294967295,8589934591,17179869183,34359738367,68719476735,137438953471,274877906943,549755813887,1099511627775,2199023255551,4398046511103,8796093022207,17592186044415,35184372088831,70368744177663,140737488355327,281474976710655,562949953421311,1125899906842623]) (mds := [[],[],[],[],[],[],[],[],[],[],[],[],[],[],[],[],[],[],[],[],[],[],[],[],[],[],[],[],[],[],[],[],[],[],[],[],[],[],[],[],[],[],[],[],[],[],[],[],[],[],[]]) (hm := []) (by kernel_rfl) (by kernel_rfl) rfl rfl ?_|(first|refine S.loop ?_|refine S.back_n ?_|refine S.back_x ?_|refine S.back_r ?_|refine S.fin_r ?_|refine S.fin_n ?_|refine S.dk_n ?_|refine S.draw_nil ?_)<;>(conv=>lhs;whnf)|(refine S.draw_op ?_; conv => lhs; whnf; arg 1; whnf)|refine qb4 ?_|refine qbt ?_|refine qcD ?_|refine qa9 ?_
  all_goals try first
   | (refine qdB (fun _=>?_) (fun _=>?_) <;> conv => lhs; whnf)
   | (refine br_d (fun _=>?_) (fun _=>?_) <;> conv => lhs; whnf)
   | (refine br_n (fun _=>?_) (fun _=>?_) <;> conv => lhs; whnf)
   | (refine br_c (fun _=>?_) (fun _=>?_) <;> conv => lhs; whnf)
 all_goals as_aux_lemma =>
  repeat' first|(first|refine S.seq_op rfl ?_|refine S.op_n ?_|refine S.block_x ?_|refine qdC ?_|refine qdD ?_|refine br_t (by assumption) ?_|refine br_f (by assumption) ?_|refine qb1 (by with_reducible assumption) ?_|refine qdB (fun _=>?_) (fun _=>?_)|refine br_d (fun _=>?_) (fun _=>?_)|refine br_n (fun _=>?_) (fun _=>?_)|refine br_c (fun _=>?_) (fun _=>?_)|refine qdu fun _=>?_|refine qb1 (by assumption) ?_|refine qdE fun _=>?_)<;>(conv=>lhs;whnf)|refine S.seq_nil ?_|refine S.reg_n ?_|refine S.region rfl ?_|refine S.two ?_|refine S.blok ?_|refine S.cond rfl ?_|refine S.after_n ?_|refine S.block_n ?_|refine S.block_r ?_|refine S.after_x ?_|refine S.after_r ?_|refine S.skip ?_|refine S.exit ?_|refine S.ret ?_|refine qdt (fun _=>?_) (fun _=>?_)|refine S.region_d (id := 8) (ds := [0,1,3,7,7,31,7,127,7,7,775,2047,4095,8191,16383,32767,32767,131071,32767,32767,819199,2097151,4194303,8388607,16777215,33554431,67108863,134217727,268435455,536870911,1073741823,2147483647,4294967295,8589934591,17179869183,34359738367,68719476735,137438953471,274877906943,549755813887,1099511627775,2199023255551,4398046511103,8796093022207,17592186044415,35184372088831,70368744177663,140737488355327,281474976710655,562949953421311,1125899906842623]) (mds := [[],[],[],[],[],[],[],[],[],[],[],[],[],[],[],[],[],[],[],[],[],[],[],[],[],[],[],[],[],[],[],[],[],[],[],[],[],[],[],[],[],[],[],[],[],[],[],[],[],[],[]]) (hm := []) (by kernel_rfl) (by kernel_rfl) rfl rfl ?_|(first|refine S.loop ?_|refine S.back_n ?_|refine S.back_x ?_|refine S.back_r ?_|refine S.fin_r ?_|refine S.fin_n ?_|refine S.dk_n ?_|refine S.draw_nil ?_)<;>(conv=>lhs;whnf)|(refine S.draw_op ?_; conv => lhs; whnf; arg 1; whnf)|refine qb4 ?_|refine qbt ?_|refine qcD ?_|refine qa9 ?_|exact qdM rfl|exact qbu

end
end Go.Vm
