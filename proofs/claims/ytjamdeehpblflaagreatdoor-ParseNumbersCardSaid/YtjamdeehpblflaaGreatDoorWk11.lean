/- Own texts put together: the walks -/
import Derived.Test.YtjamdeehpblflaaGreatDoorWk0
import Derived.Test.YtjamdeehpblflaaGreatDoorWk9
import Derived.Test.YtjamdeehpblflaaGreatDoorWk10
import Derived.Test.YtjamdeehpblflaaGreatDoorVm1
set_option linter.unusedVariables false
set_option maxRecDepth 60000
set_option maxHeartbeats 40000000
namespace Go.Vm
open Go Go.Proofs Go.Pf
noncomputable section

def lv3 : Live := look ⟨[],[],[],[],[]⟩ [(2,⟨[1],[],[0],[],[]⟩),(6,⟨[1,2,4],[1],[0],[],[]⟩),(12,⟨[1,2,4,52,53,54],[1,2,4],[0],[],[]⟩),(18,⟨[71,72,73],[],[0],[],[]⟩),(24,⟨[81,82,83],[],[0],[],[]⟩)]
def g3 (k : Nat) : FEnv := (addF 12 (sp12 k).fs (addF 11 (sp11 k).fs (addF 10 (sp10 k).fs (addF 7 (sp7 k).fs (addF 8 (sp8 k).fs (addF 9 (sp9 k).fs (fun _=>none)))))))
def sp3 (k : Nat) : SP := .mk [] dN oN fun _ _ C => C _ (qac.f k) (fun x => .b x) fun x => []
theorem lp11000 (S : Seals) (k : Nat) : (sp3 k).St tt (g3 k) lv3 Tryz.f3 k := by
 refine cu_ (A := ∀ (n : Nat) {x1 : Int} {x2 : ByteArray} {x4 x53 x54 : Int} {y0 : List ByteArray} {K : CK},S.lp tt (g3 k) lv3 0 n (loopN Tryz.f3 2) ⟨[(1,.i .i64 x1),(2,.s x2),(4,.i .i64 x4),(52,.own 0),(53,.i .i64 x53),(54,.i .i64 x54)],[(0,.row .str y0 false)],1,97⟩ K = bindO (qac.l2 k n x1 x2 x4 x53 x54 y0) (Sum.elim (fun x : Unit => K (.exit 4) ⟨[(1,.i .i64 x1),(2,.s x2),(4,.i .i64 x4)],[],0,97⟩) (fun x : Bool => K .ret ⟨[(0,.b x)],[],0,97⟩))) (fun w3_2=>?_) (ind_ ?_ ?_)
 refine cu_ (A := ∀ (n : Nat) {x1 : Int} {x2 : ByteArray} {x4 : Int} {K : CK},S.lp tt (g3 k) lv3 0 n (loopN Tryz.f3 1) ⟨[(1,.i .i64 x1),(2,.s x2),(4,.i .i64 x4)],[],0,97⟩ K = bindO (qac.l1 k n x1 x2 x4) (Sum.elim (fun x : Unit => K (.exit 2) ⟨[(1,.i .i64 x1)],[],0,97⟩) (fun x : Bool => K .ret ⟨[(0,.b x)],[],0,97⟩))) (fun w3_1=>?_) (ind_ ?_ ?_)
 refine cu_ (A := ∀ (n : Nat) {x1 : Int} {K : CK},S.lp tt (g3 k) lv3 0 n (loopN Tryz.f3 0) ⟨[(1,.i .i64 x1)],[],0,97⟩ K = bindO (qac.l0 k n x1) (Sum.elim (fun x : Unit => K (.exit 0) ⟨[],[],0,97⟩) (fun x : Bool => K .ret ⟨[(0,.b x)],[],0,97⟩))) (fun w3_0=>?_) (ind_ ?_ ?_)
 refine cu_ (A := ∀ (n : Nat) {x72 x73 : Int} {y0 : List ByteArray} {K : CK},S.lp tt (g3 k) lv3 0 n (loopN Tryz.f3 3) ⟨[(71,.own 0),(72,.i .i64 x72),(73,.i .i64 x73)],[(0,.row .str y0 false)],1,97⟩ K = bindO (qac.l3 k n x72 x73 y0) (Sum.elim (fun x : Unit => K (.exit 6) ⟨[],[],0,97⟩) (fun x : Bool => K .ret ⟨[(0,.b x)],[],0,97⟩))) (fun w3_3=>?_) (ind_ ?_ ?_)
 refine cu_ (A := ∀ (n : Nat) {x82 x83 : Int} {y0 : List ByteArray} {K : CK},S.lp tt (g3 k) lv3 0 n (loopN Tryz.f3 4) ⟨[(81,.own 0),(82,.i .i64 x82),(83,.i .i64 x83)],[(0,.row .str y0 false)],1,97⟩ K = bindO (qac.l4 k n x82 x83 y0) (Sum.elim (fun x : Unit => K (.exit 8) ⟨[],[],0,97⟩) (fun x : Bool => K .ret ⟨[(0,.b x)],[],0,97⟩))) (fun w3_4=>?_) (ind_ ?_ ?_)
 all_goals first|(dsimp only [SP.St,sp3,dN,oN]; intros; unfold qac.f; refine S.run_s rfl rfl ?_; (conv=>lhs;arg 5;whnf); conv=>lhs;arg 6;whnf)|(intros; rw [S.lp_zero]; exact qaN)|(intro n ih; intros; (first|rw [qac.l2]|rw [qac.l1]|rw [qac.l0]|rw [qac.l3]|rw [qac.l4]); refine S.lp_succ ?_; conv=>lhs;arg 5;whnf)
 all_goals repeat' first|(first|refine S.seq_op rfl ?_|refine S.op_n ?_|refine S.block_x ?_|refine qcC ?_|refine qcD ?_|refine br_t (by assumption) ?_|refine br_f (by assumption) ?_|refine qa8 (by with_reducible assumption) ?_|refine qcB (fun _=>?_) (fun _=>?_)|refine br_d (fun _=>?_) (fun _=>?_)|refine br_n (fun _=>?_) (fun _=>?_)|refine br_c (fun _=>?_) (fun _=>?_)|refine qcA fun _=>?_|refine qa8 (by assumption) ?_|refine qcE fun _=>?_)<;>(conv=>lhs;whnf)|refine S.seq_nil ?_|refine S.reg_n ?_|refine S.region rfl ?_|refine S.two ?_|refine S.blok ?_|refine S.cond rfl ?_|refine S.after_n ?_|refine S.block_n ?_|refine S.block_r ?_|refine S.after_x ?_|refine S.after_r ?_|refine S.skip ?_|refine S.exit ?_|refine S.ret ?_|refine qcy (fun _=>?_) (fun _=>?_)|refine S.region_d (id := 14) (ds := [0,0,3,0,15,0,0,64,224,511,1023,2047]) (mds := [[],[],[],[],[],[],[],[],[],[],[],[]]) (hm := []) (by kernel_rfl) (by kernel_rfl) rfl rfl ?_|exact ih|refine (w3_2 _).trans ?_|refine (w3_1 _).trans ?_|refine (w3_0 _).trans ?_|refine (w3_3 _).trans ?_|refine (w3_4 _).trans ?_|refine S.region_d (id := 11) (ds := [0,0,0,4,15,0,0,0,128,480,1023,2047,4095,0]) (mds := [[],[],[],[],[],[],[],[],[],[],[],[],[],[]]) (hm := []) (by kernel_rfl) (by kernel_rfl) rfl rfl ?_|(first|refine S.loop ?_|refine S.back_n ?_|refine S.back_x ?_|refine S.back_r ?_|refine S.fin_r ?_|refine S.fin_n ?_|refine S.dk_n ?_|refine S.draw_nil ?_)<;>(conv=>lhs;whnf)|(refine S.draw_op ?_; conv => lhs; whnf; arg 1; whnf)|refine qbb ?_|refine qaT ?_|refine qbJ ?_|refine qaD ?_|exact qcz rfl|exact qaN
theorem en3 (k : Nat) : EnvOK Tryz.prog (g3 k) := (qaa (snd12 k) (qaa (snd11 k) (qaa (snd10 k) (qaa (snd7 k) (qaa (snd8 k) (qaa (snd9 k) (qab _)))))))
theorem snd3 (k : Nat) : Sound Tryz.prog 3 (sp3 k).fs := sn_ qah mixed Tryz.func3 (by kernel_rfl) rfl (qaa (snd12 k) (qaa (snd11 k) (qaa (snd10 k) (qaa (snd7 k) (qaa (snd8 k) (qaa (snd9 k) (qab _))))))) (lp11000 seals k)
theorem r3 (S : Seals) (k : Nat)  : runF tt (g3 k) lv3 Tryz.f3 k [] [] = bindO (qac.f k) (fun x : Bool => some (.b x,[])) := (lp11000 S k) 
end
end Go.Vm
