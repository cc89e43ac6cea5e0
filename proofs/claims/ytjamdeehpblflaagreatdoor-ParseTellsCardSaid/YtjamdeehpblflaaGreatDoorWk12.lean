/- Own walks -/
import Derived.Test.YtjamdeehpblflaaGreatDoorWk0
import Derived.Test.YtjamdeehpblflaaGreatDoorWk4
import Derived.Test.YtjamdeehpblflaaGreatDoorWk5
import Derived.Test.YtjamdeehpblflaaGreatDoorWk11
import Derived.Test.YtjamdeehpblflaaGreatDoorVm1
set_option linter.unusedVariables false
set_option maxRecDepth 60000
set_option maxHeartbeats 40000000
namespace Go.Vm
open Go Go.Proofs Go.Pf
noncomputable section

def lv32 : Live := look ⟨[],[],[],[],[]⟩ [(18,⟨[0,2,4,6,8],[0,2,4,6],[2,3],[(6,2,.own (.pair ti (.pair (.sl ti) (.pair (.sl ti) (.pair (.sl ti) (.pair ti (.pair ti .str)))))))],[]⟩),(1000000,⟨[],[],[],[(2,0,.own ti),(2,2,.own (.pair ti (.pair (.sl ti) (.pair (.sl ti) (.pair (.sl ti) (.pair ti (.pair ti .str))))))),(2,3,.own ti)],[]⟩)]
def g32 (k : Nat) : FEnv := (addF 7 (sp7 k).fs (addF 59 (sp59 k).fs (addF 58 (sp58 k).fs (addF 57 (sp57 k).fs (addF 56 sp56.fs (addF 33 (sp33 k).fs (addF 55 (sp55 k).fs (fun _=>none))))))))
def sp32 (k : Nat) : SP := .mk [.rd] (dS dN) oN fun (a0,_) _ C => C _ (qbd.f k a0) (fun x => .tup [.agg [.own 0,.s x.1,.own 1,.own 2],.i .i64 x.2.1]) fun x => [.row ti x.2.2.1 false,.row (.pair ti (.pair (.sl ti) (.pair (.sl ti) (.pair (.sl ti) (.pair ti (.pair ti .str)))))) x.2.2.2.1 false,.row ti x.2.2.2.2 false]
def lv10 : Live := look ⟨[],[],[],[],[]⟩ []
def g10 (k : Nat) : FEnv := (addF 16 (sp16 k).fs (addF 32 (sp32 k).fs (addF 15 (sp15 k).fs (fun _=>none))))
def sp10 (k : Nat) : SP := .mk [.rd] (dS dN) oN fun (a0,_) _ C => C _ (qaA.f k a0) (fun x => .b x) fun x => []
def lv11 : Live := look ⟨[],[],[],[],[]⟩ [(7,⟨[3,4,40,41],[],[2],[],[]⟩)]
def g11 (k : Nat) : FEnv := (addF 34 (sp34 k).fs (addF 19 sp19.fs (addF 33 (sp33 k).fs (addF 20 (sp20 k).fs (fun _=>none)))))
def sp11 (k : Nat) : SP := .mk [.rd] (dS dN) oN fun (a0,_) _ C => C _ (qaR.f k a0) (fun x => .b x) fun x => []
def lv12 : Live := look ⟨[],[],[],[],[]⟩ []
def g12 (k : Nat) : FEnv := (addF 20 (sp20 k).fs (addF 19 sp19.fs (addF 15 (sp15 k).fs (fun _=>none))))
def sp12 (k : Nat) : SP := .mk [] dN oN fun _ _ C => C _ (qct.f k) (fun x => .b x) fun x => []
def lv14 : Live := look ⟨[],[],[],[],[]⟩ []
def g14 : FEnv := (fun _=>none)
def sp14 : SP := .mk [.rd,.rd,.rd] (dI .i64 (dI .i64 (dI .i64 dN))) oN fun (a0,a1,a2,_) _ C => C _ (qbo.f a0 a1 a2) (fun x => .i .i64 x) fun x => []
def lv60 : Live := look ⟨[],[],[],[],[]⟩ []
def g60 : FEnv := (addF 14 sp14.fs (fun _=>none))
def sp60 : SP := .mk [.rd,.rd] (dI .i64 (dI .i64 dN)) oN fun (a0,a1,_) _ C => C _ (qcA.f a0 a1) (fun x => .i .i64 x) fun x => []
def lv61 : Live := look ⟨[],[],[],[],[]⟩ []
def g61 : FEnv := (addF 60 sp60.fs (fun _=>none))
def sp61 : SP := .mk [.st,.st] (dL ti false (dG (dI .i64 (dI .i64 (dI .i64 (dI .i64 (dS dN))))) dN)) oN fun (a0,(a1_0,a1_1,a1_2,a1_3,a1_4,_),_) _ C => C _ (qbL.f a0 a1_0 a1_1 a1_2 a1_3 a1_4) (fun x => .own 0) fun x => [.row ti x false]
theorem lp12000 (S : Seals) (k : Nat) : (sp32 k).St tt (g32 k) lv32 Tryz.f32 k /\ (sp10 k).St tt (g10 k) lv10 Tryz.f10 k /\ (sp11 k).St tt (g11 k) lv11 Tryz.f11 k /\ (sp12 k).St tt (g12 k) lv12 Tryz.f12 k /\ sp14.St tt (g14) lv14 Tryz.f14 k /\ sp60.St tt (g60) lv60 Tryz.f60 k /\ sp61.St tt (g61) lv61 Tryz.f61 k := by
 refine cu_ (A := ∀ (n : Nat) {x0 : ByteArray} {x8 : Int} {y0 : ByteArray} {y1 : List ByteArray} {y2 : ByteArray} {y3 : LI} {y4 : List LN} {K : CK},S.lp tt (g32 k) lv32 0 n (loopN Tryz.f32 0) ⟨[(0,.s x0),(2,.ptr 0 0),(4,.own 1),(6,.ptr 2 0),(8,.i .i64 x8)],[(0,.var 28 [.nilsl,.s y0,.nilsl,.nilsl]),(1,.row .str y1 false),(2,.var 28 [.own 3,.s y2,.own 4,.nilsl]),(3,.row ti y3 false),(4,.row (.pair ti (.pair (.sl ti) (.pair (.sl ti) (.pair (.sl ti) (.pair ti (.pair ti .str)))))) y4 false)],5,133⟩ K = bindO (qbd.l0 k n x0 x8 y0 y1 y2 y3 y4) (Sum.elim (fun x : (List LN) => K (.exit 0) ⟨[(0,.s x0),(2,.ptr 0 0),(4,.own 1),(6,.ptr 2 0)],[(0,.var 28 [.nilsl,.s y0,.nilsl,.nilsl]),(1,.row .str y1 false),(2,.var 28 [.own 3,.s y2,.own 4,.nilsl]),(3,.row ti y3 false),(4,.row (.pair ti (.pair (.sl ti) (.pair (.sl ti) (.pair (.sl ti) (.pair ti (.pair ti .str)))))) x false)],5,133⟩) (fun x : Int × ByteArray => K .ret ⟨[(2,.ptr 0 0),(3,.i .i64 x.1)],[(0,.var 28 [.nilsl,.s x.2,.nilsl,.nilsl])],1,133⟩))) (fun w32_0=>?_) (ind_ ?_ ?_)
 refine cu_ (A := ∀ (n : Nat) {x3 x4 : List ByteArray} {x40 x41 : Int} {K : CK},S.lp tt (g11 k) lv11 0 n (loopN Tryz.f11 0) ⟨[(3,.dat .str x3 false),(4,.dat .str x4 false),(40,.i .i64 x40),(41,.i .i64 x41)],[],0,54⟩ K = bindO (qaR.l0 n x3 x4 x40 x41) (Sum.elim (fun x : Unit => K (.exit 0) ⟨[],[],0,54⟩) (fun x : Bool => K .ret ⟨[(2,.b x)],[],0,54⟩))) (fun w11_0=>?_) (ind_ ?_ ?_)
 and_intros
 all_goals first|(dsimp only [SP.St,sp32,sp10,sp11,sp12,sp14,sp60,sp61,dN,dL,dI,dS,dG,oN]; intros; (first|unfold qbd.f|unfold qaA.f|unfold qaR.f|unfold qct.f|unfold qbo.f|unfold qcA.f|unfold qbL.f); refine S.run_s rfl rfl ?_; (conv=>lhs;arg 5;whnf); conv=>lhs;arg 6;whnf)|(intros; rw [S.lp_zero]; exact qbu)|(intro n ih; intros; (first|rw [qbd.l0]|rw [qaR.l0]); refine S.lp_succ ?_; conv=>lhs;arg 5;whnf)
 all_goals as_aux_lemma=>repeat' first|(first|refine S.seq_op rfl ?_|refine S.op_n ?_|refine S.block_x ?_|refine qdC ?_|refine qdD ?_|refine br_t (by assumption) ?_|refine br_f (by assumption) ?_|refine qb1 (by with_reducible assumption) ?_|refine qdE fun _=>?_|refine qdB (fun _=>?_) (fun _=>?_)|refine br_d (fun _=>?_) (fun _=>?_)|refine br_n (fun _=>?_) (fun _=>?_)|refine br_c (fun _=>?_) (fun _=>?_)|refine qdu fun _=>?_|refine qb1 (by assumption) ?_)<;>(conv=>lhs;whnf)|refine S.seq_nil ?_|refine S.reg_n ?_|refine S.region rfl ?_|refine S.two ?_|refine S.blok ?_|refine S.cond rfl ?_|refine S.after_n ?_|refine S.block_n ?_|refine S.block_r ?_|refine S.after_x ?_|refine S.after_r ?_|refine S.skip ?_|refine S.exit ?_|refine S.ret ?_|refine qdt (fun _=>?_) (fun _=>?_)|exact ih|refine (w32_0 _).trans ?_|refine (w11_0 _).trans ?_|refine S.region_d (id := 9) (ds := [0,0,3,7,0,0,48,112,255]) (mds := [[],[],[],[],[],[],[],[],[]]) (hm := []) (by kernel_rfl) (by kernel_rfl) rfl rfl ?_|refine S.region_d (id := 4) (ds := [0,0,2,0,8,30,0,64,255,511]) (mds := [[],[],[],[],[],[],[],[],[],[2]]) (hm := [(9,[2])]) (by kernel_rfl) (by kernel_rfl) rfl rfl ?_|(first|refine S.loop ?_|refine S.back_n ?_|refine S.back_x ?_|refine S.back_r ?_|refine S.fin_r ?_|refine S.fin_n ?_|refine S.dk_n ?_|refine S.draw_nil ?_)<;>(conv=>lhs;whnf)|(refine S.draw_op ?_; conv => lhs; whnf; arg 1; whnf)|refine qb4 ?_|refine qbt ?_|refine qcD ?_|refine qa9 ?_|exact qdM rfl|exact qbu
theorem snd32 (k : Nat) : Sound Tryz.prog 32 (sp32 k).fs := sn_ qag mixed Tryz.func32 (by kernel_rfl) rfl (qaa (snd7 k) (qaa (snd59 k) (qaa (snd58 k) (qaa (snd57 k) (qaa snd56 (qaa (snd33 k) (qaa (snd55 k) (qab _)))))))) (lp12000 seals k).1
theorem snd10 (k : Nat) : Sound Tryz.prog 10 (sp10 k).fs := sn_ qag mixed Tryz.func10 (by kernel_rfl) rfl (qaa (snd16 k) (qaa (snd32 k) (qaa (snd15 k) (qab _)))) (lp12000 seals k).2.1
theorem snd11 (k : Nat) : Sound Tryz.prog 11 (sp11 k).fs := sn_ qag mixed Tryz.func11 (by kernel_rfl) rfl (qaa (snd34 k) (qaa snd19 (qaa (snd33 k) (qaa (snd20 k) (qab _))))) (lp12000 seals k).2.2.1
theorem snd12 (k : Nat) : Sound Tryz.prog 12 (sp12 k).fs := sn_ qag mixed Tryz.func12 (by kernel_rfl) rfl (qaa (snd20 k) (qaa snd19 (qaa (snd15 k) (qab _)))) (lp12000 seals k).2.2.2.1
theorem snd14 : Sound Tryz.prog 14 sp14.fs := sn_ qag mixed Tryz.func14 (by kernel_rfl) rfl (qab _) (lp12000 seals 0).2.2.2.2.1
theorem snd60 : Sound Tryz.prog 60 sp60.fs := sn_ qag mixed Tryz.func60 (by kernel_rfl) rfl (qaa snd14 (qab _)) (lp12000 seals 0).2.2.2.2.2.1
theorem snd61 : Sound Tryz.prog 61 sp61.fs := sn_ qag mixed Tryz.func61 (by kernel_rfl) rfl (qaa snd60 (qab _)) (lp12000 seals 0).2.2.2.2.2.2
end
end Go.Vm
