/- Own walks -/
import Derived.Test.YtjamdeehpblflaaGreatDoorWk0
import Derived.Test.YtjamdeehpblflaaGreatDoorVm1
set_option linter.unusedVariables false
set_option maxRecDepth 60000
set_option maxHeartbeats 40000000
namespace Go.Vm
open Go Go.Proofs Go.Pf
noncomputable section

def lv125 : Live := look ⟨[],[],[],[],[]⟩ [(5,⟨[5,18,19,20],[],[4],[],[]⟩)]
def g125 (k : Nat) : FEnv := (addF 141 (sp141 k).fs (addF 140 sp140.fs (addF 128 (sp128 k).fs (fun _=>none))))
def sp125 (k : Nat) : SP := .mk [.rd,.rd] (dS (dI .i64 dN)) oN fun (a0,a1,_) _ C => C _ (qbA.f k a0 a1) (fun x => .b x) fun x => []
def lv100 : Live := look ⟨[],[],[],[],[]⟩ [(5,⟨[1,3,11,12,13],[1,3],[2],[],[]⟩)]
def g100 (k : Nat) : FEnv := (addF 125 (sp125 k).fs (fun _=>none))
def sp100 (k : Nat) : SP := .mk [.rd] (dG (dL ti true (dS (dL (.pair ti (.pair (.sl ti) (.pair (.sl ti) (.pair (.sl ti) (.pair ti (.pair ti .str)))))) true (dL ti true dN)))) dN) oN fun ((a0_0,a0_1,a0_2,a0_3,_),_) _ C => C _ (qb7.f k a0_0 a0_1 a0_2 a0_3) (fun x => .b x) fun x => []
def lv129 : Live := look ⟨[],[],[],[],[]⟩ []
def g129 (k : Nat) : FEnv := (addF 148 (sp148 k).fs (addF 128 (sp128 k).fs (fun _=>none)))
def sp129 (k : Nat) : SP := .mk [.rd,.rd] (dS (dI .i32 dN)) oN fun (a0,a1,_) _ C => C _ (qel.f k a0 a1) (fun x => .i .i64 x) fun x => []
def lv149 : Live := look ⟨[],[],[],[],[]⟩ [(2,⟨[0,1,7,8],[],[4],[],[]⟩)]
def g149 : FEnv := (fun _=>none)
def sp149 (k : Nat) : SP := .mk [.rd,.rd] (dL ti true (dI .i64 dN)) oN fun (a0,a1,_) _ C => C _ (qaZ.f k a0 a1) (fun x => .i .i64 x) fun x => []
def lv130 : Live := look ⟨[],[],[],[],[]⟩ []
def g130 (k : Nat) : FEnv := (addF 149 (sp149 k).fs (fun _=>none))
def sp130 (k : Nat) : SP := .mk [.rd,.rd] (dL ti true (dI .i64 dN)) oN fun (a0,a1,_) _ C => C _ (qb9.f k a0 a1) (fun x => .b x) fun x => []
def lv105 : Live := look ⟨[],[],[],[],[]⟩ [(6,⟨[0,2,10,19,20,21],[2,10],[6,7,8],[(10,0,.own ti)],[]⟩),(1000000,⟨[],[],[],[(6,0,.own ti)],[]⟩)]
def g105 (k : Nat) : FEnv := (addF 130 (sp130 k).fs (addF 129 (sp129 k).fs (addF 128 (sp128 k).fs (fun _=>none))))
def sp105 (k : Nat) : SP := .mk [.rd,.rd,.rd] (dS (dS (dI .i64 dN))) oN fun (a0,a1,a2,_) _ C => C _ (qbD.f k a0 a1 a2) (fun x => .tup [.own 0,.b x.1,.i .i64 x.2.1]) fun x => [.row ti x.2.2 false]
def lv160 : Live := look ⟨[],[],[],[],[]⟩ []
def g160 : FEnv := (fun _=>none)
def sp160 : SP := .mk [.rd] (dI .i64 dN) oN fun (a0,_) _ C => C _ (qen.f a0) (fun x => .tup [.agg [.i .i64 x.1,.b x.2.1,.b x.2.2.1,.b x.2.2.2.1,.b x.2.2.2.2.1,.b x.2.2.2.2.2.1],.b x.2.2.2.2.2.2]) fun x => []
def lv142 : Live := look ⟨[],[],[],[],[]⟩ []
def g142 : FEnv := (addF 160 sp160.fs (fun _=>none))
def sp142 : SP := .mk [.rd,.rd] (dG (dI .i64 (dL ti true (dL ti true (dL ti true (dI .i64 (dI .i64 (dS dN))))))) (dI .i64 dN)) oN fun ((a0_0,a0_1,a0_2,a0_3,a0_4,a0_5,a0_6,_),a1,_) _ C => C _ (qdT.f a0_0 a0_1 a0_2 a0_3 a0_4 a0_5 a0_6 a1) (fun x => .b x) fun x => []
def lv145 : Live := look ⟨[],[],[],[],[]⟩ [(5,⟨[3,9,10,11],[3],[2],[],[]⟩)]
def g145 : FEnv := (fun _=>none)
def sp145 (k : Nat) : SP := .mk [.rd] (dL ti true dN) oN fun (a0,_) _ C => C _ (qaS.f k a0) (fun x => .b x) fun x => []
def lv144 : Live := look ⟨[],[],[],[],[]⟩ []
def g144 (k : Nat) : FEnv := (addF 145 (sp145 k).fs (fun _=>none))
def sp144 (k : Nat) : SP := .mk [.rd] (dL ti true dN) oN fun (a0,_) _ C => C _ (qdA.f k a0) (fun x => .b x) fun x => []
def qoo : Live := look ⟨[],[],[],[],[]⟩ [(2,⟨[0,1,7,8],[],[4],[],[]⟩)]
def qpX (k : Nat) : FEnv := (addF 144 (sp144 k).fs (fun _=>none))
def qjm (k : Nat) : SP := .mk [.rd,.rd] (dL (.sl ti) true (dF 144 cN dN)) oN fun (a0,_,_) _ C => C _ (qaf.f k a0) (fun x => .i .i64 x) fun x => []
def qqz : Live := look ⟨[],[],[],[],[]⟩ []
def qro (k : Nat) : FEnv := (addF 161 (qjm k).fs (fun _=>none))
def qjo (k : Nat) : SP := .mk [.rd,.rd] (dL (.sl ti) true (dF 144 cN dN)) oN fun (a0,_,_) _ C => C _ (qaC.f k a0) (fun x => .b x) fun x => []
def lv162 : Live := look ⟨[],[],[],[],[]⟩ [(1000000,⟨[],[],[],[(2,0,.dat ti)],[]⟩)]
def g162 (k : Nat) : FEnv := (addF 145 (sp145 k).fs (fun _=>none))
def sp162 (k : Nat) : SP := .mk [.st] (dG (dI .i64 (dL ti false (dL ti false (dL ti false (dI .i64 (dI .i64 (dS dN))))))) dN) oN fun ((a0_0,a0_1,a0_2,a0_3,a0_4,a0_5,a0_6,_),_) _ C => C _ (qcZ.f k a0_0 a0_1 a0_2 a0_3 a0_4 a0_5 a0_6) (fun x => .tup [.dat ti x.1 false,.i .i64 x.2]) fun x => []
def lv163 : Live := look ⟨[],[],[],[],[]⟩ [(6,⟨[0,6,7,21,22,23],[6],[4,5],[],[]⟩),(1000000,⟨[],[],[],[(4,0,.own ti)],[]⟩)]
def g163 : FEnv := (fun _=>none)
def sp163 (k : Nat) : SP := .mk [.rd,.rd] (dL ti true (dL ti true dN)) oN fun (a0,a1,_) _ C => C _ (qbM.f k a0 a1) (fun x => .tup [.own 0,.i .i64 x.1]) fun x => [.row ti x.2 false]
def lv177 : Live := look ⟨[],[],[],[],[]⟩ [(3,⟨[1,5,8,9,10],[],[4],[],[]⟩)]
def g177 : FEnv := (fun _=>none)
def sp177 (k : Nat) : SP := .mk [.rd,.rd] (dL ti true (dI .i64 dN)) oN fun (a0,a1,_) _ C => C _ (qa3.f k a0 a1) (fun x => .b x) fun x => []
def lv164 : Live := look ⟨[],[],[],[],[]⟩ [(6,⟨[0,1,24,25,26],[],[6],[],[]⟩)]
def g164 (k : Nat) : FEnv := (addF 177 (sp177 k).fs (addF 145 (sp145 k).fs (fun _=>none)))
def sp164 (k : Nat) : SP := .mk [.rd,.rd,.rd] (dL ti true (dL ti true (dL ti true dN))) oN fun (a0,a1,a2,_) _ C => C _ (qb8.f k a0 a1 a2) (fun x => .i .i64 x) fun x => []
theorem lp1000 (S : Seals) (k : Nat) : (sp125 k).St tt (g125 k) lv125 Tryz.f125 k /\ (sp100 k).St tt (g100 k) lv100 Tryz.f100 k /\ (sp129 k).St tt (g129 k) lv129 Tryz.f129 k /\ (sp149 k).St tt (g149) lv149 Tryz.f149 k /\ (sp130 k).St tt (g130 k) lv130 Tryz.f130 k /\ (sp105 k).St tt (g105 k) lv105 Tryz.f105 k /\ sp160.St tt (g160) lv160 Tryz.f160 k /\ sp142.St tt (g142) lv142 Tryz.f142 k /\ (sp145 k).St tt (g145) lv145 Tryz.f145 k /\ (sp144 k).St tt (g144 k) lv144 Tryz.f144 k /\ (qjm k).St tt (qpX k) qoo Tryz.f161 k /\ (qjo k).St tt (qro k) qqz Tryz.f143 k /\ (sp162 k).St tt (g162 k) lv162 Tryz.f162 k /\ (sp163 k).St tt (g163) lv163 Tryz.f163 k /\ (sp177 k).St tt (g177) lv177 Tryz.f177 k /\ (sp164 k).St tt (g164 k) lv164 Tryz.f164 k := by
 refine cu_ (A := ∀ (n : Nat) {x19 x20 : Int} {y0 : LI} {K : CK},S.lp tt (g125 k) lv125 0 n (loopN Tryz.f125 0) ⟨[(5,.own 0),(18,.own 0),(19,.i .i64 x19),(20,.i .i64 x20)],[(0,.row (.int .i32) y0 false)],1,36⟩ K = bindO (qbA.l0 k n x19 x20 y0) (Sum.elim (fun x : Unit => K (.exit 0) ⟨[],[],0,36⟩) (fun x : Bool => K .ret ⟨[(4,.b x)],[],0,36⟩))) (fun w125_0=>?_) (ind_ ?_ ?_)
 refine cu_ (A := ∀ (n : Nat) {x3 : Int} {x11 : LI} {x12 x13 : Int} {y0_0 : LI} {y0_1 : ByteArray} {y0_2 : List LN} {y0_3 : LI} {K : CK},S.lp tt (g100 k) lv100 0 n (loopN Tryz.f100 0) ⟨[(1,.ptr 0 0),(3,.i .i64 x3),(11,.dat ti x11 true),(12,.i .i64 x12),(13,.i .i64 x13)],[(0,.var 28 [.dat ti y0_0 true,.s y0_1,.dat (.pair ti (.pair (.sl ti) (.pair (.sl ti) (.pair (.sl ti) (.pair ti (.pair ti .str)))))) y0_2 true,.dat ti y0_3 true])],1,37⟩ K = bindO (qb7.l0 n x3 x11 x12 x13 y0_0 y0_1 y0_2 y0_3) (Sum.elim (fun x : Int => K (.exit 0) ⟨[(1,.ptr 0 0),(3,.i .i64 x)],[(0,.var 28 [.dat ti y0_0 true,.s y0_1,.dat (.pair ti (.pair (.sl ti) (.pair (.sl ti) (.pair (.sl ti) (.pair ti (.pair ti .str)))))) y0_2 true,.dat ti y0_3 true])],1,37⟩) (fun x : Bool => K .ret ⟨[(2,.b x)],[],0,37⟩))) (fun w100_0=>?_) (ind_ ?_ ?_)
 refine cu_ (A := ∀ (n : Nat) {x0 : LI} {x1 x7 x8 : Int} {K : CK},S.lp tt (g149) lv149 0 n (loopN Tryz.f149 0) ⟨[(0,.dat ti x0 true),(1,.i .i64 x1),(7,.i .i64 x7),(8,.i .i64 x8)],[],0,19⟩ K = bindO (qaZ.l0 n x0 x1 x7 x8) (Sum.elim (fun x : Unit => K (.exit 0) ⟨[],[],0,19⟩) (fun x : Int => K .ret ⟨[(4,.i .i64 x)],[],0,19⟩))) (fun w149_0=>?_) (ind_ ?_ ?_)
 refine cu_ (A := ∀ (n : Nat) {x0 : ByteArray} {x2 x20 x21 : Int} {y0 y1 : LI} {K : CK},S.lp tt (g105 k) lv105 0 n (loopN Tryz.f105 0) ⟨[(0,.s x0),(2,.i .i64 x2),(10,.own 0),(19,.own 1),(20,.i .i64 x20),(21,.i .i64 x21)],[(0,.row ti y0 false),(1,.row (.int .i32) y1 false)],2,55⟩ K = bindO (qbD.l0 k n x0 x2 x20 x21 y0 y1) (Sum.elim (fun x : LI => K (.exit 0) ⟨[(2,.i .i64 x2),(10,.own 0)],[(0,.row ti x false)],1,55⟩) (fun x : Bool × Int => K .ret ⟨[(6,.nilsl),(7,.b x.1),(8,.i .i64 x.2)],[],0,55⟩))) (fun w105_0=>?_) (ind_ ?_ ?_)
 refine cu_ (A := ∀ (n : Nat) {x3 : Int} {x9 : LI} {x10 x11 : Int} {K : CK},S.lp tt (g145) lv145 0 n (loopN Tryz.f145 0) ⟨[(3,.i .i64 x3),(9,.dat ti x9 true),(10,.i .i64 x10),(11,.i .i64 x11)],[],0,27⟩ K = bindO (qaS.l0 n x3 x9 x10 x11) (Sum.elim (fun x : Int => K (.exit 0) ⟨[(3,.i .i64 x)],[],0,27⟩) (fun x : Bool => K .ret ⟨[(2,.b x)],[],0,27⟩))) (fun w145_0=>?_) (ind_ ?_ ?_)
 refine cu_ (A := ∀ (n : Nat) {x0 : List LI} {x7 x8 : Int} {K : CK},S.lp tt (qpX k) qoo 0 n (loopN Tryz.f161 0) ⟨[(0,.dat (.sl ti) x0 true),(1,.fn 144 []),(7,.i .i64 x7),(8,.i .i64 x8)],[],0,19⟩ K = bindO (qaf.l0 k n x0 x7 x8) (Sum.elim (fun x : Unit => K (.exit 0) ⟨[],[],0,19⟩) (fun x : Int => K .ret ⟨[(4,.i .i64 x)],[],0,19⟩))) (fun w161_1_0=>?_) (ind_ ?_ ?_)
 refine cu_ (A := ∀ (n : Nat) {x0 x21 : LI} {x22 x23 : Int} {y0 : LI} {y1 : List Bool} {K : CK},S.lp tt (g163) lv163 0 n (loopN Tryz.f163 0) ⟨[(0,.dat ti x0 true),(6,.own 0),(7,.own 1),(21,.dat ti x21 true),(22,.i .i64 x22),(23,.i .i64 x23)],[(0,.row ti y0 false),(1,.row .bool y1 false)],2,54⟩ K = bindO (qbM.l0 n x0 x21 x22 x23 y0 y1) (Sum.elim (fun x : LI => K (.exit 0) ⟨[(6,.own 0)],[(0,.row ti x false)],1,54⟩) (fun x : Int => K .ret ⟨[(4,.nilsl),(5,.i .i64 x)],[],0,54⟩))) (fun w163_0=>?_) (ind_ ?_ ?_)
 refine cu_ (A := ∀ (n : Nat) {x1 x5 : Int} {x8 : LI} {x9 x10 : Int} {K : CK},S.lp tt (g177) lv177 0 n (loopN Tryz.f177 0) ⟨[(1,.i .i64 x1),(5,.i .i64 x5),(8,.dat ti x8 true),(9,.i .i64 x9),(10,.i .i64 x10)],[],0,24⟩ K = bindO (qa3.l0 n x1 x5 x8 x9 x10) (Sum.elim (fun x : Unit => K (.exit 0) ⟨[],[],0,24⟩) (fun x : Bool => K .ret ⟨[(4,.b x)],[],0,24⟩))) (fun w177_0=>?_) (ind_ ?_ ?_)
 refine cu_ (A := ∀ (n : Nat) {x0 x1 x24 : LI} {x25 x26 : Int} {K : CK},S.lp tt (g164 k) lv164 0 n (loopN Tryz.f164 0) ⟨[(0,.dat ti x0 true),(1,.dat ti x1 true),(24,.dat ti x24 true),(25,.i .i64 x25),(26,.i .i64 x26)],[],0,41⟩ K = bindO (qb8.l0 n x0 x1 x24 x25 x26) (Sum.elim (fun x : Unit => K (.exit 0) ⟨[],[],0,41⟩) (fun x : Int => K .ret ⟨[(6,.i .i64 x)],[],0,41⟩))) (fun w164_0=>?_) (ind_ ?_ ?_)
 and_intros
 all_goals first|(dsimp only [SP.St,sp125,sp100,sp129,sp149,sp130,sp105,sp160,sp142,sp145,sp144,qjm,qjo,sp162,sp163,sp177,sp164,dN,dL,dI,dS,dG,dF,cN,oN]; intros; (first|unfold qbA.f|unfold qb7.f|unfold qel.f|unfold qaZ.f|unfold qb9.f|unfold qbD.f|unfold qen.f|unfold qdT.f|unfold qaS.f|unfold qdA.f|unfold qaf.f|unfold qaC.f|unfold qcZ.f|unfold qbM.f|unfold qa3.f|unfold qb8.f); refine S.run_s rfl rfl ?_; (conv=>lhs;arg 5;whnf); conv=>lhs;arg 6;whnf)|(intros; rw [S.lp_zero]; exact qbu)|(intro n ih; intros; (first|rw [qbA.l0]|rw [qb7.l0]|rw [qaZ.l0]|rw [qbD.l0]|rw [qaS.l0]|rw [qaf.l0]|rw [qbM.l0]|rw [qa3.l0]|rw [qb8.l0]); refine S.lp_succ ?_; conv=>lhs;arg 5;whnf)
 all_goals as_aux_lemma=>repeat' first|(first|refine S.seq_op rfl ?_|refine S.op_n ?_|refine S.block_x ?_|refine qdC ?_|refine qdD ?_|refine br_t (by assumption) ?_|refine br_f (by assumption) ?_|refine qb1 (by with_reducible assumption) ?_|refine qdE fun _=>?_|refine qdB (fun _=>?_) (fun _=>?_)|refine br_d (fun _=>?_) (fun _=>?_)|refine br_n (fun _=>?_) (fun _=>?_)|refine br_c (fun _=>?_) (fun _=>?_)|refine qdu fun _=>?_|refine qb1 (by assumption) ?_)<;>(conv=>lhs;whnf)|refine S.seq_nil ?_|refine S.reg_n ?_|refine S.region rfl ?_|refine S.two ?_|refine S.blok ?_|refine S.cond rfl ?_|refine S.after_n ?_|refine S.block_n ?_|refine S.block_r ?_|refine S.after_x ?_|refine S.after_r ?_|refine S.skip ?_|refine S.exit ?_|refine S.ret ?_|refine qdt (fun _=>?_) (fun _=>?_)|exact ih|refine (w125_0 _).trans ?_|refine (w100_0 _).trans ?_|refine (w149_0 _).trans ?_|refine (w105_0 _).trans ?_|refine (w145_0 _).trans ?_|refine (w161_1_0 _).trans ?_|refine (w163_0 _).trans ?_|refine (w177_0 _).trans ?_|refine (w164_0 _).trans ?_|refine S.region_d (id := 3) (ds := [0,1,3,7,15,31,63,127,255,511,1023,2047,4095,8191,16383,32767,65535,131071,262143,524287,65535,1114111,3211263,8388607,16777215,33554431,67108863]) (mds := [[],[],[],[],[],[],[],[],[],[],[],[],[],[],[],[],[],[],[],[],[],[],[],[],[],[],[]]) (hm := []) (by kernel_rfl) (by kernel_rfl) rfl rfl ?_|refine S.region_d (id := 8) (ds := [0,0,3,7,0,0,48,112,255]) (mds := [[],[],[],[],[],[],[],[],[]]) (hm := []) (by kernel_rfl) (by kernel_rfl) rfl rfl ?_|(first|refine S.loop ?_|refine S.back_n ?_|refine S.back_x ?_|refine S.back_r ?_|refine S.fin_r ?_|refine S.fin_n ?_|refine S.dk_n ?_|refine S.draw_nil ?_)<;>(conv=>lhs;whnf)|(refine S.draw_op ?_; conv => lhs; whnf; arg 1; whnf)|refine qb4 ?_|refine qbt ?_|refine qcD ?_|refine qa9 ?_|exact qdM rfl|exact qbu
theorem snd125 (k : Nat) : Sound Tryz.prog 125 (sp125 k).fs := sn_ qag mixed Tryz.func125 (by kernel_rfl) rfl (qaa (snd141 k) (qaa snd140 (qaa (snd128 k) (qab _)))) (lp1000 seals k).1
theorem snd100 (k : Nat) : Sound Tryz.prog 100 (sp100 k).fs := sn_ qag mixed Tryz.func100 (by kernel_rfl) rfl (qaa (snd125 k) (qab _)) (lp1000 seals k).2.1
theorem snd129 (k : Nat) : Sound Tryz.prog 129 (sp129 k).fs := sn_ qag mixed Tryz.func129 (by kernel_rfl) rfl (qaa (snd148 k) (qaa (snd128 k) (qab _))) (lp1000 seals k).2.2.1
theorem snd149 (k : Nat) : Sound Tryz.prog 149 (sp149 k).fs := sn_ qag mixed Tryz.func149 (by kernel_rfl) rfl (qab _) (lp1000 seals k).2.2.2.1
theorem snd130 (k : Nat) : Sound Tryz.prog 130 (sp130 k).fs := sn_ qag mixed Tryz.func130 (by kernel_rfl) rfl (qaa (snd149 k) (qab _)) (lp1000 seals k).2.2.2.2.1
theorem snd105 (k : Nat) : Sound Tryz.prog 105 (sp105 k).fs := sn_ qag mixed Tryz.func105 (by kernel_rfl) rfl (qaa (snd130 k) (qaa (snd129 k) (qaa (snd128 k) (qab _)))) (lp1000 seals k).2.2.2.2.2.1
theorem snd160 : Sound Tryz.prog 160 sp160.fs := sn_ qag mixed Tryz.func160 (by kernel_rfl) rfl (qab _) (lp1000 seals 0).2.2.2.2.2.2.1
theorem snd142 : Sound Tryz.prog 142 sp142.fs := sn_ qag mixed Tryz.func142 (by kernel_rfl) rfl (qaa snd160 (qab _)) (lp1000 seals 0).2.2.2.2.2.2.2.1
theorem snd145 (k : Nat) : Sound Tryz.prog 145 (sp145 k).fs := sn_ qag mixed Tryz.func145 (by kernel_rfl) rfl (qab _) (lp1000 seals k).2.2.2.2.2.2.2.2.1
theorem snd144 (k : Nat) : Sound Tryz.prog 144 (sp144 k).fs := sn_ qag mixed Tryz.func144 (by kernel_rfl) rfl (qaa (snd145 k) (qab _)) (lp1000 seals k).2.2.2.2.2.2.2.2.2.1
theorem qoV (k : Nat) : Sound Tryz.prog 161 (qjm k).fs := sn_ qag mixed Tryz.func161 (by kernel_rfl) rfl (qaa (snd144 k) (qab _)) (lp1000 seals k).2.2.2.2.2.2.2.2.2.2.1
theorem qoX (k : Nat) : Sound Tryz.prog 143 (qjo k).fs := sn_ qag mixed Tryz.func143 (by kernel_rfl) rfl (qaa (qoV k) (qab _)) (lp1000 seals k).2.2.2.2.2.2.2.2.2.2.2.1
theorem snd162 (k : Nat) : Sound Tryz.prog 162 (sp162 k).fs := sn_ qag mixed Tryz.func162 (by kernel_rfl) rfl (qaa (snd145 k) (qab _)) (lp1000 seals k).2.2.2.2.2.2.2.2.2.2.2.2.1
theorem snd163 (k : Nat) : Sound Tryz.prog 163 (sp163 k).fs := sn_ qag mixed Tryz.func163 (by kernel_rfl) rfl (qab _) (lp1000 seals k).2.2.2.2.2.2.2.2.2.2.2.2.2.1
theorem snd177 (k : Nat) : Sound Tryz.prog 177 (sp177 k).fs := sn_ qag mixed Tryz.func177 (by kernel_rfl) rfl (qab _) (lp1000 seals k).2.2.2.2.2.2.2.2.2.2.2.2.2.2.1
theorem snd164 (k : Nat) : Sound Tryz.prog 164 (sp164 k).fs := sn_ qag mixed Tryz.func164 (by kernel_rfl) rfl (qaa (snd177 k) (qaa (snd145 k) (qab _))) (lp1000 seals k).2.2.2.2.2.2.2.2.2.2.2.2.2.2.2
end
end Go.Vm
