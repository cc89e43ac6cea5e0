/- Own texts put together: the walks -/
import Derived.Test.YtkfjccimkjnfoaaGreatDoorVm1
import Derived.Test.YtkfjccimkjnfoaaGreatDoorPl0
import Derived.Test.YtkfjccimkjnfoaaGreatDoorProg
namespace Go.Vm
open Go
abbrev ti : Ty := .int .i64
end Go.Vm

set_option linter.unusedVariables false
set_option maxRecDepth 60000
set_option maxHeartbeats 40000000
namespace Go.Vm
open Go Go.Proofs Go.Pf
noncomputable section

theorem ind_ {P : Nat → Prop} (h0 : P 0) (hs : ∀ n,P n → P (n + 1)) : ∀ n,P n
 | 0 => h0
 | n + 1 => hs n (ind_ h0 hs n)
theorem cu_ {A B : Prop} (f : A → B) (a : A) : B := f a
def tt : Tab := [default,
 default,
 ⟨.int .i64,1,8,[.i .i64 0],some ti⟩,
 ⟨.int .i64,1,8,[.i .i64 0],some ti⟩,
 ⟨.bool,1,1,[.b false],some .bool⟩,
 ⟨.int .u8,1,1,[.i .u8 0],some (.int .u8)⟩,
 default,
 default,
 default,
 ⟨.str,1,16,[.s ByteArray.empty],some .str⟩,
 default,
 default,
 default,
 default,
 default,
 default,
 default,
 default,
 default,
 default,
 default,
 ⟨.int .i32,1,4,[.i .i32 0],some (.int .i32)⟩,
 default,
 ⟨.sl 3,1,24,[.nilsl],some (.sl ti)⟩,
 ⟨.sl 37,1,24,[.nilsl],some (.sl (.pair ti (.pair (.sl ti) (.pair (.sl ti) (.pair (.sl ti) (.pair ti (.pair ti .str)))))))⟩,
 default,
 ⟨.struct [(0,23),(1,9),(2,24),(3,23)],4,88,[.nilsl,.s ByteArray.empty,.nilsl,.nilsl],some (.pair (.sl ti) (.pair .str (.pair (.sl (.pair ti (.pair (.sl ti) (.pair (.sl ti) (.pair (.sl ti) (.pair ti (.pair ti .str))))))) (.sl ti))))⟩,
 default,
 default,
 default,
 ⟨.sl 2,1,24,[.nilsl],some (.sl ti)⟩,
 default,
 default,
 ⟨.int .i64,1,8,[.i .i64 0],some ti⟩,
 default,
 default,
 default,
 ⟨.struct [(0,3),(1,23),(2,23),(3,23),(4,2),(5,3),(6,9)],7,112,[.i .i64 0,.nilsl,.nilsl,.nilsl,.i .i64 0,.i .i64 0,.s ByteArray.empty],some (.pair ti (.pair (.sl ti) (.pair (.sl ti) (.pair (.sl ti) (.pair ti (.pair ti .str))))))⟩,
 ⟨.func,1,8,[.kon (.nilFunc)],none⟩,
 ⟨.ptr 41,1,8,[.kon (.pointer none)],none⟩,
 default,
 ⟨.struct [(0,23),(1,3)],2,32,[.nilsl,.i .i64 0],some (.pair (.sl ti) ti)⟩,
 default,
 default,
 ⟨.sl 23,1,24,[.nilsl],some (.sl (.sl ti))⟩,
 default,
 default,
 default,
 default,
 default,
 default,
 default,
 ⟨.sl 9,1,24,[.nilsl],some (.sl .str)⟩,
 default,
 default,
 default,
 default,
 default,
 default,
 ⟨.sl 52,1,24,[.nilsl],some (.sl (.sl .str))⟩,
 default,
 ⟨.ptr 64,1,8,[.kon (.pointer none)],none⟩,
 ⟨.sl 5,1,24,[.nilsl],some (.sl (.int .u8))⟩,
 default,
 ⟨.struct [(0,61),(1,62)],2,32,[.kon (.pointer none),.nilsl],none⟩,
 default,
 default,
 default,
 default,
 default,
 default,
 default,
 default,
 default,
 default,
 default,
 default,
 default,
 default,
 default,
 ⟨.sl 82,1,24,[.nilsl],some (.sl (.pair (.sl ti) (.sl ti)))⟩,
 default,
 ⟨.struct [(0,23),(1,30)],2,48,[.nilsl,.nilsl],some (.pair (.sl ti) (.sl ti))⟩,
 default,
 default,
 default,
 ⟨.sl 21,1,24,[.nilsl],some (.sl (.int .i32))⟩,
 default,
 ⟨.sl 4,1,24,[.nilsl],some (.sl .bool)⟩,
 default,
 default,
 ⟨.func,1,8,[.kon (.nilFunc)],none⟩,
 default,
 default,
 default,
 default,
 default,
 default,
 default,
 default,
 default,
 default,
 default,
 default,
 default,
 default,
 default,
 default,
 default,
 default,
 default,
 default,
 default,
 default,
 default,
 default,
 default,
 default,
 default,
 default,
 default,
 default,
 default,
 default,
 default,
 default,
 default,
 default,
 default,
 default,
 default,
 default,
 default,
 default,
 default,
 default,
 default,
 default,
 default,
 default,
 default,
 default,
 default,
 default,
 default,
 ⟨.struct [(0,3),(1,4),(2,4),(3,4),(4,4),(5,4)],6,16,[.i .i64 0,.b false,.b false,.b false,.b false,.b false],some (.pair ti (.pair .bool (.pair .bool (.pair .bool (.pair .bool .bool)))))⟩]
theorem qaj : TabOK Tryz.prog tt := qna (by kernel_rfl)
theorem mixed : Tryz.prog.follows .mixedOrders = true := by kernel_rfl

def sp23 : FSpec := spFmt
set_option maxRecDepth 60000 in
theorem snd23 : Sound Tryz.prog 23 sp23 := sndFmt Tryz.laysM173 ⟨Tryz.f23,Tryz.func23,by kernel_rfl,rfl⟩ (fun _ h => h)

def lv10 : Live := look ⟨[],[],[],[],[]⟩ []
def g10 : FEnv := (addF 23 sp23 (fun _=>none))
def sp10 : SP := .mk [.rd] (dI .i64 dN) oN fun (a0,_) _ C => C _ (qbO.f a0) (fun x => .s x) fun x => []
def lv103 : Live := look ⟨[],[],[],[],[]⟩ []
def g103 : FEnv := (fun _=>none)
def sp103 : SP := .mk [.rd] (dI .i32 dN) oN fun (a0,_) _ C => C _ (qea.f a0) (fun x => .b x) fun x => []
def lv111 : Live := look ⟨[],[],[],[],[]⟩ [(2,⟨[0,1,7,8],[],[4],[],[]⟩)]
def g111 : FEnv := (fun _=>none)
def sp111 (k : Nat) : SP := .mk [.rd,.rd] (dL (.int .i32) true (dI .i32 dN)) oN fun (a0,a1,_) _ C => C _ (qaD.f k a0 a1) (fun x => .i .i64 x) fun x => []
def lv104 : Live := look ⟨[],[],[],[],[]⟩ []
def g104 (k : Nat) : FEnv := (addF 111 (sp111 k).fs (fun _=>none))
def sp104 (k : Nat) : SP := .mk [.rd,.rd] (dL (.int .i32) true (dI .i32 dN)) oN fun (a0,a1,_) _ C => C _ (qbE.f k a0 a1) (fun x => .b x) fun x => []
def lv78 : Live := look ⟨[],[],[],[],[]⟩ [(3,⟨[3,7],[3],[2],[(3,0,.own (.int .i32))],[]⟩)]
def g78 : FEnv := (fun _=>none)
def sp78 (k : Nat) : SP := .mk [.rd] (dS dN) oN fun (a0,_) _ C => C _ (qa8.f k a0) (fun x => .own 0) fun x => [.row (.int .i32) x false]
def lv75 : Live := look ⟨[],[],[],[],[]⟩ [(5,⟨[5,18,19,20],[],[4],[],[]⟩)]
def g75 (k : Nat) : FEnv := (addF 104 (sp104 k).fs (addF 103 sp103.fs (addF 78 (sp78 k).fs (fun _=>none))))
def sp75 (k : Nat) : SP := .mk [.rd,.rd] (dS (dI .i64 dN)) oN fun (a0,a1,_) _ C => C _ (qbj.f k a0 a1) (fun x => .b x) fun x => []
def lv46 : Live := look ⟨[],[],[],[],[]⟩ [(5,⟨[1,3,11,12,13],[1,3],[2],[],[]⟩)]
def g46 (k : Nat) : FEnv := (addF 75 (sp75 k).fs (fun _=>none))
def sp46 (k : Nat) : SP := .mk [.rd] (dG (dL ti true (dS (dL (.pair ti (.pair (.sl ti) (.pair (.sl ti) (.pair (.sl ti) (.pair ti (.pair ti .str)))))) true (dL ti true dN)))) dN) oN fun ((a0_0,a0_1,a0_2,a0_3,_),_) _ C => C _ (qbL.f k a0_0 a0_1 a0_2 a0_3) (fun x => .b x) fun x => []
def lv79 : Live := look ⟨[],[],[],[],[]⟩ []
def g79 (k : Nat) : FEnv := (addF 111 (sp111 k).fs (addF 78 (sp78 k).fs (fun _=>none)))
def sp79 (k : Nat) : SP := .mk [.rd,.rd] (dS (dI .i32 dN)) oN fun (a0,a1,_) _ C => C _ (qdC.f k a0 a1) (fun x => .i .i64 x) fun x => []
def lv112 : Live := look ⟨[],[],[],[],[]⟩ [(2,⟨[0,1,7,8],[],[4],[],[]⟩)]
def g112 : FEnv := (fun _=>none)
def sp112 (k : Nat) : SP := .mk [.rd,.rd] (dL ti true (dI .i64 dN)) oN fun (a0,a1,_) _ C => C _ (qaU.f k a0 a1) (fun x => .i .i64 x) fun x => []
def lv80 : Live := look ⟨[],[],[],[],[]⟩ []
def g80 (k : Nat) : FEnv := (addF 112 (sp112 k).fs (fun _=>none))
def sp80 (k : Nat) : SP := .mk [.rd,.rd] (dL ti true (dI .i64 dN)) oN fun (a0,a1,_) _ C => C _ (qbP.f k a0 a1) (fun x => .b x) fun x => []
theorem lp0 (S : Seals) (k : Nat) : sp10.St tt (g10) lv10 Tryz.f10 k ∧ sp103.St tt (g103) lv103 Tryz.f103 k ∧ (sp111 k).St tt (g111) lv111 Tryz.f111 k ∧ (sp104 k).St tt (g104 k) lv104 Tryz.f104 k ∧ (sp78 k).St tt (g78) lv78 Tryz.f78 k ∧ (sp75 k).St tt (g75 k) lv75 Tryz.f75 k ∧ (sp46 k).St tt (g46 k) lv46 Tryz.f46 k ∧ (sp79 k).St tt (g79 k) lv79 Tryz.f79 k ∧ (sp112 k).St tt (g112) lv112 Tryz.f112 k ∧ (sp80 k).St tt (g80 k) lv80 Tryz.f80 k := by
 refine cu_ (A := ∀ (n : Nat) {x0 : LI} {x1 x7 x8 : Int} {K : CK},S.lp tt (g111) lv111 0 n (loopN Tryz.f111 0) ⟨[(0,.dat (.int .i32) x0 true),(1,.i .i32 x1),(7,.i .i64 x7),(8,.i .i64 x8)],[],0,19⟩ K = bindO (qaD.l0 n x0 x1 x7 x8) (Sum.elim (fun x : Unit => K (.exit 0) ⟨[],[],0,19⟩) (fun x : Int => K .ret ⟨[(4,.i .i64 x)],[],0,19⟩))) (fun w111_0=>?_) (ind_ ?_ ?_)
 refine cu_ (A := ∀ (n : Nat) {y0 : LI} {y1_0 : ByteArray} {y1_1 : Nat} {K : CK},S.lp tt (g78) lv78 0 n (loopN Tryz.f78 0) ⟨[(3,.own 0),(7,.ptr 1 0)],[(0,.row (.int .i32) y0 false),(1,.ext (.iter y1_0 y1_1))],2,16⟩ K = bindO (qa8.l0 n y0 y1_0 y1_1) (fun x : LI => K (.exit 0) ⟨[(3,.own 0)],[(0,.row (.int .i32) x false)],1,16⟩)) (fun w78_0=>?_) (ind_ ?_ ?_)
 refine cu_ (A := ∀ (n : Nat) {x19 x20 : Int} {y0 : LI} {K : CK},S.lp tt (g75 k) lv75 0 n (loopN Tryz.f75 0) ⟨[(5,.own 0),(18,.own 0),(19,.i .i64 x19),(20,.i .i64 x20)],[(0,.row (.int .i32) y0 false)],1,36⟩ K = bindO (qbj.l0 k n x19 x20 y0) (Sum.elim (fun x : Unit => K (.exit 0) ⟨[],[],0,36⟩) (fun x : Bool => K .ret ⟨[(4,.b x)],[],0,36⟩))) (fun w75_0=>?_) (ind_ ?_ ?_)
 refine cu_ (A := ∀ (n : Nat) {x3 : Int} {x11 : LI} {x12 x13 : Int} {y0_0 : LI} {y0_1 : ByteArray} {y0_2 : List LN} {y0_3 : LI} {K : CK},S.lp tt (g46 k) lv46 0 n (loopN Tryz.f46 0) ⟨[(1,.ptr 0 0),(3,.i .i64 x3),(11,.dat ti x11 true),(12,.i .i64 x12),(13,.i .i64 x13)],[(0,.var 26 [.dat ti y0_0 true,.s y0_1,.dat (.pair ti (.pair (.sl ti) (.pair (.sl ti) (.pair (.sl ti) (.pair ti (.pair ti .str)))))) y0_2 true,.dat ti y0_3 true])],1,37⟩ K = bindO (qbL.l0 n x3 x11 x12 x13 y0_0 y0_1 y0_2 y0_3) (Sum.elim (fun x : Int => K (.exit 0) ⟨[(1,.ptr 0 0),(3,.i .i64 x)],[(0,.var 26 [.dat ti y0_0 true,.s y0_1,.dat (.pair ti (.pair (.sl ti) (.pair (.sl ti) (.pair (.sl ti) (.pair ti (.pair ti .str)))))) y0_2 true,.dat ti y0_3 true])],1,37⟩) (fun x : Bool => K .ret ⟨[(2,.b x)],[],0,37⟩))) (fun w46_0=>?_) (ind_ ?_ ?_)
 refine cu_ (A := ∀ (n : Nat) {x0 : LI} {x1 x7 x8 : Int} {K : CK},S.lp tt (g112) lv112 0 n (loopN Tryz.f112 0) ⟨[(0,.dat ti x0 true),(1,.i .i64 x1),(7,.i .i64 x7),(8,.i .i64 x8)],[],0,19⟩ K = bindO (qaU.l0 n x0 x1 x7 x8) (Sum.elim (fun x : Unit => K (.exit 0) ⟨[],[],0,19⟩) (fun x : Int => K .ret ⟨[(4,.i .i64 x)],[],0,19⟩))) (fun w112_0=>?_) (ind_ ?_ ?_)
 and_intros
 all_goals first|(dsimp only [SP.St,sp10,sp103,sp111,sp104,sp78,sp75,sp46,sp79,sp112,sp80,dN,dL,dI,dS,dG,oN]; intros; (first|unfold qbO.f|unfold qea.f|unfold qaD.f|unfold qbE.f|unfold qa8.f|unfold qbj.f|unfold qbL.f|unfold qdC.f|unfold qaU.f|unfold qbP.f); refine S.run_s rfl rfl ?_; (conv=>lhs;arg 5;whnf); conv=>lhs;arg 6;whnf)|(intros; rw [S.lp_zero]; exact qa0)|(intro n ih; intros; (first|rw [qaD.l0]|rw [qa8.l0]|rw [qbj.l0]|rw [qbL.l0]|rw [qaU.l0]); refine S.lp_succ ?_; conv=>lhs;arg 5;whnf)
 all_goals repeat' first|(first|refine S.seq_op rfl ?_|refine S.op_n ?_|refine S.block_x ?_|refine qcG ?_|refine qcH ?_|refine br_t (by assumption) ?_|refine br_f (by assumption) ?_|refine qbo (by with_reducible assumption) ?_|refine qcF (fun _=>?_) (fun _=>?_)|refine br_d (fun _=>?_) (fun _=>?_)|refine br_n (fun _=>?_) (fun _=>?_)|refine br_c (fun _=>?_) (fun _=>?_)|refine qcE fun _=>?_|refine qbo (by assumption) ?_|refine qcI fun _=>?_)<;>(conv=>lhs;whnf)|refine S.seq_nil ?_|refine S.reg_n ?_|refine S.region rfl ?_|refine S.two ?_|refine S.blok ?_|refine S.cond rfl ?_|refine S.after_n ?_|refine S.block_n ?_|refine S.block_r ?_|refine S.after_x ?_|refine S.after_r ?_|refine S.skip ?_|refine S.exit ?_|refine S.ret ?_|refine qcC (fun _=>?_) (fun _=>?_)|exact ih|refine (w111_0 _).trans ?_|refine (w78_0 _).trans ?_|refine (w75_0 _).trans ?_|refine (w46_0 _).trans ?_|refine (w112_0 _).trans ?_|(first|refine S.loop ?_|refine S.back_n ?_|refine S.back_x ?_|refine S.back_r ?_|refine S.fin_r ?_|refine S.fin_n ?_|refine S.dk_n ?_|refine S.draw_nil ?_)<;>(conv=>lhs;whnf)|exact qcD rfl|exact qa0|(refine S.draw_op ?_; conv => lhs; whnf; arg 1; whnf)|refine qbp ?_|refine qa4 ?_|refine qb2 ?_|refine qaT ?_
theorem snd10 : Sound Tryz.prog 10 sp10.fs := sn_ qaj mixed Tryz.func10 (by kernel_rfl) rfl (qaa snd23 (qab _)) (lp0 seals 0).1
theorem snd103 : Sound Tryz.prog 103 sp103.fs := sn_ qaj mixed Tryz.func103 (by kernel_rfl) rfl (qab _) (lp0 seals 0).2.1
theorem snd111 (k : Nat) : Sound Tryz.prog 111 (sp111 k).fs := sn_ qaj mixed Tryz.func111 (by kernel_rfl) rfl (qab _) (lp0 seals k).2.2.1
theorem snd104 (k : Nat) : Sound Tryz.prog 104 (sp104 k).fs := sn_ qaj mixed Tryz.func104 (by kernel_rfl) rfl (qaa (snd111 k) (qab _)) (lp0 seals k).2.2.2.1
theorem snd78 (k : Nat) : Sound Tryz.prog 78 (sp78 k).fs := sn_ qaj mixed Tryz.func78 (by kernel_rfl) rfl (qab _) (lp0 seals k).2.2.2.2.1
theorem snd75 (k : Nat) : Sound Tryz.prog 75 (sp75 k).fs := sn_ qaj mixed Tryz.func75 (by kernel_rfl) rfl (qaa (snd104 k) (qaa snd103 (qaa (snd78 k) (qab _)))) (lp0 seals k).2.2.2.2.2.1
theorem snd46 (k : Nat) : Sound Tryz.prog 46 (sp46 k).fs := sn_ qaj mixed Tryz.func46 (by kernel_rfl) rfl (qaa (snd75 k) (qab _)) (lp0 seals k).2.2.2.2.2.2.1
theorem snd79 (k : Nat) : Sound Tryz.prog 79 (sp79 k).fs := sn_ qaj mixed Tryz.func79 (by kernel_rfl) rfl (qaa (snd111 k) (qaa (snd78 k) (qab _))) (lp0 seals k).2.2.2.2.2.2.2.1
theorem snd112 (k : Nat) : Sound Tryz.prog 112 (sp112 k).fs := sn_ qaj mixed Tryz.func112 (by kernel_rfl) rfl (qab _) (lp0 seals k).2.2.2.2.2.2.2.2.1
theorem snd80 (k : Nat) : Sound Tryz.prog 80 (sp80 k).fs := sn_ qaj mixed Tryz.func80 (by kernel_rfl) rfl (qaa (snd112 k) (qab _)) (lp0 seals k).2.2.2.2.2.2.2.2.2
def lv50 : Live := look ⟨[],[],[],[],[]⟩ [(6,⟨[0,2,10,19,20,21],[2,10],[6,7,8],[(10,0,.own ti)],[]⟩),(1000000,⟨[],[],[],[(6,0,.own ti)],[]⟩)]
def g50 (k : Nat) : FEnv := (addF 80 (sp80 k).fs (addF 79 (sp79 k).fs (addF 78 (sp78 k).fs (fun _=>none))))
def sp50 (k : Nat) : SP := .mk [.rd,.rd,.rd] (dS (dS (dI .i64 dN))) oN fun (a0,a1,a2,_) _ C => C _ (qbm.f k a0 a1 a2) (fun x => .tup [.own 0,.b x.1,.i .i64 x.2.1]) fun x => [.row ti x.2.2 false]
def lv117 : Live := look ⟨[],[],[],[],[]⟩ []
def g117 : FEnv := (fun _=>none)
def sp117 : SP := .mk [.rd] (dI .i64 dN) oN fun (a0,_) _ C => C _ (qdF.f a0) (fun x => .tup [.agg [.i .i64 x.1,.b x.2.1,.b x.2.2.1,.b x.2.2.2.1,.b x.2.2.2.2.1,.b x.2.2.2.2.2.1],.b x.2.2.2.2.2.2]) fun x => []
def lv105 : Live := look ⟨[],[],[],[],[]⟩ []
def g105 : FEnv := (addF 117 sp117.fs (fun _=>none))
def sp105 : SP := .mk [.rd,.rd] (dG (dI .i64 (dL ti true (dL ti true (dL ti true (dI .i64 (dI .i64 (dS dN))))))) (dI .i64 dN)) oN fun ((a0_0,a0_1,a0_2,a0_3,a0_4,a0_5,a0_6,_),a1,_) _ C => C _ (qdh.f a0_0 a0_1 a0_2 a0_3 a0_4 a0_5 a0_6 a1) (fun x => .b x) fun x => []
def lv108 : Live := look ⟨[],[],[],[],[]⟩ [(5,⟨[3,9,10,11],[3],[2],[],[]⟩)]
def g108 : FEnv := (fun _=>none)
def sp108 (k : Nat) : SP := .mk [.rd] (dL ti true dN) oN fun (a0,_) _ C => C _ (qaM.f k a0) (fun x => .b x) fun x => []
def lv107 : Live := look ⟨[],[],[],[],[]⟩ []
def g107 (k : Nat) : FEnv := (addF 108 (sp108 k).fs (fun _=>none))
def sp107 (k : Nat) : SP := .mk [.rd] (dL ti true dN) oN fun (a0,_) _ C => C _ (qc6.f k a0) (fun x => .b x) fun x => []
def qmG : Live := look ⟨[],[],[],[],[]⟩ [(2,⟨[0,1,7,8],[],[4],[],[]⟩)]
def qn6 (k : Nat) : FEnv := (addF 107 (sp107 k).fs (fun _=>none))
def qia (k : Nat) : SP := .mk [.rd,.rd] (dL (.sl ti) true (dF 107 cN dN)) oN fun (a0,_,_) _ C => C _ (qaf.f k a0) (fun x => .i .i64 x) fun x => []
def qoE : Live := look ⟨[],[],[],[],[]⟩ []
def qpg (k : Nat) : FEnv := (addF 118 (qia k).fs (fun _=>none))
def qic (k : Nat) : SP := .mk [.rd,.rd] (dL (.sl ti) true (dF 107 cN dN)) oN fun (a0,_,_) _ C => C _ (qaz.f k a0) (fun x => .b x) fun x => []
def lv119 : Live := look ⟨[],[],[],[],[]⟩ [(1000000,⟨[],[],[],[(2,0,.dat ti)],[]⟩)]
def g119 (k : Nat) : FEnv := (addF 108 (sp108 k).fs (fun _=>none))
def sp119 (k : Nat) : SP := .mk [.st] (dG (dI .i64 (dL ti false (dL ti false (dL ti false (dI .i64 (dI .i64 (dS dN))))))) dN) oN fun ((a0_0,a0_1,a0_2,a0_3,a0_4,a0_5,a0_6,_),_) _ C => C _ (qcs.f k a0_0 a0_1 a0_2 a0_3 a0_4 a0_5 a0_6) (fun x => .tup [.dat ti x.1 false,.i .i64 x.2]) fun x => []
theorem lp1 (S : Seals) (k : Nat) : (sp50 k).St tt (g50 k) lv50 Tryz.f50 k ∧ sp117.St tt (g117) lv117 Tryz.f117 k ∧ sp105.St tt (g105) lv105 Tryz.f105 k ∧ (sp108 k).St tt (g108) lv108 Tryz.f108 k ∧ (sp107 k).St tt (g107 k) lv107 Tryz.f107 k ∧ (qia k).St tt (qn6 k) qmG Tryz.f118 k ∧ (qic k).St tt (qpg k) qoE Tryz.f106 k ∧ (sp119 k).St tt (g119 k) lv119 Tryz.f119 k := by
 refine cu_ (A := ∀ (n : Nat) {x0 : ByteArray} {x2 x20 x21 : Int} {y0 y1 : LI} {K : CK},S.lp tt (g50 k) lv50 0 n (loopN Tryz.f50 0) ⟨[(0,.s x0),(2,.i .i64 x2),(10,.own 0),(19,.own 1),(20,.i .i64 x20),(21,.i .i64 x21)],[(0,.row ti y0 false),(1,.row (.int .i32) y1 false)],2,55⟩ K = bindO (qbm.l0 k n x0 x2 x20 x21 y0 y1) (Sum.elim (fun x : LI => K (.exit 0) ⟨[(2,.i .i64 x2),(10,.own 0)],[(0,.row ti x false)],1,55⟩) (fun x : Bool × Int => K .ret ⟨[(6,.nilsl),(7,.b x.1),(8,.i .i64 x.2)],[],0,55⟩))) (fun w50_0=>?_) (ind_ ?_ ?_)
 refine cu_ (A := ∀ (n : Nat) {x3 : Int} {x9 : LI} {x10 x11 : Int} {K : CK},S.lp tt (g108) lv108 0 n (loopN Tryz.f108 0) ⟨[(3,.i .i64 x3),(9,.dat ti x9 true),(10,.i .i64 x10),(11,.i .i64 x11)],[],0,27⟩ K = bindO (qaM.l0 n x3 x9 x10 x11) (Sum.elim (fun x : Int => K (.exit 0) ⟨[(3,.i .i64 x)],[],0,27⟩) (fun x : Bool => K .ret ⟨[(2,.b x)],[],0,27⟩))) (fun w108_0=>?_) (ind_ ?_ ?_)
 refine cu_ (A := ∀ (n : Nat) {x0 : List LI} {x7 x8 : Int} {K : CK},S.lp tt (qn6 k) qmG 0 n (loopN Tryz.f118 0) ⟨[(0,.dat (.sl ti) x0 true),(1,.fn 107 []),(7,.i .i64 x7),(8,.i .i64 x8)],[],0,19⟩ K = bindO (qaf.l0 k n x0 x7 x8) (Sum.elim (fun x : Unit => K (.exit 0) ⟨[],[],0,19⟩) (fun x : Int => K .ret ⟨[(4,.i .i64 x)],[],0,19⟩))) (fun w118_1_0=>?_) (ind_ ?_ ?_)
 and_intros
 all_goals first|(dsimp only [SP.St,sp50,sp117,sp105,sp108,sp107,qia,qic,sp119,dN,dL,dI,dS,dG,dF,cN,oN]; intros; (first|unfold qbm.f|unfold qdF.f|unfold qdh.f|unfold qaM.f|unfold qc6.f|unfold qaf.f|unfold qaz.f|unfold qcs.f); refine S.run_s rfl rfl ?_; (conv=>lhs;arg 5;whnf); conv=>lhs;arg 6;whnf)|(intros; rw [S.lp_zero]; exact qa0)|(intro n ih; intros; (first|rw [qbm.l0]|rw [qaM.l0]|rw [qaf.l0]); refine S.lp_succ ?_; conv=>lhs;arg 5;whnf)
 all_goals repeat' first|(first|refine S.seq_op rfl ?_|refine S.op_n ?_|refine S.block_x ?_|refine qcG ?_|refine qcH ?_|refine br_t (by assumption) ?_|refine br_f (by assumption) ?_|refine qbo (by with_reducible assumption) ?_|refine qcF (fun _=>?_) (fun _=>?_)|refine br_d (fun _=>?_) (fun _=>?_)|refine br_n (fun _=>?_) (fun _=>?_)|refine br_c (fun _=>?_) (fun _=>?_)|refine qcE fun _=>?_|refine qbo (by assumption) ?_|refine qcI fun _=>?_)<;>(conv=>lhs;whnf)|refine S.seq_nil ?_|refine S.reg_n ?_|refine S.region rfl ?_|refine S.two ?_|refine S.blok ?_|refine S.cond rfl ?_|refine S.after_n ?_|refine S.block_n ?_|refine S.block_r ?_|refine S.after_x ?_|refine S.after_r ?_|refine S.skip ?_|refine S.exit ?_|refine S.ret ?_|refine qcC (fun _=>?_) (fun _=>?_)|exact ih|refine (w50_0 _).trans ?_|refine (w108_0 _).trans ?_|refine (w118_1_0 _).trans ?_|refine S.region_d (id := 3) (ds := [0,1,3,7,15,31,63,127,255,511,1023,2047,4095,8191,16383,32767,65535,131071,262143,524287,65535,1114111,3211263,8388607,16777215,33554431,67108863]) (mds := [[],[],[],[],[],[],[],[],[],[],[],[],[],[],[],[],[],[],[],[],[],[],[],[],[],[],[]]) (hm := []) (by kernel_rfl) (by kernel_rfl) rfl rfl ?_|(first|refine S.loop ?_|refine S.back_n ?_|refine S.back_x ?_|refine S.back_r ?_|refine S.fin_r ?_|refine S.fin_n ?_|refine S.dk_n ?_|refine S.draw_nil ?_)<;>(conv=>lhs;whnf)|exact qcD rfl|exact qa0|(refine S.draw_op ?_; conv => lhs; whnf; arg 1; whnf)|refine qbp ?_|refine qa4 ?_|refine qb2 ?_|refine qaT ?_
theorem snd50 (k : Nat) : Sound Tryz.prog 50 (sp50 k).fs := sn_ qaj mixed Tryz.func50 (by kernel_rfl) rfl (qaa (snd80 k) (qaa (snd79 k) (qaa (snd78 k) (qab _)))) (lp1 seals k).1
theorem snd117 : Sound Tryz.prog 117 sp117.fs := sn_ qaj mixed Tryz.func117 (by kernel_rfl) rfl (qab _) (lp1 seals 0).2.1
theorem snd105 : Sound Tryz.prog 105 sp105.fs := sn_ qaj mixed Tryz.func105 (by kernel_rfl) rfl (qaa snd117 (qab _)) (lp1 seals 0).2.2.1
theorem snd108 (k : Nat) : Sound Tryz.prog 108 (sp108 k).fs := sn_ qaj mixed Tryz.func108 (by kernel_rfl) rfl (qab _) (lp1 seals k).2.2.2.1
theorem snd107 (k : Nat) : Sound Tryz.prog 107 (sp107 k).fs := sn_ qaj mixed Tryz.func107 (by kernel_rfl) rfl (qaa (snd108 k) (qab _)) (lp1 seals k).2.2.2.2.1
theorem qnd (k : Nat) : Sound Tryz.prog 118 (qia k).fs := sn_ qaj mixed Tryz.func118 (by kernel_rfl) rfl (qaa (snd107 k) (qab _)) (lp1 seals k).2.2.2.2.2.1
theorem qnf (k : Nat) : Sound Tryz.prog 106 (qic k).fs := sn_ qaj mixed Tryz.func106 (by kernel_rfl) rfl (qaa (qnd k) (qab _)) (lp1 seals k).2.2.2.2.2.2.1
theorem snd119 (k : Nat) : Sound Tryz.prog 119 (sp119 k).fs := sn_ qaj mixed Tryz.func119 (by kernel_rfl) rfl (qaa (snd108 k) (qab _)) (lp1 seals k).2.2.2.2.2.2.2
def lv120 : Live := look ⟨[],[],[],[],[]⟩ [(6,⟨[0,6,7,21,22,23],[6],[4,5],[],[]⟩),(1000000,⟨[],[],[],[(4,0,.own ti)],[]⟩)]
def g120 : FEnv := (fun _=>none)
def sp120 (k : Nat) : SP := .mk [.rd,.rd] (dL ti true (dL ti true dN)) oN fun (a0,a1,_) _ C => C _ (qbv.f k a0 a1) (fun x => .tup [.own 0,.i .i64 x.1]) fun x => [.row ti x.2 false]
def lv128 : Live := look ⟨[],[],[],[],[]⟩ [(3,⟨[1,5,8,9,10],[],[4],[],[]⟩)]
def g128 : FEnv := (fun _=>none)
def sp128 (k : Nat) : SP := .mk [.rd,.rd] (dL ti true (dI .i64 dN)) oN fun (a0,a1,_) _ C => C _ (qaY.f k a0 a1) (fun x => .b x) fun x => []
theorem lp2 (S : Seals) (k : Nat) : (sp120 k).St tt (g120) lv120 Tryz.f120 k ∧ (sp128 k).St tt (g128) lv128 Tryz.f128 k := by
 refine cu_ (A := ∀ (n : Nat) {x0 x21 : LI} {x22 x23 : Int} {y0 : LI} {y1 : List Bool} {K : CK},S.lp tt (g120) lv120 0 n (loopN Tryz.f120 0) ⟨[(0,.dat ti x0 true),(6,.own 0),(7,.own 1),(21,.dat ti x21 true),(22,.i .i64 x22),(23,.i .i64 x23)],[(0,.row ti y0 false),(1,.row .bool y1 false)],2,54⟩ K = bindO (qbv.l0 n x0 x21 x22 x23 y0 y1) (Sum.elim (fun x : LI => K (.exit 0) ⟨[(6,.own 0)],[(0,.row ti x false)],1,54⟩) (fun x : Int => K .ret ⟨[(4,.nilsl),(5,.i .i64 x)],[],0,54⟩))) (fun w120_0=>?_) (ind_ ?_ ?_)
 refine cu_ (A := ∀ (n : Nat) {x1 x5 : Int} {x8 : LI} {x9 x10 : Int} {K : CK},S.lp tt (g128) lv128 0 n (loopN Tryz.f128 0) ⟨[(1,.i .i64 x1),(5,.i .i64 x5),(8,.dat ti x8 true),(9,.i .i64 x9),(10,.i .i64 x10)],[],0,24⟩ K = bindO (qaY.l0 n x1 x5 x8 x9 x10) (Sum.elim (fun x : Unit => K (.exit 0) ⟨[],[],0,24⟩) (fun x : Bool => K .ret ⟨[(4,.b x)],[],0,24⟩))) (fun w128_0=>?_) (ind_ ?_ ?_)
 and_intros
 all_goals first|(dsimp only [SP.St,sp120,sp128,dN,dL,dI,oN]; intros; (first|unfold qbv.f|unfold qaY.f); refine S.run_s rfl rfl ?_; (conv=>lhs;arg 5;whnf); conv=>lhs;arg 6;whnf)|(intros; rw [S.lp_zero]; exact qa0)|(intro n ih; intros; (first|rw [qbv.l0]|rw [qaY.l0]); refine S.lp_succ ?_; conv=>lhs;arg 5;whnf)
 all_goals repeat' first|(first|refine S.seq_op rfl ?_|refine S.op_n ?_|refine S.block_x ?_|refine qcG ?_|refine qcH ?_|refine br_t (by assumption) ?_|refine br_f (by assumption) ?_|refine qbo (by with_reducible assumption) ?_|refine qcF (fun _=>?_) (fun _=>?_)|refine br_d (fun _=>?_) (fun _=>?_)|refine br_n (fun _=>?_) (fun _=>?_)|refine br_c (fun _=>?_) (fun _=>?_)|refine qcE fun _=>?_|refine qbo (by assumption) ?_|refine qcI fun _=>?_)<;>(conv=>lhs;whnf)|refine S.seq_nil ?_|refine S.reg_n ?_|refine S.region rfl ?_|refine S.two ?_|refine S.blok ?_|refine S.cond rfl ?_|refine S.after_n ?_|refine S.block_n ?_|refine S.block_r ?_|refine S.after_x ?_|refine S.after_r ?_|refine S.skip ?_|refine S.exit ?_|refine S.ret ?_|refine qcC (fun _=>?_) (fun _=>?_)|exact ih|refine (w120_0 _).trans ?_|refine (w128_0 _).trans ?_|(first|refine S.loop ?_|refine S.back_n ?_|refine S.back_x ?_|refine S.back_r ?_|refine S.fin_r ?_|refine S.fin_n ?_|refine S.dk_n ?_|refine S.draw_nil ?_)<;>(conv=>lhs;whnf)|exact qcD rfl|exact qa0|(refine S.draw_op ?_; conv => lhs; whnf; arg 1; whnf)|refine qbp ?_|refine qa4 ?_|refine qb2 ?_|refine qaT ?_
theorem snd120 (k : Nat) : Sound Tryz.prog 120 (sp120 k).fs := sn_ qaj mixed Tryz.func120 (by kernel_rfl) rfl (qab _) (lp2 seals k).1
theorem snd128 (k : Nat) : Sound Tryz.prog 128 (sp128 k).fs := sn_ qaj mixed Tryz.func128 (by kernel_rfl) rfl (qab _) (lp2 seals k).2
end
end Go.Vm
