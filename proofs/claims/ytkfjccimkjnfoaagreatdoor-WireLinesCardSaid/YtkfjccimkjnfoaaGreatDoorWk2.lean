/- Own texts put together: the walks -/
import Derived.Test.YtkfjccimkjnfoaaGreatDoorWk0
import Derived.Test.YtkfjccimkjnfoaaGreatDoorWk1
import Derived.Test.YtkfjccimkjnfoaaGreatDoorVm1
set_option linter.unusedVariables false
set_option maxRecDepth 60000
set_option maxHeartbeats 40000000
namespace Go.Vm
open Go Go.Proofs Go.Pf
noncomputable section

def qmF : Live := look ⟨[],[],[],[],[]⟩ [(2,⟨[0,1,7,8],[],[4],[],[]⟩)]
def qn5 (k : Nat) : FEnv := (addF 137 (sp137 k).fs (fun _=>none))
def qh9 (k : Nat) : SP := .mk [.rd,.rd] (dL (.sl ti) true (dF 137 (cP 0 0 cN) dN)) (oV 44 (cD (.sl ti) false cN) oN) fun (a0,_,_) ((o0,_),_) C => C _ (qae.f k a0 o0) (fun x => .i .i64 x) fun x => [.var 44 [.dat (.sl ti) o0 false]]
def qoD : Live := look ⟨[],[],[],[],[]⟩ []
def qpf (k : Nat) : FEnv := (addF 118 (qh9 k).fs (fun _=>none))
def qib (k : Nat) : SP := .mk [.rd,.rd] (dL (.sl ti) true (dF 137 (cP 0 0 cN) dN)) (oV 44 (cD (.sl ti) false cN) oN) fun (a0,_,_) ((o0,_),_) C => C _ (qaI.f k a0 o0) (fun x => .b x) fun x => [.var 44 [.dat (.sl ti) o0 false]]
def lv127 : Live := look ⟨[],[],[],[],[]⟩ [(1000000,⟨[],[],[],[(2,0,.dat ti)],[]⟩)]
def g127 (k : Nat) : FEnv := (addF 106 (qib k).fs (fun _=>none))
def sp127 (k : Nat) : SP := .mk [.st] (dL (.sl ti) false dN) oN fun (a0,_) _ C => C _ (qdi.f k a0) (fun x => .tup [.dat ti x.1 false,.i .i64 x.2]) fun x => []
def lv109 : Live := look ⟨[],[],[],[],[]⟩ [(1000000,⟨[],[],[],[(4,0,.fz ti)],[]⟩)]
def g109 (k : Nat) : FEnv := (addF 127 (sp127 k).fs (addF 126 sp126.fs (addF 125 (sp125 k).fs (addF 124 (sp124 k).fs (addF 123 (sp123 k).fs (addF 122 (sp122 k).fs (addF 121 (sp121 k).fs (addF 120 (sp120 k).fs (addF 119 (sp119 k).fs (fun _=>none))))))))))
def sp109 (k : Nat) : SP := .mk [.st,.st] (dG (dI .i64 (dL ti false (dL ti false (dL ti false (dI .i64 (dI .i64 (dS dN))))))) (dL (.sl ti) false dN)) oN fun ((a0_0,a0_1,a0_2,a0_3,a0_4,a0_5,a0_6,_),a1,_) _ C => C _ (qaR.f k a0_0 a0_1 a0_2 a0_3 a0_4 a0_5 a0_6 a1) (fun x => .tup [.dat ti x.1 false,.i .i64 x.2]) fun x => []
def lv76 : Live := look ⟨[],[],[],[],[]⟩ [(1000000,⟨[],[],[],[(4,0,.own ti)],[]⟩)]
def g76 (k : Nat) : FEnv := (addF 110 sp110 (addF 109 (sp109 k).fs (addF 106 (qic k).fs (addF 105 sp105.fs (fun _=>none)))))
def sp76 (k : Nat) : SP := .mk [.st,.st] (dG (dI .i64 (dL ti false (dL ti false (dL ti false (dI .i64 (dI .i64 (dS dN))))))) (dL (.sl ti) false dN)) oN fun ((a0_0,a0_1,a0_2,a0_3,a0_4,a0_5,a0_6,_),a1,_) _ C => C _ (qdj.f k a0_0 a0_1 a0_2 a0_3 a0_4 a0_5 a0_6 a1) (fun x => .tup [.own 0,.i .i64 x.1]) fun x => [.row ti x.2 false]
def lv47 : Live := look ⟨[],[],[],[],[]⟩ [(3,⟨[2,3,4,8,14,15,16],[3,4,8],[6,7],[(8,0,.own (.sl ti))],[]⟩),(1000000,⟨[],[],[],[(6,0,.own ti)],[]⟩)]
def g47 (k : Nat) : FEnv := (addF 50 (sp50 k).fs (addF 76 (sp76 k).fs (fun _=>none)))
def sp47 (k : Nat) : SP := .mk [.rd,.st,.rd] (dG (dL ti true (dS (dL (.pair ti (.pair (.sl ti) (.pair (.sl ti) (.pair (.sl ti) (.pair ti (.pair ti .str)))))) true (dL ti true dN)))) (dG (dI .i64 (dL ti false (dL ti false (dL ti false (dI .i64 (dI .i64 (dS dN))))))) (dL (.sl ti) true dN))) oN fun ((a0_0,a0_1,a0_2,a0_3,_),(a1_0,a1_1,a1_2,a1_3,a1_4,a1_5,a1_6,_),a2,_) _ C => C _ (qbD.f k a0_0 a0_1 a0_2 a0_3 a1_0 a1_1 a1_2 a1_3 a1_4 a1_5 a1_6 a2) (fun x => .tup [.own 0,.i .i64 x.1]) fun x => [.row ti x.2 false]
def lv49 : Live := look ⟨[],[],[],[],[]⟩ []
def g49 : FEnv := (fun _=>none)
def sp49 : SP := .mk [.rd,.rd] (dI .i64 (dP 0 0 dN)) (oV 44 (cO 1 cN) (oR (.sl ti) false oN)) fun (a0,_) (_,o1,_) C => C _ (qcp.f a0 o1) (fun x => .b x) fun x => [.var 44 [.own 1],.row (.sl ti) o1 false]
def qn3 : Live := look ⟨[],[],[],[],[]⟩ [(2,⟨[0,1,7,8],[],[4],[],[]⟩)]
def qpd : FEnv := (addF 49 sp49.fs (fun _=>none))
def qkC (k : Nat) : SP := .mk [.rd,.rd] (dL ti true (dF 49 (cP 0 0 cN) dN)) (oV 44 (cO 1 cN) (oR (.sl ti) false oN)) fun (a0,_,_) (_,o1,_) C => C _ (qah.f k a0 o1) (fun x => .i .i64 x) fun x => [.var 44 [.own 1],.row (.sl ti) o1 false]
def qpa : Live := look ⟨[],[],[],[],[]⟩ []
def g48_1 (k : Nat) : FEnv := (addF 77 (qkC k).fs (fun _=>none))
def qkD (k : Nat) : SP := .mk [.rd,.rd] (dL ti true (dF 49 (cP 0 0 cN) dN)) (oV 44 (cO 1 cN) (oR (.sl ti) false oN)) fun (a0,_,_) (_,o1,_) C => C _ (qaC.f k a0 o1) (fun x => .b x) fun x => [.var 44 [.own 1],.row (.sl ti) o1 false]
theorem lp2000 (S : Seals) (k : Nat) : (qh9 k).St tt (qn5 k) qmF Tryz.f118 k ∧ (qib k).St tt (qpf k) qoD Tryz.f106 k ∧ (sp127 k).St tt (g127 k) lv127 Tryz.f127 k ∧ (sp109 k).St tt (g109 k) lv109 Tryz.f109 k ∧ (sp76 k).St tt (g76 k) lv76 Tryz.f76 k ∧ (sp47 k).St tt (g47 k) lv47 Tryz.f47 k ∧ sp49.St tt (g49) lv49 Tryz.f49 k ∧ (qkC k).St tt (qpd) qn3 Tryz.f77 k ∧ (qkD k).St tt (g48_1 k) qpa Tryz.f48 k := by
 refine cu_ (A := ∀ (n : Nat) {x0 : List LI} {x7 x8 : Int} {y0 : List LI} {K : CK},S.lp tt (qn5 k) qmF 1 n (loopN Tryz.f118 0) ⟨[(0,.dat (.sl ti) x0 true),(1,.fn 137 [.ptr 0 0]),(7,.i .i64 x7),(8,.i .i64 x8)],[(0,.var 44 [.dat (.sl ti) y0 false])],1,19⟩ K = bindO (qae.l0 k n x0 x7 x8 y0) (Sum.elim (fun x : Unit => K (.exit 0) ⟨[],[(0,.var 44 [.dat (.sl ti) y0 false])],1,19⟩) (fun x : Int => K .ret ⟨[(4,.i .i64 x)],[(0,.var 44 [.dat (.sl ti) y0 false])],1,19⟩))) (fun w118_2_0=>?_) (ind_ ?_ ?_)
 refine cu_ (A := ∀ (n : Nat) {x2 : List LI} {x14 : LI} {x15 x16 : Int} {y0_0 : LI} {y0_1 : ByteArray} {y0_2 : List LN} {y0_3 : LI} {y1_0 : Int} {y1_1 y1_2 y1_3 : LI} {y1_4 y1_5 : Int} {y1_6 : ByteArray} {y2 : List LI} {K : CK},S.lp tt (g47 k) lv47 0 n (loopN Tryz.f47 0) ⟨[(2,.dat (.sl ti) x2 true),(3,.ptr 0 0),(4,.ptr 1 0),(8,.own 2),(14,.dat ti x14 false),(15,.i .i64 x15),(16,.i .i64 x16)],[(0,.var 26 [.dat ti y0_0 true,.s y0_1,.dat (.pair ti (.pair (.sl ti) (.pair (.sl ti) (.pair (.sl ti) (.pair ti (.pair ti .str)))))) y0_2 true,.dat ti y0_3 true]),(1,.var 37 [.i .i64 y1_0,.dat ti y1_1 false,.dat ti y1_2 false,.dat ti y1_3 false,.i .i64 y1_4,.i .i64 y1_5,.s y1_6]),(2,.row (.sl ti) y2 false)],3,58⟩ K = bindO (qbD.l0 n x2 x14 x15 x16 y0_0 y0_1 y0_2 y0_3 y1_0 y1_1 y1_2 y1_3 y1_4 y1_5 y1_6 y2) (Sum.elim (fun x : (List LI) => K (.exit 0) ⟨[(3,.ptr 0 0),(4,.ptr 1 0),(8,.own 2)],[(0,.var 26 [.dat ti y0_0 true,.s y0_1,.dat (.pair ti (.pair (.sl ti) (.pair (.sl ti) (.pair (.sl ti) (.pair ti (.pair ti .str)))))) y0_2 true,.dat ti y0_3 true]),(1,.var 37 [.i .i64 y1_0,.dat ti y1_1 false,.dat ti y1_2 false,.dat ti y1_3 false,.i .i64 y1_4,.i .i64 y1_5,.s y1_6]),(2,.row (.sl ti) x false)],3,58⟩) (fun x : Int => K .ret ⟨[(6,.nilsl),(7,.i .i64 x)],[],0,58⟩))) (fun w47_0=>?_) (ind_ ?_ ?_)
 refine cu_ (A := ∀ (n : Nat) {x0 : LI} {x7 x8 : Int} {y1 : List LI} {K : CK},S.lp tt (qpd) qn3 2 n (loopN Tryz.f77 0) ⟨[(0,.dat ti x0 true),(1,.fn 49 [.ptr 0 0]),(7,.i .i64 x7),(8,.i .i64 x8)],[(0,.var 44 [.own 1]),(1,.row (.sl ti) y1 false)],2,19⟩ K = bindO (qah.l0 n x0 x7 x8 y1) (Sum.elim (fun x : Unit => K (.exit 0) ⟨[],[(0,.var 44 [.own 1]),(1,.row (.sl ti) y1 false)],2,19⟩) (fun x : Int => K .ret ⟨[(4,.i .i64 x)],[(0,.var 44 [.own 1]),(1,.row (.sl ti) y1 false)],2,19⟩))) (fun w77_1_0=>?_) (ind_ ?_ ?_)
 and_intros
 all_goals first|(dsimp only [SP.St,qh9,qib,sp127,sp109,sp76,sp47,sp49,qkC,qkD,dN,dL,dI,dS,dP,dG,dF,cN,cD,cO,cP,oN,oR,oV]; intros; (first|unfold qae.f|unfold qaI.f|unfold qdi.f|unfold qaR.f|unfold qdj.f|unfold qbD.f|unfold qcp.f|unfold qah.f|unfold qaC.f); refine S.run_s rfl rfl ?_; (conv=>lhs;arg 5;whnf); conv=>lhs;arg 6;whnf)|(intros; rw [S.lp_zero]; exact qa0)|(intro n ih; intros; (first|rw [qae.l0]|rw [qbD.l0]|rw [qah.l0]); refine S.lp_succ ?_; conv=>lhs;arg 5;whnf)
 all_goals repeat' first|(first|refine S.seq_op rfl ?_|refine S.op_n ?_|refine S.block_x ?_|refine qcG ?_|refine qcH ?_|refine br_t (by assumption) ?_|refine br_f (by assumption) ?_|refine qbo (by with_reducible assumption) ?_|refine qcF (fun _=>?_) (fun _=>?_)|refine br_d (fun _=>?_) (fun _=>?_)|refine br_n (fun _=>?_) (fun _=>?_)|refine br_c (fun _=>?_) (fun _=>?_)|refine qcE fun _=>?_|refine qbo (by assumption) ?_|refine qcI fun _=>?_)<;>(conv=>lhs;whnf)|refine S.seq_nil ?_|refine S.reg_n ?_|refine S.region rfl ?_|refine S.two ?_|refine S.blok ?_|refine S.cond rfl ?_|refine S.after_n ?_|refine S.block_n ?_|refine S.block_r ?_|refine S.after_x ?_|refine S.after_r ?_|refine S.skip ?_|refine S.exit ?_|refine S.ret ?_|refine qcC (fun _=>?_) (fun _=>?_)|exact ih|refine (w118_2_0 _).trans ?_|refine (w47_0 _).trans ?_|refine (w77_1_0 _).trans ?_|refine S.region_d (id := 7) (ds := [0,1,3,0,8,31,63,63,255,511]) (mds := [[],[],[],[],[],[],[],[],[],[]]) (hm := []) (by kernel_rfl) (by kernel_rfl) rfl rfl ?_|refine S.region_d (id := 9) (ds := [0,1,0,4,12,0,32,0,128,508,1023,2047]) (mds := [[],[],[],[],[],[],[],[],[],[],[],[]]) (hm := []) (by kernel_rfl) (by kernel_rfl) rfl rfl ?_|refine S.region_d (id := 12) (ds := [0,0,2,6,15,31,31,127,255]) (mds := [[],[],[],[],[],[],[],[],[]]) (hm := []) (by kernel_rfl) (by kernel_rfl) rfl rfl ?_|refine S.region_d (id := 19) (ds := [0,1,3,0,8,24,0,64,192,448,1023,2047,2047,8191,16383]) (mds := [[],[],[],[],[],[],[],[],[],[],[],[],[],[],[]]) (hm := []) (by kernel_rfl) (by kernel_rfl) rfl rfl ?_|refine S.region_d (id := 21) (ds := [0,0,2,6,15,31,31,127,255]) (mds := [[],[],[],[],[],[],[],[],[]]) (hm := []) (by kernel_rfl) (by kernel_rfl) rfl rfl ?_|refine S.region_d (id := 23) (ds := [0,0,2,6,15,31,31,127,255]) (mds := [[],[],[],[],[],[],[],[],[]]) (hm := []) (by kernel_rfl) (by kernel_rfl) rfl rfl ?_|(first|refine S.loop ?_|refine S.back_n ?_|refine S.back_x ?_|refine S.back_r ?_|refine S.fin_r ?_|refine S.fin_n ?_|refine S.dk_n ?_|refine S.draw_nil ?_)<;>(conv=>lhs;whnf)|exact qcD rfl|exact qa0|(refine S.draw_op ?_; conv => lhs; whnf; arg 1; whnf)|refine qbp ?_|refine qa4 ?_|refine qb2 ?_|refine qaT ?_
theorem qnc (k : Nat) : Sound Tryz.prog 118 (qh9 k).fs := sn_ qaj mixed Tryz.func118 (by kernel_rfl) rfl (qaa (snd137 k) (qab _)) (lp2000 seals k).1
theorem qne (k : Nat) : Sound Tryz.prog 106 (qib k).fs := sn_ qaj mixed Tryz.func106 (by kernel_rfl) rfl (qaa (qnc k) (qab _)) (lp2000 seals k).2.1
theorem snd127 (k : Nat) : Sound Tryz.prog 127 (sp127 k).fs := sn_ qaj mixed Tryz.func127 (by kernel_rfl) rfl (qaa (qne k) (qab _)) (lp2000 seals k).2.2.1
theorem snd109 (k : Nat) : Sound Tryz.prog 109 (sp109 k).fs := sn_ qaj mixed Tryz.func109 (by kernel_rfl) rfl (qaa (snd127 k) (qaa snd126 (qaa (snd125 k) (qaa (snd124 k) (qaa (snd123 k) (qaa (snd122 k) (qaa (snd121 k) (qaa (snd120 k) (qaa (snd119 k) (qab _)))))))))) (lp2000 seals k).2.2.2.1
theorem snd76 (k : Nat) : Sound Tryz.prog 76 (sp76 k).fs := sn_ qaj mixed Tryz.func76 (by kernel_rfl) rfl (qaa snd110 (qaa (snd109 k) (qaa (qnf k) (qaa snd105 (qab _))))) (lp2000 seals k).2.2.2.2.1
theorem snd47 (k : Nat) : Sound Tryz.prog 47 (sp47 k).fs := sn_ qaj mixed Tryz.func47 (by kernel_rfl) rfl (qaa (snd50 k) (qaa (snd76 k) (qab _))) (lp2000 seals k).2.2.2.2.2.1
theorem snd49 : Sound Tryz.prog 49 sp49.fs := sn_ qaj mixed Tryz.func49 (by kernel_rfl) rfl (qab _) (lp2000 seals 0).2.2.2.2.2.2.1
theorem qol (k : Nat) : Sound Tryz.prog 77 (qkC k).fs := sn_ qaj mixed Tryz.func77 (by kernel_rfl) rfl (qaa snd49 (qab _)) (lp2000 seals k).2.2.2.2.2.2.2.1
theorem qon (k : Nat) : Sound Tryz.prog 48 (qkD k).fs := sn_ qaj mixed Tryz.func48 (by kernel_rfl) rfl (qaa (qol k) (qab _)) (lp2000 seals k).2.2.2.2.2.2.2.2
def lv24 : Live := look ⟨[],[],[],[],[]⟩ [(7,⟨[1,4,25,26,27],[1,4],[2,3],[(4,0,.own (.sl ti))],[]⟩),(1000000,⟨[],[],[],[(2,0,.own (.sl ti))],[]⟩)]
def g24 (k : Nat) : FEnv := (addF 48 (qkD k).fs (addF 47 (sp47 k).fs (addF 46 (sp46 k).fs (fun _=>none))))
def sp24 (k : Nat) : SP := .mk [.rd] (dG (dL ti true (dS (dL (.pair ti (.pair (.sl ti) (.pair (.sl ti) (.pair (.sl ti) (.pair ti (.pair ti .str)))))) true (dL ti true dN)))) dN) oN fun ((a0_0,a0_1,a0_2,a0_3,_),_) _ C => C _ (qbe.f k a0_0 a0_1 a0_2 a0_3) (fun x => .tup [.own 0,.i .i64 x.1]) fun x => [.row (.sl ti) x.2 false]
def lv25 : Live := look ⟨[],[],[],[],[]⟩ []
def g25 : FEnv := (fun _=>none)
def sp25 : SP := .mk [.rd] (dS dN) oN fun (a0,_) _ C => C _ (qcc.f a0) (fun x => .s x) fun x => []
def lv26 : Live := look ⟨[],[],[],[],[]⟩ [(3,⟨[3,6,7,8],[3],[2],[(3,0,.own .str)],[]⟩)]
def g26 : FEnv := (addF 10 sp10.fs (fun _=>none))
def sp26 (k : Nat) : SP := .mk [.rd] (dL ti true dN) oN fun (a0,_) _ C => C _ (qa5.f k a0) (fun x => .own 0) fun x => [.row .str x false]
def lv51 : Live := look ⟨[],[],[],[],[]⟩ [(4,⟨[5,6,11,12,13],[6],[4],[(6,0,.own (.int .i32))],[]⟩)]
def g51 (k : Nat) : FEnv := (addF 78 (sp78 k).fs (fun _=>none))
def sp51 (k : Nat) : SP := .mk [.rd,.rd] (dS (dL ti true dN)) oN fun (a0,a1,_) _ C => C _ (qbu.f k a0 a1) (fun x => .s x) fun x => []
def lv8 : Live := look ⟨[],[],[],[],[]⟩ []
def g8 : FEnv := (fun _=>none)
def sp8 : SP := .mk [.rd] (dI .i64 dN) oN fun (a0,_) _ C => C _ (qdb.f a0) (fun x => .s x) fun x => []
def lv27 : Live := look ⟨[],[],[],[],[]⟩ [(3,⟨[2,3,4,7,23,24,25],[2,3,4,7],[6],[],[]⟩)]
def g27 (k : Nat) : FEnv := (addF 25 sp25.fs (addF 51 (sp51 k).fs (addF 10 sp10.fs (addF 50 (sp50 k).fs (addF 26 (sp26 k).fs (addF 8 sp8.fs (fun _=>none)))))))
def sp27 (k : Nat) : SP := .mk [.st,.st,.kp] (dG (dL ti false (dS (dL (.pair ti (.pair (.sl ti) (.pair (.sl ti) (.pair (.sl ti) (.pair ti (.pair ti .str)))))) false (dL ti false dN)))) (dG (dI .i64 (dL ti false (dL ti false (dL ti false (dI .i64 (dI .i64 (dS dN))))))) (dI .i64 dN))) oN fun ((a0_0,a0_1,a0_2,a0_3,_),(a1_0,a1_1,a1_2,a1_3,a1_4,a1_5,a1_6,_),a2,_) _ C => C _ (qbU.f k a0_0 a0_1 a0_2 a0_3 a1_0 a1_1 a1_2 a1_3 a1_4 a1_5 a1_6 a2) (fun x => .own 0) fun x => [.row .str x false]
theorem lp2001 (S : Seals) (k : Nat) : (sp24 k).St tt (g24 k) lv24 Tryz.f24 k ∧ sp25.St tt (g25) lv25 Tryz.f25 k ∧ (sp26 k).St tt (g26) lv26 Tryz.f26 k ∧ (sp51 k).St tt (g51 k) lv51 Tryz.f51 k ∧ sp8.St tt (g8) lv8 Tryz.f8 k ∧ (sp27 k).St tt (g27 k) lv27 Tryz.f27 k := by
 refine cu_ (A := ∀ (n : Nat) {x25 : List LN} {x26 x27 : Int} {y0_0 : LI} {y0_1 : ByteArray} {y0_2 : List LN} {y0_3 : LI} {y2 : List LI} {K : CK},S.lp tt (g24 k) lv24 0 n (loopN Tryz.f24 0) ⟨[(1,.ptr 0 0),(4,.ptr 1 0),(25,.dat (.pair ti (.pair (.sl ti) (.pair (.sl ti) (.pair (.sl ti) (.pair ti (.pair ti .str)))))) x25 true),(26,.i .i64 x26),(27,.i .i64 x27)],[(0,.var 26 [.dat ti y0_0 true,.s y0_1,.dat (.pair ti (.pair (.sl ti) (.pair (.sl ti) (.pair (.sl ti) (.pair ti (.pair ti .str)))))) y0_2 true,.dat ti y0_3 true]),(1,.var 44 [.own 2]),(2,.row (.sl ti) y2 false)],3,51⟩ K = bindO (qbe.l0 k n x25 x26 x27 y0_0 y0_1 y0_2 y0_3 y2) (Sum.elim (fun x : (List LI) => K (.exit 1) ⟨[(1,.ptr 0 0),(4,.ptr 1 0)],[(0,.var 26 [.dat ti y0_0 true,.s y0_1,.dat (.pair ti (.pair (.sl ti) (.pair (.sl ti) (.pair (.sl ti) (.pair ti (.pair ti .str)))))) y0_2 true,.dat ti y0_3 true]),(1,.var 44 [.own 2]),(2,.row (.sl ti) x false)],3,51⟩) (fun x : Int => K .ret ⟨[(2,.nilsl),(3,.i .i64 x)],[],0,51⟩))) (fun w24_0=>?_) (ind_ ?_ ?_)
 refine cu_ (A := ∀ (n : Nat) {x6 : LI} {x7 x8 : Int} {y0 : List ByteArray} {K : CK},S.lp tt (g26) lv26 0 n (loopN Tryz.f26 0) ⟨[(3,.own 0),(6,.dat ti x6 true),(7,.i .i64 x7),(8,.i .i64 x8)],[(0,.row .str y0 false)],1,19⟩ K = bindO (qa5.l0 n x6 x7 x8 y0) (fun x : (List ByteArray) => K (.exit 0) ⟨[(3,.own 0)],[(0,.row .str x false)],1,19⟩)) (fun w26_0=>?_) (ind_ ?_ ?_)
 refine cu_ (A := ∀ (n : Nat) {x11 : LI} {x12 x13 : Int} {y0 y1 : LI} {K : CK},S.lp tt (g51 k) lv51 0 n (loopN Tryz.f51 0) ⟨[(5,.own 0),(6,.own 1),(11,.dat ti x11 true),(12,.i .i64 x12),(13,.i .i64 x13)],[(0,.row (.int .i32) y0 false),(1,.row (.int .i32) y1 false)],2,38⟩ K = bindO (qbu.l0 n x11 x12 x13 y0 y1) (fun x : LI => K (.exit 0) ⟨[(6,.own 0)],[(0,.row (.int .i32) x false)],1,38⟩)) (fun w51_0=>?_) (ind_ ?_ ?_)
 refine cu_ (A := ∀ (n : Nat) {x2 x24 x25 : Int} {y0_0 : LI} {y0_1 : ByteArray} {y0_2 : List LN} {y0_3 : LI} {y1_0 : Int} {y1_1 y1_2 y1_3 : LI} {y1_4 y1_5 : Int} {y1_6 : ByteArray} {y2 : List ByteArray} {y3 : List LI} {K : CK},S.lp tt (g27 k) lv27 0 n (loopN Tryz.f27 0) ⟨[(2,.i .i64 x2),(3,.ptr 0 0),(4,.ptr 1 0),(7,.own 2),(23,.own 3),(24,.i .i64 x24),(25,.i .i64 x25)],[(0,.var 26 [.dat ti y0_0 false,.s y0_1,.dat (.pair ti (.pair (.sl ti) (.pair (.sl ti) (.pair (.sl ti) (.pair ti (.pair ti .str)))))) y0_2 false,.dat ti y0_3 false]),(1,.var 37 [.i .i64 y1_0,.dat ti y1_1 false,.dat ti y1_2 false,.dat ti y1_3 false,.i .i64 y1_4,.i .i64 y1_5,.s y1_6]),(2,.row .str y2 false),(3,.row (.sl ti) y3 false)],4,62⟩ K = bindO (qbU.l0 k n x2 x24 x25 y0_0 y0_1 y0_2 y0_3 y1_0 y1_1 y1_2 y1_3 y1_4 y1_5 y1_6 y2 y3) (fun x : (List ByteArray) => K (.exit 0) ⟨[(2,.i .i64 x2),(3,.ptr 0 0),(4,.ptr 1 0),(7,.own 2)],[(0,.var 26 [.dat ti y0_0 false,.s y0_1,.dat (.pair ti (.pair (.sl ti) (.pair (.sl ti) (.pair (.sl ti) (.pair ti (.pair ti .str)))))) y0_2 false,.dat ti y0_3 false]),(1,.var 37 [.i .i64 y1_0,.dat ti y1_1 false,.dat ti y1_2 false,.dat ti y1_3 false,.i .i64 y1_4,.i .i64 y1_5,.s y1_6]),(2,.row .str x false)],3,62⟩)) (fun w27_0=>?_) (ind_ ?_ ?_)
 and_intros
 all_goals first|(dsimp only [SP.St,sp24,sp25,sp26,sp51,sp8,sp27,dN,dL,dI,dS,dG,oN]; intros; (first|unfold qbe.f|unfold qcc.f|unfold qa5.f|unfold qbu.f|unfold qdb.f|unfold qbU.f); refine S.run_s rfl rfl ?_; (conv=>lhs;arg 5;whnf); conv=>lhs;arg 6;whnf)|(intros; rw [S.lp_zero]; exact qa0)|(intro n ih; intros; (first|rw [qbe.l0]|rw [qa5.l0]|rw [qbu.l0]|rw [qbU.l0]); refine S.lp_succ ?_; conv=>lhs;arg 5;whnf)
 all_goals repeat' first|(first|refine S.seq_op rfl ?_|refine S.op_n ?_|refine S.block_x ?_|refine qcG ?_|refine qcH ?_|refine br_t (by assumption) ?_|refine br_f (by assumption) ?_|refine qbo (by with_reducible assumption) ?_|refine qcF (fun _=>?_) (fun _=>?_)|refine br_d (fun _=>?_) (fun _=>?_)|refine br_n (fun _=>?_) (fun _=>?_)|refine br_c (fun _=>?_) (fun _=>?_)|refine qcE fun _=>?_|refine qbo (by assumption) ?_|refine qcI fun _=>?_)<;>(conv=>lhs;whnf)|refine S.seq_nil ?_|refine S.reg_n ?_|refine S.region rfl ?_|refine S.two ?_|refine S.blok ?_|refine S.cond rfl ?_|refine S.after_n ?_|refine S.block_n ?_|refine S.block_r ?_|refine S.after_x ?_|refine S.after_r ?_|refine S.skip ?_|refine S.exit ?_|refine S.ret ?_|refine qcC (fun _=>?_) (fun _=>?_)|exact ih|refine (w24_0 _).trans ?_|refine (w26_0 _).trans ?_|refine (w51_0 _).trans ?_|refine (w27_0 _).trans ?_|refine S.region_d (id := 8) (ds := [0,0,2,6,0,16,62,0,128,0,1022,2046,4094,8191,16383]) (mds := [[],[],[],[],[],[],[],[],[],[],[3,3],[],[],[2],[]]) (hm := [(10,[3,3]),(13,[2])]) (by kernel_rfl) (by kernel_rfl) rfl rfl ?_|(first|refine S.loop ?_|refine S.back_n ?_|refine S.back_x ?_|refine S.back_r ?_|refine S.fin_r ?_|refine S.fin_n ?_|refine S.dk_n ?_|refine S.draw_nil ?_)<;>(conv=>lhs;whnf)|exact qcD rfl|exact qa0|(refine S.draw_op ?_; conv => lhs; whnf; arg 1; whnf)|refine qbp ?_|refine qa4 ?_|refine qb2 ?_|refine qaT ?_
theorem snd24 (k : Nat) : Sound Tryz.prog 24 (sp24 k).fs := sn_ qaj mixed Tryz.func24 (by kernel_rfl) rfl (qaa (qon k) (qaa (snd47 k) (qaa (snd46 k) (qab _)))) (lp2001 seals k).1
theorem snd25 : Sound Tryz.prog 25 sp25.fs := sn_ qaj mixed Tryz.func25 (by kernel_rfl) rfl (qab _) (lp2001 seals 0).2.1
theorem snd26 (k : Nat) : Sound Tryz.prog 26 (sp26 k).fs := sn_ qaj mixed Tryz.func26 (by kernel_rfl) rfl (qaa snd10 (qab _)) (lp2001 seals k).2.2.1
theorem snd51 (k : Nat) : Sound Tryz.prog 51 (sp51 k).fs := sn_ qaj mixed Tryz.func51 (by kernel_rfl) rfl (qaa (snd78 k) (qab _)) (lp2001 seals k).2.2.2.1
theorem snd8 : Sound Tryz.prog 8 sp8.fs := sn_ qaj mixed Tryz.func8 (by kernel_rfl) rfl (qab _) (lp2001 seals 0).2.2.2.2.1
theorem snd27 (k : Nat) : Sound Tryz.prog 27 (sp27 k).fs := sn_ qaj mixed Tryz.func27 (by kernel_rfl) rfl (qaa snd25 (qaa (snd51 k) (qaa snd10 (qaa (snd50 k) (qaa (snd26 k) (qaa snd8 (qab _))))))) (lp2001 seals k).2.2.2.2.2
def qnW : FSpec := spCC 64
set_option maxRecDepth 60000 in
theorem qom : Sound Tryz.prog 52 qnW := sndCC { Tryz.lays156 with } Tryz.Builder_X72_156 ⟨Tryz.f52,Tryz.func52,by kernel_rfl,rfl⟩

def qpb : Live := look ⟨[],[],[],[],[]⟩ []
noncomputable def qpe : FEnv := (addF 52 qnW (fun _=>none))
theorem qpk : EnvOK Tryz.prog (qpe) := (qaa qom (qab _))
theorem r28_2 (S : Seals) (k : Nat) (a1 : ByteArray) (o1 : LI) : runF tt (qpe) qpb Tryz.f28 k [.ptr 0 0,.s a1] [.var 64 [.optp 0,.own 1],.row (.int .u8) o1 false] = bindO (qaF.f a1 o1) (fun x : Int × LI => some (.tup [.i .i64 x.1,.kon (.nilIface)],[.var 64 [.optp 0,.own 2],.dead,.row (.int .u8) x.2 false])) := by
 unfold qaF.f; refine S.run_s rfl rfl ?_; conv => lhs; arg 5; whnf
 conv => lhs; arg 6; whnf
 repeat' first|(first|refine S.seq_op rfl ?_|refine S.op_n ?_|refine S.block_x ?_|refine qcG ?_|refine qcH ?_|refine br_t (by assumption) ?_|refine br_f (by assumption) ?_|refine qbo (by with_reducible assumption) ?_|refine qcF (fun _=>?_) (fun _=>?_)|refine br_d (fun _=>?_) (fun _=>?_)|refine br_n (fun _=>?_) (fun _=>?_)|refine br_c (fun _=>?_) (fun _=>?_)|refine qcE fun _=>?_|refine qbo (by assumption) ?_|refine qcI fun _=>?_)<;>(conv=>lhs;whnf)|refine S.seq_nil ?_|refine S.reg_n ?_|refine S.region rfl ?_|refine S.two ?_|refine S.blok ?_|refine S.cond rfl ?_|refine S.after_n ?_|refine S.block_n ?_|refine S.block_r ?_|refine S.after_x ?_|refine S.after_r ?_|refine S.skip ?_|refine S.exit ?_|refine S.ret ?_|refine qcC (fun _=>?_) (fun _=>?_)|(first|refine S.loop ?_|refine S.back_n ?_|refine S.back_x ?_|refine S.back_r ?_|refine S.fin_r ?_|refine S.fin_n ?_|refine S.dk_n ?_|refine S.draw_nil ?_)<;>(conv=>lhs;whnf)|exact qcD rfl|exact qa0|(refine S.draw_op ?_; conv => lhs; whnf; arg 1; whnf)|refine qbp ?_|refine qa4 ?_|refine qb2 ?_|refine qaT ?_
def qmb : FSpec := ⟨[.kp,.kp],fun args objs K => match args,objs with | [.ptr 0 0,.s a1],[.var 64 [.optp 0,.own 1],w1] => rowK (.int .u8) false w1 fun o1 => bindO (qaF.f a1 o1) fun x : Int × LI => K (.tup [.i .i64 x.1,.kon (.nilIface)]) [.var 64 [.optp 0,.own 2],.dead,.row (.int .u8) x.2 false] | _,_ => none⟩
theorem qoo : Sound Tryz.prog 28 (qmb) := by
 refine ⟨⟨Tryz.f28,Tryz.func28,by kernel_rfl,rfl⟩,fun args objs K r h => ?_⟩
 unfold qmb at h; dsimp only at h; split at h
 ·rename_i a1 w1
  obtain ⟨o1,h9,eo1⟩ := qfd h; clear h; subst eo1
  have h := h9; clear h9
  obtain ⟨x,hx,h⟩ := qcP h
  exact ⟨_,_,h,FnOK.args2 (qdc qfK (qdc qfK qi8)) (qjB qaj (qpk) mixed Tryz.func28 ((r28_2 seals 0 a1 o1).trans (qeu hx)))⟩
 ·cases h

def sp29 : FSpec := spJoin
set_option maxRecDepth 60000 in
theorem snd29 : Sound Tryz.prog 29 sp29 := sndJoin Tryz.lays156 Tryz.Builder_Extra_156 ⟨Tryz.f29,Tryz.func29,by kernel_rfl,rfl⟩

def lv30 : Live := look ⟨[],[],[],[],[]⟩ []
noncomputable def g30 : FEnv := (fun _=>none)
theorem en30 : EnvOK Tryz.prog (g30) := (qab _)
theorem r30 (S : Seals) (k : Nat) (o1 : LI) : runF tt (g30) lv30 Tryz.f30 k [.ptr 0 0] [.var 64 [.optp 0,.own 1],.row (.int .u8) o1 false] = bindO (qbt.f o1) (fun x : Int => some (.i .i64 x,[.var 64 [.optp 0,.own 1],.row (.int .u8) o1 false])) := by
 unfold qbt.f; refine S.run_s rfl rfl ?_; conv => lhs; arg 5; whnf
 conv => lhs; arg 6; whnf
 repeat' first|(first|refine S.seq_op rfl ?_|refine S.op_n ?_|refine S.block_x ?_|refine qcG ?_|refine qcH ?_|refine br_t (by assumption) ?_|refine br_f (by assumption) ?_|refine qbo (by with_reducible assumption) ?_|refine qcF (fun _=>?_) (fun _=>?_)|refine br_d (fun _=>?_) (fun _=>?_)|refine br_n (fun _=>?_) (fun _=>?_)|refine br_c (fun _=>?_) (fun _=>?_)|refine qcE fun _=>?_|refine qbo (by assumption) ?_|refine qcI fun _=>?_)<;>(conv=>lhs;whnf)|refine S.seq_nil ?_|refine S.reg_n ?_|refine S.region rfl ?_|refine S.two ?_|refine S.blok ?_|refine S.cond rfl ?_|refine S.after_n ?_|refine S.block_n ?_|refine S.block_r ?_|refine S.after_x ?_|refine S.after_r ?_|refine S.skip ?_|refine S.exit ?_|refine S.ret ?_|refine qcC (fun _=>?_) (fun _=>?_)|(first|refine S.loop ?_|refine S.back_n ?_|refine S.back_x ?_|refine S.back_r ?_|refine S.fin_r ?_|refine S.fin_n ?_|refine S.dk_n ?_|refine S.draw_nil ?_)<;>(conv=>lhs;whnf)|exact qcD rfl|exact qa0|(refine S.draw_op ?_; conv => lhs; whnf; arg 1; whnf)|refine qbp ?_|refine qa4 ?_|refine qb2 ?_|refine qaT ?_
def sp30 : FSpec := ⟨[.kp],fun args objs K => match args,objs with | [.ptr 0 0],[.var 64 [.optp 0,.own 1],w1] => rowK (.int .u8) false w1 fun o1 => bindO (qbt.f o1) fun x : Int => K (.i .i64 x) [.var 64 [.optp 0,.own 1],.row (.int .u8) o1 false] | _,_ => none⟩
theorem snd30 : Sound Tryz.prog 30 (sp30) := by
 refine ⟨⟨Tryz.f30,Tryz.func30,by kernel_rfl,rfl⟩,fun args objs K r h => ?_⟩
 unfold sp30 at h; dsimp only at h; split at h
 ·rename_i w1
  obtain ⟨o1,h9,eo1⟩ := qfd h; clear h; subst eo1
  have h := h9; clear h9
  obtain ⟨x,hx,h⟩ := qcP h
  exact ⟨_,_,h,FnOK.args2 (qdc qfK qi8) (qjB qaj (en30) mixed Tryz.func30 ((r30 seals 0 o1).trans (qeu hx)))⟩
 ·cases h

def sp31 : FSpec := spStr 64
set_option maxRecDepth 60000 in
theorem snd31 : Sound Tryz.prog 31 sp31 := sndStr { Tryz.lays156 with } Tryz.Builder_Extra_156 ⟨Tryz.f31,Tryz.func31,by kernel_rfl,rfl⟩ rfl

end
end Go.Vm
