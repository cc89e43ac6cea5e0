/- Own texts put together: the walks -/
import Derived.Test.YtamplcfbkhlknaaGreatWk0
import Derived.Test.YtamplcfbkhlknaaGreatWk1
import Derived.Test.YtamplcfbkhlknaaGreatVm1
set_option linter.unusedVariables false
set_option maxRecDepth 60000
set_option maxHeartbeats 40000000
namespace Go.Vm
open Go Go.Proofs Go.Pf
noncomputable section

def lv84 : Live := look ⟨[],[],[],[],[]⟩ []
def g84 : FEnv := (fun _=>none)
def sp84 : SP := .mk [.rd,.rd] (dL ti true (dP 0 0 dN)) (oV (cI .i64 cN) oN) fun (a0,_) ((o0,_),_) C => C _ (qdL.f a0 o0) (fun x => .i .i64 o0) fun x => [.var [.i .i64 o0]]
def qpw : Live := look ⟨[],[],[],[],[]⟩ [(3,⟨[0,1,4,5,15,16],[4,5],[4],[],[]⟩)]
def qqL (k : Nat) : FEnv := (addF 84 sp84.fs (addF 127 (sp127 k).fs (addF 100 (sp100 k).fs (addF 61 sp61 (fun _=>none)))))
def qmn (k : Nat) : SP := .mk [.kp,.kp] (dL ti true (dF 84 (cP 0 0 cN) dN)) (oV (cI .i64 cN) oN) fun (a0,_,_) ((o0,_),_) C => C _ (qar.f k a0 o0) (fun x => .agg [.own 1,.own 2]) fun x => [.var [.i .i64 o0],.row ti x.1 false,.row ti x.2 false]
def lv49 : Live := look ⟨[],[],[],[],[]⟩ [(1000000,⟨[],[],[],[(4,0,.own ti),(4,1,.own ti)],[]⟩)]
def g49 (k : Nat) : FEnv := (addF 83 (qmn k).fs (addF 81 (sp81 k).fs (fun _=>none)))
def sp49 (k : Nat) : SP := .mk [.rd,.rd] (dL ti true (dI .i64 dN)) oN fun (a0,a1,_) _ C => C _ (qd1.f k a0 a1) (fun x => .tup [.agg [.own 0,.own 1],.i .i64 x.1]) fun x => [.row ti x.2.1 false,.row ti x.2.2 false]
def lv85 : Live := look ⟨[],[],[],[],[]⟩ []
def g85 : FEnv := (fun _=>none)
def sp85 : SP := .mk [.rd,.rd] (dL ti true (dP 0 0 dN)) (oV (cI .i64 cN) oN) fun (a0,_) ((o0,_),_) C => C _ (qdK.f a0 o0) (fun x => .i .i64 x) fun x => [.var [.i .i64 o0]]
def qpv : Live := look ⟨[],[],[],[],[]⟩ [(3,⟨[0,1,4,5,15,16],[4,5],[4],[],[]⟩)]
def qqK (k : Nat) : FEnv := (addF 85 sp85.fs (addF 127 (sp127 k).fs (addF 100 (sp100 k).fs (addF 61 sp61 (fun _=>none)))))
def qmm (k : Nat) : SP := .mk [.kp,.kp] (dL ti true (dF 85 (cP 0 0 cN) dN)) (oV (cI .i64 cN) oN) fun (a0,_,_) ((o0,_),_) C => C _ (qaq.f k a0 o0) (fun x => .agg [.own 1,.own 2]) fun x => [.var [.i .i64 o0],.row ti x.1 false,.row ti x.2 false]
def lv50 : Live := look ⟨[],[],[],[],[]⟩ [(1000000,⟨[],[],[],[(4,0,.own ti),(4,1,.own ti)],[]⟩)]
def g50 (k : Nat) : FEnv := (addF 83 (qmm k).fs (addF 81 (sp81 k).fs (fun _=>none)))
def sp50 (k : Nat) : SP := .mk [.rd,.rd] (dL ti true (dI .i64 dN)) oN fun (a0,a1,_) _ C => C _ (qd0.f k a0 a1) (fun x => .tup [.agg [.own 0,.own 1],.i .i64 x.1]) fun x => [.row ti x.2.1 false,.row ti x.2.2 false]
def lv159 : Live := look ⟨[],[],[],[],[]⟩ []
def g159 : FEnv := (fun _=>none)
def sp159 : SP := .mk [.rd] (dB dN) oN fun (a0,_) _ C => C _ (qfc.f a0) (fun x => .i .i64 x) fun x => []
def lv128 : Live := look ⟨[],[],[],[],[]⟩ []
def g128 : FEnv := (addF 159 sp159.fs (fun _=>none))
def sp128 : SP := .mk [.rd,.rd,.rd] (dI .i64 (dI .i64 (dI .i64 dN))) oN fun (a0,a1,a2,_) _ C => C _ (qev.f a0 a1 a2) (fun x => .i .i64 x) fun x => []
theorem lp2000 (S : Seals) (k : Nat) : sp84.St tt (g84) lv84 Tryz.f84 k ∧ (qmn k).St tt (qqL k) qpw Tryz.f83 k ∧ (sp49 k).St tt (g49 k) lv49 Tryz.f49 k ∧ sp85.St tt (g85) lv85 Tryz.f85 k ∧ (qmm k).St tt (qqK k) qpv Tryz.f83 k ∧ (sp50 k).St tt (g50 k) lv50 Tryz.f50 k ∧ sp159.St tt (g159) lv159 Tryz.f159 k ∧ sp128.St tt (g128) lv128 Tryz.f128 k := by
 refine cu_ (A := ∀ (n : Nat) {x0 : LI} {x15 x16 y0 : Int} {y3 y4 : LI} {K : CK},S.lp tt (qqL k) qpw 1 n (loopN Tryz.f83 0) ⟨[(0,.dat ti x0 true),(1,.fn 84 [.ptr 0 0]),(4,.ptr 1 0),(5,.ptr 2 0),(15,.i .i64 x15),(16,.i .i64 x16)],[(0,.var [.i .i64 y0]),(1,.var [.nilsl,.nilsl]),(2,.var [.own 3,.own 4]),(3,.row ti y3 false),(4,.row ti y4 false)],5,30⟩ K = bindO (qar.l0 k n x0 x15 x16 y0 y3 y4) (fun x : LI => K (.exit 0) ⟨[(4,.ptr 1 0),(5,.ptr 2 0)],[(0,.var [.i .i64 y0]),(1,.var [.nilsl,.nilsl]),(2,.var [.own 3,.own 4]),(3,.row ti y3 false),(4,.row ti x false)],5,30⟩)) (fun w83_1_0=>?_) (ind_ ?_ ?_)
 refine cu_ (A := ∀ (n : Nat) {x0 : LI} {x15 x16 y0 : Int} {y3 y4 : LI} {K : CK},S.lp tt (qqK k) qpv 1 n (loopN Tryz.f83 0) ⟨[(0,.dat ti x0 true),(1,.fn 85 [.ptr 0 0]),(4,.ptr 1 0),(5,.ptr 2 0),(15,.i .i64 x15),(16,.i .i64 x16)],[(0,.var [.i .i64 y0]),(1,.var [.nilsl,.nilsl]),(2,.var [.own 3,.own 4]),(3,.row ti y3 false),(4,.row ti y4 false)],5,30⟩ K = bindO (qaq.l0 k n x0 x15 x16 y0 y3 y4) (fun x : LI => K (.exit 0) ⟨[(4,.ptr 1 0),(5,.ptr 2 0)],[(0,.var [.i .i64 y0]),(1,.var [.nilsl,.nilsl]),(2,.var [.own 3,.own 4]),(3,.row ti y3 false),(4,.row ti x false)],5,30⟩)) (fun w83_2_0=>?_) (ind_ ?_ ?_)
 and_intros
 all_goals first|(dsimp only [SP.St,sp84,qmn,sp49,sp85,qmm,sp50,sp159,sp128,dN,dL,dI,dB,dP,dF,cN,cI,cP,oN,oV]; intros; (first|unfold qdL.f|unfold qar.f|unfold qd1.f|unfold qdK.f|unfold qaq.f|unfold qd0.f|unfold qfc.f|unfold qev.f); refine S.run_s rfl rfl ?_; (conv=>lhs;arg 5;whnf); conv=>lhs;arg 6;whnf)|(intros; rw [S.lp_zero]; exact qaO)|(intro n ih; intros; (first|rw [qar.l0]|rw [qaq.l0]); refine S.lp_succ ?_; conv=>lhs;arg 5;whnf)
 all_goals repeat' first|(first|refine S.seq_op rfl ?_|refine S.op_n ?_|refine S.block_x ?_|refine qcC ?_|refine qcD ?_|refine br_t (by assumption) ?_|refine br_f (by assumption) ?_|refine qbb (by with_reducible assumption) ?_|refine qcB (fun _=>?_) (fun _=>?_)|refine br_d (fun _=>?_) (fun _=>?_)|refine br_n (fun _=>?_) (fun _=>?_)|refine br_c (fun _=>?_) (fun _=>?_)|refine qcA fun _=>?_|refine qbb (by assumption) ?_|refine qcE fun _=>?_)<;>(conv=>lhs;whnf)|refine S.seq_nil ?_|refine S.reg_n ?_|refine S.region rfl ?_|refine S.two ?_|refine S.blok ?_|refine S.cond rfl ?_|refine S.after_n ?_|refine S.block_n ?_|refine S.block_r ?_|refine S.after_x ?_|refine S.after_r ?_|refine S.skip ?_|refine S.exit ?_|refine S.ret ?_|refine qcy (fun _=>?_) (fun _=>?_)|exact ih|refine (w83_1_0 _).trans ?_|refine (w83_2_0 _).trans ?_|refine S.region_d (id := 5) (ds := [0,1,0,0,0,0,48,120,255,511]) (mds := [[],[],[],[],[],[],[],[0],[],[4]]) (hm := [(7,[0]),(9,[4])]) (by kernel_rfl) (by kernel_rfl) rfl rfl ?_|(first|refine S.loop ?_|refine S.back_n ?_|refine S.back_x ?_|refine S.back_r ?_|refine S.fin_r ?_|refine S.fin_n ?_|refine S.dk_n ?_|refine S.draw_nil ?_)<;>(conv=>lhs;whnf)|exact qcz rfl|exact qaO|(refine S.draw_op ?_; conv => lhs; whnf; arg 1; whnf)|refine qbc ?_|refine qaR ?_|refine qbC ?_|refine qaF ?_
theorem snd84 : Sound Tryz.prog 84 sp84.fs := sn_ qaf mixed Tryz.func84 (by kernel_rfl) rfl (qab _) (lp2000 seals 0).1
theorem qp1 (k : Nat) : Sound Tryz.prog 83 (qmn k).fs := sn_ qaf mixed Tryz.func83 (by kernel_rfl) rfl (qaa snd84 (qaa (snd127 k) (qaa (snd100 k) (qaa snd61 (qab _))))) (lp2000 seals k).2.1
theorem snd49 (k : Nat) : Sound Tryz.prog 49 (sp49 k).fs := sn_ qaf mixed Tryz.func49 (by kernel_rfl) rfl (qaa (qp1 k) (qaa (snd81 k) (qab _))) (lp2000 seals k).2.2.1
theorem snd85 : Sound Tryz.prog 85 sp85.fs := sn_ qaf mixed Tryz.func85 (by kernel_rfl) rfl (qab _) (lp2000 seals 0).2.2.2.1
theorem qp0 (k : Nat) : Sound Tryz.prog 83 (qmm k).fs := sn_ qaf mixed Tryz.func83 (by kernel_rfl) rfl (qaa snd85 (qaa (snd127 k) (qaa (snd100 k) (qaa snd61 (qab _))))) (lp2000 seals k).2.2.2.2.1
theorem snd50 (k : Nat) : Sound Tryz.prog 50 (sp50 k).fs := sn_ qaf mixed Tryz.func50 (by kernel_rfl) rfl (qaa (qp0 k) (qaa (snd81 k) (qab _))) (lp2000 seals k).2.2.2.2.2.1
theorem snd159 : Sound Tryz.prog 159 sp159.fs := sn_ qaf mixed Tryz.func159 (by kernel_rfl) rfl (qab _) (lp2000 seals 0).2.2.2.2.2.2.1
theorem snd128 : Sound Tryz.prog 128 sp128.fs := sn_ qaf mixed Tryz.func128 (by kernel_rfl) rfl (qaa snd159 (qab _)) (lp2000 seals 0).2.2.2.2.2.2.2
def lv62 : Live := look ⟨[],[],[],[],[]⟩ [(1000000,⟨[],[],[],[(2,0,.own ti)],[]⟩)]
noncomputable def g62 : FEnv := (fun _=>none)
theorem en62 : EnvOK Tryz.prog (g62) := (qab _)
theorem r62 (S : Seals) (k : Nat) (a0 : LI) : runF tt (g62) lv62 Tryz.f62 k [.dat ti a0 true] [] = bindO (qb6.f a0) (fun x : LI => some (.own 0,[.row ti x false])) := by
 unfold qb6.f; cases a0
 ·rw [if_pos (by decide)]; refine S.run_s rfl rfl ?_; conv => lhs; arg 5; whnf
  conv => lhs; arg 6; whnf
  repeat' first|(first|refine qbb (by decide) ?_|refine S.seq_op rfl ?_|refine S.op_n ?_|refine S.block_x ?_|refine qcC ?_|refine qcD ?_|refine br_t (by assumption) ?_|refine br_f (by assumption) ?_|refine qbb (by with_reducible assumption) ?_|refine qcB (fun _=>?_) (fun _=>?_)|refine br_d (fun _=>?_) (fun _=>?_)|refine br_n (fun _=>?_) (fun _=>?_)|refine br_c (fun _=>?_) (fun _=>?_)|refine qcA fun _=>?_|refine qbb (by assumption) ?_|refine qcE fun _=>?_)<;>(conv=>lhs;whnf)|refine S.seq_nil ?_|refine S.reg_n ?_|refine S.region rfl ?_|refine S.two ?_|refine S.blok ?_|refine S.cond rfl ?_|refine S.after_n ?_|refine S.block_n ?_|refine S.block_r ?_|refine S.after_x ?_|refine S.after_r ?_|refine S.skip ?_|refine S.exit ?_|refine S.ret ?_|refine qcy (fun _=>?_) (fun _=>?_)|refine qpG ?_ ?_|(first|refine S.loop ?_|refine S.back_n ?_|refine S.back_x ?_|refine S.back_r ?_|refine S.fin_r ?_|refine S.fin_n ?_|refine S.dk_n ?_|refine S.draw_nil ?_)<;>(conv=>lhs;whnf)|exact qcz rfl|exact qaO|(refine S.draw_op ?_; conv => lhs; whnf; arg 1; whnf)|refine qbc ?_|refine qaR ?_|refine qbC ?_|refine qaF ?_
 ·refine S.run_s rfl rfl ?_; conv => lhs; arg 5; whnf
  conv => lhs; arg 6; whnf
  repeat' first|(first|refine S.seq_op rfl ?_|refine S.op_n ?_|refine S.block_x ?_|refine qcC ?_|refine qcD ?_|refine br_t (by assumption) ?_|refine br_f (by assumption) ?_|refine qbb (by with_reducible assumption) ?_|refine qcB (fun _=>?_) (fun _=>?_)|refine br_d (fun _=>?_) (fun _=>?_)|refine br_n (fun _=>?_) (fun _=>?_)|refine br_c (fun _=>?_) (fun _=>?_)|refine qcA fun _=>?_|refine qbb (by assumption) ?_|refine qcE fun _=>?_)<;>(conv=>lhs;whnf)|refine S.seq_nil ?_|refine S.reg_n ?_|refine S.region rfl ?_|refine S.two ?_|refine S.blok ?_|refine S.cond rfl ?_|refine S.after_n ?_|refine S.block_n ?_|refine S.block_r ?_|refine S.after_x ?_|refine S.after_r ?_|refine S.skip ?_|refine S.exit ?_|refine S.ret ?_|refine qcy (fun _=>?_) (fun _=>?_)|(first|refine S.loop ?_|refine S.back_n ?_|refine S.back_x ?_|refine S.back_r ?_|refine S.fin_r ?_|refine S.fin_n ?_|refine S.dk_n ?_|refine S.draw_nil ?_)<;>(conv=>lhs;whnf)|exact qcz rfl|exact qaO|(refine S.draw_op ?_; conv => lhs; whnf; arg 1; whnf)|refine qbc ?_|refine qaR ?_|refine qbC ?_|refine qaF ?_
def sp62 : FSpec := ⟨[.rd],fun args objs K => match args,objs with | [v0],[] => listB ti true v0 fun a0 => bindO (qb6.f a0) fun x : LI => K (.own 0) [.row ti x false] | _,_ => none⟩
theorem snd62 : Sound Tryz.prog 62 (sp62) := by
 refine ⟨⟨Tryz.f62,Tryz.func62,by kernel_rfl,rfl⟩,fun args objs K r h => ?_⟩
 unfold sp62 at h; dsimp only at h; split at h
 ·rename_i v0
  obtain ⟨a0,h9,ca0⟩ := qg4 h; clear h
  have h := h9; clear h9
  obtain ⟨x,hx,h⟩ := qhi h
  exact ⟨_,_,h,FnOK.args2 (qe7 ca0 qnS) (qmQ qaf (en62) mixed Tryz.func62 ((r62 seals 0 a0).trans (qgM hx)))⟩
 ·cases h

def lv34 : Live := look ⟨[],[],[],[],[]⟩ []
def g34 : FEnv := (addF 62 sp62 (addF 61 sp61 (fun _=>none)))
def sp34 : SP := .mk [.rd] (dG (dL ti true (dL ti true dN)) dN) oN fun ((a0_0,a0_1,_),_) _ C => C _ (qcT.f a0_0 a0_1) (fun x => .agg [.own 0,.own 1]) fun x => [.row ti x.1 false,.row ti x.2 false]
def lv130 : Live := look ⟨[],[],[],[],[]⟩ []
def g130 (k : Nat) : FEnv := (addF 60 (sp60 k).fs (addF 59 (sp59 k).fs (fun _=>none)))
def sp130 (k : Nat) : SP := .mk [.rd,.rd] (dG (dL ti true (dL ti true dN)) (dP 0 0 dN)) (oV (cD (.pair (.sl ti) (.sl ti)) true cN) oN) fun ((a0_0,a0_1,_),_) ((o0,_),_) C => C _ (qd4.f k a0_0 a0_1 o0) (fun x => .b x) fun x => [.var [.dat (.pair (.sl ti) (.sl ti)) o0 true]]
def qob : Live := look ⟨[],[],[],[],[]⟩ [(2,⟨[0,1,7,8],[],[4],[],[]⟩)]
def qpy (k : Nat) : FEnv := (addF 130 (sp130 k).fs (fun _=>none))
def qjD (k : Nat) : SP := .mk [.rd,.rd] (dL (.pair (.sl ti) (.sl ti)) true (dF 130 (cP 0 0 cN) dN)) (oV (cD (.pair (.sl ti) (.sl ti)) true cN) oN) fun (a0,_,_) ((o0,_),_) C => C _ (qai.f k a0 o0) (fun x => .i .i64 x) fun x => [.var [.dat (.pair (.sl ti) (.sl ti)) o0 true]]
def qqd : Live := look ⟨[],[],[],[],[]⟩ []
def qqM (k : Nat) : FEnv := (addF 160 (qjD k).fs (fun _=>none))
def qjF (k : Nat) : SP := .mk [.rd,.rd] (dL (.pair (.sl ti) (.sl ti)) true (dF 130 (cP 0 0 cN) dN)) (oV (cD (.pair (.sl ti) (.sl ti)) true cN) oN) fun (a0,_,_) ((o0,_),_) C => C _ (qaU.f k a0 o0) (fun x => .b x) fun x => [.var [.dat (.pair (.sl ti) (.sl ti)) o0 true]]
def lv87 : Live := look ⟨[],[],[],[],[]⟩ []
def g87 (k : Nat) : FEnv := (addF 129 (qjF k).fs (fun _=>none))
def sp87 (k : Nat) : SP := .mk [.rd] (dL (.pair (.sl ti) (.sl ti)) true dN) oN fun (a0,_) _ C => C _ (qeu.f k a0) (fun x => .b x) fun x => []
def lv86 : Live := look ⟨[],[],[],[],[]⟩ [(5,⟨[0,4,6,8,20,21,22],[6,8],[6,7],[],[]⟩),(1000000,⟨[],[],[],[(6,0,.own ti),(6,1,.own ti)],[]⟩)]
def g86 (k : Nat) : FEnv := (addF 128 sp128.fs (addF 34 sp34.fs (addF 87 (sp87 k).fs (fun _=>none))))
def sp86 (k : Nat) : SP := .mk [.st,.st,.st] (dI .i64 (dG (dL ti false (dL ti false dN)) (dG (dL ti false (dL ti false dN)) dN))) oN fun (a0,(a1_0,a1_1,_),(a2_0,a2_1,_),_) _ C => C _ (qbV.f k a0 a1_0 a1_1 a2_0 a2_1) (fun x => .tup [.agg [.own 0,.own 1],.i .i64 x.1]) fun x => [.row ti x.2.1 false,.row ti x.2.2 false]
def lv51 : Live := look ⟨[],[],[],[],[]⟩ [(1000000,⟨[],[],[],[(4,0,.own ti),(4,1,.own ti)],[]⟩)]
def g51 (k : Nat) : FEnv := (addF 86 (sp86 k).fs (fun _=>none))
def sp51 (k : Nat) : SP := .mk [.st,.st] (dI .i64 (dG (dL ti false (dL ti false dN)) dN)) oN fun (a0,(a1_0,a1_1,_),_) _ C => C _ (qew.f k a0 a1_0 a1_1) (fun x => .tup [.agg [.own 0,.own 1],.i .i64 x.1]) fun x => [.row ti x.2.1 false,.row ti x.2.2 false]
def lv52 : Live := look ⟨[],[],[],[],[]⟩ [(5,⟨[4,6,8,21,22,23],[6,8],[6,7],[],[]⟩),(1000000,⟨[],[],[],[(6,0,.own ti),(6,1,.own ti)],[]⟩)]
def g52 (k : Nat) : FEnv := (addF 34 sp34.fs (addF 87 (sp87 k).fs (fun _=>none)))
def sp52 (k : Nat) : SP := .mk [.st,.st,.st] (dG (dL ti false (dL ti false dN)) (dG (dL ti false (dL ti false dN)) (dG (dL ti false (dL ti false dN)) dN))) oN fun ((a0_0,a0_1,_),(a1_0,a1_1,_),(a2_0,a2_1,_),_) _ C => C _ (qca.f k a0_0 a0_1 a1_0 a1_1 a2_0 a2_1) (fun x => .tup [.agg [.own 0,.own 1],.i .i64 x.1]) fun x => [.row ti x.2.1 false,.row ti x.2.2 false]
def lv53 : Live := look ⟨[],[],[],[],[]⟩ [(1000000,⟨[],[],[],[(6,0,.own ti),(6,1,.own ti)],[]⟩)]
def g53 (k : Nat) : FEnv := (addF 86 (sp86 k).fs (fun _=>none))
def sp53 (k : Nat) : SP := .mk [.st,.st,.st] (dI .i64 (dG (dL ti false (dL ti false dN)) (dG (dL ti false (dL ti false dN)) dN))) oN fun (a0,(a1_0,a1_1,_),(a2_0,a2_1,_),_) _ C => C _ (qfd.f k a0 a1_0 a1_1 a2_0 a2_1) (fun x => .tup [.agg [.own 0,.own 1],.i .i64 x.1]) fun x => [.row ti x.2.1 false,.row ti x.2.2 false]
def lv144 : Live := look ⟨[],[],[],[],[]⟩ [(5,⟨[0,5,18,19,20],[5],[4],[],[]⟩)]
def g144 (k : Nat) : FEnv := (addF 81 (sp81 k).fs (fun _=>none))
def sp144 (k : Nat) : SP := .mk [.rd,.rd] (dL ti true (dL ti true dN)) oN fun (a0,a1,_) _ C => C _ (qbs.f k a0 a1) (fun x => .i .i64 x) fun x => []
theorem lp2001 (S : Seals) (k : Nat) : sp34.St tt (g34) lv34 Tryz.f34 k ∧ (sp130 k).St tt (g130 k) lv130 Tryz.f130 k ∧ (qjD k).St tt (qpy k) qob Tryz.f160 k ∧ (qjF k).St tt (qqM k) qqd Tryz.f129 k ∧ (sp87 k).St tt (g87 k) lv87 Tryz.f87 k ∧ (sp86 k).St tt (g86 k) lv86 Tryz.f86 k ∧ (sp51 k).St tt (g51 k) lv51 Tryz.f51 k ∧ (sp52 k).St tt (g52 k) lv52 Tryz.f52 k ∧ (sp53 k).St tt (g53 k) lv53 Tryz.f53 k ∧ (sp144 k).St tt (g144 k) lv144 Tryz.f144 k := by
 refine cu_ (A := ∀ (n : Nat) {x0 : List LT} {x7 x8 : Int} {y0 : List LT} {K : CK},S.lp tt (qpy k) qob 1 n (loopN Tryz.f160 0) ⟨[(0,.dat (.pair (.sl ti) (.sl ti)) x0 true),(1,.fn 130 [.ptr 0 0]),(7,.i .i64 x7),(8,.i .i64 x8)],[(0,.var [.dat (.pair (.sl ti) (.sl ti)) y0 true])],1,19⟩ K = bindO (qai.l0 k n x0 x7 x8 y0) (Sum.elim (fun x : Unit => K (.exit 0) ⟨[],[(0,.var [.dat (.pair (.sl ti) (.sl ti)) y0 true])],1,19⟩) (fun x : Int => K .ret ⟨[(4,.i .i64 x)],[(0,.var [.dat (.pair (.sl ti) (.sl ti)) y0 true])],1,19⟩))) (fun w160_1_0=>?_) (ind_ ?_ ?_)
 refine cu_ (A := ∀ (n : Nat) {x0 : Int} {x20 : LI} {x21 x22 : Int} {y0_0 y0_1 : LI} {y3 y4 : LI} {K : CK},S.lp tt (g86 k) lv86 0 n (loopN Tryz.f86 0) ⟨[(0,.i .i64 x0),(4,.ptr 0 0),(6,.ptr 1 0),(8,.ptr 2 0),(20,.dat ti x20 false),(21,.i .i64 x21),(22,.i .i64 x22)],[(0,.var [.dat ti y0_0 false,.dat ti y0_1 false]),(1,.var [.nilsl,.nilsl]),(2,.var [.own 3,.own 4]),(3,.row ti y3 false),(4,.row ti y4 false)],5,41⟩ K = bindO (qbV.l0 n x0 x20 x21 x22 y0_0 y0_1 y3 y4) (fun x : LI => K (.exit 0) ⟨[(6,.ptr 0 0),(8,.ptr 1 0)],[(0,.var [.nilsl,.nilsl]),(1,.var [.own 2,.own 3]),(2,.row ti y3 false),(3,.row ti x false)],4,41⟩)) (fun w86_0=>?_) (ind_ ?_ ?_)
 refine cu_ (A := ∀ (n : Nat) {x21 : LI} {x22 x23 : Int} {y0_0 y0_1 : LI} {y3 y4 : LI} {K : CK},S.lp tt (g52 k) lv52 0 n (loopN Tryz.f52 0) ⟨[(4,.ptr 0 0),(6,.ptr 1 0),(8,.ptr 2 0),(21,.dat ti x21 false),(22,.i .i64 x22),(23,.i .i64 x23)],[(0,.var [.dat ti y0_0 false,.dat ti y0_1 false]),(1,.var [.nilsl,.nilsl]),(2,.var [.own 3,.own 4]),(3,.row ti y3 false),(4,.row ti y4 false)],5,41⟩ K = bindO (qca.l0 n x21 x22 x23 y0_0 y0_1 y3 y4) (fun x : LI => K (.exit 0) ⟨[(6,.ptr 0 0),(8,.ptr 1 0)],[(0,.var [.nilsl,.nilsl]),(1,.var [.own 2,.own 3]),(2,.row ti y3 false),(3,.row ti x false)],4,41⟩)) (fun w52_0=>?_) (ind_ ?_ ?_)
 refine cu_ (A := ∀ (n : Nat) {x0 : LI} {x5 : Int} {x18 : LI} {x19 x20 : Int} {K : CK},S.lp tt (g144 k) lv144 0 n (loopN Tryz.f144 0) ⟨[(0,.dat ti x0 true),(5,.i .i64 x5),(18,.dat ti x18 true),(19,.i .i64 x19),(20,.i .i64 x20)],[],0,45⟩ K = bindO (qbs.l0 n x0 x5 x18 x19 x20) (Sum.elim (fun x : Int => K (.exit 0) ⟨[(5,.i .i64 x)],[],0,45⟩) (fun x : Int => K .ret ⟨[(4,.i .i64 x)],[],0,45⟩))) (fun w144_0=>?_) (ind_ ?_ ?_)
 and_intros
 all_goals first|(dsimp only [SP.St,sp34,sp130,qjD,qjF,sp87,sp86,sp51,sp52,sp53,sp144,dN,dL,dI,dP,dG,dF,cN,cD,cP,oN,oV]; intros; (first|unfold qcT.f|unfold qd4.f|unfold qai.f|unfold qaU.f|unfold qeu.f|unfold qbV.f|unfold qew.f|unfold qca.f|unfold qfd.f|unfold qbs.f); refine S.run_s rfl rfl ?_; (conv=>lhs;arg 5;whnf); conv=>lhs;arg 6;whnf)|(intros; rw [S.lp_zero]; exact qaO)|(intro n ih; intros; (first|rw [qai.l0]|rw [qbV.l0]|rw [qca.l0]|rw [qbs.l0]); refine S.lp_succ ?_; conv=>lhs;arg 5;whnf)
 all_goals repeat' first|(first|refine S.seq_op rfl ?_|refine S.op_n ?_|refine S.block_x ?_|refine qcC ?_|refine qcD ?_|refine br_t (by assumption) ?_|refine br_f (by assumption) ?_|refine qbb (by with_reducible assumption) ?_|refine qcB (fun _=>?_) (fun _=>?_)|refine br_d (fun _=>?_) (fun _=>?_)|refine br_n (fun _=>?_) (fun _=>?_)|refine br_c (fun _=>?_) (fun _=>?_)|refine qcA fun _=>?_|refine qbb (by assumption) ?_|refine qcE fun _=>?_)<;>(conv=>lhs;whnf)|refine S.seq_nil ?_|refine S.reg_n ?_|refine S.region rfl ?_|refine S.two ?_|refine S.blok ?_|refine S.cond rfl ?_|refine S.after_n ?_|refine S.block_n ?_|refine S.block_r ?_|refine S.after_x ?_|refine S.after_r ?_|refine S.skip ?_|refine S.exit ?_|refine S.ret ?_|refine qcy (fun _=>?_) (fun _=>?_)|refine S.region_d (id := 1) (ds := [0,1,3,0,8,31,63,127]) (mds := [[],[],[],[],[],[],[],[1]]) (hm := [(7,[1])]) (by kernel_rfl) (by kernel_rfl) rfl rfl ?_|exact ih|refine (w160_1_0 _).trans ?_|refine (w86_0 _).trans ?_|refine (w52_0 _).trans ?_|refine (w144_0 _).trans ?_|refine S.region_d (id := 1) (ds := [0,1,3,7,15,31,15,79,207,463,1023,2047,4095,8191]) (mds := [[],[],[],[],[],[],[],[],[],[],[],[],[],[]]) (hm := []) (by kernel_rfl) (by kernel_rfl) rfl rfl ?_|refine S.region_d (id := 7) (ds := [0,1,0,0,0,16,0,112,240,0,1016,2047,4095]) (mds := [[],[],[],[],[],[],[],[],[],[],[],[],[4]]) (hm := [(12,[4])]) (by kernel_rfl) (by kernel_rfl) rfl rfl ?_|refine S.region_d (id := 8) (ds := [0,1,0,0,8,0,56,120,255,511]) (mds := [[],[],[],[],[],[],[],[],[],[4]]) (hm := [(9,[4])]) (by kernel_rfl) (by kernel_rfl) rfl rfl ?_|(first|refine S.loop ?_|refine S.back_n ?_|refine S.back_x ?_|refine S.back_r ?_|refine S.fin_r ?_|refine S.fin_n ?_|refine S.dk_n ?_|refine S.draw_nil ?_)<;>(conv=>lhs;whnf)|exact qcz rfl|exact qaO|(refine S.draw_op ?_; conv => lhs; whnf; arg 1; whnf)|refine qbc ?_|refine qaR ?_|refine qbC ?_|refine qaF ?_
theorem snd34 : Sound Tryz.prog 34 sp34.fs := sn_ qaf mixed Tryz.func34 (by kernel_rfl) rfl (qaa snd62 (qaa snd61 (qab _))) (lp2001 seals 0).1
theorem snd130 (k : Nat) : Sound Tryz.prog 130 (sp130 k).fs := sn_ qaf mixed Tryz.func130 (by kernel_rfl) rfl (qaa (snd60 k) (qaa (snd59 k) (qab _))) (lp2001 seals k).2.1
theorem qoF (k : Nat) : Sound Tryz.prog 160 (qjD k).fs := sn_ qaf mixed Tryz.func160 (by kernel_rfl) rfl (qaa (snd130 k) (qab _)) (lp2001 seals k).2.2.1
theorem qoH (k : Nat) : Sound Tryz.prog 129 (qjF k).fs := sn_ qaf mixed Tryz.func129 (by kernel_rfl) rfl (qaa (qoF k) (qab _)) (lp2001 seals k).2.2.2.1
theorem snd87 (k : Nat) : Sound Tryz.prog 87 (sp87 k).fs := sn_ qaf mixed Tryz.func87 (by kernel_rfl) rfl (qaa (qoH k) (qab _)) (lp2001 seals k).2.2.2.2.1
theorem snd86 (k : Nat) : Sound Tryz.prog 86 (sp86 k).fs := sn_ qaf mixed Tryz.func86 (by kernel_rfl) rfl (qaa snd128 (qaa snd34 (qaa (snd87 k) (qab _)))) (lp2001 seals k).2.2.2.2.2.1
theorem snd51 (k : Nat) : Sound Tryz.prog 51 (sp51 k).fs := sn_ qaf mixed Tryz.func51 (by kernel_rfl) rfl (qaa (snd86 k) (qab _)) (lp2001 seals k).2.2.2.2.2.2.1
theorem snd52 (k : Nat) : Sound Tryz.prog 52 (sp52 k).fs := sn_ qaf mixed Tryz.func52 (by kernel_rfl) rfl (qaa snd34 (qaa (snd87 k) (qab _))) (lp2001 seals k).2.2.2.2.2.2.2.1
theorem snd53 (k : Nat) : Sound Tryz.prog 53 (sp53 k).fs := sn_ qaf mixed Tryz.func53 (by kernel_rfl) rfl (qaa (snd86 k) (qab _)) (lp2001 seals k).2.2.2.2.2.2.2.2.1
theorem snd144 (k : Nat) : Sound Tryz.prog 144 (sp144 k).fs := sn_ qaf mixed Tryz.func144 (by kernel_rfl) rfl (qaa (snd81 k) (qab _)) (lp2001 seals k).2.2.2.2.2.2.2.2.2
def lv162 : Live := look ⟨[],[],[],[],[]⟩ []
def g162 (k : Nat) : FEnv := (addF 144 (sp144 k).fs (addF 59 (sp59 k).fs (fun _=>none)))
def sp162 (k : Nat) : SP := .mk [.rd,.rd] (dG (dL ti true (dL ti true dN)) (dL ti true dN)) oN fun ((a0_0,a0_1,_),a1,_) _ C => C _ (qdA.f k a0_0 a0_1 a1) (fun x => .i .i64 x) fun x => []
def lv138 : Live := look ⟨[],[],[],[],[]⟩ []
def g138 (k : Nat) : FEnv := (addF 162 (sp162 k).fs (fun _=>none))
def sp138 (k : Nat) : SP := .mk [.rd,.rd] (dG (dL ti true (dL ti true dN)) (dL ti true dN)) oN fun ((a0_0,a0_1,_),a1,_) _ C => C _ (qdq.f k a0_0 a0_1 a1) (fun x => .tup [.i .i64 x.1,.b x.2]) fun x => []
theorem lp2002 (S : Seals) (k : Nat) : (sp162 k).St tt (g162 k) lv162 Tryz.f162 k ∧ (sp138 k).St tt (g138 k) lv138 Tryz.f138 k := by
 and_intros
 all_goals (dsimp only [SP.St,sp162,sp138,dN,dL,dG,oN]; intros; (first|unfold qdA.f|unfold qdq.f); refine S.run_s rfl rfl ?_; (conv=>lhs;arg 5;whnf); conv=>lhs;arg 6;whnf)
 all_goals repeat' first|(first|refine S.seq_op rfl ?_|refine S.op_n ?_|refine S.block_x ?_|refine qcC ?_|refine qcD ?_|refine br_t (by assumption) ?_|refine br_f (by assumption) ?_|refine qbb (by with_reducible assumption) ?_|refine qcB (fun _=>?_) (fun _=>?_)|refine br_d (fun _=>?_) (fun _=>?_)|refine br_n (fun _=>?_) (fun _=>?_)|refine br_c (fun _=>?_) (fun _=>?_)|refine qcA fun _=>?_|refine qbb (by assumption) ?_|refine qcE fun _=>?_)<;>(conv=>lhs;whnf)|refine S.seq_nil ?_|refine S.reg_n ?_|refine S.region rfl ?_|refine S.two ?_|refine S.blok ?_|refine S.cond rfl ?_|refine S.after_n ?_|refine S.block_n ?_|refine S.block_r ?_|refine S.after_x ?_|refine S.after_r ?_|refine S.skip ?_|refine S.exit ?_|refine S.ret ?_|refine qcy (fun _=>?_) (fun _=>?_)|(first|refine S.loop ?_|refine S.back_n ?_|refine S.back_x ?_|refine S.back_r ?_|refine S.fin_r ?_|refine S.fin_n ?_|refine S.dk_n ?_|refine S.draw_nil ?_)<;>(conv=>lhs;whnf)|exact qcz rfl|exact qaO|(refine S.draw_op ?_; conv => lhs; whnf; arg 1; whnf)|refine qbc ?_|refine qaR ?_|refine qbC ?_|refine qaF ?_
theorem snd162 (k : Nat) : Sound Tryz.prog 162 (sp162 k).fs := sn_ qaf mixed Tryz.func162 (by kernel_rfl) rfl (qaa (snd144 k) (qaa (snd59 k) (qab _))) (lp2002 seals k).1
theorem snd138 (k : Nat) : Sound Tryz.prog 138 (sp138 k).fs := sn_ qaf mixed Tryz.func138 (by kernel_rfl) rfl (qaa (snd162 k) (qab _)) (lp2002 seals k).2
end
end Go.Vm
