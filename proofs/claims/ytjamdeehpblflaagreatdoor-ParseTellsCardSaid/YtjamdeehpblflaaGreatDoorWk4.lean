/- Own walks -/
import Derived.Test.YtjamdeehpblflaaGreatDoorWk0
import Derived.Test.YtjamdeehpblflaaGreatDoorWk1
import Derived.Test.YtjamdeehpblflaaGreatDoorWk3
import Derived.Test.YtjamdeehpblflaaGreatDoorVm1
set_option linter.unusedVariables false
set_option maxRecDepth 60000
set_option maxHeartbeats 40000000
namespace Go.Vm
open Go Go.Proofs Go.Pf
noncomputable section

def lv69 : Live := look ⟨[],[],[],[],[]⟩ [(3,⟨[2,3,4,7,23,24,25],[2,3,4,7],[6],[],[]⟩)]
def g69 (k : Nat) : FEnv := (addF 67 sp67.fs (addF 106 (sp106 k).fs (addF 75 sp75.fs (addF 105 (sp105 k).fs (addF 68 (sp68 k).fs (addF 104 sp104.fs (fun _=>none)))))))
def sp69 (k : Nat) : SP := .mk [.st,.st,.kp] (dG (dL ti false (dS (dL (.pair ti (.pair (.sl ti) (.pair (.sl ti) (.pair (.sl ti) (.pair ti (.pair ti .str)))))) false (dL ti false dN)))) (dG (dI .i64 (dL ti false (dL ti false (dL ti false (dI .i64 (dI .i64 (dS dN))))))) (dI .i64 dN))) oN fun ((a0_0,a0_1,a0_2,a0_3,_),(a1_0,a1_1,a1_2,a1_3,a1_4,a1_5,a1_6,_),a2,_) _ C => C _ (qcc.f k a0_0 a0_1 a0_2 a0_3 a1_0 a1_1 a1_2 a1_3 a1_4 a1_5 a1_6 a2) (fun x => .own 0) fun x => [.row .str x false]
theorem lp4000 (S : Seals) (k : Nat) : (sp69 k).St tt (g69 k) lv69 Tryz.f69 k := by
 refine cu_ (A := ∀ (n : Nat) {x2 x24 x25 : Int} {y0_0 : LI} {y0_1 : ByteArray} {y0_2 : List LN} {y0_3 : LI} {y1_0 : Int} {y1_1 y1_2 y1_3 : LI} {y1_4 y1_5 : Int} {y1_6 : ByteArray} {y2 : List ByteArray} {y3 : List LI} {K : CK},S.lp tt (g69 k) lv69 0 n (loopN Tryz.f69 0) ⟨[(2,.i .i64 x2),(3,.ptr 0 0),(4,.ptr 1 0),(7,.own 2),(23,.own 3),(24,.i .i64 x24),(25,.i .i64 x25)],[(0,.var 28 [.dat ti y0_0 false,.s y0_1,.dat (.pair ti (.pair (.sl ti) (.pair (.sl ti) (.pair (.sl ti) (.pair ti (.pair ti .str)))))) y0_2 false,.dat ti y0_3 false]),(1,.var 53 [.i .i64 y1_0,.dat ti y1_1 false,.dat ti y1_2 false,.dat ti y1_3 false,.i .i64 y1_4,.i .i64 y1_5,.s y1_6]),(2,.row .str y2 false),(3,.row (.sl ti) y3 false)],4,62⟩ K = bindO (qcc.l0 k n x2 x24 x25 y0_0 y0_1 y0_2 y0_3 y1_0 y1_1 y1_2 y1_3 y1_4 y1_5 y1_6 y2 y3) (fun x : (List ByteArray) => K (.exit 0) ⟨[(2,.i .i64 x2),(3,.ptr 0 0),(4,.ptr 1 0),(7,.own 2)],[(0,.var 28 [.dat ti y0_0 false,.s y0_1,.dat (.pair ti (.pair (.sl ti) (.pair (.sl ti) (.pair (.sl ti) (.pair ti (.pair ti .str)))))) y0_2 false,.dat ti y0_3 false]),(1,.var 53 [.i .i64 y1_0,.dat ti y1_1 false,.dat ti y1_2 false,.dat ti y1_3 false,.i .i64 y1_4,.i .i64 y1_5,.s y1_6]),(2,.row .str x false)],3,62⟩)) (fun w69_0=>?_) (ind_ ?_ ?_)
 all_goals first|(dsimp only [SP.St,sp69,dN,dL,dI,dS,dG,oN]; intros; unfold qcc.f; refine S.run_s rfl rfl ?_; (conv=>lhs;arg 5;whnf); conv=>lhs;arg 6;whnf)|(intros; rw [S.lp_zero]; exact qbu)|(intro n ih; intros; rw [qcc.l0]; refine S.lp_succ ?_; conv=>lhs;arg 5;whnf)
 all_goals as_aux_lemma=>repeat' first|(first|refine S.seq_op rfl ?_|refine S.op_n ?_|refine S.block_x ?_|refine qdC ?_|refine qdD ?_|refine br_t (by assumption) ?_|refine br_f (by assumption) ?_|refine qb1 (by with_reducible assumption) ?_|refine qdE fun _=>?_|refine qdB (fun _=>?_) (fun _=>?_)|refine br_d (fun _=>?_) (fun _=>?_)|refine br_n (fun _=>?_) (fun _=>?_)|refine br_c (fun _=>?_) (fun _=>?_)|refine qdu fun _=>?_|refine qb1 (by assumption) ?_)<;>(conv=>lhs;whnf)|refine S.seq_nil ?_|refine S.reg_n ?_|refine S.region rfl ?_|refine S.two ?_|refine S.blok ?_|refine S.cond rfl ?_|refine S.after_n ?_|refine S.block_n ?_|refine S.block_r ?_|refine S.after_x ?_|refine S.after_r ?_|refine S.skip ?_|refine S.exit ?_|refine S.ret ?_|refine qdt (fun _=>?_) (fun _=>?_)|exact ih|refine (w69_0 _).trans ?_|refine S.region_d (id := 8) (ds := [0,0,2,6,0,16,62,0,128,0,1022,2046,4094,8191,16383]) (mds := [[],[],[],[],[],[],[],[],[],[],[3,3],[],[],[2],[]]) (hm := [(10,[3,3]),(13,[2])]) (by kernel_rfl) (by kernel_rfl) rfl rfl ?_|(first|refine S.loop ?_|refine S.back_n ?_|refine S.back_x ?_|refine S.back_r ?_|refine S.fin_r ?_|refine S.fin_n ?_|refine S.dk_n ?_|refine S.draw_nil ?_)<;>(conv=>lhs;whnf)|(refine S.draw_op ?_; conv => lhs; whnf; arg 1; whnf)|refine qb4 ?_|refine qbt ?_|refine qcD ?_|refine qa9 ?_|exact qdM rfl|exact qbu
theorem snd69 (k : Nat) : Sound Tryz.prog 69 (sp69 k).fs := sn_ qag mixed Tryz.func69 (by kernel_rfl) rfl (qaa snd67 (qaa (snd106 k) (qaa snd75 (qaa (snd105 k) (qaa (snd68 k) (qaa snd104 (qab _))))))) (lp4000 seals k)
def qnQ : FSpec := spCC 119
set_option maxRecDepth 60000 in
theorem qoZ : Sound Tryz.prog 107 qnQ := sndCC { Tryz.lays156 with } Tryz.Builder_X72_156 ⟨Tryz.f107,Tryz.func107,by kernel_rfl,rfl⟩

def qrl : Live := look ⟨[],[],[],[],[]⟩ []
noncomputable def qrm : FEnv := (addF 107 qnQ (fun _=>none))
theorem qrt : EnvOK Tryz.prog (qrm) := (qaa qoZ (qab _))
set_option maxRecDepth 60000 in
set_option maxHeartbeats 40000000 in
theorem r70_2 (S : Seals) (k : Nat) (a1 : ByteArray) (o1 : LI) : runF tt (qrm) qrl Tryz.f70 k [.ptr 0 0,.s a1] [.var 119 [.optp 0,.own 1],.row (.int .u8) o1 false] = bindO (qaJ.f a1 o1) (fun x : Int × LI => some (.tup [.i .i64 x.1,.kon (.nilIface)],[.var 119 [.optp 0,.own 2],.dead,.row (.int .u8) x.2 false])) := by
 unfold qaJ.f; refine S.run_s rfl rfl ?_; conv => lhs; arg 5; whnf
 conv => lhs; arg 6; whnf
 repeat' first|(first|refine S.seq_op rfl ?_|refine S.op_n ?_|refine S.block_x ?_|refine qdC ?_|refine qdD ?_|refine br_t (by assumption) ?_|refine br_f (by assumption) ?_|refine qb1 (by with_reducible assumption) ?_|refine qdE fun _=>?_|refine qdB (fun _=>?_) (fun _=>?_)|refine br_d (fun _=>?_) (fun _=>?_)|refine br_n (fun _=>?_) (fun _=>?_)|refine br_c (fun _=>?_) (fun _=>?_)|refine qdu fun _=>?_|refine qb1 (by assumption) ?_)<;>(conv=>lhs;whnf)|refine S.seq_nil ?_|refine S.reg_n ?_|refine S.region rfl ?_|refine S.two ?_|refine S.blok ?_|refine S.cond rfl ?_|refine S.after_n ?_|refine S.block_n ?_|refine S.block_r ?_|refine S.after_x ?_|refine S.after_r ?_|refine S.skip ?_|refine S.exit ?_|refine S.ret ?_|refine qdt (fun _=>?_) (fun _=>?_)|(first|refine S.loop ?_|refine S.back_n ?_|refine S.back_x ?_|refine S.back_r ?_|refine S.fin_r ?_|refine S.fin_n ?_|refine S.dk_n ?_|refine S.draw_nil ?_)<;>(conv=>lhs;whnf)|(refine S.draw_op ?_; conv => lhs; whnf; arg 1; whnf)|refine qb4 ?_|refine qbt ?_|refine qcD ?_|refine qa9 ?_|exact qdM rfl|exact qbu
def qnP : FSpec := ⟨[.kp,.kp],fun args objs K => match args,objs with | [.ptr 0 0,.s a1],[.var 119 [.optp 0,.own 1],w1] => rowK (.int .u8) false w1 fun o1 => bindO (qaJ.f a1 o1) fun x : Int × LI => K (.tup [.i .i64 x.1,.kon (.nilIface)]) [.var 119 [.optp 0,.own 2],.dead,.row (.int .u8) x.2 false] | _,_ => none⟩
theorem qqf : Sound Tryz.prog 70 (qnP) := by
 refine ⟨⟨Tryz.f70,Tryz.func70,by kernel_rfl,rfl⟩,fun args objs K r h => ?_⟩
 unfold qnP at h; dsimp only at h; split at h
 ·rename_i a1 w1
  obtain ⟨o1,h9,eo1⟩ := qf3 h; clear h; subst eo1
  have h := h9; clear h9
  obtain ⟨x,hx,h⟩ := qc4 h
  exact ⟨_,_,h,FnOK.args2 (qdN qgD (qdN qgD qko)) (qkS qag (qrt) mixed Tryz.func70 ((r70_2 seals 0 a1 o1).trans (qfi hx)))⟩
 ·cases h

def sp71 : FSpec := spJoin
set_option maxRecDepth 60000 in
theorem snd71 : Sound Tryz.prog 71 sp71 := sndJoin Tryz.lays156 Tryz.Builder_Extra_156 ⟨Tryz.f71,Tryz.func71,by kernel_rfl,rfl⟩

def lv72 : Live := look ⟨[],[],[],[],[]⟩ []
noncomputable def g72 : FEnv := (fun _=>none)
theorem en72 : EnvOK Tryz.prog (g72) := (qab _)
set_option maxRecDepth 60000 in
set_option maxHeartbeats 40000000 in
theorem r72 (S : Seals) (k : Nat) (o1 : LI) : runF tt (g72) lv72 Tryz.f72 k [.ptr 0 0] [.var 119 [.optp 0,.own 1],.row (.int .u8) o1 false] = bindO (qbI.f o1) (fun x : Int => some (.i .i64 x,[.var 119 [.optp 0,.own 1],.row (.int .u8) o1 false])) := by
 unfold qbI.f; refine S.run_s rfl rfl ?_; conv => lhs; arg 5; whnf
 conv => lhs; arg 6; whnf
 repeat' first|(first|refine S.seq_op rfl ?_|refine S.op_n ?_|refine S.block_x ?_|refine qdC ?_|refine qdD ?_|refine br_t (by assumption) ?_|refine br_f (by assumption) ?_|refine qb1 (by with_reducible assumption) ?_|refine qdE fun _=>?_|refine qdB (fun _=>?_) (fun _=>?_)|refine br_d (fun _=>?_) (fun _=>?_)|refine br_n (fun _=>?_) (fun _=>?_)|refine br_c (fun _=>?_) (fun _=>?_)|refine qdu fun _=>?_|refine qb1 (by assumption) ?_)<;>(conv=>lhs;whnf)|refine S.seq_nil ?_|refine S.reg_n ?_|refine S.region rfl ?_|refine S.two ?_|refine S.blok ?_|refine S.cond rfl ?_|refine S.after_n ?_|refine S.block_n ?_|refine S.block_r ?_|refine S.after_x ?_|refine S.after_r ?_|refine S.skip ?_|refine S.exit ?_|refine S.ret ?_|refine qdt (fun _=>?_) (fun _=>?_)|(first|refine S.loop ?_|refine S.back_n ?_|refine S.back_x ?_|refine S.back_r ?_|refine S.fin_r ?_|refine S.fin_n ?_|refine S.dk_n ?_|refine S.draw_nil ?_)<;>(conv=>lhs;whnf)|(refine S.draw_op ?_; conv => lhs; whnf; arg 1; whnf)|refine qb4 ?_|refine qbt ?_|refine qcD ?_|refine qa9 ?_|exact qdM rfl|exact qbu
def sp72 : FSpec := ⟨[.kp],fun args objs K => match args,objs with | [.ptr 0 0],[.var 119 [.optp 0,.own 1],w1] => rowK (.int .u8) false w1 fun o1 => bindO (qbI.f o1) fun x : Int => K (.i .i64 x) [.var 119 [.optp 0,.own 1],.row (.int .u8) o1 false] | _,_ => none⟩
theorem snd72 : Sound Tryz.prog 72 (sp72) := by
 refine ⟨⟨Tryz.f72,Tryz.func72,by kernel_rfl,rfl⟩,fun args objs K r h => ?_⟩
 unfold sp72 at h; dsimp only at h; split at h
 ·rename_i w1
  obtain ⟨o1,h9,eo1⟩ := qf3 h; clear h; subst eo1
  have h := h9; clear h9
  obtain ⟨x,hx,h⟩ := qc4 h
  exact ⟨_,_,h,FnOK.args2 (qdN qgD qko) (qkS qag (en72) mixed Tryz.func72 ((r72 seals 0 o1).trans (qfi hx)))⟩
 ·cases h

def sp73 : FSpec := spStr 119
set_option maxRecDepth 60000 in
theorem snd73 : Sound Tryz.prog 73 sp73 := sndStr { Tryz.lays156 with } Tryz.Builder_Extra_156 ⟨Tryz.f73,Tryz.func73,by kernel_rfl,rfl⟩ rfl

def lv38 : Live := look ⟨[],[],[],[],[]⟩ [(6,⟨[1,4,6,30,31,32],[1,6],[2,3],[],[]⟩),(13,⟨[9,57,58,59],[9],[2,3],[(9,0,.selfp 7),(9,1,.own (.int .u8))],[]⟩)]
def g38 (k : Nat) : FEnv := (addF 73 sp73 (addF 72 sp72 (addF 70 qnP (addF 71 sp71 (addF 69 (sp69 k).fs (addF 68 (sp68 k).fs (addF 67 sp67.fs (addF 66 (sp66 k).fs (fun _=>none)))))))))
def sp38 (k : Nat) : SP := .mk [.st] (dG (dL ti false (dS (dL (.pair ti (.pair (.sl ti) (.pair (.sl ti) (.pair (.sl ti) (.pair ti (.pair ti .str)))))) false (dL ti false dN)))) dN) oN fun ((a0_0,a0_1,a0_2,a0_3,_),_) _ C => C _ (qbb.f k a0_0 a0_1 a0_2 a0_3) (fun x => .tup [.s x.1,.i .i64 x.2]) fun x => []
def lv15 : Live := look ⟨[],[],[],[],[]⟩ [(1000000,⟨[],[],[],[(2,0,.own ti),(2,2,.own (.pair ti (.pair (.sl ti) (.pair (.sl ti) (.pair (.sl ti) (.pair ti (.pair ti .str))))))),(2,3,.own ti),(2,0,.fz ti),(2,2,.fz (.pair ti (.pair (.sl ti) (.pair (.sl ti) (.pair (.sl ti) (.pair ti (.pair ti .str))))))),(2,3,.fz ti)],[]⟩)]
def g15 (k : Nat) : FEnv := (addF 38 (sp38 k).fs (addF 37 (sp37 k).fs (addF 36 (sp36 k).fs (fun _=>none))))
def sp15 (k : Nat) : SP := .mk [.rd] (dS dN) oN fun (a0,_) _ C => C _ (qcY.f k a0) (fun x => .tup [.agg [.dat ti x.1 false,.s x.2.1,.dat (.pair ti (.pair (.sl ti) (.pair (.sl ti) (.pair (.sl ti) (.pair ti (.pair ti .str)))))) x.2.2.1 false,.dat ti x.2.2.2.1 false],.i .i64 x.2.2.2.2]) fun x => []
def lv39 : Live := look ⟨[],[],[],[],[]⟩ [(4,⟨[0,1,5],[],[4],[],[]⟩)]
def g39 : FEnv := (fun _=>none)
def sp39 (k : Nat) : SP := .mk [.rd,.rd] (dL ti true (dL ti true dN)) oN fun (a0,a1,_) _ C => C _ (qbq.f k a0 a1) (fun x => .b x) fun x => []
def lv40 : Live := look ⟨[],[],[],[],[]⟩ []
def g40 (k : Nat) : FEnv := (addF 39 (sp39 k).fs (fun _=>none))
def sp40 (k : Nat) : SP := .mk [.rd,.rd] (dG (dI .i64 (dL ti true (dL ti true (dL ti true (dI .i64 (dI .i64 (dS dN))))))) (dG (dI .i64 (dL ti true (dL ti true (dL ti true (dI .i64 (dI .i64 (dS dN))))))) dN)) oN fun ((a0_0,a0_1,a0_2,a0_3,a0_4,a0_5,a0_6,_),(a1_0,a1_1,a1_2,a1_3,a1_4,a1_5,a1_6,_),_) _ C => C _ (qdP.f k a0_0 a0_1 a0_2 a0_3 a0_4 a0_5 a0_6 a1_0 a1_1 a1_2 a1_3 a1_4 a1_5 a1_6) (fun x => .b x) fun x => []
def lv16 : Live := look ⟨[],[],[],[],[]⟩ [(4,⟨[2,3,38,39],[],[4],[],[]⟩)]
def g16 (k : Nat) : FEnv := (addF 40 (sp40 k).fs (addF 39 (sp39 k).fs (fun _=>none)))
def sp16 (k : Nat) : SP := .mk [.rd,.rd] (dG (dL ti true (dS (dL (.pair ti (.pair (.sl ti) (.pair (.sl ti) (.pair (.sl ti) (.pair ti (.pair ti .str)))))) true (dL ti true dN)))) (dG (dL ti true (dS (dL (.pair ti (.pair (.sl ti) (.pair (.sl ti) (.pair (.sl ti) (.pair ti (.pair ti .str)))))) true (dL ti true dN)))) dN)) oN fun ((a0_0,a0_1,a0_2,a0_3,_),(a1_0,a1_1,a1_2,a1_3,_),_) _ C => C _ (qb6.f k a0_0 a0_1 a0_2 a0_3 a1_0 a1_1 a1_2 a1_3) (fun x => .b x) fun x => []
def lv33 : Live := look ⟨[],[],[],[],[]⟩ [(4,⟨[0,3,4,5],[0,3,4],[2],[(3,0,.own .str)],[]⟩),(1000000,⟨[],[],[],[(2,0,.fz .str)],[]⟩)]
def g33 : FEnv := (fun _=>none)
def sp33 (k : Nat) : SP := .mk [.rd] (dS dN) oN fun (a0,_) _ C => C _ (qa6.f k a0) (fun x => .dat .str x false) fun x => []
def lv55 : Live := look ⟨[],[],[],[],[]⟩ [(4,⟨[0,4,5,6],[0,4,5],[2,3],[(4,0,.own .str)],[]⟩)]
def g55 : FEnv := (fun _=>none)
def sp55 (k : Nat) : SP := .mk [.rd] (dS dN) oN fun (a0,_) _ C => C _ (qbJ.f k a0) (fun x => .tup [.own 0,.b x.1]) fun x => [.row .str x.2 false]
def lv56 : Live := look ⟨[],[],[],[],[]⟩ []
def g56 : FEnv := (fun _=>none)
def sp56 : SP := .mk [.rd] (dP 0 0 dN) (oV 102 (cD .str false (cB cN)) oN) fun _ ((o0_0,o0_1,_),_) C => C _ (qaB.f o0_0 o0_1) (fun x => .s x.1) fun x => [.var 102 [.dat .str x.2.1 false,.b x.2.2]]
def lv18 : Live := look ⟨[],[],[],[],[]⟩ [(5,⟨[0,3,4],[0,3],[2],[],[]⟩)]
def g18 : FEnv := (fun _=>none)
def sp18 (k : Nat) : SP := .mk [.rd] (dI .i64 dN) oN fun (a0,_) _ C => C _ (qaD.f k a0) (fun x => .s x) fun x => []
def lv34 : Live := look ⟨[],[],[],[],[]⟩ [(5,⟨[0,4,5],[0,4],[2,3],[],[]⟩)]
def g34 (k : Nat) : FEnv := (addF 18 (sp18 k).fs (fun _=>none))
def sp34 (k : Nat) : SP := .mk [.rd] (dS dN) oN fun (a0,_) _ C => C _ (qaz.f k a0) (fun x => .tup [.i .i64 x.1,.b x.2]) fun x => []
def lv92 : Live := look ⟨[],[],[],[],[]⟩ []
def g92 (k : Nat) : FEnv := (addF 34 (sp34 k).fs (addF 56 sp56.fs (fun _=>none)))
def sp92 (k : Nat) : SP := .mk [.rd] (dP 0 0 dN) (oV 102 (cD .str false (cB cN)) oN) fun _ ((o0_0,o0_1,_),_) C => C _ (qbm.f k o0_0 o0_1) (fun x => .i .i64 x.1) fun x => [.var 102 [.dat .str x.2.1 false,.b x.2.2]]
def lv57 : Live := look ⟨[],[],[],[],[]⟩ [(2,⟨[0,3],[3],[2],[(3,0,.own ti)],[]⟩)]
def g57 (k : Nat) : FEnv := (addF 92 (sp92 k).fs (fun _=>none))
def sp57 (k : Nat) : SP := .mk [.rd] (dP 0 0 dN) (oV 102 (cD .str false (cB cN)) oN) fun _ ((o0_0,o0_1,_),_) C => C _ (qao.f k o0_0 o0_1) (fun x => .own 1) fun x => [.var 102 [.dat .str x.1 false,.b x.2.1],.row ti x.2.2 false]
def lv45 : Live := look ⟨[],[],[],[],[]⟩ []
def g45 : FEnv := (fun _=>none)
def sp45 : SP := .mk [] dN oN fun _ _ C => C _ (qcX.f) (fun x => .own 0) fun x => [.row .str x false]
def lv93 : Live := look ⟨[],[],[],[],[]⟩ [(2,⟨[0,5,6,7],[],[2],[],[]⟩)]
def g93 : FEnv := (addF 45 sp45.fs (fun _=>none))
def sp93 (k : Nat) : SP := .mk [.rd] (dS dN) oN fun (a0,_) _ C => C _ (qcr.f k a0) (fun x => .i .i64 x) fun x => []
theorem lp4001 (S : Seals) (k : Nat) : (sp38 k).St tt (g38 k) lv38 Tryz.f38 k /\ (sp15 k).St tt (g15 k) lv15 Tryz.f15 k /\ (sp39 k).St tt (g39) lv39 Tryz.f39 k /\ (sp40 k).St tt (g40 k) lv40 Tryz.f40 k /\ (sp16 k).St tt (g16 k) lv16 Tryz.f16 k /\ (sp33 k).St tt (g33) lv33 Tryz.f33 k /\ (sp55 k).St tt (g55) lv55 Tryz.f55 k /\ sp56.St tt (g56) lv56 Tryz.f56 k /\ (sp18 k).St tt (g18) lv18 Tryz.f18 k /\ (sp34 k).St tt (g34 k) lv34 Tryz.f34 k /\ (sp92 k).St tt (g92 k) lv92 Tryz.f92 k /\ (sp57 k).St tt (g57 k) lv57 Tryz.f57 k /\ sp45.St tt (g45) lv45 Tryz.f45 k /\ (sp93 k).St tt (g93) lv93 Tryz.f93 k := by
 refine cu_ (A := ∀ (n : Nat) {x30 : List LN} {x31 x32 : Int} {y0_0 : LI} {y0_1 : ByteArray} {y0_2 : List LN} {y0_3 : LI} {y1 : List LI} {y2 : List (List ByteArray)} {K : CK},S.lp tt (g38 k) lv38 0 n (loopN Tryz.f38 0) ⟨[(1,.ptr 0 0),(4,.own 1),(6,.own 2),(30,.dat (.pair ti (.pair (.sl ti) (.pair (.sl ti) (.pair (.sl ti) (.pair ti (.pair ti .str)))))) x30 false),(31,.i .i64 x31),(32,.i .i64 x32)],[(0,.var 28 [.dat ti y0_0 false,.s y0_1,.dat (.pair ti (.pair (.sl ti) (.pair (.sl ti) (.pair (.sl ti) (.pair ti (.pair ti .str)))))) y0_2 false,.dat ti y0_3 false]),(1,.row (.sl ti) y1 false),(2,.row (.sl .str) y2 false)],3,71⟩ K = bindO (qbb.l0 k n x30 x31 x32 y0_0 y0_1 y0_2 y0_3 y1 y2) (fun x : (List (List ByteArray)) => K (.exit 0) ⟨[(1,.ptr 0 0),(6,.own 1)],[(0,.var 28 [.dat ti y0_0 false,.s y0_1,.dat (.pair ti (.pair (.sl ti) (.pair (.sl ti) (.pair (.sl ti) (.pair ti (.pair ti .str)))))) y0_2 false,.dat ti y0_3 false]),(1,.row (.sl .str) x false)],2,71⟩)) (fun w38_0=>?_) (ind_ ?_ ?_)
 refine cu_ (A := ∀ (n : Nat) {x58 x59 : Int} {y1 : List (List ByteArray)} {y2 : LI} {K : CK},S.lp tt (g38 k) lv38 0 n (loopN Tryz.f38 1) ⟨[(9,.ptr 0 0),(57,.own 1),(58,.i .i64 x58),(59,.i .i64 x59)],[(0,.var 119 [.optp 0,.own 2]),(1,.row (.sl .str) y1 false),(2,.row (.int .u8) y2 false)],3,71⟩ K = bindO (qbb.l1 n x58 x59 y1 y2) (fun x : LI => K (.exit 2) ⟨[(9,.ptr 0 0)],[(0,.var 119 [.optp 0,.own 1]),(1,.row (.int .u8) x false)],2,71⟩)) (fun w38_1=>?_) (ind_ ?_ ?_)
 refine cu_ (A := ∀ (n : Nat) {x0 x1 : LI} {x5 : Int} {K : CK},S.lp tt (g39) lv39 0 n (loopN Tryz.f39 0) ⟨[(0,.dat ti x0 true),(1,.dat ti x1 true),(5,.i .i64 x5)],[],0,26⟩ K = bindO (qbq.l0 n x0 x1 x5) (Sum.elim (fun x : Unit => K (.exit 0) ⟨[],[],0,26⟩) (fun x : Bool => K .ret ⟨[(4,.b x)],[],0,26⟩))) (fun w39_0=>?_) (ind_ ?_ ?_)
 refine cu_ (A := ∀ (n : Nat) {x38 x39 : Int} {y0_0 : LI} {y0_1 : ByteArray} {y0_2 : List LN} {y0_3 y1_0 : LI} {y1_1 : ByteArray} {y1_2 : List LN} {y1_3 : LI} {K : CK},S.lp tt (g16 k) lv16 0 n (loopN Tryz.f16 0) ⟨[(2,.ptr 0 0),(3,.ptr 1 0),(38,.i .i64 x38),(39,.i .i64 x39)],[(0,.var 28 [.dat ti y0_0 true,.s y0_1,.dat (.pair ti (.pair (.sl ti) (.pair (.sl ti) (.pair (.sl ti) (.pair ti (.pair ti .str)))))) y0_2 true,.dat ti y0_3 true]),(1,.var 28 [.dat ti y1_0 true,.s y1_1,.dat (.pair ti (.pair (.sl ti) (.pair (.sl ti) (.pair (.sl ti) (.pair ti (.pair ti .str)))))) y1_2 true,.dat ti y1_3 true])],2,55⟩ K = bindO (qb6.l0 k n x38 x39 y0_0 y0_1 y0_2 y0_3 y1_0 y1_1 y1_2 y1_3) (Sum.elim (fun x : Unit => K (.exit 0) ⟨[],[],0,55⟩) (fun x : Bool => K .ret ⟨[(4,.b x)],[],0,55⟩))) (fun w16_0=>?_) (ind_ ?_ ?_)
 refine cu_ (A := ∀ (n : Nat) {x0 : ByteArray} {x4 x5 : Int} {y0 : List ByteArray} {K : CK},S.lp tt (g33) lv33 0 n (loopN Tryz.f33 0) ⟨[(0,.s x0),(3,.own 0),(4,.i .i64 x4),(5,.i .i64 x5)],[(0,.row .str y0 false)],1,31⟩ K = bindO (qa6.l0 n x0 x4 x5 y0) (fun x : Int × (List ByteArray) => K (.exit 0) ⟨[(0,.s x0),(3,.own 0),(4,.i .i64 x.1)],[(0,.row .str x.2 false)],1,31⟩)) (fun w33_0=>?_) (ind_ ?_ ?_)
 refine cu_ (A := ∀ (n : Nat) {x0 : ByteArray} {x5 x6 : Int} {y0 : List ByteArray} {K : CK},S.lp tt (g55) lv55 0 n (loopN Tryz.f55 0) ⟨[(0,.s x0),(4,.own 0),(5,.i .i64 x5),(6,.i .i64 x6)],[(0,.row .str y0 false)],1,31⟩ K = bindO (qbJ.l0 n x0 x5 x6 y0) (fun x : Int × (List ByteArray) => K (.exit 0) ⟨[(0,.s x0),(4,.own 0),(5,.i .i64 x.1)],[(0,.row .str x.2 false)],1,31⟩)) (fun w55_0=>?_) (ind_ ?_ ?_)
 refine cu_ (A := ∀ (n : Nat) {x0 : Int} {x3 : ByteArray} {x4 : Int} {K : CK},S.lp tt (g18) lv18 0 n (loopN Tryz.f18 0) ⟨[(0,.i .i64 x0),(3,.s x3),(4,.i .i64 x4)],[],0,30⟩ K = bindO (qaD.l0 n x0 x3 x4) (fun x : ByteArray => K (.exit 0) ⟨[(0,.i .i64 x0),(3,.s x)],[],0,30⟩)) (fun w18_0=>?_) (ind_ ?_ ?_)
 refine cu_ (A := ∀ (n : Nat) {x0 : ByteArray} {x4 x5 : Int} {K : CK},S.lp tt (g34 k) lv34 0 n (loopN Tryz.f34 0) ⟨[(0,.s x0),(4,.i .i64 x4),(5,.i .i64 x5)],[],0,55⟩ K = bindO (qaz.l0 n x0 x4 x5) (Sum.elim (fun x : Int => K (.exit 0) ⟨[(0,.s x0),(4,.i .i64 x)],[],0,55⟩) (fun x : Int × Bool => K .ret ⟨[(2,.i .i64 x.1),(3,.b x.2)],[],0,55⟩))) (fun w34_0=>?_) (ind_ ?_ ?_)
 refine cu_ (A := ∀ (n : Nat) {y0_0 : List ByteArray} {y0_1 : Bool} {y1 : LI} {K : CK},S.lp tt (g57 k) lv57 1 n (loopN Tryz.f57 0) ⟨[(0,.ptr 0 0),(3,.own 1)],[(0,.var 102 [.dat .str y0_0 false,.b y0_1]),(1,.row ti y1 false)],2,23⟩ K = bindO (qao.l0 k n y0_0 y0_1 y1) (fun x : (List ByteArray) × Bool × LI => K (.exit 0) ⟨[(3,.own 1)],[(0,.var 102 [.dat .str x.1 false,.b x.2.1]),(1,.row ti x.2.2 false)],2,23⟩)) (fun w57_0=>?_) (ind_ ?_ ?_)
 refine cu_ (A := ∀ (n : Nat) {x0 : ByteArray} {x6 x7 : Int} {y0 : List ByteArray} {K : CK},S.lp tt (g93) lv93 0 n (loopN Tryz.f93 0) ⟨[(0,.s x0),(5,.own 0),(6,.i .i64 x6),(7,.i .i64 x7)],[(0,.row .str y0 false)],1,21⟩ K = bindO (qcr.l0 n x0 x6 x7 y0) (Sum.elim (fun x : Unit => K (.exit 0) ⟨[],[],0,21⟩) (fun x : Int => K .ret ⟨[(2,.i .i64 x)],[],0,21⟩))) (fun w93_0=>?_) (ind_ ?_ ?_)
 and_intros
 all_goals first|(dsimp only [SP.St,sp38,sp15,sp39,sp40,sp16,sp33,sp55,sp56,sp18,sp34,sp92,sp57,sp45,sp93,dN,dL,dI,dS,dP,dG,cN,cD,cB,oN,oV]; intros; (first|unfold qbb.f|unfold qcY.f|unfold qbq.f|unfold qdP.f|unfold qb6.f|unfold qa6.f|unfold qbJ.f|unfold qaB.f|unfold qaD.f|unfold qaz.f|unfold qbm.f|unfold qao.f|unfold qcX.f|unfold qcr.f); refine S.run_s rfl rfl ?_; (conv=>lhs;arg 5;whnf); conv=>lhs;arg 6;whnf)|(intros; rw [S.lp_zero]; exact qbu)|(intro n ih; intros; (first|rw [qbb.l0]|rw [qbb.l1]|rw [qbq.l0]|rw [qb6.l0]|rw [qa6.l0]|rw [qbJ.l0]|rw [qaD.l0]|rw [qaz.l0]|rw [qao.l0]|rw [qcr.l0]); refine S.lp_succ ?_; conv=>lhs;arg 5;whnf)
 all_goals as_aux_lemma=>repeat' first|(first|refine S.seq_op rfl ?_|refine S.op_n ?_|refine S.block_x ?_|refine qdC ?_|refine qdD ?_|refine br_t (by assumption) ?_|refine br_f (by assumption) ?_|refine qb1 (by with_reducible assumption) ?_|refine qdE fun _=>?_|refine qdB (fun _=>?_) (fun _=>?_)|refine br_d (fun _=>?_) (fun _=>?_)|refine br_n (fun _=>?_) (fun _=>?_)|refine br_c (fun _=>?_) (fun _=>?_)|refine qdu fun _=>?_|refine qb1 (by assumption) ?_)<;>(conv=>lhs;whnf)|refine S.seq_nil ?_|refine S.reg_n ?_|refine S.region rfl ?_|refine S.two ?_|refine S.blok ?_|refine S.cond rfl ?_|refine S.after_n ?_|refine S.block_n ?_|refine S.block_r ?_|refine S.after_x ?_|refine S.after_r ?_|refine S.skip ?_|refine S.exit ?_|refine S.ret ?_|refine qdt (fun _=>?_) (fun _=>?_)|refine S.region_d (id := 8) (ds := [0,0,0,0,0,24,56,120,254,510,1023,2047]) (mds := [[],[],[],[],[],[],[],[],[],[],[2],[]]) (hm := [(10,[2])]) (by kernel_rfl) (by kernel_rfl) rfl rfl ?_|exact ih|refine (w38_0 _).trans ?_|refine (w38_1 _).trans ?_|refine (w39_0 _).trans ?_|refine (w16_0 _).trans ?_|refine (w33_0 _).trans ?_|refine (w55_0 _).trans ?_|refine (w18_0 _).trans ?_|refine (w34_0 _).trans ?_|refine (w57_0 _).trans ?_|refine (w93_0 _).trans ?_|refine S.region_d (id := 4) (ds := [0,1,3,7,0,16,55,127,255,511]) (mds := [[],[],[],[],[],[],[],[],[],[]]) (hm := []) (by kernel_rfl) (by kernel_rfl) rfl rfl ?_|refine S.region_d (id := 6) (ds := [0,0,3,7,0,0,48,112,255]) (mds := [[],[],[],[],[],[],[],[],[]]) (hm := []) (by kernel_rfl) (by kernel_rfl) rfl rfl ?_|refine S.region_d (id := 6) (ds := [0,1,0,7,15,0,32,0,224,480,1023,2047]) (mds := [[],[],[],[],[],[],[],[],[],[],[],[]]) (hm := []) (by kernel_rfl) (by kernel_rfl) rfl rfl ?_|(first|refine S.loop ?_|refine S.back_n ?_|refine S.back_x ?_|refine S.back_r ?_|refine S.fin_r ?_|refine S.fin_n ?_|refine S.dk_n ?_|refine S.draw_nil ?_)<;>(conv=>lhs;whnf)|(refine S.draw_op ?_; conv => lhs; whnf; arg 1; whnf)|refine qb4 ?_|refine qbt ?_|refine qcD ?_|refine qa9 ?_|exact qdM rfl|exact qbu
theorem snd38 (k : Nat) : Sound Tryz.prog 38 (sp38 k).fs := sn_ qag mixed Tryz.func38 (by kernel_rfl) rfl (qaa snd73 (qaa snd72 (qaa qqf (qaa snd71 (qaa (snd69 k) (qaa (snd68 k) (qaa snd67 (qaa (snd66 k) (qab _))))))))) (lp4001 seals k).1
theorem snd15 (k : Nat) : Sound Tryz.prog 15 (sp15 k).fs := sn_ qag mixed Tryz.func15 (by kernel_rfl) rfl (qaa (snd38 k) (qaa (snd37 k) (qaa (snd36 k) (qab _)))) (lp4001 seals k).2.1
theorem snd39 (k : Nat) : Sound Tryz.prog 39 (sp39 k).fs := sn_ qag mixed Tryz.func39 (by kernel_rfl) rfl (qab _) (lp4001 seals k).2.2.1
theorem snd40 (k : Nat) : Sound Tryz.prog 40 (sp40 k).fs := sn_ qag mixed Tryz.func40 (by kernel_rfl) rfl (qaa (snd39 k) (qab _)) (lp4001 seals k).2.2.2.1
theorem snd16 (k : Nat) : Sound Tryz.prog 16 (sp16 k).fs := sn_ qag mixed Tryz.func16 (by kernel_rfl) rfl (qaa (snd40 k) (qaa (snd39 k) (qab _))) (lp4001 seals k).2.2.2.2.1
theorem snd33 (k : Nat) : Sound Tryz.prog 33 (sp33 k).fs := sn_ qag mixed Tryz.func33 (by kernel_rfl) rfl (qab _) (lp4001 seals k).2.2.2.2.2.1
theorem snd55 (k : Nat) : Sound Tryz.prog 55 (sp55 k).fs := sn_ qag mixed Tryz.func55 (by kernel_rfl) rfl (qab _) (lp4001 seals k).2.2.2.2.2.2.1
theorem snd56 : Sound Tryz.prog 56 sp56.fs := sn_ qag mixed Tryz.func56 (by kernel_rfl) rfl (qab _) (lp4001 seals 0).2.2.2.2.2.2.2.1
theorem snd18 (k : Nat) : Sound Tryz.prog 18 (sp18 k).fs := sn_ qag mixed Tryz.func18 (by kernel_rfl) rfl (qab _) (lp4001 seals k).2.2.2.2.2.2.2.2.1
theorem snd34 (k : Nat) : Sound Tryz.prog 34 (sp34 k).fs := sn_ qag mixed Tryz.func34 (by kernel_rfl) rfl (qaa (snd18 k) (qab _)) (lp4001 seals k).2.2.2.2.2.2.2.2.2.1
theorem snd92 (k : Nat) : Sound Tryz.prog 92 (sp92 k).fs := sn_ qag mixed Tryz.func92 (by kernel_rfl) rfl (qaa (snd34 k) (qaa snd56 (qab _))) (lp4001 seals k).2.2.2.2.2.2.2.2.2.2.1
theorem snd57 (k : Nat) : Sound Tryz.prog 57 (sp57 k).fs := sn_ qag mixed Tryz.func57 (by kernel_rfl) rfl (qaa (snd92 k) (qab _)) (lp4001 seals k).2.2.2.2.2.2.2.2.2.2.2.1
theorem snd45 : Sound Tryz.prog 45 sp45.fs := sn_ qag mixed Tryz.func45 (by kernel_rfl) rfl (qab _) (lp4001 seals 0).2.2.2.2.2.2.2.2.2.2.2.2.1
theorem snd93 (k : Nat) : Sound Tryz.prog 93 (sp93 k).fs := sn_ qag mixed Tryz.func93 (by kernel_rfl) rfl (qaa snd45 (qab _)) (lp4001 seals k).2.2.2.2.2.2.2.2.2.2.2.2.2
end
end Go.Vm
