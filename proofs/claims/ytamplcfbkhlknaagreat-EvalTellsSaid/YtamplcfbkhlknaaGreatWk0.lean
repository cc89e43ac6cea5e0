/- Own texts put together: the walks -/
import Derived.Test.YtamplcfbkhlknaaGreatVm1
import Derived.Test.YtamplcfbkhlknaaGreatPl0
import Derived.Test.YtamplcfbkhlknaaGreatProg
namespace Go.Vm
open Go
abbrev ti : Ty := .int .i64
end Go.Vm

set_option linter.unusedVariables false
set_option maxRecDepth 60000
set_option maxHeartbeats 40000000
namespace Go.Vm
open Go Go.Proofs Go.Pf
noncomputable section

theorem ind_ {P : Nat → Prop} (h0 : P 0) (hs : ∀ n,P n → P (n + 1)) : ∀ n,P n
 | 0 => h0
 | n + 1 => hs n (ind_ h0 hs n)
theorem cu_ {A B : Prop} (f : A → B) (a : A) : B := f a
def tt : Tab := [default,
 default,
 ⟨.int .i64,1,8,[.i .i64 0],some ti⟩,
 ⟨.int .i64,1,8,[.i .i64 0],some ti⟩,
 ⟨.bool,1,1,[.b false],some .bool⟩,
 default,
 default,
 default,
 default,
 ⟨.str,1,16,[.s ByteArray.empty],some .str⟩,
 default,
 default,
 default,
 default,
 default,
 default,
 default,
 default,
 default,
 default,
 default,
 ⟨.int .i32,1,4,[.i .i32 0],some (.int .i32)⟩,
 ⟨.sl 3,1,24,[.nilsl],some (.sl ti)⟩,
 ⟨.sl 38,1,24,[.nilsl],some (.sl (.pair ti (.pair (.sl ti) (.pair (.sl ti) (.pair (.sl ti) (.pair ti (.pair ti .str)))))))⟩,
 default,
 ⟨.struct [(0,22),(1,9),(2,23),(3,22)],4,88,[.nilsl,.s ByteArray.empty,.nilsl,.nilsl],some (.pair (.sl ti) (.pair .str (.pair (.sl (.pair ti (.pair (.sl ti) (.pair (.sl ti) (.pair (.sl ti) (.pair ti (.pair ti .str))))))) (.sl ti))))⟩,
 default,
 default,
 ⟨.sl 33,1,24,[.nilsl],some (.sl (.pair (.sl ti) (.sl ti)))⟩,
 default,
 default,
 ⟨.sl 2,1,24,[.nilsl],some (.sl ti)⟩,
 default,
 ⟨.struct [(0,22),(1,31)],2,48,[.nilsl,.nilsl],some (.pair (.sl ti) (.sl ti))⟩,
 default,
 ⟨.sl 22,1,24,[.nilsl],some (.sl (.sl ti))⟩,
 default,
 default,
 ⟨.struct [(0,3),(1,22),(2,22),(3,22),(4,2),(5,3),(6,9)],7,112,[.i .i64 0,.nilsl,.nilsl,.nilsl,.i .i64 0,.i .i64 0,.s ByteArray.empty],some (.pair ti (.pair (.sl ti) (.pair (.sl ti) (.pair (.sl ti) (.pair ti (.pair ti .str))))))⟩,
 default,
 ⟨.sl 67,1,24,[.nilsl],some (.sl (.pair ti (.pair ti (.pair ti (.pair ti .str)))))⟩,
 default,
 default,
 ⟨.int .i64,1,8,[.i .i64 0],some ti⟩,
 default,
 default,
 default,
 default,
 default,
 default,
 ⟨.ptr 52,1,8,[.kon (.pointer none)],none⟩,
 default,
 ⟨.struct [(0,22),(1,3)],2,32,[.nilsl,.i .i64 0],some (.pair (.sl ti) ti)⟩,
 default,
 default,
 default,
 default,
 default,
 default,
 default,
 default,
 default,
 default,
 default,
 default,
 default,
 default,
 ⟨.struct [(0,3),(1,3),(2,3),(3,3),(4,9)],5,48,[.i .i64 0,.i .i64 0,.i .i64 0,.i .i64 0,.s ByteArray.empty],some (.pair ti (.pair ti (.pair ti (.pair ti .str))))⟩,
 default,
 default,
 ⟨.sl 9,1,24,[.nilsl],some (.sl .str)⟩,
 default,
 default,
 default,
 default,
 default,
 default,
 ⟨.func,1,8,[.kon (.nilFunc)],none⟩,
 ⟨.sl 21,1,24,[.nilsl],some (.sl (.int .i32))⟩,
 default,
 ⟨.sl 4,1,24,[.nilsl],some (.sl .bool)⟩,
 default,
 ⟨.func,1,8,[.kon (.nilFunc)],none⟩,
 default,
 default,
 default,
 default,
 default,
 default,
 default,
 default,
 default,
 default,
 default,
 default,
 default,
 default,
 default,
 default,
 default,
 default,
 default,
 default,
 default,
 default,
 default,
 default,
 default,
 ⟨.func,1,8,[.kon (.nilFunc)],none⟩,
 default,
 default,
 default,
 default,
 ⟨.func,1,8,[.kon (.nilFunc)],none⟩,
 default,
 default,
 default,
 default,
 default,
 default,
 default,
 default,
 default,
 default,
 ⟨.struct [(0,3),(1,4),(2,4),(3,4),(4,4),(5,4)],6,16,[.i .i64 0,.b false,.b false,.b false,.b false,.b false],some (.pair ti (.pair .bool (.pair .bool (.pair .bool (.pair .bool .bool)))))⟩]
theorem qaf : TabOK Tryz.prog tt := qmd (by kernel_rfl)
theorem mixed : Tryz.prog.follows .mixedOrders = true := by kernel_rfl

def lv81 : Live := look ⟨[],[],[],[],[]⟩ [(5,⟨[3,9,10,11],[3],[2],[],[]⟩)]
def g81 : FEnv := (fun _=>none)
def sp81 (k : Nat) : SP := .mk [.rd] (dL ti true dN) oN fun (a0,_) _ C => C _ (qaN.f k a0) (fun x => .b x) fun x => []
def lv100 : Live := look ⟨[],[],[],[],[]⟩ [(5,⟨[3,9,10,11],[3],[2],[],[]⟩)]
def g100 (k : Nat) : FEnv := (addF 81 (sp81 k).fs (fun _=>none))
def sp100 (k : Nat) : SP := .mk [.rd] (dL ti true dN) oN fun (a0,_) _ C => C _ (qba.f k a0) (fun x => .i .i64 x) fun x => []
def lv59 : Live := look ⟨[],[],[],[],[]⟩ []
def g59 (k : Nat) : FEnv := (addF 100 (sp100 k).fs (addF 81 (sp81 k).fs (fun _=>none)))
def sp59 (k : Nat) : SP := .mk [.rd] (dG (dL ti true (dL ti true dN)) dN) oN fun ((a0_0,a0_1,_),_) _ C => C _ (qbe.f k a0_0 a0_1) (fun x => .b x) fun x => []
def lv47 : Live := look ⟨[],[],[],[],[]⟩ [(3,⟨[4,7,8,9],[4],[2,3],[(4,0,.own (.sl ti))],[]⟩),(1000000,⟨[],[],[],[(2,0,.own (.sl ti))],[]⟩)]
def g47 (k : Nat) : FEnv := (addF 59 (sp59 k).fs (fun _=>none))
def sp47 (k : Nat) : SP := .mk [.rd] (dL (.pair (.sl ti) (.sl ti)) true dN) oN fun (a0,_) _ C => C _ (qb1.f k a0) (fun x => .tup [.own 0,.b x.1]) fun x => [.row (.sl ti) x.2 false]
theorem lp0 (S : Seals) (k : Nat) : (sp81 k).St tt (g81) lv81 Tryz.f81 k ∧ (sp100 k).St tt (g100 k) lv100 Tryz.f100 k ∧ (sp59 k).St tt (g59 k) lv59 Tryz.f59 k ∧ (sp47 k).St tt (g47 k) lv47 Tryz.f47 k := by
 refine cu_ (A := ∀ (n : Nat) {x3 : Int} {x9 : LI} {x10 x11 : Int} {K : CK},S.lp tt (g81) lv81 0 n (loopN Tryz.f81 0) ⟨[(3,.i .i64 x3),(9,.dat ti x9 true),(10,.i .i64 x10),(11,.i .i64 x11)],[],0,27⟩ K = bindO (qaN.l0 n x3 x9 x10 x11) (Sum.elim (fun x : Int => K (.exit 0) ⟨[(3,.i .i64 x)],[],0,27⟩) (fun x : Bool => K .ret ⟨[(2,.b x)],[],0,27⟩))) (fun w81_0=>?_) (ind_ ?_ ?_)
 refine cu_ (A := ∀ (n : Nat) {x3 : Int} {x9 : LI} {x10 x11 : Int} {K : CK},S.lp tt (g100 k) lv100 0 n (loopN Tryz.f100 0) ⟨[(3,.i .i64 x3),(9,.dat ti x9 true),(10,.i .i64 x10),(11,.i .i64 x11)],[],0,20⟩ K = bindO (qba.l0 n x3 x9 x10 x11) (fun x : Int => K (.exit 0) ⟨[(3,.i .i64 x)],[],0,20⟩)) (fun w100_0=>?_) (ind_ ?_ ?_)
 refine cu_ (A := ∀ (n : Nat) {x7 : List LT} {x8 x9 : Int} {y0 : List LI} {K : CK},S.lp tt (g47 k) lv47 0 n (loopN Tryz.f47 0) ⟨[(4,.own 0),(7,.dat (.pair (.sl ti) (.sl ti)) x7 true),(8,.i .i64 x8),(9,.i .i64 x9)],[(0,.row (.sl ti) y0 false)],1,23⟩ K = bindO (qb1.l0 k n x7 x8 x9 y0) (Sum.elim (fun x : (List LI) => K (.exit 0) ⟨[(4,.own 0)],[(0,.row (.sl ti) x false)],1,23⟩) (fun x : Bool => K .ret ⟨[(2,.nilsl),(3,.b x)],[],0,23⟩))) (fun w47_0=>?_) (ind_ ?_ ?_)
 and_intros
 all_goals first|(dsimp only [SP.St,sp81,sp100,sp59,sp47,dN,dL,dG,oN]; intros; (first|unfold qaN.f|unfold qba.f|unfold qbe.f|unfold qb1.f); refine S.run_s rfl rfl ?_; (conv=>lhs;arg 5;whnf); conv=>lhs;arg 6;whnf)|(intros; rw [S.lp_zero]; exact qaO)|(intro n ih; intros; (first|rw [qaN.l0]|rw [qba.l0]|rw [qb1.l0]); refine S.lp_succ ?_; conv=>lhs;arg 5;whnf)
 all_goals repeat' first|(first|refine S.seq_op rfl ?_|refine S.op_n ?_|refine S.block_x ?_|refine qcC ?_|refine qcD ?_|refine br_t (by assumption) ?_|refine br_f (by assumption) ?_|refine qbb (by with_reducible assumption) ?_|refine qcB (fun _=>?_) (fun _=>?_)|refine br_d (fun _=>?_) (fun _=>?_)|refine br_n (fun _=>?_) (fun _=>?_)|refine br_c (fun _=>?_) (fun _=>?_)|refine qcA fun _=>?_|refine qbb (by assumption) ?_|refine qcE fun _=>?_)<;>(conv=>lhs;whnf)|refine S.seq_nil ?_|refine S.reg_n ?_|refine S.region rfl ?_|refine S.two ?_|refine S.blok ?_|refine S.cond rfl ?_|refine S.after_n ?_|refine S.block_n ?_|refine S.block_r ?_|refine S.after_x ?_|refine S.after_r ?_|refine S.skip ?_|refine S.exit ?_|refine S.ret ?_|refine qcy (fun _=>?_) (fun _=>?_)|exact ih|refine (w81_0 _).trans ?_|refine (w100_0 _).trans ?_|refine (w47_0 _).trans ?_|refine S.region_d (id := 1) (ds := [0,1,3,7,15,31,63,15,143,399,1023,2047,4095]) (mds := [[],[],[],[],[],[],[],[],[],[],[],[],[]]) (hm := []) (by kernel_rfl) (by kernel_rfl) rfl rfl ?_|(first|refine S.loop ?_|refine S.back_n ?_|refine S.back_x ?_|refine S.back_r ?_|refine S.fin_r ?_|refine S.fin_n ?_|refine S.dk_n ?_|refine S.draw_nil ?_)<;>(conv=>lhs;whnf)|exact qcz rfl|exact qaO|(refine S.draw_op ?_; conv => lhs; whnf; arg 1; whnf)|refine qbc ?_|refine qaR ?_|refine qbC ?_|refine qaF ?_
theorem snd81 (k : Nat) : Sound Tryz.prog 81 (sp81 k).fs := sn_ qaf mixed Tryz.func81 (by kernel_rfl) rfl (qab _) (lp0 seals k).1
theorem snd100 (k : Nat) : Sound Tryz.prog 100 (sp100 k).fs := sn_ qaf mixed Tryz.func100 (by kernel_rfl) rfl (qaa (snd81 k) (qab _)) (lp0 seals k).2.1
theorem snd59 (k : Nat) : Sound Tryz.prog 59 (sp59 k).fs := sn_ qaf mixed Tryz.func59 (by kernel_rfl) rfl (qaa (snd100 k) (qaa (snd81 k) (qab _))) (lp0 seals k).2.2.1
theorem snd47 (k : Nat) : Sound Tryz.prog 47 (sp47 k).fs := sn_ qaf mixed Tryz.func47 (by kernel_rfl) rfl (qaa (snd59 k) (qab _)) (lp0 seals k).2.2.2
def lv61 : Live := look ⟨[],[],[],[],[]⟩ [(1000000,⟨[],[],[],[(2,0,.own ti)],[]⟩)]
noncomputable def g61 : FEnv := (fun _=>none)
theorem en61 : EnvOK Tryz.prog (g61) := (qab _)
theorem r61 (S : Seals) (k : Nat) (a0 : LI) : runF tt (g61) lv61 Tryz.f61 k [.dat ti a0 true] [] = bindO (qaz.f a0) (fun x : LI => some (.own 0,[.row ti x false])) := by
 unfold qaz.f; cases a0
 ·rw [if_pos (by decide)]; refine S.run_s rfl rfl ?_; conv => lhs; arg 5; whnf
  conv => lhs; arg 6; whnf
  repeat' first|(first|refine qbb (by decide) ?_|refine S.seq_op rfl ?_|refine S.op_n ?_|refine S.block_x ?_|refine qcC ?_|refine qcD ?_|refine br_t (by assumption) ?_|refine br_f (by assumption) ?_|refine qbb (by with_reducible assumption) ?_|refine qcB (fun _=>?_) (fun _=>?_)|refine br_d (fun _=>?_) (fun _=>?_)|refine br_n (fun _=>?_) (fun _=>?_)|refine br_c (fun _=>?_) (fun _=>?_)|refine qcA fun _=>?_|refine qbb (by assumption) ?_|refine qcE fun _=>?_)<;>(conv=>lhs;whnf)|refine S.seq_nil ?_|refine S.reg_n ?_|refine S.region rfl ?_|refine S.two ?_|refine S.blok ?_|refine S.cond rfl ?_|refine S.after_n ?_|refine S.block_n ?_|refine S.block_r ?_|refine S.after_x ?_|refine S.after_r ?_|refine S.skip ?_|refine S.exit ?_|refine S.ret ?_|refine qcy (fun _=>?_) (fun _=>?_)|refine qpG ?_ ?_|(first|refine S.loop ?_|refine S.back_n ?_|refine S.back_x ?_|refine S.back_r ?_|refine S.fin_r ?_|refine S.fin_n ?_|refine S.dk_n ?_|refine S.draw_nil ?_)<;>(conv=>lhs;whnf)|exact qcz rfl|exact qaO|(refine S.draw_op ?_; conv => lhs; whnf; arg 1; whnf)|refine qbc ?_|refine qaR ?_|refine qbC ?_|refine qaF ?_
 ·refine S.run_s rfl rfl ?_; conv => lhs; arg 5; whnf
  conv => lhs; arg 6; whnf
  repeat' first|(first|refine S.seq_op rfl ?_|refine S.op_n ?_|refine S.block_x ?_|refine qcC ?_|refine qcD ?_|refine br_t (by assumption) ?_|refine br_f (by assumption) ?_|refine qbb (by with_reducible assumption) ?_|refine qcB (fun _=>?_) (fun _=>?_)|refine br_d (fun _=>?_) (fun _=>?_)|refine br_n (fun _=>?_) (fun _=>?_)|refine br_c (fun _=>?_) (fun _=>?_)|refine qcA fun _=>?_|refine qbb (by assumption) ?_|refine qcE fun _=>?_)<;>(conv=>lhs;whnf)|refine S.seq_nil ?_|refine S.reg_n ?_|refine S.region rfl ?_|refine S.two ?_|refine S.blok ?_|refine S.cond rfl ?_|refine S.after_n ?_|refine S.block_n ?_|refine S.block_r ?_|refine S.after_x ?_|refine S.after_r ?_|refine S.skip ?_|refine S.exit ?_|refine S.ret ?_|refine qcy (fun _=>?_) (fun _=>?_)|(first|refine S.loop ?_|refine S.back_n ?_|refine S.back_x ?_|refine S.back_r ?_|refine S.fin_r ?_|refine S.fin_n ?_|refine S.dk_n ?_|refine S.draw_nil ?_)<;>(conv=>lhs;whnf)|exact qcz rfl|exact qaO|(refine S.draw_op ?_; conv => lhs; whnf; arg 1; whnf)|refine qbc ?_|refine qaR ?_|refine qbC ?_|refine qaF ?_
def sp61 : FSpec := ⟨[.rd],fun args objs K => match args,objs with | [v0],[] => listB ti true v0 fun a0 => bindO (qaz.f a0) fun x : LI => K (.own 0) [.row ti x false] | _,_ => none⟩
theorem snd61 : Sound Tryz.prog 61 (sp61) := by
 refine ⟨⟨Tryz.f61,Tryz.func61,by kernel_rfl,rfl⟩,fun args objs K r h => ?_⟩
 unfold sp61 at h; dsimp only at h; split at h
 ·rename_i v0
  obtain ⟨a0,h9,ca0⟩ := qg4 h; clear h
  have h := h9; clear h9
  obtain ⟨x,hx,h⟩ := qhi h
  exact ⟨_,_,h,FnOK.args2 (qe7 ca0 qnS) (qmQ qaf (en61) mixed Tryz.func61 ((r61 seals 0 a0).trans (qgM hx)))⟩
 ·cases h

def lv116 : Live := look ⟨[],[],[],[],[]⟩ []
def g116 : FEnv := (fun _=>none)
def sp116 : SP := .mk [.rd] (dI .i64 dN) oN fun (a0,_) _ C => C _ (qeA.f a0) (fun x => .tup [.agg [.i .i64 x.1,.b x.2.1,.b x.2.2.1,.b x.2.2.2.1,.b x.2.2.2.2.1,.b x.2.2.2.2.2.1],.b x.2.2.2.2.2.2]) fun x => []
def lv78 : Live := look ⟨[],[],[],[],[]⟩ []
def g78 : FEnv := (addF 116 sp116.fs (fun _=>none))
def sp78 : SP := .mk [.rd,.rd] (dG (dI .i64 (dL ti true (dL ti true (dL ti true (dI .i64 (dI .i64 (dS dN))))))) (dI .i64 dN)) oN fun ((a0_0,a0_1,a0_2,a0_3,a0_4,a0_5,a0_6,_),a1,_) _ C => C _ (qd7.f a0_0 a0_1 a0_2 a0_3 a0_4 a0_5 a0_6 a1) (fun x => .b x) fun x => []
def lv80 : Live := look ⟨[],[],[],[],[]⟩ []
def g80 (k : Nat) : FEnv := (addF 81 (sp81 k).fs (fun _=>none))
def sp80 (k : Nat) : SP := .mk [.rd] (dL ti true dN) oN fun (a0,_) _ C => C _ (qdS.f k a0) (fun x => .b x) fun x => []
def qoe : Live := look ⟨[],[],[],[],[]⟩ [(2,⟨[0,1,7,8],[],[4],[],[]⟩)]
def qpB (k : Nat) : FEnv := (addF 80 (sp80 k).fs (fun _=>none))
def qjH (k : Nat) : SP := .mk [.rd,.rd] (dL (.sl ti) true (dF 80 cN dN)) oN fun (a0,_,_) _ C => C _ (qak.f k a0) (fun x => .i .i64 x) fun x => []
def qqC : Live := look ⟨[],[],[],[],[]⟩ []
def g79_1 (k : Nat) : FEnv := (addF 117 (qjH k).fs (fun _=>none))
def qmp (k : Nat) : SP := .mk [.rd,.rd] (dL (.sl ti) true (dF 80 cN dN)) oN fun (a0,_,_) _ C => C _ (qaL.f k a0) (fun x => .b x) fun x => []
def lv118 : Live := look ⟨[],[],[],[],[]⟩ [(1000000,⟨[],[],[],[(2,0,.dat ti)],[]⟩)]
def g118 (k : Nat) : FEnv := (addF 81 (sp81 k).fs (fun _=>none))
def sp118 (k : Nat) : SP := .mk [.st] (dG (dI .i64 (dL ti false (dL ti false (dL ti false (dI .i64 (dI .i64 (dS dN))))))) dN) oN fun ((a0_0,a0_1,a0_2,a0_3,a0_4,a0_5,a0_6,_),_) _ C => C _ (qdg.f k a0_0 a0_1 a0_2 a0_3 a0_4 a0_5 a0_6) (fun x => .tup [.dat ti x.1 false,.i .i64 x.2]) fun x => []
theorem lp1 (S : Seals) (k : Nat) : sp116.St tt (g116) lv116 Tryz.f116 k ∧ sp78.St tt (g78) lv78 Tryz.f78 k ∧ (sp80 k).St tt (g80 k) lv80 Tryz.f80 k ∧ (qjH k).St tt (qpB k) qoe Tryz.f117 k ∧ (qmp k).St tt (g79_1 k) qqC Tryz.f79 k ∧ (sp118 k).St tt (g118 k) lv118 Tryz.f118 k := by
 refine cu_ (A := ∀ (n : Nat) {x0 : List LI} {x7 x8 : Int} {K : CK},S.lp tt (qpB k) qoe 0 n (loopN Tryz.f117 0) ⟨[(0,.dat (.sl ti) x0 true),(1,.fn 80 []),(7,.i .i64 x7),(8,.i .i64 x8)],[],0,19⟩ K = bindO (qak.l0 k n x0 x7 x8) (Sum.elim (fun x : Unit => K (.exit 0) ⟨[],[],0,19⟩) (fun x : Int => K .ret ⟨[(4,.i .i64 x)],[],0,19⟩))) (fun w117_1_0=>?_) (ind_ ?_ ?_)
 and_intros
 all_goals first|(dsimp only [SP.St,sp116,sp78,sp80,qjH,qmp,sp118,dN,dL,dI,dS,dG,dF,cN,oN]; intros; (first|unfold qeA.f|unfold qd7.f|unfold qdS.f|unfold qak.f|unfold qaL.f|unfold qdg.f); refine S.run_s rfl rfl ?_; (conv=>lhs;arg 5;whnf); conv=>lhs;arg 6;whnf)|(intros; rw [S.lp_zero]; exact qaO)|(intro n ih; intros; rw [qak.l0]; refine S.lp_succ ?_; conv=>lhs;arg 5;whnf)
 all_goals repeat' first|(first|refine S.seq_op rfl ?_|refine S.op_n ?_|refine S.block_x ?_|refine qcC ?_|refine qcD ?_|refine br_t (by assumption) ?_|refine br_f (by assumption) ?_|refine qbb (by with_reducible assumption) ?_|refine qcB (fun _=>?_) (fun _=>?_)|refine br_d (fun _=>?_) (fun _=>?_)|refine br_n (fun _=>?_) (fun _=>?_)|refine br_c (fun _=>?_) (fun _=>?_)|refine qcA fun _=>?_|refine qbb (by assumption) ?_|refine qcE fun _=>?_)<;>(conv=>lhs;whnf)|refine S.seq_nil ?_|refine S.reg_n ?_|refine S.region rfl ?_|refine S.two ?_|refine S.blok ?_|refine S.cond rfl ?_|refine S.after_n ?_|refine S.block_n ?_|refine S.block_r ?_|refine S.after_x ?_|refine S.after_r ?_|refine S.skip ?_|refine S.exit ?_|refine S.ret ?_|refine qcy (fun _=>?_) (fun _=>?_)|exact ih|refine (w117_1_0 _).trans ?_|refine S.region_d (id := 3) (ds := [0,1,3,7,15,31,63,127,255,511,1023,2047,4095,8191,16383,32767,65535,131071,262143,524287,65535,1114111,3211263,8388607,16777215,33554431,67108863]) (mds := [[],[],[],[],[],[],[],[],[],[],[],[],[],[],[],[],[],[],[],[],[],[],[],[],[],[],[]]) (hm := []) (by kernel_rfl) (by kernel_rfl) rfl rfl ?_|(first|refine S.loop ?_|refine S.back_n ?_|refine S.back_x ?_|refine S.back_r ?_|refine S.fin_r ?_|refine S.fin_n ?_|refine S.dk_n ?_|refine S.draw_nil ?_)<;>(conv=>lhs;whnf)|exact qcz rfl|exact qaO|(refine S.draw_op ?_; conv => lhs; whnf; arg 1; whnf)|refine qbc ?_|refine qaR ?_|refine qbC ?_|refine qaF ?_
theorem snd116 : Sound Tryz.prog 116 sp116.fs := sn_ qaf mixed Tryz.func116 (by kernel_rfl) rfl (qab _) (lp1 seals 0).1
theorem snd78 : Sound Tryz.prog 78 sp78.fs := sn_ qaf mixed Tryz.func78 (by kernel_rfl) rfl (qaa snd116 (qab _)) (lp1 seals 0).2.1
theorem snd80 (k : Nat) : Sound Tryz.prog 80 (sp80 k).fs := sn_ qaf mixed Tryz.func80 (by kernel_rfl) rfl (qaa (snd81 k) (qab _)) (lp1 seals k).2.2.1
theorem qoJ (k : Nat) : Sound Tryz.prog 117 (qjH k).fs := sn_ qaf mixed Tryz.func117 (by kernel_rfl) rfl (qaa (snd80 k) (qab _)) (lp1 seals k).2.2.2.1
theorem qp3 (k : Nat) : Sound Tryz.prog 79 (qmp k).fs := sn_ qaf mixed Tryz.func79 (by kernel_rfl) rfl (qaa (qoJ k) (qab _)) (lp1 seals k).2.2.2.2.1
theorem snd118 (k : Nat) : Sound Tryz.prog 118 (sp118 k).fs := sn_ qaf mixed Tryz.func118 (by kernel_rfl) rfl (qaa (snd81 k) (qab _)) (lp1 seals k).2.2.2.2.2
def lv119 : Live := look ⟨[],[],[],[],[]⟩ [(6,⟨[0,6,7,21,22,23],[6],[4,5],[],[]⟩),(1000000,⟨[],[],[],[(4,0,.own ti)],[]⟩)]
def g119 : FEnv := (fun _=>none)
def sp119 (k : Nat) : SP := .mk [.rd,.rd] (dL ti true (dL ti true dN)) oN fun (a0,a1,_) _ C => C _ (qbM.f k a0 a1) (fun x => .tup [.own 0,.i .i64 x.1]) fun x => [.row ti x.2 false]
def lv156 : Live := look ⟨[],[],[],[],[]⟩ [(3,⟨[1,5,8,9,10],[],[4],[],[]⟩)]
def g156 : FEnv := (fun _=>none)
def sp156 (k : Nat) : SP := .mk [.rd,.rd] (dL ti true (dI .i64 dN)) oN fun (a0,a1,_) _ C => C _ (qbi.f k a0 a1) (fun x => .b x) fun x => []
def lv120 : Live := look ⟨[],[],[],[],[]⟩ [(6,⟨[0,1,24,25,26],[],[6],[],[]⟩)]
def g120 (k : Nat) : FEnv := (addF 156 (sp156 k).fs (addF 81 (sp81 k).fs (fun _=>none)))
def sp120 (k : Nat) : SP := .mk [.rd,.rd,.rd] (dL ti true (dL ti true (dL ti true dN))) oN fun (a0,a1,a2,_) _ C => C _ (qcd.f k a0 a1 a2) (fun x => .i .i64 x) fun x => []
def lv134 : Live := look ⟨[],[],[],[],[]⟩ [(4,⟨[1,2,21,22,23],[],[6],[],[]⟩)]
def g134 : FEnv := (fun _=>none)
def sp134 (k : Nat) : SP := .mk [.rd,.rd,.rd] (dL ti true (dL ti true (dL ti true dN))) oN fun (a0,a1,a2,_) _ C => C _ (qbN.f k a0 a1 a2) (fun x => .i .i64 x) fun x => []
def lv161 : Live := look ⟨[],[],[],[],[]⟩ []
def g161 : FEnv := (fun _=>none)
def sp161 : SP := .mk [.rd] (dI .i64 dN) oN fun (a0,_) _ C => C _ (qda.f a0) (fun x => .b x) fun x => []
def lv136 : Live := look ⟨[],[],[],[],[]⟩ [(6,⟨[1,2,8,9,27,28,29],[9],[6,7],[],[]⟩),(1000000,⟨[],[],[],[(6,0,.own ti)],[]⟩)]
def g136 (k : Nat) : FEnv := (addF 81 (sp81 k).fs (addF 161 sp161.fs (fun _=>none)))
def sp136 (k : Nat) : SP := .mk [.rd,.rd,.rd] (dL ti true (dL ti true (dL ti true dN))) oN fun (a0,a1,a2,_) _ C => C _ (qbO.f k a0 a1 a2) (fun x => .tup [.own 0,.i .i64 x.1]) fun x => [.row ti x.2 false]
theorem lp2 (S : Seals) (k : Nat) : (sp119 k).St tt (g119) lv119 Tryz.f119 k ∧ (sp156 k).St tt (g156) lv156 Tryz.f156 k ∧ (sp120 k).St tt (g120 k) lv120 Tryz.f120 k ∧ (sp134 k).St tt (g134) lv134 Tryz.f134 k ∧ sp161.St tt (g161) lv161 Tryz.f161 k ∧ (sp136 k).St tt (g136 k) lv136 Tryz.f136 k := by
 refine cu_ (A := ∀ (n : Nat) {x0 x21 : LI} {x22 x23 : Int} {y0 : LI} {y1 : List Bool} {K : CK},S.lp tt (g119) lv119 0 n (loopN Tryz.f119 0) ⟨[(0,.dat ti x0 true),(6,.own 0),(7,.own 1),(21,.dat ti x21 true),(22,.i .i64 x22),(23,.i .i64 x23)],[(0,.row ti y0 false),(1,.row .bool y1 false)],2,54⟩ K = bindO (qbM.l0 n x0 x21 x22 x23 y0 y1) (Sum.elim (fun x : LI => K (.exit 0) ⟨[(6,.own 0)],[(0,.row ti x false)],1,54⟩) (fun x : Int => K .ret ⟨[(4,.nilsl),(5,.i .i64 x)],[],0,54⟩))) (fun w119_0=>?_) (ind_ ?_ ?_)
 refine cu_ (A := ∀ (n : Nat) {x1 x5 : Int} {x8 : LI} {x9 x10 : Int} {K : CK},S.lp tt (g156) lv156 0 n (loopN Tryz.f156 0) ⟨[(1,.i .i64 x1),(5,.i .i64 x5),(8,.dat ti x8 true),(9,.i .i64 x9),(10,.i .i64 x10)],[],0,24⟩ K = bindO (qbi.l0 n x1 x5 x8 x9 x10) (Sum.elim (fun x : Unit => K (.exit 0) ⟨[],[],0,24⟩) (fun x : Bool => K .ret ⟨[(4,.b x)],[],0,24⟩))) (fun w156_0=>?_) (ind_ ?_ ?_)
 refine cu_ (A := ∀ (n : Nat) {x0 x1 x24 : LI} {x25 x26 : Int} {K : CK},S.lp tt (g120 k) lv120 0 n (loopN Tryz.f120 0) ⟨[(0,.dat ti x0 true),(1,.dat ti x1 true),(24,.dat ti x24 true),(25,.i .i64 x25),(26,.i .i64 x26)],[],0,41⟩ K = bindO (qcd.l0 n x0 x1 x24 x25 x26) (Sum.elim (fun x : Unit => K (.exit 0) ⟨[],[],0,41⟩) (fun x : Int => K .ret ⟨[(6,.i .i64 x)],[],0,41⟩))) (fun w120_0=>?_) (ind_ ?_ ?_)
 refine cu_ (A := ∀ (n : Nat) {x1 x2 x21 : LI} {x22 x23 : Int} {K : CK},S.lp tt (g134) lv134 0 n (loopN Tryz.f134 0) ⟨[(1,.dat ti x1 true),(2,.dat ti x2 true),(21,.dat ti x21 true),(22,.i .i64 x22),(23,.i .i64 x23)],[],0,62⟩ K = bindO (qbN.l0 n x1 x2 x21 x22 x23) (Sum.elim (fun x : Unit => K (.exit 0) ⟨[],[],0,62⟩) (fun x : Int => K .ret ⟨[(6,.i .i64 x)],[],0,62⟩))) (fun w134_0=>?_) (ind_ ?_ ?_)
 refine cu_ (A := ∀ (n : Nat) {x1 x2 x27 : LI} {x28 x29 : Int} {y0 : LI} {K : CK},S.lp tt (g136 k) lv136 0 n (loopN Tryz.f136 0) ⟨[(1,.dat ti x1 true),(2,.dat ti x2 true),(8,.fn 161 []),(9,.own 0),(27,.dat ti x27 true),(28,.i .i64 x28),(29,.i .i64 x29)],[(0,.row ti y0 false)],1,69⟩ K = bindO (qbO.l0 n x1 x2 x27 x28 x29 y0) (Sum.elim (fun x : LI => K (.exit 0) ⟨[(9,.own 0)],[(0,.row ti x false)],1,69⟩) (fun x : Int => K .ret ⟨[(6,.nilsl),(7,.i .i64 x)],[],0,69⟩))) (fun w136_0=>?_) (ind_ ?_ ?_)
 and_intros
 all_goals first|(dsimp only [SP.St,sp119,sp156,sp120,sp134,sp161,sp136,dN,dL,dI,oN]; intros; (first|unfold qbM.f|unfold qbi.f|unfold qcd.f|unfold qbN.f|unfold qda.f|unfold qbO.f); refine S.run_s rfl rfl ?_; (conv=>lhs;arg 5;whnf); conv=>lhs;arg 6;whnf)|(intros; rw [S.lp_zero]; exact qaO)|(intro n ih; intros; (first|rw [qbM.l0]|rw [qbi.l0]|rw [qcd.l0]|rw [qbN.l0]|rw [qbO.l0]); refine S.lp_succ ?_; conv=>lhs;arg 5;whnf)
 all_goals repeat' first|(first|refine S.seq_op rfl ?_|refine S.op_n ?_|refine S.block_x ?_|refine qcC ?_|refine qcD ?_|refine br_t (by assumption) ?_|refine br_f (by assumption) ?_|refine qbb (by with_reducible assumption) ?_|refine qcB (fun _=>?_) (fun _=>?_)|refine br_d (fun _=>?_) (fun _=>?_)|refine br_n (fun _=>?_) (fun _=>?_)|refine br_c (fun _=>?_) (fun _=>?_)|refine qcA fun _=>?_|refine qbb (by assumption) ?_|refine qcE fun _=>?_)<;>(conv=>lhs;whnf)|refine S.seq_nil ?_|refine S.reg_n ?_|refine S.region rfl ?_|refine S.two ?_|refine S.blok ?_|refine S.cond rfl ?_|refine S.after_n ?_|refine S.block_n ?_|refine S.block_r ?_|refine S.after_x ?_|refine S.after_r ?_|refine S.skip ?_|refine S.exit ?_|refine S.ret ?_|refine qcy (fun _=>?_) (fun _=>?_)|exact ih|refine (w119_0 _).trans ?_|refine (w156_0 _).trans ?_|refine (w120_0 _).trans ?_|refine (w134_0 _).trans ?_|refine (w136_0 _).trans ?_|refine S.region_d (id := 8) (ds := [0,0,3,7,0,0,48,112,255]) (mds := [[],[],[],[],[],[],[],[],[]]) (hm := []) (by kernel_rfl) (by kernel_rfl) rfl rfl ?_|refine S.region_d (id := 6) (ds := [0,0,3,7,15,31,63,63,255,511,63,2047,4095,8191,16383,16383,65535,131071,262143,524287,1048575,2097151,2097151,8388607,16777215,2097151,2097151,2097151,203423743,471859199,1042284543,2147483647,4294967295]) (mds := [[],[],[],[],[],[],[],[],[],[],[],[],[],[],[],[],[],[],[],[],[],[],[],[],[],[],[],[],[],[],[],[],[]]) (hm := []) (by kernel_rfl) (by kernel_rfl) rfl rfl ?_|refine S.region_d (id := 10) (ds := [0,0,0,0,12,28,0,124,0,0,768,1792,4092,8191,16383]) (mds := [[],[],[],[],[],[],[],[],[],[],[],[],[],[],[0]]) (hm := [(14,[0])]) (by kernel_rfl) (by kernel_rfl) rfl rfl ?_|(first|refine S.loop ?_|refine S.back_n ?_|refine S.back_x ?_|refine S.back_r ?_|refine S.fin_r ?_|refine S.fin_n ?_|refine S.dk_n ?_|refine S.draw_nil ?_)<;>(conv=>lhs;whnf)|exact qcz rfl|exact qaO|(refine S.draw_op ?_; conv => lhs; whnf; arg 1; whnf)|refine qbc ?_|refine qaR ?_|refine qbC ?_|refine qaF ?_
theorem snd119 (k : Nat) : Sound Tryz.prog 119 (sp119 k).fs := sn_ qaf mixed Tryz.func119 (by kernel_rfl) rfl (qab _) (lp2 seals k).1
theorem snd156 (k : Nat) : Sound Tryz.prog 156 (sp156 k).fs := sn_ qaf mixed Tryz.func156 (by kernel_rfl) rfl (qab _) (lp2 seals k).2.1
theorem snd120 (k : Nat) : Sound Tryz.prog 120 (sp120 k).fs := sn_ qaf mixed Tryz.func120 (by kernel_rfl) rfl (qaa (snd156 k) (qaa (snd81 k) (qab _))) (lp2 seals k).2.2.1
theorem snd134 (k : Nat) : Sound Tryz.prog 134 (sp134 k).fs := sn_ qaf mixed Tryz.func134 (by kernel_rfl) rfl (qab _) (lp2 seals k).2.2.2.1
theorem snd161 : Sound Tryz.prog 161 sp161.fs := sn_ qaf mixed Tryz.func161 (by kernel_rfl) rfl (qab _) (lp2 seals 0).2.2.2.2.1
theorem snd136 (k : Nat) : Sound Tryz.prog 136 (sp136 k).fs := sn_ qaf mixed Tryz.func136 (by kernel_rfl) rfl (qaa (snd81 k) (qaa snd161 (qab _))) (lp2 seals k).2.2.2.2.2
def lv121 : Live := look ⟨[],[],[],[],[]⟩ [(1000000,⟨[],[],[],[(4,0,.dat ti),(4,0,.fz ti)],[]⟩)]
def g121 (k : Nat) : FEnv := (addF 136 (sp136 k).fs (addF 134 (sp134 k).fs (fun _=>none)))
def sp121 (k : Nat) : SP := .mk [.st,.st] (dG (dI .i64 (dL ti false (dL ti false (dL ti false (dI .i64 (dI .i64 (dS dN))))))) (dL ti false dN)) oN fun ((a0_0,a0_1,a0_2,a0_3,a0_4,a0_5,a0_6,_),a1,_) _ C => C _ (qez.f k a0_0 a0_1 a0_2 a0_3 a0_4 a0_5 a0_6 a1) (fun x => .tup [.dat ti x.1 false,.i .i64 x.2]) fun x => []
theorem lp3 (S : Seals) (k : Nat) : (sp121 k).St tt (g121 k) lv121 Tryz.f121 k := by
 all_goals (dsimp only [SP.St,sp121,dN,dL,dI,dS,dG,oN]; intros; unfold qez.f; refine S.run_s rfl rfl ?_; (conv=>lhs;arg 5;whnf); conv=>lhs;arg 6;whnf)
 all_goals repeat' first|(first|refine S.seq_op rfl ?_|refine S.op_n ?_|refine S.block_x ?_|refine qcC ?_|refine qcD ?_|refine br_t (by assumption) ?_|refine br_f (by assumption) ?_|refine qbb (by with_reducible assumption) ?_|refine qcB (fun _=>?_) (fun _=>?_)|refine br_d (fun _=>?_) (fun _=>?_)|refine br_n (fun _=>?_) (fun _=>?_)|refine br_c (fun _=>?_) (fun _=>?_)|refine qcA fun _=>?_|refine qbb (by assumption) ?_|refine qcE fun _=>?_)<;>(conv=>lhs;whnf)|refine S.seq_nil ?_|refine S.reg_n ?_|refine S.region rfl ?_|refine S.two ?_|refine S.blok ?_|refine S.cond rfl ?_|refine S.after_n ?_|refine S.block_n ?_|refine S.block_r ?_|refine S.after_x ?_|refine S.after_r ?_|refine S.skip ?_|refine S.exit ?_|refine S.ret ?_|refine qcy (fun _=>?_) (fun _=>?_)|refine S.region_d (id := 3) (ds := [0,1,0,4,15,0,32,0,128,480,31,2047]) (mds := [[],[],[],[],[],[],[],[],[],[],[],[]]) (hm := []) (by kernel_rfl) (by kernel_rfl) rfl rfl ?_|(first|refine S.loop ?_|refine S.back_n ?_|refine S.back_x ?_|refine S.back_r ?_|refine S.fin_r ?_|refine S.fin_n ?_|refine S.dk_n ?_|refine S.draw_nil ?_)<;>(conv=>lhs;whnf)|exact qcz rfl|exact qaO|(refine S.draw_op ?_; conv => lhs; whnf; arg 1; whnf)|refine qbc ?_|refine qaR ?_|refine qbC ?_|refine qaF ?_
theorem snd121 (k : Nat) : Sound Tryz.prog 121 (sp121 k).fs := sn_ qaf mixed Tryz.func121 (by kernel_rfl) rfl (qaa (snd136 k) (qaa (snd134 k) (qab _))) (lp3 seals k)
end
end Go.Vm
