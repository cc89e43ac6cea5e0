/- Own texts put together: the walks -/
import Derived.Test.YtcpgpddecdlocaaWk0
import Derived.Test.YtcpgpddecdlocaaVm1
set_option linter.unusedVariables false
set_option maxRecDepth 60000
set_option maxHeartbeats 40000000
namespace Go.Vm
open Go Go.Proofs Go.Pf
noncomputable section

def lv71 : Live := look ⟨[],[],[],[],[]⟩ []
def g71 (k : Nat) : FEnv := (addF 77 (sp77 k).fs (fun _=>none))
def sp71 (k : Nat) : SP := .mk [.rd,.rd] (dG (dL ti true (dL ti true dN)) (dL ti true dN)) oN fun ((a0_0,a0_1,_),a1,_) _ C => C _ (qgf.f k a0_0 a0_1 a1) (fun x => .i .i64 x) fun x => []
def lv70 : Live := look ⟨[],[],[],[],[]⟩ [(2,⟨[0,2,7,8,9],[0,2],[4],[],[]⟩)]
def g70 (k : Nat) : FEnv := (addF 71 (sp71 k).fs (fun _=>none))
def sp70 (k : Nat) : SP := .mk [.kp,.kp,.kp] (dO 0 (dP 1 0 (dP 2 0 dN))) (oR ti false (oV (cD ti true cN) (oV (cD ti true (cD ti true cN)) oN))) fun _ (o0,(o1,_),(o2_0,o2_1,_),_) C => C _ (qaQ.f k o0 o1 o2_0 o2_1) (fun x => .i .i64 x.1) fun x => [.row ti x.2 false,.var [.dat ti o1 true],.var [.dat ti o2_0 true,.dat ti o2_1 true]]
theorem lp1000 (S : Seals) (k : Nat) : (sp71 k).St tt (g71 k) lv71 Try.f71 k ∧ (sp70 k).St tt (g70 k) lv70 Try.f70 k := by
 refine cu_ (A := ∀ (n : Nat) {x7 : LI} {x8 x9 : Int} {y0 y1 : LI} {y2_0 y2_1 : LI} {K : CK},S.lp tt (g70 k) lv70 3 n (loopN Try.f70 0) ⟨[(0,.own 0),(2,.ptr 2 0),(7,.dat ti x7 true),(8,.i .i64 x8),(9,.i .i64 x9)],[(0,.row ti y0 false),(1,.var [.dat ti y1 true]),(2,.var [.dat ti y2_0 true,.dat ti y2_1 true])],3,25⟩ K = bindO (qaQ.l0 n x7 x8 x9 y0 y1 y2_0 y2_1) (fun x : LI => K (.exit 0) ⟨[(0,.own 0),(2,.ptr 2 0)],[(0,.row ti x false),(1,.var [.dat ti y1 true]),(2,.var [.dat ti y2_0 true,.dat ti y2_1 true])],3,25⟩)) (fun w70_0=>?_) (ind_ ?_ ?_)
 and_intros
 all_goals first|(dsimp only [SP.St,sp71,sp70,dN,dL,dO,dP,dG,cN,cD,oN,oR,oV]; intros; (first|unfold qgf.f|unfold qaQ.f); refine S.run_s rfl rfl ?_; (conv=>lhs;arg 5;whnf); conv=>lhs;arg 6;whnf)|(intros; rw [S.lp_zero]; exact qbg)|(intro n ih; intros; rw [qaQ.l0]; refine S.lp_succ ?_; conv=>lhs;arg 5;whnf)
 all_goals repeat' first|(first|refine S.seq_op rfl ?_|refine S.op_n ?_|refine S.block_x ?_|refine qdW ?_|refine qdX ?_|refine br_t (by assumption) ?_|refine br_f (by assumption) ?_|refine qbE (by with_reducible assumption) ?_|refine qdV (fun _=>?_) (fun _=>?_)|refine br_d (fun _=>?_) (fun _=>?_)|refine br_n (fun _=>?_) (fun _=>?_)|refine br_c (fun _=>?_) (fun _=>?_)|refine qdN fun _=>?_|refine qbE (by assumption) ?_|refine qdY fun _=>?_)<;>(conv=>lhs;whnf)|refine S.seq_nil ?_|refine S.reg_n ?_|refine S.region rfl ?_|refine S.two ?_|refine S.blok ?_|refine S.cond rfl ?_|refine S.after_n ?_|refine S.block_n ?_|refine S.block_r ?_|refine S.after_x ?_|refine S.after_r ?_|refine S.skip ?_|refine S.exit ?_|refine S.ret ?_|refine qdG (fun _=>?_) (fun _=>?_)|exact ih|refine (w70_0 _).trans ?_|(first|refine S.loop ?_|refine S.back_n ?_|refine S.back_x ?_|refine S.back_r ?_|refine S.fin_r ?_|refine S.fin_n ?_|refine S.dk_n ?_|refine S.draw_nil ?_)<;>(conv=>lhs;whnf)|exact qdM rfl|exact qbg|(refine S.draw_op ?_; conv => lhs; whnf; arg 1; whnf)|refine qbG ?_|refine qbo ?_|refine qcm ?_|refine qbd ?_
theorem snd71 (k : Nat) : Sound Try.prog 71 (sp71 k).fs := sn_ qam mixed Try.func71 (by kernel_rfl) rfl (qaa (snd77 k) (qac _)) (lp1000 seals k).1
theorem snd70 (k : Nat) : Sound Try.prog 70 (sp70 k).fs := sn_ qam mixed Try.func70 (by kernel_rfl) rfl (qaa (snd71 k) (qac _)) (lp1000 seals k).2
def lv76 : Live := look ⟨[],[],[],[],[]⟩ [(1000000,⟨[],[],[],[(2,0,.own ti)],[]⟩)]
noncomputable def g76 : FEnv := (fun _=>none)
theorem en76 : EnvOK Try.prog (g76) := (qac _)
theorem r76 (S : Seals) (k : Nat) (a0 : LI) : runF tt (g76) lv76 Try.f76 k [.dat ti a0 true] [] = bindO (qa3.f a0) (fun x : LI => some (.own 0,[.row ti x false])) := by
 unfold qa3.f; cases a0
 ·rw [if_pos (by decide)]; refine S.run_s rfl rfl ?_; conv => lhs; arg 5; whnf
  conv => lhs; arg 6; whnf
  repeat' first|(first|refine qbE (by decide) ?_|refine S.seq_op rfl ?_|refine S.op_n ?_|refine S.block_x ?_|refine qdW ?_|refine qdX ?_|refine br_t (by assumption) ?_|refine br_f (by assumption) ?_|refine qbE (by with_reducible assumption) ?_|refine qdV (fun _=>?_) (fun _=>?_)|refine br_d (fun _=>?_) (fun _=>?_)|refine br_n (fun _=>?_) (fun _=>?_)|refine br_c (fun _=>?_) (fun _=>?_)|refine qdN fun _=>?_|refine qbE (by assumption) ?_|refine qdY fun _=>?_)<;>(conv=>lhs;whnf)|refine S.seq_nil ?_|refine S.reg_n ?_|refine S.region rfl ?_|refine S.two ?_|refine S.blok ?_|refine S.cond rfl ?_|refine S.after_n ?_|refine S.block_n ?_|refine S.block_r ?_|refine S.after_x ?_|refine S.after_r ?_|refine S.skip ?_|refine S.exit ?_|refine S.ret ?_|refine qdG (fun _=>?_) (fun _=>?_)|refine qk8 ?_ ?_|(first|refine S.loop ?_|refine S.back_n ?_|refine S.back_x ?_|refine S.back_r ?_|refine S.fin_r ?_|refine S.fin_n ?_|refine S.dk_n ?_|refine S.draw_nil ?_)<;>(conv=>lhs;whnf)|exact qdM rfl|exact qbg|(refine S.draw_op ?_; conv => lhs; whnf; arg 1; whnf)|refine qbG ?_|refine qbo ?_|refine qcm ?_|refine qbd ?_
 ·refine S.run_s rfl rfl ?_; conv => lhs; arg 5; whnf
  conv => lhs; arg 6; whnf
  repeat' first|(first|refine S.seq_op rfl ?_|refine S.op_n ?_|refine S.block_x ?_|refine qdW ?_|refine qdX ?_|refine br_t (by assumption) ?_|refine br_f (by assumption) ?_|refine qbE (by with_reducible assumption) ?_|refine qdV (fun _=>?_) (fun _=>?_)|refine br_d (fun _=>?_) (fun _=>?_)|refine br_n (fun _=>?_) (fun _=>?_)|refine br_c (fun _=>?_) (fun _=>?_)|refine qdN fun _=>?_|refine qbE (by assumption) ?_|refine qdY fun _=>?_)<;>(conv=>lhs;whnf)|refine S.seq_nil ?_|refine S.reg_n ?_|refine S.region rfl ?_|refine S.two ?_|refine S.blok ?_|refine S.cond rfl ?_|refine S.after_n ?_|refine S.block_n ?_|refine S.block_r ?_|refine S.after_x ?_|refine S.after_r ?_|refine S.skip ?_|refine S.exit ?_|refine S.ret ?_|refine qdG (fun _=>?_) (fun _=>?_)|(first|refine S.loop ?_|refine S.back_n ?_|refine S.back_x ?_|refine S.back_r ?_|refine S.fin_r ?_|refine S.fin_n ?_|refine S.dk_n ?_|refine S.draw_nil ?_)<;>(conv=>lhs;whnf)|exact qdM rfl|exact qbg|(refine S.draw_op ?_; conv => lhs; whnf; arg 1; whnf)|refine qbG ?_|refine qbo ?_|refine qcm ?_|refine qbd ?_
def sp76 : FSpec := ⟨[.rd],fun args objs K => match args,objs with | [v0],[] => listB ti true v0 fun a0 => bindO (qa3.f a0) fun x : LI => K (.own 0) [.row ti x false] | _,_ => none⟩
theorem snd76 : Sound Try.prog 76 (sp76) := by
 refine ⟨⟨Try.f76,Try.func76,by kernel_rfl,rfl⟩,fun args objs K r h => ?_⟩
 unfold sp76 at h; dsimp only at h; split at h
 ·rename_i v0
  obtain ⟨a0,h9,ca0⟩ := qgE h; clear h
  have h := h9; clear h9
  obtain ⟨x,hx,h⟩ := qgL h
  exact ⟨_,_,h,FnOK.args2 (qdv ca0 qkm) (qjE qam (en76) mixed Try.func76 ((r76 seals 0 a0).trans (qfy hx)))⟩
 ·cases h

def qkq : Live := look ⟨[],[],[],[],[]⟩ [(3,⟨[0,1,4,5,15,16],[4,5],[4],[],[]⟩)]
def qk3 (k : Nat) : FEnv := (addF 70 (sp70 k).fs (addF 43 (sp43 k).fs (addF 60 (sp60 k).fs (addF 76 sp76 (fun _=>none)))))
def qir (k : Nat) : SP := .mk [.kp,.kp] (dL ti true (dF 70 (cP 0 0 (cP 1 0 cN)) dN)) (oV (cD ti true cN) (oV (cD ti true (cD ti true cN)) oN)) fun (a0,_,_) ((o0,_),(o1_0,o1_1,_),_) C => C _ (qai.f k a0 o0 o1_0 o1_1) (fun x => .agg [.own 2,.own 3]) fun x => [.var [.dat ti o0 true],.var [.dat ti o1_0 true,.dat ti o1_1 true],.row ti x.1 false,.row ti x.2 false]
def lv69 : Live := look ⟨[],[],[],[],[]⟩ [(4,⟨[1,2,21,22,23],[],[6],[],[]⟩)]
def g69 : FEnv := (fun _=>none)
def sp69 (k : Nat) : SP := .mk [.rd,.rd,.rd] (dL ti true (dL ti true (dL ti true dN))) oN fun (a0,a1,a2,_) _ C => C _ (qa0.f k a0 a1 a2) (fun x => .i .i64 x) fun x => []
def lv56 : Live := look ⟨[],[],[],[],[]⟩ [(1000000,⟨[],[],[],[(6,0,.own ti),(6,1,.own ti)],[]⟩)]
def g56 (k : Nat) : FEnv := (addF 66 (qir k).fs (addF 69 (sp69 k).fs (addF 36 (sp36 k).fs (fun _=>none))))
def sp56 (k : Nat) : SP := .mk [.rd,.rd,.rd] (dG (dL ti true (dL ti true dN)) (dL ti true (dL ti true dN))) oN fun ((a0_0,a0_1,_),a1,a2,_) _ C => C _ (qcL.f k a0_0 a0_1 a1 a2) (fun x => .tup [.agg [.own 0,.own 1],.i .i64 x.1]) fun x => [.row ti x.2.1 false,.row ti x.2.2 false]
def lv25 : Live := look ⟨[],[],[],[],[]⟩ [(1000000,⟨[],[],[],[(8,0,.own ti),(8,1,.own ti)],[]⟩)]
def g25 (k : Nat) : FEnv := (addF 56 (sp56 k).fs (addF 38 (sp38 k).fs (addF 42 (sp42 k).fs (addF 32 (sp32 k).fs (addF 31 (sp31 k).fs (fun _=>none))))))
def sp25 (k : Nat) : SP := .mk [.rd,.rd,.rd,.rd] (dG (dL ti true (dL ti true dN)) (dL ti true (dL ti true (dI .i64 dN)))) oN fun ((a0_0,a0_1,_),a1,a2,a3,_) _ C => C _ (qb8.f k a0_0 a0_1 a1 a2 a3) (fun x => .tup [.agg [.own 0,.own 1],.i .i64 x.1]) fun x => [.row ti x.2.1 false,.row ti x.2.2 false]
def lv13 : Live := look ⟨[],[],[],[],[]⟩ [(6,⟨[1,2,3,9,21,22],[9],[6,7],[(9,0,.own (.pair (.sl ti) (.sl ti)))],[]⟩),(1000000,⟨[],[],[],[(6,0,.own (.pair (.sl ti) (.sl ti)))],[]⟩)]
def g13 (k : Nat) : FEnv := (addF 25 (sp25 k).fs (addF 32 (sp32 k).fs (addF 31 (sp31 k).fs (fun _=>none))))
def sp13 (k : Nat) : SP := .mk [.rd,.rd,.rd] (dG (dL ti true (dL ti true dN)) (dL ti true (dL ti true dN))) oN fun ((a0_0,a0_1,_),a1,a2,_) _ C => C _ (qa9.f k a0_0 a0_1 a1 a2) (fun x => .tup [.own 0,.i .i64 x.1]) fun x => [.row (.pair (.sl ti) (.sl ti)) x.2 false]
def lv61 : Live := look ⟨[],[],[],[],[]⟩ [(4,⟨[0,1,12,13],[],[4],[],[]⟩)]
def g61 : FEnv := (fun _=>none)
def sp61 (k : Nat) : SP := .mk [.rd,.rd] (dL ti true (dL ti true dN)) oN fun (a0,a1,_) _ C => C _ (qav.f k a0 a1) (fun x => .b x) fun x => []
def lv37 : Live := look ⟨[],[],[],[],[]⟩ []
def g37 (k : Nat) : FEnv := (addF 61 (sp61 k).fs (fun _=>none))
def sp37 (k : Nat) : SP := .mk [.rd,.rd] (dL ti true (dL ti true dN)) oN fun (a0,a1,_) _ C => C _ (qb9.f k a0 a1) (fun x => .b x) fun x => []
def lv63 : Live := look ⟨[],[],[],[],[]⟩ [(4,⟨[0,1,12,13],[],[4],[],[]⟩)]
def g63 : FEnv := (fun _=>none)
def sp63 (k : Nat) : SP := .mk [.rd,.rd] (dL ti true (dL ti true dN)) oN fun (a0,a1,_) _ C => C _ (qan.f k a0 a1) (fun x => .b x) fun x => []
def lv39 : Live := look ⟨[],[],[],[],[]⟩ []
def g39 (k : Nat) : FEnv := (addF 63 (sp63 k).fs (addF 37 (sp37 k).fs (fun _=>none)))
def sp39 (k : Nat) : SP := .mk [.rd,.rd] (dG (dL ti true (dL ti true dN)) (dG (dL ti true (dL ti true dN)) dN)) oN fun ((a0_0,a0_1,_),(a1_0,a1_1,_),_) _ C => C _ (qce.f k a0_0 a0_1 a1_0 a1_1) (fun x => .b x) fun x => []
theorem lp1001 (S : Seals) (k : Nat) : (qir k).St tt (qk3 k) qkq Try.f66 k ∧ (sp69 k).St tt (g69) lv69 Try.f69 k ∧ (sp56 k).St tt (g56 k) lv56 Try.f56 k ∧ (sp25 k).St tt (g25 k) lv25 Try.f25 k ∧ (sp13 k).St tt (g13 k) lv13 Try.f13 k ∧ (sp61 k).St tt (g61) lv61 Try.f61 k ∧ (sp37 k).St tt (g37 k) lv37 Try.f37 k ∧ (sp63 k).St tt (g63) lv63 Try.f63 k ∧ (sp39 k).St tt (g39 k) lv39 Try.f39 k := by
 refine cu_ (A := ∀ (n : Nat) {x0 : LI} {x15 x16 : Int} {y0 y1_0 : LI} {y1_1 y4 y5 : LI} {K : CK},S.lp tt (qk3 k) qkq 2 n (loopN Try.f66 0) ⟨[(0,.dat ti x0 true),(1,.fn 70 [.ptr 0 0,.ptr 1 0]),(4,.ptr 2 0),(5,.ptr 3 0),(15,.i .i64 x15),(16,.i .i64 x16)],[(0,.var [.dat ti y0 true]),(1,.var [.dat ti y1_0 true,.dat ti y1_1 true]),(2,.var [.nilsl,.nilsl]),(3,.var [.own 4,.own 5]),(4,.row ti y4 false),(5,.row ti y5 false)],6,30⟩ K = bindO (qai.l0 k n x0 x15 x16 y0 y1_0 y1_1 y4 y5) (fun x : LI => K (.exit 0) ⟨[(4,.ptr 2 0),(5,.ptr 3 0)],[(0,.var [.dat ti y0 true]),(1,.var [.dat ti y1_0 true,.dat ti y1_1 true]),(2,.var [.nilsl,.nilsl]),(3,.var [.own 4,.own 5]),(4,.row ti y4 false),(5,.row ti x false)],6,30⟩)) (fun w66_1_0=>?_) (ind_ ?_ ?_)
 refine cu_ (A := ∀ (n : Nat) {x1 x2 x21 : LI} {x22 x23 : Int} {K : CK},S.lp tt (g69) lv69 0 n (loopN Try.f69 0) ⟨[(1,.dat ti x1 true),(2,.dat ti x2 true),(21,.dat ti x21 true),(22,.i .i64 x22),(23,.i .i64 x23)],[],0,62⟩ K = bindO (qa0.l0 n x1 x2 x21 x22 x23) (Sum.elim (fun x : Unit => K (.exit 0) ⟨[],[],0,62⟩) (fun x : Int => K .ret ⟨[(6,.i .i64 x)],[],0,62⟩))) (fun w69_0=>?_) (ind_ ?_ ?_)
 refine cu_ (A := ∀ (n : Nat) {x1 x2 : LI} {x21 x22 : Int} {y0_0 y0_1 : LI} {y1 : List LT} {K : CK},S.lp tt (g13 k) lv13 0 n (loopN Try.f13 0) ⟨[(1,.dat ti x1 true),(2,.dat ti x2 true),(3,.ptr 0 0),(9,.own 1),(21,.i .i64 x21),(22,.i .i64 x22)],[(0,.var [.dat ti y0_0 true,.dat ti y0_1 true]),(1,.row (.pair (.sl ti) (.sl ti)) y1 false)],2,42⟩ K = bindO (qa9.l0 k n x1 x2 x21 x22 y0_0 y0_1 y1) (Sum.elim (fun x : (List LT) => K (.exit 0) ⟨[(9,.own 0)],[(0,.row (.pair (.sl ti) (.sl ti)) x false)],1,42⟩) (fun x : Int => K .ret ⟨[(6,.nilsl),(7,.i .i64 x)],[],0,42⟩))) (fun w13_0=>?_) (ind_ ?_ ?_)
 refine cu_ (A := ∀ (n : Nat) {x0 x1 : LI} {x12 x13 : Int} {K : CK},S.lp tt (g61) lv61 0 n (loopN Try.f61 0) ⟨[(0,.dat ti x0 true),(1,.dat ti x1 true),(12,.i .i64 x12),(13,.i .i64 x13)],[],0,26⟩ K = bindO (qav.l0 n x0 x1 x12 x13) (Sum.elim (fun x : Unit => K (.exit 0) ⟨[],[],0,26⟩) (fun x : Bool => K .ret ⟨[(4,.b x)],[],0,26⟩))) (fun w61_0=>?_) (ind_ ?_ ?_)
 refine cu_ (A := ∀ (n : Nat) {x0 x1 : LI} {x12 x13 : Int} {K : CK},S.lp tt (g63) lv63 0 n (loopN Try.f63 0) ⟨[(0,.dat ti x0 true),(1,.dat ti x1 true),(12,.i .i64 x12),(13,.i .i64 x13)],[],0,26⟩ K = bindO (qan.l0 n x0 x1 x12 x13) (Sum.elim (fun x : Unit => K (.exit 0) ⟨[],[],0,26⟩) (fun x : Bool => K .ret ⟨[(4,.b x)],[],0,26⟩))) (fun w63_0=>?_) (ind_ ?_ ?_)
 and_intros
 all_goals first|(dsimp only [SP.St,qir,sp69,sp56,sp25,sp13,sp61,sp37,sp63,sp39,dN,dL,dI,dG,dF,cN,cD,cP,oN,oV]; intros; (first|unfold qai.f|unfold qa0.f|unfold qcL.f|unfold qb8.f|unfold qa9.f|unfold qav.f|unfold qb9.f|unfold qan.f|unfold qce.f); refine S.run_s rfl rfl ?_; (conv=>lhs;arg 5;whnf); conv=>lhs;arg 6;whnf)|(intros; rw [S.lp_zero]; exact qbg)|(intro n ih; intros; (first|rw [qai.l0]|rw [qa0.l0]|rw [qa9.l0]|rw [qav.l0]|rw [qan.l0]); refine S.lp_succ ?_; conv=>lhs;arg 5;whnf)
 all_goals repeat' first|(first|refine S.seq_op rfl ?_|refine S.op_n ?_|refine S.block_x ?_|refine qdW ?_|refine qdX ?_|refine br_t (by assumption) ?_|refine br_f (by assumption) ?_|refine qbE (by with_reducible assumption) ?_|refine qdV (fun _=>?_) (fun _=>?_)|refine br_d (fun _=>?_) (fun _=>?_)|refine br_n (fun _=>?_) (fun _=>?_)|refine br_c (fun _=>?_) (fun _=>?_)|refine qdN fun _=>?_|refine qbE (by assumption) ?_|refine qdY fun _=>?_)<;>(conv=>lhs;whnf)|refine S.seq_nil ?_|refine S.reg_n ?_|refine S.region rfl ?_|refine S.two ?_|refine S.blok ?_|refine S.cond rfl ?_|refine S.after_n ?_|refine S.block_n ?_|refine S.block_r ?_|refine S.after_x ?_|refine S.after_r ?_|refine S.skip ?_|refine S.exit ?_|refine S.ret ?_|refine qdG (fun _=>?_) (fun _=>?_)|refine S.region_d (id := 5) (ds := [0,1,0,0,0,0,48,120,255,511]) (mds := [[],[],[],[],[],[],[],[0,1],[],[5]]) (hm := [(7,[0,1]),(9,[5])]) (by kernel_rfl) (by kernel_rfl) rfl rfl ?_|exact ih|refine (w66_1_0 _).trans ?_|refine (w69_0 _).trans ?_|refine (w13_0 _).trans ?_|refine (w61_0 _).trans ?_|refine (w63_0 _).trans ?_|refine S.region_d (id := 6) (ds := [0,0,3,7,15,31,63,63,255,511,63,2047,4095,8191,16383,16383,65535,131071,262143,524287,1048575,2097151,2097151,8388607,16777215,2097151,2097151,2097151,203423743,471859199,1042284543,2147483647,4294967295]) (mds := [[],[],[],[],[],[],[],[],[],[],[],[],[],[],[],[],[],[],[],[],[],[],[],[],[],[],[],[],[],[],[],[],[]]) (hm := []) (by kernel_rfl) (by kernel_rfl) rfl rfl ?_|refine S.region_d (id := 6) (ds := [0,0,2,0,0,0,62,0,128,0,0,0,4094,8191,16383,16383,65535,131071]) (mds := [[],[],[],[],[],[],[],[],[],[],[],[],[],[],[],[],[1],[]]) (hm := [(16,[1])]) (by kernel_rfl) (by kernel_rfl) rfl rfl ?_|refine S.region_d (id := 6) (ds := [0,0,3,7,0,0,48,112,255]) (mds := [[],[],[],[],[],[],[],[],[]]) (hm := []) (by kernel_rfl) (by kernel_rfl) rfl rfl ?_|(first|refine S.loop ?_|refine S.back_n ?_|refine S.back_x ?_|refine S.back_r ?_|refine S.fin_r ?_|refine S.fin_n ?_|refine S.dk_n ?_|refine S.draw_nil ?_)<;>(conv=>lhs;whnf)|exact qdM rfl|exact qbg|(refine S.draw_op ?_; conv => lhs; whnf; arg 1; whnf)|refine qbG ?_|refine qbo ?_|refine qcm ?_|refine qbd ?_
theorem qkA (k : Nat) : Sound Try.prog 66 (qir k).fs := sn_ qam mixed Try.func66 (by kernel_rfl) rfl (qaa (snd70 k) (qaa (snd43 k) (qaa (snd60 k) (qaa snd76 (qac _))))) (lp1001 seals k).1
theorem snd69 (k : Nat) : Sound Try.prog 69 (sp69 k).fs := sn_ qam mixed Try.func69 (by kernel_rfl) rfl (qac _) (lp1001 seals k).2.1
theorem snd56 (k : Nat) : Sound Try.prog 56 (sp56 k).fs := sn_ qam mixed Try.func56 (by kernel_rfl) rfl (qaa (qkA k) (qaa (snd69 k) (qaa (snd36 k) (qac _)))) (lp1001 seals k).2.2.1
theorem snd25 (k : Nat) : Sound Try.prog 25 (sp25 k).fs := sn_ qam mixed Try.func25 (by kernel_rfl) rfl (qaa (snd56 k) (qaa (snd38 k) (qaa (snd42 k) (qaa (snd32 k) (qaa (snd31 k) (qac _)))))) (lp1001 seals k).2.2.2.1
theorem snd13 (k : Nat) : Sound Try.prog 13 (sp13 k).fs := sn_ qam mixed Try.func13 (by kernel_rfl) rfl (qaa (snd25 k) (qaa (snd32 k) (qaa (snd31 k) (qac _)))) (lp1001 seals k).2.2.2.2.1
theorem snd61 (k : Nat) : Sound Try.prog 61 (sp61 k).fs := sn_ qam mixed Try.func61 (by kernel_rfl) rfl (qac _) (lp1001 seals k).2.2.2.2.2.1
theorem snd37 (k : Nat) : Sound Try.prog 37 (sp37 k).fs := sn_ qam mixed Try.func37 (by kernel_rfl) rfl (qaa (snd61 k) (qac _)) (lp1001 seals k).2.2.2.2.2.2.1
theorem snd63 (k : Nat) : Sound Try.prog 63 (sp63 k).fs := sn_ qam mixed Try.func63 (by kernel_rfl) rfl (qac _) (lp1001 seals k).2.2.2.2.2.2.2.1
theorem snd39 (k : Nat) : Sound Try.prog 39 (sp39 k).fs := sn_ qam mixed Try.func39 (by kernel_rfl) rfl (qaa (snd63 k) (qaa (snd37 k) (qac _))) (lp1001 seals k).2.2.2.2.2.2.2.2
def lv65 : Live := look ⟨[],[],[],[],[]⟩ [(5,⟨[0,5,18,19,20],[5],[4],[],[]⟩)]
def g65 (k : Nat) : FEnv := (addF 33 (sp33 k).fs (fun _=>none))
def sp65 (k : Nat) : SP := .mk [.rd,.rd] (dL ti true (dL ti true dN)) oN fun (a0,a1,_) _ C => C _ (qbK.f k a0 a1) (fun x => .i .i64 x) fun x => []
def lv40 : Live := look ⟨[],[],[],[],[]⟩ [(5,⟨[0,1,7,29,30],[0,7],[6],[],[]⟩)]
def g40 (k : Nat) : FEnv := (addF 65 (sp65 k).fs (addF 59 (sp59 k).fs (addF 64 (sp64 k).fs (addF 32 (sp32 k).fs (addF 35 (sp35 k).fs (fun _=>none))))))
def sp40 (k : Nat) : SP := .mk [.rd,.rd,.rd] (dL ti true (dL ti true (dI .i64 dN))) oN fun (a0,a1,a2,_) _ C => C _ (qaX.f k a0 a1 a2) (fun x => .i .i64 x) fun x => []
def lv67 : Live := look ⟨[],[],[],[],[]⟩ []
def g67 : FEnv := (fun _=>none)
def sp67 : SP := .mk [.rd,.rd] (dL ti true (dP 0 0 dN)) (oV (cI .i64 cN) oN) fun (a0,_) ((o0,_),_) C => C _ (qb1.f a0 o0) (fun x => .i .i64 o0) fun x => [.var [.i .i64 o0]]
def qkp : Live := look ⟨[],[],[],[],[]⟩ [(3,⟨[0,1,4,5,15,16],[4,5],[4],[],[]⟩)]
def qk2 (k : Nat) : FEnv := (addF 67 sp67.fs (addF 43 (sp43 k).fs (addF 60 (sp60 k).fs (addF 76 sp76 (fun _=>none)))))
def qiq (k : Nat) : SP := .mk [.kp,.kp] (dL ti true (dF 67 (cP 0 0 cN) dN)) (oV (cI .i64 cN) oN) fun (a0,_,_) ((o0,_),_) C => C _ (qah.f k a0 o0) (fun x => .agg [.own 1,.own 2]) fun x => [.var [.i .i64 o0],.row ti x.1 false,.row ti x.2 false]
def lv41 : Live := look ⟨[],[],[],[],[]⟩ [(1000000,⟨[],[],[],[(4,0,.own ti),(4,1,.own ti)],[]⟩)]
def g41 (k : Nat) : FEnv := (addF 66 (qiq k).fs (addF 34 (sp34 k).fs (fun _=>none)))
def sp41 (k : Nat) : SP := .mk [.rd,.rd] (dL ti true (dI .i64 dN)) oN fun (a0,a1,_) _ C => C _ (qbM.f k a0 a1) (fun x => .tup [.agg [.own 0,.own 1],.i .i64 x.1]) fun x => [.row ti x.2.1 false,.row ti x.2.2 false]
theorem lp1002 (S : Seals) (k : Nat) : (sp65 k).St tt (g65 k) lv65 Try.f65 k ∧ (sp40 k).St tt (g40 k) lv40 Try.f40 k ∧ sp67.St tt (g67) lv67 Try.f67 k ∧ (qiq k).St tt (qk2 k) qkp Try.f66 k ∧ (sp41 k).St tt (g41 k) lv41 Try.f41 k := by
 refine cu_ (A := ∀ (n : Nat) {x0 : LI} {x5 : Int} {x18 : LI} {x19 x20 : Int} {K : CK},S.lp tt (g65 k) lv65 0 n (loopN Try.f65 0) ⟨[(0,.dat ti x0 true),(5,.i .i64 x5),(18,.dat ti x18 true),(19,.i .i64 x19),(20,.i .i64 x20)],[],0,45⟩ K = bindO (qbK.l0 n x0 x5 x18 x19 x20) (Sum.elim (fun x : Int => K (.exit 0) ⟨[(5,.i .i64 x)],[],0,45⟩) (fun x : Int => K .ret ⟨[(4,.i .i64 x)],[],0,45⟩))) (fun w65_0=>?_) (ind_ ?_ ?_)
 refine cu_ (A := ∀ (n : Nat) {x0 x1 : LI} {x29 x30 : Int} {y0 : LI} {K : CK},S.lp tt (g40 k) lv40 0 n (loopN Try.f40 0) ⟨[(0,.dat ti x0 true),(1,.dat ti x1 true),(7,.own 0),(29,.i .i64 x29),(30,.i .i64 x30)],[(0,.row ti y0 false)],1,44⟩ K = bindO (qaX.l0 k n x0 x1 x29 x30 y0) (fun x : LI => K (.exit 0) ⟨[(0,.dat ti x0 true),(7,.own 0)],[(0,.row ti x false)],1,44⟩)) (fun w40_0=>?_) (ind_ ?_ ?_)
 refine cu_ (A := ∀ (n : Nat) {x0 : LI} {x15 x16 y0 : Int} {y3 y4 : LI} {K : CK},S.lp tt (qk2 k) qkp 1 n (loopN Try.f66 0) ⟨[(0,.dat ti x0 true),(1,.fn 67 [.ptr 0 0]),(4,.ptr 1 0),(5,.ptr 2 0),(15,.i .i64 x15),(16,.i .i64 x16)],[(0,.var [.i .i64 y0]),(1,.var [.nilsl,.nilsl]),(2,.var [.own 3,.own 4]),(3,.row ti y3 false),(4,.row ti y4 false)],5,30⟩ K = bindO (qah.l0 k n x0 x15 x16 y0 y3 y4) (fun x : LI => K (.exit 0) ⟨[(4,.ptr 1 0),(5,.ptr 2 0)],[(0,.var [.i .i64 y0]),(1,.var [.nilsl,.nilsl]),(2,.var [.own 3,.own 4]),(3,.row ti y3 false),(4,.row ti x false)],5,30⟩)) (fun w66_2_0=>?_) (ind_ ?_ ?_)
 and_intros
 all_goals first|(dsimp only [SP.St,sp65,sp40,sp67,qiq,sp41,dN,dL,dI,dP,dF,cN,cI,cP,oN,oV]; intros; (first|unfold qbK.f|unfold qaX.f|unfold qb1.f|unfold qah.f|unfold qbM.f); refine S.run_s rfl rfl ?_; (conv=>lhs;arg 5;whnf); conv=>lhs;arg 6;whnf)|(intros; rw [S.lp_zero]; exact qbg)|(intro n ih; intros; (first|rw [qbK.l0]|rw [qaX.l0]|rw [qah.l0]); refine S.lp_succ ?_; conv=>lhs;arg 5;whnf)
 all_goals repeat' first|(first|refine S.seq_op rfl ?_|refine S.op_n ?_|refine S.block_x ?_|refine qdW ?_|refine qdX ?_|refine br_t (by assumption) ?_|refine br_f (by assumption) ?_|refine qbE (by with_reducible assumption) ?_|refine qdV (fun _=>?_) (fun _=>?_)|refine br_d (fun _=>?_) (fun _=>?_)|refine br_n (fun _=>?_) (fun _=>?_)|refine br_c (fun _=>?_) (fun _=>?_)|refine qdN fun _=>?_|refine qbE (by assumption) ?_|refine qdY fun _=>?_)<;>(conv=>lhs;whnf)|refine S.seq_nil ?_|refine S.reg_n ?_|refine S.region rfl ?_|refine S.two ?_|refine S.blok ?_|refine S.cond rfl ?_|refine S.after_n ?_|refine S.block_n ?_|refine S.block_r ?_|refine S.after_x ?_|refine S.after_r ?_|refine S.skip ?_|refine S.exit ?_|refine S.ret ?_|refine qdG (fun _=>?_) (fun _=>?_)|exact ih|refine (w65_0 _).trans ?_|refine (w40_0 _).trans ?_|refine (w66_2_0 _).trans ?_|refine S.region_d (id := 5) (ds := [0,1,0,0,0,0,48,120,255,511]) (mds := [[],[],[],[],[],[],[],[0],[],[4]]) (hm := [(7,[0]),(9,[4])]) (by kernel_rfl) (by kernel_rfl) rfl rfl ?_|(first|refine S.loop ?_|refine S.back_n ?_|refine S.back_x ?_|refine S.back_r ?_|refine S.fin_r ?_|refine S.fin_n ?_|refine S.dk_n ?_|refine S.draw_nil ?_)<;>(conv=>lhs;whnf)|exact qdM rfl|exact qbg|(refine S.draw_op ?_; conv => lhs; whnf; arg 1; whnf)|refine qbG ?_|refine qbo ?_|refine qcm ?_|refine qbd ?_
theorem snd65 (k : Nat) : Sound Try.prog 65 (sp65 k).fs := sn_ qam mixed Try.func65 (by kernel_rfl) rfl (qaa (snd33 k) (qac _)) (lp1002 seals k).1
theorem snd40 (k : Nat) : Sound Try.prog 40 (sp40 k).fs := sn_ qam mixed Try.func40 (by kernel_rfl) rfl (qaa (snd65 k) (qaa (snd59 k) (qaa (snd64 k) (qaa (snd32 k) (qaa (snd35 k) (qac _)))))) (lp1002 seals k).2.1
theorem snd67 : Sound Try.prog 67 sp67.fs := sn_ qam mixed Try.func67 (by kernel_rfl) rfl (qac _) (lp1002 seals 0).2.2.1
theorem qkz (k : Nat) : Sound Try.prog 66 (qiq k).fs := sn_ qam mixed Try.func66 (by kernel_rfl) rfl (qaa snd67 (qaa (snd43 k) (qaa (snd60 k) (qaa snd76 (qac _))))) (lp1002 seals k).2.2.2.1
theorem snd41 (k : Nat) : Sound Try.prog 41 (sp41 k).fs := sn_ qam mixed Try.func41 (by kernel_rfl) rfl (qaa (qkz k) (qaa (snd34 k) (qac _))) (lp1002 seals k).2.2.2.2
end
end Go.Vm
