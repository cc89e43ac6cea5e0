/- Own texts put together: the walks -/
import Derived.Test.YtcpgpddecdlocaaWk0
import Derived.Test.YtcpgpddecdlocaaVm1
set_option linter.unusedVariables false
set_option maxRecDepth 60000
set_option maxHeartbeats 40000000
namespace Go.Vm
open Go Go.Proofs Go.Pf
noncomputable section

def lv10 : Live := look ⟨[],[],[],[],[]⟩ [(7,⟨[1,2,3,8,9],[8],[6,7],[(8,0,.own (.pair (.sl ti) (.sl ti)))],[]⟩),(1000000,⟨[],[],[],[(6,0,.own (.pair (.sl ti) (.sl ti)))],[]⟩)]
def g10 (k : Nat) : FEnv := (addF 26 (sp26 k).fs (addF 17 (sp17 k).fs (addF 29 (sp29 k).fs (addF 28 (sp28 k).fs (fun _=>none)))))
def sp10 (k : Nat) : SP := .mk [.rd,.rd,.rd] (dG (dL ti true (dL ti true dN)) (dL ti true (dL ti true dN))) oN fun ((a0_0,a0_1,_),a1,a2,_) _ C => C _ (qa3.f k a0_0 a0_1 a1 a2) (fun x => .tup [.own 0,.i .i64 x.1]) fun x => [.row (.pair (.sl ti) (.sl ti)) x.2 false]
def lv33 : Live := look ⟨[],[],[],[],[]⟩ [(5,⟨[3,9,10,11],[3],[2],[],[]⟩)]
def g33 : FEnv := (fun _=>none)
def sp33 (k : Nat) : SP := .mk [.rd] (dL ti true dN) oN fun (a0,_) _ C => C _ (qaM.f k a0) (fun x => .b x) fun x => []
def lv32 : Live := look ⟨[],[],[],[],[]⟩ [(5,⟨[3,9,10,11],[3],[2],[],[]⟩)]
def g32 (k : Nat) : FEnv := (addF 33 (sp33 k).fs (fun _=>none))
def sp32 (k : Nat) : SP := .mk [.rd] (dL ti true dN) oN fun (a0,_) _ C => C _ (qaw.f k a0) (fun x => .i .i64 x) fun x => []
def lv34 : Live := look ⟨[],[],[],[],[]⟩ [(5,⟨[3,9,10,11],[3],[2],[],[]⟩)]
def g34 : FEnv := (fun _=>none)
def sp34 (k : Nat) : SP := .mk [.rd] (dL ti true dN) oN fun (a0,_) _ C => C _ (qaD.f k a0) (fun x => .b x) fun x => []
def lv74 : Live := look ⟨[],[],[],[],[]⟩ [(2,⟨[0,1,7,8],[],[4],[],[]⟩)]
def g74 : FEnv := (fun _=>none)
def sp74 (k : Nat) : SP := .mk [.rd,.rd] (dL ti true (dI .i64 dN)) oN fun (a0,a1,_) _ C => C _ (qax.f k a0 a1) (fun x => .i .i64 x) fun x => []
def lv59 : Live := look ⟨[],[],[],[],[]⟩ []
def g59 (k : Nat) : FEnv := (addF 74 (sp74 k).fs (fun _=>none))
def sp59 (k : Nat) : SP := .mk [.rd,.rd] (dL ti true (dI .i64 dN)) oN fun (a0,a1,_) _ C => C _ (qaV.f k a0 a1) (fun x => .b x) fun x => []
def lv35 : Live := look ⟨[],[],[],[],[]⟩ [(4,⟨[0,1,18,19,20],[],[6],[],[]⟩)]
def g35 (k : Nat) : FEnv := (addF 59 (sp59 k).fs (addF 33 (sp33 k).fs (fun _=>none)))
def sp35 (k : Nat) : SP := .mk [.rd,.rd,.rd] (dL ti true (dL ti true (dI .i64 dN))) oN fun (a0,a1,a2,_) _ C => C _ (qaK.f k a0 a1 a2) (fun x => .b x) fun x => []
def lv60 : Live := look ⟨[],[],[],[],[]⟩ [(5,⟨[3,9,10,11],[3],[2],[],[]⟩)]
def g60 (k : Nat) : FEnv := (addF 34 (sp34 k).fs (fun _=>none))
def sp60 (k : Nat) : SP := .mk [.rd] (dL ti true dN) oN fun (a0,_) _ C => C _ (qaR.f k a0) (fun x => .i .i64 x) fun x => []
theorem lp1000 (S : Seals) (k : Nat) : (sp10 k).St tt (g10 k) lv10 Try.f10 k ∧ (sp33 k).St tt (g33) lv33 Try.f33 k ∧ (sp32 k).St tt (g32 k) lv32 Try.f32 k ∧ (sp34 k).St tt (g34) lv34 Try.f34 k ∧ (sp74 k).St tt (g74) lv74 Try.f74 k ∧ (sp59 k).St tt (g59 k) lv59 Try.f59 k ∧ (sp35 k).St tt (g35 k) lv35 Try.f35 k ∧ (sp60 k).St tt (g60 k) lv60 Try.f60 k := by
 refine cu_ (A := ∀ (n : Nat) {x1 x2 : LI} {x9 : Int} {y0_0 y0_1 : LI} {y1 : List LT} {K : CK},S.lp tt (g10 k) lv10 0 n (loopN Try.f10 0) ⟨[(1,.dat ti x1 true),(2,.dat ti x2 true),(3,.ptr 0 0),(8,.own 1),(9,.i .i64 x9)],[(0,.var [.dat ti y0_0 true,.dat ti y0_1 true]),(1,.row (.pair (.sl ti) (.sl ti)) y1 false)],2,40⟩ K = bindO (qa3.l0 k n x1 x2 x9 y0_0 y0_1 y1) (fun x : (List LT) => K (.exit 0) ⟨[(8,.own 0)],[(0,.row (.pair (.sl ti) (.sl ti)) x false)],1,40⟩)) (fun w10_0=>?_) (ind_ ?_ ?_)
 refine cu_ (A := ∀ (n : Nat) {x3 : Int} {x9 : LI} {x10 x11 : Int} {K : CK},S.lp tt (g33) lv33 0 n (loopN Try.f33 0) ⟨[(3,.i .i64 x3),(9,.dat ti x9 true),(10,.i .i64 x10),(11,.i .i64 x11)],[],0,27⟩ K = bindO (qaM.l0 n x3 x9 x10 x11) (Sum.elim (fun x : Int => K (.exit 0) ⟨[(3,.i .i64 x)],[],0,27⟩) (fun x : Bool => K .ret ⟨[(2,.b x)],[],0,27⟩))) (fun w33_0=>?_) (ind_ ?_ ?_)
 refine cu_ (A := ∀ (n : Nat) {x3 : Int} {x9 : LI} {x10 x11 : Int} {K : CK},S.lp tt (g32 k) lv32 0 n (loopN Try.f32 0) ⟨[(3,.i .i64 x3),(9,.dat ti x9 true),(10,.i .i64 x10),(11,.i .i64 x11)],[],0,20⟩ K = bindO (qaw.l0 n x3 x9 x10 x11) (fun x : Int => K (.exit 0) ⟨[(3,.i .i64 x)],[],0,20⟩)) (fun w32_0=>?_) (ind_ ?_ ?_)
 refine cu_ (A := ∀ (n : Nat) {x3 : Int} {x9 : LI} {x10 x11 : Int} {K : CK},S.lp tt (g34) lv34 0 n (loopN Try.f34 0) ⟨[(3,.i .i64 x3),(9,.dat ti x9 true),(10,.i .i64 x10),(11,.i .i64 x11)],[],0,27⟩ K = bindO (qaD.l0 n x3 x9 x10 x11) (Sum.elim (fun x : Int => K (.exit 0) ⟨[(3,.i .i64 x)],[],0,27⟩) (fun x : Bool => K .ret ⟨[(2,.b x)],[],0,27⟩))) (fun w34_0=>?_) (ind_ ?_ ?_)
 refine cu_ (A := ∀ (n : Nat) {x0 : LI} {x1 x7 x8 : Int} {K : CK},S.lp tt (g74) lv74 0 n (loopN Try.f74 0) ⟨[(0,.dat ti x0 true),(1,.i .i64 x1),(7,.i .i64 x7),(8,.i .i64 x8)],[],0,19⟩ K = bindO (qax.l0 n x0 x1 x7 x8) (Sum.elim (fun x : Unit => K (.exit 0) ⟨[],[],0,19⟩) (fun x : Int => K .ret ⟨[(4,.i .i64 x)],[],0,19⟩))) (fun w74_0=>?_) (ind_ ?_ ?_)
 refine cu_ (A := ∀ (n : Nat) {x0 x1 x18 : LI} {x19 x20 : Int} {K : CK},S.lp tt (g35 k) lv35 0 n (loopN Try.f35 0) ⟨[(0,.dat ti x0 true),(1,.dat ti x1 true),(18,.dat ti x18 true),(19,.i .i64 x19),(20,.i .i64 x20)],[],0,45⟩ K = bindO (qaK.l0 k n x0 x1 x18 x19 x20) (Sum.elim (fun x : Unit => K (.exit 0) ⟨[],[],0,45⟩) (fun x : Bool => K .ret ⟨[(6,.b x)],[],0,45⟩))) (fun w35_0=>?_) (ind_ ?_ ?_)
 refine cu_ (A := ∀ (n : Nat) {x3 : Int} {x9 : LI} {x10 x11 : Int} {K : CK},S.lp tt (g60 k) lv60 0 n (loopN Try.f60 0) ⟨[(3,.i .i64 x3),(9,.dat ti x9 true),(10,.i .i64 x10),(11,.i .i64 x11)],[],0,20⟩ K = bindO (qaR.l0 n x3 x9 x10 x11) (fun x : Int => K (.exit 0) ⟨[(3,.i .i64 x)],[],0,20⟩)) (fun w60_0=>?_) (ind_ ?_ ?_)
 and_intros
 all_goals first|(dsimp only [SP.St,sp10,sp33,sp32,sp34,sp74,sp59,sp35,sp60,dN,dL,dI,dG,oN]; intros; (first|unfold qa3.f|unfold qaM.f|unfold qaw.f|unfold qaD.f|unfold qax.f|unfold qaV.f|unfold qaK.f|unfold qaR.f); refine S.run_s rfl rfl ?_; (conv=>lhs;arg 5;whnf); conv=>lhs;arg 6;whnf)|(intros; rw [S.lp_zero]; exact qbh)|(intro n ih; intros; (first|rw [qa3.l0]|rw [qaM.l0]|rw [qaw.l0]|rw [qaD.l0]|rw [qax.l0]|rw [qaK.l0]|rw [qaR.l0]); refine S.lp_succ ?_; conv=>lhs;arg 5;whnf)
 all_goals repeat' first|(first|refine S.seq_op rfl ?_|refine S.op_n ?_|refine S.block_x ?_|refine qen ?_|refine qeo ?_|refine br_t (by assumption) ?_|refine br_f (by assumption) ?_|refine qbC (by with_reducible assumption) ?_|refine qem (fun _=>?_) (fun _=>?_)|refine br_d (fun _=>?_) (fun _=>?_)|refine br_n (fun _=>?_) (fun _=>?_)|refine br_c (fun _=>?_) (fun _=>?_)|refine qdW fun _=>?_|refine qbC (by assumption) ?_|refine qep fun _=>?_)<;>(conv=>lhs;whnf)|refine S.seq_nil ?_|refine S.reg_n ?_|refine S.region rfl ?_|refine S.two ?_|refine S.blok ?_|refine S.cond rfl ?_|refine S.after_n ?_|refine S.block_n ?_|refine S.block_r ?_|refine S.after_x ?_|refine S.after_r ?_|refine S.skip ?_|refine S.exit ?_|refine S.ret ?_|refine qdF (fun _=>?_) (fun _=>?_)|exact ih|refine (w10_0 _).trans ?_|refine (w33_0 _).trans ?_|refine (w32_0 _).trans ?_|refine (w34_0 _).trans ?_|refine (w74_0 _).trans ?_|refine (w35_0 _).trans ?_|refine (w60_0 _).trans ?_|(first|refine S.loop ?_|refine S.back_n ?_|refine S.back_x ?_|refine S.back_r ?_|refine S.fin_r ?_|refine S.fin_n ?_|refine S.dk_n ?_|refine S.draw_nil ?_)<;>(conv=>lhs;whnf)|exact qdV rfl|exact qbh|(refine S.draw_op ?_; conv => lhs; whnf; arg 1; whnf)|refine qbG ?_|refine qbr ?_|refine qcj ?_|refine qbb ?_
theorem snd10 (k : Nat) : Sound Try.prog 10 (sp10 k).fs := sn_ qak mixed Try.func10 (by kernel_rfl) rfl (qaa (snd26 k) (qaa (snd17 k) (qaa (snd29 k) (qaa (snd28 k) (qab _))))) (lp1000 seals k).1
theorem snd33 (k : Nat) : Sound Try.prog 33 (sp33 k).fs := sn_ qak mixed Try.func33 (by kernel_rfl) rfl (qab _) (lp1000 seals k).2.1
theorem snd32 (k : Nat) : Sound Try.prog 32 (sp32 k).fs := sn_ qak mixed Try.func32 (by kernel_rfl) rfl (qaa (snd33 k) (qab _)) (lp1000 seals k).2.2.1
theorem snd34 (k : Nat) : Sound Try.prog 34 (sp34 k).fs := sn_ qak mixed Try.func34 (by kernel_rfl) rfl (qab _) (lp1000 seals k).2.2.2.1
theorem snd74 (k : Nat) : Sound Try.prog 74 (sp74 k).fs := sn_ qak mixed Try.func74 (by kernel_rfl) rfl (qab _) (lp1000 seals k).2.2.2.2.1
theorem snd59 (k : Nat) : Sound Try.prog 59 (sp59 k).fs := sn_ qak mixed Try.func59 (by kernel_rfl) rfl (qaa (snd74 k) (qab _)) (lp1000 seals k).2.2.2.2.2.1
theorem snd35 (k : Nat) : Sound Try.prog 35 (sp35 k).fs := sn_ qak mixed Try.func35 (by kernel_rfl) rfl (qaa (snd59 k) (qaa (snd33 k) (qab _))) (lp1000 seals k).2.2.2.2.2.2.1
theorem snd60 (k : Nat) : Sound Try.prog 60 (sp60 k).fs := sn_ qak mixed Try.func60 (by kernel_rfl) rfl (qaa (snd34 k) (qab _)) (lp1000 seals k).2.2.2.2.2.2.2
def lv36 : Live := look ⟨[],[],[],[],[]⟩ []
def g36 (k : Nat) : FEnv := (addF 60 (sp60 k).fs (addF 34 (sp34 k).fs (fun _=>none)))
def sp36 (k : Nat) : SP := .mk [.rd] (dG (dL ti true (dL ti true dN)) dN) oN fun ((a0_0,a0_1,_),_) _ C => C _ (qbg.f k a0_0 a0_1) (fun x => .b x) fun x => []
def lv61 : Live := look ⟨[],[],[],[],[]⟩ [(4,⟨[0,1,12,13],[],[4],[],[]⟩)]
def g61 : FEnv := (fun _=>none)
def sp61 (k : Nat) : SP := .mk [.rd,.rd] (dL ti true (dL ti true dN)) oN fun (a0,a1,_) _ C => C _ (qau.f k a0 a1) (fun x => .b x) fun x => []
def lv37 : Live := look ⟨[],[],[],[],[]⟩ []
def g37 (k : Nat) : FEnv := (addF 61 (sp61 k).fs (fun _=>none))
def sp37 (k : Nat) : SP := .mk [.rd,.rd] (dL ti true (dL ti true dN)) oN fun (a0,a1,_) _ C => C _ (qb3.f k a0 a1) (fun x => .b x) fun x => []
def lv64 : Live := look ⟨[],[],[],[],[]⟩ [(5,⟨[0,1,5,6],[5],[4],[],[]⟩),(1000000,⟨[],[],[],[(4,0,.own ti)],[]⟩)]
def g64 (k : Nat) : FEnv := (addF 32 (sp32 k).fs (fun _=>none))
def sp64 (k : Nat) : SP := .mk [.rd,.rd] (dL ti true (dI .i64 dN)) oN fun (a0,a1,_) _ C => C _ (qbF.f k a0 a1) (fun x => .own 0) fun x => [.row ti x false]
def lv78 : Live := look ⟨[],[],[],[],[]⟩ []
def g78 : FEnv := (fun _=>none)
def sp78 : SP := .mk [.rd,.rd] (dI .i64 (dI .i64 dN)) oN fun (a0,a1,_) _ C => C _ (qcr.f a0 a1) (fun x => .i .i64 x) fun x => []
def lv79 : Live := look ⟨[],[],[],[],[]⟩ []
def g79 : FEnv := (fun _=>none)
def sp79 : SP := .mk [.rd,.rd,.rd] (dI .i64 (dI .i64 (dI .i64 dN))) oN fun (a0,a1,a2,_) _ C => C _ (qb1.f a0 a1 a2) (fun x => .i .i64 x) fun x => []
def lv75 : Live := look ⟨[],[],[],[],[]⟩ []
def g75 : FEnv := (addF 79 sp79.fs (addF 78 sp78.fs (fun _=>none)))
def sp75 : SP := .mk [.rd,.rd,.rd] (dI .i64 (dI .i64 (dI .i64 dN))) oN fun (a0,a1,a2,_) _ C => C _ (qdE.f a0 a1 a2) (fun x => .tup [.i .i64 x.1,.i .i64 x.2]) fun x => []
def lv62 : Live := look ⟨[],[],[],[],[]⟩ [(6,⟨[0,1,10,11,39,40,41],[11],[8,9],[(11,0,.own (.pair ti ti))],[]⟩),(1000000,⟨[],[],[],[(8,0,.own (.pair ti ti))],[]⟩)]
def g62 (k : Nat) : FEnv := (addF 75 sp75.fs (addF 64 (sp64 k).fs (addF 32 (sp32 k).fs (addF 35 (sp35 k).fs (addF 34 (sp34 k).fs (fun _=>none))))))
def sp62 (k : Nat) : SP := .mk [.rd,.rd,.rd,.rd] (dL ti true (dL ti true (dL ti true (dI .i64 dN)))) oN fun (a0,a1,a2,a3,_) _ C => C _ (qa2.f k a0 a1 a2 a3) (fun x => .tup [.own 0,.b x.1]) fun x => [.row (.pair ti ti) x.2 false]
def lv38 : Live := look ⟨[],[],[],[],[]⟩ [(4,⟨[11,22,23,24],[11],[8],[(11,0,.own ti)],[]⟩)]
def g38 (k : Nat) : FEnv := (addF 62 (sp62 k).fs (fun _=>none))
def sp38 (k : Nat) : SP := .mk [.rd,.rd,.rd,.rd] (dL ti true (dL ti true (dL ti true (dI .i64 dN)))) oN fun (a0,a1,a2,a3,_) _ C => C _ (qa5.f k a0 a1 a2 a3) (fun x => .own 0) fun x => [.row ti x false]
theorem lp1001 (S : Seals) (k : Nat) : (sp36 k).St tt (g36 k) lv36 Try.f36 k ∧ (sp61 k).St tt (g61) lv61 Try.f61 k ∧ (sp37 k).St tt (g37 k) lv37 Try.f37 k ∧ (sp64 k).St tt (g64 k) lv64 Try.f64 k ∧ sp78.St tt (g78) lv78 Try.f78 k ∧ sp79.St tt (g79) lv79 Try.f79 k ∧ sp75.St tt (g75) lv75 Try.f75 k ∧ (sp62 k).St tt (g62 k) lv62 Try.f62 k ∧ (sp38 k).St tt (g38 k) lv38 Try.f38 k := by
 refine cu_ (A := ∀ (n : Nat) {x0 x1 : LI} {x12 x13 : Int} {K : CK},S.lp tt (g61) lv61 0 n (loopN Try.f61 0) ⟨[(0,.dat ti x0 true),(1,.dat ti x1 true),(12,.i .i64 x12),(13,.i .i64 x13)],[],0,26⟩ K = bindO (qau.l0 n x0 x1 x12 x13) (Sum.elim (fun x : Unit => K (.exit 0) ⟨[],[],0,26⟩) (fun x : Bool => K .ret ⟨[(4,.b x)],[],0,26⟩))) (fun w61_0=>?_) (ind_ ?_ ?_)
 refine cu_ (A := ∀ (n : Nat) {x0 : LI} {x1 x6 : Int} {y0 : LI} {K : CK},S.lp tt (g64 k) lv64 0 n (loopN Try.f64 0) ⟨[(0,.dat ti x0 true),(1,.i .i64 x1),(5,.own 0),(6,.i .i64 x6)],[(0,.row ti y0 false)],1,41⟩ K = bindO (qbF.l0 n x0 x1 x6 y0) (fun x : LI => K (.exit 0) ⟨[(5,.own 0)],[(0,.row ti x false)],1,41⟩)) (fun w64_0=>?_) (ind_ ?_ ?_)
 refine cu_ (A := ∀ (n : Nat) {x0 x1 x39 : LI} {x40 x41 : Int} {y0 : LI} {y1 : List (Int × Int)} {K : CK},S.lp tt (g62 k) lv62 0 n (loopN Try.f62 0) ⟨[(0,.dat ti x0 true),(1,.dat ti x1 true),(10,.own 0),(11,.own 1),(39,.dat ti x39 true),(40,.i .i64 x40),(41,.i .i64 x41)],[(0,.row ti y0 false),(1,.row (.pair ti ti) y1 false)],2,77⟩ K = bindO (qa2.l0 n x0 x1 x39 x40 x41 y0 y1) (fun x : (List (Int × Int)) => K (.exit 0) ⟨[(11,.own 0)],[(0,.row (.pair ti ti) x false)],1,77⟩)) (fun w62_0=>?_) (ind_ ?_ ?_)
 refine cu_ (A := ∀ (n : Nat) {x23 x24 : Int} {y0 : LI} {y1 : List (Int × Int)} {K : CK},S.lp tt (g38 k) lv38 0 n (loopN Try.f38 0) ⟨[(11,.own 0),(22,.own 1),(23,.i .i64 x23),(24,.i .i64 x24)],[(0,.row ti y0 false),(1,.row (.pair ti ti) y1 false)],2,38⟩ K = bindO (qa5.l0 n x23 x24 y0 y1) (fun x : LI => K (.exit 0) ⟨[(11,.own 0)],[(0,.row ti x false)],1,38⟩)) (fun w38_0=>?_) (ind_ ?_ ?_)
 and_intros
 all_goals first|(dsimp only [SP.St,sp36,sp61,sp37,sp64,sp78,sp79,sp75,sp62,sp38,dN,dL,dI,dG,oN]; intros; (first|unfold qbg.f|unfold qau.f|unfold qb3.f|unfold qbF.f|unfold qcr.f|unfold qb1.f|unfold qdE.f|unfold qa2.f|unfold qa5.f); refine S.run_s rfl rfl ?_; (conv=>lhs;arg 5;whnf); conv=>lhs;arg 6;whnf)|(intros; rw [S.lp_zero]; exact qbh)|(intro n ih; intros; (first|rw [qau.l0]|rw [qbF.l0]|rw [qa2.l0]|rw [qa5.l0]); refine S.lp_succ ?_; conv=>lhs;arg 5;whnf)
 all_goals repeat' first|(first|refine S.seq_op rfl ?_|refine S.op_n ?_|refine S.block_x ?_|refine qen ?_|refine qeo ?_|refine br_t (by assumption) ?_|refine br_f (by assumption) ?_|refine qbC (by with_reducible assumption) ?_|refine qem (fun _=>?_) (fun _=>?_)|refine br_d (fun _=>?_) (fun _=>?_)|refine br_n (fun _=>?_) (fun _=>?_)|refine br_c (fun _=>?_) (fun _=>?_)|refine qdW fun _=>?_|refine qbC (by assumption) ?_|refine qep fun _=>?_)<;>(conv=>lhs;whnf)|refine S.seq_nil ?_|refine S.reg_n ?_|refine S.region rfl ?_|refine S.two ?_|refine S.blok ?_|refine S.cond rfl ?_|refine S.after_n ?_|refine S.block_n ?_|refine S.block_r ?_|refine S.after_x ?_|refine S.after_r ?_|refine S.skip ?_|refine S.exit ?_|refine S.ret ?_|refine qdF (fun _=>?_) (fun _=>?_)|refine S.region_d (id := 1) (ds := [0,1,3,7,15,31,63,15,143,399,1023,2047,4095]) (mds := [[],[],[],[],[],[],[],[],[],[],[],[],[]]) (hm := []) (by kernel_rfl) (by kernel_rfl) rfl rfl ?_|exact ih|refine (w61_0 _).trans ?_|refine (w64_0 _).trans ?_|refine (w62_0 _).trans ?_|refine (w38_0 _).trans ?_|refine S.region_d (id := 6) (ds := [0,0,3,7,0,0,48,112,255]) (mds := [[],[],[],[],[],[],[],[],[]]) (hm := []) (by kernel_rfl) (by kernel_rfl) rfl rfl ?_|refine S.region_d (id := 10) (ds := [0,0,3,7,0,0,48,112,0,0,768,1792,4095,8191,16383,16383,32767,98303,262143,524287]) (mds := [[],[],[],[],[],[],[],[],[],[],[],[],[],[],[],[],[],[2],[],[2]]) (hm := [(17,[2]),(19,[2])]) (by kernel_rfl) (by kernel_rfl) rfl rfl ?_|(first|refine S.loop ?_|refine S.back_n ?_|refine S.back_x ?_|refine S.back_r ?_|refine S.fin_r ?_|refine S.fin_n ?_|refine S.dk_n ?_|refine S.draw_nil ?_)<;>(conv=>lhs;whnf)|exact qdV rfl|exact qbh|(refine S.draw_op ?_; conv => lhs; whnf; arg 1; whnf)|refine qbG ?_|refine qbr ?_|refine qcj ?_|refine qbb ?_
theorem snd36 (k : Nat) : Sound Try.prog 36 (sp36 k).fs := sn_ qak mixed Try.func36 (by kernel_rfl) rfl (qaa (snd60 k) (qaa (snd34 k) (qab _))) (lp1001 seals k).1
theorem snd61 (k : Nat) : Sound Try.prog 61 (sp61 k).fs := sn_ qak mixed Try.func61 (by kernel_rfl) rfl (qab _) (lp1001 seals k).2.1
theorem snd37 (k : Nat) : Sound Try.prog 37 (sp37 k).fs := sn_ qak mixed Try.func37 (by kernel_rfl) rfl (qaa (snd61 k) (qab _)) (lp1001 seals k).2.2.1
theorem snd64 (k : Nat) : Sound Try.prog 64 (sp64 k).fs := sn_ qak mixed Try.func64 (by kernel_rfl) rfl (qaa (snd32 k) (qab _)) (lp1001 seals k).2.2.2.1
theorem snd78 : Sound Try.prog 78 sp78.fs := sn_ qak mixed Try.func78 (by kernel_rfl) rfl (qab _) (lp1001 seals 0).2.2.2.2.1
theorem snd79 : Sound Try.prog 79 sp79.fs := sn_ qak mixed Try.func79 (by kernel_rfl) rfl (qab _) (lp1001 seals 0).2.2.2.2.2.1
theorem snd75 : Sound Try.prog 75 sp75.fs := sn_ qak mixed Try.func75 (by kernel_rfl) rfl (qaa snd79 (qaa snd78 (qab _))) (lp1001 seals 0).2.2.2.2.2.2.1
theorem snd62 (k : Nat) : Sound Try.prog 62 (sp62 k).fs := sn_ qak mixed Try.func62 (by kernel_rfl) rfl (qaa snd75 (qaa (snd64 k) (qaa (snd32 k) (qaa (snd35 k) (qaa (snd34 k) (qab _)))))) (lp1001 seals k).2.2.2.2.2.2.2.1
theorem snd38 (k : Nat) : Sound Try.prog 38 (sp38 k).fs := sn_ qak mixed Try.func38 (by kernel_rfl) rfl (qaa (snd62 k) (qab _)) (lp1001 seals k).2.2.2.2.2.2.2.2
def lv63 : Live := look ⟨[],[],[],[],[]⟩ [(4,⟨[0,1,12,13],[],[4],[],[]⟩)]
def g63 : FEnv := (fun _=>none)
def sp63 (k : Nat) : SP := .mk [.rd,.rd] (dL ti true (dL ti true dN)) oN fun (a0,a1,_) _ C => C _ (qal.f k a0 a1) (fun x => .b x) fun x => []
def lv39 : Live := look ⟨[],[],[],[],[]⟩ []
def g39 (k : Nat) : FEnv := (addF 63 (sp63 k).fs (addF 37 (sp37 k).fs (fun _=>none)))
def sp39 (k : Nat) : SP := .mk [.rd,.rd] (dG (dL ti true (dL ti true dN)) (dG (dL ti true (dL ti true dN)) dN)) oN fun ((a0_0,a0_1,_),(a1_0,a1_1,_),_) _ C => C _ (qb7.f k a0_0 a0_1 a1_0 a1_1) (fun x => .b x) fun x => []
def lv65 : Live := look ⟨[],[],[],[],[]⟩ [(5,⟨[0,5,18,19,20],[5],[4],[],[]⟩)]
def g65 (k : Nat) : FEnv := (addF 33 (sp33 k).fs (fun _=>none))
def sp65 (k : Nat) : SP := .mk [.rd,.rd] (dL ti true (dL ti true dN)) oN fun (a0,a1,_) _ C => C _ (qbE.f k a0 a1) (fun x => .i .i64 x) fun x => []
theorem lp1002 (S : Seals) (k : Nat) : (sp63 k).St tt (g63) lv63 Try.f63 k ∧ (sp39 k).St tt (g39 k) lv39 Try.f39 k ∧ (sp65 k).St tt (g65 k) lv65 Try.f65 k := by
 refine cu_ (A := ∀ (n : Nat) {x0 x1 : LI} {x12 x13 : Int} {K : CK},S.lp tt (g63) lv63 0 n (loopN Try.f63 0) ⟨[(0,.dat ti x0 true),(1,.dat ti x1 true),(12,.i .i64 x12),(13,.i .i64 x13)],[],0,26⟩ K = bindO (qal.l0 n x0 x1 x12 x13) (Sum.elim (fun x : Unit => K (.exit 0) ⟨[],[],0,26⟩) (fun x : Bool => K .ret ⟨[(4,.b x)],[],0,26⟩))) (fun w63_0=>?_) (ind_ ?_ ?_)
 refine cu_ (A := ∀ (n : Nat) {x0 : LI} {x5 : Int} {x18 : LI} {x19 x20 : Int} {K : CK},S.lp tt (g65 k) lv65 0 n (loopN Try.f65 0) ⟨[(0,.dat ti x0 true),(5,.i .i64 x5),(18,.dat ti x18 true),(19,.i .i64 x19),(20,.i .i64 x20)],[],0,45⟩ K = bindO (qbE.l0 n x0 x5 x18 x19 x20) (Sum.elim (fun x : Int => K (.exit 0) ⟨[(5,.i .i64 x)],[],0,45⟩) (fun x : Int => K .ret ⟨[(4,.i .i64 x)],[],0,45⟩))) (fun w65_0=>?_) (ind_ ?_ ?_)
 and_intros
 all_goals first|(dsimp only [SP.St,sp63,sp39,sp65,dN,dL,dG,oN]; intros; (first|unfold qal.f|unfold qb7.f|unfold qbE.f); refine S.run_s rfl rfl ?_; (conv=>lhs;arg 5;whnf); conv=>lhs;arg 6;whnf)|(intros; rw [S.lp_zero]; exact qbh)|(intro n ih; intros; (first|rw [qal.l0]|rw [qbE.l0]); refine S.lp_succ ?_; conv=>lhs;arg 5;whnf)
 all_goals repeat' first|(first|refine S.seq_op rfl ?_|refine S.op_n ?_|refine S.block_x ?_|refine qen ?_|refine qeo ?_|refine br_t (by assumption) ?_|refine br_f (by assumption) ?_|refine qbC (by with_reducible assumption) ?_|refine qem (fun _=>?_) (fun _=>?_)|refine br_d (fun _=>?_) (fun _=>?_)|refine br_n (fun _=>?_) (fun _=>?_)|refine br_c (fun _=>?_) (fun _=>?_)|refine qdW fun _=>?_|refine qbC (by assumption) ?_|refine qep fun _=>?_)<;>(conv=>lhs;whnf)|refine S.seq_nil ?_|refine S.reg_n ?_|refine S.region rfl ?_|refine S.two ?_|refine S.blok ?_|refine S.cond rfl ?_|refine S.after_n ?_|refine S.block_n ?_|refine S.block_r ?_|refine S.after_x ?_|refine S.after_r ?_|refine S.skip ?_|refine S.exit ?_|refine S.ret ?_|refine qdF (fun _=>?_) (fun _=>?_)|refine S.region_d (id := 6) (ds := [0,0,3,7,0,0,48,112,255]) (mds := [[],[],[],[],[],[],[],[],[]]) (hm := []) (by kernel_rfl) (by kernel_rfl) rfl rfl ?_|exact ih|refine (w63_0 _).trans ?_|refine (w65_0 _).trans ?_|(first|refine S.loop ?_|refine S.back_n ?_|refine S.back_x ?_|refine S.back_r ?_|refine S.fin_r ?_|refine S.fin_n ?_|refine S.dk_n ?_|refine S.draw_nil ?_)<;>(conv=>lhs;whnf)|exact qdV rfl|exact qbh|(refine S.draw_op ?_; conv => lhs; whnf; arg 1; whnf)|refine qbG ?_|refine qbr ?_|refine qcj ?_|refine qbb ?_
theorem snd63 (k : Nat) : Sound Try.prog 63 (sp63 k).fs := sn_ qak mixed Try.func63 (by kernel_rfl) rfl (qab _) (lp1002 seals k).1
theorem snd39 (k : Nat) : Sound Try.prog 39 (sp39 k).fs := sn_ qak mixed Try.func39 (by kernel_rfl) rfl (qaa (snd63 k) (qaa (snd37 k) (qab _))) (lp1002 seals k).2.1
theorem snd65 (k : Nat) : Sound Try.prog 65 (sp65 k).fs := sn_ qak mixed Try.func65 (by kernel_rfl) rfl (qaa (snd33 k) (qab _)) (lp1002 seals k).2.2
end
end Go.Vm
