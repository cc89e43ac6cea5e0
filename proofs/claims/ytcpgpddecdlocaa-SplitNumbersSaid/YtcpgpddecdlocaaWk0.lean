/- Own texts put together: the walks -/
import Derived.Test.YtcpgpddecdlocaaVm1
import Derived.Test.YtcpgpddecdlocaaPl0
import Derived.Test.YtcpgpddecdlocaaProg
namespace Go.Vm
open Go
abbrev ti : Ty := .int .i64
end Go.Vm

set_option linter.unusedVariables false
set_option maxRecDepth 60000
set_option maxHeartbeats 40000000
namespace Go.Vm
open Go Go.Proofs Go.Pf
noncomputable section

theorem ind_ {P : Nat → Prop} (h0 : P 0) (hs : ∀ n,P n → P (n + 1)) : ∀ n,P n
 | 0 => h0
 | n + 1 => hs n (ind_ h0 hs n)
theorem cu_ {A B : Prop} (f : A → B) (a : A) : B := f a
def tt : Tab := [default,
 default,
 ⟨.int .i64,1,8,[.i .i64 0],some ti⟩,
 ⟨.int .i64,1,8,[.i .i64 0],some ti⟩,
 ⟨.bool,1,1,[.b false],some .bool⟩,
 default,
 default,
 default,
 default,
 default,
 default,
 default,
 default,
 default,
 default,
 default,
 default,
 default,
 default,
 default,
 default,
 default,
 ⟨.sl 3,1,24,[.nilsl],some (.sl ti)⟩,
 ⟨.sl 2,1,24,[.nilsl],some (.sl ti)⟩,
 default,
 ⟨.struct [(0,22),(1,23)],2,48,[.nilsl,.nilsl],some (.pair (.sl ti) (.sl ti))⟩,
 default,
 default,
 default,
 default,
 ⟨.sl 25,1,24,[.nilsl],some (.sl (.pair (.sl ti) (.sl ti)))⟩,
 ⟨.int .i64,1,8,[.i .i64 0],some ti⟩,
 default,
 default,
 default,
 default,
 default,
 default,
 default,
 default,
 default,
 default,
 default,
 default,
 default,
 default,
 default,
 ⟨.ptr 49,1,8,[.kon (.pointer none)],none⟩,
 default,
 ⟨.struct [(0,22),(1,3)],2,32,[.nilsl,.i .i64 0],some (.pair (.sl ti) ti)⟩,
 ⟨.sl 22,1,24,[.nilsl],some (.sl (.sl ti))⟩,
 default,
 default,
 default,
 default,
 default,
 default,
 default,
 default,
 default,
 default,
 default,
 default,
 default,
 default,
 default,
 default,
 default,
 default,
 default,
 ⟨.sl 4,1,24,[.nilsl],some (.sl .bool)⟩,
 default,
 ⟨.sl 75,1,24,[.nilsl],some (.sl (.pair ti ti))⟩,
 default,
 default,
 ⟨.arr 2 3,2,16,[.i .i64 0,.i .i64 0],some (.pair ti ti)⟩,
 default,
 default,
 ⟨.func,1,8,[.kon (.nilFunc)],none⟩]
theorem qam : TabOK Try.prog tt := qgS (by kernel_rfl)
theorem mixed : Try.prog.follows .mixedOrders = true := by kernel_rfl

def lv33 : Live := look ⟨[],[],[],[],[]⟩ [(5,⟨[3,9,10,11],[3],[2],[],[]⟩)]
def g33 : FEnv := (fun _=>none)
def sp33 (k : Nat) : SP := .mk [.rd] (dL ti true dN) oN fun (a0,_) _ C => C _ (qaP.f k a0) (fun x => .b x) fun x => []
def lv74 : Live := look ⟨[],[],[],[],[]⟩ [(2,⟨[0,1,7,8],[],[4],[],[]⟩)]
def g74 : FEnv := (fun _=>none)
def sp74 (k : Nat) : SP := .mk [.rd,.rd] (dL ti true (dI .i64 dN)) oN fun (a0,a1,_) _ C => C _ (qaz.f k a0 a1) (fun x => .i .i64 x) fun x => []
def lv59 : Live := look ⟨[],[],[],[],[]⟩ []
def g59 (k : Nat) : FEnv := (addF 74 (sp74 k).fs (fun _=>none))
def sp59 (k : Nat) : SP := .mk [.rd,.rd] (dL ti true (dI .i64 dN)) oN fun (a0,a1,_) _ C => C _ (qaY.f k a0 a1) (fun x => .b x) fun x => []
def lv35 : Live := look ⟨[],[],[],[],[]⟩ [(4,⟨[0,1,18,19,20],[],[6],[],[]⟩)]
def g35 (k : Nat) : FEnv := (addF 59 (sp59 k).fs (addF 33 (sp33 k).fs (fun _=>none)))
def sp35 (k : Nat) : SP := .mk [.rd,.rd,.rd] (dL ti true (dL ti true (dI .i64 dN))) oN fun (a0,a1,a2,_) _ C => C _ (qaL.f k a0 a1 a2) (fun x => .b x) fun x => []
def lv34 : Live := look ⟨[],[],[],[],[]⟩ [(5,⟨[3,9,10,11],[3],[2],[],[]⟩)]
def g34 : FEnv := (fun _=>none)
def sp34 (k : Nat) : SP := .mk [.rd] (dL ti true dN) oN fun (a0,_) _ C => C _ (qaE.f k a0) (fun x => .b x) fun x => []
def lv60 : Live := look ⟨[],[],[],[],[]⟩ [(5,⟨[3,9,10,11],[3],[2],[],[]⟩)]
def g60 (k : Nat) : FEnv := (addF 34 (sp34 k).fs (fun _=>none))
def sp60 (k : Nat) : SP := .mk [.rd] (dL ti true dN) oN fun (a0,_) _ C => C _ (qaU.f k a0) (fun x => .i .i64 x) fun x => []
def lv36 : Live := look ⟨[],[],[],[],[]⟩ []
def g36 (k : Nat) : FEnv := (addF 60 (sp60 k).fs (addF 34 (sp34 k).fs (fun _=>none)))
def sp36 (k : Nat) : SP := .mk [.rd] (dG (dL ti true (dL ti true dN)) dN) oN fun ((a0_0,a0_1,_),_) _ C => C _ (qbl.f k a0_0 a0_1) (fun x => .b x) fun x => []
def lv31 : Live := look ⟨[],[],[],[],[]⟩ []
def g31 (k : Nat) : FEnv := (addF 35 (sp35 k).fs (addF 33 (sp33 k).fs (addF 36 (sp36 k).fs (fun _=>none))))
def sp31 (k : Nat) : SP := .mk [.rd,.rd,.rd] (dG (dL ti true (dL ti true dN)) (dL ti true (dL ti true dN))) oN fun ((a0_0,a0_1,_),a1,a2,_) _ C => C _ (qcF.f k a0_0 a0_1 a1 a2) (fun x => .i .i64 x) fun x => []
theorem lp0 (S : Seals) (k : Nat) : (sp33 k).St tt (g33) lv33 Try.f33 k ∧ (sp74 k).St tt (g74) lv74 Try.f74 k ∧ (sp59 k).St tt (g59 k) lv59 Try.f59 k ∧ (sp35 k).St tt (g35 k) lv35 Try.f35 k ∧ (sp34 k).St tt (g34) lv34 Try.f34 k ∧ (sp60 k).St tt (g60 k) lv60 Try.f60 k ∧ (sp36 k).St tt (g36 k) lv36 Try.f36 k ∧ (sp31 k).St tt (g31 k) lv31 Try.f31 k := by
 refine cu_ (A := ∀ (n : Nat) {x3 : Int} {x9 : LI} {x10 x11 : Int} {K : CK},S.lp tt (g33) lv33 0 n (loopN Try.f33 0) ⟨[(3,.i .i64 x3),(9,.dat ti x9 true),(10,.i .i64 x10),(11,.i .i64 x11)],[],0,27⟩ K = bindO (qaP.l0 n x3 x9 x10 x11) (Sum.elim (fun x : Int => K (.exit 0) ⟨[(3,.i .i64 x)],[],0,27⟩) (fun x : Bool => K .ret ⟨[(2,.b x)],[],0,27⟩))) (fun w33_0=>?_) (ind_ ?_ ?_)
 refine cu_ (A := ∀ (n : Nat) {x0 : LI} {x1 x7 x8 : Int} {K : CK},S.lp tt (g74) lv74 0 n (loopN Try.f74 0) ⟨[(0,.dat ti x0 true),(1,.i .i64 x1),(7,.i .i64 x7),(8,.i .i64 x8)],[],0,19⟩ K = bindO (qaz.l0 n x0 x1 x7 x8) (Sum.elim (fun x : Unit => K (.exit 0) ⟨[],[],0,19⟩) (fun x : Int => K .ret ⟨[(4,.i .i64 x)],[],0,19⟩))) (fun w74_0=>?_) (ind_ ?_ ?_)
 refine cu_ (A := ∀ (n : Nat) {x0 x1 x18 : LI} {x19 x20 : Int} {K : CK},S.lp tt (g35 k) lv35 0 n (loopN Try.f35 0) ⟨[(0,.dat ti x0 true),(1,.dat ti x1 true),(18,.dat ti x18 true),(19,.i .i64 x19),(20,.i .i64 x20)],[],0,45⟩ K = bindO (qaL.l0 k n x0 x1 x18 x19 x20) (Sum.elim (fun x : Unit => K (.exit 0) ⟨[],[],0,45⟩) (fun x : Bool => K .ret ⟨[(6,.b x)],[],0,45⟩))) (fun w35_0=>?_) (ind_ ?_ ?_)
 refine cu_ (A := ∀ (n : Nat) {x3 : Int} {x9 : LI} {x10 x11 : Int} {K : CK},S.lp tt (g34) lv34 0 n (loopN Try.f34 0) ⟨[(3,.i .i64 x3),(9,.dat ti x9 true),(10,.i .i64 x10),(11,.i .i64 x11)],[],0,27⟩ K = bindO (qaE.l0 n x3 x9 x10 x11) (Sum.elim (fun x : Int => K (.exit 0) ⟨[(3,.i .i64 x)],[],0,27⟩) (fun x : Bool => K .ret ⟨[(2,.b x)],[],0,27⟩))) (fun w34_0=>?_) (ind_ ?_ ?_)
 refine cu_ (A := ∀ (n : Nat) {x3 : Int} {x9 : LI} {x10 x11 : Int} {K : CK},S.lp tt (g60 k) lv60 0 n (loopN Try.f60 0) ⟨[(3,.i .i64 x3),(9,.dat ti x9 true),(10,.i .i64 x10),(11,.i .i64 x11)],[],0,20⟩ K = bindO (qaU.l0 n x3 x9 x10 x11) (fun x : Int => K (.exit 0) ⟨[(3,.i .i64 x)],[],0,20⟩)) (fun w60_0=>?_) (ind_ ?_ ?_)
 and_intros
 all_goals first|(dsimp only [SP.St,sp33,sp74,sp59,sp35,sp34,sp60,sp36,sp31,dN,dL,dI,dG,oN]; intros; (first|unfold qaP.f|unfold qaz.f|unfold qaY.f|unfold qaL.f|unfold qaE.f|unfold qaU.f|unfold qbl.f|unfold qcF.f); refine S.run_s rfl rfl ?_; (conv=>lhs;arg 5;whnf); conv=>lhs;arg 6;whnf)|(intros; rw [S.lp_zero]; exact qbg)|(intro n ih; intros; (first|rw [qaP.l0]|rw [qaz.l0]|rw [qaL.l0]|rw [qaE.l0]|rw [qaU.l0]); refine S.lp_succ ?_; conv=>lhs;arg 5;whnf)
 all_goals repeat' first|(first|refine S.seq_op rfl ?_|refine S.op_n ?_|refine S.block_x ?_|refine qdW ?_|refine qdX ?_|refine br_t (by assumption) ?_|refine br_f (by assumption) ?_|refine qbE (by with_reducible assumption) ?_|refine qdV (fun _=>?_) (fun _=>?_)|refine br_d (fun _=>?_) (fun _=>?_)|refine br_n (fun _=>?_) (fun _=>?_)|refine br_c (fun _=>?_) (fun _=>?_)|refine qdN fun _=>?_|refine qbE (by assumption) ?_|refine qdY fun _=>?_)<;>(conv=>lhs;whnf)|refine S.seq_nil ?_|refine S.reg_n ?_|refine S.region rfl ?_|refine S.two ?_|refine S.blok ?_|refine S.cond rfl ?_|refine S.after_n ?_|refine S.block_n ?_|refine S.block_r ?_|refine S.after_x ?_|refine S.after_r ?_|refine S.skip ?_|refine S.exit ?_|refine S.ret ?_|refine qdG (fun _=>?_) (fun _=>?_)|exact ih|refine (w33_0 _).trans ?_|refine (w74_0 _).trans ?_|refine (w35_0 _).trans ?_|refine (w34_0 _).trans ?_|refine (w60_0 _).trans ?_|refine S.region_d (id := 1) (ds := [0,1,3,7,15,31,63,15,143,399,1023,2047,4095]) (mds := [[],[],[],[],[],[],[],[],[],[],[],[],[]]) (hm := []) (by kernel_rfl) (by kernel_rfl) rfl rfl ?_|(first|refine S.loop ?_|refine S.back_n ?_|refine S.back_x ?_|refine S.back_r ?_|refine S.fin_r ?_|refine S.fin_n ?_|refine S.dk_n ?_|refine S.draw_nil ?_)<;>(conv=>lhs;whnf)|exact qdM rfl|exact qbg|(refine S.draw_op ?_; conv => lhs; whnf; arg 1; whnf)|refine qbG ?_|refine qbo ?_|refine qcm ?_|refine qbd ?_
theorem snd33 (k : Nat) : Sound Try.prog 33 (sp33 k).fs := sn_ qam mixed Try.func33 (by kernel_rfl) rfl (qac _) (lp0 seals k).1
theorem snd74 (k : Nat) : Sound Try.prog 74 (sp74 k).fs := sn_ qam mixed Try.func74 (by kernel_rfl) rfl (qac _) (lp0 seals k).2.1
theorem snd59 (k : Nat) : Sound Try.prog 59 (sp59 k).fs := sn_ qam mixed Try.func59 (by kernel_rfl) rfl (qaa (snd74 k) (qac _)) (lp0 seals k).2.2.1
theorem snd35 (k : Nat) : Sound Try.prog 35 (sp35 k).fs := sn_ qam mixed Try.func35 (by kernel_rfl) rfl (qaa (snd59 k) (qaa (snd33 k) (qac _))) (lp0 seals k).2.2.2.1
theorem snd34 (k : Nat) : Sound Try.prog 34 (sp34 k).fs := sn_ qam mixed Try.func34 (by kernel_rfl) rfl (qac _) (lp0 seals k).2.2.2.2.1
theorem snd60 (k : Nat) : Sound Try.prog 60 (sp60 k).fs := sn_ qam mixed Try.func60 (by kernel_rfl) rfl (qaa (snd34 k) (qac _)) (lp0 seals k).2.2.2.2.2.1
theorem snd36 (k : Nat) : Sound Try.prog 36 (sp36 k).fs := sn_ qam mixed Try.func36 (by kernel_rfl) rfl (qaa (snd60 k) (qaa (snd34 k) (qac _))) (lp0 seals k).2.2.2.2.2.2.1
theorem snd31 (k : Nat) : Sound Try.prog 31 (sp31 k).fs := sn_ qam mixed Try.func31 (by kernel_rfl) rfl (qaa (snd35 k) (qaa (snd33 k) (qaa (snd36 k) (qac _)))) (lp0 seals k).2.2.2.2.2.2.2
def lv32 : Live := look ⟨[],[],[],[],[]⟩ [(5,⟨[3,9,10,11],[3],[2],[],[]⟩)]
def g32 (k : Nat) : FEnv := (addF 33 (sp33 k).fs (fun _=>none))
def sp32 (k : Nat) : SP := .mk [.rd] (dL ti true dN) oN fun (a0,_) _ C => C _ (qay.f k a0) (fun x => .i .i64 x) fun x => []
def lv64 : Live := look ⟨[],[],[],[],[]⟩ [(5,⟨[0,1,5,6],[5],[4],[],[]⟩),(1000000,⟨[],[],[],[(4,0,.own ti)],[]⟩)]
def g64 (k : Nat) : FEnv := (addF 32 (sp32 k).fs (fun _=>none))
def sp64 (k : Nat) : SP := .mk [.rd,.rd] (dL ti true (dI .i64 dN)) oN fun (a0,a1,_) _ C => C _ (qbL.f k a0 a1) (fun x => .own 0) fun x => [.row ti x false]
def lv78 : Live := look ⟨[],[],[],[],[]⟩ []
def g78 : FEnv := (fun _=>none)
def sp78 : SP := .mk [.rd,.rd] (dI .i64 (dI .i64 dN)) oN fun (a0,a1,_) _ C => C _ (qcC.f a0 a1) (fun x => .i .i64 x) fun x => []
def lv79 : Live := look ⟨[],[],[],[],[]⟩ []
def g79 : FEnv := (fun _=>none)
def sp79 : SP := .mk [.rd,.rd,.rd] (dI .i64 (dI .i64 (dI .i64 dN))) oN fun (a0,a1,a2,_) _ C => C _ (qb7.f a0 a1 a2) (fun x => .i .i64 x) fun x => []
def lv75 : Live := look ⟨[],[],[],[],[]⟩ []
def g75 : FEnv := (addF 79 sp79.fs (addF 78 sp78.fs (fun _=>none)))
def sp75 : SP := .mk [.rd,.rd,.rd] (dI .i64 (dI .i64 (dI .i64 dN))) oN fun (a0,a1,a2,_) _ C => C _ (qd7.f a0 a1 a2) (fun x => .tup [.i .i64 x.1,.i .i64 x.2]) fun x => []
def lv62 : Live := look ⟨[],[],[],[],[]⟩ [(6,⟨[0,1,10,11,39,40,41],[11],[8,9],[(11,0,.own (.pair ti ti))],[]⟩),(1000000,⟨[],[],[],[(8,0,.own (.pair ti ti))],[]⟩)]
def g62 (k : Nat) : FEnv := (addF 75 sp75.fs (addF 64 (sp64 k).fs (addF 32 (sp32 k).fs (addF 35 (sp35 k).fs (addF 34 (sp34 k).fs (fun _=>none))))))
def sp62 (k : Nat) : SP := .mk [.rd,.rd,.rd,.rd] (dL ti true (dL ti true (dL ti true (dI .i64 dN)))) oN fun (a0,a1,a2,a3,_) _ C => C _ (qa5.f k a0 a1 a2 a3) (fun x => .tup [.own 0,.b x.1]) fun x => [.row (.pair ti ti) x.2 false]
def lv38 : Live := look ⟨[],[],[],[],[]⟩ [(4,⟨[11,22,23,24],[11],[8],[(11,0,.own ti)],[]⟩)]
def g38 (k : Nat) : FEnv := (addF 62 (sp62 k).fs (fun _=>none))
def sp38 (k : Nat) : SP := .mk [.rd,.rd,.rd,.rd] (dL ti true (dL ti true (dL ti true (dI .i64 dN)))) oN fun (a0,a1,a2,a3,_) _ C => C _ (qa8.f k a0 a1 a2 a3) (fun x => .own 0) fun x => [.row ti x false]
def lv42 : Live := look ⟨[],[],[],[],[]⟩ [(4,⟨[11,22,23,24],[11],[8],[(11,0,.own ti)],[]⟩)]
def g42 (k : Nat) : FEnv := (addF 62 (sp62 k).fs (fun _=>none))
def sp42 (k : Nat) : SP := .mk [.rd,.rd,.rd,.rd] (dL ti true (dL ti true (dL ti true (dI .i64 dN)))) oN fun (a0,a1,a2,a3,_) _ C => C _ (qa1.f k a0 a1 a2 a3) (fun x => .own 0) fun x => [.row ti x false]
theorem lp1 (S : Seals) (k : Nat) : (sp32 k).St tt (g32 k) lv32 Try.f32 k ∧ (sp64 k).St tt (g64 k) lv64 Try.f64 k ∧ sp78.St tt (g78) lv78 Try.f78 k ∧ sp79.St tt (g79) lv79 Try.f79 k ∧ sp75.St tt (g75) lv75 Try.f75 k ∧ (sp62 k).St tt (g62 k) lv62 Try.f62 k ∧ (sp38 k).St tt (g38 k) lv38 Try.f38 k ∧ (sp42 k).St tt (g42 k) lv42 Try.f42 k := by
 refine cu_ (A := ∀ (n : Nat) {x3 : Int} {x9 : LI} {x10 x11 : Int} {K : CK},S.lp tt (g32 k) lv32 0 n (loopN Try.f32 0) ⟨[(3,.i .i64 x3),(9,.dat ti x9 true),(10,.i .i64 x10),(11,.i .i64 x11)],[],0,20⟩ K = bindO (qay.l0 n x3 x9 x10 x11) (fun x : Int => K (.exit 0) ⟨[(3,.i .i64 x)],[],0,20⟩)) (fun w32_0=>?_) (ind_ ?_ ?_)
 refine cu_ (A := ∀ (n : Nat) {x0 : LI} {x1 x6 : Int} {y0 : LI} {K : CK},S.lp tt (g64 k) lv64 0 n (loopN Try.f64 0) ⟨[(0,.dat ti x0 true),(1,.i .i64 x1),(5,.own 0),(6,.i .i64 x6)],[(0,.row ti y0 false)],1,41⟩ K = bindO (qbL.l0 n x0 x1 x6 y0) (fun x : LI => K (.exit 0) ⟨[(5,.own 0)],[(0,.row ti x false)],1,41⟩)) (fun w64_0=>?_) (ind_ ?_ ?_)
 refine cu_ (A := ∀ (n : Nat) {x0 x1 x39 : LI} {x40 x41 : Int} {y0 : LI} {y1 : List (Int × Int)} {K : CK},S.lp tt (g62 k) lv62 0 n (loopN Try.f62 0) ⟨[(0,.dat ti x0 true),(1,.dat ti x1 true),(10,.own 0),(11,.own 1),(39,.dat ti x39 true),(40,.i .i64 x40),(41,.i .i64 x41)],[(0,.row ti y0 false),(1,.row (.pair ti ti) y1 false)],2,77⟩ K = bindO (qa5.l0 n x0 x1 x39 x40 x41 y0 y1) (fun x : (List (Int × Int)) => K (.exit 0) ⟨[(11,.own 0)],[(0,.row (.pair ti ti) x false)],1,77⟩)) (fun w62_0=>?_) (ind_ ?_ ?_)
 refine cu_ (A := ∀ (n : Nat) {x23 x24 : Int} {y0 : LI} {y1 : List (Int × Int)} {K : CK},S.lp tt (g38 k) lv38 0 n (loopN Try.f38 0) ⟨[(11,.own 0),(22,.own 1),(23,.i .i64 x23),(24,.i .i64 x24)],[(0,.row ti y0 false),(1,.row (.pair ti ti) y1 false)],2,38⟩ K = bindO (qa8.l0 n x23 x24 y0 y1) (fun x : LI => K (.exit 0) ⟨[(11,.own 0)],[(0,.row ti x false)],1,38⟩)) (fun w38_0=>?_) (ind_ ?_ ?_)
 refine cu_ (A := ∀ (n : Nat) {x23 x24 : Int} {y0 : LI} {y1 : List (Int × Int)} {K : CK},S.lp tt (g42 k) lv42 0 n (loopN Try.f42 0) ⟨[(11,.own 0),(22,.own 1),(23,.i .i64 x23),(24,.i .i64 x24)],[(0,.row ti y0 false),(1,.row (.pair ti ti) y1 false)],2,35⟩ K = bindO (qa1.l0 n x23 x24 y0 y1) (fun x : LI => K (.exit 0) ⟨[(11,.own 0)],[(0,.row ti x false)],1,35⟩)) (fun w42_0=>?_) (ind_ ?_ ?_)
 and_intros
 all_goals first|(dsimp only [SP.St,sp32,sp64,sp78,sp79,sp75,sp62,sp38,sp42,dN,dL,dI,oN]; intros; (first|unfold qay.f|unfold qbL.f|unfold qcC.f|unfold qb7.f|unfold qd7.f|unfold qa5.f|unfold qa8.f|unfold qa1.f); refine S.run_s rfl rfl ?_; (conv=>lhs;arg 5;whnf); conv=>lhs;arg 6;whnf)|(intros; rw [S.lp_zero]; exact qbg)|(intro n ih; intros; (first|rw [qay.l0]|rw [qbL.l0]|rw [qa5.l0]|rw [qa8.l0]|rw [qa1.l0]); refine S.lp_succ ?_; conv=>lhs;arg 5;whnf)
 all_goals repeat' first|(first|refine S.seq_op rfl ?_|refine S.op_n ?_|refine S.block_x ?_|refine qdW ?_|refine qdX ?_|refine br_t (by assumption) ?_|refine br_f (by assumption) ?_|refine qbE (by with_reducible assumption) ?_|refine qdV (fun _=>?_) (fun _=>?_)|refine br_d (fun _=>?_) (fun _=>?_)|refine br_n (fun _=>?_) (fun _=>?_)|refine br_c (fun _=>?_) (fun _=>?_)|refine qdN fun _=>?_|refine qbE (by assumption) ?_|refine qdY fun _=>?_)<;>(conv=>lhs;whnf)|refine S.seq_nil ?_|refine S.reg_n ?_|refine S.region rfl ?_|refine S.two ?_|refine S.blok ?_|refine S.cond rfl ?_|refine S.after_n ?_|refine S.block_n ?_|refine S.block_r ?_|refine S.after_x ?_|refine S.after_r ?_|refine S.skip ?_|refine S.exit ?_|refine S.ret ?_|refine qdG (fun _=>?_) (fun _=>?_)|exact ih|refine (w32_0 _).trans ?_|refine (w64_0 _).trans ?_|refine (w62_0 _).trans ?_|refine (w38_0 _).trans ?_|refine (w42_0 _).trans ?_|refine S.region_d (id := 10) (ds := [0,0,3,7,0,0,48,112,0,0,768,1792,4095,8191,16383,16383,32767,98303,262143,524287]) (mds := [[],[],[],[],[],[],[],[],[],[],[],[],[],[],[],[],[],[2],[],[2]]) (hm := [(17,[2]),(19,[2])]) (by kernel_rfl) (by kernel_rfl) rfl rfl ?_|(first|refine S.loop ?_|refine S.back_n ?_|refine S.back_x ?_|refine S.back_r ?_|refine S.fin_r ?_|refine S.fin_n ?_|refine S.dk_n ?_|refine S.draw_nil ?_)<;>(conv=>lhs;whnf)|exact qdM rfl|exact qbg|(refine S.draw_op ?_; conv => lhs; whnf; arg 1; whnf)|refine qbG ?_|refine qbo ?_|refine qcm ?_|refine qbd ?_
theorem snd32 (k : Nat) : Sound Try.prog 32 (sp32 k).fs := sn_ qam mixed Try.func32 (by kernel_rfl) rfl (qaa (snd33 k) (qac _)) (lp1 seals k).1
theorem snd64 (k : Nat) : Sound Try.prog 64 (sp64 k).fs := sn_ qam mixed Try.func64 (by kernel_rfl) rfl (qaa (snd32 k) (qac _)) (lp1 seals k).2.1
theorem snd78 : Sound Try.prog 78 sp78.fs := sn_ qam mixed Try.func78 (by kernel_rfl) rfl (qac _) (lp1 seals 0).2.2.1
theorem snd79 : Sound Try.prog 79 sp79.fs := sn_ qam mixed Try.func79 (by kernel_rfl) rfl (qac _) (lp1 seals 0).2.2.2.1
theorem snd75 : Sound Try.prog 75 sp75.fs := sn_ qam mixed Try.func75 (by kernel_rfl) rfl (qaa snd79 (qaa snd78 (qac _))) (lp1 seals 0).2.2.2.2.1
theorem snd62 (k : Nat) : Sound Try.prog 62 (sp62 k).fs := sn_ qam mixed Try.func62 (by kernel_rfl) rfl (qaa snd75 (qaa (snd64 k) (qaa (snd32 k) (qaa (snd35 k) (qaa (snd34 k) (qac _)))))) (lp1 seals k).2.2.2.2.2.1
theorem snd38 (k : Nat) : Sound Try.prog 38 (sp38 k).fs := sn_ qam mixed Try.func38 (by kernel_rfl) rfl (qaa (snd62 k) (qac _)) (lp1 seals k).2.2.2.2.2.2.1
theorem snd42 (k : Nat) : Sound Try.prog 42 (sp42 k).fs := sn_ qam mixed Try.func42 (by kernel_rfl) rfl (qaa (snd62 k) (qac _)) (lp1 seals k).2.2.2.2.2.2.2
def lv43 : Live := look ⟨[],[],[],[],[]⟩ [(5,⟨[0,1,5,6],[5],[4],[],[]⟩),(1000000,⟨[],[],[],[(4,0,.own ti)],[]⟩)]
def g43 (k : Nat) : FEnv := (addF 60 (sp60 k).fs (fun _=>none))
def sp43 (k : Nat) : SP := .mk [.rd,.rd] (dL ti true (dI .i64 dN)) oN fun (a0,a1,_) _ C => C _ (qaI.f k a0 a1) (fun x => .own 0) fun x => [.row ti x false]
def lv44 : Live := look ⟨[],[],[],[],[]⟩ [(5,⟨[0,5,18,19,20],[5],[4],[],[]⟩)]
def g44 (k : Nat) : FEnv := (addF 34 (sp34 k).fs (fun _=>none))
def sp44 (k : Nat) : SP := .mk [.rd,.rd] (dL ti true (dL ti true dN)) oN fun (a0,a1,_) _ C => C _ (qaR.f k a0 a1) (fun x => .i .i64 x) fun x => []
def lv80 : Live := look ⟨[],[],[],[],[]⟩ []
def g80 (k : Nat) : FEnv := (addF 44 (sp44 k).fs (addF 36 (sp36 k).fs (fun _=>none)))
def sp80 (k : Nat) : SP := .mk [.rd,.rd] (dG (dL ti true (dL ti true dN)) (dL ti true dN)) oN fun ((a0_0,a0_1,_),a1,_) _ C => C _ (qbT.f k a0_0 a0_1 a1) (fun x => .i .i64 x) fun x => []
def lv77 : Live := look ⟨[],[],[],[],[]⟩ []
def g77 (k : Nat) : FEnv := (addF 80 (sp80 k).fs (fun _=>none))
def sp77 (k : Nat) : SP := .mk [.rd,.rd] (dG (dL ti true (dL ti true dN)) (dL ti true dN)) oN fun ((a0_0,a0_1,_),a1,_) _ C => C _ (qcD.f k a0_0 a0_1 a1) (fun x => .tup [.i .i64 x.1,.b x.2]) fun x => []
theorem lp2 (S : Seals) (k : Nat) : (sp43 k).St tt (g43 k) lv43 Try.f43 k ∧ (sp44 k).St tt (g44 k) lv44 Try.f44 k ∧ (sp80 k).St tt (g80 k) lv80 Try.f80 k ∧ (sp77 k).St tt (g77 k) lv77 Try.f77 k := by
 refine cu_ (A := ∀ (n : Nat) {x0 : LI} {x1 x6 : Int} {y0 : LI} {K : CK},S.lp tt (g43 k) lv43 0 n (loopN Try.f43 0) ⟨[(0,.dat ti x0 true),(1,.i .i64 x1),(5,.own 0),(6,.i .i64 x6)],[(0,.row ti y0 false)],1,41⟩ K = bindO (qaI.l0 n x0 x1 x6 y0) (fun x : LI => K (.exit 0) ⟨[(5,.own 0)],[(0,.row ti x false)],1,41⟩)) (fun w43_0=>?_) (ind_ ?_ ?_)
 refine cu_ (A := ∀ (n : Nat) {x0 : LI} {x5 : Int} {x18 : LI} {x19 x20 : Int} {K : CK},S.lp tt (g44 k) lv44 0 n (loopN Try.f44 0) ⟨[(0,.dat ti x0 true),(5,.i .i64 x5),(18,.dat ti x18 true),(19,.i .i64 x19),(20,.i .i64 x20)],[],0,45⟩ K = bindO (qaR.l0 n x0 x5 x18 x19 x20) (Sum.elim (fun x : Int => K (.exit 0) ⟨[(5,.i .i64 x)],[],0,45⟩) (fun x : Int => K .ret ⟨[(4,.i .i64 x)],[],0,45⟩))) (fun w44_0=>?_) (ind_ ?_ ?_)
 and_intros
 all_goals first|(dsimp only [SP.St,sp43,sp44,sp80,sp77,dN,dL,dI,dG,oN]; intros; (first|unfold qaI.f|unfold qaR.f|unfold qbT.f|unfold qcD.f); refine S.run_s rfl rfl ?_; (conv=>lhs;arg 5;whnf); conv=>lhs;arg 6;whnf)|(intros; rw [S.lp_zero]; exact qbg)|(intro n ih; intros; (first|rw [qaI.l0]|rw [qaR.l0]); refine S.lp_succ ?_; conv=>lhs;arg 5;whnf)
 all_goals repeat' first|(first|refine S.seq_op rfl ?_|refine S.op_n ?_|refine S.block_x ?_|refine qdW ?_|refine qdX ?_|refine br_t (by assumption) ?_|refine br_f (by assumption) ?_|refine qbE (by with_reducible assumption) ?_|refine qdV (fun _=>?_) (fun _=>?_)|refine br_d (fun _=>?_) (fun _=>?_)|refine br_n (fun _=>?_) (fun _=>?_)|refine br_c (fun _=>?_) (fun _=>?_)|refine qdN fun _=>?_|refine qbE (by assumption) ?_|refine qdY fun _=>?_)<;>(conv=>lhs;whnf)|refine S.seq_nil ?_|refine S.reg_n ?_|refine S.region rfl ?_|refine S.two ?_|refine S.blok ?_|refine S.cond rfl ?_|refine S.after_n ?_|refine S.block_n ?_|refine S.block_r ?_|refine S.after_x ?_|refine S.after_r ?_|refine S.skip ?_|refine S.exit ?_|refine S.ret ?_|refine qdG (fun _=>?_) (fun _=>?_)|exact ih|refine (w43_0 _).trans ?_|refine (w44_0 _).trans ?_|(first|refine S.loop ?_|refine S.back_n ?_|refine S.back_x ?_|refine S.back_r ?_|refine S.fin_r ?_|refine S.fin_n ?_|refine S.dk_n ?_|refine S.draw_nil ?_)<;>(conv=>lhs;whnf)|exact qdM rfl|exact qbg|(refine S.draw_op ?_; conv => lhs; whnf; arg 1; whnf)|refine qbG ?_|refine qbo ?_|refine qcm ?_|refine qbd ?_
theorem snd43 (k : Nat) : Sound Try.prog 43 (sp43 k).fs := sn_ qam mixed Try.func43 (by kernel_rfl) rfl (qaa (snd60 k) (qac _)) (lp2 seals k).1
theorem snd44 (k : Nat) : Sound Try.prog 44 (sp44 k).fs := sn_ qam mixed Try.func44 (by kernel_rfl) rfl (qaa (snd34 k) (qac _)) (lp2 seals k).2.1
theorem snd80 (k : Nat) : Sound Try.prog 80 (sp80 k).fs := sn_ qam mixed Try.func80 (by kernel_rfl) rfl (qaa (snd44 k) (qaa (snd36 k) (qac _))) (lp2 seals k).2.2.1
theorem snd77 (k : Nat) : Sound Try.prog 77 (sp77 k).fs := sn_ qam mixed Try.func77 (by kernel_rfl) rfl (qaa (snd80 k) (qac _)) (lp2 seals k).2.2.2
end
end Go.Vm
