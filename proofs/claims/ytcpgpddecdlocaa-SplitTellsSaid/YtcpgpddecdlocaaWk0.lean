/- Own texts put together: the walks -/
import Derived.Test.YtcpgpddecdlocaaVm1
import Derived.Test.YtcpgpddecdlocaaPl0
import Derived.Test.YtcpgpddecdlocaaProg
namespace Go.Vm
open Go
abbrev ti : Ty := .int .i64
end Go.Vm

set_option linter.unusedVariables false
set_option maxRecDepth 60000
set_option maxHeartbeats 40000000
namespace Go.Vm
open Go Go.Proofs Go.Pf
noncomputable section

theorem ind_ {P : Nat → Prop} (h0 : P 0) (hs : ∀ n,P n → P (n + 1)) : ∀ n,P n
 | 0 => h0
 | n + 1 => hs n (ind_ h0 hs n)
theorem cu_ {A B : Prop} (f : A → B) (a : A) : B := f a
def tt : Tab := [default,
 default,
 ⟨.int .i64,1,8,[.i .i64 0],some ti⟩,
 ⟨.int .i64,1,8,[.i .i64 0],some ti⟩,
 ⟨.bool,1,1,[.b false],some .bool⟩,
 default,
 default,
 default,
 default,
 default,
 default,
 default,
 default,
 default,
 default,
 default,
 default,
 default,
 default,
 default,
 default,
 default,
 ⟨.sl 3,1,24,[.nilsl],some (.sl ti)⟩,
 ⟨.sl 2,1,24,[.nilsl],some (.sl ti)⟩,
 default,
 ⟨.struct [(0,22),(1,23)],2,48,[.nilsl,.nilsl],some (.pair (.sl ti) (.sl ti))⟩,
 default,
 default,
 default,
 default,
 ⟨.sl 25,1,24,[.nilsl],some (.sl (.pair (.sl ti) (.sl ti)))⟩,
 ⟨.int .i64,1,8,[.i .i64 0],some ti⟩,
 default,
 default,
 default,
 default,
 default,
 default,
 default,
 default,
 default,
 default,
 default,
 default,
 default,
 default,
 default,
 ⟨.ptr 49,1,8,[.kon (.pointer none)],none⟩,
 default,
 ⟨.struct [(0,22),(1,3)],2,32,[.nilsl,.i .i64 0],some (.pair (.sl ti) ti)⟩,
 ⟨.sl 22,1,24,[.nilsl],some (.sl (.sl ti))⟩,
 default,
 default,
 default,
 default,
 default,
 default,
 default,
 default,
 default,
 default,
 default,
 default,
 default,
 default,
 default,
 default,
 default,
 default,
 default,
 ⟨.sl 4,1,24,[.nilsl],some (.sl .bool)⟩,
 default,
 ⟨.sl 75,1,24,[.nilsl],some (.sl (.pair ti ti))⟩,
 default,
 default,
 ⟨.arr 2 3,2,16,[.i .i64 0,.i .i64 0],some (.pair ti ti)⟩,
 default,
 default,
 ⟨.func,1,8,[.kon (.nilFunc)],none⟩]
theorem qak : TabOK Try.prog tt := qhW (by kernel_rfl)
theorem mixed : Try.prog.follows .mixedOrders = true := by kernel_rfl

def lv46 : Live := look ⟨[],[],[],[],[]⟩ [(3,⟨[0,3,6,7],[3],[2],[],[]⟩)]
def g46 : FEnv := (fun _=>none)
def sp46 (k : Nat) : SP := .mk [.rd] (dL ti true dN) oN fun (a0,_) _ C => C _ (qaF.f k a0) (fun x => .b x) fun x => []
def lv17 : Live := look ⟨[],[],[],[],[]⟩ [(5,⟨[0,3,9,10],[3],[2],[],[]⟩)]
def g17 (k : Nat) : FEnv := (addF 46 (sp46 k).fs (fun _=>none))
def sp17 (k : Nat) : SP := .mk [.rd] (dL ti true dN) oN fun (a0,_) _ C => C _ (qaq.f k a0) (fun x => .i .i64 x) fun x => []
def lv47 : Live := look ⟨[],[],[],[],[]⟩ [(4,⟨[0,1,19,20],[],[6],[],[]⟩),(9,⟨[0,1,7,8,19,20],[0,1,19,20],[6],[],[]⟩)]
def g47 (k : Nat) : FEnv := (addF 46 (sp46 k).fs (fun _=>none))
def sp47 (k : Nat) : SP := .mk [.rd,.rd,.rd] (dL ti true (dL ti true (dI .i64 dN))) oN fun (a0,a1,a2,_) _ C => C _ (qay.f k a0 a1 a2) (fun x => .b x) fun x => []
def lv52 : Live := look ⟨[],[],[],[],[]⟩ [(3,⟨[0,3,4],[3],[2],[],[]⟩)]
def g52 : FEnv := (fun _=>none)
def sp52 (k : Nat) : SP := .mk [.rd] (dL ti true dN) oN fun (a0,_) _ C => C _ (qaE.f k a0) (fun x => .b x) fun x => []
def lv29 : Live := look ⟨[],[],[],[],[]⟩ []
def g29 (k : Nat) : FEnv := (addF 47 (sp47 k).fs (addF 46 (sp46 k).fs (addF 52 (sp52 k).fs (fun _=>none))))
def sp29 (k : Nat) : SP := .mk [.rd,.rd,.rd] (dL ti true (dL ti true (dL ti true dN))) oN fun (a0,a1,a2,_) _ C => C _ (qbR.f k a0 a1 a2) (fun x => .b x) fun x => []
def lv49 : Live := look ⟨[],[],[],[],[]⟩ [(5,⟨[0,1,5,6],[5],[4],[],[]⟩),(1000000,⟨[],[],[],[(4,0,.own ti)],[]⟩)]
def g49 (k : Nat) : FEnv := (addF 17 (sp17 k).fs (fun _=>none))
def sp49 (k : Nat) : SP := .mk [.rd,.rd] (dL ti true (dI .i64 dN)) oN fun (a0,a1,_) _ C => C _ (qbp.f k a0 a1) (fun x => .own 0) fun x => [.row ti x false]
def lv68 : Live := look ⟨[],[],[],[],[]⟩ []
def g68 : FEnv := (fun _=>none)
def sp68 : SP := .mk [.rd,.rd] (dI .i64 (dI .i64 dN)) oN fun (a0,a1,_) _ C => C _ (qdr.f a0 a1) (fun x => .i .i64 x) fun x => []
def lv50 : Live := look ⟨[],[],[],[],[]⟩ []
def g50 : FEnv := (addF 68 sp68.fs (fun _=>none))
def sp50 : SP := .mk [.rd,.rd,.rd] (dI .i64 (dI .i64 (dI .i64 dN))) oN fun (a0,a1,a2,_) _ C => C _ (qcV.f a0 a1 a2) (fun x => .tup [.i .i64 x.1,.i .i64 x.2]) fun x => []
theorem lp0 (S : Seals) (k : Nat) : (sp46 k).St tt (g46) lv46 Try.f46 k ∧ (sp17 k).St tt (g17 k) lv17 Try.f17 k ∧ (sp47 k).St tt (g47 k) lv47 Try.f47 k ∧ (sp52 k).St tt (g52) lv52 Try.f52 k ∧ (sp29 k).St tt (g29 k) lv29 Try.f29 k ∧ (sp49 k).St tt (g49 k) lv49 Try.f49 k ∧ sp68.St tt (g68) lv68 Try.f68 k ∧ sp50.St tt (g50) lv50 Try.f50 k := by
 refine cu_ (A := ∀ (n : Nat) {x0 : LI} {x3 x6 x7 : Int} {K : CK},S.lp tt (g46) lv46 0 n (loopN Try.f46 0) ⟨[(0,.dat ti x0 true),(3,.i .i64 x3),(6,.i .i64 x6),(7,.i .i64 x7)],[],0,35⟩ K = bindO (qaF.l0 n x0 x3 x6 x7) (Sum.elim (fun x : Int => K (.exit 0) ⟨[(3,.i .i64 x)],[],0,35⟩) (fun x : Bool => K .ret ⟨[(2,.b x)],[],0,35⟩))) (fun w46_0=>?_) (ind_ ?_ ?_)
 refine cu_ (A := ∀ (n : Nat) {x0 : LI} {x3 x9 x10 : Int} {K : CK},S.lp tt (g17 k) lv17 0 n (loopN Try.f17 0) ⟨[(0,.dat ti x0 true),(3,.i .i64 x3),(9,.i .i64 x9),(10,.i .i64 x10)],[],0,21⟩ K = bindO (qaq.l0 n x0 x3 x9 x10) (fun x : Int => K (.exit 0) ⟨[(3,.i .i64 x)],[],0,21⟩)) (fun w17_0=>?_) (ind_ ?_ ?_)
 refine cu_ (A := ∀ (n : Nat) {x0 x1 : LI} {x7 x8 : Int} {x19 x20 : Int} {K : CK},S.lp tt (g47 k) lv47 0 n (loopN Try.f47 1) ⟨[(0,.dat ti x0 true),(1,.dat ti x1 true),(7,.i .i64 x7),(8,.i .i64 x8),(19,.i .i64 x19),(20,.i .i64 x20)],[],0,59⟩ K = bindO (qay.l1 n x0 x1 x7 x8 x19 x20) (Sum.elim (fun x : Unit => K (.exit 2) ⟨[(0,.dat ti x0 true),(1,.dat ti x1 true),(19,.i .i64 x19),(20,.i .i64 x20)],[],0,59⟩) (fun x : Bool => K .ret ⟨[(6,.b x)],[],0,59⟩))) (fun w47_1=>?_) (ind_ ?_ ?_)
 refine cu_ (A := ∀ (n : Nat) {x0 x1 : LI} {x19 x20 : Int} {K : CK},S.lp tt (g47 k) lv47 0 n (loopN Try.f47 0) ⟨[(0,.dat ti x0 true),(1,.dat ti x1 true),(19,.i .i64 x19),(20,.i .i64 x20)],[],0,59⟩ K = bindO (qay.l0 k n x0 x1 x19 x20) (Sum.elim (fun x : Unit => K (.exit 0) ⟨[],[],0,59⟩) (fun x : Bool => K .ret ⟨[(6,.b x)],[],0,59⟩))) (fun w47_0=>?_) (ind_ ?_ ?_)
 refine cu_ (A := ∀ (n : Nat) {x0 : LI} {x3 x4 : Int} {K : CK},S.lp tt (g52) lv52 0 n (loopN Try.f52 0) ⟨[(0,.dat ti x0 true),(3,.i .i64 x3),(4,.i .i64 x4)],[],0,35⟩ K = bindO (qaE.l0 n x0 x3 x4) (Sum.elim (fun x : Int => K (.exit 0) ⟨[(3,.i .i64 x)],[],0,35⟩) (fun x : Bool => K .ret ⟨[(2,.b x)],[],0,35⟩))) (fun w52_0=>?_) (ind_ ?_ ?_)
 refine cu_ (A := ∀ (n : Nat) {x0 : LI} {x1 x6 : Int} {y0 : LI} {K : CK},S.lp tt (g49 k) lv49 0 n (loopN Try.f49 0) ⟨[(0,.dat ti x0 true),(1,.i .i64 x1),(5,.own 0),(6,.i .i64 x6)],[(0,.row ti y0 false)],1,41⟩ K = bindO (qbp.l0 n x0 x1 x6 y0) (fun x : LI => K (.exit 0) ⟨[(5,.own 0)],[(0,.row ti x false)],1,41⟩)) (fun w49_0=>?_) (ind_ ?_ ?_)
 and_intros
 all_goals first|(dsimp only [SP.St,sp46,sp17,sp47,sp52,sp29,sp49,sp68,sp50,dN,dL,dI,oN]; intros; (first|unfold qaF.f|unfold qaq.f|unfold qay.f|unfold qaE.f|unfold qbR.f|unfold qbp.f|unfold qdr.f|unfold qcV.f); refine S.run_s rfl rfl ?_; (conv=>lhs;arg 5;whnf); conv=>lhs;arg 6;whnf)|(intros; rw [S.lp_zero]; exact qbh)|(intro n ih; intros; (first|rw [qaF.l0]|rw [qaq.l0]|rw [qay.l1]|rw [qay.l0]|rw [qaE.l0]|rw [qbp.l0]); refine S.lp_succ ?_; conv=>lhs;arg 5;whnf)
 all_goals repeat' first|(first|refine S.seq_op rfl ?_|refine S.op_n ?_|refine S.block_x ?_|refine qen ?_|refine qeo ?_|refine br_t (by assumption) ?_|refine br_f (by assumption) ?_|refine qbC (by with_reducible assumption) ?_|refine qem (fun _=>?_) (fun _=>?_)|refine br_d (fun _=>?_) (fun _=>?_)|refine br_n (fun _=>?_) (fun _=>?_)|refine br_c (fun _=>?_) (fun _=>?_)|refine qdW fun _=>?_|refine qbC (by assumption) ?_|refine qep fun _=>?_)<;>(conv=>lhs;whnf)|refine S.seq_nil ?_|refine S.reg_n ?_|refine S.region rfl ?_|refine S.two ?_|refine S.blok ?_|refine S.cond rfl ?_|refine S.after_n ?_|refine S.block_n ?_|refine S.block_r ?_|refine S.after_x ?_|refine S.after_r ?_|refine S.skip ?_|refine S.exit ?_|refine S.ret ?_|refine qdF (fun _=>?_) (fun _=>?_)|exact ih|refine (w46_0 _).trans ?_|refine (w17_0 _).trans ?_|refine (w47_1 _).trans ?_|refine (w47_0 _).trans ?_|refine (w52_0 _).trans ?_|refine (w49_0 _).trans ?_|refine S.region_d (id := 11) (ds := [0,0,3,7,0,0,48,112,255,511,1023,1023,4095,8191,16383,32767]) (mds := [[],[],[],[],[],[],[],[],[],[],[],[],[],[],[],[]]) (hm := []) (by kernel_rfl) (by kernel_rfl) rfl rfl ?_|(first|refine S.loop ?_|refine S.back_n ?_|refine S.back_x ?_|refine S.back_r ?_|refine S.fin_r ?_|refine S.fin_n ?_|refine S.dk_n ?_|refine S.draw_nil ?_)<;>(conv=>lhs;whnf)|exact qdV rfl|exact qbh|(refine S.draw_op ?_; conv => lhs; whnf; arg 1; whnf)|refine qbG ?_|refine qbr ?_|refine qcj ?_|refine qbb ?_
theorem snd46 (k : Nat) : Sound Try.prog 46 (sp46 k).fs := sn_ qak mixed Try.func46 (by kernel_rfl) rfl (qab _) (lp0 seals k).1
theorem snd17 (k : Nat) : Sound Try.prog 17 (sp17 k).fs := sn_ qak mixed Try.func17 (by kernel_rfl) rfl (qaa (snd46 k) (qab _)) (lp0 seals k).2.1
theorem snd47 (k : Nat) : Sound Try.prog 47 (sp47 k).fs := sn_ qak mixed Try.func47 (by kernel_rfl) rfl (qaa (snd46 k) (qab _)) (lp0 seals k).2.2.1
theorem snd52 (k : Nat) : Sound Try.prog 52 (sp52 k).fs := sn_ qak mixed Try.func52 (by kernel_rfl) rfl (qab _) (lp0 seals k).2.2.2.1
theorem snd29 (k : Nat) : Sound Try.prog 29 (sp29 k).fs := sn_ qak mixed Try.func29 (by kernel_rfl) rfl (qaa (snd47 k) (qaa (snd46 k) (qaa (snd52 k) (qab _)))) (lp0 seals k).2.2.2.2.1
theorem snd49 (k : Nat) : Sound Try.prog 49 (sp49 k).fs := sn_ qak mixed Try.func49 (by kernel_rfl) rfl (qaa (snd17 k) (qab _)) (lp0 seals k).2.2.2.2.2.1
theorem snd68 : Sound Try.prog 68 sp68.fs := sn_ qak mixed Try.func68 (by kernel_rfl) rfl (qab _) (lp0 seals 0).2.2.2.2.2.2.1
theorem snd50 : Sound Try.prog 50 sp50.fs := sn_ qak mixed Try.func50 (by kernel_rfl) rfl (qaa snd68 (qab _)) (lp0 seals 0).2.2.2.2.2.2.2
def lv18 : Live := look ⟨[],[],[],[],[]⟩ [(6,⟨[0,1,2,10,11,12,35,36],[11,12],[8,9],[(11,0,.own ti),(12,0,.own ti)],[]⟩),(1000000,⟨[],[],[],[(8,0,.own ti),(9,0,.own ti)],[]⟩)]
def g18 (k : Nat) : FEnv := (addF 50 sp50.fs (addF 49 (sp49 k).fs (addF 17 (sp17 k).fs (addF 29 (sp29 k).fs (fun _=>none)))))
def sp18 (k : Nat) : SP := .mk [.rd,.rd,.rd,.rd] (dL ti true (dL ti true (dL ti true (dI .i64 dN)))) oN fun (a0,a1,a2,a3,_) _ C => C _ (qaS.f k a0 a1 a2 a3) (fun x => .tup [.own 0,.own 1]) fun x => [.row ti x.1 false,.row ti x.2 false]
def lv51 : Live := look ⟨[],[],[],[],[]⟩ [(5,⟨[0,3,4],[3],[2],[],[]⟩)]
def g51 (k : Nat) : FEnv := (addF 52 (sp52 k).fs (fun _=>none))
def sp51 (k : Nat) : SP := .mk [.rd] (dL ti true dN) oN fun (a0,_) _ C => C _ (qa6.f k a0) (fun x => .i .i64 x) fun x => []
def lv28 : Live := look ⟨[],[],[],[],[]⟩ []
def g28 (k : Nat) : FEnv := (addF 51 (sp51 k).fs (addF 52 (sp52 k).fs (fun _=>none)))
def sp28 (k : Nat) : SP := .mk [.rd] (dG (dL ti true (dL ti true dN)) dN) oN fun ((a0_0,a0_1,_),_) _ C => C _ (qbt.f k a0_0 a0_1) (fun x => .b x) fun x => []
def lv19 : Live := look ⟨[],[],[],[],[]⟩ [(5,⟨[0,1,5,6],[5],[4],[],[]⟩),(1000000,⟨[],[],[],[(4,0,.own ti)],[]⟩)]
def g19 (k : Nat) : FEnv := (addF 51 (sp51 k).fs (fun _=>none))
def sp19 (k : Nat) : SP := .mk [.rd,.rd] (dL ti true (dI .i64 dN)) oN fun (a0,a1,_) _ C => C _ (qaW.f k a0 a1) (fun x => .own 0) fun x => [.row ti x false]
def lv54 : Live := look ⟨[],[],[],[],[]⟩ [(3,⟨[0,1,4,5,6],[4,5],[4],[(5,1,.own ti)],[]⟩)]
def g54 (k : Nat) : FEnv := (addF 51 (sp51 k).fs (fun _=>none))
def sp54 (k : Nat) : SP := .mk [.rd,.rd] (dL ti true (dI .i64 dN)) oN fun (a0,a1,_) _ C => C _ (qa7.f k a0 a1) (fun x => .agg [.own 0,.own 1]) fun x => [.row ti x.1 false,.row ti x.2 false]
def lv20 : Live := look ⟨[],[],[],[],[]⟩ [(5,⟨[0,1,5,6],[5],[4],[],[]⟩)]
def g20 (k : Nat) : FEnv := (addF 52 (sp52 k).fs (fun _=>none))
def sp20 (k : Nat) : SP := .mk [.rd,.rd] (dL ti true (dL ti true dN)) oN fun (a0,a1,_) _ C => C _ (qaZ.f k a0 a1) (fun x => .i .i64 x) fun x => []
def lv72 : Live := look ⟨[],[],[],[],[]⟩ []
def g72 (k : Nat) : FEnv := (addF 20 (sp20 k).fs (fun _=>none))
def sp72 (k : Nat) : SP := .mk [.rd,.rd] (dG (dL ti true (dL ti true dN)) (dL ti true dN)) oN fun ((a0_0,a0_1,_),a1,_) _ C => C _ (qbI.f k a0_0 a0_1 a1) (fun x => .i .i64 x) fun x => []
theorem lp1 (S : Seals) (k : Nat) : (sp18 k).St tt (g18 k) lv18 Try.f18 k ∧ (sp51 k).St tt (g51 k) lv51 Try.f51 k ∧ (sp28 k).St tt (g28 k) lv28 Try.f28 k ∧ (sp19 k).St tt (g19 k) lv19 Try.f19 k ∧ (sp54 k).St tt (g54 k) lv54 Try.f54 k ∧ (sp20 k).St tt (g20 k) lv20 Try.f20 k ∧ (sp72 k).St tt (g72 k) lv72 Try.f72 k := by
 refine cu_ (A := ∀ (n : Nat) {x0 x1 x2 : LI} {x35 x36 : Int} {y0 y1 y2 : LI} {K : CK},S.lp tt (g18 k) lv18 0 n (loopN Try.f18 0) ⟨[(0,.dat ti x0 true),(1,.dat ti x1 true),(2,.dat ti x2 true),(10,.own 0),(11,.own 1),(12,.own 2),(35,.i .i64 x35),(36,.i .i64 x36)],[(0,.row ti y0 false),(1,.row ti y1 false),(2,.row ti y2 false)],3,83⟩ K = bindO (qaS.l0 n x0 x1 x2 x35 x36 y0 y1 y2) (fun x : LI × LI => K (.exit 0) ⟨[(11,.own 0),(12,.own 1)],[(0,.row ti x.1 false),(1,.row ti x.2 false)],2,83⟩)) (fun w18_0=>?_) (ind_ ?_ ?_)
 refine cu_ (A := ∀ (n : Nat) {x0 : LI} {x3 x4 : Int} {K : CK},S.lp tt (g51 k) lv51 0 n (loopN Try.f51 0) ⟨[(0,.dat ti x0 true),(3,.i .i64 x3),(4,.i .i64 x4)],[],0,21⟩ K = bindO (qa6.l0 n x0 x3 x4) (fun x : Int => K (.exit 0) ⟨[(3,.i .i64 x)],[],0,21⟩)) (fun w51_0=>?_) (ind_ ?_ ?_)
 refine cu_ (A := ∀ (n : Nat) {x0 : LI} {x1 x6 : Int} {y0 : LI} {K : CK},S.lp tt (g19 k) lv19 0 n (loopN Try.f19 0) ⟨[(0,.dat ti x0 true),(1,.i .i64 x1),(5,.own 0),(6,.i .i64 x6)],[(0,.row ti y0 false)],1,41⟩ K = bindO (qaW.l0 n x0 x1 x6 y0) (fun x : LI => K (.exit 0) ⟨[(5,.own 0)],[(0,.row ti x false)],1,41⟩)) (fun w19_0=>?_) (ind_ ?_ ?_)
 refine cu_ (A := ∀ (n : Nat) {x0 : LI} {x1 x6 : Int} {y2 y3 : LI} {K : CK},S.lp tt (g54 k) lv54 0 n (loopN Try.f54 0) ⟨[(0,.dat ti x0 true),(1,.i .i64 x1),(4,.ptr 0 0),(5,.ptr 1 0),(6,.i .i64 x6)],[(0,.var [.nilsl,.nilsl]),(1,.var [.own 2,.own 3]),(2,.row ti y2 false),(3,.row ti y3 false)],4,24⟩ K = bindO (qa7.l0 k n x0 x1 x6 y2 y3) (fun x : LI => K (.exit 0) ⟨[(4,.ptr 0 0),(5,.ptr 1 0)],[(0,.var [.nilsl,.nilsl]),(1,.var [.own 2,.own 3]),(2,.row ti y2 false),(3,.row ti x false)],4,24⟩)) (fun w54_0=>?_) (ind_ ?_ ?_)
 refine cu_ (A := ∀ (n : Nat) {x0 x1 : LI} {x5 x6 : Int} {K : CK},S.lp tt (g20 k) lv20 0 n (loopN Try.f20 0) ⟨[(0,.dat ti x0 true),(1,.dat ti x1 true),(5,.i .i64 x5),(6,.i .i64 x6)],[],0,51⟩ K = bindO (qaZ.l0 n x0 x1 x5 x6) (Sum.elim (fun x : Int => K (.exit 0) ⟨[(5,.i .i64 x)],[],0,51⟩) (fun x : Int => K .ret ⟨[(4,.i .i64 x)],[],0,51⟩))) (fun w20_0=>?_) (ind_ ?_ ?_)
 and_intros
 all_goals first|(dsimp only [SP.St,sp18,sp51,sp28,sp19,sp54,sp20,sp72,dN,dL,dI,dG,oN]; intros; (first|unfold qaS.f|unfold qa6.f|unfold qbt.f|unfold qaW.f|unfold qa7.f|unfold qaZ.f|unfold qbI.f); refine S.run_s rfl rfl ?_; (conv=>lhs;arg 5;whnf); conv=>lhs;arg 6;whnf)|(intros; rw [S.lp_zero]; exact qbh)|(intro n ih; intros; (first|rw [qaS.l0]|rw [qa6.l0]|rw [qaW.l0]|rw [qa7.l0]|rw [qaZ.l0]); refine S.lp_succ ?_; conv=>lhs;arg 5;whnf)
 all_goals repeat' first|(first|refine S.seq_op rfl ?_|refine S.op_n ?_|refine S.block_x ?_|refine qen ?_|refine qeo ?_|refine br_t (by assumption) ?_|refine br_f (by assumption) ?_|refine qbC (by with_reducible assumption) ?_|refine qem (fun _=>?_) (fun _=>?_)|refine br_d (fun _=>?_) (fun _=>?_)|refine br_n (fun _=>?_) (fun _=>?_)|refine br_c (fun _=>?_) (fun _=>?_)|refine qdW fun _=>?_|refine qbC (by assumption) ?_|refine qep fun _=>?_)<;>(conv=>lhs;whnf)|refine S.seq_nil ?_|refine S.reg_n ?_|refine S.region rfl ?_|refine S.two ?_|refine S.blok ?_|refine S.cond rfl ?_|refine S.after_n ?_|refine S.block_n ?_|refine S.block_r ?_|refine S.after_x ?_|refine S.after_r ?_|refine S.skip ?_|refine S.exit ?_|refine S.ret ?_|refine qdF (fun _=>?_) (fun _=>?_)|refine S.region_d (id := 8) (ds := [0,0,3,7,0,31]) (mds := [[],[],[],[],[],[]]) (hm := []) (by kernel_rfl) (by kernel_rfl) rfl rfl ?_|refine S.region_d (id := 10) (ds := [0,0,3,7,0,0,0,96,224,496,1008,0,0,0,12288,28672,63488,129024,262143,524287,1048575,1048575,2097151,8388607]) (mds := [[],[],[],[],[],[],[],[],[],[],[],[],[],[],[],[],[],[],[],[],[],[],[],[]]) (hm := []) (by kernel_rfl) (by kernel_rfl) rfl rfl ?_|exact ih|refine (w18_0 _).trans ?_|refine (w51_0 _).trans ?_|refine (w19_0 _).trans ?_|refine (w54_0 _).trans ?_|refine (w20_0 _).trans ?_|refine S.region_d (id := 1) (ds := [0,1,3,7,15,31,63,15,143,399,1023,2047,4095]) (mds := [[],[],[],[],[],[],[],[],[],[],[],[],[]]) (hm := []) (by kernel_rfl) (by kernel_rfl) rfl rfl ?_|refine S.region_d (id := 7) (ds := [0,0,3,7,15,31,63,63,255,511,63,63,3135,7231,16383,32767]) (mds := [[],[],[],[],[],[],[],[],[],[],[],[],[],[],[],[]]) (hm := []) (by kernel_rfl) (by kernel_rfl) rfl rfl ?_|refine S.region_d (id := 9) (ds := [0,0,0,6,14,31,0,0,192,448,1023,2047]) (mds := [[],[],[],[],[],[],[],[],[],[],[],[]]) (hm := []) (by kernel_rfl) (by kernel_rfl) rfl rfl ?_|refine S.region_d (id := 1) (ds := [0,1,0,4,0,28,63,127,255]) (mds := [[],[],[],[],[],[],[],[],[]]) (hm := []) (by kernel_rfl) (by kernel_rfl) rfl rfl ?_|(first|refine S.loop ?_|refine S.back_n ?_|refine S.back_x ?_|refine S.back_r ?_|refine S.fin_r ?_|refine S.fin_n ?_|refine S.dk_n ?_|refine S.draw_nil ?_)<;>(conv=>lhs;whnf)|exact qdV rfl|exact qbh|(refine S.draw_op ?_; conv => lhs; whnf; arg 1; whnf)|refine qbG ?_|refine qbr ?_|refine qcj ?_|refine qbb ?_
theorem snd18 (k : Nat) : Sound Try.prog 18 (sp18 k).fs := sn_ qak mixed Try.func18 (by kernel_rfl) rfl (qaa snd50 (qaa (snd49 k) (qaa (snd17 k) (qaa (snd29 k) (qab _))))) (lp1 seals k).1
theorem snd51 (k : Nat) : Sound Try.prog 51 (sp51 k).fs := sn_ qak mixed Try.func51 (by kernel_rfl) rfl (qaa (snd52 k) (qab _)) (lp1 seals k).2.1
theorem snd28 (k : Nat) : Sound Try.prog 28 (sp28 k).fs := sn_ qak mixed Try.func28 (by kernel_rfl) rfl (qaa (snd51 k) (qaa (snd52 k) (qab _))) (lp1 seals k).2.2.1
theorem snd19 (k : Nat) : Sound Try.prog 19 (sp19 k).fs := sn_ qak mixed Try.func19 (by kernel_rfl) rfl (qaa (snd51 k) (qab _)) (lp1 seals k).2.2.2.1
theorem snd54 (k : Nat) : Sound Try.prog 54 (sp54 k).fs := sn_ qak mixed Try.func54 (by kernel_rfl) rfl (qaa (snd51 k) (qab _)) (lp1 seals k).2.2.2.2.1
theorem snd20 (k : Nat) : Sound Try.prog 20 (sp20 k).fs := sn_ qak mixed Try.func20 (by kernel_rfl) rfl (qaa (snd52 k) (qab _)) (lp1 seals k).2.2.2.2.2.1
theorem snd72 (k : Nat) : Sound Try.prog 72 (sp72 k).fs := sn_ qak mixed Try.func72 (by kernel_rfl) rfl (qaa (snd20 k) (qab _)) (lp1 seals k).2.2.2.2.2.2
def lv57 : Live := look ⟨[],[],[],[],[]⟩ [(6,⟨[1,2,3,6,33,34],[1,2,3,6],[6,7],[],[]⟩),(13,⟨[1,2,3,6,9,84,85],[6,9],[6,7],[],[]⟩),(17,⟨[1,2,3,6,9,10,11,84,85,92,93],[1,2,3,6,9,10,11,84,85],[6,7],[],[]⟩),(1000000,⟨[],[],[],[(6,0,.own ti),(6,1,.own ti)],[]⟩)]
def g57 (k : Nat) : FEnv := (addF 72 (sp72 k).fs (addF 19 (sp19 k).fs (addF 54 (sp54 k).fs (addF 28 (sp28 k).fs (fun _=>none)))))
def sp57 (k : Nat) : SP := .mk [.rd,.rd,.rd] (dG (dL ti true (dL ti true dN)) (dL ti true (dL ti true dN))) oN fun ((a0_0,a0_1,_),a1,a2,_) _ C => C _ (qam.f k a0_0 a0_1 a1 a2) (fun x => .tup [.agg [.own 0,.own 1],.i .i64 x.1]) fun x => [.row ti x.2.1 false,.row ti x.2.2 false]
def lv26 : Live := look ⟨[],[],[],[],[]⟩ [(1000000,⟨[],[],[],[(8,0,.own ti),(8,1,.own ti)],[]⟩)]
def g26 (k : Nat) : FEnv := (addF 57 (sp57 k).fs (addF 18 (sp18 k).fs (addF 17 (sp17 k).fs (addF 29 (sp29 k).fs (addF 28 (sp28 k).fs (fun _=>none))))))
def sp26 (k : Nat) : SP := .mk [.rd,.rd,.rd,.rd] (dG (dL ti true (dL ti true dN)) (dL ti true (dL ti true (dI .i64 dN)))) oN fun ((a0_0,a0_1,_),a1,a2,a3,_) _ C => C _ (qb4.f k a0_0 a0_1 a1 a2 a3) (fun x => .tup [.agg [.own 0,.own 1],.i .i64 x.1]) fun x => [.row ti x.2.1 false,.row ti x.2.2 false]
theorem lp2 (S : Seals) (k : Nat) : (sp57 k).St tt (g57 k) lv57 Try.f57 k ∧ (sp26 k).St tt (g26 k) lv26 Try.f26 k := by
 refine cu_ (A := ∀ (n : Nat) {x1 x2 : LI} {x33 x34 : Int} {y0_0 y0_1 : LI} {K : CK},S.lp tt (g57 k) lv57 0 n (loopN Try.f57 0) ⟨[(1,.dat ti x1 true),(2,.dat ti x2 true),(3,.ptr 0 0),(6,.ptr 1 0),(33,.i .i64 x33),(34,.i .i64 x34)],[(0,.var [.dat ti y0_0 true,.dat ti y0_1 true]),(1,.var [.nilsl,.nilsl])],2,118⟩ K = bindO (qam.l0 n x1 x2 x33 x34 y0_0 y0_1) (Sum.elim (fun x : Unit => K (.exit 0) ⟨[(1,.dat ti x1 true),(2,.dat ti x2 true),(3,.ptr 0 0),(6,.ptr 1 0)],[(0,.var [.dat ti y0_0 true,.dat ti y0_1 true]),(1,.var [.nilsl,.nilsl])],2,118⟩) (fun x : Int => K .ret ⟨[(6,.ptr 0 0),(7,.i .i64 x)],[(0,.var [.nilsl,.nilsl])],1,118⟩))) (fun w57_0=>?_) (ind_ ?_ ?_)
 refine cu_ (A := ∀ (n : Nat) {x1 x2 : LI} {x10 x84 : Int} {x85 x92 x93 : Int} {y0_0 y0_1 : LI} {y3 y4 y5 : LI} {K : CK},S.lp tt (g57 k) lv57 0 n (loopN Try.f57 2) ⟨[(1,.dat ti x1 true),(2,.dat ti x2 true),(3,.ptr 0 0),(6,.ptr 1 0),(9,.ptr 2 0),(10,.i .i64 x10),(11,.own 3),(84,.i .i64 x84),(85,.i .i64 x85),(92,.i .i64 x92),(93,.i .i64 x93)],[(0,.var [.dat ti y0_0 true,.dat ti y0_1 true]),(1,.var [.nilsl,.nilsl]),(2,.var [.own 4,.own 5]),(3,.row ti y3 false),(4,.row ti y4 false),(5,.row ti y5 false)],6,118⟩ K = bindO (qam.l2 n x1 x2 x10 x84 x85 x92 x93 y0_0 y0_1 y3 y4 y5) (fun x : LI => K (.exit 4) ⟨[(1,.dat ti x1 true),(2,.dat ti x2 true),(3,.ptr 0 0),(6,.ptr 1 0),(9,.ptr 2 0),(10,.i .i64 x10),(11,.own 3),(84,.i .i64 x84),(85,.i .i64 x85)],[(0,.var [.dat ti y0_0 true,.dat ti y0_1 true]),(1,.var [.nilsl,.nilsl]),(2,.var [.own 4,.own 5]),(3,.row ti x false),(4,.row ti y4 false),(5,.row ti y5 false)],6,118⟩)) (fun w57_2=>?_) (ind_ ?_ ?_)
 refine cu_ (A := ∀ (n : Nat) {x1 x2 : LI} {x84 x85 : Int} {y0_0 y0_1 : LI} {y3 y4 : LI} {K : CK},S.lp tt (g57 k) lv57 0 n (loopN Try.f57 1) ⟨[(1,.dat ti x1 true),(2,.dat ti x2 true),(3,.ptr 0 0),(6,.ptr 1 0),(9,.ptr 2 0),(84,.i .i64 x84),(85,.i .i64 x85)],[(0,.var [.dat ti y0_0 true,.dat ti y0_1 true]),(1,.var [.nilsl,.nilsl]),(2,.var [.own 3,.own 4]),(3,.row ti y3 false),(4,.row ti y4 false)],5,118⟩ K = bindO (qam.l1 k n x1 x2 x84 x85 y0_0 y0_1 y3 y4) (fun x : LI => K (.exit 2) ⟨[(6,.ptr 0 0),(9,.ptr 1 0)],[(0,.var [.nilsl,.nilsl]),(1,.var [.own 2,.own 3]),(2,.row ti y3 false),(3,.row ti x false)],4,118⟩)) (fun w57_1=>?_) (ind_ ?_ ?_)
 and_intros
 all_goals first|(dsimp only [SP.St,sp57,sp26,dN,dL,dI,dG,oN]; intros; (first|unfold qam.f|unfold qb4.f); refine S.run_s rfl rfl ?_; (conv=>lhs;arg 5;whnf); conv=>lhs;arg 6;whnf)|(intros; rw [S.lp_zero]; exact qbh)|(intro n ih; intros; (first|rw [qam.l0]|rw [qam.l2]|rw [qam.l1]); refine S.lp_succ ?_; conv=>lhs;arg 5;whnf)
 all_goals repeat' first|(first|refine S.seq_op rfl ?_|refine S.op_n ?_|refine S.block_x ?_|refine qen ?_|refine qeo ?_|refine br_t (by assumption) ?_|refine br_f (by assumption) ?_|refine qbC (by with_reducible assumption) ?_|refine qem (fun _=>?_) (fun _=>?_)|refine br_d (fun _=>?_) (fun _=>?_)|refine br_n (fun _=>?_) (fun _=>?_)|refine br_c (fun _=>?_) (fun _=>?_)|refine qdW fun _=>?_|refine qbC (by assumption) ?_|refine qep fun _=>?_)<;>(conv=>lhs;whnf)|refine S.seq_nil ?_|refine S.reg_n ?_|refine S.region rfl ?_|refine S.two ?_|refine S.blok ?_|refine S.cond rfl ?_|refine S.after_n ?_|refine S.block_n ?_|refine S.block_r ?_|refine S.after_x ?_|refine S.after_r ?_|refine S.skip ?_|refine S.exit ?_|refine S.ret ?_|refine qdF (fun _=>?_) (fun _=>?_)|refine S.region_d (id := 8) (ds := [0,0,3,7,15,31,63,63,255,511,1023,2047,4095,8191,8191,32767,65535,8191,139263,8191,925695,1974271,4194303,8388607,16777215,33554431,33554431,134217727,268435455,33554431,570425343,33554431,3791650815,8086618111,33554431,33554431,51573161983,120292638719,274374590463,549755813887,1099511627775]) (mds := [[],[],[],[],[],[],[],[],[],[],[],[],[],[],[],[],[],[],[],[],[],[],[],[],[],[],[],[],[],[],[],[],[],[],[],[],[],[],[],[],[]]) (hm := []) (by kernel_rfl) (by kernel_rfl) rfl rfl ?_|exact ih|refine (w57_2 _).trans ?_|refine (w57_0 _).trans ?_|refine (w57_1 _).trans ?_|refine S.region_d (id := 19) (ds := [0,0,0,0,12,28,0,0,192,448,1020,2047,4095]) (mds := [[],[],[],[],[],[],[],[],[],[],[],[],[3]]) (hm := [(12,[3])]) (by kernel_rfl) (by kernel_rfl) rfl rfl ?_|refine S.region_d (id := 21) (ds := [0,1,0,0,0,24,63,127]) (mds := [[],[],[],[],[],[3,3],[],[5]]) (hm := [(5,[3,3]),(7,[5])]) (by kernel_rfl) (by kernel_rfl) rfl rfl ?_|(first|refine S.loop ?_|refine S.back_n ?_|refine S.back_x ?_|refine S.back_r ?_|refine S.fin_r ?_|refine S.fin_n ?_|refine S.dk_n ?_|refine S.draw_nil ?_)<;>(conv=>lhs;whnf)|exact qdV rfl|exact qbh|(refine S.draw_op ?_; conv => lhs; whnf; arg 1; whnf)|refine qbG ?_|refine qbr ?_|refine qcj ?_|refine qbb ?_
theorem snd57 (k : Nat) : Sound Try.prog 57 (sp57 k).fs := sn_ qak mixed Try.func57 (by kernel_rfl) rfl (qaa (snd72 k) (qaa (snd19 k) (qaa (snd54 k) (qaa (snd28 k) (qab _))))) (lp2 seals k).1
theorem snd26 (k : Nat) : Sound Try.prog 26 (sp26 k).fs := sn_ qak mixed Try.func26 (by kernel_rfl) rfl (qaa (snd57 k) (qaa (snd18 k) (qaa (snd17 k) (qaa (snd29 k) (qaa (snd28 k) (qab _)))))) (lp2 seals k).2
end
end Go.Vm
