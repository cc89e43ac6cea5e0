/- Own texts put together: the walks -/
import Derived.Test.YtmdhoglicfmakaaVm2
import Derived.Test.YtmdhoglicfmakaaPl0
import Derived.Test.YtmdhoglicfmakaaProg
import Derived.Test.YtmdhoglicfmakaaSx0
namespace Go.Vm
open Go
abbrev ti : Ty := .int .i64
end Go.Vm

set_option linter.unusedVariables false
set_option maxRecDepth 60000
set_option maxHeartbeats 40000000
namespace Go.Vm
open Go Go.Proofs Go.Pf
noncomputable section

theorem ind_ {P : Nat → Prop} (h0 : P 0) (hs : ∀ n,P n → P (n + 1)) : ∀ n,P n
 | 0 => h0
 | n + 1 => hs n (ind_ h0 hs n)
theorem cu_ {A B : Prop} (f : A → B) (a : A) : B := f a
def tt : Tab := [default,
 default,
 ⟨.int .i64,1,8,[.i .i64 0],some ti⟩,
 ⟨.int .i64,1,8,[.i .i64 0],some ti⟩,
 ⟨.bool,1,1,[.b false],some .bool⟩,
 default,
 default,
 default,
 default,
 default,
 default,
 default,
 default,
 default,
 default,
 default,
 default,
 default,
 default,
 default,
 default,
 default,
 ⟨.sl 24,1,24,[.nilsl],some (.sl (.pair ti (.pair ti (.pair ti (.pair ti ti)))))⟩,
 default,
 ⟨.struct [(0,3),(1,3),(2,3),(3,3),(4,2)],5,40,[.i .i64 0,.i .i64 0,.i .i64 0,.i .i64 0,.i .i64 0],some (.pair ti (.pair ti (.pair ti (.pair ti ti))))⟩,
 default,
 default,
 ⟨.sl 3,1,24,[.nilsl],some (.sl ti)⟩,
 ⟨.ptr 30,1,8,[.kon (.pointer none)],none⟩,
 default,
 ⟨.struct [(0,27),(1,3)],2,32,[.nilsl,.i .i64 0],some (.pair (.sl ti) ti)⟩,
 default,
 default,
 default,
 ⟨.ptr 56,1,8,[.kon (.pointer none)],none⟩,
 default,
 default,
 ⟨.sl 2,1,24,[.nilsl],some (.sl ti)⟩,
 default,
 ⟨.struct [(0,27),(1,37)],2,48,[.nilsl,.nilsl],some (.pair (.sl ti) (.sl ti))⟩,
 default,
 ⟨.struct [(0,3),(1,3),(2,3),(3,39)],5,72,[.i .i64 0,.i .i64 0,.i .i64 0,.nilsl,.nilsl],some (.pair ti (.pair ti (.pair ti (.pair (.sl ti) (.sl ti)))))⟩,
 default,
 ⟨.sl 41,1,24,[.nilsl],some (.sl (.pair ti (.pair ti (.pair ti (.pair (.sl ti) (.sl ti))))))⟩,
 default,
 default,
 default,
 default,
 default,
 default,
 default,
 default,
 default,
 default,
 ⟨.map 58 39,1,8,[.kon (.map none)],none⟩,
 default,
 ⟨.struct [(0,54)],1,8,[.kon (.map none)],none⟩,
 default,
 ⟨.arr 3 3,3,24,[.i .i64 0,.i .i64 0,.i .i64 0],some (.pair ti (.pair ti ti))⟩,
 default,
 default,
 default,
 default,
 ⟨.func,1,8,[.kon (.nilFunc)],none⟩]
theorem qaE : TabOK Try.prog tt := qgQ (by kernel_rfl)
theorem mixed : Try.prog.follows .mixedOrders = true := by kernel_rfl

def lv10 : Live := look ⟨[],[],[],[],[]⟩ []
def g10 : FEnv := (fun _=>none)
def sp10 : SP := .mk [] dN oN fun _ _ C => C _ (qbX.f) (fun x => .ptr 0 0) fun x => [.var 56 [.own 1],.ext (.map true (.pair ti (.pair ti ti)) true (.pair (.sl ti) (.sl ti)) x)]
theorem lp0 (S : Seals) (k : Nat) : sp10.St tt (g10) lv10 Try.f10 k := by
 all_goals (dsimp only [SP.St,sp10,dN,oN]; intros; unfold qbX.f; refine S.run_s rfl rfl ?_; (conv=>lhs;arg 5;whnf); conv=>lhs;arg 6;whnf)
 all_goals repeat' first|(first|refine S.seq_op rfl ?_|refine S.op_n ?_|refine S.block_x ?_|refine qcP ?_|refine qcQ ?_|refine br_t (by assumption) ?_|refine br_f (by assumption) ?_|refine qbk (by with_reducible assumption) ?_|refine qes (fun _=>?_) (fun _=>?_)|refine br_d (fun _=>?_) (fun _=>?_)|refine br_n (fun _=>?_) (fun _=>?_)|refine br_c (fun _=>?_) (fun _=>?_)|refine qeb fun _=>?_|refine qbk (by assumption) ?_|refine qet fun _=>?_)<;>(conv=>lhs;whnf)|refine S.seq_nil ?_|refine S.reg_n ?_|refine S.region rfl ?_|refine S.two ?_|refine S.blok ?_|refine S.cond rfl ?_|refine S.after_n ?_|refine S.block_n ?_|refine S.block_r ?_|refine S.after_x ?_|refine S.after_r ?_|refine S.skip ?_|refine S.exit ?_|refine S.ret ?_|refine qd4 (fun _=>?_) (fun _=>?_)|(first|refine S.loop ?_|refine S.back_n ?_|refine S.back_x ?_|refine S.back_r ?_|refine S.fin_r ?_|refine S.fin_n ?_|refine S.dk_n ?_|refine S.draw_nil ?_)<;>(conv=>lhs;whnf)|(refine S.draw_op ?_; conv => lhs; whnf; arg 1; whnf)|refine qbI ?_|refine qa2 ?_|refine qb5 ?_|refine qaZ ?_|exact qea rfl|exact qbs
theorem snd10 : Sound Try.prog 10 sp10.fs := sn_ qaE mixed Try.func10 (by kernel_rfl) rfl (qak _) (lp0 seals 0)
def lv28 : Live := look ⟨[],[],[],[],[]⟩ [(1000000,⟨[],[],[],[(2,0,.own ti)],[]⟩)]
noncomputable def g28 : FEnv := (fun _=>none)
theorem en28 : EnvOK Try.prog (g28) := (qak _)
set_option maxRecDepth 60000 in
set_option maxHeartbeats 40000000 in
theorem r28 (S : Seals) (k : Nat) (a0 : LI) : runF tt (g28) lv28 Try.f28 k [.dat ti a0 true] [] = bindO (qaC.f a0) (fun x : LI => some (.own 0,[.row ti x false])) := by
 unfold qaC.f; cases a0
 ·rw [if_pos (by decide)]; refine S.run_s rfl rfl ?_; conv => lhs; arg 5; whnf
  conv => lhs; arg 6; whnf
  repeat' first|(first|refine qbk (by decide) ?_|refine S.seq_op rfl ?_|refine S.op_n ?_|refine S.block_x ?_|refine qcP ?_|refine qcQ ?_|refine br_t (by assumption) ?_|refine br_f (by assumption) ?_|refine qbk (by with_reducible assumption) ?_|refine qes (fun _=>?_) (fun _=>?_)|refine br_d (fun _=>?_) (fun _=>?_)|refine br_n (fun _=>?_) (fun _=>?_)|refine br_c (fun _=>?_) (fun _=>?_)|refine qeb fun _=>?_|refine qbk (by assumption) ?_|refine qet fun _=>?_)<;>(conv=>lhs;whnf)|refine S.seq_nil ?_|refine S.reg_n ?_|refine S.region rfl ?_|refine S.two ?_|refine S.blok ?_|refine S.cond rfl ?_|refine S.after_n ?_|refine S.block_n ?_|refine S.block_r ?_|refine S.after_x ?_|refine S.after_r ?_|refine S.skip ?_|refine S.exit ?_|refine S.ret ?_|refine qd4 (fun _=>?_) (fun _=>?_)|refine qhi ?_ ?_|(first|refine S.loop ?_|refine S.back_n ?_|refine S.back_x ?_|refine S.back_r ?_|refine S.fin_r ?_|refine S.fin_n ?_|refine S.dk_n ?_|refine S.draw_nil ?_)<;>(conv=>lhs;whnf)|(refine S.draw_op ?_; conv => lhs; whnf; arg 1; whnf)|refine qbI ?_|refine qa2 ?_|refine qb5 ?_|refine qaZ ?_|exact qea rfl|exact qbs
 ·refine S.run_s rfl rfl ?_; conv => lhs; arg 5; whnf
  conv => lhs; arg 6; whnf
  repeat' first|(first|refine S.seq_op rfl ?_|refine S.op_n ?_|refine S.block_x ?_|refine qcP ?_|refine qcQ ?_|refine br_t (by assumption) ?_|refine br_f (by assumption) ?_|refine qbk (by with_reducible assumption) ?_|refine qes (fun _=>?_) (fun _=>?_)|refine br_d (fun _=>?_) (fun _=>?_)|refine br_n (fun _=>?_) (fun _=>?_)|refine br_c (fun _=>?_) (fun _=>?_)|refine qeb fun _=>?_|refine qbk (by assumption) ?_|refine qet fun _=>?_)<;>(conv=>lhs;whnf)|refine S.seq_nil ?_|refine S.reg_n ?_|refine S.region rfl ?_|refine S.two ?_|refine S.blok ?_|refine S.cond rfl ?_|refine S.after_n ?_|refine S.block_n ?_|refine S.block_r ?_|refine S.after_x ?_|refine S.after_r ?_|refine S.skip ?_|refine S.exit ?_|refine S.ret ?_|refine qd4 (fun _=>?_) (fun _=>?_)|(first|refine S.loop ?_|refine S.back_n ?_|refine S.back_x ?_|refine S.back_r ?_|refine S.fin_r ?_|refine S.fin_n ?_|refine S.dk_n ?_|refine S.draw_nil ?_)<;>(conv=>lhs;whnf)|(refine S.draw_op ?_; conv => lhs; whnf; arg 1; whnf)|refine qbI ?_|refine qa2 ?_|refine qb5 ?_|refine qaZ ?_|exact qea rfl|exact qbs
def sp28 : FSpec := ⟨[.rd],fun args objs K => match args,objs with | [v0],[] => listB ti true v0 fun a0 => bindO (qaC.f a0) fun x : LI => K (.own 0) [.row ti x false] | _,_ => none⟩
theorem snd28 : Sound Try.prog 28 (sp28) := by
 refine ⟨⟨Try.f28,Try.func28,by kernel_rfl,rfl⟩,fun args objs K r h => ?_⟩
 unfold sp28 at h; dsimp only at h; split at h
 ·rename_i v0
  obtain ⟨a0,h9,ca0⟩ := qcB h; clear h
  have h := h9; clear h9
  obtain ⟨x,hx,h⟩ := qb0 h
  exact ⟨_,_,h,FnOK.args2 (qbP ca0 qgi) (qeQ qaE (en28) mixed Try.func28 ((r28 seals 0 a0).trans (qbG hx)))⟩
 ·cases h

def lv29 : Live := look ⟨[],[],[],[],[]⟩ [(1000000,⟨[],[],[],[(2,0,.own ti)],[]⟩)]
noncomputable def g29 : FEnv := (fun _=>none)
theorem en29 : EnvOK Try.prog (g29) := (qak _)
set_option maxRecDepth 60000 in
set_option maxHeartbeats 40000000 in
theorem r29 (S : Seals) (k : Nat) (a0 : LI) : runF tt (g29) lv29 Try.f29 k [.dat ti a0 true] [] = bindO (qaw.f a0) (fun x : LI => some (.own 0,[.row ti x false])) := by
 unfold qaw.f; cases a0
 ·rw [if_pos (by decide)]; refine S.run_s rfl rfl ?_; conv => lhs; arg 5; whnf
  conv => lhs; arg 6; whnf
  repeat' first|(first|refine qbk (by decide) ?_|refine S.seq_op rfl ?_|refine S.op_n ?_|refine S.block_x ?_|refine qcP ?_|refine qcQ ?_|refine br_t (by assumption) ?_|refine br_f (by assumption) ?_|refine qbk (by with_reducible assumption) ?_|refine qes (fun _=>?_) (fun _=>?_)|refine br_d (fun _=>?_) (fun _=>?_)|refine br_n (fun _=>?_) (fun _=>?_)|refine br_c (fun _=>?_) (fun _=>?_)|refine qeb fun _=>?_|refine qbk (by assumption) ?_|refine qet fun _=>?_)<;>(conv=>lhs;whnf)|refine S.seq_nil ?_|refine S.reg_n ?_|refine S.region rfl ?_|refine S.two ?_|refine S.blok ?_|refine S.cond rfl ?_|refine S.after_n ?_|refine S.block_n ?_|refine S.block_r ?_|refine S.after_x ?_|refine S.after_r ?_|refine S.skip ?_|refine S.exit ?_|refine S.ret ?_|refine qd4 (fun _=>?_) (fun _=>?_)|refine qhi ?_ ?_|(first|refine S.loop ?_|refine S.back_n ?_|refine S.back_x ?_|refine S.back_r ?_|refine S.fin_r ?_|refine S.fin_n ?_|refine S.dk_n ?_|refine S.draw_nil ?_)<;>(conv=>lhs;whnf)|(refine S.draw_op ?_; conv => lhs; whnf; arg 1; whnf)|refine qbI ?_|refine qa2 ?_|refine qb5 ?_|refine qaZ ?_|exact qea rfl|exact qbs
 ·refine S.run_s rfl rfl ?_; conv => lhs; arg 5; whnf
  conv => lhs; arg 6; whnf
  repeat' first|(first|refine S.seq_op rfl ?_|refine S.op_n ?_|refine S.block_x ?_|refine qcP ?_|refine qcQ ?_|refine br_t (by assumption) ?_|refine br_f (by assumption) ?_|refine qbk (by with_reducible assumption) ?_|refine qes (fun _=>?_) (fun _=>?_)|refine br_d (fun _=>?_) (fun _=>?_)|refine br_n (fun _=>?_) (fun _=>?_)|refine br_c (fun _=>?_) (fun _=>?_)|refine qeb fun _=>?_|refine qbk (by assumption) ?_|refine qet fun _=>?_)<;>(conv=>lhs;whnf)|refine S.seq_nil ?_|refine S.reg_n ?_|refine S.region rfl ?_|refine S.two ?_|refine S.blok ?_|refine S.cond rfl ?_|refine S.after_n ?_|refine S.block_n ?_|refine S.block_r ?_|refine S.after_x ?_|refine S.after_r ?_|refine S.skip ?_|refine S.exit ?_|refine S.ret ?_|refine qd4 (fun _=>?_) (fun _=>?_)|(first|refine S.loop ?_|refine S.back_n ?_|refine S.back_x ?_|refine S.back_r ?_|refine S.fin_r ?_|refine S.fin_n ?_|refine S.dk_n ?_|refine S.draw_nil ?_)<;>(conv=>lhs;whnf)|(refine S.draw_op ?_; conv => lhs; whnf; arg 1; whnf)|refine qbI ?_|refine qa2 ?_|refine qb5 ?_|refine qaZ ?_|exact qea rfl|exact qbs
def sp29 : FSpec := ⟨[.rd],fun args objs K => match args,objs with | [v0],[] => listB ti true v0 fun a0 => bindO (qaw.f a0) fun x : LI => K (.own 0) [.row ti x false] | _,_ => none⟩
theorem snd29 : Sound Try.prog 29 (sp29) := by
 refine ⟨⟨Try.f29,Try.func29,by kernel_rfl,rfl⟩,fun args objs K r h => ?_⟩
 unfold sp29 at h; dsimp only at h; split at h
 ·rename_i v0
  obtain ⟨a0,h9,ca0⟩ := qcB h; clear h
  have h := h9; clear h9
  obtain ⟨x,hx,h⟩ := qb0 h
  exact ⟨_,_,h,FnOK.args2 (qbP ca0 qgi) (qeQ qaE (en29) mixed Try.func29 ((r29 seals 0 a0).trans (qbG hx)))⟩
 ·cases h

def lv21 : Live := look ⟨[],[],[],[],[]⟩ []
def g21 : FEnv := (addF 29 sp29 (addF 28 sp28 (fun _=>none)))
def sp21 : SP := .mk [.rd] (dG (dL ti true (dL ti true dN)) dN) oN fun ((a0_0,a0_1,_),_) _ C => C _ (qaQ.f a0_0 a0_1) (fun x => .agg [.own 0,.own 1]) fun x => [.row ti x.1 false,.row ti x.2 false]
def lv11 : Live := look ⟨[],[],[],[],[]⟩ []
def g11 : FEnv := (addF 21 sp21.fs (fun _=>none))
def sp11 : SP := .mk [.rd,.rd] (dP 0 0 (dG (dI .i64 (dI .i64 (dI .i64 (dL ti true (dL ti true dN))))) dN)) (oV 56 (cO 1 cN) (oM true (.pair ti (.pair ti ti)) true (.pair (.sl ti) (.sl ti)) oN)) fun ((a1_0,a1_1,a1_2,a1_3,a1_4,_),_) (_,o1,_) C => C _ (qaB.f a1_0 a1_1 a1_2 a1_3 a1_4 o1) (fun x => .b x.1) fun x => [.var 56 [.own 1],.ext (.map true (.pair ti (.pair ti ti)) true (.pair (.sl ti) (.sl ti)) x.2)]
def lv26 : Live := look ⟨[],[],[],[],[]⟩ [(4,⟨[0,1,5],[],[4],[],[]⟩)]
def g26 : FEnv := (fun _=>none)
def sp26 (k : Nat) : SP := .mk [.rd,.rd] (dL ti true (dL ti true dN)) oN fun (a0,a1,_) _ C => C _ (qaH.f k a0 a1) (fun x => .b x) fun x => []
def lv18 : Live := look ⟨[],[],[],[],[]⟩ [(4,⟨[2,3,5],[],[4],[],[]⟩)]
def g18 (k : Nat) : FEnv := (addF 26 (sp26 k).fs (fun _=>none))
def sp18 (k : Nat) : SP := .mk [.rd,.rd] (dG (dL ti true (dL ti true dN)) (dG (dL ti true (dL ti true dN)) dN)) oN fun ((a0_0,a0_1,_),(a1_0,a1_1,_),_) _ C => C _ (qaA.f k a0_0 a0_1 a1_0 a1_1) (fun x => .b x) fun x => []
def lv12 : Live := look ⟨[],[],[],[],[]⟩ [(4,⟨[0,1,12,13],[],[4],[],[]⟩)]
def g12 (k : Nat) : FEnv := (addF 18 (sp18 k).fs (fun _=>none))
def sp12 (k : Nat) : SP := .mk [.rd,.rd] (dL (.pair ti (.pair ti (.pair ti (.pair (.sl ti) (.sl ti))))) true (dL (.pair ti (.pair ti (.pair ti (.pair (.sl ti) (.sl ti))))) true dN)) oN fun (a0,a1,_) _ C => C _ (qaf.f k a0 a1) (fun x => .b x) fun x => []
def lv24 : Live := look ⟨[],[],[],[],[]⟩ [(3,⟨[3,6,7,8],[3],[2],[],[]⟩)]
def g24 : FEnv := (fun _=>none)
def sp24 (k : Nat) : SP := .mk [.rd] (dL ti true dN) oN fun (a0,_) _ C => C _ (qaz.f k a0) (fun x => .i .i64 x) fun x => []
def lv32 : Live := look ⟨[],[],[],[],[]⟩ []
def g32 : FEnv := (fun _=>none)
def sp32 : SP := .mk [.rd] (dI .i64 dN) oN fun (a0,_) _ C => C _ (qaX.f a0) (fun x => .b x) fun x => []
def lv25 : Live := look ⟨[],[],[],[],[]⟩ []
def g25 : FEnv := (addF 32 sp32.fs (fun _=>none))
def sp25 : SP := .mk [.rd,.rd] (dI .i64 (dI .i64 dN)) oN fun (a0,a1,_) _ C => C _ (qaG.f a0 a1) (fun x => .i .i64 x) fun x => []
def lv23 : Live := look ⟨[],[],[],[],[]⟩ []
def g23 (k : Nat) : FEnv := (addF 24 (sp24 k).fs (addF 25 sp25.fs (fun _=>none)))
def sp23 (k : Nat) : SP := .mk [.st,.st] (dG (dI .i64 (dI .i64 (dI .i64 (dL ti false (dL ti false dN))))) (dG (dI .i64 (dI .i64 (dI .i64 (dL ti false (dL ti false dN))))) dN)) oN fun ((a0_0,a0_1,a0_2,a0_3,a0_4,_),(a1_0,a1_1,a1_2,a1_3,a1_4,_),_) _ C => C _ (qaY.f k a0_0 a0_1 a0_2 a0_3 a0_4 a1_0 a1_1 a1_2 a1_3 a1_4) (fun x => .i .i64 x) fun x => []
theorem lp1 (S : Seals) (k : Nat) : sp21.St tt (g21) lv21 Try.f21 k ∧ sp11.St tt (g11) lv11 Try.f11 k ∧ (sp26 k).St tt (g26) lv26 Try.f26 k ∧ (sp18 k).St tt (g18 k) lv18 Try.f18 k ∧ (sp12 k).St tt (g12 k) lv12 Try.f12 k ∧ (sp24 k).St tt (g24) lv24 Try.f24 k ∧ sp32.St tt (g32) lv32 Try.f32 k ∧ sp25.St tt (g25) lv25 Try.f25 k ∧ (sp23 k).St tt (g23 k) lv23 Try.f23 k := by
 refine cu_ (A := ∀ (n : Nat) {x0 x1 : LI} {x5 : Int} {K : CK},S.lp tt (g26) lv26 0 n (loopN Try.f26 0) ⟨[(0,.dat ti x0 true),(1,.dat ti x1 true),(5,.i .i64 x5)],[],0,26⟩ K = bindO (qaH.l0 n x0 x1 x5) (Sum.elim (fun x : Unit => K (.exit 0) ⟨[],[],0,26⟩) (fun x : Bool => K .ret ⟨[(4,.b x)],[],0,26⟩))) (fun w26_0=>?_) (ind_ ?_ ?_)
 refine cu_ (A := ∀ (n : Nat) {x5 : Int} {y0_0 y0_1 : LI} {y1_0 y1_1 : LI} {K : CK},S.lp tt (g18 k) lv18 0 n (loopN Try.f18 0) ⟨[(2,.ptr 0 0),(3,.ptr 1 0),(5,.i .i64 x5)],[(0,.var 39 [.dat ti y0_0 true,.dat ti y0_1 true]),(1,.var 39 [.dat ti y1_0 true,.dat ti y1_1 true])],2,39⟩ K = bindO (qaA.l0 n x5 y0_0 y0_1 y1_0 y1_1) (Sum.elim (fun x : Unit => K (.exit 0) ⟨[],[],0,39⟩) (fun x : Bool => K .ret ⟨[(4,.b x)],[],0,39⟩))) (fun w18_0=>?_) (ind_ ?_ ?_)
 refine cu_ (A := ∀ (n : Nat) {x0 x1 : List (Int × Int × Int × LI × LI)} {x12 x13 : Int} {K : CK},S.lp tt (g12 k) lv12 0 n (loopN Try.f12 0) ⟨[(0,.dat (.pair ti (.pair ti (.pair ti (.pair (.sl ti) (.sl ti))))) x0 true),(1,.dat (.pair ti (.pair ti (.pair ti (.pair (.sl ti) (.sl ti))))) x1 true),(12,.i .i64 x12),(13,.i .i64 x13)],[],0,68⟩ K = bindO (qaf.l0 k n x0 x1 x12 x13) (Sum.elim (fun x : Unit => K (.exit 0) ⟨[],[],0,68⟩) (fun x : Bool => K .ret ⟨[(4,.b x)],[],0,68⟩))) (fun w12_0=>?_) (ind_ ?_ ?_)
 refine cu_ (A := ∀ (n : Nat) {x3 : Int} {x6 : LI} {x7 x8 : Int} {K : CK},S.lp tt (g24) lv24 0 n (loopN Try.f24 0) ⟨[(3,.i .i64 x3),(6,.dat ti x6 true),(7,.i .i64 x7),(8,.i .i64 x8)],[],0,18⟩ K = bindO (qaz.l0 n x3 x6 x7 x8) (Sum.elim (fun x : Unit => K (.exit 0) ⟨[(3,.i .i64 x3)],[],0,18⟩) (fun x : Int => K .ret ⟨[(2,.i .i64 x)],[],0,18⟩))) (fun w24_0=>?_) (ind_ ?_ ?_)
 and_intros
 all_goals first|(dsimp only [SP.St,sp21,sp11,sp26,sp18,sp12,sp24,sp32,sp25,sp23,dN,dL,dI,dP,dG,cN,cO,oN,oV,oM]; intros; (first|unfold qaQ.f|unfold qaB.f|unfold qaH.f|unfold qaA.f|unfold qaf.f|unfold qaz.f|unfold qaX.f|unfold qaG.f|unfold qaY.f); refine S.run_s rfl rfl ?_; (conv=>lhs;arg 5;whnf); conv=>lhs;arg 6;whnf)|(intros; rw [S.lp_zero]; exact qbs)|(intro n ih; intros; (first|rw [qaH.l0]|rw [qaA.l0]|rw [qaf.l0]|rw [qaz.l0]); refine S.lp_succ ?_; conv=>lhs;arg 5;whnf)
 all_goals repeat' first|(first|refine S.seq_op rfl ?_|refine S.op_n ?_|refine S.block_x ?_|refine qcP ?_|refine qcQ ?_|refine br_t (by assumption) ?_|refine br_f (by assumption) ?_|refine qbk (by with_reducible assumption) ?_|refine qes (fun _=>?_) (fun _=>?_)|refine br_d (fun _=>?_) (fun _=>?_)|refine br_n (fun _=>?_) (fun _=>?_)|refine br_c (fun _=>?_) (fun _=>?_)|refine qeb fun _=>?_|refine qbk (by assumption) ?_|refine qet fun _=>?_)<;>(conv=>lhs;whnf)|refine S.seq_nil ?_|refine S.reg_n ?_|refine S.region rfl ?_|refine S.two ?_|refine S.blok ?_|refine S.cond rfl ?_|refine S.after_n ?_|refine S.block_n ?_|refine S.block_r ?_|refine S.after_x ?_|refine S.after_r ?_|refine S.skip ?_|refine S.exit ?_|refine S.ret ?_|refine qd4 (fun _=>?_) (fun _=>?_)|refine S.region_d (id := 1) (ds := [0,1,3,0,8,31,63,127]) (mds := [[],[],[],[],[],[],[],[1]]) (hm := [(7,[1])]) (by kernel_rfl) (by kernel_rfl) rfl rfl ?_|exact ih|refine (w26_0 _).trans ?_|refine (w18_0 _).trans ?_|refine (w12_0 _).trans ?_|refine (w24_0 _).trans ?_|refine S.region_d (id := 2) (ds := [0,1,3,7,0,31,63,127,127,0,767,2047]) (mds := [[],[],[],[],[],[],[],[],[],[],[],[]]) (hm := []) (by kernel_rfl) (by kernel_rfl) rfl rfl ?_|refine S.region_d (id := 5) (ds := [0,1,3,7,0,0,32,96,255]) (mds := [[],[],[],[],[],[],[],[],[1]]) (hm := [(8,[1])]) (by kernel_rfl) (by kernel_rfl) rfl rfl ?_|refine S.region_d (id := 6) (ds := [0,0,3,7,0,0,48,112,255]) (mds := [[],[],[],[],[],[],[],[],[]]) (hm := []) (by kernel_rfl) (by kernel_rfl) rfl rfl ?_|refine S.region_d (id := 6) (ds := [0,1,0,7,15,0,32,0,224,480,1023]) (mds := [[],[],[],[],[],[],[],[],[],[],[]]) (hm := []) (by kernel_rfl) (by kernel_rfl) rfl rfl ?_|refine S.region_d (id := 6) (ds := [0,0,3,7,15,0,0,96,224,480,1023,2047,4095,4095,16383,32767,65535,4095,4095,397311,921599,1970175,4194303,8388607,16777215,33554431,33554431,134217727,268435455,536870911,33554431,33554431,3254779903,7549747199,16139681791,34359738367,68719476735,137438953471,274877906943,274877906943,1099511627775,2199023255551,4398046511103,274877906943,274877906943,26663156973567,61847529062399,132216273240063,281474976710655,562949953421311,1125899906842623]) (mds := [[],[],[],[],[],[],[],[],[],[],[],[],[],[],[],[],[],[],[],[],[],[],[],[],[],[],[],[],[],[],[],[],[],[],[],[],[],[],[],[],[],[],[],[],[],[],[],[],[],[],[]]) (hm := []) (by kernel_rfl) (by kernel_rfl) rfl rfl ?_|refine S.region_d (id := 1) (ds := [0,1,0,4,15,0,32,0,128,511,0,1024,0,4096,16383,32767,65535,131071]) (mds := [[],[],[],[],[],[],[],[],[],[],[],[],[],[],[],[],[],[]]) (hm := []) (by kernel_rfl) (by kernel_rfl) rfl rfl ?_|(first|refine S.loop ?_|refine S.back_n ?_|refine S.back_x ?_|refine S.back_r ?_|refine S.fin_r ?_|refine S.fin_n ?_|refine S.dk_n ?_|refine S.draw_nil ?_)<;>(conv=>lhs;whnf)|(refine S.draw_op ?_; conv => lhs; whnf; arg 1; whnf)|refine qbI ?_|refine qa2 ?_|refine qb5 ?_|refine qaZ ?_|exact qea rfl|exact qbs
theorem snd21 : Sound Try.prog 21 sp21.fs := sn_ qaE mixed Try.func21 (by kernel_rfl) rfl (qaa snd29 (qaa snd28 (qak _))) (lp1 seals 0).1
theorem snd11 : Sound Try.prog 11 sp11.fs := sn_ qaE mixed Try.func11 (by kernel_rfl) rfl (qaa snd21 (qak _)) (lp1 seals 0).2.1
theorem snd26 (k : Nat) : Sound Try.prog 26 (sp26 k).fs := sn_ qaE mixed Try.func26 (by kernel_rfl) rfl (qak _) (lp1 seals k).2.2.1
theorem snd18 (k : Nat) : Sound Try.prog 18 (sp18 k).fs := sn_ qaE mixed Try.func18 (by kernel_rfl) rfl (qaa (snd26 k) (qak _)) (lp1 seals k).2.2.2.1
theorem snd12 (k : Nat) : Sound Try.prog 12 (sp12 k).fs := sn_ qaE mixed Try.func12 (by kernel_rfl) rfl (qaa (snd18 k) (qak _)) (lp1 seals k).2.2.2.2.1
theorem snd24 (k : Nat) : Sound Try.prog 24 (sp24 k).fs := sn_ qaE mixed Try.func24 (by kernel_rfl) rfl (qak _) (lp1 seals k).2.2.2.2.2.1
theorem snd32 : Sound Try.prog 32 sp32.fs := sn_ qaE mixed Try.func32 (by kernel_rfl) rfl (qak _) (lp1 seals 0).2.2.2.2.2.2.1
theorem snd25 : Sound Try.prog 25 sp25.fs := sn_ qaE mixed Try.func25 (by kernel_rfl) rfl (qaa snd32 (qak _)) (lp1 seals 0).2.2.2.2.2.2.2.1
theorem snd23 (k : Nat) : Sound Try.prog 23 (sp23 k).fs := sn_ qaE mixed Try.func23 (by kernel_rfl) rfl (qaa (snd24 k) (qaa snd25 (qak _))) (lp1 seals k).2.2.2.2.2.2.2.2
abbrev kTy : Ty := .pair ti (.pair ti ti)
abbrev tTy : Ty := .pair (.sl ti) (.sl ti)
theorem or3 (a b c : Int) : qaz.f 4 [a,b,c] = some (if a = 0 then (if b = 0 then c else b) else a) := by
 unfold qaz.f
 by_cases h1 : a = 0
 ·by_cases h2 : b = 0
  ·by_cases h3 : c = 0
   ·subst h1 h2 h3; rfl
   ·subst h1 h2
    simp [qaz.l0,h3,IntKind.wrap,IntKind.bits,IntKind.signed]
  ·subst h1
   simp [qaz.l0,h2,IntKind.wrap,IntKind.bits,IntKind.signed]
 ·simp [qaz.l0,h1]
theorem cmp3 (x y : BMsg) : qaY.f 4 x.1 x.2.1 x.2.2.1 x.2.2.2.1 x.2.2.2.2 y.1 y.2.1 y.2.2.1 y.2.2.2.1 y.2.2.2.2 = some (bcmp x y) := by
 unfold qaY.f qaG.f qaX.f
 simp only [obs,decide_true,Bool.not_true,Bool.false_eq_true,if_false]
 unfold bcmp
 repeat' split
 all_goals first | (simp only [obs,or3]; simp_all; done) | (exfalso; omega) | (simp_all [or3]; done)
theorem qhP (x y : BMsg) : FnOK Try.prog 23 [.agg (cellsOf eMsg x false),.agg (cellsOf eMsg y false)] [] (.i .i64 (bcmp x y)) [] := by
 obtain ⟨res,objs',h,hf⟩ := (snd23 4).2 [.agg (cellsOf eMsg x false),.agg (cellsOf eMsg y false)] [] (fun v os => some (v,os)) (.i .i64 (bcmp x y),[]) (by
  show bindO (qaY.f 4 x.1 x.2.1 x.2.2.1 x.2.2.2.1 x.2.2.2.2 y.1 y.2.1 y.2.2.1 y.2.2.2.1 y.2.2.2.2) _ = _
  rw [qbG (cmp3 x y)])
 cases h
 exact hf
theorem qhm : Sound Try.prog 22 (spSort 23) :=
 sndSort trivial Try.sortMsg Try.isAgg41 Try.sizeOf41 ⟨Try.f22,Try.func22,by kernel_rfl,rfl⟩ ⟨Try.f23,Try.func23,by kernel_rfl,rfl⟩ qhP
def lv13 : Live := look ⟨[],[],[],[],[]⟩ [(3,⟨[3,10],[3],[],[(3,0,.own eMsg)],[]⟩)]
noncomputable def g13 : FEnv := (addF 21 sp21.fs (addF 22 (spSort 23) (fun _=>none)))
theorem en13 : EnvOK Try.prog g13 := (qaa snd21 (qaa qhm (qak _)))
theorem qdW {α : Type} : ∀ (l : List α) (i : Nat) (h : i < l.length),(l[i] :: l.eraseIdx i).Perm l
 | [],_,h => absurd h (Nat.not_lt_zero _)
 | x :: r,0,_ => List.Perm.refl _
 | x :: r,i + 1,h => (List.Perm.swap _ _ _).trans ((qdW r i (Nat.lt_of_succ_lt_succ h)).cons x)
set_option maxRecDepth 60000 in
set_option maxHeartbeats 40000000 in
theorem qfQ (S : Seals) (xs : List BEnt) : ∀ (n : Nat) (rest : List BEnt) (cur : Option BEnt) (out : List BMsg) {K : CK} {R0 : R},rest.length < n → rest.all bfit = true → out.length + rest.length ≤ 281474976710656 → (out.length + rest.length) * 72 ≤ 140737488355328 →
  (∀ l : List BMsg,l.Perm (rest.map bmsg) → K (.exit 0) ⟨[(3,.own 2)],[(0,.var 56 [.own 1]),(1,.ext (.map true kTy true tTy xs)),(2,.row eMsg (out ++ l) false)],3,31⟩ = some R0) →
  S.lp tt g13 lv13 2 n (loopN Try.f13 0) ⟨[(3,.own 2),(10,.ptr 3 0)],[(0,.var 56 [.own 1]),(1,.nest (.rng 3 true kTy true tTy xs rest cur)),(2,.row eMsg out false),(3,.dead)],4,31⟩ K = some R0
 | 0,_,_,_,_,_,h,_,_,_,_ => absurd h (Nat.not_lt_zero _)
 | n + 1,rest,cur,out,K,R0,h,hfit,hs1,hs2,hK => by
  refine S.lp_succ ?_; conv => lhs; arg 5; whnf
  repeat' first
   | refine S.seq_op rfl ?_; conv => lhs; whnf
   | refine S.op_n ?_; conv => lhs; whnf
   | refine S.seq_nil ?_
   | refine S.reg_n ?_
   | refine S.region rfl ?_
   | refine S.two ?_
   | refine S.blok ?_
   | refine S.cond rfl ?_
   | refine S.after_n ?_
   | refine S.block_n ?_
   | refine S.block_x ?_; conv => lhs; whnf
   | refine S.block_r ?_
   | refine S.after_x ?_
   | refine S.after_r ?_
   | refine S.skip ?_
   | refine S.exit ?_
   | refine S.ret ?_
   | refine qcP ?_; conv => lhs; whnf
   | refine qcQ ?_; conv => lhs; whnf
  cases hr : rest with
  | nil =>
   subst hr
   refine br_t rfl ?_; conv => lhs; whnf
   repeat' first
    | refine S.seq_op rfl ?_; conv => lhs; whnf
    | refine S.op_n ?_; conv => lhs; whnf
    | refine S.seq_nil ?_
    | refine S.reg_n ?_
    | refine S.region rfl ?_
    | refine S.two ?_
    | refine S.blok ?_
    | refine S.cond rfl ?_
    | refine S.after_n ?_
    | refine S.block_n ?_
    | refine S.block_x ?_; conv => lhs; whnf
    | refine S.block_r ?_
    | refine S.after_x ?_
    | refine S.after_r ?_
    | refine S.skip ?_
    | refine S.exit ?_
    | refine S.ret ?_
    | refine qcP ?_; conv => lhs; whnf
    | refine qcQ ?_; conv => lhs; whnf
    | refine S.region_d (id := 5) (ds := [0,0,2,0,8,0,32,0,128,510,1022,2047,4095]) (mds := [[],[],[],[],[],[],[],[],[],[],[],[2],[]]) (hm := [(11,[2])]) (by kernel_rfl) (by kernel_rfl) rfl rfl ?_
    | refine S.draw_op ?_; conv => lhs; whnf; arg 1; whnf
    | refine S.dk_n ?_; conv => lhs; whnf
    | refine S.draw_nil ?_; conv => lhs; whnf
    | refine S.back_n ?_; conv => lhs; whnf
    | refine S.back_x ?_; conv => lhs; whnf
   have := hK [] (List.Perm.refl _)
   rwa [List.append_nil] at this
  | cons r0 rr =>
   have hpos : 0 < rest.length := by rw [hr]; exact Nat.succ_pos _
   rw [← hr]
   refine br_f (by rw [hr]; rfl) ?_
   refine qgA hpos fun i hi => ?_
   conv => lhs; whnf
   let x : BEnt := rest.getD i (kTy.dflt,tTy.dflt)
   have hxm : x ∈ rest := by
    show rest.getD i _ ∈ rest
    rw [List.getD_eq_getElem?_getD,List.getElem?_eq_getElem hi]; exact List.getElem_mem hi
   have hxf : bfit x = true := List.all_eq_true.1 hfit x hxm
   have htc : qaQ.f x.2.1 x.2.2 = some (x.2.1,x.2.2) := by
    unfold bfit at hxf
    simp only [Bool.and_eq_true,decide_eq_true_eq] at hxf
    unfold qaQ.f qaC.f qaw.f
    rw [ifp,ifp]
    rfl
   have happ : out.length + [bmsg x].length ≤ 281474976710656 ∧ (out.length + [bmsg x].length) * 72 ≤ 140737488355328 := by
    simp only [List.length_cons,List.length_nil]; omega
   repeat' (first
    | (refine S.seq_op rfl ?_; conv => lhs; whnf)
    | (refine S.op_n ?_; conv => lhs; whnf)
    | (refine S.seq_nil ?_)
    | (refine S.reg_n ?_)
    | (refine S.region rfl ?_)
    | (refine S.two ?_)
    | (refine S.blok ?_)
    | (refine S.cond rfl ?_)
    | (refine S.after_n ?_)
    | (refine S.block_n ?_)
    | (refine S.block_x ?_; conv => lhs; whnf)
    | (refine S.block_r ?_)
    | (refine S.after_x ?_)
    | (refine S.after_r ?_)
    | (refine S.skip ?_)
    | (refine S.exit ?_)
    | (refine S.ret ?_)
    | (refine qcP ?_; conv => lhs; whnf)
    | (refine qcQ ?_; conv => lhs; whnf)
    | (refine S.region_d (id := 5) (ds := [0,0,2,0,8,0,32,0,128,510,1022,2047,4095]) (mds := [[],[],[],[],[],[],[],[],[],[],[],[2],[]]) (hm := [(11,[2])]) (by kernel_rfl) (by kernel_rfl) rfl rfl ?_)
    | (refine S.draw_op ?_; conv => lhs; whnf; arg 1; whnf)
    | (refine S.dk_n ?_; conv => lhs; whnf)
    | (refine S.draw_nil ?_; conv => lhs; whnf)
    | (refine S.back_n ?_; conv => lhs; whnf)
    | (refine S.back_x ?_; conv => lhs; whnf)
    | (refine qb5 ?_)
    | (refine qa2 ?_)
    | (refine (qbG htc).trans ?_; conv => lhs; whnf)
    | (refine qbk happ ?_; conv => lhs; whnf))
   have hlen : (rest.eraseIdx i).length + 1 = rest.length := by rw [List.length_eraseIdx,if_pos hi]; omega
   refine qfQ S xs n (rest.eraseIdx i) (some x) (out ++ [bmsg x]) (by omega) (List.all_eq_true.2 fun y hy => List.all_eq_true.1 hfit y (List.mem_of_mem_eraseIdx hy)) (by rw [List.length_append,List.length_singleton]; omega) (by rw [List.length_append,List.length_singleton]; omega) fun l hl => ?_
   have hp : (bmsg x :: l).Perm (rest.map bmsg) := by
    have h1 : (x :: rest.eraseIdx i).Perm rest := by
     have := (qdW rest i hi)
     have e : rest[i] = x := by show _ = rest.getD i _; rw [List.getD_eq_getElem?_getD,List.getElem?_eq_getElem hi]; rfl
     rwa [e] at this
    exact (List.Perm.cons _ hl).trans (h1.map bmsg)
   have := hK (bmsg x :: l) hp
   rwa [show out ++ bmsg x :: l = out ++ [bmsg x] ++ l by simp] at this
set_option maxRecDepth 60000 in
set_option maxHeartbeats 40000000 in
theorem r13 (S : Seals) (k : Nat) (xs : List BEnt) (hk : xs.length < k) (ys : List BMsg) (h : qar.f xs = some ys) : runF tt g13 lv13 Try.f13 k [.ptr 0 0] [.var 56 [.own 1],.ext (.map true kTy true tTy xs)] = some (.own 2,[.var 56 [.own 1],.ext (.map true kTy true tTy xs),.row eMsg ys false]) := by
 unfold qar.f at h
 split at h
 rotate_left
 ·cases h
 rename_i hc
 cases h
 obtain ⟨h1,h2,h3,h4⟩ := hc
 have hnd : ∀ l : List BMsg,l.Perm (xs.map bmsg) → (l.map mkey).Nodup := fun l hl => (hl.map mkey).nodup_iff.2 (by rw [List.map_map]; exact h1)
 have hsr : ∀ l : List BMsg,l.Perm (xs.map bmsg) → (List.map mkey ([] ++ l)).Nodup ∧ ([] ++ l).length ≤ 281474976710656 := fun l hl => ⟨hnd l hl,by rw [List.nil_append,hl.length_eq,List.length_map]; exact h3⟩
 refine S.run_s rfl rfl ?_; conv => lhs; arg 5; whnf
 conv => lhs; arg 6; whnf
 repeat' (first
  | (refine S.seq_op rfl ?_; conv => lhs; whnf)
  | (refine S.op_n ?_; conv => lhs; whnf)
  | (refine S.seq_nil ?_)
  | (refine S.reg_n ?_)
  | (refine S.region rfl ?_)
  | (refine S.two ?_)
  | (refine S.blok ?_)
  | (refine S.cond rfl ?_)
  | (refine S.after_n ?_)
  | (refine S.block_n ?_)
  | (refine S.block_x ?_; conv => lhs; whnf)
  | (refine S.block_r ?_)
  | (refine S.after_x ?_)
  | (refine S.after_r ?_)
  | (refine S.skip ?_)
  | (refine S.exit ?_)
  | (refine S.ret ?_)
  | (refine S.loop ?_; conv => lhs; whnf)
  | (refine qfQ S xs k xs none [] hk h2 (by simpa using h3) (by simpa using h4) fun l hl => ?_; have hsrt : (List.map mkey ([] ++ l)).Nodup ∧ ([] ++ l).length ≤ 281474976710656 := hsr l hl)
  | (refine qcP ?_; conv => lhs; whnf)
  | (refine qcQ ?_; conv => lhs; whnf)
  | (refine S.back_n ?_; conv => lhs; whnf)
  | (refine S.back_x ?_; conv => lhs; whnf)
  | (refine S.fin_r ?_; conv => lhs; whnf)
  | (refine S.fin_n ?_; conv => lhs; whnf)
  | (refine qbk hsrt ?_; conv => lhs; whnf))
 exact congrArg (fun z => some (V.own 2,[AObj.var 56 [V.own 1],AObj.ext (.map true kTy true tTy xs),AObj.row eMsg z false])) (qd1 hl (hnd l hl))
def spAll : FSpec := ⟨[.rd],fun args objs K => match args,objs with | [.ptr 0 0],[.var 56 [.own 1],o] => mapK true kTy true tTy o fun xs => bindO (qar.f xs) fun ys => K (.own 2) [.var 56 [.own 1],.ext (.map true kTy true tTy xs),.row eMsg ys false] | _,_ => none⟩
theorem sndAll : Sound Try.prog 13 spAll := by
 refine ⟨⟨Try.f13,Try.func13,by kernel_rfl,rfl⟩,fun args objs K r h => ?_⟩
 unfold spAll at h; dsimp only at h; split at h
 ·rename_i o
  obtain ⟨xs,h9,rfl⟩ := qeK h; clear h
  obtain ⟨ys,hy,h⟩ := qb0 h9
  exact ⟨_,_,h,qeQ qaE en13 mixed Try.func13 (r13 seals (xs.length + 1) xs (Nat.lt_succ_self _) ys hy)⟩
 ·cases h

def sp13 : FSpec := spAll
set_option maxRecDepth 60000 in
theorem snd13 : Sound Try.prog 13 sp13 := sndAll

def lv14 : Live := look ⟨[],[],[],[],[]⟩ []
def g14 : FEnv := (fun _=>none)
def sp14 : SP := .mk [.rd] (dP 0 0 dN) (oV 56 (cO 1 cN) (oM true (.pair ti (.pair ti ti)) true (.pair (.sl ti) (.sl ti)) oN)) fun _ (_,o1,_) C => C _ (qao.f o1) (fun x => .i .i64 x) fun x => [.var 56 [.own 1],.ext (.map true (.pair ti (.pair ti ti)) true (.pair (.sl ti) (.sl ti)) o1)]
def lv15 : Live := look ⟨[],[],[],[],[]⟩ []
def g15 : FEnv := (fun _=>none)
def sp15 : SP := .mk [.rd,.rd,.rd,.rd] (dP 0 0 (dI .i64 (dI .i64 (dI .i64 dN)))) (oV 56 (cO 1 cN) (oM true (.pair ti (.pair ti ti)) true (.pair (.sl ti) (.sl ti)) oN)) fun (a1,a2,a3,_) (_,o1,_) C => C _ (qav.f a1 a2 a3 o1) (fun x => .tup [.agg [.dat ti x.1 false,.dat ti x.2.1 false],.b x.2.2.1]) fun x => [.var 56 [.own 1],.ext (.map true (.pair ti (.pair ti ti)) true (.pair (.sl ti) (.sl ti)) x.2.2.2)]
def lv16 : Live := look ⟨[],[],[],[],[]⟩ []
def g16 : FEnv := (fun _=>none)
def sp16 : SP := .mk [.rd,.rd,.rd,.rd] (dP 0 0 (dI .i64 (dI .i64 (dI .i64 dN)))) (oV 56 (cO 1 cN) (oM true (.pair ti (.pair ti ti)) true (.pair (.sl ti) (.sl ti)) oN)) fun (a1,a2,a3,_) (_,o1,_) C => C _ (qaU.f a1 a2 a3 o1) (fun x => .b x) fun x => [.var 56 [.own 1],.ext (.map true (.pair ti (.pair ti ti)) true (.pair (.sl ti) (.sl ti)) o1)]
def lv17 : Live := look ⟨[],[],[],[],[]⟩ [(2,⟨[3,7,8,9],[],[4],[],[]⟩)]
def g17 : FEnv := (fun _=>none)
def sp17 (k : Nat) : SP := .mk [.rd,.rd] (dL (.pair ti (.pair ti (.pair ti (.pair (.sl ti) (.sl ti))))) true (dG (dI .i64 (dI .i64 (dI .i64 (dI .i64 (dI .i64 dN))))) dN)) oN fun (a0,(a1_0,a1_1,a1_2,a1_3,a1_4,_),_) _ C => C _ (qat.f k a0 a1_0 a1_1 a1_2 a1_3 a1_4) (fun x => .i .i64 x) fun x => []
theorem lp2 (S : Seals) (k : Nat) : sp14.St tt (g14) lv14 Try.f14 k ∧ sp15.St tt (g15) lv15 Try.f15 k ∧ sp16.St tt (g16) lv16 Try.f16 k ∧ (sp17 k).St tt (g17) lv17 Try.f17 k := by
 refine cu_ (A := ∀ (n : Nat) {x7 : List (Int × Int × Int × LI × LI)} {x8 x9 : Int} {y0_0 y0_1 : Int} {y0_2 y0_3 y0_4 : Int} {K : CK},S.lp tt (g17) lv17 0 n (loopN Try.f17 0) ⟨[(3,.ptr 0 0),(7,.dat (.pair ti (.pair ti (.pair ti (.pair (.sl ti) (.sl ti))))) x7 true),(8,.i .i64 x8),(9,.i .i64 x9)],[(0,.var 24 [.i .i64 y0_0,.i .i64 y0_1,.i .i64 y0_2,.i .i64 y0_3,.i .i64 y0_4])],1,35⟩ K = bindO (qat.l0 n x7 x8 x9 y0_0 y0_1 y0_2 y0_3 y0_4) (Sum.elim (fun x : Unit => K (.exit 0) ⟨[],[],0,35⟩) (fun x : Int => K .ret ⟨[(4,.i .i64 x)],[],0,35⟩))) (fun w17_0=>?_) (ind_ ?_ ?_)
 and_intros
 all_goals first|(dsimp only [SP.St,sp14,sp15,sp16,sp17,dN,dL,dI,dP,dG,cN,cO,oN,oV,oM]; intros; (first|unfold qao.f|unfold qav.f|unfold qaU.f|unfold qat.f); refine S.run_s rfl rfl ?_; (conv=>lhs;arg 5;whnf); conv=>lhs;arg 6;whnf)|(intros; rw [S.lp_zero]; exact qbs)|(intro n ih; intros; rw [qat.l0]; refine S.lp_succ ?_; conv=>lhs;arg 5;whnf)
 all_goals repeat' first|(first|refine S.seq_op rfl ?_|refine S.op_n ?_|refine S.block_x ?_|refine qcP ?_|refine qcQ ?_|refine br_t (by assumption) ?_|refine br_f (by assumption) ?_|refine qbk (by with_reducible assumption) ?_|refine qes (fun _=>?_) (fun _=>?_)|refine br_d (fun _=>?_) (fun _=>?_)|refine br_n (fun _=>?_) (fun _=>?_)|refine br_c (fun _=>?_) (fun _=>?_)|refine qeb fun _=>?_|refine qbk (by assumption) ?_|refine qet fun _=>?_)<;>(conv=>lhs;whnf)|refine S.seq_nil ?_|refine S.reg_n ?_|refine S.region rfl ?_|refine S.two ?_|refine S.blok ?_|refine S.cond rfl ?_|refine S.after_n ?_|refine S.block_n ?_|refine S.block_r ?_|refine S.after_x ?_|refine S.after_r ?_|refine S.skip ?_|refine S.exit ?_|refine S.ret ?_|refine qd4 (fun _=>?_) (fun _=>?_)|exact ih|refine (w17_0 _).trans ?_|refine S.region_d (id := 2) (ds := [0,1,3,7,0,31,63,127,127,0,767,2047]) (mds := [[],[],[],[],[],[],[],[],[],[],[],[]]) (hm := []) (by kernel_rfl) (by kernel_rfl) rfl rfl ?_|refine S.region_d (id := 3) (ds := [0,1,3,7,0,31]) (mds := [[],[],[],[],[],[1]]) (hm := [(5,[1])]) (by kernel_rfl) (by kernel_rfl) rfl rfl ?_|(first|refine S.loop ?_|refine S.back_n ?_|refine S.back_x ?_|refine S.back_r ?_|refine S.fin_r ?_|refine S.fin_n ?_|refine S.dk_n ?_|refine S.draw_nil ?_)<;>(conv=>lhs;whnf)|(refine S.draw_op ?_; conv => lhs; whnf; arg 1; whnf)|refine qbI ?_|refine qa2 ?_|refine qb5 ?_|refine qaZ ?_|exact qea rfl|exact qbs
theorem snd14 : Sound Try.prog 14 sp14.fs := sn_ qaE mixed Try.func14 (by kernel_rfl) rfl (qak _) (lp2 seals 0).1
theorem snd15 : Sound Try.prog 15 sp15.fs := sn_ qaE mixed Try.func15 (by kernel_rfl) rfl (qak _) (lp2 seals 0).2.1
theorem snd16 : Sound Try.prog 16 sp16.fs := sn_ qaE mixed Try.func16 (by kernel_rfl) rfl (qak _) (lp2 seals 0).2.2.1
theorem snd17 (k : Nat) : Sound Try.prog 17 (sp17 k).fs := sn_ qaE mixed Try.func17 (by kernel_rfl) rfl (qak _) (lp2 seals k).2.2.2
end
end Go.Vm
