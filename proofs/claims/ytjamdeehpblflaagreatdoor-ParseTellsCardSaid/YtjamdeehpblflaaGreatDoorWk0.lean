/- Own walks -/
import Derived.Test.YtjamdeehpblflaaGreatDoorVm1
import Derived.Test.YtjamdeehpblflaaGreatDoorPl0
import Derived.Test.YtjamdeehpblflaaGreatDoorSx0
import Derived.Test.YtjamdeehpblflaaGreatDoorProg
open ByteArray renaming empty→vaa
namespace Go.Vm
open Go
abbrev ti : Ty := .int .i64
end Go.Vm

set_option linter.unusedVariables false
set_option maxRecDepth 60000
set_option maxHeartbeats 40000000
namespace Go.Vm
open Go Go.Proofs Go.Pf
noncomputable section

theorem ind_ {P : Nat -> Prop} (h0 : P 0) (hs : ∀ n,P n -> P (n + 1)) : ∀ n,P n
 | 0 => h0
 | n + 1 => hs n (ind_ h0 hs n)
theorem cu_ {A B : Prop} (f : A -> B) (a : A) : B := f a
def tt : Tab := [default,
 default,
 ⟨.int .i64,1,8,[.i .i64 0],some ti⟩,
 ⟨.int .i64,1,8,[.i .i64 0],some ti⟩,
 ⟨.bool,1,1,[.b false],some .bool⟩,
 ⟨.int .u8,1,1,[.i .u8 0],some (.int .u8)⟩,
 default,
 default,
 default,
 ⟨.str,1,16,[.s vaa],some .str⟩,
 default,
 default,
 default,
 default,
 default,
 default,
 default,
 default,
 default,
 default,
 default,
 ⟨.int .i32,1,4,[.i .i32 0],some (.int .i32)⟩,
 ⟨.int .i64,1,8,[.i .i64 0],some ti⟩,
 default,
 default,
 ⟨.sl 3,1,24,[.nilsl],some (.sl ti)⟩,
 ⟨.sl 53,1,24,[.nilsl],some (.sl (.pair ti (.pair (.sl ti) (.pair (.sl ti) (.pair (.sl ti) (.pair ti (.pair ti .str)))))))⟩,
 default,
 ⟨.struct [(0,25),(1,9),(2,26),(3,25)],4,88,[.nilsl,.s vaa,.nilsl,.nilsl],some (.pair (.sl ti) (.pair .str (.pair (.sl (.pair ti (.pair (.sl ti) (.pair (.sl ti) (.pair (.sl ti) (.pair ti (.pair ti .str))))))) (.sl ti))))⟩,
 default,
 default,
 default,
 ⟨.sl 9,1,24,[.nilsl],some (.sl .str)⟩,
 ⟨.sl 5,1,24,[.nilsl],some (.sl (.int .u8))⟩,
 default,
 ⟨.sl 71,1,24,[.nilsl],some (.sl (.pair ti (.pair ti (.pair ti (.pair ti .str)))))⟩,
 default,
 default,
 default,
 default,
 default,
 default,
 default,
 default,
 default,
 default,
 default,
 default,
 default,
 ⟨.sl 25,1,24,[.nilsl],some (.sl (.sl ti))⟩,
 default,
 default,
 default,
 ⟨.struct [(0,3),(1,25),(2,25),(3,25),(4,2),(5,3),(6,9)],7,112,[.i .i64 0,.nilsl,.nilsl,.nilsl,.i .i64 0,.i .i64 0,.s vaa],some (.pair ti (.pair (.sl ti) (.pair (.sl ti) (.pair (.sl ti) (.pair ti (.pair ti .str))))))⟩,
 default,
 default,
 default,
 ⟨.ptr 59,1,8,[.kon (.pointer none)],none⟩,
 default,
 ⟨.struct [(0,25),(1,3)],2,32,[.nilsl,.i .i64 0],some (.pair (.sl ti) ti)⟩,
 default,
 default,
 default,
 default,
 default,
 default,
 default,
 default,
 default,
 default,
 default,
 ⟨.struct [(0,3),(1,3),(2,3),(3,3),(4,9)],5,48,[.i .i64 0,.i .i64 0,.i .i64 0,.i .i64 0,.s vaa],some (.pair ti (.pair ti (.pair ti (.pair ti .str))))⟩,
 default,
 default,
 default,
 default,
 default,
 default,
 default,
 default,
 default,
 default,
 default,
 default,
 default,
 default,
 default,
 ⟨.sl 91,1,24,[.nilsl],some (.sl (.pair (.sl ti) (.sl ti)))⟩,
 ⟨.func,1,8,[.kon (.nilFunc)],none⟩,
 ⟨.sl 2,1,24,[.nilsl],some (.sl ti)⟩,
 default,
 ⟨.struct [(0,25),(1,89)],2,48,[.nilsl,.nilsl],some (.pair (.sl ti) (.sl ti))⟩,
 default,
 default,
 default,
 ⟨.sl 21,1,24,[.nilsl],some (.sl (.int .i32))⟩,
 default,
 ⟨.sl 4,1,24,[.nilsl],some (.sl .bool)⟩,
 default,
 default,
 ⟨.ptr 102,1,8,[.kon (.pointer none)],none⟩,
 default,
 ⟨.struct [(0,32),(1,4)],2,32,[.nilsl,.b false],some (.pair (.sl .str) .bool)⟩,
 default,
 default,
 default,
 default,
 default,
 ⟨.ptr 110,1,8,[.kon (.pointer none)],none⟩,
 default,
 ⟨.struct [(0,32),(1,4)],2,32,[.nilsl,.b false],some (.pair (.sl .str) .bool)⟩,
 default,
 default,
 default,
 default,
 ⟨.sl 32,1,24,[.nilsl],some (.sl (.sl .str))⟩,
 default,
 ⟨.ptr 119,1,8,[.kon (.pointer none)],none⟩,
 default,
 ⟨.struct [(0,117),(1,33)],2,32,[.kon (.pointer none),.nilsl],none⟩,
 default,
 ⟨.iface,1,16,[.kon (.nilIface)],none⟩,
 default,
 default,
 default,
 default,
 default,
 default,
 default,
 default,
 default,
 default,
 default,
 default,
 default,
 default,
 default,
 default,
 default,
 default,
 default,
 default,
 default,
 default,
 default,
 default,
 ⟨.func,1,8,[.kon (.nilFunc)],none⟩,
 default,
 default,
 default,
 default,
 default,
 default,
 default,
 default,
 default,
 default,
 default,
 default,
 default,
 default,
 default,
 default,
 default,
 default,
 default,
 default,
 default,
 default,
 default,
 default,
 default,
 default,
 default,
 default,
 default,
 default,
 default,
 default,
 default,
 default,
 default,
 default,
 default,
 default,
 default,
 default,
 default,
 ⟨.struct [(0,3),(1,4),(2,4),(3,4),(4,4),(5,4)],6,16,[.i .i64 0,.b false,.b false,.b false,.b false,.b false],some (.pair ti (.pair .bool (.pair .bool (.pair .bool (.pair .bool .bool)))))⟩]
theorem qag : TabOK Tryz.prog tt := qoS (by kernel_rfl)
theorem mixed : Tryz.prog.follows .mixedOrders = true := by kernel_rfl

def lv42 : Live := look ⟨[],[],[],[],[]⟩ [(4,⟨[0,1,5,6,10],[0,5,6],[4],[(5,0,.own .str)],[]⟩),(1000000,⟨[],[],[],[(4,0,.fz .str)],[]⟩)]
def g42 : FEnv := (fun _=>none)
def sp42 (k : Nat) : SP := .mk [.rd,.rd] (dS (dI .i32 dN)) oN fun (a0,a1,_) _ C => C _ (qaY.f k a0 a1) (fun x => .dat .str x false) fun x => []
def lv20 : Live := look ⟨[],[],[],[],[]⟩ []
def g20 (k : Nat) : FEnv := (addF 42 (sp42 k).fs (fun _=>none))
def sp20 (k : Nat) : SP := .mk [.rd] (dS dN) oN fun (a0,_) _ C => C _ (qcj.f k a0) (fun x => .dat .str x false) fun x => []
def lv95 : Live := look ⟨[],[],[],[],[]⟩ []
def g95 : FEnv := (fun _=>none)
def sp95 : SP := .mk [.rd] (dP 0 0 dN) (oV 110 (cD .str false (cB cN)) oN) fun _ ((o0_0,o0_1,_),_) C => C _ (qbk.f o0_0 o0_1) (fun x => .s x.1) fun x => [.var 110 [.dat .str x.2.1 false,.b x.2.2]]
def lv62 : Live := look ⟨[],[],[],[],[]⟩ []
def g62 : FEnv := (addF 95 sp95.fs (fun _=>none))
def sp62 : SP := .mk [.rd,.rd] (dP 0 0 (dS dN)) (oV 110 (cD .str false (cB cN)) oN) fun (a1,_) ((o0_0,o0_1,_),_) C => C _ (qbv.f a1 o0_0 o0_1) (fun x => .tup []) fun x => [.var 110 [.dat .str x.1 false,.b x.2]]
def lv63 : Live := look ⟨[],[],[],[],[]⟩ []
def g63 : FEnv := (addF 95 sp95.fs (fun _=>none))
def sp63 : SP := .mk [.rd] (dP 0 0 dN) (oV 110 (cD .str false (cB cN)) oN) fun _ ((o0_0,o0_1,_),_) C => C _ (qcx.f o0_0 o0_1) (fun x => .s x.1) fun x => [.var 110 [.dat .str x.2.1 false,.b x.2.2]]
theorem lp0 (S : Seals) (k : Nat) : (sp42 k).St tt (g42) lv42 Tryz.f42 k /\ (sp20 k).St tt (g20 k) lv20 Tryz.f20 k /\ sp95.St tt (g95) lv95 Tryz.f95 k /\ sp62.St tt (g62) lv62 Tryz.f62 k /\ sp63.St tt (g63) lv63 Tryz.f63 k := by
 refine cu_ (A := ∀ (n : Nat) {x0 : ByteArray} {x1 x6 : Int} {y0 : List ByteArray} {y1_0 : ByteArray} {y1_1 : Nat} {K : CK},S.lp tt (g42) lv42 0 n (loopN Tryz.f42 0) ⟨[(0,.s x0),(1,.i .i32 x1),(5,.own 0),(6,.i .i64 x6),(10,.ptr 1 0)],[(0,.row .str y0 false),(1,.ext (.iter y1_0 y1_1))],2,33⟩ K = bindO (qaY.l0 n x0 x1 x6 y0 y1_0 y1_1) (fun x : Int × (List ByteArray) => K (.exit 0) ⟨[(0,.s x0),(5,.own 0),(6,.i .i64 x.1)],[(0,.row .str x.2 false)],1,33⟩)) (fun w42_0=>?_) (ind_ ?_ ?_)
 and_intros
 all_goals first|(dsimp only [SP.St,sp42,sp20,sp95,sp62,sp63,dN,dI,dS,dP,cN,cD,cB,oN,oV]; intros; (first|unfold qaY.f|unfold qcj.f|unfold qbk.f|unfold qbv.f|unfold qcx.f); refine S.run_s rfl rfl ?_; (conv=>lhs;arg 5;whnf); conv=>lhs;arg 6;whnf)|(intros; rw [S.lp_zero]; exact qbu)|(intro n ih; intros; rw [qaY.l0]; refine S.lp_succ ?_; conv=>lhs;arg 5;whnf)
 all_goals as_aux_lemma=>repeat' first|(first|refine S.seq_op rfl ?_|refine S.op_n ?_|refine S.block_x ?_|refine qdC ?_|refine qdD ?_|refine br_t (by assumption) ?_|refine br_f (by assumption) ?_|refine qb1 (by with_reducible assumption) ?_|refine qdE fun _=>?_|refine qdB (fun _=>?_) (fun _=>?_)|refine br_d (fun _=>?_) (fun _=>?_)|refine br_n (fun _=>?_) (fun _=>?_)|refine br_c (fun _=>?_) (fun _=>?_)|refine qdu fun _=>?_|refine qb1 (by assumption) ?_)<;>(conv=>lhs;whnf)|refine S.seq_nil ?_|refine S.reg_n ?_|refine S.region rfl ?_|refine S.two ?_|refine S.blok ?_|refine S.cond rfl ?_|refine S.after_n ?_|refine S.block_n ?_|refine S.block_r ?_|refine S.after_x ?_|refine S.after_r ?_|refine S.skip ?_|refine S.exit ?_|refine S.ret ?_|refine qdt (fun _=>?_) (fun _=>?_)|exact ih|refine (w42_0 _).trans ?_|(first|refine S.loop ?_|refine S.back_n ?_|refine S.back_x ?_|refine S.back_r ?_|refine S.fin_r ?_|refine S.fin_n ?_|refine S.dk_n ?_|refine S.draw_nil ?_)<;>(conv=>lhs;whnf)|(refine S.draw_op ?_; conv => lhs; whnf; arg 1; whnf)|refine qb4 ?_|refine qbt ?_|refine qcD ?_|refine qa9 ?_|exact qdM rfl|exact qbu
theorem snd42 (k : Nat) : Sound Tryz.prog 42 (sp42 k).fs := sn_ qag mixed Tryz.func42 (by kernel_rfl) rfl (qab _) (lp0 seals k).1
theorem snd20 (k : Nat) : Sound Tryz.prog 20 (sp20 k).fs := sn_ qag mixed Tryz.func20 (by kernel_rfl) rfl (qaa (snd42 k) (qab _)) (lp0 seals k).2.1
theorem snd95 : Sound Tryz.prog 95 sp95.fs := sn_ qag mixed Tryz.func95 (by kernel_rfl) rfl (qab _) (lp0 seals 0).2.2.1
theorem snd62 : Sound Tryz.prog 62 sp62.fs := sn_ qag mixed Tryz.func62 (by kernel_rfl) rfl (qaa snd95 (qab _)) (lp0 seals 0).2.2.2.1
theorem snd63 : Sound Tryz.prog 63 sp63.fs := sn_ qag mixed Tryz.func63 (by kernel_rfl) rfl (qaa snd95 (qab _)) (lp0 seals 0).2.2.2.2
def sp74 : FSpec := spPI
set_option maxRecDepth 60000 in
theorem snd74 : Sound Tryz.prog 74 sp74 := sndPI Tryz.laysC174 ⟨Tryz.f74,Tryz.func74,by kernel_rfl,rfl⟩ (fun _ h => ⟨h.2.1,h.2.2⟩)

def sp111 : FSpec := spFmt
set_option maxRecDepth 60000 in
theorem snd111 : Sound Tryz.prog 111 sp111 := sndFmt Tryz.laysM173 ⟨Tryz.f111,Tryz.func111,by kernel_rfl,rfl⟩ (fun _ h => h.1)

def lv75 : Live := look ⟨[],[],[],[],[]⟩ []
def g75 : FEnv := (addF 111 sp111 (fun _=>none))
def sp75 : SP := .mk [.rd] (dI .i64 dN) oN fun (a0,_) _ C => C _ (qcE.f a0) (fun x => .s x) fun x => []
def lv41 : Live := look ⟨[],[],[],[],[]⟩ []
def g41 : FEnv := (addF 75 sp75.fs (addF 74 sp74 (fun _=>none)))
def sp41 : SP := .mk [.rd] (dS dN) oN fun (a0,_) _ C => C _ (qdK.f a0) (fun x => .tup [.i .i64 x.1,.b x.2]) fun x => []
def lv19 : Live := look ⟨[],[],[],[],[]⟩ []
def g19 : FEnv := (addF 41 sp41.fs (fun _=>none))
def sp19 : SP := .mk [.rd] (dS dN) oN fun (a0,_) _ C => C _ (qcq.f a0) (fun x => .tup [.i .i64 x.1,.b x.2]) fun x => []
def lv99 : Live := look ⟨[],[],[],[],[]⟩ []
def g99 : FEnv := (addF 19 sp19.fs (addF 95 sp95.fs (fun _=>none)))
def sp99 : SP := .mk [.rd] (dP 0 0 dN) (oV 110 (cD .str false (cB cN)) oN) fun _ ((o0_0,o0_1,_),_) C => C _ (qcy.f o0_0 o0_1) (fun x => .i .i64 x.1) fun x => [.var 110 [.dat .str x.2.1 false,.b x.2.2]]
def lv96 : Live := look ⟨[],[],[],[],[]⟩ []
def g96 : FEnv := (addF 99 sp99.fs (fun _=>none))
def sp96 : SP := .mk [.rd] (dP 0 0 dN) (oV 110 (cD .str false (cB cN)) oN) fun _ ((o0_0,o0_1,_),_) C => C _ (qbX.f o0_0 o0_1) (fun x => .i .i64 x.1) fun x => [.var 110 [.dat .str x.2.1 false,.b x.2.2]]
def lv64 : Live := look ⟨[],[],[],[],[]⟩ [(2,⟨[0,3],[3],[2],[(3,0,.own ti)],[]⟩)]
def g64 : FEnv := (addF 96 sp96.fs (fun _=>none))
def sp64 (k : Nat) : SP := .mk [.rd] (dP 0 0 dN) (oV 110 (cD .str false (cB cN)) oN) fun _ ((o0_0,o0_1,_),_) C => C _ (qaI.f k o0_0 o0_1) (fun x => .own 1) fun x => [.var 110 [.dat .str x.1 false,.b x.2.1],.row ti x.2.2 false]
def lv104 : Live := look ⟨[],[],[],[],[]⟩ []
def g104 : FEnv := (fun _=>none)
def sp104 : SP := .mk [.rd] (dI .i64 dN) oN fun (a0,_) _ C => C _ (qec.f a0) (fun x => .s x) fun x => []
def lv97 : Live := look ⟨[],[],[],[],[]⟩ [(3,⟨[0,3,4],[0],[2],[],[]⟩)]
def g97 : FEnv := (addF 104 sp104.fs (addF 95 sp95.fs (fun _=>none)))
def sp97 (k : Nat) : SP := .mk [.rd] (dP 0 0 dN) (oV 110 (cD .str false (cB cN)) oN) fun _ ((o0_0,o0_1,_),_) C => C _ (qbs.f k o0_0 o0_1) (fun x => .i .i64 x.1) fun x => [.var 110 [.dat .str x.2.1 false,.b x.2.2]]
def lv98 : Live := look ⟨[],[],[],[],[]⟩ [(3,⟨[0,3],[0,3],[2],[(3,0,.own ti)],[]⟩)]
def g98 : FEnv := (addF 96 sp96.fs (addF 62 sp62.fs (fun _=>none)))
def sp98 (k : Nat) : SP := .mk [.rd] (dP 0 0 dN) (oV 110 (cD .str false (cB cN)) oN) fun _ ((o0_0,o0_1,_),_) C => C _ (qaM.f k o0_0 o0_1) (fun x => .own 1) fun x => [.var 110 [.dat .str x.1 false,.b x.2.1],.row ti x.2.2 false]
def lv65 : Live := look ⟨[],[],[],[],[]⟩ []
def g65 (k : Nat) : FEnv := (addF 63 sp63.fs (addF 96 sp96.fs (addF 99 sp99.fs (addF 98 (sp98 k).fs (addF 97 (sp97 k).fs (fun _=>none))))))
def sp65 (k : Nat) : SP := .mk [.rd] (dP 0 0 dN) (oV 110 (cD .str false (cB cN)) oN) fun _ ((o0_0,o0_1,_),_) C => C _ (qcR.f k o0_0 o0_1) (fun x => .agg [.i .i64 x.1,.own 1,.own 2,.own 3,.i .i64 x.2.1,.i .i64 x.2.2.1,.s x.2.2.2.1]) fun x => [.var 110 [.dat .str x.2.2.2.2.1 false,.b x.2.2.2.2.2.1],.row ti x.2.2.2.2.2.2.1 false,.row ti x.2.2.2.2.2.2.2.1 false,.row ti x.2.2.2.2.2.2.2.2 false]
def lv36 : Live := look ⟨[],[],[],[],[]⟩ [(12,⟨[2,5,6,7,8,68,69,70],[2,5,6,7,8],[2,3],[(5,2,.own (.pair ti (.pair (.sl ti) (.pair (.sl ti) (.pair (.sl ti) (.pair ti (.pair ti .str)))))))],[]⟩),(1000000,⟨[],[],[],[(2,0,.own ti),(2,2,.own (.pair ti (.pair (.sl ti) (.pair (.sl ti) (.pair (.sl ti) (.pair ti (.pair ti .str))))))),(2,3,.own ti)],[]⟩)]
def g36 (k : Nat) : FEnv := (addF 65 (sp65 k).fs (addF 64 (sp64 k).fs (addF 63 sp63.fs (addF 62 sp62.fs (addF 20 (sp20 k).fs (addF 42 (sp42 k).fs (fun _=>none)))))))
def sp36 (k : Nat) : SP := .mk [.rd] (dS dN) oN fun (a0,_) _ C => C _ (qbr.f k a0) (fun x => .tup [.agg [.own 0,.s x.1,.own 1,.own 2],.b x.2.1]) fun x => [.row ti x.2.2.1 false,.row (.pair ti (.pair (.sl ti) (.pair (.sl ti) (.pair (.sl ti) (.pair ti (.pair ti .str)))))) x.2.2.2.1 false,.row ti x.2.2.2.2 false]
def lv128 : Live := look ⟨[],[],[],[],[]⟩ [(3,⟨[3,7],[3],[2],[(3,0,.own (.int .i32))],[]⟩)]
def g128 : FEnv := (fun _=>none)
def sp128 (k : Nat) : SP := .mk [.rd] (dS dN) oN fun (a0,_) _ C => C _ (qbf.f k a0) (fun x => .own 0) fun x => [.row (.int .i32) x false]
def lv140 : Live := look ⟨[],[],[],[],[]⟩ []
def g140 : FEnv := (fun _=>none)
def sp140 : SP := .mk [.rd] (dI .i32 dN) oN fun (a0,_) _ C => C _ (qeW.f a0) (fun x => .b x) fun x => []
def lv148 : Live := look ⟨[],[],[],[],[]⟩ [(2,⟨[0,1,7,8],[],[4],[],[]⟩)]
def g148 : FEnv := (fun _=>none)
def sp148 (k : Nat) : SP := .mk [.rd,.rd] (dL (.int .i32) true (dI .i32 dN)) oN fun (a0,a1,_) _ C => C _ (qaG.f k a0 a1) (fun x => .i .i64 x) fun x => []
def lv141 : Live := look ⟨[],[],[],[],[]⟩ []
def g141 (k : Nat) : FEnv := (addF 148 (sp148 k).fs (fun _=>none))
def sp141 (k : Nat) : SP := .mk [.rd,.rd] (dL (.int .i32) true (dI .i32 dN)) oN fun (a0,a1,_) _ C => C _ (qbY.f k a0 a1) (fun x => .b x) fun x => []
theorem lp1 (S : Seals) (k : Nat) : sp75.St tt (g75) lv75 Tryz.f75 k /\ sp41.St tt (g41) lv41 Tryz.f41 k /\ sp19.St tt (g19) lv19 Tryz.f19 k /\ sp99.St tt (g99) lv99 Tryz.f99 k /\ sp96.St tt (g96) lv96 Tryz.f96 k /\ (sp64 k).St tt (g64) lv64 Tryz.f64 k /\ sp104.St tt (g104) lv104 Tryz.f104 k /\ (sp97 k).St tt (g97) lv97 Tryz.f97 k /\ (sp98 k).St tt (g98) lv98 Tryz.f98 k /\ (sp65 k).St tt (g65 k) lv65 Tryz.f65 k /\ (sp36 k).St tt (g36 k) lv36 Tryz.f36 k /\ (sp128 k).St tt (g128) lv128 Tryz.f128 k /\ sp140.St tt (g140) lv140 Tryz.f140 k /\ (sp148 k).St tt (g148) lv148 Tryz.f148 k /\ (sp141 k).St tt (g141 k) lv141 Tryz.f141 k := by
 refine cu_ (A := ∀ (n : Nat) {y0_0 : List ByteArray} {y0_1 : Bool} {y1 : LI} {K : CK},S.lp tt (g64) lv64 1 n (loopN Tryz.f64 0) ⟨[(0,.ptr 0 0),(3,.own 1)],[(0,.var 110 [.dat .str y0_0 false,.b y0_1]),(1,.row ti y1 false)],2,23⟩ K = bindO (qaI.l0 n y0_0 y0_1 y1) (fun x : (List ByteArray) × Bool × LI => K (.exit 0) ⟨[(3,.own 1)],[(0,.var 110 [.dat .str x.1 false,.b x.2.1]),(1,.row ti x.2.2 false)],2,23⟩)) (fun w64_0=>?_) (ind_ ?_ ?_)
 refine cu_ (A := ∀ (n : Nat) {x3 : ByteArray} {x4 : Int} {y0_0 : List ByteArray} {y0_1 : Bool} {K : CK},S.lp tt (g97) lv97 1 n (loopN Tryz.f97 0) ⟨[(0,.ptr 0 0),(3,.s x3),(4,.i .i64 x4)],[(0,.var 110 [.dat .str y0_0 false,.b y0_1])],1,19⟩ K = bindO (qbs.l0 n x3 x4 y0_0 y0_1) (Sum.elim (fun x : Unit => K (.exit 0) ⟨[(0,.ptr 0 0)],[(0,.var 110 [.dat .str y0_0 false,.b y0_1])],1,19⟩) (fun x : Int => K .ret ⟨[(2,.i .i64 x)],[(0,.var 110 [.dat .str y0_0 false,.b y0_1])],1,19⟩))) (fun w97_0=>?_) (ind_ ?_ ?_)
 refine cu_ (A := ∀ (n : Nat) {y0_0 : List ByteArray} {y0_1 : Bool} {y1 : LI} {K : CK},S.lp tt (g98) lv98 1 n (loopN Tryz.f98 0) ⟨[(0,.ptr 0 0),(3,.own 1)],[(0,.var 110 [.dat .str y0_0 false,.b y0_1]),(1,.row ti y1 false)],2,36⟩ K = bindO (qaM.l0 n y0_0 y0_1 y1) (fun x : (List ByteArray) × Bool × LI => K (.exit 0) ⟨[(0,.ptr 0 0),(3,.own 1)],[(0,.var 110 [.dat .str x.1 false,.b x.2.1]),(1,.row ti x.2.2 false)],2,36⟩)) (fun w98_0=>?_) (ind_ ?_ ?_)
 refine cu_ (A := ∀ (n : Nat) {x8 : Bool} {x68 : List ByteArray} {x69 x70 : Int} {y0 y1 : ByteArray} {y2_0 : List ByteArray} {y2_1 : Bool} {y3_0 : List ByteArray} {y3_1 : Bool} {y4 : LI} {y5 : List LN} {K : CK},S.lp tt (g36 k) lv36 0 n (loopN Tryz.f36 0) ⟨[(2,.ptr 0 0),(5,.ptr 1 0),(6,.ptr 2 0),(7,.ptr 3 0),(8,.b x8),(68,.dat .str x68 false),(69,.i .i64 x69),(70,.i .i64 x70)],[(0,.var 28 [.nilsl,.s y0,.nilsl,.nilsl]),(1,.var 28 [.own 4,.s y1,.own 5,.nilsl]),(2,.var 110 [.dat .str y2_0 false,.b y2_1]),(3,.var 110 [.dat .str y3_0 false,.b y3_1]),(4,.row ti y4 false),(5,.row (.pair ti (.pair (.sl ti) (.pair (.sl ti) (.pair (.sl ti) (.pair ti (.pair ti .str)))))) y5 false)],6,115⟩ K = bindO (qbr.l0 k n x8 x68 x69 x70 y0 y1 y2_0 y2_1 y3_0 y3_1 y4 y5) (fun x : Bool × (List LN) => K (.exit 0) ⟨[(2,.ptr 0 0),(5,.ptr 1 0),(6,.ptr 2 0),(7,.ptr 3 0),(8,.b x.1)],[(0,.var 28 [.nilsl,.s y0,.nilsl,.nilsl]),(1,.var 28 [.own 4,.s y1,.own 5,.nilsl]),(2,.var 110 [.dat .str y2_0 false,.b y2_1]),(3,.var 110 [.dat .str y3_0 false,.b y3_1]),(4,.row ti y4 false),(5,.row (.pair ti (.pair (.sl ti) (.pair (.sl ti) (.pair (.sl ti) (.pair ti (.pair ti .str)))))) x.2 false)],6,115⟩)) (fun w36_0=>?_) (ind_ ?_ ?_)
 refine cu_ (A := ∀ (n : Nat) {y0 : LI} {y1_0 : ByteArray} {y1_1 : Nat} {K : CK},S.lp tt (g128) lv128 0 n (loopN Tryz.f128 0) ⟨[(3,.own 0),(7,.ptr 1 0)],[(0,.row (.int .i32) y0 false),(1,.ext (.iter y1_0 y1_1))],2,16⟩ K = bindO (qbf.l0 n y0 y1_0 y1_1) (fun x : LI => K (.exit 0) ⟨[(3,.own 0)],[(0,.row (.int .i32) x false)],1,16⟩)) (fun w128_0=>?_) (ind_ ?_ ?_)
 refine cu_ (A := ∀ (n : Nat) {x0 : LI} {x1 x7 x8 : Int} {K : CK},S.lp tt (g148) lv148 0 n (loopN Tryz.f148 0) ⟨[(0,.dat (.int .i32) x0 true),(1,.i .i32 x1),(7,.i .i64 x7),(8,.i .i64 x8)],[],0,19⟩ K = bindO (qaG.l0 n x0 x1 x7 x8) (Sum.elim (fun x : Unit => K (.exit 0) ⟨[],[],0,19⟩) (fun x : Int => K .ret ⟨[(4,.i .i64 x)],[],0,19⟩))) (fun w148_0=>?_) (ind_ ?_ ?_)
 and_intros
 all_goals first|(dsimp only [SP.St,sp75,sp41,sp19,sp99,sp96,sp64,sp104,sp97,sp98,sp65,sp36,sp128,sp140,sp148,sp141,dN,dL,dI,dS,dP,cN,cD,cB,oN,oV]; intros; (first|unfold qcE.f|unfold qdK.f|unfold qcq.f|unfold qcy.f|unfold qbX.f|unfold qaI.f|unfold qec.f|unfold qbs.f|unfold qaM.f|unfold qcR.f|unfold qbr.f|unfold qbf.f|unfold qeW.f|unfold qaG.f|unfold qbY.f); refine S.run_s rfl rfl ?_; (conv=>lhs;arg 5;whnf); conv=>lhs;arg 6;whnf)|(intros; rw [S.lp_zero]; exact qbu)|(intro n ih; intros; (first|rw [qaI.l0]|rw [qbs.l0]|rw [qaM.l0]|rw [qbr.l0]|rw [qbf.l0]|rw [qaG.l0]); refine S.lp_succ ?_; conv=>lhs;arg 5;whnf)
 all_goals as_aux_lemma=>repeat' first|(first|refine S.seq_op rfl ?_|refine S.op_n ?_|refine S.block_x ?_|refine qdC ?_|refine qdD ?_|refine br_t (by assumption) ?_|refine br_f (by assumption) ?_|refine qb1 (by with_reducible assumption) ?_|refine qdE fun _=>?_|refine qdB (fun _=>?_) (fun _=>?_)|refine br_d (fun _=>?_) (fun _=>?_)|refine br_n (fun _=>?_) (fun _=>?_)|refine br_c (fun _=>?_) (fun _=>?_)|refine qdu fun _=>?_|refine qb1 (by assumption) ?_)<;>(conv=>lhs;whnf)|refine S.seq_nil ?_|refine S.reg_n ?_|refine S.region rfl ?_|refine S.two ?_|refine S.blok ?_|refine S.cond rfl ?_|refine S.after_n ?_|refine S.block_n ?_|refine S.block_r ?_|refine S.after_x ?_|refine S.after_r ?_|refine S.skip ?_|refine S.exit ?_|refine S.ret ?_|refine qdt (fun _=>?_) (fun _=>?_)|exact ih|refine (w64_0 _).trans ?_|refine (w97_0 _).trans ?_|refine (w98_0 _).trans ?_|refine (w36_0 _).trans ?_|refine (w128_0 _).trans ?_|refine (w148_0 _).trans ?_|refine S.region_d (id := 15) (ds := [0,1,0,4,12,31,63,127]) (mds := [[],[],[],[6],[],[5],[],[1]]) (hm := [(3,[6]),(5,[5]),(7,[1])]) (by kernel_rfl) (by kernel_rfl) rfl rfl ?_|refine S.region_d (id := 6) (ds := [0,1,3,7,15,31,0,0,128,384,960,1984,4047,8143,16335,8191,65535]) (mds := [[],[],[],[],[],[],[],[],[],[],[],[],[],[],[],[],[]]) (hm := []) (by kernel_rfl) (by kernel_rfl) rfl rfl ?_|refine S.region_d (id := 20) (ds := [0,0,2,6,14,30,62,126,254,510,1022,2046,4094,8190,16382,32766,65534,2047,262143]) (mds := [[],[],[],[],[],[],[],[],[],[],[],[],[],[],[],[],[],[0,4,5,6],[]]) (hm := [(17,[0,4,5,6])]) (by kernel_rfl) (by kernel_rfl) rfl rfl ?_|(first|refine S.loop ?_|refine S.back_n ?_|refine S.back_x ?_|refine S.back_r ?_|refine S.fin_r ?_|refine S.fin_n ?_|refine S.dk_n ?_|refine S.draw_nil ?_)<;>(conv=>lhs;whnf)|(refine S.draw_op ?_; conv => lhs; whnf; arg 1; whnf)|refine qb4 ?_|refine qbt ?_|refine qcD ?_|refine qa9 ?_|exact qdM rfl|exact qbu
theorem snd75 : Sound Tryz.prog 75 sp75.fs := sn_ qag mixed Tryz.func75 (by kernel_rfl) rfl (qaa snd111 (qab _)) (lp1 seals 0).1
theorem snd41 : Sound Tryz.prog 41 sp41.fs := sn_ qag mixed Tryz.func41 (by kernel_rfl) rfl (qaa snd75 (qaa snd74 (qab _))) (lp1 seals 0).2.1
theorem snd19 : Sound Tryz.prog 19 sp19.fs := sn_ qag mixed Tryz.func19 (by kernel_rfl) rfl (qaa snd41 (qab _)) (lp1 seals 0).2.2.1
theorem snd99 : Sound Tryz.prog 99 sp99.fs := sn_ qag mixed Tryz.func99 (by kernel_rfl) rfl (qaa snd19 (qaa snd95 (qab _))) (lp1 seals 0).2.2.2.1
theorem snd96 : Sound Tryz.prog 96 sp96.fs := sn_ qag mixed Tryz.func96 (by kernel_rfl) rfl (qaa snd99 (qab _)) (lp1 seals 0).2.2.2.2.1
theorem snd64 (k : Nat) : Sound Tryz.prog 64 (sp64 k).fs := sn_ qag mixed Tryz.func64 (by kernel_rfl) rfl (qaa snd96 (qab _)) (lp1 seals k).2.2.2.2.2.1
theorem snd104 : Sound Tryz.prog 104 sp104.fs := sn_ qag mixed Tryz.func104 (by kernel_rfl) rfl (qab _) (lp1 seals 0).2.2.2.2.2.2.1
theorem snd97 (k : Nat) : Sound Tryz.prog 97 (sp97 k).fs := sn_ qag mixed Tryz.func97 (by kernel_rfl) rfl (qaa snd104 (qaa snd95 (qab _))) (lp1 seals k).2.2.2.2.2.2.2.1
theorem snd98 (k : Nat) : Sound Tryz.prog 98 (sp98 k).fs := sn_ qag mixed Tryz.func98 (by kernel_rfl) rfl (qaa snd96 (qaa snd62 (qab _))) (lp1 seals k).2.2.2.2.2.2.2.2.1
theorem snd65 (k : Nat) : Sound Tryz.prog 65 (sp65 k).fs := sn_ qag mixed Tryz.func65 (by kernel_rfl) rfl (qaa snd63 (qaa snd96 (qaa snd99 (qaa (snd98 k) (qaa (snd97 k) (qab _)))))) (lp1 seals k).2.2.2.2.2.2.2.2.2.1
theorem snd36 (k : Nat) : Sound Tryz.prog 36 (sp36 k).fs := sn_ qag mixed Tryz.func36 (by kernel_rfl) rfl (qaa (snd65 k) (qaa (snd64 k) (qaa snd63 (qaa snd62 (qaa (snd20 k) (qaa (snd42 k) (qab _))))))) (lp1 seals k).2.2.2.2.2.2.2.2.2.2.1
theorem snd128 (k : Nat) : Sound Tryz.prog 128 (sp128 k).fs := sn_ qag mixed Tryz.func128 (by kernel_rfl) rfl (qab _) (lp1 seals k).2.2.2.2.2.2.2.2.2.2.2.1
theorem snd140 : Sound Tryz.prog 140 sp140.fs := sn_ qag mixed Tryz.func140 (by kernel_rfl) rfl (qab _) (lp1 seals 0).2.2.2.2.2.2.2.2.2.2.2.2.1
theorem snd148 (k : Nat) : Sound Tryz.prog 148 (sp148 k).fs := sn_ qag mixed Tryz.func148 (by kernel_rfl) rfl (qab _) (lp1 seals k).2.2.2.2.2.2.2.2.2.2.2.2.2.1
theorem snd141 (k : Nat) : Sound Tryz.prog 141 (sp141 k).fs := sn_ qag mixed Tryz.func141 (by kernel_rfl) rfl (qaa (snd148 k) (qab _)) (lp1 seals k).2.2.2.2.2.2.2.2.2.2.2.2.2.2
end
end Go.Vm
