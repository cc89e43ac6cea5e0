/- Own walks -/
import Derived.Test.YtmjhjjdnmgakhaaGreatVm2
import Derived.Test.YtmjhjjdnmgakhaaGreatPl0
import Derived.Test.YtmjhjjdnmgakhaaGreatProg
open ByteArray renaming empty→vaa
namespace Go.Vm
open Go
abbrev ti : Ty := .int .i64
end Go.Vm

set_option linter.unusedVariables false
set_option maxRecDepth 60000
set_option maxHeartbeats 40000000
namespace Go.Vm
open Go Go.Proofs Go.Pf
noncomputable section

theorem ind_ {P : Nat -> Prop} (h0 : P 0) (hs : ∀ n,P n -> P (n + 1)) : ∀ n,P n
 | 0 => h0
 | n + 1 => hs n (ind_ h0 hs n)
theorem cu_ {A B : Prop} (f : A -> B) (a : A) : B := f a
def tt : Tab := [default,
 default,
 ⟨.int .i64,1,8,[.i .i64 0],some ti⟩,
 ⟨.int .i64,1,8,[.i .i64 0],some ti⟩,
 ⟨.bool,1,1,[.b false],some .bool⟩,
 default,
 default,
 default,
 default,
 ⟨.str,1,16,[.s vaa],some .str⟩,
 default,
 default,
 default,
 default,
 default,
 default,
 default,
 default,
 default,
 default,
 default,
 ⟨.int .i32,1,4,[.i .i32 0],some (.int .i32)⟩,
 ⟨.sl 3,1,24,[.nilsl],some (.sl ti)⟩,
 ⟨.sl 30,1,24,[.nilsl],some (.sl (.pair ti (.pair (.sl ti) (.pair (.sl ti) (.pair (.sl ti) (.pair ti (.pair ti .str)))))))⟩,
 default,
 ⟨.struct [(0,22),(1,9),(2,23),(3,22)],4,88,[.nilsl,.s vaa,.nilsl,.nilsl],some (.pair (.sl ti) (.pair .str (.pair (.sl (.pair ti (.pair (.sl ti) (.pair (.sl ti) (.pair (.sl ti) (.pair ti (.pair ti .str))))))) (.sl ti))))⟩,
 default,
 default,
 default,
 default,
 ⟨.struct [(0,3),(1,22),(2,22),(3,22),(4,2),(5,3),(6,9)],7,112,[.i .i64 0,.nilsl,.nilsl,.nilsl,.i .i64 0,.i .i64 0,.s vaa],some (.pair ti (.pair (.sl ti) (.pair (.sl ti) (.pair (.sl ti) (.pair ti (.pair ti .str))))))⟩,
 default,
 ⟨.func,1,8,[.kon (.nilFunc)],none⟩,
 default,
 default,
 ⟨.sl 22,1,24,[.nilsl],some (.sl (.sl ti))⟩,
 ⟨.int .i64,1,8,[.i .i64 0],some ti⟩,
 default,
 default,
 default,
 default,
 ⟨.sl 64,1,24,[.nilsl],some (.sl (.sl (.pair ti (.pair ti (.pair (.sl ti) (.pair (.pair ti (.pair (.sl ti) (.pair (.sl ti) (.pair (.sl ti) (.pair ti (.pair ti .str)))))) (.pair ti (.pair ti ti))))))))⟩,
 ⟨.sl 108,1,24,[.nilsl],some (.sl (.sl (.pair (.sl ti) (.sl ti))))⟩,
 default,
 default,
 default,
 default,
 default,
 default,
 ⟨.struct [(0,3),(1,3),(2,3),(3,3)],4,32,[.i .i64 0,.i .i64 0,.i .i64 0,.i .i64 0],some (.pair ti (.pair ti (.pair ti ti)))⟩,
 ⟨.sl 49,1,24,[.nilsl],some (.sl (.pair ti (.pair ti (.pair ti ti))))⟩,
 ⟨.ptr 121,1,8,[.kon (.pointer none)],none⟩,
 default,
 default,
 default,
 default,
 default,
 default,
 ⟨.func,1,8,[.kon (.nilFunc)],none⟩,
 default,
 default,
 default,
 default,
 default,
 ⟨.sl 116,1,24,[.nilsl],some (.sl (.pair ti (.pair ti (.pair (.sl ti) (.pair (.pair ti (.pair (.sl ti) (.pair (.sl ti) (.pair (.sl ti) (.pair ti (.pair ti .str)))))) (.pair ti (.pair ti ti)))))))⟩,
 ⟨.sl 2,1,24,[.nilsl],some (.sl ti)⟩,
 default,
 ⟨.struct [(0,22),(1,65)],2,48,[.nilsl,.nilsl],some (.pair (.sl ti) (.sl ti))⟩,
 default,
 default,
 default,
 ⟨.sl 148,1,24,[.nilsl],some (.sl (.pair ti (.pair ti (.pair ti (.pair (.sl ti) (.sl ti))))))⟩,
 default,
 default,
 default,
 default,
 default,
 default,
 ⟨.ptr 80,1,8,[.kon (.pointer none)],none⟩,
 default,
 ⟨.struct [(0,22),(1,3)],2,32,[.nilsl,.i .i64 0],some (.pair (.sl ti) ti)⟩,
 default,
 default,
 default,
 default,
 default,
 default,
 default,
 default,
 default,
 ⟨.func,1,8,[.kon (.nilFunc)],none⟩,
 default,
 default,
 default,
 default,
 ⟨.ptr 98,1,8,[.kon (.pointer none)],none⟩,
 ⟨.sl 4,1,24,[.nilsl],some (.sl .bool)⟩,
 default,
 ⟨.struct [(0,25),(4,35),(5,35),(6,96)],7,160,[.nilsl,.s vaa,.nilsl,.nilsl,.nilsl,.nilsl,.nilsl],some (.pair (.pair (.sl ti) (.pair .str (.pair (.sl (.pair ti (.pair (.sl ti) (.pair (.sl ti) (.pair (.sl ti) (.pair ti (.pair ti .str))))))) (.sl ti)))) (.pair (.sl (.sl ti)) (.pair (.sl (.sl ti)) (.sl .bool))))⟩,
 default,
 ⟨.sl 21,1,24,[.nilsl],some (.sl (.int .i32))⟩,
 default,
 ⟨.ptr 105,1,8,[.kon (.pointer none)],none⟩,
 ⟨.sl 35,1,24,[.nilsl],some (.sl (.sl (.sl ti)))⟩,
 default,
 ⟨.struct [(0,41),(1,103),(2,71),(3,3)],4,80,[.nilsl,.nilsl,.nilsl,.i .i64 0],some (.pair (.sl (.sl (.pair ti (.pair ti (.pair (.sl ti) (.pair (.pair ti (.pair (.sl ti) (.pair (.sl ti) (.pair (.sl ti) (.pair ti (.pair ti .str)))))) (.pair ti (.pair ti ti)))))))) (.pair (.sl (.sl (.sl ti))) (.pair (.sl (.pair ti (.pair ti (.pair ti (.pair (.sl ti) (.sl ti)))))) ti)))⟩,
 default,
 ⟨.ptr 108,1,8,[.kon (.pointer none)],none⟩,
 ⟨.sl 67,1,24,[.nilsl],some (.sl (.pair (.sl ti) (.sl ti)))⟩,
 default,
 ⟨.ptr 152,1,8,[.kon (.pointer none)],none⟩,
 default,
 default,
 default,
 default,
 default,
 ⟨.struct [(0,3),(1,3),(2,22),(3,30),(10,3),(11,3),(12,3)],13,176,[.i .i64 0,.i .i64 0,.nilsl,.i .i64 0,.nilsl,.nilsl,.nilsl,.i .i64 0,.i .i64 0,.s vaa,.i .i64 0,.i .i64 0,.i .i64 0],some (.pair ti (.pair ti (.pair (.sl ti) (.pair (.pair ti (.pair (.sl ti) (.pair (.sl ti) (.pair (.sl ti) (.pair ti (.pair ti .str)))))) (.pair ti (.pair ti ti))))))⟩,
 ⟨.ptr 159,1,8,[.kon (.pointer none)],none⟩,
 default,
 ⟨.sl 125,1,24,[.nilsl],none⟩,
 default,
 ⟨.struct [(0,119),(1,117),(2,3)],3,40,[.nilsl,.kon (.pointer none),.i .i64 0],none⟩,
 default,
 ⟨.map 3 67,1,8,[.kon (.map none)],none⟩,
 default,
 ⟨.struct [(0,64),(1,3),(2,123),(3,108),(4,36)],5,72,[.nilsl,.i .i64 0,.kon (.map none),.nilsl,.i .i64 0],none⟩,
 ⟨.func,1,8,[.kon (.nilFunc)],none⟩,
 default,
 default,
 default,
 default,
 ⟨.sl 9,1,24,[.nilsl],some (.sl .str)⟩,
 default,
 default,
 default,
 default,
 default,
 default,
 default,
 default,
 default,
 default,
 default,
 default,
 default,
 default,
 default,
 default,
 ⟨.struct [(0,3),(1,3),(2,3),(3,67)],5,72,[.i .i64 0,.i .i64 0,.i .i64 0,.nilsl,.nilsl],some (.pair ti (.pair ti (.pair ti (.pair (.sl ti) (.sl ti)))))⟩,
 ⟨.sl 36,1,24,[.nilsl],some (.sl ti)⟩,
 ⟨.sl 123,1,24,[.nilsl],none⟩,
 default,
 ⟨.struct [(0,41),(1,42),(2,150),(3,22),(4,71),(5,3),(6,149)],7,152,[.nilsl,.nilsl,.nilsl,.nilsl,.nilsl,.i .i64 0,.nilsl],none⟩,
 default,
 default,
 ⟨.func,1,8,[.kon (.nilFunc)],none⟩,
 default,
 ⟨.map 166 67,1,8,[.kon (.map none)],none⟩,
 default,
 ⟨.struct [(0,157)],1,8,[.kon (.map none)],none⟩,
 default,
 default,
 default,
 default,
 default,
 default,
 ⟨.arr 3 3,3,24,[.i .i64 0,.i .i64 0,.i .i64 0],some (.pair ti (.pair ti ti))⟩,
 default,
 default,
 ⟨.func,1,8,[.kon (.nilFunc)],none⟩,
 default,
 default,
 default,
 default,
 default,
 default,
 default,
 default,
 default,
 default,
 default,
 default,
 default,
 default,
 default,
 default,
 default,
 default,
 default,
 ⟨.int .u64,1,8,[.i .u64 0],some (.int .u64)⟩,
 default,
 default,
 default,
 default,
 default,
 ⟨.map 3 197,1,8,[.kon (.map none)],none⟩,
 default,
 ⟨.struct [],0,0,[],none⟩,
 default,
 default,
 default,
 default,
 default,
 default,
 default,
 default,
 default,
 default,
 default,
 default,
 default,
 default,
 default,
 default,
 ⟨.int .u32,1,4,[.i .u32 0],some (.int .u32)⟩,
 default,
 default,
 ⟨.int .u64,1,8,[.i .u64 0],some (.int .u64)⟩,
 default,
 default,
 default,
 default,
 ⟨.func,1,8,[.kon (.nilFunc)],none⟩,
 default,
 default,
 default,
 default,
 default,
 default,
 default,
 default,
 default,
 default,
 default,
 default,
 default,
 ⟨.struct [(0,3),(1,4),(2,4),(3,4),(4,4),(5,4)],6,16,[.i .i64 0,.b false,.b false,.b false,.b false,.b false],some (.pair ti (.pair .bool (.pair .bool (.pair .bool (.pair .bool .bool)))))⟩]
theorem qal : TabOK Tryz.prog tt := qdi (by kernel_rfl)
theorem mixed : Tryz.prog.follows .mixedOrders = true := by kernel_rfl

def lv68 : Live := look ⟨[],[],[],[],[]⟩ [(3,⟨[3,7],[3],[2],[(3,0,.own (.int .i32))],[]⟩)]
def g68 : FEnv := (fun _=>none)
def sp68 (k : Nat) : SP := .mk [.rd] (dS dN) oN fun (a0,_) _ C => C _ (qby.f k a0) (fun x => .own 0) fun x => [.row (.int .i32) x false]
def lv21 : Live := look ⟨[],[],[],[],[]⟩ [(4,⟨[1,5,6,11,12],[6],[4],[],[]⟩)]
def g21 (k : Nat) : FEnv := (addF 68 (sp68 k).fs (fun _=>none))
def sp21 (k : Nat) : SP := .mk [.rd,.rd] (dS (dL ti true dN)) oN fun (a0,a1,_) _ C => C _ (qbU.f k a0 a1) (fun x => .s x) fun x => []
def lv45 : Live := look ⟨[],[],[],[],[]⟩ []
def g45 : FEnv := (fun _=>none)
def sp45 : SP := .mk [.rd,.rd,.rd] (dI .i64 (dI .i64 (dI .i64 dN))) oN fun (a0,a1,a2,_) _ C => C _ (qdB.f a0 a1 a2) (fun x => .i .i64 x) fun x => []
def lv47 : Live := look ⟨[],[],[],[],[]⟩ []
def g47 : FEnv := (addF 45 sp45.fs (fun _=>none))
def sp47 : SP := .mk [.rd,.rd] (dP 0 0 (dI .i64 dN)) (oV 80 (cD ti false (cI .i64 cN)) oN) fun (a1,_) ((o0_0,o0_1,_),_) C => C _ (qae.f a1 o0_0 o0_1) (fun x => .i .i64 x.1) fun x => [.var 80 [.dat ti o0_0 false,.i .i64 x.2]]
def lv46 : Live := look ⟨[],[],[],[],[]⟩ []
def g46 : FEnv := (addF 47 sp47.fs (fun _=>none))
def sp46 : SP := .mk [.rd] (dP 0 0 dN) (oV 80 (cD ti false (cI .i64 cN)) oN) fun _ ((o0_0,o0_1,_),_) C => C _ (qcF.f o0_0 o0_1) (fun x => .tup [.own 1,.s x.1]) fun x => [.var 80 [.dat ti o0_0 false,.i .i64 x.2.1],.row ti x.2.2 false]
def lv89 : Live := look ⟨[],[],[],[],[]⟩ [(3,⟨[0,3,4],[3],[2],[(3,0,.own ti)],[]⟩)]
def g89 : FEnv := (addF 47 sp47.fs (fun _=>none))
def sp89 (k : Nat) : SP := .mk [.rd] (dP 0 0 dN) (oV 80 (cD ti false (cI .i64 cN)) oN) fun _ ((o0_0,o0_1,_),_) C => C _ (qaA.f k o0_0 o0_1) (fun x => .own 1) fun x => [.var 80 [.dat ti o0_0 false,.i .i64 x.1],.row ti x.2 false]
def lv90 : Live := look ⟨[],[],[],[],[]⟩ []
def g90 : FEnv := (addF 47 sp47.fs (fun _=>none))
def sp90 : SP := .mk [.rd] (dP 0 0 dN) (oV 80 (cD ti false (cI .i64 cN)) oN) fun _ ((o0_0,o0_1,_),_) C => C _ (qbA.f o0_0 o0_1) (fun x => .i .i64 x.1) fun x => [.var 80 [.dat ti o0_0 false,.i .i64 x.2]]
def lv57 : Live := look ⟨[],[],[],[],[]⟩ [(4,⟨[0,1,5],[],[4],[],[]⟩)]
def g57 : FEnv := (fun _=>none)
def sp57 (k : Nat) : SP := .mk [.rd,.rd] (dL ti true (dL ti true dN)) oN fun (a0,a1,_) _ C => C _ (qbr.f k a0 a1) (fun x => .b x) fun x => []
def lv91 : Live := look ⟨[],[],[],[],[]⟩ [(3,⟨[0,1,5,8,9],[5],[4],[(5,0,.own ti)],[]⟩)]
def g91 (k : Nat) : FEnv := (addF 57 (sp57 k).fs (fun _=>none))
def sp91 (k : Nat) : SP := .mk [.rd,.rd] (dL (.sl ti) true (dL ti true dN)) oN fun (a0,a1,_) _ C => C _ (qbD.f k a0 a1) (fun x => .own 0) fun x => [.row ti x false]
theorem lp0 (S : Seals) (k : Nat) : (sp68 k).St tt (g68) lv68 Tryz.f68 k /\ (sp21 k).St tt (g21 k) lv21 Tryz.f21 k /\ sp45.St tt (g45) lv45 Tryz.f45 k /\ sp47.St tt (g47) lv47 Tryz.f47 k /\ sp46.St tt (g46) lv46 Tryz.f46 k /\ (sp89 k).St tt (g89) lv89 Tryz.f89 k /\ sp90.St tt (g90) lv90 Tryz.f90 k /\ (sp57 k).St tt (g57) lv57 Tryz.f57 k /\ (sp91 k).St tt (g91 k) lv91 Tryz.f91 k := by
 refine cu_ (A := ∀ (n : Nat) {y0 : LI} {y1_0 : ByteArray} {y1_1 : Nat} {K : CK},S.lp tt (g68) lv68 0 n (loopN Tryz.f68 0) ⟨[(3,.own 0),(7,.ptr 1 0)],[(0,.row (.int .i32) y0 false),(1,.ext (.iter y1_0 y1_1))],2,16⟩ K = bindO (qby.l0 n y0 y1_0 y1_1) (fun x : LI => K (.exit 0) ⟨[(3,.own 0)],[(0,.row (.int .i32) x false)],1,16⟩)) (fun w68_0=>?_) (ind_ ?_ ?_)
 refine cu_ (A := ∀ (n : Nat) {x1 : LI} {x6 : ByteArray} {x11 x12 : Int} {y0 : LI} {K : CK},S.lp tt (g21 k) lv21 0 n (loopN Tryz.f21 0) ⟨[(1,.dat ti x1 true),(5,.own 0),(6,.s x6),(11,.i .i64 x11),(12,.i .i64 x12)],[(0,.row (.int .i32) y0 false)],1,43⟩ K = bindO (qbU.l0 n x1 x6 x11 x12 y0) (fun x : ByteArray => K (.exit 0) ⟨[(6,.s x)],[],0,43⟩)) (fun w21_0=>?_) (ind_ ?_ ?_)
 refine cu_ (A := ∀ (n : Nat) {x4 : Int} {y0_0 : LI} {y0_1 : Int} {y1 : LI} {K : CK},S.lp tt (g89) lv89 1 n (loopN Tryz.f89 0) ⟨[(0,.ptr 0 0),(3,.own 1),(4,.i .i64 x4)],[(0,.var 80 [.dat ti y0_0 false,.i .i64 y0_1]),(1,.row ti y1 false)],2,20⟩ K = bindO (qaA.l0 n x4 y0_0 y0_1 y1) (fun x : Int × LI => K (.exit 0) ⟨[(3,.own 1)],[(0,.var 80 [.dat ti y0_0 false,.i .i64 x.1]),(1,.row ti x.2 false)],2,20⟩)) (fun w89_0=>?_) (ind_ ?_ ?_)
 refine cu_ (A := ∀ (n : Nat) {x0 x1 : LI} {x5 : Int} {K : CK},S.lp tt (g57) lv57 0 n (loopN Tryz.f57 0) ⟨[(0,.dat ti x0 true),(1,.dat ti x1 true),(5,.i .i64 x5)],[],0,26⟩ K = bindO (qbr.l0 n x0 x1 x5) (Sum.elim (fun x : Unit => K (.exit 0) ⟨[],[],0,26⟩) (fun x : Bool => K .ret ⟨[(4,.b x)],[],0,26⟩))) (fun w57_0=>?_) (ind_ ?_ ?_)
 refine cu_ (A := ∀ (n : Nat) {x0 : List LI} {x1 : LI} {x8 x9 : Int} {y0 : LI} {K : CK},S.lp tt (g91 k) lv91 0 n (loopN Tryz.f91 0) ⟨[(0,.dat (.sl ti) x0 true),(1,.dat ti x1 true),(5,.own 0),(8,.i .i64 x8),(9,.i .i64 x9)],[(0,.row ti y0 false)],1,24⟩ K = bindO (qbD.l0 k n x0 x1 x8 x9 y0) (fun x : LI => K (.exit 0) ⟨[(5,.own 0)],[(0,.row ti x false)],1,24⟩)) (fun w91_0=>?_) (ind_ ?_ ?_)
 and_intros
 all_goals first|(dsimp only [SP.St,sp68,sp21,sp45,sp47,sp46,sp89,sp90,sp57,sp91,dN,dL,dI,dS,dP,cN,cD,cI,oN,oV]; intros; (first|unfold qby.f|unfold qbU.f|unfold qdB.f|unfold qae.f|unfold qcF.f|unfold qaA.f|unfold qbA.f|unfold qbr.f|unfold qbD.f); refine S.run_s rfl rfl ?_; (conv=>lhs;arg 5;whnf); conv=>lhs;arg 6;whnf)|(intros; rw [S.lp_zero]; exact qaR)|(intro n ih; intros; (first|rw [qby.l0]|rw [qbU.l0]|rw [qaA.l0]|rw [qbr.l0]|rw [qbD.l0]); refine S.lp_succ ?_; conv=>lhs;arg 5;whnf)
 all_goals as_aux_lemma=>repeat' first|(first|refine S.seq_op rfl ?_|refine S.op_n ?_|refine S.block_x ?_|refine qcw ?_|refine qcx ?_|refine br_t (by assumption) ?_|refine br_f (by assumption) ?_|refine qbd (by with_reducible assumption) ?_|refine qcz fun _=>?_|refine qcv (fun _=>?_) (fun _=>?_)|refine br_d (fun _=>?_) (fun _=>?_)|refine br_n (fun _=>?_) (fun _=>?_)|refine br_c (fun _=>?_) (fun _=>?_)|refine qcr fun _=>?_|refine qbd (by assumption) ?_)<;>(conv=>lhs;whnf)|refine S.seq_nil ?_|refine S.reg_n ?_|refine S.region rfl ?_|refine S.two ?_|refine S.blok ?_|refine S.cond rfl ?_|refine S.after_n ?_|refine S.block_n ?_|refine S.block_r ?_|refine S.after_x ?_|refine S.after_r ?_|refine S.skip ?_|refine S.exit ?_|refine S.ret ?_|refine qco (fun _=>?_) (fun _=>?_)|exact ih|refine (w68_0 _).trans ?_|refine (w21_0 _).trans ?_|refine (w89_0 _).trans ?_|refine (w57_0 _).trans ?_|refine (w91_0 _).trans ?_|refine S.region_d (id := 1) (ds := [0,1,3,7,0,16,48,112,240,511,1023,2047,4095,8191]) (mds := [[],[],[],[],[],[],[],[],[],[],[],[],[],[]]) (hm := []) (by kernel_rfl) (by kernel_rfl) rfl rfl ?_|refine S.region_d (id := 4) (ds := [0,1,3,7,0,16,48,112,240,511,1023,2047,0,8191,16383]) (mds := [[],[],[],[],[],[],[],[],[],[],[],[],[],[],[]]) (hm := []) (by kernel_rfl) (by kernel_rfl) rfl rfl ?_|refine S.region_d (id := 6) (ds := [0,0,3,7,0,0,48,112,255]) (mds := [[],[],[],[],[],[],[],[],[]]) (hm := []) (by kernel_rfl) (by kernel_rfl) rfl rfl ?_|(first|refine S.loop ?_|refine S.back_n ?_|refine S.back_x ?_|refine S.back_r ?_|refine S.fin_r ?_|refine S.fin_n ?_|refine S.dk_n ?_|refine S.draw_nil ?_)<;>(conv=>lhs;whnf)|(refine S.draw_op ?_; conv => lhs; whnf; arg 1; whnf)|refine qbe ?_|refine qa2 ?_|refine qbO ?_|refine qaN ?_|exact qcq rfl|exact qaR
theorem snd68 (k : Nat) : Sound Tryz.prog 68 (sp68 k).fs := sn_ qal mixed Tryz.func68 (by kernel_rfl) rfl (qac _) (lp0 seals k).1
theorem snd21 (k : Nat) : Sound Tryz.prog 21 (sp21 k).fs := sn_ qal mixed Tryz.func21 (by kernel_rfl) rfl (qaa (snd68 k) (qac _)) (lp0 seals k).2.1
theorem snd45 : Sound Tryz.prog 45 sp45.fs := sn_ qal mixed Tryz.func45 (by kernel_rfl) rfl (qac _) (lp0 seals 0).2.2.1
theorem snd47 : Sound Tryz.prog 47 sp47.fs := sn_ qal mixed Tryz.func47 (by kernel_rfl) rfl (qaa snd45 (qac _)) (lp0 seals 0).2.2.2.1
theorem snd46 : Sound Tryz.prog 46 sp46.fs := sn_ qal mixed Tryz.func46 (by kernel_rfl) rfl (qaa snd47 (qac _)) (lp0 seals 0).2.2.2.2.1
theorem snd89 (k : Nat) : Sound Tryz.prog 89 (sp89 k).fs := sn_ qal mixed Tryz.func89 (by kernel_rfl) rfl (qaa snd47 (qac _)) (lp0 seals k).2.2.2.2.2.1
theorem snd90 : Sound Tryz.prog 90 sp90.fs := sn_ qal mixed Tryz.func90 (by kernel_rfl) rfl (qaa snd47 (qac _)) (lp0 seals 0).2.2.2.2.2.2.1
theorem snd57 (k : Nat) : Sound Tryz.prog 57 (sp57 k).fs := sn_ qal mixed Tryz.func57 (by kernel_rfl) rfl (qac _) (lp0 seals k).2.2.2.2.2.2.2.1
theorem snd91 (k : Nat) : Sound Tryz.prog 91 (sp91 k).fs := sn_ qal mixed Tryz.func91 (by kernel_rfl) rfl (qaa (snd57 k) (qac _)) (lp0 seals k).2.2.2.2.2.2.2.2
def lv134 : Live := look ⟨[],[],[],[],[]⟩ []
def g134 : FEnv := (fun _=>none)
def sp134 : SP := .mk [.rd] (dI .i64 dN) oN fun (a0,_) _ C => C _ (qdq.f a0) (fun x => .tup [.i .i64 x.1,.b x.2.1,.b x.2.2.1,.b x.2.2.2.1,.b x.2.2.2.2]) fun x => []
theorem lp1 (S : Seals) (k : Nat) : sp134.St tt (g134) lv134 Tryz.f134 k := by
 all_goals (dsimp only [SP.St,sp134,dN,dI,oN]; intros; unfold qdq.f; refine S.run_s rfl rfl ?_; (conv=>lhs;arg 5;whnf); conv=>lhs;arg 6;whnf)
 all_goals as_aux_lemma=>repeat' first|(first|refine S.seq_op rfl ?_|refine S.op_n ?_|refine S.block_x ?_|refine qcw ?_|refine qcx ?_|refine br_t (by assumption) ?_|refine br_f (by assumption) ?_|refine qbd (by with_reducible assumption) ?_|refine qcz fun _=>?_|refine qcv (fun _=>?_) (fun _=>?_)|refine br_d (fun _=>?_) (fun _=>?_)|refine br_n (fun _=>?_) (fun _=>?_)|refine br_c (fun _=>?_) (fun _=>?_)|refine qcr fun _=>?_|refine qbd (by assumption) ?_)<;>(conv=>lhs;whnf)|refine S.seq_nil ?_|refine S.reg_n ?_|refine S.region rfl ?_|refine S.two ?_|refine S.blok ?_|refine S.cond rfl ?_|refine S.after_n ?_|refine S.block_n ?_|refine S.block_r ?_|refine S.after_x ?_|refine S.after_r ?_|refine S.skip ?_|refine S.exit ?_|refine S.ret ?_|refine qco (fun _=>?_) (fun _=>?_)|(first|refine S.loop ?_|refine S.back_n ?_|refine S.back_x ?_|refine S.back_r ?_|refine S.fin_r ?_|refine S.fin_n ?_|refine S.dk_n ?_|refine S.draw_nil ?_)<;>(conv=>lhs;whnf)|(refine S.draw_op ?_; conv => lhs; whnf; arg 1; whnf)|refine qbe ?_|refine qa2 ?_|refine qbO ?_|refine qaN ?_|exact qcq rfl|exact qaR
theorem snd134 : Sound Tryz.prog 134 sp134.fs := sn_ qal mixed Tryz.func134 (by kernel_rfl) rfl (qac _) (lp1 seals 0)
end
end Go.Vm
