/- Own walks -/
import Derived.Test.YtjamdeehpblflaaGreatDoorWk0
import Derived.Test.YtjamdeehpblflaaGreatDoorWk1
import Derived.Test.YtjamdeehpblflaaGreatDoorVm1
set_option linter.unusedVariables false
set_option maxRecDepth 60000
set_option maxHeartbeats 40000000
namespace Go.Vm
open Go Go.Proofs Go.Pf
noncomputable section

def lv178 : Live := look ⟨[],[],[],[],[]⟩ [(4,⟨[1,2,21,22,23],[],[6],[],[]⟩)]
def g178 : FEnv := (fun _=>none)
def sp178 (k : Nat) : SP := .mk [.rd,.rd,.rd] (dL ti true (dL ti true (dL ti true dN))) oN fun (a0,a1,a2,_) _ C => C _ (qbN.f k a0 a1 a2) (fun x => .i .i64 x) fun x => []
def lv189 : Live := look ⟨[],[],[],[],[]⟩ []
def g189 : FEnv := (fun _=>none)
def sp189 : SP := .mk [.rd] (dI .i64 dN) oN fun (a0,_) _ C => C _ (qcP.f a0) (fun x => .b x) fun x => []
def lv179 : Live := look ⟨[],[],[],[],[]⟩ [(6,⟨[1,2,8,9,27,28,29],[9],[6,7],[],[]⟩),(1000000,⟨[],[],[],[(6,0,.own ti)],[]⟩)]
def g179 (k : Nat) : FEnv := (addF 145 (sp145 k).fs (addF 189 sp189.fs (fun _=>none)))
def sp179 (k : Nat) : SP := .mk [.rd,.rd,.rd] (dL ti true (dL ti true (dL ti true dN))) oN fun (a0,a1,a2,_) _ C => C _ (qbO.f k a0 a1 a2) (fun x => .tup [.own 0,.i .i64 x.1]) fun x => [.row ti x.2 false]
def lv165 : Live := look ⟨[],[],[],[],[]⟩ [(1000000,⟨[],[],[],[(4,0,.dat ti),(4,0,.fz ti)],[]⟩)]
def g165 (k : Nat) : FEnv := (addF 179 (sp179 k).fs (addF 178 (sp178 k).fs (fun _=>none)))
def sp165 (k : Nat) : SP := .mk [.st,.st] (dG (dI .i64 (dL ti false (dL ti false (dL ti false (dI .i64 (dI .i64 (dS dN))))))) (dL ti false dN)) oN fun ((a0_0,a0_1,a0_2,a0_3,a0_4,a0_5,a0_6,_),a1,_) _ C => C _ (qem.f k a0_0 a0_1 a0_2 a0_3 a0_4 a0_5 a0_6 a1) (fun x => .tup [.dat ti x.1 false,.i .i64 x.2]) fun x => []
theorem lp2000 (S : Seals) (k : Nat) : (sp178 k).St tt (g178) lv178 Tryz.f178 k /\ sp189.St tt (g189) lv189 Tryz.f189 k /\ (sp179 k).St tt (g179 k) lv179 Tryz.f179 k /\ (sp165 k).St tt (g165 k) lv165 Tryz.f165 k := by
 refine cu_ (A := ∀ (n : Nat) {x1 x2 x21 : LI} {x22 x23 : Int} {K : CK},S.lp tt (g178) lv178 0 n (loopN Tryz.f178 0) ⟨[(1,.dat ti x1 true),(2,.dat ti x2 true),(21,.dat ti x21 true),(22,.i .i64 x22),(23,.i .i64 x23)],[],0,62⟩ K = bindO (qbN.l0 n x1 x2 x21 x22 x23) (Sum.elim (fun x : Unit => K (.exit 0) ⟨[],[],0,62⟩) (fun x : Int => K .ret ⟨[(6,.i .i64 x)],[],0,62⟩))) (fun w178_0=>?_) (ind_ ?_ ?_)
 refine cu_ (A := ∀ (n : Nat) {x1 x2 x27 : LI} {x28 x29 : Int} {y0 : LI} {K : CK},S.lp tt (g179 k) lv179 0 n (loopN Tryz.f179 0) ⟨[(1,.dat ti x1 true),(2,.dat ti x2 true),(8,.fn 189 []),(9,.own 0),(27,.dat ti x27 true),(28,.i .i64 x28),(29,.i .i64 x29)],[(0,.row ti y0 false)],1,69⟩ K = bindO (qbO.l0 n x1 x2 x27 x28 x29 y0) (Sum.elim (fun x : LI => K (.exit 0) ⟨[(9,.own 0)],[(0,.row ti x false)],1,69⟩) (fun x : Int => K .ret ⟨[(6,.nilsl),(7,.i .i64 x)],[],0,69⟩))) (fun w179_0=>?_) (ind_ ?_ ?_)
 and_intros
 all_goals first|(dsimp only [SP.St,sp178,sp189,sp179,sp165,dN,dL,dI,dS,dG,oN]; intros; (first|unfold qbN.f|unfold qcP.f|unfold qbO.f|unfold qem.f); refine S.run_s rfl rfl ?_; (conv=>lhs;arg 5;whnf); conv=>lhs;arg 6;whnf)|(intros; rw [S.lp_zero]; exact qbu)|(intro n ih; intros; (first|rw [qbN.l0]|rw [qbO.l0]); refine S.lp_succ ?_; conv=>lhs;arg 5;whnf)
 all_goals as_aux_lemma=>repeat' first|(first|refine S.seq_op rfl ?_|refine S.op_n ?_|refine S.block_x ?_|refine qdC ?_|refine qdD ?_|refine br_t (by assumption) ?_|refine br_f (by assumption) ?_|refine qb1 (by with_reducible assumption) ?_|refine qdE fun _=>?_|refine qdB (fun _=>?_) (fun _=>?_)|refine br_d (fun _=>?_) (fun _=>?_)|refine br_n (fun _=>?_) (fun _=>?_)|refine br_c (fun _=>?_) (fun _=>?_)|refine qdu fun _=>?_|refine qb1 (by assumption) ?_)<;>(conv=>lhs;whnf)|refine S.seq_nil ?_|refine S.reg_n ?_|refine S.region rfl ?_|refine S.two ?_|refine S.blok ?_|refine S.cond rfl ?_|refine S.after_n ?_|refine S.block_n ?_|refine S.block_r ?_|refine S.after_x ?_|refine S.after_r ?_|refine S.skip ?_|refine S.exit ?_|refine S.ret ?_|refine qdt (fun _=>?_) (fun _=>?_)|refine S.region_d (id := 6) (ds := [0,0,3,7,15,31,63,63,255,511,63,2047,4095,8191,16383,16383,65535,131071,262143,524287,1048575,2097151,2097151,8388607,16777215,2097151,2097151,2097151,203423743,471859199,1042284543,2147483647,4294967295]) (mds := [[],[],[],[],[],[],[],[],[],[],[],[],[],[],[],[],[],[],[],[],[],[],[],[],[],[],[],[],[],[],[],[],[]]) (hm := []) (by kernel_rfl) (by kernel_rfl) rfl rfl ?_|exact ih|refine (w178_0 _).trans ?_|refine (w179_0 _).trans ?_|refine S.region_d (id := 10) (ds := [0,0,0,0,12,28,0,124,0,0,768,1792,4092,8191,16383]) (mds := [[],[],[],[],[],[],[],[],[],[],[],[],[],[],[0]]) (hm := [(14,[0])]) (by kernel_rfl) (by kernel_rfl) rfl rfl ?_|refine S.region_d (id := 3) (ds := [0,1,0,4,15,0,32,0,128,480,31,2047]) (mds := [[],[],[],[],[],[],[],[],[],[],[],[]]) (hm := []) (by kernel_rfl) (by kernel_rfl) rfl rfl ?_|(first|refine S.loop ?_|refine S.back_n ?_|refine S.back_x ?_|refine S.back_r ?_|refine S.fin_r ?_|refine S.fin_n ?_|refine S.dk_n ?_|refine S.draw_nil ?_)<;>(conv=>lhs;whnf)|(refine S.draw_op ?_; conv => lhs; whnf; arg 1; whnf)|refine qb4 ?_|refine qbt ?_|refine qcD ?_|refine qa9 ?_|exact qdM rfl|exact qbu
theorem snd178 (k : Nat) : Sound Tryz.prog 178 (sp178 k).fs := sn_ qag mixed Tryz.func178 (by kernel_rfl) rfl (qab _) (lp2000 seals k).1
theorem snd189 : Sound Tryz.prog 189 sp189.fs := sn_ qag mixed Tryz.func189 (by kernel_rfl) rfl (qab _) (lp2000 seals 0).2.1
theorem snd179 (k : Nat) : Sound Tryz.prog 179 (sp179 k).fs := sn_ qag mixed Tryz.func179 (by kernel_rfl) rfl (qaa (snd145 k) (qaa snd189 (qab _))) (lp2000 seals k).2.2.1
theorem snd165 (k : Nat) : Sound Tryz.prog 165 (sp165 k).fs := sn_ qag mixed Tryz.func165 (by kernel_rfl) rfl (qaa (snd179 k) (qaa (snd178 k) (qab _))) (lp2000 seals k).2.2.2
def lv147 : Live := look ⟨[],[],[],[],[]⟩ [(1000000,⟨[],[],[],[(2,0,.own ti)],[]⟩)]
noncomputable def g147 : FEnv := (fun _=>none)
theorem en147 : EnvOK Tryz.prog (g147) := (qab _)
set_option maxRecDepth 60000 in
set_option maxHeartbeats 40000000 in
theorem r147 (S : Seals) (k : Nat) (a0 : LI) : runF tt (g147) lv147 Tryz.f147 k [.dat ti a0 true] [] = bindO (qbE.f a0) (fun x : LI => some (.own 0,[.row ti x false])) := by
 unfold qbE.f; cases a0
 ·rw [if_pos (by decide)]; refine S.run_s rfl rfl ?_; conv => lhs; arg 5; whnf
  conv => lhs; arg 6; whnf
  repeat' first|(first|refine qb1 (by decide) ?_|refine S.seq_op rfl ?_|refine S.op_n ?_|refine S.block_x ?_|refine qdC ?_|refine qdD ?_|refine br_t (by assumption) ?_|refine br_f (by assumption) ?_|refine qb1 (by with_reducible assumption) ?_|refine qdE fun _=>?_|refine qdB (fun _=>?_) (fun _=>?_)|refine br_d (fun _=>?_) (fun _=>?_)|refine br_n (fun _=>?_) (fun _=>?_)|refine br_c (fun _=>?_) (fun _=>?_)|refine qdu fun _=>?_|refine qb1 (by assumption) ?_)<;>(conv=>lhs;whnf)|refine S.seq_nil ?_|refine S.reg_n ?_|refine S.region rfl ?_|refine S.two ?_|refine S.blok ?_|refine S.cond rfl ?_|refine S.after_n ?_|refine S.block_n ?_|refine S.block_r ?_|refine S.after_x ?_|refine S.after_r ?_|refine S.skip ?_|refine S.exit ?_|refine S.ret ?_|refine qdt (fun _=>?_) (fun _=>?_)|refine qrz ?_ ?_|(first|refine S.loop ?_|refine S.back_n ?_|refine S.back_x ?_|refine S.back_r ?_|refine S.fin_r ?_|refine S.fin_n ?_|refine S.dk_n ?_|refine S.draw_nil ?_)<;>(conv=>lhs;whnf)|(refine S.draw_op ?_; conv => lhs; whnf; arg 1; whnf)|refine qb4 ?_|refine qbt ?_|refine qcD ?_|refine qa9 ?_|exact qdM rfl|exact qbu
 ·refine S.run_s rfl rfl ?_; conv => lhs; arg 5; whnf
  conv => lhs; arg 6; whnf
  repeat' first|(first|refine S.seq_op rfl ?_|refine S.op_n ?_|refine S.block_x ?_|refine qdC ?_|refine qdD ?_|refine br_t (by assumption) ?_|refine br_f (by assumption) ?_|refine qb1 (by with_reducible assumption) ?_|refine qdE fun _=>?_|refine qdB (fun _=>?_) (fun _=>?_)|refine br_d (fun _=>?_) (fun _=>?_)|refine br_n (fun _=>?_) (fun _=>?_)|refine br_c (fun _=>?_) (fun _=>?_)|refine qdu fun _=>?_|refine qb1 (by assumption) ?_)<;>(conv=>lhs;whnf)|refine S.seq_nil ?_|refine S.reg_n ?_|refine S.region rfl ?_|refine S.two ?_|refine S.blok ?_|refine S.cond rfl ?_|refine S.after_n ?_|refine S.block_n ?_|refine S.block_r ?_|refine S.after_x ?_|refine S.after_r ?_|refine S.skip ?_|refine S.exit ?_|refine S.ret ?_|refine qdt (fun _=>?_) (fun _=>?_)|(first|refine S.loop ?_|refine S.back_n ?_|refine S.back_x ?_|refine S.back_r ?_|refine S.fin_r ?_|refine S.fin_n ?_|refine S.dk_n ?_|refine S.draw_nil ?_)<;>(conv=>lhs;whnf)|(refine S.draw_op ?_; conv => lhs; whnf; arg 1; whnf)|refine qb4 ?_|refine qbt ?_|refine qcD ?_|refine qa9 ?_|exact qdM rfl|exact qbu
def sp147 : FSpec := ⟨[.rd],fun args objs K => match args,objs with | [v0],[] => listB ti true v0 fun a0 => bindO (qbE.f a0) fun x : LI => K (.own 0) [.row ti x false] | _,_ => none⟩
theorem snd147 : Sound Tryz.prog 147 (sp147) := by
 refine ⟨⟨Tryz.f147,Tryz.func147,by kernel_rfl,rfl⟩,fun args objs K r h => ?_⟩
 unfold sp147 at h; dsimp only at h; split at h
 ·rename_i v0
  obtain ⟨a0,h9,ca0⟩ := qgI h; clear h
  have h := h9; clear h9
  obtain ⟨x,hx,h⟩ := qc4 h
  exact ⟨_,_,h,FnOK.args2 (qdN ca0 qko) (qkS qag (en147) mixed Tryz.func147 ((r147 seals 0 a0).trans (qfi hx)))⟩
 ·cases h

def lv166 : Live := look ⟨[],[],[],[],[]⟩ [(6,⟨[0,6,33,34,35],[6],[4,5],[],[]⟩),(11,⟨[0,6,8,33,34,35,44,45,46],[0,6,8,33,34,35],[4,5],[],[]⟩),(1000000,⟨[],[],[],[(4,0,.own ti)],[]⟩)]
def g166 (k : Nat) : FEnv := (addF 145 (sp145 k).fs (addF 147 sp147 (fun _=>none)))
def sp166 (k : Nat) : SP := .mk [.rd,.rd] (dI .i64 (dL (.sl ti) true dN)) oN fun (a0,a1,_) _ C => C _ (qaU.f k a0 a1) (fun x => .tup [.own 0,.i .i64 x.1]) fun x => [.row ti x.2 false]
def lv190 : Live := look ⟨[],[],[],[],[]⟩ [(4,⟨[0,1,12,13],[],[4],[],[]⟩)]
def g190 : FEnv := (fun _=>none)
def sp190 (k : Nat) : SP := .mk [.rd,.rd] (dL ti true (dL ti true dN)) oN fun (a0,a1,_) _ C => C _ (qaV.f k a0 a1) (fun x => .b x) fun x => []
def lv180 : Live := look ⟨[],[],[],[],[]⟩ []
def g180 (k : Nat) : FEnv := (addF 190 (sp190 k).fs (fun _=>none))
def sp180 (k : Nat) : SP := .mk [.rd,.rd] (dL ti true (dL ti true dN)) oN fun (a0,a1,_) _ C => C _ (qdF.f k a0 a1) (fun x => .b x) fun x => []
def lv191 : Live := look ⟨[],[],[],[],[]⟩ [(1000000,⟨[],[],[],[(4,0,.own ti),(4,0,.trim)],[]⟩)]
def g191 : FEnv := (fun _=>none)
def sp191 : SP := .mk [.kp,.kp] (dZ (dI .i64 dN)) oN fun (a1,_) _ C => C _ (qcF.f a1) (fun x => .own 0) fun x => [.row ti x false]
def lv181 : Live := look ⟨[],[],[],[],[]⟩ [(3,⟨[0,3,9,10,11],[0,3],[2],[],[]⟩),(11,⟨[6,25,26,27],[6],[2],[],[]⟩)]
def g181 : FEnv := (addF 191 sp191.fs (fun _=>none))
def sp181 (k : Nat) : SP := .mk [.rd] (dL (.sl ti) true dN) oN fun (a0,_) _ C => C _ (qam.f k a0) (fun x => .own 0) fun x => [.row ti x false]
def lv167 : Live := look ⟨[],[],[],[],[]⟩ [(1000000,⟨[],[],[],[(6,0,.own ti)],[]⟩)]
def g167 (k : Nat) : FEnv := (addF 181 (sp181 k).fs (addF 180 (sp180 k).fs (addF 145 (sp145 k).fs (fun _=>none))))
def sp167 (k : Nat) : SP := .mk [.st,.st,.st] (dL ti false (dL ti false (dI .i64 dN))) oN fun (a0,a1,a2,_) _ C => C _ (qe4.f k a0 a1 a2) (fun x => .tup [.own 0,.i .i64 x.1]) fun x => [.row ti x.2 false]
def lv182 : Live := look ⟨[],[],[],[],[]⟩ []
def g182 : FEnv := (fun _=>none)
def sp182 : SP := .mk [.rd] (dI .i64 dN) oN fun (a0,_) _ C => C _ (qdJ.f a0) (fun x => .b x) fun x => []
def lv183 : Live := look ⟨[],[],[],[],[]⟩ [(5,⟨[1,6,14,15,16],[6],[4,5],[(6,0,.own ti)],[]⟩),(1000000,⟨[],[],[],[(4,0,.own ti)],[]⟩)]
def g183 (k : Nat) : FEnv := (addF 177 (sp177 k).fs (fun _=>none))
def sp183 (k : Nat) : SP := .mk [.rd,.rd] (dL ti true (dL ti true dN)) oN fun (a0,a1,_) _ C => C _ (qbU.f k a0 a1) (fun x => .tup [.own 0,.i .i64 x.1]) fun x => [.row ti x.2 false]
def lv168 : Live := look ⟨[],[],[],[],[]⟩ [(1000000,⟨[],[],[],[(4,0,.own ti)],[]⟩)]
def g168 (k : Nat) : FEnv := (addF 145 (sp145 k).fs (addF 183 (sp183 k).fs (addF 182 sp182.fs (fun _=>none))))
def sp168 (k : Nat) : SP := .mk [.rd,.rd] (dG (dI .i64 (dL ti true (dL ti true (dL ti true (dI .i64 (dI .i64 (dS dN))))))) (dL ti true dN)) oN fun ((a0_0,a0_1,a0_2,a0_3,a0_4,a0_5,a0_6,_),a1,_) _ C => C _ (qd5.f k a0_0 a0_1 a0_2 a0_3 a0_4 a0_5 a0_6 a1) (fun x => .tup [.own 0,.i .i64 x.1]) fun x => [.row ti x.2 false]
def lv192 : Live := look ⟨[],[],[],[],[]⟩ []
def g192 : FEnv := (fun _=>none)
def sp192 : SP := .mk [.rd] (dI .i64 dN) oN fun (a0,_) _ C => C _ (qc1.f a0) (fun x => .b x) fun x => []
def lv184 : Live := look ⟨[],[],[],[],[]⟩ []
def g184 : FEnv := (addF 192 sp192.fs (addF 182 sp182.fs (fun _=>none)))
def sp184 : SP := .mk [.rd,.rd,.rd] (dI .i64 (dI .i64 (dI .i64 dN))) oN fun (a0,a1,a2,_) _ C => C _ (qee.f a0 a1 a2) (fun x => .b x) fun x => []
def lv185 : Live := look ⟨[],[],[],[],[]⟩ []
def g185 : FEnv := (fun _=>none)
def sp185 : SP := .mk [.rd,.rd,.rd] (dI .i64 (dI .i64 (dI .i64 dN))) oN fun (a0,a1,a2,_) _ C => C _ (qed.f a0 a1 a2) (fun x => .i .i64 x) fun x => []
theorem lp2001 (S : Seals) (k : Nat) : (sp166 k).St tt (g166 k) lv166 Tryz.f166 k /\ (sp190 k).St tt (g190) lv190 Tryz.f190 k /\ (sp180 k).St tt (g180 k) lv180 Tryz.f180 k /\ sp191.St tt (g191) lv191 Tryz.f191 k /\ (sp181 k).St tt (g181) lv181 Tryz.f181 k /\ (sp167 k).St tt (g167 k) lv167 Tryz.f167 k /\ sp182.St tt (g182) lv182 Tryz.f182 k /\ (sp183 k).St tt (g183 k) lv183 Tryz.f183 k /\ (sp168 k).St tt (g168 k) lv168 Tryz.f168 k /\ sp192.St tt (g192) lv192 Tryz.f192 k /\ sp184.St tt (g184) lv184 Tryz.f184 k /\ sp185.St tt (g185) lv185 Tryz.f185 k := by
 refine cu_ (A := ∀ (n : Nat) {x0 : Int} {x8 : LI} {x33 : List LI} {x34 x35 : Int} {x44 : LI} {x45 x46 : Int} {y0 : LI} {K : CK},S.lp tt (g166 k) lv166 0 n (loopN Tryz.f166 1) ⟨[(0,.i .i64 x0),(6,.own 0),(8,.dat ti x8 false),(33,.dat (.sl ti) x33 true),(34,.i .i64 x34),(35,.i .i64 x35),(44,.dat ti x44 false),(45,.i .i64 x45),(46,.i .i64 x46)],[(0,.row ti y0 false)],1,83⟩ K = bindO (qaU.l1 n x0 x8 x33 x34 x35 x44 x45 x46 y0) (Sum.elim (fun x : Unit => K (.exit 2) ⟨[(0,.i .i64 x0),(6,.own 0),(8,.dat ti x8 false),(33,.dat (.sl ti) x33 true),(34,.i .i64 x34),(35,.i .i64 x35)],[(0,.row ti y0 false)],1,83⟩) (fun x : Int => K .ret ⟨[(4,.nilsl),(5,.i .i64 x)],[],0,83⟩))) (fun w166_1=>?_) (ind_ ?_ ?_)
 refine cu_ (A := ∀ (n : Nat) {x0 : Int} {x33 : List LI} {x34 x35 : Int} {y0 : LI} {K : CK},S.lp tt (g166 k) lv166 0 n (loopN Tryz.f166 0) ⟨[(0,.i .i64 x0),(6,.own 0),(33,.dat (.sl ti) x33 true),(34,.i .i64 x34),(35,.i .i64 x35)],[(0,.row ti y0 false)],1,83⟩ K = bindO (qaU.l0 k n x0 x33 x34 x35 y0) (Sum.elim (fun x : LI => K (.exit 0) ⟨[(6,.own 0)],[(0,.row ti x false)],1,83⟩) (fun x : Int => K .ret ⟨[(4,.nilsl),(5,.i .i64 x)],[],0,83⟩))) (fun w166_0=>?_) (ind_ ?_ ?_)
 refine cu_ (A := ∀ (n : Nat) {x0 x1 : LI} {x12 x13 : Int} {K : CK},S.lp tt (g190) lv190 0 n (loopN Tryz.f190 0) ⟨[(0,.dat ti x0 true),(1,.dat ti x1 true),(12,.i .i64 x12),(13,.i .i64 x13)],[],0,26⟩ K = bindO (qaV.l0 n x0 x1 x12 x13) (Sum.elim (fun x : Unit => K (.exit 0) ⟨[],[],0,26⟩) (fun x : Bool => K .ret ⟨[(4,.b x)],[],0,26⟩))) (fun w190_0=>?_) (ind_ ?_ ?_)
 refine cu_ (A := ∀ (n : Nat) {x0 : List LI} {x3 : Int} {x9 : List LI} {x10 x11 : Int} {K : CK},S.lp tt (g181) lv181 0 n (loopN Tryz.f181 0) ⟨[(0,.dat (.sl ti) x0 true),(3,.i .i64 x3),(9,.dat (.sl ti) x9 true),(10,.i .i64 x10),(11,.i .i64 x11)],[],0,36⟩ K = bindO (qam.l0 n x0 x3 x9 x10 x11) (fun x : Int => K (.exit 0) ⟨[(0,.dat (.sl ti) x0 true),(3,.i .i64 x)],[],0,36⟩)) (fun w181_0=>?_) (ind_ ?_ ?_)
 refine cu_ (A := ∀ (n : Nat) {x25 : List LI} {x26 x27 : Int} {y0 : LI} {K : CK},S.lp tt (g181) lv181 0 n (loopN Tryz.f181 1) ⟨[(6,.own 0),(25,.dat (.sl ti) x25 true),(26,.i .i64 x26),(27,.i .i64 x27)],[(0,.row ti y0 false)],1,36⟩ K = bindO (qam.l1 n x25 x26 x27 y0) (fun x : LI => K (.exit 2) ⟨[(6,.own 0)],[(0,.row ti x false)],1,36⟩)) (fun w181_1=>?_) (ind_ ?_ ?_)
 refine cu_ (A := ∀ (n : Nat) {x1 x14 : LI} {x15 x16 : Int} {y0 : LI} {K : CK},S.lp tt (g183 k) lv183 0 n (loopN Tryz.f183 0) ⟨[(1,.dat ti x1 true),(6,.own 0),(14,.dat ti x14 true),(15,.i .i64 x15),(16,.i .i64 x16)],[(0,.row ti y0 false)],1,39⟩ K = bindO (qbU.l0 n x1 x14 x15 x16 y0) (fun x : LI => K (.exit 0) ⟨[(6,.own 0)],[(0,.row ti x false)],1,39⟩)) (fun w183_0=>?_) (ind_ ?_ ?_)
 and_intros
 all_goals first|(dsimp only [SP.St,sp166,sp190,sp180,sp191,sp181,sp167,sp182,sp183,sp168,sp192,sp184,sp185,dN,dL,dI,dS,dZ,dG,oN]; intros; (first|unfold qaU.f|unfold qaV.f|unfold qdF.f|unfold qcF.f|unfold qam.f|unfold qe4.f|unfold qdJ.f|unfold qbU.f|unfold qd5.f|unfold qc1.f|unfold qee.f|unfold qed.f); refine S.run_s rfl rfl ?_; (conv=>lhs;arg 5;whnf); conv=>lhs;arg 6;whnf)|(intros; rw [S.lp_zero]; exact qbu)|(intro n ih; intros; (first|rw [qaU.l1]|rw [qaU.l0]|rw [qaV.l0]|rw [qam.l0]|rw [qam.l1]|rw [qbU.l0]); refine S.lp_succ ?_; conv=>lhs;arg 5;whnf)
 all_goals as_aux_lemma=>repeat' first|(first|refine S.seq_op rfl ?_|refine S.op_n ?_|refine S.block_x ?_|refine qdC ?_|refine qdD ?_|refine br_t (by assumption) ?_|refine br_f (by assumption) ?_|refine qb1 (by with_reducible assumption) ?_|refine qdE fun _=>?_|refine qdB (fun _=>?_) (fun _=>?_)|refine br_d (fun _=>?_) (fun _=>?_)|refine br_n (fun _=>?_) (fun _=>?_)|refine br_c (fun _=>?_) (fun _=>?_)|refine qdu fun _=>?_|refine qb1 (by assumption) ?_)<;>(conv=>lhs;whnf)|refine S.seq_nil ?_|refine S.reg_n ?_|refine S.region rfl ?_|refine S.two ?_|refine S.blok ?_|refine S.cond rfl ?_|refine S.after_n ?_|refine S.block_n ?_|refine S.block_r ?_|refine S.after_x ?_|refine S.after_r ?_|refine S.skip ?_|refine S.exit ?_|refine S.ret ?_|refine qdt (fun _=>?_) (fun _=>?_)|exact ih|refine (w166_1 _).trans ?_|refine (w166_0 _).trans ?_|refine (w190_0 _).trans ?_|refine (w181_0 _).trans ?_|refine (w181_1 _).trans ?_|refine (w183_0 _).trans ?_|refine S.region_d (id := 16) (ds := [0,0,3,7,0,0,48,112,255,511,1023]) (mds := [[],[],[],[],[],[],[],[],[],[],[0]]) (hm := [(10,[0])]) (by kernel_rfl) (by kernel_rfl) rfl rfl ?_|refine S.region_d (id := 6) (ds := [0,0,3,7,0,0,48,112,255]) (mds := [[],[],[],[],[],[],[],[],[]]) (hm := []) (by kernel_rfl) (by kernel_rfl) rfl rfl ?_|refine S.region_d (id := 3) (ds := [0,1,3,7,15,31,63,127,255,511,511,2047,511,511,12799,32767,65535,131071,262143,524287,524287,1572863,3670015,8388607,16777215,524287,524287,101187583,235405311,536870911,1073741823,2147483647]) (mds := [[],[],[],[],[],[],[],[],[],[],[],[],[],[],[],[],[],[],[],[],[],[],[],[],[],[],[],[],[],[],[],[]]) (hm := []) (by kernel_rfl) (by kernel_rfl) rfl rfl ?_|refine S.region_d (id := 5) (ds := [0,0,2,6,15,0,0,64,224,511,1023,2047]) (mds := [[],[],[],[],[],[],[],[],[],[],[],[]]) (hm := []) (by kernel_rfl) (by kernel_rfl) rfl rfl ?_|(first|refine S.loop ?_|refine S.back_n ?_|refine S.back_x ?_|refine S.back_r ?_|refine S.fin_r ?_|refine S.fin_n ?_|refine S.dk_n ?_|refine S.draw_nil ?_)<;>(conv=>lhs;whnf)|(refine S.draw_op ?_; conv => lhs; whnf; arg 1; whnf)|refine qb4 ?_|refine qbt ?_|refine qcD ?_|refine qa9 ?_|exact qdM rfl|exact qbu
theorem snd166 (k : Nat) : Sound Tryz.prog 166 (sp166 k).fs := sn_ qag mixed Tryz.func166 (by kernel_rfl) rfl (qaa (snd145 k) (qaa snd147 (qab _))) (lp2001 seals k).1
theorem snd190 (k : Nat) : Sound Tryz.prog 190 (sp190 k).fs := sn_ qag mixed Tryz.func190 (by kernel_rfl) rfl (qab _) (lp2001 seals k).2.1
theorem snd180 (k : Nat) : Sound Tryz.prog 180 (sp180 k).fs := sn_ qag mixed Tryz.func180 (by kernel_rfl) rfl (qaa (snd190 k) (qab _)) (lp2001 seals k).2.2.1
theorem snd191 : Sound Tryz.prog 191 sp191.fs := sn_ qag mixed Tryz.func191 (by kernel_rfl) rfl (qab _) (lp2001 seals 0).2.2.2.1
theorem snd181 (k : Nat) : Sound Tryz.prog 181 (sp181 k).fs := sn_ qag mixed Tryz.func181 (by kernel_rfl) rfl (qaa snd191 (qab _)) (lp2001 seals k).2.2.2.2.1
theorem snd167 (k : Nat) : Sound Tryz.prog 167 (sp167 k).fs := sn_ qag mixed Tryz.func167 (by kernel_rfl) rfl (qaa (snd181 k) (qaa (snd180 k) (qaa (snd145 k) (qab _)))) (lp2001 seals k).2.2.2.2.2.1
theorem snd182 : Sound Tryz.prog 182 sp182.fs := sn_ qag mixed Tryz.func182 (by kernel_rfl) rfl (qab _) (lp2001 seals 0).2.2.2.2.2.2.1
theorem snd183 (k : Nat) : Sound Tryz.prog 183 (sp183 k).fs := sn_ qag mixed Tryz.func183 (by kernel_rfl) rfl (qaa (snd177 k) (qab _)) (lp2001 seals k).2.2.2.2.2.2.2.1
theorem snd168 (k : Nat) : Sound Tryz.prog 168 (sp168 k).fs := sn_ qag mixed Tryz.func168 (by kernel_rfl) rfl (qaa (snd145 k) (qaa (snd183 k) (qaa snd182 (qab _)))) (lp2001 seals k).2.2.2.2.2.2.2.2.1
theorem snd192 : Sound Tryz.prog 192 sp192.fs := sn_ qag mixed Tryz.func192 (by kernel_rfl) rfl (qab _) (lp2001 seals 0).2.2.2.2.2.2.2.2.2.1
theorem snd184 : Sound Tryz.prog 184 sp184.fs := sn_ qag mixed Tryz.func184 (by kernel_rfl) rfl (qaa snd192 (qaa snd182 (qab _))) (lp2001 seals 0).2.2.2.2.2.2.2.2.2.2.1
theorem snd185 : Sound Tryz.prog 185 sp185.fs := sn_ qag mixed Tryz.func185 (by kernel_rfl) rfl (qab _) (lp2001 seals 0).2.2.2.2.2.2.2.2.2.2.2
end
end Go.Vm
