/- Own texts put together: Vm17, Vm18, Vm19 .. -/
import Derived.Test.YtmjhjjdnmgakhaaGreatVm0
import Derived.Laws.RangeString
import Derived.ChangeKeysEq
import Derived.LoopN
open Nat renaming eq_of_beq_eq_true→vaa, le_refl→vac, lt_of_lt_of_le→vah, lt_succ_self→vao, add_sub_cancel_left→vaw, le_of_ble_eq_true→vay, zero_add→vaD, lt_irrefl→vaE, zero_le→vaH, min_eq_left→vaI, mul_le_mul_right→vaK, le_of_eq→vaO, add_zero→vaP, ne_of_lt→vaV, le_trans→vaW, le_add_right→vaX, add_mul→va8, lt_succ_of_lt→vbb, not_lt_zero→vbj, le_succ→vbk, blt→vbo, zero_mul→vbv, sub_zero→vbw, beq→vbA
open Bool renaming and_eq_true→vab, not_eq_true'→vat, false_ne_true→vba
open List renaming mem_cons_self→vad, mem_append→vae, mem_append_right→vaf, mem_append_left→vag, getD_eq_getElem?_getD→vai, append_assoc→vaj, mem_singleton→vak, nodup_append→vam, eq_nil_of_length_eq_zero→van, mem_cons→vap, nodup_cons→vaq, length_append→vas, mem_cons_of_mem→vau, getElem?_eq_some_iff→vav, map_append→vax, length_take→vaz, mem_of_getElem?→vaA, toList_toArray→vaB, map_toArray→vaC, getElem?_append_right→vaJ, getElem?_append_left→vaL, length_cons→vaM, range'→vaN, set_eq_take_append_cons_drop→vaQ, mem_filterMap→vaR, append_nil→vaS, getElem?_eq_none→vaU, map_cons→vaY, getElem?_map→va0, getElem?_eq_getElem→va1, filterMap_cons_some→va2, all_cons→va3, range'_succ→va4, isEmpty_toArray→va6, mem_map_of_mem→va7, getElem?_drop→va9, toArray→vbc, mem_map→vbd, map_map→vbe, length_drop→vbg, nil_append→vbh, length_set→vbi, drop_zero→vbl, drop_eq_getElem_cons→vbm, filterMap_cons_none→vbn, take_of_length_le→vbp, drop_eq_nil_of_le→vbq, getElem?_toArray→vbr, filterMap_append→vbs, cons→vbt, range_eq_range'→vbx, size_toArray→vbB, mem_range'_1→vbC, take_append→vbE, not_mem_nil→vbF, getElem_mem→vbG, drop_append→vbH, all_eq_true→vbI, length_map→vbK, all_append→vbL
open Array renaming toList_inj→vaF, getD_eq_getD_getElem?→vaG, getElem?_setIfInBounds_ne→vaT, getElem?_eq_some_iff→vaZ, getElem?_setIfInBounds_self_of_lt→va5, toArray_toList→vbu, range→vby, length_toList→vbz, toList_map→vbD, replicate→vbJ
open Option renaming some→vbf
set_option linter.unusedVariables false
set_option linter.unusedSimpArgs false
namespace Go.Vm
open Go
variable {P : Program} {tt : Tab}
structure Ren (f : Nat -> Nat) (c c' : Ctx) (G : Nat -> Prop) : Prop where
 w : c'.w = c.w
 h : ∀ o,G o -> o < c.nx -> f o < c'.nx /\ c'.hdr (f o) = c.hdr o /\ c'.blk (f o) = c.blk o
 sa : ∀ b,¬ c.SA b -> b < c.w.heap.size -> ¬ c'.SA b
theorem Ren.keptA {f : Nat -> Nat} {c c' : Ctx} {G : Nat -> Prop} (h : Ren f c c' G) : Kept c.w c'.w c.SA c'.SA := ⟨by rw [h.w]; exact vac _,fun b hb hlt => ⟨by rw [h.w],h.sa b hb hlt⟩⟩
mutual
theorem Rel.ren {f : Nat -> Nat} {c c' : Ctx} {G : Nat -> Prop} (h : Ren f c c' G) : ∀ (v : V) (u : Value),(∀ o ∈ V.ids v,G o) -> ((∀ b,¬ c.SB b -> b < c.w.heap.size -> ¬ c'.SB b) \/ V.firm v = true) -> Rel c v u -> Rel c' (V.ren f v) u
 | .undef,_,_,_,r => r
 | .hid,_,_,_,r => r
 | .i _ _,_,_,_,r => r
 | .b _,_,_,_,r => r
 | .s _,_,_,_,r => r
 | .nilsl,_,_,_,r => r
 | .kon _,_,_,_,r => r
 | .dat e xs bor,u,_,hf,r => by
  obtain ⟨a,n,k,e',hr⟩ := r
  have hk : Kept c.w c'.w (sel c bor) (sel c' bor) := by
   cases bor with
   | false => exact h.keptA
   | true =>
    rcases hf with hf | hf
    ·exact ⟨by rw [h.w]; exact vac _,fun b hb hlt => ⟨by rw [h.w],hf b hb hlt⟩⟩
    ·cases hf
  exact ⟨a,n,k,e',hr.mono hk (Cells.mono h.keptA e)⟩
 | .own o,u,hg,_,r => by
  obtain ⟨h1,h2,_⟩ := h.h o (hg o (vad ..)) r.1
  exact ⟨h1,by rw [h2]; exact r.2⟩
 | .ownn o,u,hg,_,r => by
  obtain ⟨h1,h2,_⟩ := h.h o (hg o (vad ..)) r.1
  exact ⟨h1,by rw [h2]; exact r.2⟩
 | .sub o _ _ _,u,hg,_,r => by
  obtain ⟨h1,h2,_⟩ := h.h o (hg o (vad ..)) r.1
  exact ⟨h1,by rw [h2]; exact r.2⟩
 | .ptr o _,u,hg,_,r => by
  obtain ⟨h1,_,h2⟩ := h.h o (hg o (vad ..)) r.1
  exact ⟨h1,by rw [h2]; exact r.2⟩
 | .pel o _ _ _,u,hg,_,r => by
  obtain ⟨h1,_,h2⟩ := h.h o (hg o (vad ..)) r.1
  exact ⟨h1,by rw [h2]; exact r.2⟩
 | .optp o,u,hg,_,r => by
  obtain ⟨h1,_,h2⟩ := h.h o (hg o (vad ..)) r.1
  exact ⟨h1,by rw [h2]; exact r.2⟩
 | .err _,u,_,_,r => r
 | .nd nl e xs,u,_,hf,r => by
  obtain ⟨a,n,k,e',hr,hn⟩ := r
  exact ⟨a,n,k,e',hr.mono h.keptA (Cells.mono h.keptA e),hn⟩
 | .tp cs,u,hg,hf,r => by
  obtain ⟨b,off,us,e,hb,hlt,hl,hc⟩ := r
  rcases hf with hf | hf
  ·exact ⟨b,off,us,e,hf b hb hlt,by rw [h.w]; exact hlt,RelL.ren h cs us hg (.inl hf) hl,fun j v hv => by rw [h.w]; exact hc j v hv⟩
  ·cases hf
 | .agg cs,u,hg,hf,r => by obtain ⟨us,e,hl⟩ := r; exact ⟨us,e,RelL.ren h cs us hg hf hl⟩
 | .tup cs,u,hg,hf,r => by obtain ⟨us,e,hl⟩ := r; exact ⟨us,e,RelL.ren h cs us hg hf hl⟩
 | .fn _ cs,u,hg,hf,r => by obtain ⟨us,e,hl⟩ := r; exact ⟨us,e,RelL.ren h cs us hg hf hl⟩
theorem RelL.ren {f : Nat -> Nat} {c c' : Ctx} {G : Nat -> Prop} (h : Ren f c c' G) : ∀ (vs : List V) (us : List Value),(∀ o ∈ V.idsL vs,G o) -> ((∀ b,¬ c.SB b -> b < c.w.heap.size -> ¬ c'.SB b) \/ V.firmL vs = true) -> RelL c vs us -> RelL c' (V.renL f vs) us
 | [],_,_,_,r => r
 | v :: vs,us,hg,hf,r => by
  obtain ⟨u,us',e,h1,h2⟩ := r
  have hf1 : (∀ b,¬ c.SB b -> b < c.w.heap.size -> ¬ c'.SB b) \/ V.firm v = true := hf.imp id fun hf => by
   cases hv : V.firm v with
   | true => rfl
   | false => simp [V.firmL,hv] at hf
  have hf2 : (∀ b,¬ c.SB b -> b < c.w.heap.size -> ¬ c'.SB b) \/ V.firmL vs = true := hf.imp id fun hf => by
   cases hv : V.firm v with
   | true => simpa [V.firmL,hv] using hf
   | false => simp [V.firmL,hv] at hf
  exact ⟨u,us',e,Rel.ren h v u (fun o ho => hg o (vag _ ho)) hf1 h1,RelL.ren h vs us' (fun o ho => hg o (vaf _ ho)) hf2 h2⟩
end
theorem qpg (f : Nat -> Nat) (v : V) : (V.ren f v).isC = v.isC := by cases v <;> rfl
theorem qej (f : Nat -> Nat) : ∀ vs : List V,(V.renL f vs).all V.isC = vs.all V.isC
 | [] => rfl
 | v :: r => by simp only [V.renL,va3,qpg,qej f r]
theorem qiV (f : Nat -> Nat) : ∀ vs : List V,(V.renL f vs).length = vs.length
 | [] => rfl
 | v :: r => by simp only [V.renL,vaM,qiV f r]
theorem qea (f : Nat -> Nat) (x : AObj) : (x.ren f).mut = x.mut := by
 cases x with
 | nest y => cases y <;> rfl
 | _ => rfl
theorem qfZ (f : Nat -> Nat) (x : AObj) : (x.ren f).isNest = x.isNest := by
 cases x with
 | nest y => cases y <;> rfl
 | _ => rfl
theorem ObjOK.ren {f : Nat -> Nat} {c c' : Ctx} {G : Nat -> Prop} (h : Ren f c c' G) {o : Nat} {x : AObj} (ho : G o) (hg : ∀ o ∈ x.ids,G o) (hf : (∀ b,¬ c.SB b -> b < c.w.heap.size -> ¬ c'.SB b) \/ x.firm = true) (hsb : x.mut = true -> ∀ b,c.has o b -> c'.SB b)
  (hlt : x ≠ .dead -> ∀ b,c.blk o = some b -> b < c.w.heap.size) (hu : x.isNest = true -> ∀ b,c'.sub (f o) b ↔ c.sub o b) (hx : ObjOK c o x) : ObjOK c' (f o) (x.ren f) := by
 cases x with
 | dead => exact trivial
 | row e xs fz =>
  obtain ⟨h0,et,cells,hown,hc,hb,hfz,hty⟩ := hx
  obtain ⟨h1,h2,h3⟩ := h.h o ho h0
  exact ⟨h1,et,cells,by rw [h.w,h2]; exact hown,CellsL.mono (fun x cs hh => Cells.mono h.keptA e x cs hh) _ _ hc,by rw [h2,h3]; exact hb,(fun b hbb => by
   rw [h3] at hbb
   exact ⟨fun k => hsb (by simp [AObj.mut,k]) b (.inl hbb),fun k => h.sa b ((hfz b hbb).2 k) (hlt AObj.noConfusion b hbb)⟩),hty⟩
 | var vt cs =>
  obtain ⟨h0,b,us,el,hb,hh,hr,hs,hall⟩ := hx
  obtain ⟨h1,_,h3⟩ := h.h o ho h0
  exact ⟨h1,b,us,el,by rw [h3]; exact hb,by rw [h.w]; exact hh,RelL.ren h cs us hg hf hr,hsb rfl b (.inl hb),by rw [qej]; exact hall⟩
 | hole e xs ix cs =>
  obtain ⟨h0,et,cells,b,pre,mid,post,k1,k2,k3,k4,k5,k6,k7,k8,k9,k10,k11,k12⟩ := hx
  obtain ⟨h1,h2,h3⟩ := h.h o ho h0
  have hf' : (∀ b,¬ c.SB b -> b < c.w.heap.size -> ¬ c'.SB b) \/ V.firmL cs = true := hf.imp id fun hh => by cases hh
  exact ⟨h1,et,cells,b,pre,mid,post,by rw [h.w,h2]; exact k1,k2,CellsL.mono (fun x cs hh => Cells.mono h.keptA e x cs hh) _ _ k3,RelL.ren h cs mid hg hf' k4,CellsL.mono (fun x cs hh => Cells.mono h.keptA e x cs hh) _ _ k5,k6,by rw [<- k7]; exact qiV f cs,by rw [qej]; exact k8,by rw [h2,h3]; exact k9,by rw [h3]; exact k10,hsb rfl b (.inl k10),k12⟩
 | ext x =>
  obtain ⟨h0,b,ob,hb,hh,hr,hs,hm⟩ := hx
  obtain ⟨h1,h2,h3⟩ := h.h o ho h0
  exact ⟨h1,b,ob,by rw [h3]; exact hb,by rw [h.w]; exact hh,hr.mono h.keptA,hsb rfl b (.inl hb),fun e => by rw [h2]; exact hm e⟩
 | nest y =>
  have hlt0 := hx.lt (fun e => by cases e)
  obtain ⟨h1,h2,h3⟩ := h.h o ho hlt0
  replace hu := hu rfl
  have hh : ∀ b,c'.has (f o) b ↔ c.has o b := fun b => by unfold Ctx.has; rw [h3,hu b]
  have hsb' : ∀ b,c'.has (f o) b -> c'.SB b := fun b hb => hsb rfl b ((hh b).1 hb)
  cases y with
  | row d xs =>
   obtain ⟨_,et,cells,B,k1,k2,k3,k4,k5,k6,k7⟩ := hx
   exact ⟨h1,et,cells,B,by rw [h.w,h2]; exact k1,CellsDL.mono (p := fun _=>True) (fun y cs B' hc _ => CellsD.mono h.keptA d y cs B' hc fun b _ => by rw [h.w]) _ _ _ k2 (fun _ _ => trivial),by rw [h2,h3]; exact k3,fun b => (hu b).trans (k4 b),by rw [h3]; exact k5,hsb',k7⟩
  | hole d xs ix cs =>
   obtain ⟨_,et,cells,B1,B2,pre,mid,post,g,k1,k2,k3,k4,k5,k6,k7,k8,k9,k10,k11,k12,k13,k14⟩ := hx
   have hf' : (∀ b,¬ c.SB b -> b < c.w.heap.size -> ¬ c'.SB b) \/ V.firmL cs = true := hf.imp id fun hh => by cases hh
   exact ⟨h1,et,cells,B1,B2,pre,mid,post,g,by rw [h.w,h2]; exact k1,k2,CellsDL.mono (p := fun _=>True) (fun y cs B' hc _ => CellsD.mono h.keptA d y cs B' hc fun b _ => by rw [h.w]) _ _ _ k3 (fun _ _ => trivial),RelL.ren h cs mid hg hf' k4,
    CellsDL.mono (p := fun _=>True) (fun y cs B' hc _ => CellsD.mono h.keptA d y cs B' hc fun b _ => by rw [h.w]) _ _ _ k5 (fun _ _ => trivial),k6,by rw [<- k7]; exact qiV f cs,by rw [qej]; exact k8,by rw [h2,h3]; exact k9,by rw [h3]; exact k10,fun b => (hu b).trans (k11 b),k12,hsb',k14⟩
  | rng it ka k ea e xs rest cur =>
   obtain ⟨_,hit,b,bi,es,clock,seen,lft,k1,k2,k3,k4,k5,k6,k7,k8,k9,k10,k11,k12,k13⟩ := hx
   obtain ⟨i1,_,i3⟩ := h.h it (hg it (vad ..)) hit
   refine ⟨h1,i1,b,bi,es,clock,seen,lft,by rw [h3]; exact k1,by rw [h2]; exact k2,by rw [i3]; exact k3,⟨k4.1,fun g => (hu g).trans (k4.2 g)⟩,hsb rfl b (.inl k1),hsb rfl bi (.inr ((k4.2 bi).2 rfl)),by rw [h.w]; exact k7,by rw [h.w]; exact k8,k9.mono h.keptA,k10,k11,k12.mono h.keptA,?_⟩
   cases cur with
   | none => trivial
   | some x =>
    obtain ⟨m,hm,j1,j2,j3⟩ := k13
    exact ⟨m,hm,j1.mono h.keptA,j2.mono h.keptA,j3⟩
end Go.Vm

namespace Go.Vm
open Go
variable {P : Program} {tt : Tab}
def Lof (c : Ctx) (objs : List AObj) (b : Nat) : Prop := ∃ j x,objs[j]? = some x /\ x.mut = true /\ c.has j b
def objsOf (objs : List AObj) : Objs := (List.range objs.length).zip objs
structure FnPost (c : Ctx) (objs : List AObj) (c' : Ctx) (res : V) (u : Value) (objs' : List AObj) : Prop where
 step : Step c c' (Lof c objs)
 ok : SOK c' (objsOf objs')
 rel : Rel c' res u
 nx : c'.nx = objs'.length
 fresh : ∀ b,Lof c' objs' b -> c.w.heap.size <= b \/ Lof c objs b
 drawn : Strict -> c.w.drawn <= c'.w.drawn
def FnOK (P : Program) (f : FuncId) (args : List V) (objs : List AObj) (res : V) (objs' : List AObj) : Prop :=
 ∀ (c : Ctx) (vs : List Value),c.nx = objs.length -> SOK c (objsOf objs) -> RelL c args vs ->
  Calls P f vs.toArray c.w fun e w' => ∃ u c',e = .returned u /\ c'.w = w' /\ FnPost c objs c' res u objs'
def Enters (P : Program) (f : FuncId) : Prop := ∃ fn,P.funcs[f]? = some fn /\ (fn.name == "runtime.NumGoroutine") = false /\ fn.body.isNone = false
def EnvOK (P : Program) (Γ : FEnv) : Prop := ∀ f sp,Γ f = some sp -> Enters P f /\ ∀ args objs K r,sp.run args objs K = some r -> ∃ res objs',K res objs' = some r /\ FnOK P f args objs res objs'
theorem qob (objs : List AObj) : ∀ (s j : Nat),look .dead ((vaN s objs.length).zip objs) j = if s <= j then objs.getD (j - s) .dead else .dead := by
 induction objs with
 | nil => intro s j; simp [look]
 | cons x r ih =>
  intro s j
  rw [vaM,va4,List.zip_cons_cons,qau,ih]
  by_cases h : s = j
  ·subst h; simp
  ·rw [if_neg h]
   by_cases hs : s <= j
   ·rw [if_pos (by omega),if_pos hs,show j - s = (j - (s + 1)) + 1 by omega]; simp
   ·rw [if_neg (by omega),if_neg hs]
theorem qbo (objs : List AObj) (j : Nat) : look .dead (objsOf objs) j = objs.getD j .dead := by
 unfold objsOf
 rw [vbx,qob]; simp
theorem qdg {objs : List AObj} {j : Nat} {x : AObj} (h : objs[j]? = some x) : look .dead (objsOf objs) j = x := by rw [qbo,vai,h]; rfl
theorem qgf {c : Ctx} {objs : List AObj} {b : Nat} : Lof c objs b ↔ ∃ j,(look .dead (objsOf objs) j).mut = true /\ c.has j b := by
 constructor
 ·rintro ⟨j,x,h1,h2,h3⟩
  exact ⟨j,by rw [qdg h1]; exact h2,h3⟩
 ·rintro ⟨j,h1,h2⟩
  rw [qbo,vai] at h1
  cases h : objs[j]? with
  | none => rw [h] at h1; cases h1
  | some x => rw [h] at h1; exact ⟨j,x,h,h1,h2⟩
theorem qeN : ∀ {l : List Nat},nodupB l = true ↔ l.Nodup
 | [] => by simp [nodupB]
 | i :: r => by
  unfold nodupB
  cases h : elemB i r with
  | true => simp [qaJ.1 h]
  | false =>
   dsimp only
   rw [qeN,vaq]
   have : i ∉ r := fun hh => by rw [qaJ.2 hh] at h; cases h
   simp [this]
theorem qhZ : ∀ {n : Nat} {l : List Nat},allLt n l = true ↔ ∀ i ∈ l,i < n
  | n,[] => by simp [allLt]
  | n,i :: r => by
    unfold allLt
    cases h : vbo i n with
    | true => dsimp only; rw [qhZ]; have : i < n := by simpa using h
              simp [this]
    | false =>
      dsimp only
      have : ¬ i < n := by
        intro hh
        have : vbo i n = true := by simpa using hh
        rw [this] at h; cases h
      simp; intro hh; exact absurd hh this
theorem qkg : ∀ {a l : List Nat},disjB a l = true ↔ ∀ i ∈ a,i ∉ l
 | [],l => by simp [disjB]
 | i :: r,l => by
  unfold disjB
  cases h : elemB i l with
  | true => dsimp only; simp [qaJ.1 h]
  | false =>
   dsimp only
   rw [qkg]
   have : i ∉ l := fun hh => by rw [qaJ.2 hh] at h; cases h
   simp [this]
theorem qe7 {objs : Objs} {ids : List Nat} : ∀ {l : List Nat},smallOK objs ids l = true -> ∀ i ∈ l,∀ o ∈ (look .dead objs i).ids,o ∈ ids
 | [],_,i,hi => by cases hi
 | j :: r,h,i,hi => by
  unfold smallOK at h
  split at h
  ·rename_i hj
   rcases vap.1 hi with rfl | hi
   ·exact qb8.1 hj
   ·exact qe7 h i hi
  ·cases h
theorem qdt : ∀ {l : List Nat} {o : Nat},o ∈ l -> posOf l o < l.length /\ nth 0 l (posOf l o) = o
 | [],o,h => by cases h
 | i :: r,o,h => by
  show (match vbA i o with | true => 0 | false => posOf r o + 1) < _ /\ _
  by_cases hi : i = o
  ·subst hi
   have : posOf (i :: r) i = 0 := by show (match vbA i i with | true => 0 | false => posOf r i + 1) = 0; simp
   rw [this]; simp [nth]
  ·have h' : o ∈ r := by rcases vap.1 h with h | h; exact absurd h.symm hi; exact h
   obtain ⟨h1,h2⟩ := qdt h'
   have : posOf (i :: r) o = posOf r o + 1 := by show (match vbA i o with | true => 0 | false => posOf r o + 1) = _; rw [qd0 hi]
   rw [this,qd0 hi]
   exact ⟨by simpa using h1,h2⟩
theorem qck : ∀ {l : List Nat},l.Nodup -> ∀ {j : Nat},j < l.length -> posOf l (nth 0 l j) = j
 | [],_,j,h => by simp at h
 | i :: r,hn,0,_ => by
  show (match vbA i i with | true => 0 | false => _) = 0
  simp
 | i :: r,hn,j + 1,h => by
  have hn' := vaq.1 hn
  have hj : j < r.length := by simpa using h
  have hne : ¬ i = nth 0 r j := fun e => hn'.1 (by
   rw [e]
   exact vaA (qd8 0 r j hj))
  show (match vbA i (nth 0 r j) with | true => 0 | false => posOf r (nth 0 r j) + 1) = _
  rw [qd0 hne]
  dsimp only
  rw [qck hn'.2 hj]
theorem qcN {l : List Nat} {j : Nat} (h : j < l.length) : nth 0 l j ∈ l := vaA (qd8 0 l j h)
theorem qdC {ids : List Nat} {nx j : Nat} (h : j < ids.length) : back ids nx j = nth 0 ids j := by
 unfold back
 have : vbo j ids.length = true := by simpa using h
 rw [this]
theorem qdL {ids : List Nat} {nx j : Nat} (h : ids.length <= j) : back ids nx j = nx + (j - ids.length) := by
 unfold back
 have : vbo j ids.length = false := by
  cases hb : vbo j ids.length
  ·rfl
  ·have : j < ids.length := by simpa using hb
   omega
 rw [this]
theorem qot {ids : List Nat} {nx : Nat} (hn : ids.Nodup) (hl : ∀ i ∈ ids,i < nx) {j k : Nat} (h : back ids nx j = back ids nx k) : j = k := by
 by_cases hj : j < ids.length <;> by_cases hk : k < ids.length
 ·rw [qdC hj,qdC hk] at h
  rw [<- qck hn hj,h,qck hn hk]
 ·rw [qdC hj,qdL (by omega)] at h
  have := hl _ (qcN hj); omega
 ·rw [qdC hk,qdL (by omega)] at h
  have := hl _ (qcN hk); omega
 ·rw [qdL (by omega),qdL (by omega)] at h; omega
theorem qhy {ids : List Nat} {nx : Nat} : ∀ {ys : List AObj} {k o : Nat},o ∈ (zipCh ids nx k ys).map (·.1) ↔ ∃ j,j < ys.length /\ o = back ids nx (k + j)
 | [],k,o => by simp [zipCh]
 | y :: r,k,o => by
  rw [zipCh,vaY,vap,qhy]
  constructor
  ·rintro (h | ⟨j,hj,h⟩)
   ·exact ⟨0,by simp,h⟩
   ·exact ⟨j + 1,by simpa using hj,by rw [h]; congr 1; omega⟩
  ·rintro ⟨j,hj,h⟩
   cases j with
   | zero => exact .inl h
   | succ j => exact .inr ⟨j,by simpa using hj,by rw [h]; congr 1; omega⟩
theorem qip {ids : List Nat} {nx : Nat} (hn : ids.Nodup) (hl : ∀ i ∈ ids,i < nx) : ∀ {ys : List AObj} {k j : Nat},j < ys.length -> look .dead (zipCh ids nx k ys) (back ids nx (k + j)) = ys.getD j .dead
 | [],k,j,h => by simp at h
 | y :: r,k,j,h => by
  rw [zipCh,qau]
  cases j with
  | zero => simp
  | succ j =>
   rw [if_neg (fun e => by have := qot hn hl e; omega),show k + (j + 1) = (k + 1) + j by omega,qip hn hl (by simpa using h)]
   simp
end Go.Vm

namespace Go.Vm
open Go
variable {P : Program} {tt : Tab}
def calleeCtx (wd : Bool) (c : Ctx) (objs : Objs) (ids : List Nat) : Ctx :=
  { w := c.w,nx := ids.length,hdr := fun j => c.hdr (nth 0 ids j),blk := fun j => c.blk (nth 0 ids j),sub := fun j b => j < ids.length ∧ c.sub (nth 0 ids j) b,
    SB := fun b => if wd = true then c.SB b else ∃ o,o ∈ ids ∧ (look .dead objs o).mut = true ∧ c.has o b,SA := c.SA }
theorem qgc {wd : Bool} {c : Ctx} {objs : Objs} {ids : List Nat} : Ren (posOf ids) c (calleeCtx wd c objs ids) (· ∈ ids) :=
 ⟨rfl,fun o ho _ => by
  obtain ⟨h1,h2⟩ := qdt ho
  exact ⟨h1,by simp [calleeCtx,h2],by simp [calleeCtx,h2]⟩,fun b hb _ => hb⟩
theorem qdZ {wd : Bool} {c : Ctx} {objs : Objs} {ids : List Nat} {j b : Nat} (hj : j < ids.length) : (calleeCtx wd c objs ids).has j b ↔ c.has (nth 0 ids j) b := by
 unfold Ctx.has; simp [calleeCtx,hj]
theorem qfN {wd : Bool} {c : Ctx} {objs : Objs} (hs : SOK c objs) {ids : List Nat} : ∀ b,(calleeCtx wd c objs ids).SB b -> c.SB b := fun b h => by
 cases wd with
 | true => exact h
 | false => obtain ⟨_,_,hm,hb⟩ := (show ∃ o,o ∈ ids /\ (look .dead objs o).mut = true /\ c.has o b from by simpa [calleeCtx] using h); exact hs.mutSB hm hb
theorem qmg {wd : Bool} {c : Ctx} {objs : Objs} (hs : SOK c objs) {ids : List Nat} {o b : Nat} (ho : o ∈ ids) (hm : (look .dead objs o).mut = true) (hb : c.has o b) : (calleeCtx wd c objs ids).SB b := by
 cases wd with
 | true => exact hs.mutSB hm hb
 | false => show (if false = true then c.SB b else _); rw [if_neg (by decide)]; exact ⟨o,ho,hm,hb⟩
def smallObjs (objs : Objs) (ids : List Nat) : List AObj := ids.map fun o => (look .dead objs o).ren (posOf ids)
theorem qg7 {objs : Objs} {ids : List Nat} {j : Nat} (hj : j < ids.length) : (smallObjs objs ids)[j]? = some ((look .dead objs (nth 0 ids j)).ren (posOf ids)) := by
 unfold smallObjs
 rw [va0,qd8 0 ids j hj]; rfl
theorem qg6 (objs : Objs) (ids : List Nat) : (smallObjs objs ids).length = ids.length := by simp [smallObjs]
theorem qmh {wd : Bool} {c : Ctx} {objs : Objs} {ids : List Nat} (b : Nat) : Lof (calleeCtx wd c objs ids) (smallObjs objs ids) b ↔ ∃ o,o ∈ ids /\ (look .dead objs o).mut = true /\ c.has o b := by
 constructor
 ·rintro ⟨j,x,hx,hm,hb⟩
  have hj : j < ids.length := by have := (vav.1 hx).1; rwa [qg6] at this
  rw [qg7 hj] at hx
  cases hx
  exact ⟨nth 0 ids j,qcN hj,by rw [qea] at hm; exact hm,(qdZ hj).1 hb⟩
 ·rintro ⟨o,ho,hm,hb⟩
  obtain ⟨h1,h2⟩ := qdt ho
  exact ⟨posOf ids o,_,qg7 h1,by rw [qea,h2]; exact hm,(qdZ h1).2 (by rw [h2]; exact hb)⟩
theorem qnD {wd : Bool} {c : Ctx} {objs : Objs} (hs : SOK c objs) {ids : List Nat} (hn : ids.Nodup) (hl : ∀ i ∈ ids,i < c.nx) (hsm : ∀ i ∈ ids,∀ o ∈ (look .dead objs i).ids,o ∈ ids) : SOK (calleeCtx wd c objs ids) (objsOf (smallObjs objs ids)) := by
 have hlk : ∀ j,j < ids.length -> look .dead (objsOf (smallObjs objs ids)) j = (look .dead objs (nth 0 ids j)).ren (posOf ids) := fun j hj => qdg (qg7 hj)
 have hge : ∀ j,¬ j < ids.length -> look .dead (objsOf (smallObjs objs ids)) j = .dead := fun j hj => by
  rw [qbo,vai,vaU (by rw [qg6]; omega)]; rfl
 refine ⟨hs.low,fun j => ?_,fun j1 j2 b h1 h2 b1 b2 => ?_,fun j h b hb => ?_,fun b h => hs.sub b (qfN hs b h),hs.bd,fun j hj => hs.one _ (hl _ (qcN hj))⟩
 ·by_cases hj : j < ids.length
  ·rw [hlk j hj]
   have h0 := hs.obj (nth 0 ids j)
   have := ObjOK.ren (qgc (wd := wd) (objs := objs)) (qcN hj) (hsm _ (qcN hj)) (.inl fun b hb _ hh => hb (qfN hs b hh)) (fun hm b hb => qmg hs (qcN hj) hm hb) (fun hx b hb => hs.blt hx hb) (fun _ b => by rw [qck hn hj]; simp [calleeCtx,hj]) h0
   rwa [qck hn hj] at this
  ·rw [hge j hj]; exact trivial
 ·have k1 : j1 < ids.length := Classical.byContradiction fun h => by rw [hge j1 h] at h1; cases h1
  have k2 : j2 < ids.length := Classical.byContradiction fun h => by rw [hge j2 h] at h2; cases h2
  rw [hlk j1 k1,qea] at h1
  rw [hlk j2 k2,qea] at h2
  have := hs.inj _ _ b h1 h2 ((qdZ k1).1 b1) ((qdZ k2).1 b2)
  rw [<- qck hn k1,this,qck hn k2]
 ·obtain ⟨hj,hb⟩ := hb
  rw [hlk j hj,qfZ] at h
  exact hs.flat _ h b hb
theorem qm2 {c c0 : Ctx} {objs : Objs} (hs : SOK c objs) {ids : List Nat} {f : Nat -> Nat} (h : Ren f c c0 (· ∈ ids)) (hsb : ∀ b,c0.SB b -> c.SB b) {o : Nat} {e : Ty} {xs : List e.den} {fz : Bool} (ho : look .dead objs o = .row e xs fz)
  (hd : fz = false -> ∀ b,c.blk o = some b -> ¬ c0.SB b) : ∃ a n k,c.hdr o = .slice a n k /\ Rows (Cells c0.w c0.SA e) c0.w (sel c0 (!fz)) xs a n k := by
 obtain ⟨et,cells,hown,hcl,hob,h4,h5,_⟩ := hs.row_at ho
 have hcl' := CellsL.mono (fun x cs hh => Cells.mono h.keptA e x cs hh) _ _ hcl
 rcases hown.2 with ⟨hv,hz⟩ | ⟨g,cap,cur,hv,_,_,hle,_⟩
 ·exact ⟨none,0,0,hv,hz.symm,vac _,cells,hcl',.inl (van hz)⟩
 ·have hbk : c.blk o = some g := by rw [<- hob,hv]; rfl
  refine ⟨_,_,_,hv,rfl,hle,cells,hcl',.inr ⟨g,0,rfl,?_,by rw [h.w]; exact (h5 g hbk).2,fun j u hu => by rw [h.w]; exact (h5 g hbk).1 j u hu⟩⟩
  cases fz with
  | true => exact h.sa g ((h4 g hbk).2 rfl) (h5 g hbk).2
  | false => exact hd rfl g hbk
theorem qn5 {c c0 : Ctx} {objs : Objs} (hs : SOK c objs) {ids : List Nat} {f : Nat -> Nat} (h : Ren f c c0 (· ∈ ids)) {o : Nat} {d : DTy} {xs : List d.den} (ho : look .dead objs o = .nest (.row d xs)) (hm : d.noMap = true)
  (hd : ∀ b,c.has o b -> ¬ c0.SA b) (hb : ∀ b,c.blk o = some b -> ¬ c0.SB b) : ∃ a n k,c.hdr o = .slice a n k /\ Rows (Cells c0.w c0.SA d.er) c0.w (sel c0 true) (erC hm xs) a n k := by
 have hx := hs.obj o
 rw [ho] at hx
 obtain ⟨h0,et,cells,B,h1,h2,h3,h4,h5,h6,h7⟩ := hx
 have hcl := CellsDL.er h.keptA hm xs cells B h2 fun b hbb => ⟨by rw [h.w],hd b (.inr ((h4 b).2 hbb))⟩
 have he : erC hm xs = xs.map (cast (erEq hm)) := qlP (erEq hm) xs
 have hlen : (erC hm xs).length = xs.length := by rw [he,vbK]
 rw [<- he] at hcl
 rcases h1.2 with ⟨hv,hz⟩ | ⟨g,cap,cur,hv,_,_,hle,_⟩
 ·exact ⟨none,0,0,hv,by rw [hlen,hz],vac _,cells,hcl,.inl (van (by rw [hlen,hz]))⟩
 ·have hbk : c.blk o = some g := by rw [<- h3,hv]; rfl
  have hob : (c.hdr o).ownBlock = some g := by rw [h3]; exact hbk
  refine ⟨_,_,_,hv,hlen.symm,hle,cells,hcl,.inr ⟨g,0,rfl,hb g hbk,by rw [h.w]; exact (h1.lt g hob).2,fun j u hu => ?_⟩⟩
  have := h1.cells (g := g) hob j u hu
  rw [Addr.add_lit] at this
  rw [h.w]; exact this
theorem qgC {objs : Objs} : ∀ {l : List Nat},anyNest objs l = false -> ∀ o ∈ l,(look .dead objs o).isNest = false
 | [],_,o,ho => by cases ho
 | i :: r,h,o,ho => by
  unfold anyNest at h
  split at h
  ·cases h
  ·rename_i hi
   rcases vap.1 ho with rfl | ho
   ·exact hi
   ·exact qgC h o ho
mutual
theorem qlf {c c' : Ctx} : ∀ {v : V} {u : Value},V.scal v = true -> Rel c v u -> Rel c' v u
 | .i _ _,_,_,r => r
 | .b _,_,_,r => r
 | .s _,_,_,r => r
 | .tup cs,_,h,⟨us,e,r⟩ => ⟨us,e,qjF h r⟩
 | .undef,_,h,_ => by cases h
 | .hid,_,h,_ => by cases h
 | .nilsl,_,h,_ => by cases h
 | .kon _,_,h,_ => by cases h
 | .dat _ _ _,_,h,_ => by cases h
 | .own _,_,h,_ => by cases h
 | .ownn _,_,h,_ => by cases h
 | .sub _ _ _ _,_,h,_ => by cases h
 | .ptr _ _,_,h,_ => by cases h
 | .pel _ _ _ _,_,h,_ => by cases h
 | .optp _,_,h,_ => by cases h
 | .err _,_,h,_ => by cases h
 | .nd _ _ _,_,h,_ => by cases h
 | .tp _,_,h,_ => by cases h
 | .agg _,_,h,_ => by cases h
 | .fn _ _,_,h,_ => by cases h
theorem qjF {c c' : Ctx} : ∀ {vs : List V} {us : List Value},V.scalL vs = true -> RelL c vs us -> RelL c' vs us
 | [],_,_,r => r
 | v :: vs,_,h,⟨u,us',e,h1,h2⟩ => by
  unfold V.scalL at h
  split at h
  ·rename_i hv
   exact ⟨u,us',e,qlf hv h1,qjF h h2⟩
  ·cases h
end
theorem qo7 {c c0 : Ctx} {objs : Objs} (hs : SOK c objs) {ids : List Nat} {f : Nat -> Nat} (h : Ren f c c0 (· ∈ ids)) {o : Nat} {e : Ty} {xs : List e.den} (ho : look .dead objs o = .row e xs true) :
  ∃ a n k,c.hdr o = .slice a n k /\ Rows (Cells c0.w c0.SA e) c0.w c0.SA xs a n k := by
 obtain ⟨et,cells,hown,hcl,hob,h4,h5,_⟩ := hs.row_at ho
 have hcl' := CellsL.mono (fun x cs hh => Cells.mono h.keptA e x cs hh) _ _ hcl
 rcases hown.2 with ⟨hv,hz⟩ | ⟨g,cap,cur,hv,_,_,hle,_⟩
 ·exact ⟨none,0,0,hv,hz.symm,vac _,cells,hcl',.inl (van hz)⟩
 ·have hbk : c.blk o = some g := by rw [<- hob,hv]; rfl
  exact ⟨_,_,_,hv,rfl,hle,cells,hcl',.inr ⟨g,0,rfl,h.sa g ((h4 g hbk).2 rfl) (h5 g hbk).2,by rw [h.w]; exact (h5 g hbk).2,fun j u hu => by rw [h.w]; exact (h5 g hbk).1 j u hu⟩⟩
mutual
theorem qgb {c c0 : Ctx} {objs : Objs} (hs : SOK c objs) {ids : List Nat} {Q : Nat -> Prop} {f : Nat -> Nat} (h : Ren f c c0 (· ∈ ids)) (hsb : ∀ b,c0.SB b -> c.SB b) (hni : ∀ o b,Q o -> (look .dead objs o).mut = true -> c.blk o = some b -> ¬ c0.SB b) (hN : ∀ o b,Q o -> (look .dead objs o).isNest = true -> c.has o b -> ¬ c0.SA b) :
  ∀ (v : V) (u : Value),Rel c v u -> (∀ o ∈ V.ids (datify objs v),o ∈ ids) -> (∀ o ∈ dids objs v,Q o) -> Rel c0 (V.ren f (datify objs v)) u
 | .own o,u,r,_,hd => by
  obtain ⟨hnx,rfl⟩ := r
  unfold datify
  split
  ·rename_i e xs fz ho
   refine qm2 hs h hsb ho fun hf b hb => hni o b (hd o ?_) (by rw [ho,hf]; rfl) hb
   unfold dids; rw [ho,hf]; exact vad ..
  ·rename_i d xs ho
   split
   ·rename_i hm
    have hq : Q o := hd o (by unfold dids; rw [ho]; exact vad ..)
    exact qn5 hs h ho hm (fun b hb => hN o b hq (by rw [ho]; rfl) hb) fun b hb => hni o b hq (by rw [ho]; rfl) hb
   ·exact trivial
  ·exact trivial
 | .sub o es lo hi,u,r,_,hd => by
  obtain ⟨hnx,a,n,k,hh,hlo,hhi,rfl⟩ := r
  unfold datify
  split
  ·rename_i e xs fz ho
   split
   ·rename_i hes
    have hes : es = e.size := vaa hes
    obtain ⟨a',n',k',hh',hr⟩ := qm2 hs h hsb ho fun hf b hb => hni o b (hd o (by unfold dids; rw [ho,hf]; exact vad ..)) (by rw [ho,hf]; rfl) hb
    rw [hh] at hh'; cases hh'
    refine ⟨_,_,_,rfl,?_⟩
    rw [hes]
    exact hr.cut hlo (by rw [<- hr.1]; exact hhi)
   ·exact trivial
  ·exact trivial
 | .agg cs,u,r,hi,hd => by
  obtain ⟨us,e,hl⟩ := r
  exact ⟨us,e,qff hs h hsb hni hN cs us hl hi hd⟩
 | .tup cs,u,r,hi,hd => by
  obtain ⟨us,e,hl⟩ := r
  exact ⟨us,e,qff hs h hsb hni hN cs us hl hi hd⟩
 | .ownn o,u,r,hi,_ => Rel.ren h (.ownn o) u hi (.inl fun b hb _ hh => hb (hsb b hh)) r
 | .undef,u,r,hi,_ => r
 | .hid,u,r,hi,_ => r
 | .i _ _,u,r,hi,_ => r
 | .b _,u,r,hi,_ => r
 | .s _,u,r,hi,_ => r
 | .nilsl,u,r,hi,_ => r
 | .kon _,u,r,hi,_ => r
 | .dat e xs bor,u,r,hi,_ => Rel.ren h (.dat e xs bor) u hi (.inl fun b hb _ hh => hb (hsb b hh)) r
 | .ptr o off,u,r,hi,_ => Rel.ren h (.ptr o off) u hi (.inl fun b hb _ hh => hb (hsb b hh)) r
 | .pel o a b' d,u,r,hi,_ => Rel.ren h (.pel o a b' d) u hi (.inl fun b hb _ hh => hb (hsb b hh)) r
 | .optp o,u,r,hi,_ => Rel.ren h (.optp o) u hi (.inl fun b hb _ hh => hb (hsb b hh)) r
 | .err _,u,r,hi,_ => r
 | .nd nl e xs,u,r,hi,_ => Rel.ren h (.nd nl e xs) u hi (.inl fun b hb _ hh => hb (hsb b hh)) r
 | .tp cs,u,r,hi,_ => Rel.ren h (.tp cs) u hi (.inl fun b hb _ hh => hb (hsb b hh)) r
 | .fn g cs,u,r,hi,_ => Rel.ren h (.fn g cs) u hi (.inl fun b hb _ hh => hb (hsb b hh)) r
theorem qff {c c0 : Ctx} {objs : Objs} (hs : SOK c objs) {ids : List Nat} {Q : Nat -> Prop} {f : Nat -> Nat} (h : Ren f c c0 (· ∈ ids)) (hsb : ∀ b,c0.SB b -> c.SB b) (hni : ∀ o b,Q o -> (look .dead objs o).mut = true -> c.blk o = some b -> ¬ c0.SB b) (hN : ∀ o b,Q o -> (look .dead objs o).isNest = true -> c.has o b -> ¬ c0.SA b) :
  ∀ (vs : List V) (us : List Value),RelL c vs us -> (∀ o ∈ V.idsL (datifyL objs vs),o ∈ ids) -> (∀ o ∈ didsL objs vs,Q o) -> RelL c0 (V.renL f (datifyL objs vs)) us
 | [],us,r,_,_ => r
 | v :: vs,us,r,hi,hd => by
  obtain ⟨u,us',e,h1,h2⟩ := r
  exact ⟨u,us',e,qgb hs h hsb hni hN v u h1 (fun o ho => hi o (vag _ ho)) (fun o ho => hd o (vag _ ho)),
   qff hs h hsb hni hN vs us' h2 (fun o ho => hi o (vaf _ ho)) (fun o ho => hd o (vaf _ ho))⟩
end
theorem qn8 {c c0 : Ctx} {objs : Objs} (hs : SOK c objs) {ids : List Nat} {f : Nat -> Nat} (h : Ren f c c0 (· ∈ ids)) (e : Ty) : ∀ (v : V) (u : Value),Rel c v u -> Rel c0 (V.ren f (ndOf objs e v)) u := by
 intro v u r
 unfold ndOf
 split
 ·cases r
  exact ⟨none,0,0,rfl,⟨rfl,vac _,[],rfl,.inl rfl⟩,rfl⟩
 ·rename_i nl e' xs
  obtain ⟨a,n,k,hu,hr,hn⟩ := r
  exact ⟨a,n,k,hu,hr.mono h.keptA (fun x cs hh => Cells.mono h.keptA e' x cs hh),hn⟩
 ·split
  ·rename_i o e' xs ho
   obtain ⟨_,rfl,a',n',k',hnn⟩ := r
   obtain ⟨a,n,k,hh,hr⟩ := qo7 hs h ho
   rw [hnn] at hh
   cases hh
   exact ⟨some a',_,_,hnn,hr,rfl⟩
  ·exact trivial
 ·exact trivial
theorem qc7 {c c0 : Ctx} {objs : Objs} (hs : SOK c objs) {ids : List Nat} {Q : Nat -> Prop} {f : Nat -> Nat} (h : Ren f c c0 (· ∈ ids)) (hsb : ∀ b,c0.SB b -> c.SB b) (hni : ∀ o b,Q o -> (look .dead objs o).mut = true -> c.blk o = some b -> ¬ c0.SB b) (hN : ∀ o b,Q o -> (look .dead objs o).isNest = true -> c.has o b -> ¬ c0.SA b) :
  ∀ (ms : List Mode) (vs : List V) (us : List Value),RelL c vs us -> (∀ o ∈ V.idsL (asArgs objs ms vs),o ∈ ids) -> (∀ o ∈ readIds objs ms vs,Q o) -> RelL c0 (V.renL f (asArgs objs ms vs)) us
 | [],vs,us,r,hi,_ => RelL.ren h _ us hi (.inl fun b hb _ hh => hb (hsb b hh)) r.strip
 | m :: ms,[],us,r,_,_ => by cases m <;> exact r
 | .nn e :: ms,v :: vs,us,r,hi,hd => by
  obtain ⟨u,us',e',h1,h2⟩ := r
  exact ⟨u,us',e',qn8 hs h e v u h1,qc7 hs h hsb hni hN ms vs us' h2 (fun o ho => hi o (vaf _ ho)) (fun o ho => hd o (vaf _ ho))⟩
 | .kp :: ms,v :: vs,us,r,hi,hd => by
  obtain ⟨u,us',e,h1,h2⟩ := r
  exact ⟨u,us',e,Rel.ren h _ u (fun o ho => hi o (vag _ ho)) (.inl fun b hb _ hh => hb (hsb b hh)) h1.strip,qc7 hs h hsb hni hN ms vs us' h2 (fun o ho => hi o (vaf _ ho)) hd⟩
 | .rd :: ms,v :: vs,us,r,hi,hd => by
  obtain ⟨u,us',e,h1,h2⟩ := r
  exact ⟨u,us',e,qgb hs h hsb hni hN _ u h1.strip (fun o ho => hi o (vag _ ho)) (fun o ho => hd o (vag _ ho)),
   qc7 hs h hsb hni hN ms vs us' h2 (fun o ho => hi o (vaf _ ho)) (fun o ho => hd o (vaf _ ho))⟩
 | .st :: ms,v :: vs,us,r,hi,hd => by
  obtain ⟨u,us',e,h1,h2⟩ := r
  exact ⟨u,us',e,qgb hs h hsb hni hN _ u h1.strip (fun o ho => hi o (vag _ ho)) (fun o ho => hd o (vag _ ho)),
   qc7 hs h hsb hni hN ms vs us' h2 (fun o ho => hi o (vaf _ ho)) (fun o ho => hd o (vaf _ ho))⟩
mutual
theorem qdI (objs : Objs) : ∀ (v : V),Unfrozen objs (owned objs v)
 | .own o,o',h => by
  unfold owned at h
  split at h
  ·rename_i ho
   simp at h; subst h
   exact ho
  ·cases h
 | .sub o _ _ _,o',h => by
  unfold owned at h
  split at h
  ·rename_i e xs ho
   simp at h; subst h
   rw [ho]; rfl
  ·cases h
 | .agg cs,o',h => qds objs cs o' h
 | .tup cs,o',h => qds objs cs o' h
 | .undef,_,h => by cases h
 | .hid,_,h => by cases h
 | .ownn _,_,h => by cases h
 | .i _ _,_,h => by cases h
 | .b _,_,h => by cases h
 | .s _,_,h => by cases h
 | .nilsl,_,h => by cases h
 | .kon _,_,h => by cases h
 | .dat _ _ _,_,h => by cases h
 | .ptr _ _,_,h => by cases h
 | .pel _ _ _ _,_,h => by cases h
 | .optp _,_,h => by cases h
 | .err _,_,h => by cases h
 | .nd _ _ _,_,h => by cases h
 | .tp _,_,h => by cases h
 | .fn _ _,_,h => by cases h
theorem qds (objs : Objs) : ∀ (vs : List V),Unfrozen objs (ownedL objs vs)
 | [],_,h => by cases h
 | v :: vs,o,h => by
  rcases vae.1 h with h | h
  ·exact qdI objs v o h
  ·exact qds objs vs o h
end
theorem qcg (objs : Objs) : ∀ (ms : List Mode) (vs : List V),Unfrozen objs (toFreeze objs ms vs)
 | [],vs,o,h => by simp [toFreeze] at h
 | m :: ms,[],o,h => by cases m <;> simp [toFreeze] at h
 | .st :: ms,v :: vs,o,h => by
  rcases vae.1 h with h | h
  ·exact qdI objs _ o h
  ·exact qcg objs ms vs o h
 | .nn _ :: ms,v :: vs,o,h => by
  rcases vae.1 h with h | h
  ·exact qdI objs _ o h
  ·exact qcg objs ms vs o h
 | .rd :: ms,v :: vs,o,h => qcg objs ms vs o h
 | .kp :: ms,v :: vs,o,h => qcg objs ms vs o h
def afterCtx (c c0 : Ctx) (ids : List Nat) (n : Nat) (D L : Nat → Prop) : Ctx :=
  { w := c0.w,nx := c.nx + (n - ids.length),hdr := fun o => if o < c.nx then c.hdr o else c0.hdr (ids.length + (o - c.nx)),blk := fun o => if o < c.nx then c.blk o else c0.blk (ids.length + (o - c.nx)),
    sub := fun o b => if o ∈ ids then c0.sub (posOf ids o) b else if o < c.nx then c.sub o b else c0.sub (ids.length + (o - c.nx)) b,
    SB := fun b => (c.SB b ∧ ¬ D b) ∨ L b,SA := fun b => (c.SA b ∧ ¬ D b) ∨ L b }
theorem qml {wd : Bool} {c c0' : Ctx} {objs : Objs} (hs : SOK c objs) {ids : List Nat} (hn : ids.Nodup) (hl : ∀ i ∈ ids,i < c.nx) {res : V} {u : Value} {objs' : List AObj} (hp : FnPost (calleeCtx wd c objs ids) (smallObjs objs ids) c0' res u objs')
  (hlen : ids.length <= objs'.length) (hfr : wd = true \/ (V.firm res = true /\ ∀ x ∈ objs',x.firm = true)) :
  ∃ c',c'.w = c0'.w /\ Done c objs c' (res.ren (back ids c.nx)) u (zipCh ids c.nx 0 (objs'.map (AObj.ren (back ids c.nx)))) (c.nx + (objs'.length - ids.length)) := by
 let D : Nat -> Prop := fun b => ∃ o,o ∈ ids /\ (look .dead objs o).mut = true /\ c.has o b
 let L : Nat -> Prop := fun b => Lof c0' objs' b
 let c' := afterCtx c c0' ids objs'.length D L
 let ch := zipCh ids c.nx 0 (objs'.map (AObj.ren (back ids c.nx)))
 have hst0 := hp.step
 have hD0 : ∀ b,Lof (calleeCtx wd c objs ids) (smallObjs objs ids) b ↔ D b := qmh
 have hDlt : ∀ b,D b -> b < c.w.heap.size := fun b ⟨o,_,hm,hb⟩ => hs.bd b (hs.sub b (hs.mutSB hm hb))
 have hLSB : ∀ b,L b -> c0'.SB b := fun b h => by
  obtain ⟨j,hm,hb⟩ := qgf.1 h
  exact hp.ok.mutSB hm hb
 -- identities of handles
 have hback : ∀ j,j < c0'.nx -> back ids c.nx j < c'.nx /\ c'.hdr (back ids c.nx j) = c0'.hdr j /\ c'.blk (back ids c.nx j) = c0'.blk j := fun j hj => by
  rw [hp.nx] at hj
  by_cases hji : j < ids.length
  ·rw [qdC hji]
   have hlt := hl _ (qcN hji)
   refine ⟨vah hlt (vaX _ _),?_,?_⟩
   ·show (if nth 0 ids j < c.nx then c.hdr (nth 0 ids j) else _) = _
    rw [if_pos hlt,hst0.hdr j hji]; rfl
   ·show (if nth 0 ids j < c.nx then c.blk (nth 0 ids j) else _) = _
    rw [if_pos hlt,hst0.blk j hji]; rfl
  ·rw [qdL (by omega)]
   refine ⟨by show c.nx + (j - ids.length) < c.nx + (objs'.length - ids.length); omega,?_,?_⟩
   ·show (if c.nx + (j - ids.length) < c.nx then _ else c0'.hdr (ids.length + (c.nx + (j - ids.length) - c.nx))) = _
    rw [if_neg (by omega)]; congr 1; omega
   ·show (if c.nx + (j - ids.length) < c.nx then _ else c0'.blk (ids.length + (c.nx + (j - ids.length) - c.nx))) = _
    rw [if_neg (by omega)]; congr 1; omega
 have hbsub : ∀ j,∀ b,j < objs'.length -> (c'.sub (back ids c.nx j) b ↔ c0'.sub j b) := fun j b hj => by
  by_cases hji : j < ids.length
  ·rw [qdC hji]
   show (if nth 0 ids j ∈ ids then _ else _) ↔ _
   rw [if_pos (qcN hji),qck hn hji]
  ·rw [qdL (by omega)]
   show (if c.nx + (j - ids.length) ∈ ids then _ else if c.nx + (j - ids.length) < c.nx then _ else c0'.sub (ids.length + (c.nx + (j - ids.length) - c.nx)) b) ↔ _
   rw [if_neg (fun h => by have := hl _ h; omega),if_neg (by omega),show ids.length + (c.nx + (j - ids.length) - c.nx) = j by omega]
 have hren : Ren (back ids c.nx) c0' c' (fun _=>True) := ⟨rfl,fun j _ hj => hback j hj,fun b hb _ hh => by
  rcases hh with ⟨h1,h2⟩ | h
  ·have hlt := hs.bd b h1
   exact hb ((hst0.sa b hlt fun k => h2 ((hD0 b).1 k)).2 h1)
  ·exact hb (hp.ok.sub b (hLSB b h))⟩
 have hwide : wd = true -> ∀ b,¬ c0'.SB b -> b < c0'.w.heap.size -> ¬ c'.SB b := fun hw b hb _ hh => by
  rcases hh with ⟨h1,h2⟩ | h
  ·have hlt := hs.bd b (hs.sub b h1)
   refine hb ((hst0.sb b hlt fun k => h2 ((hD0 b).1 k)).2 ?_)
   rw [hw]; exact h1
  ·exact hb (hLSB b h)
 have hlook : ∀ j,j < objs'.length -> look .dead ch (back ids c.nx j) = (objs'.getD j .dead).ren (back ids c.nx) := fun j hj => by
  have := qip (k := 0) hn hl (ys := objs'.map (AObj.ren (back ids c.nx))) (j := j) (by simpa using hj)
  rw [vaD] at this
  rw [this]
  simp [vai,hj]
 have hmem : ∀ o,o ∈ ch.map (·.1) ↔ ∃ j,j < objs'.length /\ o = back ids c.nx j := fun o => by
  rw [qhy]; simp
 have hDch : ∀ b,Dof c objs ch b ↔ D b := fun b => by
  constructor
  ·rintro ⟨o,ho,hm,hb⟩
   obtain ⟨j,hj,rfl⟩ := (hmem o).1 ho
   by_cases hji : j < ids.length
   ·rw [qdC hji] at hm hb
    exact ⟨_,qcN hji,hm,hb⟩
   ·rw [qdL (by omega)] at hm
    have := hs.lt hm; omega
  ·rintro ⟨o,ho,hm,hb⟩
   obtain ⟨h1,h2⟩ := qdt ho
   exact ⟨o,(hmem o).2 ⟨posOf ids o,by omega,by rw [qdC h1,h2]⟩,hm,hb⟩
 have hfresh : ∀ b,L b -> c.w.heap.size <= b \/ D b := fun b h => (hp.fresh b h).imp id (hD0 b).1
 have hstep : Step c c' (Dof c objs ch) := by
  refine ⟨hst0.os,hst0.tape,hst0.output,hst0.size,vaX _ _,fun o ho => if_pos ho,fun o ho => if_pos ho,fun o ho hd b => ?_,fun b hb hd => hst0.heap b hb fun k => hd ((hDch b).2 ((hD0 b).1 k)),fun b hb hd => ?_,fun b hb hd => ?_,fun b hd => hd.sb hs⟩
  ·show (if o ∈ ids then c0'.sub (posOf ids o) b else if o < c.nx then c.sub o b else _) ↔ _
   by_cases hi : o ∈ ids
   ·obtain ⟨h1,h2⟩ := qdt hi
    rw [if_pos hi,hst0.under (posOf ids o) h1 (fun g hg => have k := hd g (by rw [qdZ h1,h2] at hg; exact hg); ⟨fun hk => k.1 ((hDch g).2 ((hD0 g).1 hk)),k.2⟩) b]
    show (posOf ids o < ids.length /\ c.sub (nth 0 ids (posOf ids o)) b) ↔ _
    rw [h2]; exact ⟨fun h => h.2,fun h => ⟨h1,h⟩⟩
   ·rw [if_neg hi,if_pos ho]
  ·constructor
   ·rintro (⟨h1,_⟩ | h)
    ·exact h1
    ·rcases hfresh b h with h | h
     ·omega
     ·exact absurd ((hDch b).2 h) hd
   ·exact fun h => .inl ⟨h,fun k => hd ((hDch b).2 k)⟩
  ·constructor
   ·rintro (⟨h1,_⟩ | h)
    ·exact h1
    ·rcases hfresh b h with h | h
     ·omega
     ·exact absurd ((hDch b).2 h) hd
   ·exact fun h => .inl ⟨h,fun k => hd ((hDch b).2 k)⟩
 have hmutL : ∀ j b,j < objs'.length -> (look .dead ch (back ids c.nx j)).mut = true -> c'.has (back ids c.nx j) b -> L b := fun j b hj hm hb => by
  rw [hlook j hj,qea] at hm
  obtain ⟨_,_,h3⟩ := hback j (by rw [hp.nx]; exact hj)
  unfold Ctx.has at hb
  rw [h3,hbsub j b hj] at hb
  exact qgf.2 ⟨j,by rw [qbo]; exact hm,hb⟩
 refine ⟨c',rfl,hstep,hs.step hstep (fun o ho => ?_) (fun o b ho hm hb => ?_) (fun o1 o2 b h1 h2 m1 m2 b1 b2 => ?_) (fun o h b hb => ?_) (fun b h => h.imp (fun h => ⟨hs.sub b h.1,h.2⟩) id) (fun b h => ?_) (fun o ho => ?_),?_,rfl,fun o b ho hm hb => ?_,fun o ho => ?_⟩
 ·obtain ⟨j,hj,rfl⟩ := (hmem o).1 ho
  rw [hlook j hj]
  have h0 := hp.ok.obj j
  rw [qbo] at h0
  refine ObjOK.ren hren trivial (fun _ _ => trivial) (hfr.imp hwide fun hfr => ?_) (fun hm b hb => .inr (qgf.2 ⟨j,by rw [qbo]; exact hm,hb⟩)) (fun hx b hb => hp.ok.blt (by rw [qbo]; exact hx) hb) (fun _ b => hbsub j b hj) h0
  rw [vai,va1 hj]
  exact hfr.2 _ (vbG hj)
 ·obtain ⟨j,hj,rfl⟩ := (hmem o).1 ho
  exact (hfresh b (hmutL j b hj hm hb)).imp id (hDch b).2
 ·obtain ⟨j1,hj1,rfl⟩ := (hmem o1).1 h1
  obtain ⟨j2,hj2,rfl⟩ := (hmem o2).1 h2
  rw [hlook j1 hj1,qea] at m1
  rw [hlook j2 hj2,qea] at m2
  unfold Ctx.has at b1 b2
  rw [(hback j1 (by rw [hp.nx]; exact hj1)).2.2,hbsub j1 b hj1] at b1
  rw [(hback j2 (by rw [hp.nx]; exact hj2)).2.2,hbsub j2 b hj2] at b2
  have := hp.ok.inj j1 j2 b (by rw [qbo]; exact m1) (by rw [qbo]; exact m2) b1 b2
  rw [this]
 ·change (if o ∈ ids then c0'.sub (posOf ids o) b else if o < c.nx then c.sub o b else c0'.sub (ids.length + (o - c.nx)) b) at hb
  rw [qaz] at h
  have hin : ∀ j,j < objs'.length -> o = back ids c.nx j -> c0'.sub j b -> False := fun j hj e hb => by
   rw [if_pos ((hmem o).2 ⟨j,hj,e⟩)] at h
   change (look .dead ch o).isNest = false at h
   rw [e,hlook j hj,qfZ] at h
   exact hp.ok.flat j (by rw [qbo]; exact h) b hb
  split at hb
  ·rename_i hi
   obtain ⟨h1,h2⟩ := qdt hi
   exact hin _ (by omega) (by rw [qdC h1,h2]) hb
  ·rename_i hi
   split at hb
   ·rename_i hlt
    rw [if_neg (fun hh => by
     obtain ⟨j,hj,e⟩ := (hmem o).1 hh
     by_cases hji : j < ids.length
     ·rw [qdC hji] at e; exact hi (e ▸ qcN hji)
     ·rw [qdL (by omega)] at e; omega)] at h
    exact hs.flat o h b hb
   ·by_cases hj : ids.length + (o - c.nx) < objs'.length
    ·exact hin _ hj (by rw [qdL (by omega)]; omega) hb
    ·exact hp.ok.flat _ (by rw [qbo,vai,vaU (by omega)]; rfl) b hb
 ·rcases h with ⟨h1,_⟩ | h
  ·exact vah (hs.bd b h1) hst0.size
  ·exact hp.ok.bd b (hp.ok.sub b (hLSB b h))
 ·show Value.oneCell' (if o < c.nx then c.hdr o else c0'.hdr (ids.length + (o - c.nx))) = true
  split
  ·exact hs.one o ‹_›
  ·refine hp.ok.one _ ?_
   rw [hp.nx]
   change o < c.nx + (objs'.length - ids.length) at ho
   omega
 ·exact Rel.ren hren res u (fun _ _ => trivial) (hfr.imp hwide (·.1)) hp.rel
 ·obtain ⟨j,hj,rfl⟩ := (hmem o).1 ho
  refine (hfresh b (hmutL j b hj ?_ hb)).imp id (hDch b).2
  rw [qaz,if_pos ho] at hm
  exact hm
 ·obtain ⟨j,hj,rfl⟩ := (hmem o).1 ho
  exact (hback j (by rw [hp.nx]; exact hj)).1
theorem qmk {c c0 c0' : Ctx} {objs : Objs} (hs : SOK c objs) (hw : c0.w = c.w) {res : V} {u : Value} (hp : FnPost c0 [] c0' res u []) (hsc : V.scal res = true) :
  ∃ c',c'.w = c0'.w /\ Done c objs c' res u [] c.nx := by
 have h0 := hp.step
 have hno : ∀ b,¬ Lof c0 [] b := fun b ⟨j,x,hx,_⟩ => by simp at hx
 have hst : Step c { c with w := c0'.w } (Dof c objs []) := by
  refine ⟨h0.os.trans (by rw [hw]),h0.tape.trans (by rw [hw]),h0.output.trans (by rw [hw]),by rw [<- hw]; exact h0.size,vac _,fun _ _ => rfl,fun _ _ => rfl,fun _ _ _ _ => Iff.rfl,fun b hb _ => ?_,fun _ _ _ => Iff.rfl,fun _ _ _ => Iff.rfl,fun b ⟨o,ho,_⟩ => (by cases ho)⟩
  rw [<- hw] at hb ⊢
  exact h0.heap b hb (hno b)
 refine ⟨{ c with w := c0'.w },rfl,hst,hs.step hst (fun o ho => (by cases ho)) (fun o b ho => (by cases ho)) (fun o1 o2 b h1 => (by cases h1)) (fun o h b hb => hs.flat o h b hb) hs.sub (fun b h => vah (hs.bd b h) hst.size) hs.one,qlf hsc hp.rel,rfl,fun o b ho => (by cases ho),fun o ho => (by cases ho)⟩
def flatCtx (c : Ctx) (objs : Objs) : Ctx :=
 { w := c.w,nx := 0,hdr := c.hdr,blk := c.blk,sub := fun _ _ => False,SB := fun _=>False,SA := fun b => c.SA b /\ ¬ ∃ o,(look .dead objs o).isNest = true /\ c.has o b }
theorem qph {c : Ctx} {objs : Objs} (hs : SOK c objs) : SOK (flatCtx c objs) (objsOf []) := by
 obtain ⟨w0,h0,hk⟩ := hs.low
 have hd : ∀ o,look .dead (objsOf []) o = .dead := fun o => by rw [qbo]; simp
 exact ⟨⟨w0,h0,fun b hb => ⟨fun h => (hk b hb).1 h.1,(hk b hb).2⟩⟩,fun o => (by rw [hd]; exact trivial),fun o1 o2 b h1 => (by rw [hd] at h1; cases h1),fun o _ b hb => hb,fun b hb => hb.elim,fun b hb => hs.bd b hb.1,fun o ho => absurd ho (vbj _)⟩
theorem qjH {g : FuncId} (hE : Enters P g) {o : Oper} {cl : Call} (ho : o.op = .call cl) {f : Operand} (hf : cl.callee = .value f) {a : Act} {caps : List Value} (hv : a.eval f = .func (.func g) #[] caps.toArray) (w : World) :
  (execOp a.eval o).run P w = .ok (.enter g (cl.args.toList.map a.eval ++ caps).toArray) w := by
 obtain ⟨fn,h1,h2,h3⟩ := hE
 have h2' : ¬ ((fn.name == "runtime.NumGoroutine") = true) := by rw [h2]; exact vba
 have h3' : ¬ (fn.body.isNone = true) := by rw [h3]; exact vba
 have hargs : (#[] ++ cl.args.map a.eval) ++ caps.toArray = (cl.args.toList.map a.eval ++ caps).toArray := by
  apply vaF.1; simp
 unfold execOp
 simp only [ho,resolve,hf,hv,Deferred.ofValue,Sem.run_bind,Sem.run_pure,Result.andThen_ok,invoke,callFunc,run_program,h1]
 rw [if_neg h2',if_neg h3',hargs]
 rfl
theorem qhV {Γ : FEnv} (hΓ : EnvOK P Γ) {g nx : Nat} {args : List V} {objs : Objs} {c : Ctx} (hs : SOK c objs) (hn : c.nx = nx) {vs : List Value} (hr : RelL c args vs) {md : List Nat} {K : V → Objs → Nat → Option R} {r : R}
    (h : callF Γ g args objs nx md K = some r) :
    Enters P g ∧ ∃ v ch nx',K v ch nx' = some r ∧ (∀ o ∈ ch.map (·.1),o < nx → o ∈ md) ∧
      Calls P g vs.toArray c.w fun e w' => ∃ u c',e = .returned u ∧ c'.w = w' ∧ (Strict → c.w.drawn ≤ c'.w.drawn) ∧ Done c objs c' v u ch nx' := by
  rw [qor] at h
  unfold callF0 at h
  split at h
  · cases h
  · rename_i sp hsp
    obtain ⟨hE,hrun⟩ := hΓ g sp hsp
    refine ⟨hE,?_⟩
    dsimp only at h
    generalize hfz : toFreeze objs sp.modes args = fzl at h
    have hunf : Unfrozen objs fzl := by rw [← hfz]; exact qcg objs _ _
    obtain ⟨hst1,hs1⟩ := qc0 hs hunf
    generalize hobj : freezes objs fzl ++ objs = objs1 at h
    rw [hobj] at hs1
    generalize hids : reach objs1 100 (V.idsL (asArgs objs1 sp.modes args)) [] = ids at h
    split at h
    · cases h
    · rename_i hc
      simp only [vab] at hc
      obtain ⟨⟨⟨⟨⟨⟨hc1,hc2⟩,hc3⟩,hc4⟩,hc5⟩,hc6⟩,hc7⟩ := hc
      have hnd := qeN.1 hc1
      have hal := qb8.1 hc2
      have hsm := qe7 hc3
      have hmd := qb8.1 hc4
      have hmf := qb8.1 hc5
      have hdj := qkg.1 hc6
      have hlt := qhZ.1 hc7
      subst hn
      have hlt1 : ∀ i ∈ ids,i < (fzCtx c fzl).nx := hlt
      split at h
      · rename_i hnn
        have hnest := qgC hnn
        obtain ⟨res,objs',h,hfn⟩ := hrun _ _ _ _ h
        generalize hwd : emptyB (readIds objs1 sp.modes args) = wd at h
        have hok := qnD (wd := wd) hs1 hnd hlt1 hsm
        have hrel : RelL (calleeCtx wd (fzCtx c fzl) objs1 ids) (V.renL (posOf ids) (asArgs objs1 sp.modes args)) vs := by
          cases wd with
          | true =>
            have he : readIds objs1 sp.modes args = [] := by
              cases hr : readIds objs1 sp.modes args with
              | nil => rfl
              | cons _ _ => rw [hr] at hwd; cases hwd
            exact qc7 (Q := fun _=>False) hs1 (qgc (c := fzCtx c fzl) (objs := objs1) (ids := ids)) (qfN hs1) (fun o b hq => hq.elim) (fun o b hq => hq.elim) sp.modes args vs (RelL.mono hst1 hs.sub _ _ hr) hal (by rw [he]; intro o ho; cases ho)
          | false =>
            exact qc7 (Q := fun o => o ∉ ids ∧ (look .dead objs1 o).isNest = false) hs1 (qgc (c := fzCtx c fzl) (objs := objs1) (ids := ids)) (qfN hs1) (fun o b ho hm hb hh => by
              obtain ⟨o',ho',hm',hb'⟩ := (show ∃ o,o ∈ ids ∧ (look .dead objs1 o).mut = true ∧ (fzCtx c fzl).has o b from by simpa [calleeCtx] using hh)
              have := hs1.inj o o' b hm hm' (.inl hb) hb'
              subst this; exact ho.1 ho') (fun o b ho hn => by rw [ho.2] at hn; cases hn) sp.modes args vs (RelL.mono hst1 hs.sub _ _ hr) hal fun o ho => ⟨hdj o ho,hnest o ho⟩
        have hcall := hfn (calleeCtx wd (fzCtx c fzl) objs1 ids) vs (qg6 objs1 ids).symm hok hrel
        split at h
        · cases h
        · rename_i hcc
          simp only [vab,Bool.or_eq_true,vbI] at hcc
          obtain ⟨hle,hfr⟩ := hcc
          refine ⟨_,_,_,h,fun o ho hol => ?_,hcall.mono fun e w' => ?_⟩
          · rw [vax,qa7] at ho
            rcases vae.1 ho with ho | ho
            · obtain ⟨j,hj,rfl⟩ := qhy.1 ho
              rw [vaD] at hol ⊢
              by_cases hji : j < ids.length
              · rw [qdC hji]; exact hmd _ (qcN hji)
              · rw [qdL (by omega)] at hol; omega
            · exact hmf o ho
          · rintro ⟨u,c0',he,hw,hp⟩
            obtain ⟨c',hw',hd⟩ := qml hs1 hnd hlt1 hp (vay hle) hfr
            subst hobj
            exact ⟨u,c',he,by rw [hw',hw],fun k => by rw [hw']; exact hp.drawn k,hd.after_freeze hs hunf⟩
      · unfold callN at h
        split at h
        · rw [qbF] at h
          obtain ⟨res,objs',h,hfn⟩ := hrun _ _ _ _ h
          split at h
          · rename_i _ hsc
            have hrel : RelL (flatCtx (fzCtx c fzl) objs1) (V.renL (posOf []) (asArgs objs1 sp.modes args)) vs :=
              qc7 (c := fzCtx c fzl) (c0 := flatCtx (fzCtx c fzl) objs1) (ids := []) (Q := fun _=>True) hs1 ⟨rfl,fun o ho => (by cases ho),fun b hb _ hh => hb hh.1⟩ (fun b hb => hb.elim) (fun o b _ _ _ hb => hb.elim) (fun o b _ hn hb hh => hh.2 ⟨o,hn,hb⟩) sp.modes args vs (RelL.mono hst1 hs.sub _ _ hr) hal fun _ _ => trivial
            have hcall := hfn (flatCtx (fzCtx c fzl) objs1) vs rfl (qph hs1) hrel
            refine ⟨_,_,_,h,fun o ho _ => by rw [qa7] at ho; exact hmf o ho,hcall.mono fun e w' => ?_⟩
            rintro ⟨u,c0',he,hw,hp⟩
            obtain ⟨c',hw',hd⟩ := qmk (c := fzCtx c fzl) (c0 := flatCtx (fzCtx c fzl) objs1) hs1 rfl hp hsc
            subst hobj
            refine ⟨u,c',he,by rw [hw',hw],fun k => by rw [hw']; exact hp.drawn k,?_⟩
            have := hd.after_freeze hs hunf
            rwa [vbh] at this
          · cases h
        · cases h
end Go.Vm

namespace Go.Vm
open Go
variable {P : Program} {tt : Tab}
theorem TabOK.str {t : Nat} (h : TabOK P tt) (hk : (tt.row t).k.isStr = true) : P.underlying t = some .string := by
 obtain ⟨d,i,z,hd,_,_,hkd,_⟩ := (h.row (t := t) (by cases hh : (tt.row t).k <;> simp_all [TK.isStr,TK.isOther])).out
 cases hh : (tt.row t).k <;> simp [hh,TK.isStr] at hk
 rw [hh] at hkd
 cases d <;> simp [kindB] at hkd
 exact hd
theorem TabOK.rune {t : Nat} (h : TabOK P tt) (hk : (tt.row t).k.isRune = true) : P.underlying t = some (.int .i32) := by
 have hk' : (tt.row t).k = .int .i32 := by
  revert hk
  cases (tt.row t).k <;> simp only [TK.isRune] <;> intro h <;> first | cases h; done | skip
  rename_i k
  cases k <;> simp at h ⊢
 obtain ⟨d,i,z,hd,_,_,hkd,_⟩ := (h.row (t := t) (by rw [hk']; rfl)).out
 rw [hk'] at hkd
 cases d <;> simp [kindB] at hkd
 rw [<- hkd] at hd; exact hd
theorem Done.newExt {c : Ctx} {objs : Objs} (hs : SOK c objs) {ob : Obj} {x : Ext} {hv : Value} {v : V} {u : Value} (hone : hv.oneCell' = true) (hx : ExtRel c.w c.SA x ob) (hm : x.isMap = true -> hv = .map (some c.w.heap.size))
  (hr : Rel (addCtx c (c.w.alloc ob) hv (some c.w.heap.size)) v u) : Done c objs (addCtx c (c.w.alloc ob) hv (some c.w.heap.size)) v u [(c.nx,.ext x)] (c.nx + 1) := by
 have hold : ∀ b,b < c.w.heap.size -> (c.w.alloc ob).heap[b]? = c.w.heap[b]? := fun b hb => Go.RowKit.Below.heap_alloc _ _ _ hb
 have hk : Kept c.w (c.w.alloc ob) c.SA (addCtx c (c.w.alloc ob) hv (some c.w.heap.size)).SA := ⟨by simp,fun b hS hlt => ⟨hold b hlt,fun h => by
  rcases h with h | h
  ·exact hS h
  ·cases h; omega⟩⟩
 refine Done.new hs rfl rfl rfl (by simp) hold (fun b h => by cases h; exact ⟨vac _,by simp⟩) hone ⟨vao _,c.w.heap.size,ob,by simp [addCtx],?_,hx.mono hk,.inr rfl,fun e => by simp [addCtx,hm e]⟩ hr
 show (c.w.heap.push _)[c.w.heap.size]? = _
 simp
theorem Done.updExt {c : Ctx} {objs : Objs} (hs : SOK c objs) {o : Nat} {x x' : Ext} {ob' : Obj} (ho : look .dead objs o = .ext x) {b : Nat} (hb : c.blk o = some b) (hm : x'.isMap = true -> x.isMap = true) {v : V} {u : Value}
  (hx : ExtRel c.w c.SA x' ob') (hr : ∀ c' : Ctx,c'.nx = c.nx -> c'.hdr = c.hdr -> c'.blk = c.blk -> Step c c' (Dof c objs [(o,.ext x')]) -> Rel c' v u) :
  ∃ c',c'.w = { c.w with heap := c.w.heap.setIfInBounds b ob' } /\ Done c objs c' v u [(o,.ext x')] c.nx := by
 have hobj := hs.obj o
 rw [ho] at hobj
 obtain ⟨h0,b',ob,hb',hh,hr0,hsb,hmp⟩ := hobj
 rw [hb] at hb'; cases hb'
 have hlt : b < c.w.heap.size := (vaZ.1 hh).1
 have hmut : (look .dead objs o).mut = true := by rw [ho]; rfl
 have hne : ∀ k,k ≠ b -> (c.w.heap.setIfInBounds b ob')[k]? = c.w.heap[k]? := fun k hk => vaT (Ne.symm hk)
 have hD : Dof c objs [(o,.ext x')] b := ⟨o,by simp,hmut,.inl hb⟩
 have hst : Step c { c with w := { c.w with heap := c.w.heap.setIfInBounds b ob' } } (Dof c objs [(o,.ext x')]) :=
  ⟨rfl,rfl,rfl,by simp,vac _,fun _ _ => rfl,fun _ _ => rfl,fun _ _ _ _ => Iff.rfl,fun k _ hk => hne k fun e => hk (e ▸ hD),fun _ _ _ => Iff.rfl,fun _ _ _ => Iff.rfl,fun k h => h.sb hs⟩
 have hk : Kept c.w { c.w with heap := c.w.heap.setIfInBounds b ob' } c.SA c.SA := ⟨by simp,fun k hS hlt => ⟨hne k fun e => hS (e ▸ hs.sub b hsb),hS⟩⟩
 refine ⟨{ c with w := { c.w with heap := c.w.heap.setIfInBounds b ob' } },rfl,Done.upd (w := { c.w with heap := c.w.heap.setIfInBounds b ob' }) hs hmut (by rw [ho]; rfl) hb rfl rfl rfl (by simp) hne ⟨h0,b,ob',hb,?_,hx.mono hk,hsb,fun e => hmp (hm e)⟩ (hr _ rfl rfl rfl hst)⟩
 show (c.w.heap.setIfInBounds b ob')[b]? = _
 rw [va5 hlt]
theorem qjR (hT : TabOK P tt) {t : Nat} {objs : Objs} {x : V} {K : V -> Objs -> Nat -> Option R} {r : R} {c : Ctx} (hs : SOK c objs) {u : Value} (hx : Rel c x u) (h : rangeV tt t c.nx x K = some r) :
  ∃ v ch nx' z c',K v ch nx' = some r /\ Done c objs c' v z ch nx' /\ (Instr.range t u).run P c.w = .ok z c'.w /\ ∀ o' ∈ ch.map (·.1),c.nx <= o' := by
 unfold rangeV at h
 split at h
 ·rename_i a hk
  simp only [Rel] at hx
  subst hx
  refine ⟨_,_,_,.pointer (some ⟨c.w.heap.size,0,none⟩),_,h,Done.newExt hs (hv := .slice none 0 0) (ob := .stringIter a 0) rfl rfl (by intro e; cases e) ⟨vao _,c.w.heap.size,by simp [addCtx],rfl⟩,run_range_string c.w t a (hT.str hk),fun o' ho' => by simp at ho'; omega⟩
 ·cases h
theorem qkG {objs : Objs} {it : V} {isS : Bool} {md : List Nat} {K : V -> Objs -> Nat -> Option R} {r : R} {c : Ctx} (hs : SOK c objs) {u : Value} (hx : Rel c it u) (ty : TypeId) (h : nextV objs c.nx it isS md K = some r) :
  ∃ v ch nx' z c',K v ch nx' = some r /\ Done c objs c' v z ch nx' /\ (Instr.next u isS ty).run P c.w = .ok z c'.w /\ ∀ o' ∈ ch.map (·.1),o' ∈ md := by
 unfold nextV at h
 split at h
 ·rename_i o off
  split at h
  ·rename_i s p ho
   split at h
   ·rename_i hm
    simp only [vab] at hm
    have h0 : off = 0 := vaa hm.1
    subst h0
    obtain ⟨_,b,hb,rfl⟩ := hx
    have hobj := hs.obj o
    rw [ho] at hobj
    obtain ⟨_,b',ob,hb',hh,hr0,hsb,_⟩ := hobj
    rw [hb] at hb'; cases hb'
    have hr0 : ob = .stringIter s p := hr0
    subst hr0
    rcases qdK h with ⟨hp,h⟩ | ⟨hp,h⟩
    ·have hp : p < s.size := of_decide_eq_true hp
     obtain ⟨c',hw,hd⟩ := Done.updExt hs ho hb (x' := .iter s (p + (Utf8.decode s p).2)) (ob' := .stringIter s (p + (Utf8.decode s p).2)) (by intro e; cases e) (v := .tup [.b true,.i .i64 p,.i .i32 (Utf8.decode s p).1])
      (u := .tuple #[.bool true,.int .i64 p,.int .i32 (Utf8.decode s p).1]) rfl (fun c' _ _ _ _ => ⟨[.bool true,.int .i64 p,.int .i32 (Utf8.decode s p).1],rfl,_,_,rfl,rfl,_,_,rfl,rfl,_,_,rfl,rfl,rfl⟩)
     refine ⟨_,_,_,_,c',h,hd,?_,fun o' ho' => by simp at ho'; rw [ho']; exact qaJ.1 hm.2⟩
     rw [hw]
     simp [Instr.next,getObj,setObj,Sem.run,hh,hp,goInt]
    ·have hp : ¬ p < s.size := of_decide_eq_false hp
     refine ⟨_,_,_,.tuple #[.bool false],c,h,Done.pure hs ⟨[.bool false],rfl,_,_,rfl,rfl,rfl⟩,?_,fun o' ho' => by cases ho'⟩
     simp [Instr.next,getObj,Sem.run,hh,hp]
   ·cases h
  ·cases h
 ·cases h
theorem qha {w : World} {S : Nat -> Prop} : ∀ {xs : List Int} {cs : List Value},CellsL (Cells w S (.int .i32)) xs cs -> cs = xs.map (Value.int .i32)
 | [],_,h => h
 | x :: r,_,⟨c1,c2,e,h1,h2⟩ => by
  have h1 : c1 = [.int .i32 x] := h1
  rw [e,h1,qha h2]; rfl
theorem qhW {w : World} {S : Nat -> Prop} : ∀ {xs : List Int} {cs : List Value},CellsL (Cells w S (.int .u8)) xs cs -> cs = xs.map (Value.int .u8)
 | [],_,h => h
 | x :: r,_,⟨c1,c2,e,h1,h2⟩ => by
  have h1 : c1 = [.int .u8 x] := h1
  rw [e,h1,qhW h2]; rfl
theorem TabOK.byte {t : Nat} (h : TabOK P tt) (hk : (tt.row t).k.isByte = true) : P.underlying t = some (.int .u8) := by
 have hk' : (tt.row t).k = .int .u8 := by
  revert hk
  cases (tt.row t).k <;> simp only [TK.isByte] <;> intro h <;> first | cases h; done | skip
  rename_i k
  cases k <;> simp at h ⊢
 obtain ⟨d,i,z,hd,_,_,hkd,_⟩ := (h.row (t := t) (by rw [hk']; rfl)).out
 rw [hk'] at hkd
 cases d <;> simp [kindB] at hkd
 subst hkd; exact hd
theorem qkY (hT : TabOK P tt) {src t : Nat} {objs : Objs} {x : V} {K : V -> Option R} {r : R} {c : Ctx} (hs : SOK c objs) {u : Value} (hx : Rel c x u) (h : convV tt objs src t x K = some r) :
  ∃ q z,K q = some r /\ Rel c q z /\ (convert src t u).run P c.w = .ok z c.w := by
 unfold convV at h
 split at h
 ·cases h
 rename_i hso
 obtain ⟨ds,_,_,hds,_⟩ := (hT.row hso).out
 split at h
 ·rename_i k k' n hk
  simp only [Rel] at hx
  obtain ⟨d',i',z',hd',_,_,hkd,_⟩ := (hT.row (t := t) (by rw [hk]; rfl)).out
  have hdi : d' = .int k := by
   rw [hk] at hkd
   cases d' <;> simp [kindB] at hkd
   rw [hkd]
  subst hdi
  refine ⟨_,.int k (k.wrap n),h,rfl,?_⟩
  rw [hx]
  simp [convert,run_underlying hds,run_underlying hd',Conv.intToInt]
 ·rename_i k' n hk
  simp only [Rel] at hx
  have hd' := hT.str (t := t) (by rw [hk]; rfl)
  refine ⟨_,.string (Utf8.encode n),h,rfl,?_⟩
  rw [hx]
  simp [convert,run_underlying hds,run_underlying hd',Conv.intToString]
 ·rename_i a hk
  simp only [Rel] at hx
  have hd' := hT.str (t := t) (by rw [hk]; rfl)
  refine ⟨_,.string a,h,rfl,?_⟩
  rw [hx]
  simp [convert,run_underlying hds,run_underlying hd']
 ·rename_i v hk _ _
  have hd' := hT.str (t := t) (by rw [hk]; rfl)
  split at h
  ·rename_i e hse
   split at h
   ·rename_i he
    obtain ⟨xs,bor,h,a,n,k,cells,hu,hn,hc,hor⟩ := qei hs hx h
    have hc := qha hc
    have hsl := hT.slk hse
    have her := hT.rune he
    refine ⟨_,.string (runesBytes xs),h,rfl,?_⟩
    subst hu hn
    cases a with
    | none =>
     rcases hor with hx | ⟨b,off,ha,_⟩
     ·subst hx
      exact run_convert_runes_nil c.w src t e _ _ hsl her hd'
     ·cases ha
    | some ad =>
     have hat : ∀ j,j < xs.length -> c.w.cell? (ad.add j) = some (.int .i32 (xs.getD j 0)) := fun j hj => by
      rcases hor with hx | ⟨b,off,ha,hat⟩
      ·subst hx; simp at hj
      ·cases ha
       rw [Addr.add_lit]
       refine hat j _ ?_
       rw [hc,va0,vai,va1 hj]; rfl
     have := run_convert_runes (P := P) c.w src t e ad xs.length k xs (vac _) hsl her hd' hat
     rwa [List.take_length] at this
   ·split at h
    ·rename_i _ he
     obtain ⟨xs,bor,h,a,n,k,cells,hu,hn,hc,hor⟩ := qei hs hx h
     have hc := qhW hc
     have hsl := hT.slk hse
     have heb := hT.byte he
     refine ⟨_,.string (strOfNums xs),h,rfl,?_⟩
     subst hu hn
     cases a with
     | none =>
      rcases hor with hx | ⟨b,off,ha,_⟩
      ·subst hx
       exact run_convert_bytes_nil c.w src e hsl heb _ _ t hd'
      ·cases ha
     | some ad =>
      rcases hor with hx | ⟨b,off,ha,hat⟩
      ·subst hx
       rw [show ([] : List (Ty.int .u8).den).length = 0 from rfl,run_convert_bytes_string c.w src t e _ _ _ hsl heb hd']
       simp [Conv.bytesToString,loadCells]
       rfl
      ·cases ha
       refine run_convert_bytes_arg c.w src e hsl heb b off _ k xs rfl (fun j hj => hat j _ ?_) t hd'
       rw [hc,va0,vai,va1 hj]; rfl
    ·cases h
  ·cases h
 ·cases h
end Go.Vm

namespace Go.Vm
open Go
variable {P : Program} {tt : Tab}
def intsL (q : IntKind) : (n : Nat) -> (ints q n).den -> List Int
 | 0,_ => []
 | 1,x => [x]
 | n + 2,x => x.1 :: intsL q (n + 1) x.2
theorem qfG (q : IntKind) : ∀ (n : Nat) (x : (ints q n).den),(intsL q n x).length = n
 | 0,_ => rfl
 | 1,_ => rfl
 | n + 2,x => by show (intsL q (n + 1) x.2).length + 1 = _; rw [qfG q (n + 1)]
theorem qdn {w : World} {S : Nat -> Prop} (q : IntKind) : ∀ (n : Nat) (x : (ints q n).den) (cs : List Value),Cells w S (ints q n) x cs -> cs = (intsL q n x).map (Value.int q)
 | 0,_,_,h => h
 | 1,_,_,h => h
 | n + 2,x,_,⟨c1,c2,e,h1,h2⟩ => by
  have h1 : c1 = [.int q x.1] := h1
  rw [e,h1,qdn q (n + 1) x.2 c2 h2]; rfl
theorem qkP (q : IntKind) : ∀ (n : Nat) (x y : (ints q n).den),keyEq (ints q n) x y = decide (intsL q n x = intsL q n y)
 | 0,_,_ => rfl
 | 1,(x : Int),(y : Int) => by
  show decide (x = y) = decide ([x] = [y])
  simp
 | n + 2,x,y => by
  show (match decide ((x.1 : Int) = y.1) with | true => keyEq (ints q (n + 1)) x.2 y.2 | false => false) = decide ((x.1 : Int) :: intsL q (n + 1) x.2 = (y.1 : Int) :: intsL q (n + 1) y.2)
  rw [qkP q (n + 1)]
  by_cases h : (x.1 : Int) = y.1
  ·rw [decide_eq_true h]; simp [h]
  ·rw [decide_eq_false h]; simp [h]
inductive KeyOK (P : Program) (kt : TypeId) : (ka : Bool) -> (k : Ty) -> Prop
 | int (q : IntKind) (h : P.underlying kt = some (.int q)) : KeyOK P kt false (.int q)
 | arr (q : IntKind) (n : Nat) (e : TypeId) (h : P.underlying kt = some (.array n e)) (he : P.underlying e = some (.int q)) (hc : P.cellsOf e = 1) : KeyOK P kt true (ints q n)
theorem qkN (hT : TabOK P tt) {kt : Nat} {ka : Bool} {k : Ty} (h : keyB tt kt ka k = true) : KeyOK P kt ka k := by
 unfold keyB at h
 split at h
 ·rename_i q hk
  simp only [vab,vat,decide_eq_true_eq] at h
  obtain ⟨d,i,z,hd,_,_,hkd,_⟩ := (hT.row (t := kt) (by rw [hk]; rfl)).out
  rw [hk] at hkd
  cases d <;> simp [kindB] at hkd
  rw [<- hkd] at hd
  rw [h.1,h.2]
  exact .int q hd
 ·rename_i n e hk
  split at h
  ·rename_i q hke
   simp only [vab,decide_eq_true_eq] at h
   obtain ⟨d,i,z,hd,_,_,hkd,_⟩ := (hT.row (t := kt) (by rw [hk]; rfl)).out
   rw [hk] at hkd
   cases d <;> simp [kindB] at hkd
   obtain ⟨d',i',z',hd',hi',_,hkd',hsz,_⟩ := (hT.row (t := e) (by rw [hke]; rfl)).out
   rw [hke] at hkd'
   cases d' <;> simp [kindB] at hkd'
   rw [<- hkd.1,<- hkd.2] at hd
   rw [<- hkd'] at hd'
   rw [h.1.1,h.1.2]
   refine .arr q n e hd hd' ?_
   have := vaa h.2
   simp [Program.cellsOf,hi',hsz,this]
  ·cases h
 ·cases h
theorem qhb {e : TypeId} {q : IntKind} (he : P.underlying e = some (.int q)) (w : World) {xs : Array Value} {i : Nat} {v : Value} (h : xs[i]? = some v) : (part e xs i).run P w = .ok v w := by
 simp [part,isAgg,run_underlying he,h]
theorem qig {e : TypeId} {q : IntKind} (he : P.underlying e = some (.int q)) (w : World) (d : Nat) (l l' : List Int) (hl : l.length = l'.length) : ∀ (m s : Nat),s + m = l.length ->
  (Op.eqItems (d + 1) e 1 (l.map (Value.int q)).toArray (l'.map (Value.int q)).toArray (vaN s m)).run P w = .ok (decide (l.drop s = l'.drop s)) w
 | 0,s,h => by
  rw [vbq (by omega),vbq (by omega)]
  simp [Op.eqItems,vaN]
 | m + 1,s,h => by
  have h1 : s < l.length := by omega
  have h2 : s < l'.length := by omega
  have ih := qig he w d l l' hl m (s + 1) (by omega)
  have p1 : (part e (l.map (Value.int q)).toArray (s * 1)).run P w = .ok (.int q l[s]) w := qhb he w (by simp [h1])
  have p2 : (part e (l'.map (Value.int q)).toArray (s * 1)).run P w = .ok (.int q l'[s]) w := qhb he w (by simp [h2])
  have p3 : (Op.equalIn (d + 1) e (.int q l[s]) (.int q l'[s])).run P w = .ok (l[s] == l'[s]) w := by
   simp [Op.equalIn,run_underlying he]
  rw [va4]
  simp only [Op.eqItems,Sem.run_bind,p1,p2,p3,Result.andThen_ok]
  rw [vbm h1,vbm h2]
  by_cases hh : l[s] = l'[s]
  ·simp only [hh,beq_self_eq_true,Bool.not_true,Bool.false_eq_true,if_false,vbt.injEq,true_and]; exact ih
  ·simp only [hh,beq_eq_false_iff_ne.2 hh,Bool.not_false,if_true,vbt.injEq,false_and,decide_false,Sem.run_pure]
theorem qiT {kt e : TypeId} {q : IntKind} {n : Nat} (hk : P.underlying kt = some (.array n e)) (he : P.underlying e = some (.int q)) (hc : P.cellsOf e = 1) (w : World) {l l' : List Int} (h1 : l.length = n) (h2 : l'.length = n) :
  (Op.equal kt (.agg (l.map (Value.int q)).toArray) (.agg (l'.map (Value.int q)).toArray)).run P w = .ok (decide (l = l')) w := by
 obtain ⟨i,hi⟩ := info_of_underlying he
 have := qig he w 9998 l l' (by omega) n 0 (by omega)
 rw [vbl,vbl] at this
 show (Op.equalIn (9999 + 1) kt _ _).run P w = _
 rw [run_equalIn_array w 9999 _ _ hk hi,hc,vbx]
 exact this
theorem qog {kt : TypeId} {ka : Bool} {k : Ty} (h : KeyOK P kt ka k) : (∃ d,P.underlying kt = some d /\ ∀ {w w' : World} {S S' : Nat -> Prop} {x y : k.den} {u u' : Value},ValRel w S ka k x u -> ValRel w' S' ka k y u' -> Instr.sameNow d u u' = some (keyEq k x y)) \/
  (∃ d,P.underlying kt = some d /\ ∀ {w w' : World} {S S' : Nat -> Prop} {x y : k.den} {u u' : Value},ValRel w S ka k x u -> ValRel w' S' ka k y u' -> Instr.sameNow d u u' = none /\ ∀ w0,(Op.equal kt u u').run P w0 = .ok (keyEq k x y) w0) := by
 cases h with
 | int q hd =>
  refine .inl ⟨_,hd,fun {w w' S S' x y u u'} h1 h2 => ?_⟩
  have h1 : [u] = [.int q x] := h1
  have h2 : [u'] = [.int q y] := h2
  cases h1; cases h2
  show (if q = q then some ((x : Int) == y) else none) = some (decide ((x : Int) = y))
  rw [if_pos rfl]; rfl
 | arr q n e hk he hc =>
  refine .inr ⟨_,hk,fun {w w' S S' x y u u'} h1 h2 => ?_⟩
  obtain ⟨cs,c1,rfl⟩ := h1
  obtain ⟨cs',c2,rfl⟩ := h2
  rw [qdn q n x cs c1,qdn q n y cs' c2]
  refine ⟨rfl,fun w0 => ?_⟩
  rw [qiT hk he hc w0 (qfG q n x) (qfG q n y),qkP]
theorem qfq {e : TypeId} {q : IntKind} (he : P.underlying e = some (.int q)) (w : World) (emp : Bool) (n : Nat) (v : Value) : (Instr.checkKey emp (n + 1) e v).run P w = .ok () w := by
 unfold Instr.checkKey
 simp only [Sem.run_bind,run_underlying he,Result.andThen_ok]
 cases v <;> rfl
theorem qfp {e : TypeId} {q : IntKind} (he : P.underlying e = some (.int q)) (hc : P.cellsOf e = 1) (w : World) (emp : Bool) (N : Nat) (cs : Array Value) : ∀ (m s : Nat),s + m <= cs.size ->
  (forIn (m := Sem) (vaN s m) PUnit.unit fun i (_ : PUnit) => do Instr.checkKey emp (N + 1) e (<- part e cs (i * (<- sizeOf e))); pure (ForInStep.yield PUnit.unit)).run P w = .ok PUnit.unit w
 | 0,s,h => by simp
 | m + 1,s,h => by
  have ih := qfp he hc w emp N cs m (s + 1) (by omega)
  obtain ⟨i,hi⟩ := info_of_underlying he
  have hs : s < cs.size := by omega
  have hp : (part e cs (s * 1)).run P w = .ok cs[s] w := qhb he w (by simp [hs])
  rw [va4]
  simp only [List.forIn_cons,Sem.run_bind,_root_.Go.run_sizeOf w hi,hc,Result.andThen_ok,hp,qfq he w emp N,Sem.run_pure]
  exact ih
theorem qd5 {kt : TypeId} {ka : Bool} {k : Ty} (h : KeyOK P kt ka k) {w' : World} {S : Nat -> Prop} {x : k.den} {u : Value} (hu : ValRel w' S ka k x u) (w : World) (emp : Bool) : (Instr.checkKey emp 10000 kt u).run P w = .ok () w := by
 cases h with
 | int q hd => exact qfq hd w emp 9999 u
 | arr q n e hk he hc =>
  obtain ⟨cs,c1,rfl⟩ := hu
  have hl : cs.length = n := by rw [qdn q n x cs c1,vbK,qfG]
  have := qfp he hc w emp 9998 cs.toArray n 0 (by simp [hl])
  show (Instr.checkKey emp (9999 + 1) kt _).run P w = _
  unfold Instr.checkKey
  simp only [Sem.run_bind,run_underlying hk,Result.andThen_ok]
  simp only [Std.Legacy.Range.forIn_eq_forIn_range',Std.Legacy.Range.size,vbw,Nat.add_one_sub_one,Nat.div_one]
  have this : (forIn (m := Sem) (vaN 0 n) PUnit.unit fun i (_ : PUnit) => do Instr.checkKey emp 9999 e (<- part e cs.toArray (i * (<- sizeOf e))); pure (ForInStep.yield PUnit.unit)).run P w = .ok PUnit.unit w := this
  rw [this]; rfl
def Found (w : World) (S : Nat -> Prop) (ka : Bool) (k : Ty) (ea : Bool) (e : Ty) (x : k.den) (xs : List (k.den × e.den)) (es : List MapEntry) (s : Nat) (res : Option (Nat × Value)) : Prop :=
 (res = none /\ mget xs x = none /\ (∀ y,mset xs x y = xs ++ [(x,y)]) /\ mdel xs x = xs) \/
 (∃ j m v y0,res = some (s + j,m.val) /\ es[j]? = some m /\ mget xs x = some v /\ ValRel w S ea e v m.val /\ ValRel w S ka k y0 m.key /\ keyEq k x y0 = true /\
  (∀ y m',ValRel w S ka k x m'.key -> ValRel w S ea e y m'.val -> EntsRel w S ka k ea e (mset xs x y) (es.set j m')) /\ EntsRel w S ka k ea e (mdel xs x) (es.eraseIdx j))
theorem qfJ {w : World} {S : Nat -> Prop} {ka : Bool} {k : Ty} {ea : Bool} {e : Ty} {x : k.den} {z : k.den × e.den} {xs : List (k.den × e.den)} {m : MapEntry} {es : List MapEntry} {s : Nat}
  (h1 : ValRel w S ka k z.1 m.key) (h2 : ValRel w S ea e z.2 m.val) (h3 : EntsRel w S ka k ea e xs es) (heq : keyEq k x z.1 = true) : Found w S ka k ea e x (z :: xs) (m :: es) s (some (s,m.val)) := by
 refine .inr ⟨0,m,z.2,z.1,rfl,rfl,?_,h2,h1,heq,fun y m' k1 k2 => ?_,?_⟩
 ·rw [mget,heq]
 ·rw [mset,heq]; exact ⟨m',es,rfl,k1,k2,h3⟩
 ·rw [mdel,heq]; exact h3
theorem qfI {w : World} {S : Nat -> Prop} {ka : Bool} {k : Ty} {ea : Bool} {e : Ty} {x : k.den} {z : k.den × e.den} {xs : List (k.den × e.den)} {m : MapEntry} {es : List MapEntry} {s : Nat} {res : Option (Nat × Value)}
  (h1 : ValRel w S ka k z.1 m.key) (h2 : ValRel w S ea e z.2 m.val) (hne : keyEq k x z.1 = false) (h : Found w S ka k ea e x xs es (s + 1) res) : Found w S ka k ea e x (z :: xs) (m :: es) s res := by
 rcases h with ⟨a1,a2,a3,a4⟩ | ⟨j,m0,v,y0,b1,b2,b3,b4,b5,b6,b7,b8⟩
 ·refine .inl ⟨a1,?_,fun y => ?_,?_⟩
  ·rw [mget,hne]; exact a2
  ·rw [mset,hne]; show z :: mset xs x y = _; rw [a3 y]; rfl
  ·rw [mdel,hne]; show z :: mdel xs x = _; rw [a4]
 ·refine .inr ⟨j + 1,m0,v,y0,by rw [b1,show s + (j + 1) = s + 1 + j by omega],by simpa using b2,?_,b4,b5,b6,fun y m' k1 k2 => ?_,?_⟩
  ·rw [mget,hne]; exact b3
  ·rw [mset,hne]; exact ⟨m,es.set j m',rfl,h1,h2,b7 y m' k1 k2⟩
  ·rw [mdel,hne]; exact ⟨m,es.eraseIdx j,rfl,h1,h2,b8⟩
theorem qlH {w w' : World} {S S' : Nat -> Prop} {ka : Bool} {k : Ty} {ea : Bool} {e : Ty} {d : TypeDesc} (ht : ∀ {w w' : World} {S S' : Nat -> Prop} {x y : k.den} {u u' : Value},ValRel w S ka k x u -> ValRel w' S' ka k y u' -> Instr.sameNow d u u' = some (keyEq k x y))
  {x : k.den} {u : Value} (hu : ValRel w' S' ka k x u) : ∀ (xs : List (k.den × e.den)) (es : List MapEntry) (s : Nat),EntsRel w S ka k ea e xs es -> ∃ res,Instr.findNow d u es s = some res /\ Found w S ka k ea e x xs es s res
 | [],es,s,h => by
  have h : es = [] := h
  subst h
  exact ⟨none,rfl,.inl ⟨rfl,rfl,fun _=>rfl,rfl⟩⟩
 | z :: xs,_,s,⟨m,es,e1,h1,h2,h3⟩ => by
  subst e1
  have hk := ht hu h1
  cases hc : keyEq k x z.1 with
  | true => exact ⟨_,by rw [Instr.findNow,hk,hc],qfJ h1 h2 h3 hc⟩
  | false =>
   obtain ⟨res,r1,r2⟩ := qlH ht hu xs es (s + 1) h3
   exact ⟨res,by rw [Instr.findNow,hk,hc]; exact r1,qfI h1 h2 hc r2⟩
theorem qlI {w w' : World} {S S' : Nat -> Prop} {kt : TypeId} {ka : Bool} {k : Ty} {ea : Bool} {e : Ty} (ht : ∀ {w w' : World} {S S' : Nat -> Prop} {x y : k.den} {u u' : Value},ValRel w S ka k x u -> ValRel w' S' ka k y u' -> ∀ w0,(Op.equal kt u u').run P w0 = .ok (keyEq k x y) w0)
  {x : k.den} {u : Value} (hu : ValRel w' S' ka k x u) (w0 : World) : ∀ (xs : List (k.den × e.den)) (es : List MapEntry) (s : Nat),EntsRel w S ka k ea e xs es -> ∃ res,(Instr.findAsking kt u es s).run P w0 = .ok res w0 /\ Found w S ka k ea e x xs es s res
 | [],es,s,h => by
  have h : es = [] := h
  subst h
  exact ⟨none,rfl,.inl ⟨rfl,rfl,fun _=>rfl,rfl⟩⟩
 | z :: xs,_,s,⟨m,es,e1,h1,h2,h3⟩ => by
  subst e1
  have hk := ht hu h1 w0
  cases hc : keyEq k x z.1 with
  | true =>
   rw [hc] at hk
   exact ⟨_,by simp only [Instr.findAsking,Sem.run_bind,hk,Result.andThen_ok]; rfl,qfJ h1 h2 h3 hc⟩
  | false =>
   rw [hc] at hk
   obtain ⟨res,r1,r2⟩ := qlI ht hu w0 xs es (s + 1) h3
   exact ⟨res,by simp only [Instr.findAsking,Sem.run_bind,hk,Result.andThen_ok]; exact r1,qfI h1 h2 hc r2⟩
theorem qhc {kt : TypeId} {ka : Bool} {k : Ty} (h : KeyOK P kt ka k) {w w' : World} {S S' : Nat -> Prop} {ea : Bool} {e : Ty} {x : k.den} {u : Value} (hu : ValRel w' S' ka k x u) (w0 : World) {xs : List (k.den × e.den)} {es : List MapEntry} (he : EntsRel w S ka k ea e xs es) :
  ∃ res,(Instr.findKey kt u es).run P w0 = .ok res w0 /\ Found w S ka k ea e x xs es 0 res := by
 rcases qog h with ⟨d,hd,ht⟩ | ⟨d,hd,ht⟩
 ·obtain ⟨res,r1,r2⟩ := qlH ht hu xs es 0 he
  exact ⟨res,by simp [Instr.findKey,run_underlying hd,r1],r2⟩
 ·obtain ⟨res,r1,r2⟩ := qlI (P := P) (kt := kt) (fun a b => (ht a b).2) hu w0 xs es 0 he
  refine ⟨res,?_,r2⟩
  have hn : Instr.findNow d u es 0 = none \/ es = [] := by
   cases xs with
   | nil => exact .inr he
   | cons z xs =>
    obtain ⟨m,es',e1,h1,_,_⟩ := he
    subst e1
    left
    rw [Instr.findNow,(ht hu h1).1]
  rcases hn with hn | hn
  ·simp [Instr.findKey,run_underlying hd,hn,r1]
  ·subst hn
   have : res = none := by
    have r1 : Result.ok (none : Option (Nat × Value)) w0 = .ok res w0 := r1
    cases r1; rfl
   subst this
   simp [Instr.findKey,run_underlying hd,Instr.findNow]
theorem qjz {c : Ctx} {w : World} {S : Nat -> Prop} {v : V} {u : Value} {ag : Bool} {e : Ty} {y : e.den} (hv : Rel c v u) (hag : isAggV v = ag) (hall : (vcells v).all V.isC = true) {objs : Objs} (hs : SOK c objs) (hc : Cells w S e y u.cells.toList) : ValRel w S ag e y u := by
 cases ag with
 | true =>
  cases v <;> simp only [isAggV] at hag <;> first | (cases hag; done) | skip
  obtain ⟨us,rfl,_⟩ := hv
  exact ⟨us,by simpa [Value.cells] using hc,rfl⟩
 | false =>
  have hn : v.isC = true := by
   cases v <;> simp [isAggV] at hag <;> simpa [vcells] using hall
  have := qgz (qkx hs hv hn)
  rw [this] at hc
  exact hc
theorem qfY {c : Ctx} {objs : Objs} (hs : SOK c objs) {ka : Bool} {k : Ty} {v : V} {u : Value} (hv : Rel c v u) {K : k.den -> Option R} {r : R} (h : keyV objs ka k v K = some r) : ∃ x,K x = some r /\ ValRel c.w (fzCtx c []).SA ka k x u := by
 unfold keyV at h
 split at h
 ·rename_i hc
  simp only [vab,beq_iff_eq] at hc
  have hvc := qb9 hs hv hc.2
  obtain ⟨x,rest,f,u1,u2,h,e1,hr1,hf1,hc1⟩ := qbw hs k _ _ hvc h
  split at h
  ·have hx := hc1 [] fun o ho => ho
   rw [show u2 = [] from hr1,vaS] at e1
   rw [<- e1] at hx
   exact ⟨x,h,qjz hv hc.1 hc.2 hs hx⟩
  ·cases h
 ·cases h
theorem qoV (hT : TabOK P tt) {t : Nat} {ag : Bool} {e : Ty} (h : valB tt t ag e = true) : ∃ d i z,P.underlying t = some d /\ P.info? t = some i /\ i.zero = some z /\ (∀ w S,ValRel w S ag e e.dflt z) := by
 unfold valB at h
 simp only [vab,vat,beq_iff_eq] at h
 obtain ⟨⟨ho,hag⟩,h⟩ := h
 have hR := hT.row ho
 obtain ⟨d,i,z,hd,hi,hz,hkd,_,_,hzs,_,_,hty⟩ := hR.out
 refine ⟨d,i,z,hd,hi,hz,fun w S => ?_⟩
 have hza := hR.ag i z hi hz
 have hcells : z.cells.toList = zcells e := by
  cases hc : (tt.row t).ty with
  | some e' =>
   rw [hc] at h
   have h : e' = e := of_decide_eq_true h
   rw [hc] at hty
   rw [<- h]; exact (hty e' rfl).2.2.1
  | none =>
   rw [hc] at h
   simp only [vab,decide_eq_true_eq] at h
   have hz0 := vaa h.1.2
   rw [h.2]
   apply van
   rw [vbz,hzs,hz0]
 have hc := qcS w S e
 rw [<- hcells] at hc
 unfold Tab.isAgg at hag
 rw [hag] at hza
 cases ag with
 | true =>
  cases z with
  | agg cs => exact ⟨cs.toList,hc,by simp⟩
  | _ => simp [aggVal] at hza
 | false =>
  have : z.cells = #[z] := by cases z <;> simp [aggVal] at hza <;> rfl
  rw [this] at hc; exact hc
theorem qeb {c : Ctx} {ag : Bool} {e : Ty} {y : e.den} {u : Value} (hu : ValRel c.w c.SA ag e y u) {K : V -> Option R} {r : R} (h : mkVal ag (cellsOf e y false) K = some r) : ∃ v,K v = some r /\ Rel c v u := by
 unfold mkVal at h
 cases ag with
 | true =>
  obtain ⟨cs,h1,rfl⟩ := hu
  exact ⟨_,h,cs,rfl,qbW false e y cs h1⟩
 | false =>
  have hl := qbW (c := c) false e y [u] hu
  dsimp only at h
  split at h
  ·rename_i v hc
   rw [hc] at hl
   obtain ⟨u',us',e',h1,_⟩ := hl
   cases e'
   exact ⟨v,h,h1⟩
  ·cases h
theorem TabOK.map (hT : TabOK P tt) {t kt et : Nat} (h : (tt.row t).k = .map kt et) : P.underlying t = some (.map kt et) := by
 obtain ⟨d,i,z,hd,_,_,hkd,_⟩ := (hT.row (t := t) (by rw [h]; rfl)).out
 rw [h] at hkd
 cases d <;> simp [kindB] at hkd
 rw [hd,hkd.1,hkd.2]
theorem SOK.map_at {c : Ctx} {objs : Objs} (hs : SOK c objs) {o : Nat} {ka : Bool} {k : Ty} {ea : Bool} {e : Ty} {xs : List (k.den × e.den)} (ho : look .dead objs o = .ext (.map ka k ea e xs)) :
  ∃ b es clock,o < c.nx /\ c.blk o = some b /\ c.w.heap[b]? = some (.map (vbc es) clock) /\ EntsRel c.w c.SA ka k ea e xs es /\ c.SB b /\ c.hdr o = .map (some b) /\ BornOK es clock := by
 have := hs.obj o
 rw [ho] at this
 obtain ⟨h0,b,ob,hb,hh,hr,hsb,hm⟩ := this
 obtain ⟨es,clock,rfl,hr,hbo⟩ := hr
 exact ⟨b,es,clock,h0,hb,hh,hr,hsb,hm rfl,hbo⟩
theorem BornOK.push {es : List MapEntry} {clock : Nat} (h : BornOK es clock) (k v : Value) : BornOK (es ++ [{ key := k,val := v,born := clock }]) (clock + 1) := by
 refine ⟨?_,fun x hx => ?_⟩
 ·rw [vax,vam]
  refine ⟨h.1,by simp,fun a ha b hb => ?_⟩
  obtain ⟨x,hx,rfl⟩ := vbd.1 ha
  have := h.2 x hx
  simp at hb; omega
 ·rcases vae.1 hx with hx | hx
  ·have := h.2 x hx; omega
  ·simp at hx; subst hx; exact vao _
theorem BornOK.put {es : List MapEntry} {clock j : Nat} {m m' : MapEntry} (h : BornOK es clock) (hj : es[j]? = some m) (hb : m'.born = m.born) : BornOK (es.set j m') clock := by
 obtain ⟨hlt,he⟩ := vav.1 hj
 refine ⟨?_,fun x hx => ?_⟩
 ·rw [List.map_set,hb,show m.born = (es.map (·.born))[j]'(by simpa using hlt) by simp [he],List.set_getElem_self]; exact h.1
 ·rcases List.mem_or_eq_of_mem_set hx with hx | hx
  ·exact h.2 x hx
  ·rw [hx,hb]; exact h.2 m (he ▸ vbG hlt)
theorem BornOK.erase {es : List MapEntry} {clock j : Nat} (h : BornOK es clock) : BornOK (es.eraseIdx j) clock :=
 ⟨List.Sublist.nodup (List.Sublist.map _ (List.eraseIdx_sublist ..)) h.1,fun x hx => h.2 x (List.mem_of_mem_eraseIdx hx)⟩
theorem qci {w : World} {b : Nat} {es : Array MapEntry} {clock : Nat} (h : w.heap[b]? = some (.map es clock)) : (getObj b).run P w = .ok (.map es clock) w := by
 simp [getObj,Sem.run,h]
theorem qcX {w : World} {b : Nat} {es : Array MapEntry} {clock : Nat} (ob : Obj) (h : w.heap[b]? = some (.map es clock)) : (setObj b ob).run P w = .ok () { w with heap := w.heap.setIfInBounds b ob } := by
 simp [setObj,Sem.run,h]
theorem qh8 (hT : TabOK P tt) {t : Nat} {objs : Objs} {hint : Option Operand} {K : V -> Objs -> Nat -> Option R} {r : R} {c : Ctx} (hs : SOK c objs) (h : makeMapV tt t c.nx hint K = some r) :
  ∃ v ch nx' z c',K v ch nx' = some r /\ hint = none /\ Done c objs c' v z ch nx' /\ (Instr.makeMap t none).run P c.w = .ok z c'.w /\ ∀ o' ∈ ch.map (·.1),c.nx <= o' := by
 unfold makeMapV at h
 split at h
 ·refine ⟨_,_,_,.map (some c.w.heap.size),_,h,rfl,Done.newExt hs (hv := .map (some c.w.heap.size)) (ob := .map #[] 0) rfl ⟨[],0,rfl,rfl,.nil,fun _ h => (by cases h)⟩ (fun _=>rfl) ⟨vao _,by simp [addCtx]⟩,rfl,fun o' ho' => by simp at ho'; omega⟩
 ·cases h
theorem qi6 (hT : TabOK P tt) {t : Nat} {objs : Objs} {m i : V} {ok : Bool} {K : V -> Option R} {r : R} {c : Ctx} (hs : SOK c objs) {um ui : Value} (hm : Rel c m um) (hi : Rel c i ui) (h : lookupV tt objs t m i ok K = some r) :
  ∃ q z,K q = some r /\ Rel c q z /\ (Instr.lookup t um ui ok).run P c.w = .ok z c.w := by
 unfold lookupV at h
 split at h
 ·rename_i kt et o hk
  split at h
  ·rename_i ka k ea e xs ho
   split at h
   ·rename_i hb
    simp only [vab] at hb
    obtain ⟨b,es,clock,h0,hbk,hh,hr,hsb,hhd,hbo⟩ := hs.map_at ho
    obtain ⟨_,hu⟩ := hm
    rw [hhd] at hu
    subst hu
    have hK := qkN hT hb.1
    obtain ⟨d,inf,z0,hd,hinf,hz0,hzr⟩ := qoV hT hb.2
    obtain ⟨x,h,hx⟩ := qfY hs hi h
    obtain ⟨res,hf,hF⟩ := qhc hK hx c.w hr
    have hck := qd5 hK hx c.w es.isEmpty
    have hzv : (zeroValue et).run P c.w = .ok z0 c.w := by simp [zeroValue,typeInfo,hinf,hz0]
    have hlk : ∀ (v : Value) (f : Bool),(match res with | some (_,v) => v | none => z0) = v -> res.isSome = f -> (Instr.lookup t (.map (some b)) ui ok).run P c.w = .ok (if ok = true then .tuple #[v,.bool f] else v) c.w := fun v f hv hff => by
     unfold Instr.lookup
     simp only [Sem.run_bind,run_underlying (hT.map hk),Result.andThen_ok,qci hh,va6,hck,vaB,hf]
     cases res with
     | none =>
      have hv : z0 = v := hv
      have hff : false = f := hff
      subst hv hff
      simp [hck,hf,hzv]
     | some p =>
      obtain ⟨j,v'⟩ := p
      have hv : v' = v := hv
      have hff : true = f := hff
      subst hv hff
      simp [hck,hf]
    rcases hF with ⟨e1,e2,_,_⟩ | ⟨j,m',v,y0,e1,e2,e3,e4,_⟩
    ·subst e1
     rw [e2] at h
     obtain ⟨q,h,hq⟩ := qeb (hzr c.w c.SA) h
     cases ok with
     | true => exact ⟨_,_,h,⟨[z0,.bool false],rfl,_,_,rfl,hq,_,_,rfl,rfl,rfl⟩,hlk z0 false rfl rfl⟩
     | false => exact ⟨_,_,h,hq,hlk z0 false rfl rfl⟩
    ·subst e1
     rw [e3] at h
     obtain ⟨q,h,hq⟩ := qeb (y := v) e4 h
     cases ok with
     | true => exact ⟨_,_,h,⟨[m'.val,.bool true],rfl,_,_,rfl,hq,_,_,rfl,rfl,rfl⟩,hlk m'.val true rfl rfl⟩
     | false => exact ⟨_,_,h,hq,hlk m'.val true rfl rfl⟩
   ·cases h
  ·cases h
 ·cases h
theorem qiR (n : Nat) (q : IntKind) (l : List Int) : ((l.map (Value.int q)).zip (l.map (Value.int q))).all (fun (x,y) => Instr.sameBits n x y) = true := by
 rw [vbI]
 rintro ⟨x,y⟩ h
 have := List.of_mem_zip h
 have hxy : x = y /\ ∃ i,x = .int q i := by
  obtain ⟨i,hi,e⟩ := List.getElem_of_mem h
  rw [List.getElem_zip] at e
  cases e
  simp
 obtain ⟨rfl,i,rfl⟩ := hxy
 cases n <;> simp [Instr.sameBits]
theorem qjG {kt : TypeId} {ka : Bool} {k : Ty} (h : KeyOK P kt ka k) {w w' : World} {S S' : Nat -> Prop} {x y : k.den} {u u' : Value} (hu : ValRel w S ka k x u) (hu' : ValRel w' S' ka k y u') (he : keyEq k x y = true) (w0 : World) :
  (Instr.keyThatStays u' u).run P w0 = .ok u w0 := by
 have hb : Instr.sameBits 10000 u' u = true := by
  cases h with
  | int q hd =>
   have hu : [u] = [.int q x] := hu
   have hu' : [u'] = [.int q y] := hu'
   cases hu; cases hu'
   have he : (x : Int) = y := of_decide_eq_true he
   rw [he]; simp [Instr.sameBits]
  | arr q n e hk hel hc =>
   obtain ⟨cs,c1,rfl⟩ := hu
   obtain ⟨cs',c2,rfl⟩ := hu'
   rw [qkP] at he
   have he := of_decide_eq_true he
   rw [qdn q n x cs c1,qdn q n y cs' c2,he]
   simp only [Instr.sameBits,beq_self_eq_true,Bool.true_and,vaB]
   exact qiR 9999 q _
 simp [Instr.keyThatStays,hb]
theorem qhO {w : World} {S : Nat -> Prop} {ka : Bool} {k : Ty} {ea : Bool} {e : Ty} {y : k.den × e.den} {m : MapEntry} (h1 : ValRel w S ka k y.1 m.key) (h2 : ValRel w S ea e y.2 m.val) : ∀ {xs : List (k.den × e.den)} {es : List MapEntry},EntsRel w S ka k ea e xs es -> EntsRel w S ka k ea e (xs ++ [y]) (es ++ [m])
 | [],es,h => by
  have h : es = [] := h
  subst h; exact ⟨m,[],rfl,h1,h2,rfl⟩
 | z :: xs,_,⟨m',es,e1,k1,k2,k3⟩ => by subst e1; exact ⟨m',es ++ [m],rfl,k1,k2,qhO h1 h2 k3⟩
theorem qjh {w : World} {S : Nat -> Prop} {ka : Bool} {k : Ty} {ea : Bool} {e : Ty} : ∀ {xs : List (k.den × e.den)} {es : List MapEntry},EntsRel w S ka k ea e xs es -> es.length = xs.length
 | [],es,h => by
  have h : es = [] := h
  subst h; rfl
 | z :: xs,_,⟨m',es,e1,k1,k2,k3⟩ => by subst e1; simp [qjh k3]
theorem qoL (c : Ctx) : (fzCtx c []).SA = c.SA := by
 funext b
 simp [fzCtx]
theorem qgF (hT : TabOK P tt) {t : Nat} {objs : Objs} {m i v : V} {md : List Nat} {K : Objs -> Option R} {r : R} {c : Ctx} (hs : SOK c objs) {um ui uv : Value} (hm : Rel c m um) (hi : Rel c i ui) (hv : Rel c v uv) (h : mapUpdateV tt objs t m i v md K = some r) :
  ∃ ch c',K ch = some r /\ Done c objs c' .undef Go.undef ch c.nx /\ (Instr.mapUpdate t um ui uv).run P c.w = .ok () c'.w /\ ∀ o ∈ ch.map (·.1),o ∈ md := by
 unfold mapUpdateV at h
 split at h
 ·rename_i kt et o hk
  split at h
  ·rename_i ka k ea e xs ho
   split at h
   ·rename_i hb
    simp only [vab,beq_iff_eq] at hb
    obtain ⟨⟨⟨hb1,hb2⟩,hb3⟩,hb4⟩ := hb
    obtain ⟨_,hu⟩ := hm
    have hK := qkN hT hb1
    obtain ⟨x,h,hx⟩ := qfY hs hi h
    rw [qoL] at hx
    have hvc := qb9 hs hv hb4
    obtain ⟨y,rest,f,u1,u2,h,e1,hr1,hf1,hc1⟩ := qbw hs e _ _ hvc h
    split at h
    ·split at h
     ·rename_i hcc
      simp only [vab,vat] at hcc
      obtain ⟨⟨hm1,hm2⟩,hm3⟩ := hcc
      have hof : o ∉ f := fun hh => by rw [qaJ.2 hh] at hm3; cases hm3
      rw [show u2 = [] from hr1,vaS] at e1
      obtain ⟨hst1,hs1⟩ := qc0 hs hf1
      have ho1 : look .dead (freezes objs f ++ objs) o = .ext (.map ka k ea e xs) := by rw [qnl hof,ho]
      obtain ⟨b,es,clock,h0,hbk,hh,hr,hsb,hhd,hbo⟩ := hs1.map_at ho1
      have hhd : c.hdr o = .map (some b) := hhd
      have hh : c.w.heap[b]? = some (.map (vbc es) clock) := hh
      rw [hhd] at hu
      subst hu
      have hv1 : Rel (fzCtx c f) v uv := Rel.mono hst1 hs.sub v uv hv
      have hx1 : ValRel (fzCtx c f).w (fzCtx c f).SA ka k x ui := hx.mono (hst1.kept hs.sub false)
      have hy := hc1 f fun _ h => h
      rw [<- e1] at hy
      have hy1 : ValRel (fzCtx c f).w (fzCtx c f).SA ea e y uv := qjz hv hb3 hb4 hs hy
      obtain ⟨res,hf,hF⟩ := qhc hK hx1 c.w hr
      have hck := qd5 hK hx c.w false
      have fin : ∀ (es' : List MapEntry) (clock' : Nat),EntsRel (fzCtx c f).w (fzCtx c f).SA ka k ea e (mset xs x y) es' -> BornOK es' clock' -> ∃ c',c'.w = { c.w with heap := c.w.heap.setIfInBounds b (.map es'.toArray clock') } /\ Done c objs c' .undef Go.undef ((o,.ext (.map ka k ea e (mset xs x y))) :: freezes objs f) c.nx := fun es' clock' hE hB => by
       obtain ⟨c',hw,hd⟩ := Done.updExt hs1 ho1 hbk (x' := .map ka k ea e (mset xs x y)) (ob' := .map es'.toArray clock') (fun _=>rfl) (v := .undef) (u := Go.undef) ⟨es',clock',rfl,hE,hB⟩ (fun _ _ _ _ _ => trivial)
       exact ⟨c',hw,Done.after_freeze hs hf1 hd⟩
      have hmd : ∀ o' ∈ (((o,AObj.ext (.map ka k ea e (mset xs x y))) :: freezes objs f) : Objs).map (·.1),o' ∈ md := fun o' ho' => by
       rw [vaY,qa7] at ho'
       rcases vap.1 ho' with rfl | ho'
       ·exact qaJ.1 hm1
       ·exact qb8.1 hm2 o' ho'
      rcases hF with ⟨r1,r2,r3,_⟩ | ⟨j,m',v',y0,r1,r2,r3,r4,r5,r6,r7,_⟩
      ·subst r1
       have hE := qhO (y := (x,y)) (m := { key := ui,val := uv,born := clock }) hx1 hy1 hr
       rw [<- r3 y] at hE
       obtain ⟨c',hw,hd⟩ := fin _ (clock + 1) hE (hbo.push _ _)
       refine ⟨_,c',h,hd,?_,hmd⟩
       rw [hw]
       unfold Instr.mapUpdate
       simp only [Sem.run_bind,run_underlying (hT.map hk),Result.andThen_ok,qci hh,hck,vaB,hf,qcX _ hh]
       simp
      ·subst r1
       have hE := r7 y { m' with key := ui,val := uv } hx1 hy1
       obtain ⟨c',hw,hd⟩ := fin _ clock hE (hbo.put r2 rfl)
       refine ⟨_,c',h,hd,?_,hmd⟩
       have hks := qjG hK hx1 r5 r6 c.w
       have hge : ((vbc es)[0 + j]?.map (·.key)).getD ui = m'.key := by
        rw [vaD,vbr,r2]; rfl
       have hmod : ((vbc es).modify (0 + j) fun e => { e with key := ui,val := uv }) = (es.set j { m' with key := ui,val := uv }).toArray := by
        rw [vaD]
        apply Array.ext_getElem?
        intro q
        rw [Array.getElem?_modify]
        simp only [vbr,List.getElem?_set]
        by_cases hq : j = q
        ·subst hq
         rw [r2]
         have hlt : j < es.length := (vav.1 r2).1
         simp [hlt]
        ·simp [hq]
       rw [hw]
       unfold Instr.mapUpdate
       simp only [Sem.run_bind,run_underlying (hT.map hk),Result.andThen_ok,qci hh,hck,vaB,hf,hge,hks,hmod,qcX _ hh]
     ·cases h
    ·cases h
   ·cases h
  ·cases h
 ·cases h
theorem qji (hT : TabOK P tt) {t t2 : Nat} {objs : Objs} {m i : V} {md : List Nat} {K : Objs -> Option R} {r : R} {c : Ctx} (hs : SOK c objs) {um ui : Value} (hm : Rel c m um) (hi : Rel c i ui) (ty : TypeId) (h : deleteV tt objs t m i md K = some r) :
  ∃ ch c',K ch = some r /\ Done c objs c' (.tup []) (.tuple #[]) ch c.nx /\ (Builtin.delete_ #[t,t2] ty #[um,ui]).run P c.w = .ok (.tuple #[]) c'.w /\ ∀ o ∈ ch.map (·.1),o ∈ md := by
 unfold deleteV at h
 split at h
 ·rename_i kt et o hk
  split at h
  ·rename_i ka k ea e xs ho
   split at h
   ·rename_i hb
    simp only [vab] at hb
    obtain ⟨b,es,clock,h0,hbk,hh,hr,hsb,hhd,hbo⟩ := hs.map_at ho
    obtain ⟨_,hu⟩ := hm
    rw [hhd] at hu
    subst hu
    have hK := qkN hT hb.1
    obtain ⟨x,h,hx⟩ := qfY hs hi h
    rw [qoL] at hx
    obtain ⟨res,hf,hF⟩ := qhc hK hx c.w hr
    have hck := qd5 hK hx c.w es.isEmpty
    have fin : ∀ (es' : List MapEntry),EntsRel c.w c.SA ka k ea e (mdel xs x) es' -> BornOK es' clock -> ∃ c',c'.w = { c.w with heap := c.w.heap.setIfInBounds b (.map es'.toArray clock) } /\ Done c objs c' (.tup []) (.tuple #[]) [(o,.ext (.map ka k ea e (mdel xs x)))] c.nx := fun es' hE hB =>
     Done.updExt hs ho hbk (x' := .map ka k ea e (mdel xs x)) (ob' := .map es'.toArray clock) (fun _=>rfl) (v := .tup []) (u := .tuple #[]) ⟨es',clock,rfl,hE,hB⟩ (fun _ _ _ _ _ => ⟨[],rfl,rfl⟩)
    have hmd : ∀ o' ∈ ([(o,AObj.ext (.map ka k ea e (mdel xs x)))] : Objs).map (·.1),o' ∈ md := fun o' ho' => by simp at ho'; rw [ho']; exact qaJ.1 hb.2
    rcases hF with ⟨r1,r2,r3,r4⟩ | ⟨j,m',v',y0,r1,r2,r3,r4,r5,r6,r7,r8⟩
    ·subst r1
     obtain ⟨c',hw,hd⟩ := fin es (by rw [r4]; exact hr) hbo
     refine ⟨_,c',h,hd,?_,hmd⟩
     rw [hw]
     unfold Builtin.delete_
     simp [run_underlying (hT.map hk),qci hh,va6,hck,hf,qcX _ hh]
    ·subst r1
     obtain ⟨c',hw,hd⟩ := fin (es.eraseIdx j) r8 hbo.erase
     refine ⟨_,c',h,hd,?_,hmd⟩
     rw [hw]
     unfold Builtin.delete_
     simp [run_underlying (hT.map hk),qci hh,va6,hck,hf,qcX _ hh]
   ·cases h
  ·cases h
 ·cases h
theorem TabOK.mapk {t : Nat} (hT : TabOK P tt) (hk : (tt.row t).k.isMap = true) : ∃ kt et,P.underlying t = some (.map kt et) := by
 cases h : (tt.row t).k <;> simp [h,TK.isMap] at hk
 exact ⟨_,_,hT.map h⟩
theorem qi9 (hT : TabOK P tt) {t : Nat} (hk : (tt.row t).k.isMap = true) {objs : Objs} {m : V} {K : V -> Option R} {r : R} {c : Ctx} (hs : SOK c objs) {um : Value} (hm : Rel c m um) (ty : TypeId) (h : lenMapV objs m K = some r) :
  ∃ q z,K q = some r /\ Rel c q z /\ (Builtin.len_ #[t] ty #[um]).run P c.w = .ok z c.w := by
 obtain ⟨kt,et,hu⟩ := hT.mapk hk
 unfold lenMapV at h
 split at h
 ·rename_i o
  split at h
  ·rename_i ka k ea e xs ho
   obtain ⟨b,es,clock,h0,hbk,hh,hr,hsb,hhd,hbo⟩ := hs.map_at ho
   obtain ⟨_,hmu⟩ := hm
   rw [hhd] at hmu
   subst hmu
   refine ⟨_,.int .i64 xs.length,h,rfl,?_⟩
   simp [Builtin.len_,run_underlying hu,qci hh,goInt,qjh hr]
  ·cases h
 ·cases h
end Go.Vm

namespace Go.Vm
open Go
open Go.ChangeMaps (setBlock)
variable {P : Program} {tt : Tab}
theorem qkS {n : Nat} {f : Nat -> Option R} {r : R} (h : everyK n f = some r) : ∀ i,i < n -> f i = some r := by
 unfold everyK at h
 split at h
 ·rename_i he
  have := he.choose_spec
  cases h
  exact this
 ·cases h
theorem qlL {w : World} {S : Nat -> Prop} {ka : Bool} {k : Ty} {ea : Bool} {e : Ty} : ∀ {xs : List (k.den × e.den)} {es : List MapEntry},EntsRel w S ka k ea e xs es -> ∀ {i : Nat} {m : MapEntry},es[i]? = some m ->
  i < xs.length /\ ∀ d,ValRel w S ka k (xs.getD i d).1 m.key /\ ValRel w S ea e (xs.getD i d).2 m.val
 | [],es,h,i,m,hm => by cases h; cases hm
 | x :: r,es,⟨m',es',h1,h2,h3,h4⟩,i,m,hm => by
  subst h1
  cases i with
  | zero => cases hm; exact ⟨Nat.zero_lt_succ _,fun d => ⟨h2,h3⟩⟩
  | succ i => obtain ⟨a,b⟩ := qlL h4 (i := i) hm; exact ⟨Nat.succ_lt_succ a,b⟩
theorem qiz {w : World} {S : Nat -> Prop} {ka : Bool} {k : Ty} {ea : Bool} {e : Ty} : ∀ {xs : List (k.den × e.den)} {es : List MapEntry},EntsRel w S ka k ea e xs es -> ∀ (i : Nat),EntsRel w S ka k ea e (xs.eraseIdx i) (es.eraseIdx i)
 | [],es,h,i => by cases h; exact rfl
 | x :: r,es,⟨m',es',h1,h2,h3,h4⟩,i => by
  subst h1
  cases i with
  | zero => exact h4
  | succ i => exact ⟨m',_,rfl,h2,h3,qiz h4 i⟩
theorem qnj {es : Array MapEntry} {seen : Array Nat} {m : MapEntry} : leftOf es (seen.push m.born) = ((leftOf es seen).toList.filter fun e => e.born != m.born).toArray := by
 unfold leftOf
 apply vaF.1
 simp only [Array.toList_filter,List.filter_filter]
 apply List.filter_congr
 intro x _
 rw [contains_push]
 cases h : seen.contains x.born <;> cases h2 : (x.born == m.born) <;> simp [bne,h2]
theorem qgw : ∀ {l : List MapEntry} {i : Nat} {m : MapEntry},(l.map (·.born)).Nodup -> l[i]? = some m -> l.filter (fun e => e.born != m.born) = l.eraseIdx i
 | [],_,_,_,h => by cases h
 | x :: r,i,m,hn,h => by
  rw [vaY,vaq] at hn
  cases i with
  | zero =>
   cases h
   rw [List.filter_cons_of_neg (by simp),List.eraseIdx_zero,List.tail_cons,List.filter_eq_self.2]
   intro y hy
   have : y.born ≠ x.born := fun e => hn.1 (e ▸ va7 hy)
   simpa using this
  | succ i =>
   have hm : m ∈ r := vaA h
   have : x.born ≠ m.born := fun e => hn.1 (e ▸ va7 hm)
   rw [List.filter_cons_of_pos (by simpa using this),List.eraseIdx_cons_succ,qgw hn.2 h]
theorem Done.chg {c c' : Ctx} {objs : Objs} (hs : SOK c objs) {o : Nat} {x : AObj} {v : V} {u : Value} (hm : (look .dead objs o).mut = true) (hos : c'.w.os = c.w.os) (htape : c'.w.tape = c.w.tape) (hout : c'.w.output = c.w.output)
  (hsz : c'.w.heap.size = c.w.heap.size) (hheap : ∀ b,¬ c.has o b -> c'.w.heap[b]? = c.w.heap[b]?) (hnx : c'.nx = c.nx) (hhdr : c'.hdr = c.hdr) (hblk : c'.blk = c.blk) (hSB : c'.SB = c.SB) (hSA : c'.SA = c.SA)
  (hsub : ∀ q g,q ≠ o -> (c'.sub q g ↔ c.sub q g)) (hso : ∀ g,c'.sub o g -> c.sub o g) (hne : ∃ g,c.has o g) (hfl : x.isNest = false -> ∀ g,¬ c'.sub o g) (hx : ObjOK c' o x) (hr : Step c c' (Dof c objs [(o,x)]) -> Rel c' v u) :
  Done c objs c' v u [(o,x)] c.nx := by
 have hD : ∀ g,c.has o g -> Dof c objs [(o,x)] g := fun g hg => ⟨o,by simp,hm,hg⟩
 have hst : Step c c' (Dof c objs [(o,x)]) := by
  refine ⟨hos,htape,hout,vaO hsz.symm,vaO hnx.symm,fun _ _ => by rw [hhdr],fun _ _ => by rw [hblk],fun q _ hn g => ?_,fun b _ hn => hheap b fun h => hn (hD b h),fun _ _ _ => by rw [hSB],fun _ _ _ => by rw [hSA],fun b h => h.sb hs⟩
  by_cases hq : q = o
  ·subst hq
   obtain ⟨g',hg'⟩ := hne
   exact absurd (hD g' hg') (hn g' hg').1
  ·exact hsub q g hq
 have hfr : ∀ o' b',o' ∈ [(o,x)].map (·.1) -> c'.has o' b' -> c.w.heap.size <= b' \/ Dof c objs [(o,x)] b' := fun o' b' ho h => by
  simp at ho; subst ho
  exact .inr (hD b' (h.imp (fun k => by rw [<- hblk]; exact k) (hso b')))
 refine ⟨hst,hs.step hst (fun o' ho' => ?_) (fun o' b' ho _ h => hfr o' b' ho h) (fun o1 o2 _ h1 h2 _ _ _ _ => ?_) (fun q h g hg => ?_) (by rw [hSB,hSA]; exact hs.sub) (fun k h => ?_) (by rw [hnx,hhdr]; exact hs.one),hr hst,hnx,fun o' b' ho _ h => hfr o' b' ho h,fun o' ho' => ?_⟩
 ·simp at ho'; subst ho'
  rw [qau,if_pos rfl]; exact hx
 ·simp at h1 h2; omega
 ·rw [show [(o,x)] ++ objs = (o,x) :: objs from rfl,qau] at h
  by_cases hq : q = o
  ·subst hq
   rw [if_pos rfl] at h
   exact hfl h g hg
  ·rw [if_neg (Ne.symm hq)] at h
   exact hs.flat q h g ((hsub q g hq).1 hg)
 ·rw [hsz]; rw [hSA] at h; exact hs.bd k h
 ·simp at ho'; subst ho'; exact hs.lt hm
theorem qhq (hT : TabOK P tt) {t : Nat} {objs : Objs} {m : V} {md : List Nat} {K : V -> Objs -> Nat -> Option R} {r : R} {c : Ctx} (hs : SOK c objs) {u : Value} (hx : Rel c m u) (h : rangeMapV tt objs t c.nx m md K = some r) :
  ∃ v ch nx' z c',K v ch nx' = some r /\ Done c objs c' v z ch nx' /\ (Instr.range t u).run P c.w = .ok z c'.w /\ ∀ o' ∈ ch.map (·.1),o' < c.nx -> o' ∈ md := by
 unfold rangeMapV at h
 split at h
 ·rename_i kt et o hk
  split at h
  ·rename_i ka k ea e xs ho
   split at h
   ·rename_i hm
    obtain ⟨b,es,clock,h0,hbk,hh,hr,hsb,hhd,hbo⟩ := hs.map_at ho
    obtain ⟨_,hu⟩ := hx
    rw [hhd] at hu
    subst hu
    have hmut : (look .dead objs o).mut = true := by rw [ho]; rfl
    have hne : ¬ o = c.nx := vaV h0
    have hflat : ∀ g,¬ c.sub o g := hs.flat o (by rw [ho]; rfl)
    let w' : World := c.w.alloc (.mapIter (some b) clock #[] clock)
    let c' : Ctx := { w := w',nx := c.nx + 1,hdr := fun q => if q = c.nx then .slice none 0 0 else c.hdr q,blk := fun q => if q = c.nx then some c.w.heap.size else c.blk q,sub := fun q g => c.sub q g \/ (q = o /\ g = c.w.heap.size),SB := fun g => c.SB g \/ g = c.w.heap.size,SA := fun g => c.SA g \/ g = c.w.heap.size }
    have hold : ∀ g,g < c.w.heap.size -> w'.heap[g]? = c.w.heap[g]? := fun g hg => Go.RowKit.Below.heap_alloc _ _ _ hg
    have hblt : b < c.w.heap.size := (vaZ.1 hh).1
    let x' : AObj := .nest (.rng c.nx ka k ea e xs xs none)
    have hDb : Dof c objs [(o,x'),(c.nx,.dead)] b := ⟨o,by simp,hmut,.inl hbk⟩
    have hst : Step c c' (Dof c objs [(o,x'),(c.nx,.dead)]) := by
     refine ⟨rfl,rfl,rfl,by simp [c',w'],vbk _,fun q hq => if_neg (vaV hq),fun q hq => if_neg (vaV hq),fun q _ hn g => ?_,fun g hg _ => hold g hg,fun g hg _ => ⟨fun h => h.elim id fun e => by omega,.inl⟩,fun g hg _ => ⟨fun h => h.elim id fun e => by omega,.inl⟩,fun g h => h.sb hs⟩
     by_cases hq : q = o
     ·subst hq; exact absurd hDb (hn b (.inl hbk)).1
     ·exact ⟨fun h => h.elim id fun e => absurd e.1 hq,.inl⟩
    have hk' : Kept c.w w' c.SA c'.SA := hst.kept hs.sub false
    have hlo : look .dead [(o,x'),(c.nx,AObj.dead)] o = x' := by rw [qau,if_pos rfl]
    have hln : look .dead [(o,x'),(c.nx,AObj.dead)] c.nx = .dead := by rw [qau,if_neg hne,qau,if_pos rfl]
    have hfr : ∀ q g,q ∈ [(o,x'),(c.nx,AObj.dead)].map (·.1) -> (look .dead [(o,x'),(c.nx,AObj.dead)] q).mut = true -> c'.has q g -> c.w.heap.size <= g \/ Dof c objs [(o,x'),(c.nx,.dead)] g := fun q g hq hm hg => by
     simp at hq
     rcases hq with rfl | rfl
     ·rcases hg with hg | hg | hg
      ·have hg : c.blk q = some g := (if_neg hne).symm.trans hg
       rw [hbk] at hg; cases hg; exact .inr hDb
      ·exact (hflat g hg).elim
      ·exact .inl (vaO hg.2.symm)
     ·rw [hln] at hm; cases hm
    have hobj : ObjOK c' o x' := by
     refine ⟨vbb h0,vao _,b,c.w.heap.size,es,clock,#[],es,(if_neg hne).trans hbk,(if_neg hne).trans hhd,if_pos rfl,⟨by omega,fun g => ⟨fun h => h.elim (fun h => (hflat g h).elim) And.right,fun h => .inr ⟨rfl,h⟩⟩⟩,.inl hsb,.inr rfl,(hold b hblt).trans hh,?_,hr.mono hk',hbo,?_,hr.mono hk',trivial⟩
     ·show (c.w.heap.push _)[c.w.heap.size]? = _
      simp
     ·unfold leftOf
      apply vaF.1
      simp
    refine ⟨_,_,_,.pointer (some ⟨c.w.heap.size,0,none⟩),c',h,⟨hst,hs.step hst (fun q hq => ?_) hfr (fun q1 q2 g h1 h2 m1 m2 _ _ => ?_) (fun q hf g hg => ?_) (fun g h => h.imp (hs.sub g) id) (fun g h => ?_) (fun q hq => ?_),⟨vao _,_,if_pos rfl,rfl⟩,rfl,fun q g hq hm hg => hfr q g hq ?_ hg,fun q hq => ?_⟩,?_,fun q hq hlt => ?_⟩
    ·simp at hq
     rcases hq with rfl | rfl
     ·rw [hlo]; exact hobj
     ·rw [hln]; exact trivial
    ·simp at h1 h2
     rcases h1 with rfl | rfl
     ·rcases h2 with rfl | rfl
      ·rfl
      ·rw [hln] at m2; cases m2
     ·rw [hln] at m1; cases m1
    ·rcases hg with hg | hg
     ·rw [qaz] at hf
      split at hf
      ·rename_i hq
       simp at hq
       rcases hq with rfl | rfl
       ·rw [hlo] at hf; cases hf
       ·exact hs.flat c.nx (by rw [hs.dead_ge (vac _)]; rfl) g hg
      ·exact hs.flat q hf g hg
     ·rw [hg.1,qaz,if_pos (by simp),hlo] at hf; cases hf
    ·show g < (c.w.heap.push _).size
     rw [Array.size_push]
     rcases h with h | h
     ·exact vbb (hs.bd g h)
     ·omega
    ·show Value.oneCell' (if q = c.nx then .slice none 0 0 else c.hdr q) = true
     split
     ·rfl
     ·exact hs.one q (by change q < c.nx + 1 at hq; omega)
    ·rw [qaz,if_pos hq] at hm; exact hm
    ·simp at hq; rcases hq with rfl | rfl <;> omega
    ·exact run_range_map c.w t kt et b es.toArray clock (hT.map hk) hh
    ·simp at hq
     rcases hq with rfl | rfl
     ·exact qaJ.1 hm
     ·exact absurd hlt (vaE _)
   ·cases h
  ·cases h
 ·cases h
theorem SOK.rng_at {c : Ctx} {objs : Objs} (hs : SOK c objs) {o it : Nat} {ka : Bool} {k : Ty} {ea : Bool} {e : Ty} {xs rest : List (k.den × e.den)} {cur : Option (k.den × e.den)} (ho : look .dead objs o = .nest (.rng it ka k ea e xs rest cur)) : NstOK c o (.rng it ka k ea e xs rest cur) := by
 have := hs.obj o
 rw [ho] at this
 exact this
theorem qh7 {objs : Objs} {it : V} {md : List Nat} {K : V → Objs → Nat → Option R} {r : R} {c : Ctx} (hs : SOK c objs) {u : Value} (hx : Rel c it u) (ty : TypeId) (h : nextMapV objs c.nx it md K = some r) :
    ∃ v ch nx' z c',K v ch nx' = some r ∧ Done c objs c' v z ch nx' ∧ (Instr.next u false ty).run P c.w = .ok z c'.w ∧ ∀ o' ∈ ch.map (·.1),o' ∈ md := by
  unfold nextMapV at h
  split at h
  · rename_i p off
    split at h
    · rename_i o hrg
      split at h
      · rename_i q ka k ea e xs rest cur ho
        split at h
        · rename_i hm
          simp only [vab] at hm
          obtain ⟨⟨hm1,hm2⟩,hm3⟩ := hm
          have h0 : off = 0 := vaa hm1
          have hq : q = p := vaa hm2
          subst h0 hq
          obtain ⟨_,bp,hbp,rfl⟩ := hx
          obtain ⟨hlt,hit,b,bi,es,clock,seen,lft,k1,k2,k3,k4,k5,k6,k7,k8,k9,k10,k11,k12,k13⟩ := hs.rng_at ho
          rw [k3] at hbp; replace hbp := vbf.inj hbp; subst hbp
          have hmut : (look .dead objs o).mut = true := by rw [ho]; rfl
          have hlen := qjh k12
          rcases run_next_at (P := P) c.w ty bi b clock clock seen es.toArray clock k8 k7 (by simpa using k10.2) (vac _) with ⟨hz,hrun⟩ | ⟨m,hmem,w1,hw1,hrun⟩
          · have hl0 : rest = [] := by
              rw [k11] at hz
              exact List.length_eq_zero_iff.1 (by rw [← hlen]; simpa using hz)
            subst hl0
            rcases qdK h with ⟨_,h⟩ | ⟨hf,_⟩
            · refine ⟨_,_,_,_,{ c with sub := fun q g => c.sub q g ∧ q ≠ o },h,Done.chg hs hmut rfl rfl rfl rfl (fun _ _ => rfl) rfl rfl rfl rfl rfl (fun q g hq => ⟨And.left,fun h => ⟨h,hq⟩⟩) (fun g => And.left) ⟨b,.inl k1⟩ (fun _ g hg => hg.2 rfl) ?_ (fun _=>⟨[.bool false],rfl,_,_,rfl,rfl,rfl⟩),hrun,fun o' ho' => by simp at ho'; rw [ho']; exact qaJ.1 hm3⟩
              exact ⟨hlt,b,_,k1,k7,⟨es,clock,rfl,k9,k10⟩,k5,fun _=>k2⟩
            · cases hf
          · rw [k11] at hmem
            obtain ⟨i,hi⟩ := List.mem_iff_getElem?.1 (by simpa using hmem)
            obtain ⟨hil,hval⟩ := qlL k12 hi
            have hnd : (lft.map (·.born)).Nodup := by
              have : lft = es.filter fun e => !seen.contains e.born := by
                have := congrArg Array.toList k11
                unfold leftOf at this
                simpa using this.symm
              rw [this]
              exact List.Sublist.nodup (List.Sublist.map _ List.filter_sublist) k10.1
            have hin : m ∈ es := by
              have := (mem_left (es := es.toArray) (seen := seen) (e := m) (by rw [k11]; simpa using hmem)).1
              simpa using this
            rcases qdK h with ⟨hf,_⟩ | ⟨_,h⟩
            · have : rest = [] := List.isEmpty_iff.1 hf
              rw [this] at hil; exact absurd hil (vbj _)
            · have hi' := qkS h i hil
              have hbl : bi < c.w.heap.size := (vaZ.1 k8).1
              let w' : World := setBlock w1 bi (.mapIter (some b) clock (seen.push m.born) clock)
              have hwh : w'.heap = c.w.heap.setIfInBounds bi (.mapIter (some b) clock (seen.push m.born) clock) := by rcases hw1 with rfl | rfl <;> rfl
              have hwo : ∀ g,g ≠ bi → w'.heap[g]? = c.w.heap[g]? := fun g hg => by rw [hwh]; exact vaT (Ne.symm hg)
              have hbi : ¬ c.SA bi → False := fun h => h (hs.sub bi k6)
              have hk : Kept c.w w' c.SA c.SA := ⟨by rw [hwh]; simp,fun g hS _ => ⟨hwo g fun e => hbi (e ▸ hS),hS⟩⟩
              refine ⟨_,_,_,_,{ c with w := w' },hi',Done.chg (c' := { c with w := w' }) hs hmut (by rcases hw1 with rfl | rfl <;> rfl) (by rcases hw1 with rfl | rfl <;> rfl) (by rcases hw1 with rfl | rfl <;> rfl) (by rw [hwh]; simp) (fun g hg => hwo g fun e => hg (.inr ((k4.2 g).2 e))) rfl rfl rfl rfl rfl (fun _ _ _ => Iff.rfl) (fun _=>id) ⟨b,.inl k1⟩ (fun h => by cases h) ?_ (fun _=>⟨[.bool true,m.key,m.val],rfl,_,_,rfl,rfl,_,_,rfl,trivial,_,_,rfl,trivial,rfl⟩),hrun,fun o' ho' => by simp at ho'; rw [ho']; exact qaJ.1 hm3⟩
              refine ⟨hlt,hit,b,bi,es,clock,seen.push m.born,lft.eraseIdx i,k1,k2,k3,k4,k5,k6,(hwo b k4.1).trans k7,?_,k9.mono hk,k10,?_,(qiz k12 i).mono hk,m,hin,(hval _).1.mono hk,(hval _).2.mono hk,_,rfl⟩
              · show w'.heap[bi]? = _
                rw [hwh,va5 hbl]
              · rw [qnj,k11,vaB,qgw hnd hi]
        · cases h
      · cases h
    · cases h
  · cases h
theorem qke {objs : Objs} {it : V} {K : V -> Option R} {r : R} {c : Ctx} (hs : SOK c objs) {u : Value} (hx : Rel c it u) (h : entryV objs it K = some r) :
  ∃ q z,K q = some r /\ Rel c q z /\ (Instr.entry u).run P c.w = .ok z c.w := by
 unfold entryV at h
 split at h
 ·rename_i p off
  split at h
  ·rename_i o hrg
   split at h
   ·rename_i q ka k ea e xs rest x ho
    split at h
    ·rename_i hm
     simp only [vab] at hm
     have h0 : off = 0 := vaa hm.1
     have hq : q = p := vaa hm.2
     subst h0 hq
     obtain ⟨_,bp,hbp,rfl⟩ := hx
     obtain ⟨hlt,hit,b,bi,es,clock,seen,lft,k1,k2,k3,k4,k5,k6,k7,k8,k9,k10,k11,k12,m,hmem,j1,j2,s,j3⟩ := hs.rng_at ho
     rw [k3] at hbp; replace hbp := vbf.inj hbp; subst hbp
     obtain ⟨v1,h,r1⟩ := qeb j1 h
     obtain ⟨v2,h,r2⟩ := qeb j2 h
     rw [j3] at k8
     exact ⟨_,.tuple #[m.key,m.val],h,⟨[m.key,m.val],rfl,_,_,rfl,r1,_,_,rfl,r2,rfl⟩,run_entry_at c.w bi b clock s es.toArray clock m k8 k7 (by simpa using hmem) (by simpa using k10.1)⟩
    ·cases h
   ·cases h
  ·cases h
 ·cases h
end Go.Vm

namespace Go.Vm
open Go
variable {P : Program} {tt : Tab}
theorem CellsDL.append {α : Type} {C : α -> List Value -> List Nat -> Prop} : ∀ {xs ys : List α} {a b : List Value} {A B : List Nat},CellsDL C xs a A -> CellsDL C ys b B -> CellsDL C (xs ++ ys) (a ++ b) (A ++ B)
 | [],ys,a,b,A,B,h,h' => by obtain ⟨rfl,rfl⟩ := h; exact h'
 | x :: r,ys,a,b,A,B,⟨c1,c2,B1,B2,h1,h2,h3,h4⟩,h' => ⟨c1,c2 ++ b,B1,B2 ++ B,by rw [h1,vaj],by rw [h2,vaj],h3,CellsDL.append h4 h'⟩
theorem CellsDL.split {α : Type} {C : α -> List Value -> List Nat -> Prop} (dflt : α) : ∀ {xs : List α} {cells : List Value} {B : List Nat},CellsDL C xs cells B -> ∀ {i : Nat},i < xs.length ->
  ∃ pre mid post B1 Bx B2,cells = pre ++ mid ++ post /\ B = B1 ++ Bx ++ B2 /\ CellsDL C (xs.take i) pre B1 /\ C (xs.getD i dflt) mid Bx /\ CellsDL C (xs.drop (i + 1)) post B2
 | [],_,_,_,i,hi => absurd hi (vbj _)
 | x :: r,cells,B,⟨c1,c2,B1,B2,h1,h2,h3,h4⟩,0,_ => ⟨[],c1,c2,[],B1,B2,h1,h2,⟨rfl,rfl⟩,h3,h4⟩
 | x :: r,cells,B,⟨c1,c2,B1,B2,h1,h2,h3,h4⟩,i + 1,hi => by
  obtain ⟨pre,mid,post,D1,Dx,D2,e1,e2,k1,k2,k3⟩ := CellsDL.split dflt h4 (i := i) (by simpa using hi)
  exact ⟨c1 ++ pre,mid,post,B1 ++ D1,Dx,D2,by rw [h1,e1]; simp [vaj],by rw [h2,e2]; simp [vaj],⟨c1,pre,B1,D1,rfl,rfl,h3,k1⟩,k2,k3⟩
theorem CellsDL.join {α : Type} {C : α -> List Value -> List Nat -> Prop} {xs : List α} {i : Nat} (hi : i < xs.length) {x : α} {pre mid post : List Value} {B1 Bx B2 : List Nat} (h1 : CellsDL C (xs.take i) pre B1) (h2 : C x mid Bx) (h3 : CellsDL C (xs.drop (i + 1)) post B2) :
  CellsDL C (xs.set i x) (pre ++ mid ++ post) (B1 ++ Bx ++ B2) := by
 rw [vaQ,if_pos hi,vaj,vaj]
 exact CellsDL.append h1 ⟨mid,post,Bx,B2,rfl,rfl,h2,h3⟩
theorem CellsDL.len {α : Type} {C : α -> List Value -> List Nat -> Prop} {es : Nat} (hl : ∀ x cs B,C x cs B -> cs.length = es) : ∀ {xs : List α} {cs : List Value} {B : List Nat},CellsDL C xs cs B -> cs.length = xs.length * es
 | [],cs,B,h => by rw [h.1]; simp
 | x :: r,cs,B,⟨c1,c2,B1,B2,h1,h2,h3,h4⟩ => by rw [h1,vas,hl _ _ _ h3,CellsDL.len hl h4,vaM,Nat.succ_mul]; omega
theorem qhB {α : Type} (d : α) : ∀ {l : List (Nat × α)} {n : Nat},n ∈ l.map (·.1) -> (n,look d l n) ∈ l
 | [],n,h => by cases h
 | (i,v) :: r,n,h => by
  rw [qau]
  by_cases hi : i = n
  ·subst hi; rw [if_pos rfl]; exact vad
  ·rw [if_neg hi]
   refine vau _ (qhB d ?_)
   rcases vap.1 h with h | h
   ·exact absurd h.symm hi
   ·exact h
theorem qeM : ∀ (d : DTy) (x : d.den) (nx : Nat),(openO d x nx).map (·.1) = vaN nx d.owns
 | .dat _,_,_ => rfl
 | .row _,_,_ => rfl
 | .map ..,_,_ => rfl
 | .pair a b,x,nx => by
  show (openO a x.1 nx ++ openO b x.2 (nx + a.owns)).map (·.1) = vaN nx (a.owns + b.owns)
  rw [vax,qeM a,qeM b,List.range'_append_1]
theorem qfg (bor : Bool) : ∀ (t : Ty) (x : t.den),(cellsOf t x bor).length = t.size
 | .int _,_ => rfl
 | .bool,_ => rfl
 | .str,_ => rfl
 | .sl _,_ => rfl
 | .unit,_ => rfl
 | .pair a b,x => by unfold cellsOf Ty.size; rw [vas,qfg bor a,qfg bor b]
theorem qfh (bor : Bool) : ∀ (t : Ty) (x : t.den),(cellsOf t x bor).all V.isC = true
 | .int _,_ => rfl
 | .bool,_ => rfl
 | .str,_ => rfl
 | .sl _,_ => rfl
 | .unit,_ => rfl
 | .pair a b,x => by unfold cellsOf; rw [vbL,qfh bor a,qfh bor b]; rfl
theorem qht : ∀ (d : DTy) (x : d.den) (nx : Nat),(openC d x nx).length = d.size
 | .dat t,x,_ => qfg false t x
 | .row _,_,_ => rfl
 | .map ..,_,_ => rfl
 | .pair a b,x,nx => by unfold openC DTy.size; rw [vas,qht a,qht b]
theorem qhu : ∀ (d : DTy) (x : d.den) (nx : Nat),(openC d x nx).all V.isC = true
 | .dat t,x,_ => qfh false t x
 | .row _,_,_ => rfl
 | .map ..,_,_ => rfl
 | .pair a b,x,nx => by unfold openC; rw [vbL,qhu a,qhu b]; rfl
theorem qd7 {w : World} {et : TypeId} {es n : Nat} {h : Value} {us : List Value} (hh : w.ownsRow 0 et es h n us) : h.oneCell' = true := by
 rcases hh.2 with ⟨h,_⟩ | ⟨_,_,_,h,_⟩ <;> rw [h] <;> rfl
theorem qhs {w : World} {S : Nat -> Prop} : ∀ (d : DTy) (x : d.den) (cs : List Value) (B : List Nat),CellsD w S d x cs B ->
  ∃ hs : List (Value × Option Nat),hs.length = d.owns /\ B = hs.filterMap (·.2) /\ (∀ p ∈ hs,p.1.oneCell' = true) /\
   ∀ (c : Ctx) (nx : Nat),c.w = w -> c.SA = S -> nx + d.owns <= c.nx -> (∀ j p,hs[j]? = some p -> c.hdr (nx + j) = p.1 /\ c.blk (nx + j) = p.2) -> (∀ b ∈ B,c.SB b) ->
    RelL c (openC d x nx) cs /\ ∀ p ∈ openO d x nx,ObjOK c p.1 p.2
 | .dat t,x,cs,B,h => ⟨[],rfl,h.2,fun p hp => (by cases hp),fun c nx hw hS _ _ _ => ⟨by
   subst hw hS; exact qbW false t x cs h.1,fun p hp => (by cases hp)⟩⟩
 | .row e,x,cs,B,⟨h,et,us,h1,h2,h3,h4,h5⟩ => by
  refine ⟨[(h,h.ownBlock)],rfl,?_,fun p hp => ?_,fun c nx hw hS hnx hh hB => ?_⟩
  ·rw [h4]; cases h.ownBlock <;> rfl
  ·rw [vak.1 hp]; exact qd7 h2
  ·subst hw hS
   obtain ⟨k1,k2⟩ := hh 0 _ rfl
   have k1 : c.hdr nx = h := k1
   have k2 : c.blk nx = h.ownBlock := k2
   have hlt : nx < c.nx := by simp only [DTy.owns] at hnx; omega
   refine ⟨⟨h,[],h1,⟨hlt,k1.symm⟩,rfl⟩,fun p hp => ?_⟩
   rw [vak.1 hp]
   refine ⟨hlt,et,us,by rw [k1]; exact h2,h3,by rw [k1,k2],fun b hb => ⟨fun _=>hB b (by rw [h4,<- k2,hb]; simp),fun e => by cases e⟩,h5⟩
 | .map ka k ea e,x,cs,B,⟨b,es,clock,h1,h2,h3,h4,h5⟩ => by
  refine ⟨[(.map (some b),some b)],rfl,by rw [h5]; rfl,fun p hp => ?_,fun c nx hw hS hnx hh hB => ?_⟩
  ·rw [vak.1 hp]; rfl
  ·subst hw hS
   obtain ⟨k1,k2⟩ := hh 0 _ rfl
   have k1 : c.hdr nx = .map (some b) := k1
   have k2 : c.blk nx = some b := k2
   have hlt : nx < c.nx := by simp only [DTy.owns] at hnx; omega
   refine ⟨⟨_,[],h1,⟨hlt,k1.symm⟩,rfl⟩,fun p hp => ?_⟩
   rw [vak.1 hp]
   exact ⟨hlt,b,_,k2,h2,⟨es,clock,rfl,h3,h4⟩,hB b (by rw [h5]; simp),fun _=>k1⟩
 | .pair a b,x,cs,B,⟨c1,c2,B1,B2,h1,h2,h3,h4⟩ => by
  obtain ⟨s1,l1,e1,o1,r1⟩ := qhs a _ _ _ h3
  obtain ⟨s2,l2,e2,o2,r2⟩ := qhs b _ _ _ h4
  refine ⟨s1 ++ s2,by rw [vas,l1,l2]; rfl,by rw [h2,e1,e2,vbs],fun p hp => (vae.1 hp).elim (o1 p) (o2 p),fun c nx hw hS hnx hh hB => ?_⟩
  have hnx : nx + (a.owns + b.owns) <= c.nx := hnx
  obtain ⟨p1,q1⟩ := r1 c nx hw hS (by omega) (fun j p hj => hh j p (by rw [vaL (vav.1 hj).1]; exact hj)) (fun g hg => hB g (by rw [h2]; simp [hg]))
  obtain ⟨p2,q2⟩ := r2 c (nx + a.owns) hw hS (by omega) (fun j p hj => by
   have := hh (a.owns + j) p (by rw [vaJ (by omega),l1,vaw]; exact hj)
   rwa [<- Nat.add_assoc] at this) (fun g hg => hB g (by rw [h2]; simp [hg]))
  refine ⟨by rw [h1]; exact p1.append p2,fun p hp => ?_⟩
  rcases vae.1 hp with hp | hp
  ·exact q1 p hp
  ·exact q2 p hp
theorem qoM {α : Type} {f : α -> Option Nat} : ∀ {l : List α} {i j : Nat} {p q : α} {b : Nat},(l.filterMap f).Nodup -> l[i]? = some p -> l[j]? = some q -> f p = some b -> f q = some b -> i = j
 | [],i,_,_,_,_,_,h,_,_,_ => by cases h
 | x :: r,i,j,p,q,b,hn,hi,hj,hp,hq => by
  have hr : (r.filterMap f).Nodup := by
   cases hx : f x with
   | none => rw [vbn hx] at hn; exact hn
   | some y => rw [va2 hx] at hn; exact (vaq.1 hn).2
  have hno : ∀ (m : Nat) (y : α),f x = some b -> r[m]? = some y -> f y = some b -> False := fun m y hx hm hy => by
   rw [va2 hx] at hn
   exact (vaq.1 hn).1 (vaR.2 ⟨y,vaA hm,hy⟩)
  cases i with
  | zero =>
   cases hi
   cases j with
   | zero => rfl
   | succ j => exact (hno j q hp hj hq).elim
  | succ i =>
   cases j with
   | zero => cases hj; exact (hno i p hq hi hp).elim
   | succ j => exact congrArg _ (qoM hr hi hj hp hq)
theorem qlG {f : Nat -> Option Nat} : ∀ {l : List Nat},l.Nodup -> (∀ p ∈ l,∀ q ∈ l,∀ b,f p = some b -> f q = some b -> p = q) -> (l.filterMap f).Nodup
 | [],_,_ => List.nodup_nil
 | x :: r,hn,h => by
  have hr := qlG (vaq.1 hn).2 fun p hp q hq => h p (vau _ hp) q (vau _ hq)
  cases hx : f x with
  | none => rw [vbn hx]; exact hr
  | some b =>
   rw [va2 hx]
   refine vaq.2 ⟨fun hb => ?_,hr⟩
   obtain ⟨y,hy,hyb⟩ := vaR.1 hb
   have := h x vad y (vau _ hy) b hx hyb
   subst this
   exact (vaq.1 hn).1 hy
theorem SOK.nest_row {c : Ctx} {objs : Objs} (hs : SOK c objs) {o : Nat} {d : DTy} {xs : List d.den} (ho : look .dead objs o = .nest (.row d xs)) : NstOK c o (.row d xs) := by
 have := hs.obj o
 rw [ho] at this; exact this
theorem SOK.nest_hole {c : Ctx} {objs : Objs} (hs : SOK c objs) {o : Nat} {d : DTy} {xs : List d.den} {ix : Nat} {cs : List V} (ho : look .dead objs o = .nest (.hole d xs ix cs)) : NstOK c o (.hole d xs ix cs) := by
 have := hs.obj o
 rw [ho] at this; exact this
theorem qfW {w : World} {et : TypeId} {es n b : Nat} {h : Value} {us : List Value} (hh : w.ownsRow 0 et es h n us) (hb : h.ownBlock = some b) : At w b 0 us := fun j u hu => by
 have := hh.cells (g := b) hb j u hu
 rw [Addr.add_lit] at this; exact this
theorem qfb {w : World} {et : TypeId} {es n : Nat} {h : Value} {us : List Value} (hh : w.ownsRow 0 et es h n us) (hn : 0 < n) : ∃ b cap,h = .slice (some ⟨b,0,none⟩) n cap /\ h.ownBlock = some b := by
 rcases hh.2 with ⟨_,h⟩ | ⟨g,cap,_,h,_⟩
 ·omega
 ·exact ⟨g,cap,h,by rw [h]; rfl⟩
def openCtx (c : Ctx) (o n : Nat) (hs : List (Value × Option Nat)) (B : List Nat) : Ctx :=
 { c with nx := c.nx + n,hdr := fun q => if q < c.nx then c.hdr q else match hs[q - c.nx]? with | some p => p.1 | none => .slice none 0 0,blk := fun q => if q < c.nx then c.blk q else match hs[q - c.nx]? with | some p => p.2 | none => none,sub := fun q g => if q = o then g ∈ B else c.sub q g }
theorem qim {c : Ctx} {objs : Objs} (hs : SOK c objs) {o ix : Nat} {d : DTy} {xs : List d.den} (ho : look .dead objs o = .nest (.row d xs)) (hix : ix < xs.length) :
  ∃ c' b mid,c'.w = c.w /\ c.blk o = some b /\ c'.nx = c.nx + d.owns /\ c'.blk o = some b /\ RelL c' (openC d (xs.getD ix d.dflt) c.nx) mid /\ At c.w b (ix * d.size) mid /\
   ∀ v u,(Step c c' (Dof c objs ((o,.nest (.hole d xs ix (openC d (xs.getD ix d.dflt) c.nx))) :: openO d (xs.getD ix d.dflt) c.nx)) -> Rel c' v u) ->
    Done c objs c' v u ((o,.nest (.hole d xs ix (openC d (xs.getD ix d.dflt) c.nx))) :: openO d (xs.getD ix d.dflt) c.nx) (c.nx + d.owns) := by
 obtain ⟨h0,et,cells,B,h1,h2,h3,h4,h5,h6,h7⟩ := hs.nest_row ho
 obtain ⟨pre,mid,post,B1,Bx,B2,e1,e2,k1,k2,k3⟩ := CellsDL.split d.dflt h2 hix
 generalize xs.getD ix d.dflt = x at k2
 obtain ⟨b,cap,hb1,hb2⟩ := qfb h1 (by omega)
 have hbk : c.blk o = some b := by rw [<- h3,hb2]
 obtain ⟨hl,hl1,hl2,hl3,hl4⟩ := qhs d x mid Bx k2
 let c' : Ctx := openCtx c o d.owns hl (B1 ++ B2)
 have hsub : ∀ g,g ∈ B ↔ g ∈ B1 ++ B2 \/ g ∈ Bx := fun g => by rw [e2]; simp only [vae]; exact ⟨fun h => by rcases h with (h | h) | h <;> simp [h],fun h => by rcases h with (h | h) | h <;> simp [h]⟩
 have hhas : ∀ g,g ∈ B -> c.has o g := fun g hg => .inr ((h4 g).2 hg)
 have hSB : ∀ g ∈ Bx,c.SB g := fun g hg => h6 g (hhas g ((hsub g).2 (.inr hg)))
 have hnew : ∀ j p,hl[j]? = some p -> c'.hdr (c.nx + j) = p.1 /\ c'.blk (c.nx + j) = p.2 := fun j p hj => by
  have hn : ¬ c.nx + j < c.nx := by omega
  constructor
  ·show (if c.nx + j < c.nx then _ else _) = _
   rw [if_neg hn,vaw,hj]
  ·show (if c.nx + j < c.nx then _ else _) = _
   rw [if_neg hn,vaw,hj]
 obtain ⟨hr,hobj⟩ := hl4 c' c.nx rfl rfl (vac _) hnew hSB
 have hlen1 := k1.len (fun y cs B h => CellsD.len d y cs B h)
 rw [vaz,vaI (by omega)] at hlen1
 have hat : At c.w b (ix * d.size) mid := fun j u hu => by
  have hj : j < mid.length := (vav.1 hu).1
  have := qfW h1 hb2 (ix * d.size + j) u (by
   rw [e1,vaj,vaJ (by omega),hlen1,vaw,vaL hj]; exact hu)
  rwa [vaD] at this
 have hmut : (look .dead objs o).mut = true := by rw [ho]; rfl
 have hold : ∀ q,q < c.nx -> c'.hdr q = c.hdr q /\ c'.blk q = c.blk q := fun q hq => ⟨if_pos hq,if_pos hq⟩
 have hnd : (c.blk o).toList ++ B = b :: B := by rw [hbk]; rfl
 rw [hnd] at h5
 have hbB : b ∉ B := (vaq.1 h5).1
 have hB := (vaq.1 h5).2
 let ch : Objs := (o,.nest (.hole d xs ix (openC d x c.nx))) :: openO d x c.nx
 have hkeys : ∀ q,q ∈ ch.map (·.1) -> q = o \/ (c.nx <= q /\ q < c.nx + d.owns) := fun q hq => by
  have hq : q ∈ o :: (openO d x c.nx).map (·.1) := hq
  rw [qeM] at hq
  rcases vap.1 hq with h | h
  ·exact .inl h
  ·exact .inr (vbC.1 h)
 have hlo : ∀ q,q ∈ ch.map (·.1) -> q ≠ o -> (q,look .dead ch q) ∈ openO d x c.nx := fun q hq hne => by
  rcases vap.1 (qhB .dead hq) with h | h
  ·exact absurd (congrArg Prod.fst h) hne
  ·exact h
 have hoo : look .dead ch o = .nest (.hole d xs ix (openC d x c.nx)) := by rw [qau,if_pos rfl]
 have hD : ∀ g,c.has o g -> Dof c objs ch g := fun g hg => ⟨o,vad,hmut,hg⟩
 have hblk : ∀ q g,q ∈ ch.map (·.1) -> c'.has q g -> c.has o g := fun q g hq hg => by
  rcases hkeys q hq with rfl | ⟨hq1,hq2⟩
  ·rcases hg with hg | hg
   ·rw [(hold q h0).2] at hg; exact .inl hg
   ·have hg : (if q = q then g ∈ B1 ++ B2 else c.sub q g) := hg
    rw [if_pos rfl] at hg
    exact hhas g ((hsub g).2 (.inl hg))
  ·rcases hg with hg | hg
   ·have hg : (if q < c.nx then c.blk q else match hl[q - c.nx]? with | some p => p.2 | none => none) = some g := hg
    rw [if_neg (by omega)] at hg
    cases hj : hl[q - c.nx]? with
    | none => rw [hj] at hg; cases hg
    | some p =>
     rw [hj] at hg
     exact hhas g ((hsub g).2 (.inr (by rw [hl2]; exact vaR.2 ⟨p,vaA hj,hg⟩)))
   ·have hg : (if q = o then g ∈ B1 ++ B2 else c.sub q g) := hg
    rw [if_neg (by omega)] at hg
    exact (hs.flat q (by rw [hs.dead_ge hq1]; rfl) g hg).elim
 have hst : Step c c' (Dof c objs ch) := by
  refine ⟨rfl,rfl,rfl,vac _,vaX _ _,fun q hq => (hold q hq).1,fun q hq => (hold q hq).2,fun q _ hn g => ?_,fun _ _ _ => rfl,fun _ _ _ => Iff.rfl,fun _ _ _ => Iff.rfl,fun g h => h.sb hs⟩
  by_cases hq : q = o
  ·subst hq; exact absurd (hD b (.inl hbk)) (hn b (.inl hbk)).1
  ·show (if q = o then g ∈ B1 ++ B2 else c.sub q g) ↔ _
   rw [if_neg hq]
 have hnews : ∀ q1 q2 g,q1 ∈ ch.map (·.1) -> q2 ∈ ch.map (·.1) -> q1 ≠ o -> q2 ≠ o -> c'.has q1 g -> c'.has q2 g -> q1 = q2 := fun q1 q2 g h1 h2 n1 n2 g1 g2 => by
  have key : ∀ q,q ∈ ch.map (·.1) -> q ≠ o -> c'.has q g -> c.nx <= q /\ ∃ p,hl[q - c.nx]? = some p /\ p.2 = some g := fun q hq hne hg => by
   obtain ⟨hq1,hq2⟩ := (hkeys q hq).resolve_left hne
   refine ⟨hq1,?_⟩
   rcases hg with hg | hg
   ·have hg : (if q < c.nx then c.blk q else match hl[q - c.nx]? with | some p => p.2 | none => none) = some g := hg
    rw [if_neg (by omega)] at hg
    cases hj : hl[q - c.nx]? with
    | none => rw [hj] at hg; cases hg
    | some p => rw [hj] at hg; exact ⟨p,rfl,hg⟩
   ·have hg : (if q = o then g ∈ B1 ++ B2 else c.sub q g) := hg
    rw [if_neg hne] at hg
    exact (hs.flat q (by rw [hs.dead_ge hq1]; rfl) g hg).elim
  obtain ⟨l1,p1,j1,b1⟩ := key q1 h1 n1 g1
  obtain ⟨l2,p2,j2,b2⟩ := key q2 h2 n2 g2
  have hBx : (hl.filterMap (·.2)).Nodup := by
   rw [<- hl2]
   rw [e2] at hB
   exact (vam.1 (vam.1 hB).1).2.1
  have := qoM hBx j1 j2 b1 b2
  omega
 have hcross : ∀ q g,q ∈ ch.map (·.1) -> q ≠ o -> c'.has o g -> c'.has q g -> False := fun q g hq hne g1 g2 => by
  obtain ⟨hq1,hq2⟩ := (hkeys q hq).resolve_left hne
  have hx : g ∈ Bx := by
   rcases g2 with hg | hg
   ·have hg : (if q < c.nx then c.blk q else match hl[q - c.nx]? with | some p => p.2 | none => none) = some g := hg
    rw [if_neg (by omega)] at hg
    cases hj : hl[q - c.nx]? with
    | none => rw [hj] at hg; cases hg
    | some p =>
     rw [hj] at hg
     rw [hl2]; exact vaR.2 ⟨p,vaA hj,hg⟩
   ·have hg : (if q = o then g ∈ B1 ++ B2 else c.sub q g) := hg
    rw [if_neg hne] at hg
    exact (hs.flat q (by rw [hs.dead_ge hq1]; rfl) g hg).elim
  rcases g1 with hg | hg
  ·rw [(hold o h0).2,hbk] at hg
   cases hg
   exact hbB ((hsub b).2 (.inr hx))
  ·have hg : (if o = o then g ∈ B1 ++ B2 else c.sub o g) := hg
   rw [if_pos rfl] at hg
   rw [e2,vaj,vam] at hB
   obtain ⟨n1,n2,n3⟩ := hB
   rcases vae.1 hg with hg | hg
   ·exact n3 g hg g (vag _ hx) rfl
   ·exact (vam.1 n2).2.2 g hx g hg rfl
 refine ⟨c',b,mid,rfl,hbk,rfl,by rw [(hold o h0).2,hbk],hr,hat,fun v u hv => ⟨hst,hs.step hst (fun q hq => ?_) (fun q g hq _ hg => .inr (hD g (hblk q g hq hg))) (fun q1 q2 g h1 h2 _ _ g1 g2 => ?_) (fun q hq g hg => ?_) hs.sub hs.bd (fun q hq => ?_),hv hst,rfl,fun q g hq _ hg => .inr (hD g (hblk q g hq hg)),fun q hq => ?_⟩⟩
 ·by_cases hqo : q = o
  ·subst hqo
   rw [hoo]
   refine ⟨vah h0 (vaX _ _),et,cells,B1,B2,pre,mid,post,b,?_,e1,k1,hr,k3,hix,qht d x c.nx,qhu d x c.nx,?_,by rw [(hold q h0).2,hbk],fun g => ?_,?_,fun g hg => ?_,h7⟩
   ·rw [(hold q h0).1]; exact h1
   ·rw [(hold q h0).1,(hold q h0).2]; exact h3
   ·show (if q = q then g ∈ B1 ++ B2 else c.sub q g) ↔ _
    rw [if_pos rfl]
   ·rw [e2] at h5
    exact h5.sublist (List.Sublist.cons_cons _ (List.Sublist.append (List.sublist_append_left _ _) (List.Sublist.refl _)))
   ·exact h6 g (hblk q g hq hg)
  ·exact hobj _ (hlo q hq hqo)
 ·by_cases n1 : q1 = o
  ·by_cases n2 : q2 = o
   ·rw [n1,n2]
   ·subst n1; exact (hcross q2 g h2 n2 g1 g2).elim
  ·by_cases n2 : q2 = o
   ·subst n2; exact (hcross q1 g h1 n1 g2 g1).elim
   ·exact hnews q1 q2 g h1 h2 n1 n2 g1 g2
 ·have hg : (if q = o then g ∈ B1 ++ B2 else c.sub q g) := hg
  by_cases hqo : q = o
  ·subst hqo
   rw [qaz,if_pos (show q ∈ ch.map (·.1) from vad),hoo] at hq; cases hq
  ·rw [if_neg hqo] at hg
   rw [qaz] at hq
   split at hq
   ·rename_i hm
    obtain ⟨hq1,_⟩ := (hkeys q hm).resolve_left hqo
    exact hs.flat q (by rw [hs.dead_ge hq1]; rfl) g hg
   ·exact hs.flat q hq g hg
 ·by_cases hlt : q < c.nx
  ·rw [(hold q hlt).1]; exact hs.one q hlt
  ·show Value.oneCell' (if q < c.nx then c.hdr q else match hl[q - c.nx]? with | some p => p.1 | none => .slice none 0 0) = true
   rw [if_neg hlt]
   cases hj : hl[q - c.nx]? with
   | none => rfl
   | some p => exact hl3 p (vaA hj)
 ·rcases hkeys q hq with rfl | ⟨_,h⟩
  ·exact vah h0 (vaX _ _)
  ·exact h
theorem qnB {c : Ctx} {t : Ty} {x : t.den} {us : List Value} (h : Cells c.w (fzCtx c []).SA t x us) : Cells c.w c.SA t x us :=
 Cells.mono ⟨vac _,fun b hb _ => ⟨rfl,fun k => hb ⟨k,fun ⟨_,h,_⟩ => by cases h⟩⟩⟩ t x us h
theorem qe9 {c : Ctx} {objs : Objs} (hs : SOK c objs) : ∀ (d : DTy) (cs : List V) (us : List Value) {K : d.den -> List V -> List Nat -> Option R} {r : R},RelL c cs us -> shutD objs d cs K = some r ->
  ∃ x rest g u1 u2 B,K x rest g = some r /\ us = u1 ++ u2 /\ RelL c rest u2 /\ CellsD c.w c.SA d x u1 B /\ B = g.filterMap c.blk /\ ∀ q ∈ g,(look .dead objs q).mut = true /\ (look .dead objs q).isNest = false
 | .dat t,cs,us,K,r,hr,h => by
  unfold shutD at h
  obtain ⟨x,rest,f,u1,u2,hk,e,hr2,_,hc⟩ := qbw hs t cs us hr h
  split at hk
  ·exact ⟨x,rest,[],u1,u2,[],hk,e,hr2,⟨qnB (hc [] fun _ h => h),rfl⟩,rfl,fun q hq => by cases hq⟩
  ·cases hk
 | .row e,cs,us,K,r,hr,h => by
  cases cs with
  | nil => simp [shutD] at h
  | cons v cs =>
   obtain ⟨u,us',rfl,h1,h2⟩ := hr
   unfold shutD at h
   split at h
   ·have h1 : u = .slice none 0 0 := h1
    subst h1
    refine ⟨_,cs,[],[_],us',[],h,rfl,h2,⟨_,u8T,[],rfl,⟨by simp,.inl ⟨rfl,rfl⟩⟩,rfl,rfl,fun _=>rfl⟩,rfl,fun q hq => by cases hq⟩
   ·rename_i o
    split at h
    ·rename_i e' xs ho
     split at h
     ·rename_i he
      subst he
      obtain ⟨hlt,rfl⟩ := h1
      obtain ⟨et,cells,k1,k2,k3,k4,_,_,k5⟩ := hs.row_at ho
      refine ⟨_,cs,[o],[_],us',(c.blk o).toList,h,rfl,h2,⟨_,et,cells,rfl,k1,k2,by rw [k3],k5⟩,?_,fun q hq => ?_⟩
      ·cases hb : c.blk o <;> simp [List.filterMap,hb]
      ·rw [vak.1 hq,ho]; exact ⟨rfl,rfl⟩
     ·cases h
    ·cases h
   ·cases h
 | .map ka k ea e,cs,us,K,r,hr,h => by
  cases cs with
  | nil => simp [shutD] at h
  | cons v cs =>
   obtain ⟨u,us',rfl,h1,h2⟩ := hr
   unfold shutD at h
   split at h
   ·rename_i o
    split at h
    ·rename_i ka' k' ea' e' xs ho
     split at h
     ·rename_i hab
      simp only [vab,beq_iff_eq] at hab
      obtain ⟨rfl,rfl⟩ := hab
      split at h
      ·rename_i he
       obtain ⟨rfl,rfl⟩ := he
       obtain ⟨b,es,clock,h0,hbk,hh,hre,hsb,hhd,hbo⟩ := hs.map_at ho
       obtain ⟨hlt,rfl⟩ := h1
       refine ⟨_,cs,[o],[_],us',[b],h,rfl,h2,⟨b,es,clock,by rw [hhd],hh,hre,hbo,rfl⟩,?_,fun q hq => ?_⟩
       ·simp [List.filterMap,hbk]
       ·rw [vak.1 hq,ho]; exact ⟨rfl,rfl⟩
      ·cases h
     ·cases h
    ·cases h
   ·cases h
 | .pair a b,cs,us,K,r,hr,h => by
  unfold shutD at h
  obtain ⟨x,rest,g,u1,u2,B,h,e,hr2,hc,hB,hg⟩ := qe9 hs a cs us hr h
  obtain ⟨y,rest',g',u3,u4,B',h,e',hr3,hc',hB',hg'⟩ := qe9 hs b rest u2 hr2 h
  exact ⟨(x,y),rest',g ++ g',u1 ++ u3,u4,B ++ B',h,by rw [e,e',vaj],hr3,⟨u1,u3,B,B',rfl,rfl,hc,hc'⟩,by rw [hB,hB',vbs],fun q hq => (vae.1 hq).elim (hg q) (hg' q)⟩
theorem qga {g : List Nat} {q : Nat} (hq : q ∈ (deads g).map (·.1)) : look .dead (deads g) q = .dead /\ q ∈ g := by
 have := qhB (AObj.dead) hq
 obtain ⟨p,hp,e⟩ := vbd.1 this
 have e1 : p = q := congrArg Prod.fst e
 have e2 : AObj.dead = look .dead (deads g) q := congrArg Prod.snd e
 exact ⟨e2.symm,e1 ▸ hp⟩
theorem qfS {c : Ctx} {objs : Objs} (hs : SOK c objs) {o : Nat} {K : Objs → Option R} {r : R} (h : shutN objs o K = some r) :
    ∃ ch c',K ch = some r ∧ c'.w = c.w ∧ c'.nx = c.nx ∧ (∀ q ∈ ch.map (·.1),(look .dead objs q).mut = true ∧ q < c.nx) ∧ ∀ v u,(Step c c' (Dof c objs ch) → Rel c' v u) → Done c objs c' v u ch c.nx := by
  unfold shutN at h
  split at h
  · rename_i d xs ix cs ho
    obtain ⟨h0,et,cells,B1,B2,pre,mid,post,b,h1,h2,h3,h4,h5,h6,h7,h8,h9,h10,h11,h12,h13,h14⟩ := hs.nest_hole ho
    obtain ⟨x,rest,g,u1,u2,Bx,h,e,hr2,hc,hB,hg⟩ := qe9 hs d cs mid h4 h
    split at h
    · rename_i hgo
      simp only [vab,vat] at hgo
      obtain ⟨hn,hno⟩ := hgo
      have hn := qeN.1 hn
      have hno : o ∉ g := fun k => by rw [qaJ.2 k] at hno; cases hno
      have : u2 = [] := hr2
      subst this
      rw [vaS] at e
      subst e
      let ch : Objs := (o,.nest (.row d (xs.set ix x))) :: deads g
      let B := B1 ++ Bx ++ B2
      let c' : Ctx := { c with sub := fun q g => if q = o then g ∈ B else c.sub q g }
      have hmut : (look .dead objs o).mut = true := by rw [ho]; rfl
      have hkeys : ∀ q,q ∈ ch.map (·.1) → q = o ∨ (q ≠ o ∧ q ∈ g ∧ look .dead ch q = .dead) := fun q hq => by
        by_cases hqo : q = o
        · exact .inl hqo
        · refine .inr ⟨hqo,?_⟩
          have hq' : q ∈ (deads g).map (·.1) := by
            rcases vap.1 hq with h | h
            · exact absurd h hqo
            · exact h
          obtain ⟨k1,k2⟩ := qga hq'
          exact ⟨k2,by rw [qau,if_neg (Ne.symm hqo)]; exact k1⟩
      have hoo : look .dead ch o = .nest (.row d (xs.set ix x)) := by rw [qau,if_pos rfl]
      have hBx : ∀ y,y ∈ Bx → ∃ q ∈ g,c.blk q = some y := fun y hy => by
        rw [hB] at hy
        obtain ⟨q,hq,e⟩ := vaR.1 hy
        exact ⟨q,hq,e⟩
      have hgk : ∀ q ∈ g,q ∈ ch.map (·.1) := fun q hq => vau _ (by
        show q ∈ (g.map fun o => (o,AObj.dead)).map (·.1)
        rw [vbe]; exact vbd.2 ⟨q,hq,rfl⟩)
      have hD : ∀ y,c.has o y → Dof c objs ch y := fun y hy => ⟨o,vad,hmut,hy⟩
      have hDg : ∀ q ∈ g,∀ y,c.blk q = some y → Dof c objs ch y := fun q hq y hy => ⟨q,hgk q hq,(hg q hq).1,.inl hy⟩
      have hhas : ∀ y,c'.has o y → Dof c objs ch y := fun y hy => by
        rcases hy with hy | hy
        · exact hD y (.inl hy)
        · have hy : (if o = o then y ∈ B else c.sub o y) := hy
          rw [if_pos rfl] at hy
          rcases vae.1 hy with hy | hy
          · rcases vae.1 hy with hy | hy
            · exact hD y (.inr ((h11 y).2 (vag _ hy)))
            · obtain ⟨q,hq,e⟩ := hBx y hy
              exact hDg q hq y e
          · exact hD y (.inr ((h11 y).2 (vaf _ hy)))
      have hst : Step c c' (Dof c objs ch) := by
        refine ⟨rfl,rfl,rfl,vac _,vac _,fun q hq => rfl,fun q hq => rfl,fun q _ hn y => ?_,fun _ _ _ => rfl,fun _ _ _ => Iff.rfl,fun _ _ _ => Iff.rfl,fun y h => h.sb hs⟩
        by_cases hq : q = o
        · subst hq; exact absurd (hD b (.inl h10)) (hn b (.inl h10)).1
        · show (if q = o then y ∈ B else c.sub q y) ↔ _
          rw [if_neg hq]
      have hmo : ∀ q,q ∈ ch.map (·.1) → (look .dead ch q).mut = true → q = o := fun q hq hm => by
        rcases hkeys q hq with h | ⟨_,_,h⟩
        · exact h
        · rw [h] at hm; cases hm
      have hxn : Bx.Nodup := by
        rw [hB]
        exact qlG hn fun p hp q hq y e1 e2 => hs.inj p q y (hg p hp).1 (hg q hq).1 (.inl e1) (.inl e2)
      have hxo : ∀ y ∈ Bx,¬ c.has o y := fun y hy ho' => by
        obtain ⟨q,hq,e⟩ := hBx y hy
        have := hs.inj q o y (hg q hq).1 hmut (.inl e) ho'
        subst this; exact hno hq
      refine ⟨ch,c',h,rfl,rfl,fun q hq => ?_,fun v u hv => ⟨hst,hs.step hst (fun q hq => ?_) (fun q y hq hm hy => .inr (hhas y (hmo q hq hm ▸ hy))) (fun q1 q2 y k1 k2 m1 m2 _ _ => (hmo q1 k1 m1).trans (hmo q2 k2 m2).symm) (fun q hq y hy => ?_) hs.sub hs.bd hs.one,hv hst,rfl,fun q y hq hm hy => ?_,fun q hq => ?_⟩⟩
      · rcases hkeys q hq with rfl | ⟨_,hqg,_⟩
        · exact ⟨hmut,h0⟩
        · exact ⟨(hg q hqg).1,hs.lt (hg q hqg).1⟩
      · rcases hkeys q hq with rfl | ⟨_,_,hd⟩
        · rw [hoo]
          refine ⟨h0,et,cells,B,by rw [vbi]; exact h1,by rw [h2]; exact CellsDL.join h6 h3 hc h5,h9,fun y => ?_,?_,fun y hy => ?_,h14⟩
          · show (if q = q then y ∈ B else c.sub q y) ↔ _
            rw [if_pos rfl]
          · show ((c.blk q).toList ++ B).Nodup
            rw [h10]
            show (b :: B).Nodup
            obtain ⟨n1,n2⟩ := vaq.1 h12
            obtain ⟨n3,n4,n5⟩ := vam.1 n2
            refine vaq.2 ⟨fun k => ?_,vam.2 ⟨vam.2 ⟨n3,hxn,fun y hy z hz e => ?_⟩,n4,fun y hy z hz e => ?_⟩⟩
            · rcases vae.1 k with k | k
              · rcases vae.1 k with k | k
                · exact n1 (vag _ k)
                · exact hxo b k (.inl h10)
              · exact n1 (vaf _ k)
            · subst e; exact hxo y hz (.inr ((h11 y).2 (vag _ hy)))
            · subst e
              rcases vae.1 hy with hy | hy
              · exact n5 y hy y hz rfl
              · exact hxo y hy (.inr ((h11 y).2 (vaf _ hz)))
          · rcases hy with hy | hy
            · exact h13 y (.inl hy)
            · have hy : (if q = q then y ∈ B else c.sub q y) := hy
              rw [if_pos rfl] at hy
              rcases vae.1 hy with hy | hy
              · rcases vae.1 hy with hy | hy
                · exact h13 y (.inr ((h11 y).2 (vag _ hy)))
                · obtain ⟨p,hp,e⟩ := hBx y hy
                  exact hs.mutSB (hg p hp).1 (.inl e)
              · exact h13 y (.inr ((h11 y).2 (vaf _ hy)))
        · rw [hd]; exact trivial
      · have hy : (if q = o then y ∈ B else c.sub q y) := hy
        by_cases hqo : q = o
        · subst hqo
          rw [qaz,if_pos (show q ∈ ch.map (·.1) from vad),hoo] at hq; cases hq
        · rw [if_neg hqo] at hy
          rw [qaz] at hq
          split at hq
          · rename_i hm
            obtain ⟨_,hqg,_⟩ := (hkeys q hm).resolve_left hqo
            exact hs.flat q (hg q hqg).2 y hy
          · exact hs.flat q hq y hy
      · rw [qaz,if_pos hq] at hm
        exact .inr (hhas y (hmo q hq hm ▸ hy))
      · rcases hkeys q hq with rfl | ⟨_,hqg,_⟩
        · exact h0
        · exact hs.lt (hg q hqg).1
    · cases h
  · refine ⟨[],c,h,rfl,rfl,fun q hq => (by cases hq),fun v u hv => Done.pure hs (hv ⟨rfl,rfl,rfl,vac _,vac _,fun _ _ => rfl,fun _ _ => rfl,fun _ _ _ _ => Iff.rfl,fun _ _ _ => rfl,fun _ _ _ => Iff.rfl,fun _ _ _ => Iff.rfl,fun b ⟨o,ho,_⟩ => (by cases ho)⟩)⟩
theorem SOK.back {c c' : Ctx} {objs ch : Objs} (hs : SOK c objs) (h : Step c c' (Dof c objs ch)) {q : Nat} (hq : q ∉ ch.map (·.1)) (mq : (look .dead objs q).mut = true) (b : Nat) : c'.has q b ↔ c.has q b := by
 have hnd : ∀ b,c.has q b -> ¬ Dof c objs ch b := fun b hb ⟨o2,ho2,hm2,hb2⟩ => by
  have := hs.inj q o2 b mq hm2 hb hb2
  subst this; exact hq ho2
 unfold Ctx.has
 rw [h.blk q (hs.lt mq),h.under q (hs.lt mq) (fun g hg => ⟨hnd g hg,hs.bd g (hs.sub g (hs.mutSB mq hg))⟩) b]
theorem Done.trans {c c1 c2 : Ctx} {objs ch1 ch2 : Objs} {v1 v : V} {u1 u : Value} {n1 n2 : Nat} (hs : SOK c objs) (h1 : Done c objs c1 v1 u1 ch1 n1) (h2 : Done c1 (ch1 ++ objs) c2 v u ch2 n2) : Done c objs c2 v u (ch2 ++ ch1) n2 := by
 have hs1 := h1.ok
 have hD1 : ∀ b,Dof c objs ch1 b -> Dof c objs (ch2 ++ ch1) b := fun b ⟨o,ho,hm,hb⟩ => ⟨o,by rw [vax]; exact vaf _ ho,hm,hb⟩
 have hA : ∀ b,Dof c1 (ch1 ++ objs) ch2 b -> c.w.heap.size <= b \/ Dof c objs (ch2 ++ ch1) b := fun b ⟨o,ho,hm,hb⟩ => by
  by_cases h : o ∈ ch1.map (·.1)
  ·exact (h1.fresh o b h hm hb).imp id (hD1 b)
  ·rw [qaz,if_neg h] at hm
   exact .inr ⟨o,by rw [vax]; exact vag _ ho,hm,(hs.back h1.step h hm b).1 hb⟩
 have hn : ∀ b,b < c.w.heap.size -> ¬ Dof c objs (ch2 ++ ch1) b -> ¬ Dof c1 (ch1 ++ objs) ch2 b := fun b hb hD k => (hA b k).elim (fun h => by omega) hD
 have s1 := h1.step
 have s2 := h2.step
 refine ⟨⟨s2.os.trans s1.os,s2.tape.trans s1.tape,s2.output.trans s1.output,vaW s1.size s2.size,vaW s1.nx s2.nx,fun o ho => (s2.hdr o (vah ho s1.nx)).trans (s1.hdr o ho),fun o ho => (s2.blk o (vah ho s1.nx)).trans (s1.blk o ho),
   fun o ho hD b => ?_,fun b hb hD => (s2.heap b (vah hb s1.size) (hn b hb hD)).trans (s1.heap b hb fun k => hD (hD1 b k)),
   fun b hb hD => (s2.sb b (vah hb s1.size) (hn b hb hD)).trans (s1.sb b hb fun k => hD (hD1 b k)),fun b hb hD => (s2.sa b (vah hb s1.size) (hn b hb hD)).trans (s1.sa b hb fun k => hD (hD1 b k)),fun b hD => hD.sb hs⟩,
  by rw [vaj]; exact h2.ok,h2.rel,h2.nx,fun o b ho hm hb => ?_,fun o ho => ?_⟩
 ·have u1 := s1.under o ho fun g hg => ⟨fun k => (hD g hg).1 (hD1 g k),(hD g hg).2⟩
  have hh : ∀ g,c1.has o g -> c.has o g := fun g hg => hg.imp (fun k => by rw [<- s1.blk o ho]; exact k) (fun k => (u1 g).1 k)
  exact (s2.under o (vah ho s1.nx) (fun g hg => ⟨hn g (hD g (hh g hg)).2 (hD g (hh g hg)).1,vah (hD g (hh g hg)).2 s1.size⟩) b).trans (u1 b)
 ·rw [vaj] at hm
  by_cases h : o ∈ ch2.map (·.1)
  ·rcases h2.fresh o b h hm hb with k | k
   ·exact .inl (vaW s1.size k)
   ·exact hA b k
  ·rw [vax] at ho
   have ho := (vae.1 ho).resolve_left h
   rw [qaz,if_neg h] at hm
   exact (h1.fresh o b ho hm ((hs1.back s2 h hm b).1 hb)).imp id (hD1 b)
 ·rw [vax] at ho
  rcases vae.1 ho with ho | ho
  ·exact h2.ids o ho
  ·have h3 := h1.ids o ho
   have h4 := s2.nx
   rw [h1.nx,h2.nx] at h4
   omega
theorem qfV {c : Ctx} : ∀ (d : DTy) (x : d.den) (cs : List Value) (B : List Nat),CellsD c.w c.SA d x cs B -> RelL c (flatC d x) cs
 | .dat t,x,cs,B,h => qbW false t x cs h.1
 | .row e,x,cs,B,⟨h,_,_,h1,h2,_⟩ => ⟨h,[],h1,qd7 h2,rfl⟩
 | .map ..,x,cs,B,⟨b,_,_,h1,_⟩ => ⟨_,[],h1,rfl,rfl⟩
 | .pair a b,x,cs,B,⟨c1,c2,B1,B2,h1,_,h3,h4⟩ => by
  rw [h1]; exact (qfV a _ _ _ h3).append (qfV b _ _ _ h4)
theorem qpA (pre mid post us : List Value) (off : Nat) (h : off + us.length <= mid.length) : (pre ++ mid ++ post).take (pre.length + off) ++ us ++ (pre ++ mid ++ post).drop (pre.length + off + us.length) = pre ++ (mid.take off ++ us ++ mid.drop (off + us.length)) ++ post := by
 rw [vaj pre mid post,vbE,vbp (by omega),vaw,vbE,show off - mid.length = 0 by omega,List.take_zero,vaS,
  vbH,List.drop_of_length_le (by omega),vbh,show pre.length + off + us.length - pre.length = off + us.length by omega,vbH,show off + us.length - mid.length = 0 by omega,vbl]
 simp [vaj]
theorem holeSet (hT : TabOK P tt) {t : Nat} (hot : (tt.row t).k.isOther = false) {c : Ctx} {objs : Objs} (hs : SOK c objs) {o : Nat} {d : DTy} {xs : List d.den} {ix off : Nat} {cs vs : List V} {uv : Value} (ho : look .dead objs o = .nest (.hole d xs ix cs)) (hv : RelL c vs uv.cells.toList) (hall : vs.all V.isC = true)
  (husz : uv.cells.size = (tt.row t).size) (hle : off + vs.length <= d.size) {b : Nat} (hb : c.blk o = some b) :
  ∃ c',Done c objs c' .undef Go.undef [(o,.nest (.hole d xs ix (setRange cs off vs)))] c.nx /\ (Instr.storeAt t (.pointer (some ⟨b,ix * d.size + off,none⟩)) uv).run P c.w = .ok () c'.w := by
 obtain ⟨h0,et,cells,B1,B2,pre,mid,post,b',h1,h2,h3,h4,h5,h6,h7,h8,h9,h10,h11,h12,h13,h14⟩ := hs.nest_hole ho
 cases hb.symm.trans h10
 have hm : (look .dead objs o).mut = true := by rw [ho]; rfl
 have hul : uv.cells.toList.length = vs.length := hv.len
 have hun : uv.cells.size = vs.length := by rw [<- hul]; simp
 rcases h1.2 with ⟨_,hz⟩ | ⟨g,cap,cur,hhd,_,hh,hcl,hcm,hcs,htk⟩
 ·omega
 have hg : g = b := by rw [hhd,h10] at h9; simpa [Value.ownBlock] using h9
 subst hg
 have hml : mid.length = d.size := by rw [h4.len,h7]
 have hpl := h3.len (fun y cs B h => CellsD.len d y cs B h)
 rw [vaz,vaI (by omega)] at hpl
 have hixs : ix * d.size + d.size <= xs.length * d.size := by rw [<- Nat.succ_mul]; exact vaK _ h6
 have hcur : xs.length * d.size <= cur.size := by rw [hcs]; exact vaK _ hcl
 have hrun := qd3 hT hot (off := ix * d.size + off) hh husz (by rw [hun]; omega) (qgS hs hv hall)
 generalize hcur' : (cur.toList.take (ix * d.size + off) ++ uv.cells.toList ++ cur.toList.drop (ix * d.size + off + uv.cells.toList.length)).toArray = cur' at hrun
 have hsz' : cur'.size = cur.size := by
  rw [<- hcur']
  simp only [vbB,vas,vaz,vbg,vbz,hul]
  omega
 have hseg := qfk cur.toList uv.cells.toList (ix * d.size + off) (xs.length * d.size) (by omega) (by simpa using hcur)
 rw [htk,h2,<- hpl,qpA pre mid post _ off (by omega)] at hseg
 have hlen' : (pre ++ (mid.take off ++ uv.cells.toList ++ mid.drop (off + uv.cells.toList.length)) ++ post).length = xs.length * d.size := by
  have := h1.1
  rw [h2] at this
  simp only [vas,vaz,vbg] at this ⊢
  omega
 have hst := qgQ hs (w := c.w.setRow g cur') (.nest (.hole d xs ix (setRange cs off vs))) hm hb rfl rfl rfl (by simp) fun k hk => setRow_other _ _ _ _ hk
 have hk := hst.kept hs.sub false
 have hgB : g ∉ B1 ++ B2 := (vaq.1 h12).1
 have hne : ∀ y ∈ B1 ++ B2,(c.w.setRow g cur').heap[y]? = c.w.heap[y]? := fun y hy => setRow_other _ _ _ _ fun e => hgB (e ▸ hy)
 refine ⟨{ c with w := c.w.setRow g cur' },Done.chg hs hm rfl rfl rfl (by simp) (fun k hk => setRow_other _ _ _ _ fun e => hk (e ▸ .inl hb)) rfl rfl rfl rfl rfl (fun _ _ _ => Iff.rfl) (fun _ h => h) ⟨g,.inl hb⟩ (fun h => by cases h)
  ⟨h0,et,_,B1,B2,pre,_,post,g,⟨hlen',.inr ⟨g,cap,cur',hhd,vaH _,setRow_heap _ _ _ _ _ _ hh,hcl,hcm,by rw [hsz',hcs],by rw [<- hcur',<- hpl,vaB]; exact hpl ▸ hseg⟩⟩,rfl,
   CellsDL.mono (p := fun y => (c.w.setRow g cur').heap[y]? = c.w.heap[y]?) (fun y cs B' hh hb => CellsD.mono hk d y cs B' hh hb) _ _ _ h3 (fun y hy => hne y (vag _ hy)),
   RelL.mono hst hs.sub _ _ (((h4.take off).append hv).append (by rw [hul]; exact h4.drop (off + vs.length))),
   CellsDL.mono (p := fun y => (c.w.setRow g cur').heap[y]? = c.w.heap[y]?) (fun y cs B' hh hb => CellsD.mono hk d y cs B' hh hb) _ _ _ h5 (fun y hy => hne y (vaf _ hy)),
   h6,?_,qeo h8 hall,h9,hb,h11,h12,h13,h14⟩ (fun _=>trivial),hrun⟩
 unfold setRange
 simp only [vas,vaz,vbg]
 omega
theorem qn6 {c : Ctx} {objs : Objs} (hs : SOK c objs) {o ix : Nat} {d : DTy} {xs : List d.den} (ho : look .dead objs o = .nest (.row d xs)) (hix : ix < xs.length) :
  ∃ b mid,c.blk o = some b /\ RelL c (flatC d (xs.getD ix d.dflt)) mid /\ At c.w b (ix * d.size) mid := by
 obtain ⟨h0,et,cells,B,h1,h2,h3,h4,h5,h6,h7⟩ := hs.nest_row ho
 obtain ⟨pre,mid,post,B1,Bx,B2,e1,e2,k1,k2,k3⟩ := CellsDL.split d.dflt h2 hix
 obtain ⟨b,cap,hb1,hb2⟩ := qfb h1 (by omega)
 have hlen1 := k1.len (fun y cs B h => CellsD.len d y cs B h)
 rw [vaz,vaI (by omega)] at hlen1
 refine ⟨b,mid,by rw [<- h3,hb2],qfV d _ mid Bx k2,fun j u hu => ?_⟩
 have hj : j < mid.length := (vav.1 hu).1
 have := qfW h1 hb2 (ix * d.size + j) u (by
  rw [e1,vaj,vaJ (by omega),hlen1,vaw,vaL hj]; exact hu)
 rwa [vaD] at this
theorem SOK.dhole_at {c : Ctx} {objs : Objs} (hs : SOK c objs) {o : Nat} {d : DTy} {xs : List d.den} {ix : Nat} {cs : List V} (ho : look .dead objs o = .nest (.hole d xs ix cs)) :
  ∃ b cap us,c.hdr o = .slice (some ⟨b,0,none⟩) xs.length cap /\ c.blk o = some b /\ RelL c cs us /\ At c.w b (ix * d.size) us := by
 obtain ⟨h0,et,cells,B1,B2,pre,mid,post,b,h1,h2,h3,h4,h5,h6,h7,h8,h9,h10,h11,h12,h13,h14⟩ := hs.nest_hole ho
 obtain ⟨b',cap,hb1,hb2⟩ := qfb h1 (by omega)
 rw [h9,h10] at hb2
 cases hb2
 have hlen1 := h3.len (fun y cs B h => CellsD.len d y cs B h)
 rw [vaz,vaI (by omega)] at hlen1
 refine ⟨b,cap,mid,hb1,h10,h4,fun j u hu => ?_⟩
 have hj : j < mid.length := (vav.1 hu).1
 have := qfW h1 (by rw [h9,h10]) (ix * d.size + j) u (by
  rw [h2,vaj,vaJ (by omega),hlen1,vaw,vaL hj]; exact hu)
 rwa [vaD] at this
theorem qlm {d : DTy} {x : d.den} {nx q o : Nat} {y : AObj} (hq : q ∈ ((o,y) :: openO d x nx).map (·.1)) (hlt : q < nx) : q = o := by
 have hq : q ∈ o :: (openO d x nx).map (·.1) := hq
 rw [qeM] at hq
 rcases vap.1 hq with h | h
 ·exact h
 ·have := (vbC.1 h).1; omega
theorem qkL (hT : TabOK P tt) {t : Nat} {objs : Objs} {a : V} {md : List Nat} {K : V -> Objs -> Nat -> Option R} {r : R} {c : Ctx} (hs : SOK c objs) {u : Value} (ha : Rel c a u) (h : loadN tt objs c.nx t a md K = some r) :
  ∃ v ch nx' z c',K v ch nx' = some r /\ Done c objs c' v z ch nx' /\ (Instr.loadAt t u).run P c.w = .ok z c'.w /\ ∀ o' ∈ ch.map (·.1),o' < c.nx -> o' ∈ md := by
 unfold loadN at h
 split at h
 ·rename_i o ix es off hot
  split at h
  ·rename_i d xs ho
   split at h
   ·rename_i hes
    have hes : es = d.size := vaa hes
    subst hes
    obtain ⟨hix,h⟩ := qa5 h
    obtain ⟨_,b,hb,rfl⟩ := ha
    split at h
    ·split at h
     ·rename_i hm
      rw [qbF] at h
      obtain ⟨c',b',mid,hw,hb',hnx,hbk,hr,hat,hd⟩ := qim hs ho hix
      cases hb.symm.trans hb'
      have hat' : At c'.w b (ix * d.size) mid := by rw [hw]; exact hat
      obtain ⟨v,z,h1,h2,h3⟩ := qcc hT hot (hr.drop off) (hat'.drop off) h
      exact ⟨v,_,_,z,c',h1,hd v z fun _=>h2,by rw [hw] at h3 ⊢; simp [Instr.loadAt,Instr.sureAddr,h3],fun q hq hlt => qlm hq hlt ▸ qaJ.1 hm⟩
     ·cases h
    ·obtain ⟨b',mid,hb',hr,hat⟩ := qn6 hs ho hix
     cases hb.symm.trans hb'
     obtain ⟨v,z,h1,h2,h3⟩ := qcc hT hot (hr.drop off) (hat.drop off) h
     exact ⟨v,[],_,z,c,h1,Done.pure hs h2,by simp [Instr.loadAt,Instr.sureAddr,h3],fun q hq => by cases hq⟩
   ·cases h
  ·rename_i d xs jx cs ho
   split at h
   ·rename_i hes
    have hes : es = d.size := vaa hes
    subst hes
    obtain ⟨he,hk⟩ := qa5 h
    subst he
    obtain ⟨_,b,hb,rfl⟩ := ha
    obtain ⟨b',cap,us,_,hb',hr,hat⟩ := hs.dhole_at ho
    cases hb.symm.trans hb'
    obtain ⟨v,z,h1,h2,h3⟩ := qcc hT hot (hr.drop off) (hat.drop off) hk
    exact ⟨v,[],_,z,c,h1,Done.pure hs h2,by simp [Instr.loadAt,Instr.sureAddr,h3],fun q hq => by cases hq⟩
   ·cases h
  ·cases h
 ·cases h
theorem qjC (hT : TabOK P tt) {t : Nat} {objs : Objs} {c : Ctx} (hs : SOK c objs) {a v : V} {ua uv : Value} (ha : Rel c a ua) (hv : Rel c v uv) {md : List Nat} {K : Objs -> Nat -> Option R} {r : R} (h : storeN tt objs c.nx t a v md K = some r) :
  ∃ ch nx' c',K ch nx' = some r /\ Done c objs c' .undef Go.undef ch nx' /\ (Instr.storeAt t ua uv).run P c.w = .ok () c'.w /\ ∀ o' ∈ ch.map (·.1),o' < c.nx -> o' ∈ md := by
 unfold storeN at h
 dsimp only at h
 split at h
 ·cases h
 ·rename_i hc
  simp only [vab,vat] at hc
  obtain ⟨⟨hlen,hall⟩,hot⟩ := hc
  have hlen : (vcells v).length = (tt.row t).size := vaa hlen
  have hvc := qb9 hs hv hall
  have husz : uv.cells.size = (tt.row t).size := by rw [<- hlen,<- hvc.len]; simp
  split at h
  ·rename_i o ix es off
   split at h
   ·rename_i d xs ho
    split at h
    ·rename_i hcc
     simp only [vab] at hcc
     obtain ⟨⟨h1,h2⟩,h3⟩ := hcc
     have hes : es = d.size := vaa h1
     have hle : off + (vcells v).length <= d.size := vay h2
     subst hes
     obtain ⟨hix,h⟩ := qa5 h
     rw [qbF] at h
     obtain ⟨_,b,hb,rfl⟩ := ha
     obtain ⟨c',b',mid,hw,hb',hnx,hbk,hr,hat,hd⟩ := qim hs ho hix
     cases hb.symm.trans hb'
     have hd1 := hd .undef Go.undef fun _=>trivial
     obtain ⟨c2,hd2,hrun⟩ := holeSet hT hot hd1.ok (o := o) (d := d) (xs := xs) (ix := ix) (off := off) (cs := openC d (xs.getD ix d.dflt) c.nx) (by rw [List.cons_append,qau,if_pos rfl]) (RelL.mono hd1.step hs.sub _ _ hvc) hall husz hle hbk
     have hfin := Done.trans hs hd1 hd2
     rw [hnx] at hfin
     refine ⟨_,_,c2,h,hfin,by rw [<- hw]; exact hrun,fun q hq hlt => ?_⟩
     have hq : q ∈ o :: o :: (openO d (xs.getD ix d.dflt) c.nx).map (·.1) := hq
     rcases vap.1 hq with rfl | hq
     ·exact qaJ.1 h3
     ·rw [qlm (y := .dead) hq hlt]; exact qaJ.1 h3
    ·cases h
   ·rename_i d xs jx cs ho
    split at h
    ·rename_i hcc
     simp only [vab] at hcc
     obtain ⟨⟨h1,h2⟩,h3⟩ := hcc
     have hes : es = d.size := vaa h1
     have hle : off + (vcells v).length <= d.size := vay h2
     subst hes
     obtain ⟨he,hk⟩ := qa5 h
     subst he
     obtain ⟨_,b,hb,rfl⟩ := ha
     obtain ⟨c2,hd2,hrun⟩ := holeSet hT hot hs ho hvc hall husz hle hb
     exact ⟨_,_,c2,hk,hd2,hrun,fun q hq _ => by simp at hq; subst hq; exact qaJ.1 h3⟩
    ·cases h
   ·cases h
  ·cases h
theorem dhdr {c : Ctx} {objs : Objs} (hs : SOK c objs) {o : Nat} {d : DTy} {xs : List d.den} (ho : look .dead objs o = .nest (.row d xs)) : ∃ a cap,c.hdr o = .slice a xs.length cap /\ (0 < xs.length -> ∃ b,a = some ⟨b,0,none⟩ /\ c.blk o = some b) := by
 obtain ⟨h0,et,cells,B,h1,h2,h3,h4,h5,h6,h7⟩ := hs.nest_row ho
 rcases h1.2 with ⟨h,hz⟩ | ⟨g,cap,cur,h,_⟩
 ·exact ⟨none,0,by rw [h,hz],fun hp => by omega⟩
 ·exact ⟨_,cap,h,fun _=>⟨g,rfl,by rw [<- h3,h]; rfl⟩⟩
theorem qgJ (hT : TabOK P tt) {t : Nat} {objs : Objs} {x i : V} {K : V -> Option R} {r : R} {c : Ctx} (hs : SOK c objs) {u ui : Value} (hx : Rel c x u) (hi : Rel c i ui) (h : indexAddrN tt objs t x i K = some r) :
  ∃ q z,K q = some r /\ Rel c q z /\ (Instr.indexAt t u ui).run P c.w = .ok z c.w := by
 unfold indexAddrN at h
 split at h
 ·rename_i kk n o
  simp only [Rel] at hi
  subst hi
  obtain ⟨hlt,rfl⟩ := hx
  split at h
  ·rename_i et hk
   split at h
   ·rename_i d xs hot ho
    split at h
    ·rename_i hes
     have hes : (tt.row et).size = d.size := vaa hes
     obtain ⟨⟨h0,h1⟩,h⟩ := qa5 h
     obtain ⟨a,k,hh,hp⟩ := dhdr hs ho
     obtain ⟨b,rfl,hbk⟩ := hp (by omega)
     have hrun := qc2 hT hk hot c.w b 0 xs.length k kk n h0 h1
     rw [<- hh,vaD,hes] at hrun
     exact ⟨_,_,h,⟨hlt,b,hbk,rfl⟩,hrun⟩
    ·cases h
   ·rename_i d xs _ _ hot ho
    split at h
    ·rename_i hes
     have hes : (tt.row et).size = d.size := vaa hes
     obtain ⟨⟨h0,h1⟩,h⟩ := qa5 h
     obtain ⟨b,k,_,hh,hbk,_,_⟩ := hs.dhole_at ho
     have hrun := qc2 hT hk hot c.w b 0 xs.length k kk n h0 h1
     rw [<- hh,vaD,hes] at hrun
     exact ⟨_,_,h,⟨hlt,b,hbk,rfl⟩,hrun⟩
    ·cases h
   ·cases h
  ·cases h
 ·cases h
theorem qma (hT : TabOK P tt) {t : Nat} {objs : Objs} {x : V} {K : V -> Option R} {r : R} {c : Ctx} (hs : SOK c objs) {u : Value} (hx : Rel c x u) (hk : lenOK (tt.row t).k x = true) (ty : TypeId) (h : lenN objs x K = some r) :
  ∃ q z,K q = some r /\ Rel c q z /\ (Builtin.len_ #[t] ty #[u]).run P c.w = .ok z c.w := by
 unfold lenN at h
 split at h
 ·split at h
  ·rename_i d xs ho
   obtain ⟨_,rfl⟩ := hx
   obtain ⟨a,k,hh,_⟩ := dhdr hs ho
   obtain ⟨e,_,ht⟩ := hT.sl (t := t) hk
   rw [hh]
   exact ⟨_,_,h,rfl,by simp [Builtin.len_,run_underlying ht,goInt]⟩
  ·rename_i d xs _ _ ho
   obtain ⟨_,rfl⟩ := hx
   obtain ⟨b,k,_,hh,_⟩ := hs.dhole_at ho
   obtain ⟨e,_,ht⟩ := hT.sl (t := t) hk
   rw [hh]
   exact ⟨_,_,h,rfl,by simp [Builtin.len_,run_underlying ht,goInt]⟩
  ·cases h
 ·cases h
theorem qge (hT : TabOK P tt) {t len : Nat} {d : DTy} {objs : Objs} {c : Ctx} (hs : SOK c objs) {env : Env} {a : Act} (he : EnvRel c env a) (ps : Array (Nat × Operand)) {K : V -> Objs -> Nat -> Option R} {r : R}
  (h : buildSliceN tt c.nx d t len (ps.toList.map fun p => (p.1,evalO env p.2)) K = some r) :
  ∃ q ch nx' u c',K q ch nx' = some r /\ Done c objs c' q u ch nx' /\ (Instr.buildSlice t len (ps.map fun (i,x) => (i,a.eval x))).run P c.w = .ok u c'.w /\ ∀ o ∈ ch.map (·.1),¬ o < c.nx := by
 unfold buildSliceN at h
 split at h
 ·rename_i p hps
  split at h
  ·rename_i hc
   simp only [vab,vat,decide_eq_false_iff_not] at hc
   obtain ⟨⟨⟨⟨⟨⟨⟨⟨⟨c1,c2⟩,c3⟩,c4⟩,hsl⟩,hot⟩,c7⟩,c8⟩,hall⟩,hu8⟩ := hc
   have hlen : len = 1 := vaa c1
   have hp0 : p.1 = 0 := vaa c2
   have hle : d.size <= 16777216 := vay c3
   have hpos : 1 <= d.size := vay c4
   obtain ⟨p0,hp,rfl⟩ : ∃ p0,ps.toList = [p0] /\ (p0.1,evalO env p0.2) = p := by
    match hq : ps.toList with
    | [] => rw [hq] at hps; cases hps
    | [p0] => rw [hq] at hps; exact ⟨p0,rfl,by cases hps; rfl⟩
    | _ :: _ :: _ => rw [hq] at hps; cases hps
   obtain ⟨i0,x0⟩ := p0
   have hp0 : i0 = 0 := hp0
   subst hp0 hlen
   have hvl : (vcells (evalO env x0)).length = d.size := vaa c8
   have hvc := qb9 hs (qaw he x0) hall
   obtain ⟨et,hk,hu⟩ := hT.sl hsl
   have het : elemOf tt t = et := by simp [elemOf,hk]
   rw [het] at hot c7
   have hsz7 : (tt.row et).size = d.size := vaa c7
   obtain ⟨dd,i,z,hd0,hi,hz,_,hsz,hby,hzs,_,_,_⟩ := (hT.row hot).out
   rw [hsz7] at hsz hzs
   generalize hnews : (a.eval x0).cells.toList = news at hvc
   have hnl : news.length = d.size := by rw [hvc.len,hvl]
   have hold : ∀ b,b < c.w.heap.size -> (c.w.alloc (.cells news.toArray et)).heap[b]? = c.w.heap[b]? := fun b hb => Go.RowKit.Below.heap_alloc _ _ _ hb
   let hv : Value := .slice (some ⟨c.w.heap.size,0,none⟩) 1 1
   have hst : Step c (addCtx c (c.w.alloc (.cells news.toArray et)) hv (some c.w.heap.size)) (fun _=>False) :=
    qek _ rfl rfl rfl (by simp) (fun b hb _ => hold b hb) (fun b h => by cases h; exact .inl (vac _)) (fun b h => h.elim)
   have hfl : ∀ b,¬ c.sub c.nx b := hs.flat c.nx (by rw [hs.dead_ge (vac _)]; rfl)
   have hdone := Done.new (v := .own c.nx) (u := hv) hs (w := c.w.alloc (.cells news.toArray et)) (hv := hv) (bo := some c.w.heap.size) (x := .nest (.hole d [d.dflt] 0 (vcells (evalO env x0)))) rfl rfl rfl (by simp) hold (fun b h => by cases h; exact ⟨vac _,by simp⟩) rfl
    ⟨vao _,et,news,[],[],[],news,[],c.w.heap.size,by
     refine ⟨by rw [hnl]; simp,.inr ⟨c.w.heap.size,1,news.toArray,by simp [addCtx,hv],vaH _,heap_alloc_new _ _,vac _,by unfold maxLen; omega,by simp [hnl],by rw [vbp]; simp [hnl]⟩⟩,by simp,⟨rfl,rfl⟩,RelL.mono hst hs.sub _ _ hvc,⟨rfl,rfl⟩,Nat.zero_lt_one,hvl,hall,by simp [addCtx,hv,Value.ownBlock],by simp [addCtx],fun b => ⟨fun h => (hfl b h).elim,fun h => by cases h⟩,by simp,fun b hb => ?_,fun h => absurd h hu8⟩ ⟨vao _,by simp [addCtx]⟩
   ·refine ⟨_,_,_,_,_,h,hdone,?_,fun o ho => by simp at ho; omega⟩
    have h16 : ¬ (1 * d.size > 2 ^ 24) := by omega
    have hps2 : (ps.map fun (i,x) => (i,a.eval x)).toList = [(0,a.eval x0)] := by simp [hp]
    have hfill := qf4 d.size [((0 : Nat),a.eval x0)] 0 (((vby (1 * d.size)).map (z.cells[· % z.cells.size]!)).toList) (fun j hj => by
     have : j = 0 := by simpa using hj
     subst this; rfl) (fun q hq => by
     rw [vak.1 hq]
     show (a.eval x0).cells.size = _
     have := hnl
     rw [<- hnews] at this
     simpa using this) (by simp)
    have hfm : ([((0 : Nat),a.eval x0)] : List (Nat × Value)).flatMap (fun p => p.2.cells.toList) = news := by simp [hnews]
    rw [hfm] at hfill
    simp only [vbv,List.take_zero,vbh] at hfill
    have hrow : (newRow et news.toArray).run P c.w = .ok ⟨c.w.heap.size,0,none⟩ (c.w.alloc (.cells news.toArray et)) := rfl
    have h0 : ¬ (1 * d.size = 0) := by omega
    unfold Instr.buildSlice
    simp only [Sem.run_bind,run_underlying hu,Result.andThen_ok,sizeOf,typeInfo,hi,hsz,run_program,Sem.run_pure,if_neg h16]
    rw [hps2,if_neg h0]
    simp only [Sem.run_bind,Sem.run_pure,Result.andThen_ok,zeroValue,typeInfo,hi,hz,run_program]
    have harr : (vby (1 * d.size)).map (z.cells[· % z.cells.size]!) = (((vby (1 * d.size)).map (z.cells[· % z.cells.size]!)).toList).toArray := by rw [vbu]
    rw [harr,hfill]
    simp [hrow,hv,addCtx]
   ·rcases hb with hb | hb
    ·right
     simpa [addCtx,eq_comm] using hb
    ·exact (hfl b hb).elim
  ·cases h
 ·cases h
theorem Done.deepNew {c : Ctx} {objs : Objs} (hs : SOK c objs) {L : List Nat} (hL : ∀ q ∈ L,(look .dead objs q).mut = true) {w : World} {hv : Value} {d : DTy} {zs : List d.den} {et : TypeId} {cells : List Value} {B : List Nat}
    (hos : w.os = c.w.os) (htape : w.tape = c.w.tape) (hout : w.output = c.w.output) (hsz : c.w.heap.size ≤ w.heap.size)
    (hheap : ∀ b,b < c.w.heap.size → (∀ q ∈ L,¬ c.has q b) → w.heap[b]? = c.w.heap[b]?) (hB : ∀ b ∈ B,w.heap[b]? = c.w.heap[b]? ∧ ∃ q ∈ L,c.has q b)
    (hown : w.ownsRow 0 et d.size hv zs.length cells) (hc : CellsDL (CellsD c.w c.SA d) zs cells B) (hb : ∀ b,hv.ownBlock = some b → c.w.heap.size ≤ b ∨ ∃ q ∈ L,c.has q b) (hnd : (hv.ownBlock.toList ++ B).Nodup) (hty : TyOK d.er et) :
    ∃ c',c'.w = w ∧ c'.nx = c.nx + 1 ∧ Done c objs c' (.own c.nx) hv ((c.nx,.nest (.row d zs)) :: deads L) (c.nx + 1) := by
  let c' : Ctx := { w := w,nx := c.nx + 1,hdr := fun o => if o = c.nx then hv else c.hdr o,blk := fun o => if o = c.nx then hv.ownBlock else c.blk o,sub := fun q g => if q = c.nx then g ∈ B else c.sub q g ∧ q ∉ L,SB := fun b => c.SB b ∨ hv.ownBlock = some b,SA := fun b => c.SA b ∨ hv.ownBlock = some b }
  let ch : Objs := (c.nx,.nest (.row d zs)) :: deads L
  have hlt : ∀ q ∈ L,q < c.nx := fun q hq => hs.lt (hL q hq)
  have hkeys : ∀ q,q ∈ ch.map (·.1) → q = c.nx ∨ (q ≠ c.nx ∧ q ∈ L ∧ look .dead ch q = .dead) := fun q hq => by
    by_cases hqo : q = c.nx
    · exact .inl hqo
    · refine .inr ⟨hqo,?_⟩
      have hq' : q ∈ (deads L).map (·.1) := by
        rcases vap.1 hq with h | h
        · exact absurd h hqo
        · exact h
      obtain ⟨k1,k2⟩ := qga hq'
      exact ⟨k2,by rw [qau,if_neg (Ne.symm hqo)]; exact k1⟩
  have hgk : ∀ q ∈ L,q ∈ ch.map (·.1) := fun q hq => vau _ (by
    show q ∈ (L.map fun o => (o,AObj.dead)).map (·.1)
    rw [vbe]; exact vbd.2 ⟨q,hq,rfl⟩)
  have hoo : look .dead ch c.nx = .nest (.row d zs) := by rw [qau,if_pos rfl]
  have hD : ∀ q ∈ L,∀ y,c.has q y → Dof c objs ch y := fun q hq y hy => ⟨q,hgk q hq,hL q hq,hy⟩
  have hhas : ∀ y,c'.has c.nx y → hv.ownBlock = some y ∨ y ∈ B := fun y hy => by
    rcases hy with hy | hy
    · have hy : (if c.nx = c.nx then hv.ownBlock else c.blk c.nx) = some y := hy
      rw [if_pos rfl] at hy; exact .inl hy
    · have hy : (if c.nx = c.nx then y ∈ B else c.sub c.nx y ∧ c.nx ∉ L) := hy
      rw [if_pos rfl] at hy; exact .inr hy
  have hfr : ∀ y,c'.has c.nx y → c.w.heap.size ≤ y ∨ Dof c objs ch y := fun y hy => by
    rcases hhas y hy with h | h
    · exact (hb y h).imp id fun ⟨q,hq,h⟩ => hD q hq y h
    · obtain ⟨_,q,hq,h⟩ := hB y h
      exact .inr (hD q hq y h)
  have hbo : ∀ b,b < c.w.heap.size → ¬ Dof c objs ch b → hv.ownBlock = some b → False := fun b hb1 hb2 h => by
    rcases hb b h with h | ⟨q,hq,h⟩
    · omega
    · exact hb2 (hD q hq b h)
  have hst : Step c c' (Dof c objs ch) := by
    refine ⟨hos,htape,hout,hsz,vbk _,fun q hq => if_neg (vaV hq),fun q hq => if_neg (vaV hq),fun q hq hn y => ?_,fun b hb1 hb2 => hheap b hb1 fun q hq h => hb2 (hD q hq b h),fun b hb1 hb2 => ⟨fun h => h.elim id fun h => (hbo b hb1 hb2 h).elim,.inl⟩,fun b hb1 hb2 => ⟨fun h => h.elim id fun h => (hbo b hb1 hb2 h).elim,.inl⟩,fun y h => h.sb hs⟩
    show (if q = c.nx then y ∈ B else c.sub q y ∧ q ∉ L) ↔ _
    rw [if_neg (vaV hq)]
    exact ⟨And.left,fun h => ⟨h,fun hqL => (hn y (.inr h)).1 (hD q hqL y (.inr h))⟩⟩
  have hk := hst.kept hs.sub false
  have hmo : ∀ q,q ∈ ch.map (·.1) → (look .dead ch q).mut = true → q = c.nx := fun q hq hm => by
    rcases hkeys q hq with h | ⟨_,_,h⟩
    · exact h
    · rw [h] at hm; cases hm
  refine ⟨c',rfl,rfl,hst,hs.step hst (fun q hq => ?_) (fun q y hq hm hy => hfr y (hmo q hq hm ▸ hy)) (fun q1 q2 y k1 k2 m1 m2 _ _ => (hmo q1 k1 m1).trans (hmo q2 k2 m2).symm) (fun q hq y hy => ?_) (fun b h => h.imp (hs.sub b) id) (fun b h => ?_) (fun q hq => ?_),⟨vao _,(if_pos rfl).symm⟩,rfl,fun q y hq hm hy => ?_,fun q hq => ?_⟩
  · rcases hkeys q hq with rfl | ⟨_,_,hd⟩
    · rw [hoo]
      refine ⟨vao _,et,cells,B,?_,CellsDL.mono (p := fun b => w.heap[b]? = c.w.heap[b]?) (fun y cs B' hh hb => CellsD.mono hk d y cs B' hh hb) _ _ _ hc (fun b hb => (hB b hb).1),?_,fun y => ?_,?_,fun y hy => ?_,hty⟩
      · show w.ownsRow 0 et d.size (if c.nx = c.nx then hv else c.hdr c.nx) zs.length cells
        rw [if_pos rfl]; exact hown
      · show (if c.nx = c.nx then hv else c.hdr c.nx).ownBlock = (if c.nx = c.nx then hv.ownBlock else c.blk c.nx)
        rw [if_pos rfl,if_pos rfl]
      · show (if c.nx = c.nx then y ∈ B else c.sub c.nx y ∧ c.nx ∉ L) ↔ _
        rw [if_pos rfl]
      · show ((if c.nx = c.nx then hv.ownBlock else c.blk c.nx).toList ++ B).Nodup
        rw [if_pos rfl]; exact hnd
      · rcases hhas y hy with h | h
        · exact .inr h
        · obtain ⟨_,p,hp,h⟩ := hB y h
          exact .inl (hs.mutSB (hL p hp) h)
    · rw [hd]; exact trivial
  · have hy : (if q = c.nx then y ∈ B else c.sub q y ∧ q ∉ L) := hy
    by_cases hqo : q = c.nx
    · subst hqo
      rw [qaz,if_pos (show c.nx ∈ ch.map (·.1) from vad),hoo] at hq; cases hq
    · rw [if_neg hqo] at hy
      rw [qaz] at hq
      split at hq
      · rename_i hm
        obtain ⟨_,hqg,_⟩ := (hkeys q hm).resolve_left hqo
        exact hy.2 hqg
      · exact hs.flat q hq y hy.1
  · rcases h with h | h
    · exact vah (hs.bd b h) hsz
    · exact (hown.lt b h).2
  · show Value.oneCell' (if q = c.nx then hv else c.hdr q) = true
    split
    · exact qd7 hown
    · exact hs.one q (by change q < c.nx + 1 at hq; omega)
  · rw [qaz,if_pos hq] at hm
    exact hfr y (hmo q hq hm ▸ hy)
  · rcases hkeys q hq with rfl | ⟨_,hqg,_⟩
    · exact vao _
    · exact vbb (hlt q hqg)
theorem qf7 (w : World) (S : Nat -> Prop) : ∀ {d : DTy},d.noMap = true -> CellsD w S d d.dflt (zcells d.er) []
 | .dat t,_ => ⟨qcS w S t,rfl⟩
 | .row e,_ => ⟨.slice none 0 0,u8T,[],rfl,⟨(vbv _).symm,.inl ⟨rfl,rfl⟩⟩,rfl,rfl,fun _=>rfl⟩
 | .map ..,h => by cases h
 | .pair a b,h => by
  unfold DTy.noMap at h
  split at h
  ·rename_i ha
   exact ⟨_,_,[],[],rfl,rfl,qf7 w S ha,qf7 w S h⟩
  ·cases h
theorem CellsDL.ofL {α : Type} {C : α -> List Value -> List Nat -> Prop} : ∀ {xs : List α} {cs : List Value},CellsL (fun x cs => C x cs []) xs cs -> CellsDL C xs cs []
 | [],_,h => ⟨h,rfl⟩
 | _ :: _,_,⟨c1,c2,e,h1,h2⟩ => ⟨c1,c2,[],[],e,rfl,h1,CellsDL.ofL h2⟩
theorem qgH (hT : TabOK P tt) {t : Nat} {objs : Objs} {c : Ctx} (hs : SOK c objs) {d : DTy} {v : V} {u : Value} (hv : Rel c v u) {K : V -> Objs -> Nat -> Option R} {r : R} (h : makeSliceN tt c.nx d t v K = some r) :
  ∃ q ch nx' z c',K q ch nx' = some r /\ Done c objs c' q z ch nx' /\ (Instr.makeSlice t u u).run P c.w = .ok z c'.w /\ ∀ o ∈ ch.map (·.1),¬ o < c.nx := by
 unfold makeSliceN at h
 split at h
 ·rename_i n
  simp only [Rel] at hv; subst hv
  split at h
  ·rename_i e hte hcc
   simp only [vab,vat] at hcc
   obtain ⟨⟨hsl,ho⟩,hm⟩ := hcc
   split at h
   ·rename_i he
    subst he
    obtain ⟨⟨h0,h1,h2⟩,h⟩ := qa5 h
    obtain ⟨et,hk,hu⟩ := hT.sl hsl
    have het : elemOf tt t = et := by simp [elemOf,hk]
    rw [het] at hte ho h2
    obtain ⟨i,z,hi,hz,hsz,hby,hzs,hpos,hzc,hty⟩ := hT.elemRow ho hte
    obtain ⟨m,rfl⟩ : ∃ m : Nat,n = m := ⟨n.toNat,by omega⟩
    have hb2 : (tt.row et).bytes * m <= 140737488355328 := by
     have h3 := h2
     rw [<- Int.natCast_mul] at h3
     omega
    have hbb : i.bytes * m <= 281474976710656 := by rw [hby]; omega
    have hmm : m <= maxLen := by unfold maxLen; omega
    rw [erSize hm] at hsz hzs
    obtain ⟨w',hrun,hown,hg⟩ := run_make_full c.w 0 t et i z d.size hu hi hz hsz .i64 .i64 m hbb hmm (vaH _)
    have hcl : CellsL (fun x cs => CellsD c.w c.SA d x cs []) (List.replicate m d.dflt) (madeCells z.cells (m * d.size)).toList := by
     have := qfX (C := fun x cs => CellsD c.w c.SA d x cs []) d.dflt z.cells m (by rw [hzc]; exact qf7 _ _ hm)
     rw [hzs] at this; exact this
    obtain ⟨c',hw,_,hd⟩ := Done.deepNew hs (L := []) (fun q hq => by cases hq) hg.os hg.tape hg.output hg.size (fun b hb _ => hg.block b hb (by simp)) (B := []) (fun b hb => by cases hb) (zs := List.replicate m d.dflt) (by simpa using hown) (CellsDL.ofL hcl) (fun b hb => .inl (by simp [Value.ownBlock] at hb; omega)) (by simp [Value.ownBlock]) hty
    exact ⟨_,_,_,_,c',h,hd,by rw [hw]; exact hrun,fun o ho => by simp [deads] at ho; omega⟩
   ·cases h
  ·cases h
 ·cases h
theorem qen (hT : TabOK P tt) {t : Nat} {objs : Objs} {c : Ctx} (hs : SOK c objs) {hd : Option DTy} {v : V} {u : Value} (hv : Rel c v u) {K : V -> Objs -> Nat -> Option R} {r : R} (h : makeSliceX tt c.nx hd t v K = some r) :
  ∃ q ch nx' z c',K q ch nx' = some r /\ Done c objs c' q z ch nx' /\ (Instr.makeSlice t u u).run P c.w = .ok z c'.w /\ ∀ o ∈ ch.map (·.1),¬ o < c.nx := by
 unfold makeSliceX at h
 split at h
 ·exact qgH hT hs hv h
 ·exact qgG hT hs rfl hv h
theorem qiu {w : World} {es : Nat} {et : TypeId} {z : Value} {olds news : List Value} {old n m : Nat} (hz : z.cells.size = es) (ho : olds.length = n * es) (hn : news.length = m * es) (hmax : n + m <= maxLen) :
  (w.drew.alloc (.cells ((olds ++ news).toArray ++ Builtin.zeroCells z.cells (grownCap w (n + m) old et - (n + m))) et)).ownsRow 0 et es
   (.slice (some ⟨w.heap.size,0,none⟩) (n + m) (grownCap w (n + m) old et)) (n + m) (olds ++ news) := by
 have hge := grownCap_ge w (n + m) old et
 have hcm := grownCap_le_maxLen w (n + m) old et hmax
 have hl : (olds ++ news).length = (n + m) * es := by rw [vas,ho,hn,va8]
 refine ⟨hl,.inr ⟨w.heap.size,_,_,rfl,vaH _,heap_alloc_new w.drew _,hge,hcm,?_,?_⟩⟩
 ·rw [Array.size_append,size_zeroCells,hz,vbB,hl,<- va8]
  congr 1; omega
 ·rw [Array.toList_append,<- hl]
  exact List.take_left
theorem qhY {t t2 ty et e2 : TypeId} {i : TypeInfo} {z : Value} (hu : P.underlying t = some (.slice et)) (hu2 : P.underlying t2 = some (.slice e2)) (hi : P.info? et = some i) (hz : i.zero = some z) {es : Nat} (hzs : z.cells.size = es) (hsz : i.size = es) (w : World) {ud ux : Value} {n m : Nat} {olds news : List Value} {k1 k2 : TypeId}
  (h1 : w.ownsRow 0 k1 es ud n olds) (h2 : w.ownsRow 0 k2 es ux m news) (hone : ∀ u ∈ news,u.oneCell' = true) (hq1 : n + m <= 281474976710656) (hq2 : (n + m) * i.bytes <= 140737488355328) :
  ∃ hv w' k,(Builtin.append_ #[t,t2] ty #[ud,ux]).run P w = .ok hv w' /\ w'.os = w.os /\ w'.tape = w.tape /\ w'.output = w.output /\ w.heap.size <= w'.heap.size /\ w'.ownsRow 0 k es hv (n + m) (olds ++ news) /\
   (∀ b,b < w.heap.size -> hv.ownBlock ≠ some b -> w'.heap[b]? = w.heap[b]?) /\ ∀ b,hv.ownBlock = some b -> w.heap.size <= b \/ ud.ownBlock = some b := by
 have hsrc : Src P i.size t2 ux m news w := by
  rw [hsz]
  rcases h2.2 with ⟨rfl,rfl⟩ | ⟨g,cap,cur,rfl,_⟩
  ·rw [van (by rw [h2.1]; simp : news.length = 0)]
   exact Src.ofNil w hu2 0
  ·exact Src.ofSlice w hu2 ⟨g,0,none⟩ m cap news h2.1 (fun j u hj => by
    have := h2.cells (g := g) rfl j u hj
    exact this) hone
 have hnl := h2.1
 rcases h1.2 with ⟨rfl,rfl⟩ | ⟨g,cap,cur,rfl,_,hg,hle,hcm,hcs,htk⟩
 ·have ho : olds = [] := van (by rw [h1.1]; simp)
  subst ho
  by_cases hm : m = 0
  ·subst hm
   have hn : news = [] := van (by rw [hnl]; simp)
   subst hn
   exact ⟨_,w,k1,qda hu hi ux w hsrc,rfl,rfl,rfl,vac _,h1,fun _ _ _ => rfl,fun b hb => by cases hb⟩
  ·have hrun := run_append_grow_src w t t2 ty et i z hu hi hz none 0 0 [] (run_firstCells_none w.drew i.size 0 0 0) ux m news hsrc (by omega) (by omega) (growslice_fits (by omega) (by simpa using hq2))
   have hown := qiu (w := w) (es := es) (et := et) (z := z) (olds := []) (news := news) (old := 0) (n := 0) (m := m) hzs (by simp) hnl (by unfold maxLen; omega)
   refine ⟨_,_,et,hrun,rfl,rfl,rfl,by simp,hown,fun b hb _ => Go.RowKit.Below.heap_alloc _ _ _ hb,fun b hb => ?_⟩
   simp [Value.ownBlock] at hb; omega
 ·by_cases hroom : n + m <= cap
  ·have hfit : n * i.size + news.length <= cur.size := by rw [hnl,hsz,hcs,<- va8]; exact vaK _ hroom
   have hrun := qfj (ty := ty) hu hi ux w hg hsrc hroom hfit
   refine ⟨_,_,k1,hrun,rfl,rfl,rfl,by simp,⟨by rw [vas,h1.1,hnl,va8],.inr ⟨g,cap,_,rfl,vaH _,setRow_heap _ _ _ _ _ _ hg,hroom,hcm,?_,?_⟩⟩,fun b _ hb => setRow_other _ _ _ _ fun e => hb (by rw [e]; rfl),fun b hb => .inr hb⟩
   ·simp; omega
   ·have hl : (n + m) * es = (olds ++ news).length := by rw [vas,h1.1,hnl,va8]
    rw [hl,hsz,htk,vaB]
    exact List.take_left
  ·have hold : (Builtin.firstCells i.size n (.slice (some ⟨g,0,none⟩) n cap)).run P w.drew = .ok olds.toArray w.drew :=
    run_firstCells_some w.drew i.size n ⟨g,0,none⟩ n cap olds (by rw [h1.1,hsz]) fun j u hj => by
     have := h1.cells (g := g) rfl j u hj
     simpa using this
   have hrun := run_append_grow_src w t t2 ty et i z hu hi hz (some ⟨g,0,none⟩) n cap olds hold ux m news hsrc (by omega) (by omega) (growslice_fits (by omega) hq2)
   have hown := qiu (w := w) (es := es) (et := et) (z := z) (olds := olds) (news := news) (old := cap) (n := n) (m := m) hzs h1.1 hnl (by unfold maxLen; omega)
   refine ⟨_,_,et,hrun,rfl,rfl,rfl,by simp,hown,fun b hb _ => Go.RowKit.Below.heap_alloc _ _ _ hb,fun b hb => ?_⟩
   simp [Value.ownBlock] at hb; omega
theorem CellsDL.one {w : World} {S : Nat -> Prop} {d : DTy} : ∀ {xs : List d.den} {cs : List Value} {B : List Nat},CellsDL (CellsD w S d) xs cs B -> ∀ u ∈ cs,u.oneCell' = true := by
 have h1 : ∀ (d : DTy) (x : d.den) (cs : List Value) (B : List Nat),CellsD w S d x cs B -> ∀ u ∈ cs,u.oneCell' = true := by
  intro d
  induction d with
  | dat t => exact fun x cs B h => Cells.one t x cs h.1
  | row e => rintro x cs B ⟨h,et,us,rfl,h2,_⟩ u hu; rw [vak.1 hu]; exact qd7 h2
  | map ka k ea e => rintro x cs B ⟨b,es,clock,rfl,_⟩ u hu; rw [vak.1 hu]; rfl
  | pair a b iha ihb =>
   rintro x cs B ⟨c1,c2,B1,B2,rfl,_,h3,h4⟩ u hu
   exact (vae.1 hu).elim (iha _ _ _ h3 u) (ihb _ _ _ h4 u)
 intro xs
 induction xs with
 | nil => rintro cs B ⟨rfl,_⟩ u hu; cases hu
 | cons x r ih =>
  rintro cs B ⟨c1,c2,B1,B2,rfl,_,h3,h4⟩ u hu
  exact (vae.1 hu).elim (h1 d x c1 B1 h3 u) (ih h4 u)
theorem qjr (hT : TabOK P tt) {t t2 : Nat} {objs : Objs} {c : Ctx} (hs : SOK c objs) {d x : V} {ud ux : Value} (hd : Rel c d ud) (hx : Rel c x ux) {md : List Nat} (ty : TypeId) {K : V -> Objs -> Nat -> Option R} {r : R}
  (h : appendN tt objs c.nx t t2 d x md K = some r) :
  ∃ q ch nx' z c',K q ch nx' = some r /\ Done c objs c' q z ch nx' /\ (Builtin.append_ #[t,t2] ty #[ud,ux]).run P c.w = .ok z c'.w /\ ∀ o ∈ ch.map (·.1),o < c.nx -> o ∈ md := by
 unfold appendN at h
 split at h
 ·rename_i o2
  obtain ⟨ch0,c1,h,hw,hnx,hkeys,hd0⟩ := qfS hs h
  have hd0 := hd0 .undef Go.undef fun _=>trivial
  have hs1 := hd0.ok
  have hd1 := Rel.mono hd0.step hs.sub _ _ hd
  have hx1 := Rel.mono hd0.step hs.sub _ _ hx
  rw [qdh] at h
  split at h
  ·rename_i dt ys ho2 hc
   simp only [vab,vat] at hc
   obtain ⟨⟨⟨⟨hsl,hsl2⟩,hot⟩,hm2⟩,hm0⟩ := hc
   split at h
   ·cases h
   ·rename_i hcc
    simp only [vab,vat,decide_eq_false_iff_not] at hcc
    obtain ⟨hsz,hu8⟩ := hcc
    obtain ⟨et,hk,hu⟩ := hT.sl hsl
    obtain ⟨et2,hk2,hu2⟩ := hT.sl hsl2
    have het : elemOf tt t = et := by simp [elemOf,hk]
    rw [het] at hot hsz h
    have hsz : (tt.row et).size = dt.size := vaa hsz
    obtain ⟨_,i,z,_,hi,hz,_,hisz,hby,hzs,_,_,_⟩ := (hT.row hot).out
    rw [hsz] at hisz hzs
    obtain ⟨hlt2,e2,cells2,B2,q1,q2,q3,q4,q5,q6,q7⟩ := hs1.nest_row ho2
    obtain ⟨_,rfl⟩ := hx1
    have hone := CellsDL.one q2
    have hn2 : ∀ {l : List Nat} {ch : Objs},(∀ q ∈ l,q ∈ md) -> ∀ y,∀ o ∈ ((((c.nx,y) :: deads l) ++ ch0 : Objs)).map (·.1),o < c.nx -> o ∈ md := fun {l ch} hl y o ho hlt => by
     rw [vax] at ho
     rcases vae.1 ho with ho | ho
     ·rcases vap.1 ho with ho | ho
      ·exact absurd hlt (by rw [ho]; exact vaE _)
      ·exact hl o (qga ho).2
     ·exact qb8.1 hm0 o ho
    have hmut2 : (look .dead (ch0 ++ objs) o2).mut = true := by rw [ho2]; rfl
    split at h
    ·obtain ⟨⟨hq1,hq2⟩,h⟩ := qa5 h
     rw [qdh] at h
     have hd1 : ud = .slice none 0 0 := hd1
     subst hd1
     obtain ⟨hv,w',k,hrun,p1,p2,p3,p4,p5,p6,p7⟩ := qhY (ty := ty) hu hu2 hi hz hzs hisz c1.w (ud := .slice none 0 0) (n := 0) (olds := []) (k1 := e2) ⟨by simp,.inl ⟨rfl,rfl⟩⟩ q1 hone (by omega) (by rw [vaD,hby]; exact hq2)
     rw [vaD] at p5
     have hfresh : ∀ b,hv.ownBlock = some b -> c1.w.heap.size <= b := fun b hb => (p7 b hb).elim id fun h => by cases h
     have hBlt : ∀ b ∈ B2,b < c1.w.heap.size := fun b hb => hs1.bd b (hs1.sub b (q6 b (.inr ((q4 b).2 hb))))
     obtain ⟨c',hw',hnx',hdn⟩ := Done.deepNew hs1 (L := [o2]) (fun q hq => by rw [vak.1 hq]; exact hmut2) (w := w') (hv := hv) (d := dt) (zs := ys) (et := k) (cells := cells2) (B := B2) p1 p2 p3 p4
      (fun b hb _ => p6 b hb fun e => by have := hfresh b e; omega) (fun b hb => ⟨p6 b (hBlt b hb) fun e => by have := hfresh b e; have := hBlt b hb; omega,o2,vak.2 rfl,.inr ((q4 b).2 hb)⟩)
      p5 q2 (fun b hb => .inl (hfresh b hb)) (by
       refine vam.2 ⟨by cases hv.ownBlock <;> simp,(vam.1 q5).2.1,fun a ha b hb e => ?_⟩
       subst e
       have := hfresh a (by cases hh : hv.ownBlock <;> rw [hh] at ha <;> simp at ha; rw [ha])
       have := hBlt a hb; omega) (fun e => absurd e hu8)
     have hfin := Done.trans hs hd0 hdn
     rw [hnx] at hfin
     rw [hw] at hrun
     exact ⟨_,_,_,hv,c',h,hfin,by rw [hw']; exact hrun,hn2 (l := [o2]) (ch := []) (fun q hq => by rw [vak.1 hq]; exact qaJ.1 hm2) _⟩
    ·rename_i o1 _
     split at h
     ·rename_i dt' xs ho1
      split at h
      ·rename_i hdt
       subst hdt
       split at h
       ·rename_i hmm
        simp only [vab,vat] at hmm
        obtain ⟨hm1,hne⟩ := hmm
        have hne : o1 ≠ o2 := fun e => by
         subst e
         rw [Nat.beq_refl] at hne; cases hne
        obtain ⟨⟨hq1,hq2⟩,h⟩ := qa5 h
        rw [qdh] at h
        obtain ⟨_,rfl⟩ := hd1
        obtain ⟨hlt1,e1,cells1,B1,r1,r2,r3,r4,r5,r6,r7⟩ := hs1.nest_row ho1
        obtain ⟨hv,w',k,hrun,p1,p2,p3,p4,p5,p6,p7⟩ := qhY (ty := ty) hu hu2 hi hz hzs hisz c1.w r1 q1 hone (by omega) (by rw [hby]; exact hq2)
        have hmut1 : (look .dead (ch0 ++ objs) o1).mut = true := by rw [ho1]; rfl
        have hbo : ∀ b,hv.ownBlock = some b -> c1.w.heap.size <= b \/ c1.blk o1 = some b := fun b hb => (p7 b hb).imp id fun h => by rw [<- r3]; exact h
        have hlt : ∀ b,b ∈ B1 \/ b ∈ B2 -> b < c1.w.heap.size := fun b hb => hs1.bd b (hs1.sub b (hb.elim (fun h => r6 b (.inr ((r4 b).2 h))) (fun h => q6 b (.inr ((q4 b).2 h)))))
        have hb1 : ∀ b,c1.blk o1 = some b -> b ∉ B1 := fun b hb hm => by
         rw [hb] at r5
         exact (vaq.1 r5).1 hm
        have hb2 : ∀ b,c1.has o1 b -> b ∉ B2 := fun b hb hm => hne (hs1.inj o1 o2 b hmut1 hmut2 hb (.inr ((q4 b).2 hm)))
        have hnb : ∀ b,b ∈ B1 \/ b ∈ B2 -> hv.ownBlock ≠ some b := fun b hb e => by
         rcases hbo b e with h | h
         ·have := hlt b hb; omega
         ·exact hb.elim (hb1 b h) (hb2 b (.inl h))
        obtain ⟨c',hw',hnx',hdn⟩ := Done.deepNew hs1 (L := [o1,o2]) (fun q hq => by
          simp only [vap,vbF,or_false] at hq
          rcases hq with rfl | rfl
          ·exact hmut1
          ·exact hmut2) (w := w') (hv := hv) (d := dt') (zs := castD rfl xs ++ ys) (et := k) (cells := cells1 ++ cells2) (B := B1 ++ B2) p1 p2 p3 p4
         (fun b hb hn => p6 b hb fun e => by
          rcases hbo b e with h | h
          ·omega
          ·exact hn o1 vad (.inl h))
         (fun b hb => by
          have hb := vae.1 hb
          refine ⟨p6 b (hlt b hb) (hnb b hb),?_⟩
          rcases hb with h | h
          ·exact ⟨o1,vad,.inr ((r4 b).2 h)⟩
          ·exact ⟨o2,vau _ vad,.inr ((q4 b).2 h)⟩)
         (by rw [vas]; exact p5) (CellsDL.append r2 q2)
         (fun b hb => (hbo b hb).imp id fun h => ⟨o1,vad,.inl h⟩) (by
          refine vam.2 ⟨by cases hv.ownBlock <;> simp,vam.2 ⟨(vam.1 r5).2.1,(vam.1 q5).2.1,fun a ha b hb e => ?_⟩,fun a ha b hb e => ?_⟩
          ·subst e; exact hb2 a (.inr ((r4 a).2 ha)) hb
          ·subst e
           exact hnb a (vae.1 hb) (by cases hh : hv.ownBlock <;> rw [hh] at ha <;> simp at ha; rw [ha])) (fun e => absurd e hu8)
        have hfin := Done.trans hs hd0 hdn
        rw [hnx] at hfin
        rw [hw] at hrun
        exact ⟨_,_,_,hv,c',h,hfin,by rw [hw']; exact hrun,hn2 (l := [o1,o2]) (ch := []) (fun q hq => by
         simp only [vap,vbF,or_false] at hq
         rcases hq with rfl | rfl
         ·exact qaJ.1 hm1
         ·exact qaJ.1 hm2) _⟩
       ·cases h
      ·cases h
     ·cases h
    ·cases h
  ·cases h
 ·cases h
end Go.Vm

namespace Go.Vm
open Go
variable {P : Program} {tt : Tab}
def OpDone (P : Program) (K : V -> Objs -> Nat -> Option R) (r : R) (o : Oper) (a : Act) (c : Ctx) (objs : Objs) (md : List Nat) : Prop :=
 ∃ v ch nx',K v ch nx' = some r /\ (∀ o' ∈ ch.map (·.1),o' < c.nx -> o' ∈ md) /\ OpS P o a c objs v ch nx'
theorem OpDone.pure {K : V -> Objs -> Nat -> Option R} {r : R} {o : Oper} {a : Act} {c : Ctx} {objs : Objs} {md : List Nat} (hs : SOK c objs) {v : V} {u : Value} (h : K v [] c.nx = some r) (hr : Rel c v u) (hrun : (execOp a.eval o).run P c.w = .ok (.value u) c.w) :
  OpDone P K r o a c objs md := ⟨v,[],c.nx,h,fun o' ho' => (by cases ho'),OpS.value hrun (Done.pure hs hr)⟩
theorem qfr {c : Ctx} {env : Env} {a : Act} (he : EnvRel c env a) : ∀ xs : List Operand,RelL c (xs.map (evalO env)) (xs.map a.eval)
 | [] => rfl
 | x :: r => ⟨_,_,rfl,qaw he x,qfr he r⟩
theorem qiW {c : Ctx} {env : Env} {a : Act} (he : EnvRel c env a) : ∀ xs : List Operand,RelL c (xs.map (rawO env)) (xs.map a.eval)
 | [] => rfl
 | x :: r => ⟨_,_,rfl,qfa he x,qiW he r⟩
theorem qlq {b : Bool} {K : V -> Objs -> Nat -> Option R} {q : V} {ch : Objs} {nx' : Nat} {r : R} {c c' : Ctx} {objs : Objs} {u : Value} (h : nnK b K q ch nx' = some r) (hd : Done c objs c' q u ch nx') (hn : b = true -> NN u) :
  ∃ q',K q' ch nx' = some r /\ Done c objs c' q' u ch nx' := by
 unfold nnK at h
 split at h
 ·refine ⟨_,h,{ hd with rel := ?_ }⟩
  have hr := hd.rel
  cases q with
  | own o => exact ⟨hr.1,hr.2,hn rfl⟩
  | _ => exact hr
 ·exact ⟨_,h,hd⟩
theorem qmT {c : Ctx} {env : Env} {a : Act} (he : EnvRel c env a) (x : Option Operand) : (x.map (evalO env) = none /\ x.map a.eval = none) \/ ∃ v u,x.map (evalO env) = some v /\ x.map a.eval = some u /\ Rel c v u := by
 cases x with
 | none => exact .inl ⟨rfl,rfl⟩
 | some x => exact .inr ⟨_,_,rfl,rfl,qaw he x⟩
theorem qcM {b : Builtin} {o : Oper} {cl : Call} (ho : o.op = .call cl) (hc : cl.callee = .builtin b) (a : Act) (w : World) :
  ∃ ks,(execOp a.eval o).run P w = (builtin b cl.argTypes o.type ks (cl.args.map a.eval)).run P w := by
 refine ⟨cl.args.map (fun | .const _ => true | _ => false),?_⟩
 unfold execOp
 simp only [ho,resolve,hc,invoke,Sem.run_bind,Sem.run_pure,Result.andThen_ok]
 rfl
theorem qif (t : TypeId) (z : Value) (w : World) : (do return .pointer (some (<- newVar t z)) : Sem Value).run P w = .ok (.pointer (some ⟨w.heap.size,0,none⟩)) (w.alloc (.cells z.cells.toList.toArray t)) := by
 rw [vbu]; rfl
theorem arr1 {α : Type} {xs : Array α} {x : α} (h : xs.toList = [x]) : xs = #[x] := vaF.1 h
theorem arr2 {α : Type} {xs : Array α} {x y : α} (h : xs.toList = [x,y]) : xs = #[x,y] := vaF.1 h
theorem SOK.swap {c : Ctx} {objs : Objs} (hs : SOK c objs) {o : Nat} {y : AObj} (hm : (look .dead objs o).mut = true) (hn : y.isNest = false -> ∀ b,¬ c.sub o b) (hy : ObjOK c o y) : SOK c ((o,y) :: objs) := by
 have hmut : ∀ q,(look .dead ((o,y) :: objs) q).mut = true -> (look .dead objs q).mut = true := fun q h => by
  rw [qau] at h
  split at h
  ·rename_i e; subst e; exact hm
  ·exact h
 refine ⟨hs.low,fun q => ?_,fun a b g h1 h2 => hs.inj a b g (hmut a h1) (hmut b h2),fun q h => ?_,hs.sub,hs.bd,hs.one⟩
 ·rw [qau]
  split
  ·rename_i e; subst e; exact hy
  ·exact hs.obj q
 ·rw [qau] at h
  split at h
  ·rename_i e; subst e; exact hn h
  ·exact hs.flat q h
theorem qe8 {c : Ctx} {objs : Objs} (hs : SOK c objs) {md : List Nat} {K : Objs -> Option R} {r : R} : ∀ {vs : List V},shutV objs md vs K = some r ->
  ∃ ch0 c1,K ch0 = some r /\ Step c c1 (Dof c objs ch0) /\ SOK c1 (ch0 ++ objs) /\ (∀ q,c1.blk q = c.blk q) /\ (∀ q b,c1.sub q b -> c.sub q b) /\ c1.nx = c.nx /\ c1.w = c.w /\ (∀ q,q ∈ ch0.map (·.1) -> (look .dead objs q).mut = true /\ q ∈ md)
 | [],h => by
  have hst : Step c c (Dof c objs []) := ⟨rfl,rfl,rfl,vac _,vac _,fun _ _ => rfl,fun _ _ => rfl,fun _ _ _ _ => Iff.rfl,fun _ _ _ => rfl,fun _ _ _ => Iff.rfl,fun _ _ _ => Iff.rfl,fun b ⟨o,ho,_⟩ => (by cases ho)⟩
  exact ⟨[],c,h,hst,hs,fun _=>rfl,fun _ _ h => h,rfl,rfl,fun q hq => by cases hq⟩
 | v :: vs,h => by
  unfold shutV at h
  split at h
  ·rename_i o
   split at h
   ·rename_i e xs ix cs hob
    have hobj := hs.obj o
    rw [hob] at hobj
    obtain ⟨h0,et,cells,b,pre,mid,post,k1,k2,k3,k4,k5,k6,k7,k8,k9,k10,k11,k12⟩ := hobj
    obtain ⟨x,rest,f,u1,u2,hk,e1,hr1,hf1,hc1⟩ := qbw hs e _ _ k4 h
    split at hk
    ·split at hk
     ·rename_i hcc
      simp only [vab,vat] at hcc
      obtain ⟨⟨hm1,hm2⟩,hm3⟩ := hcc
      have hof : o ∉ f := fun hh => by rw [qaJ.2 hh] at hm3; cases hm3
      rw [show u2 = [] from hr1,vaS] at e1
      subst e1
      have hcx := hc1 f fun _ h => h
      obtain ⟨hst1,hs1⟩ := qc0 hs hf1
      have hmut : (look .dead objs o).mut = true := by rw [hob]; rfl
      have hkk := hst1.kept hs.sub false
      have hmono := fun (x : e.den) (cs : List Value) (hh : Cells c.w c.SA e x cs) => Cells.mono hkk e x cs hh
      have hset : xs.set ix x = xs.take ix ++ x :: xs.drop (ix + 1) := vaQ.trans (by rw [if_pos k6])
      have hnew : ObjOK (fzCtx c f) o (.row e (xs.set ix x) false) := by
       refine ⟨h0,et,cells,by rw [vbi]; exact k1,?_,k9,fun b' hb' => ⟨fun _=>⟨?_,fun ⟨q,hq,hqb⟩ => ?_⟩,fun h => (by cases h)⟩,k12⟩
       ·rw [hset,k2,vaj]
        exact CellsL.append _ _ _ _ (CellsL.mono hmono _ _ k3) ⟨mid,post,rfl,hcx,CellsL.mono hmono _ _ k5⟩
       ·cases k10.symm.trans hb'; exact k11
       ·have := hs.inj o q b' hmut (qeQ (hf1 q hq)) (.inl hb') hqb
        subst this; exact hof hq
      have hs2 := hs1.swap (o := o) (by rw [qaz,qa7,if_neg hof]; exact hmut) (fun _ b hb => hs.flat o (by rw [hob]; rfl) b hb.1) hnew
      have hD : ∀ b,Dof c objs (freezes objs f) b -> Dof c objs ((o,.row e (xs.set ix x) false) :: freezes objs f) b := fun b ⟨q,hq,hm,hb⟩ => ⟨q,vau _ hq,hm,hb⟩
      refine ⟨_,fzCtx c f,hk,⟨rfl,rfl,rfl,vac _,vac _,fun _ _ => rfl,fun _ _ => rfl,fun q hq hn b => hst1.under q hq (fun g hg => ⟨fun k => (hn g hg).1 (hD g k),(hn g hg).2⟩) b,fun _ _ _ => rfl,fun b hb hn => hst1.sb b hb fun k => hn (hD b k),fun b hb hn => hst1.sa b hb fun k => hn (hD b k),fun b h => h.sb hs⟩,hs2,fun _=>rfl,fun _ _ h => h.1,rfl,rfl,fun q hq => ?_⟩
      rw [vaY,qa7] at hq
      rcases vap.1 hq with rfl | hq
      ·exact ⟨hmut,qaJ.1 hm1⟩
      ·exact ⟨qeQ (hf1 q hq),qb8.1 hm2 q hq⟩
     ·cases hk
    ·cases hk
   ·exact qe8 hs h
  ·exact qe8 hs h
theorem qlX {c : Ctx} {objs : Objs} (hs : SOK c objs) {o : Nat} {K : Objs -> Option R} {r : R} (h : shutH objs o K = some r) :
  ∃ ch c',K ch = some r /\ c'.w = c.w /\ c'.nx = c.nx /\ ∀ (v : V) (u : Value),(∀ {D : Nat -> Prop},Step c c' D -> Rel c' v u) -> Done c objs c' v u ch c.nx := by
 unfold shutH at h
 split at h
 ·rename_i e xs ix cs hob
  have hobj := hs.obj o
  rw [hob] at hobj
  obtain ⟨h0,et,cells,b,pre,mid,post,k1,k2,k3,k4,k5,k6,k7,k8,k9,k10,k11,k12⟩ := hobj
  obtain ⟨x,rest,f,u1,u2,hk,e1,hr1,hf1,hc1⟩ := qbw hs e _ _ k4 h
  split at hk
  ·rename_i hm3
   have hof : o ∉ f := fun hh => by rw [qaJ.2 hh] at hm3; cases hm3
   rw [show u2 = [] from hr1,vaS] at e1
   subst e1
   have hcx := hc1 f fun _ h => h
   obtain ⟨hst1,hs1⟩ := qc0 hs hf1
   have hmut : (look .dead objs o).mut = true := by rw [hob]; rfl
   have hkk := hst1.kept hs.sub false
   have hmono := fun (x : e.den) (cs : List Value) (hh : Cells c.w c.SA e x cs) => Cells.mono hkk e x cs hh
   have hset : xs.set ix x = xs.take ix ++ x :: xs.drop (ix + 1) := vaQ.trans (by rw [if_pos k6])
   have hnew : ObjOK (fzCtx c f) o (.row e (xs.set ix x) false) := by
    refine ⟨h0,et,cells,by rw [vbi]; exact k1,?_,k9,fun b' hb' => ⟨fun _=>⟨?_,fun ⟨q,hq,hqb⟩ => ?_⟩,fun h => (by cases h)⟩,k12⟩
    ·rw [hset,k2,vaj]
     exact CellsL.append _ _ _ _ (CellsL.mono hmono _ _ k3) ⟨mid,post,rfl,hcx,CellsL.mono hmono _ _ k5⟩
    ·cases k10.symm.trans hb'; exact k11
    ·have := hs.inj o q b' hmut (qeQ (hf1 q hq)) (.inl hb') hqb
     subst this; exact hof hq
   have hs2 := hs1.swap (o := o) (by rw [qaz,qa7,if_neg hof]; exact hmut) (fun _ b hb => hs.flat o (by rw [hob]; rfl) b hb.1) hnew
   have hD : ∀ b,Dof c objs (freezes objs f) b -> Dof c objs ((o,.row e (xs.set ix x) false) :: freezes objs f) b := fun b ⟨q,hq,hm,hb⟩ => ⟨q,vau _ hq,hm,hb⟩
   have hmm : ∀ q,q ∈ ((o,AObj.row e (xs.set ix x) false) :: freezes objs f).map (·.1) -> (look .dead objs q).mut = true := fun q hq => by
    rw [vaY,qa7] at hq
    rcases vap.1 hq with rfl | hq
    ·exact hmut
    ·exact qeQ (hf1 q hq)
   have hstep : Step c (fzCtx c f) (Dof c objs ((o,.row e (xs.set ix x) false) :: freezes objs f)) := ⟨rfl,rfl,rfl,vac _,vac _,fun _ _ => rfl,fun _ _ => rfl,fun q hq hn b => hst1.under q hq (fun g hg => ⟨fun k => (hn g hg).1 (hD g k),(hn g hg).2⟩) b,fun _ _ _ => rfl,fun b hb hn => hst1.sb b hb fun k => hn (hD b k),fun b hb hn => hst1.sa b hb fun k => hn (hD b k),fun b h => h.sb hs⟩
   exact ⟨_,fzCtx c f,hk,rfl,rfl,fun v u hv => ⟨hstep,hs2,hv hstep,rfl,fun q b hq _ hb => .inr ⟨q,hq,hmm q hq,hb.imp id And.left⟩,fun q hq => hs.lt (hmm q hq)⟩⟩
  ·cases hk
 ·obtain ⟨ch,c',hk,hw,hnx,_,hd⟩ := qfS hs h
  exact ⟨ch,c',hk,hw,hnx,fun v u hv => hd v u fun st => hv st⟩
theorem qd2 {md : List Nat} {r : R} : ∀ (l : List Nat) {c : Ctx} {objs : Objs} {K : Objs -> Option R},SOK c objs -> shutAll objs md l K = some r ->
  ∃ ch c1,K ch = some r /\ c1.w = c.w /\ c1.nx = c.nx /\ (∀ q ∈ ch.map (·.1),q ∈ md) /\ Done c objs c1 .undef Go.undef ch c.nx
 | [],c,objs,K,hs,h => ⟨[],c,h,rfl,rfl,fun q hq => (by cases hq),Done.pure hs trivial⟩
 | o :: l,c,objs,K,hs,h => by
  unfold shutAll at h
  split at h
  ·obtain ⟨ch,c1,h,hw,hnx,hkeys,hd⟩ := qfS hs h
   have hd := hd .undef Go.undef fun _=>trivial
   split at h
   ·rename_i hm
    rw [qdh] at h
    obtain ⟨ch',c2,h,hw2,hnx2,hm2,hd2⟩ := qd2 l hd.ok h
    rw [qdh] at h
    have hfin := Done.trans hs hd hd2
    rw [hnx] at hfin
    refine ⟨_,c2,h,hw2.trans hw,hnx2.trans hnx,fun q hq => ?_,hfin⟩
    rw [vax] at hq
    exact (vae.1 hq).elim (hm2 q) (qb8.1 hm q)
   ·cases h
  ·exact qd2 l hs h
theorem qku {c : Ctx} {objs : Objs} (hs : SOK c objs) {md : List Nat} {args caps : List V} {K : Objs -> Option R} {r : R} (h : shutC objs md args caps K = some r) :
  ∃ ch c1,K ch = some r /\ c1.w = c.w /\ c1.nx = c.nx /\ (∀ q ∈ ch.map (·.1),q ∈ md) /\ Done c objs c1 .undef Go.undef ch c.nx := by
 unfold shutC at h
 obtain ⟨ch0,c1,h,hst1,hs1,hb1,hu1,hn1,hw1,hq1⟩ := qe8 hs h
 split at h
 ·rw [qeC] at h
  exact qd2 _ hs h
 ·refine ⟨_,c1,h,hw1,hn1,fun q hq => (hq1 q hq).2,hst1,hs1,trivial,hn1,fun o b ho _ hb => .inr ⟨o,ho,(hq1 o ho).1,hb.imp (fun k => by rw [<- hb1]; exact k) (hu1 o b)⟩,fun o ho => hs.lt (hq1 o ho).1⟩
theorem qf5 (hT : TabOK P tt) {Γ : FEnv} (hΓ : EnvOK P Γ) {env : Env} {objs : Objs} {nx : Nat} {md : List Nat} {o : Oper} {K : V → Objs → Nat → Option R} {r : R} {c : Ctx} {a : Act} (hs : SOK c objs) (hn : c.nx = nx) (he : EnvRel c env a)
    (h : evOp tt Γ env objs nx md o K = some r) : OpDone P K r o a c objs md := by
  subst hn
  unfold evOp at h
  dsimp only at h
  split at h
  case h_1 x ho => exact OpDone.pure hs h (qfa he x) (by unfold execOp; simp [ho])
  case h_2 x ho => exact OpDone.pure hs h (qfa he x) (by unfold execOp; simp [ho])
  case h_3 x p q ho =>
    have hx := qaw he x
    split at h
    · rename_i y hy
      rw [hy] at hx
      simp only [Rel] at hx
      rcases qdK h with ⟨hb,h⟩ | ⟨hb,h⟩
      · exact OpDone.pure hs h (qfa he p) (by unfold execOp; simp [ho,hx,asBool,hb])
      · exact OpDone.pure hs h (qfa he q) (by unfold execOp; simp [ho,hx,asBool,hb])
    · cases h
  case h_4 t ho =>
    split at h
    · cases h
    · rename_i hto
      obtain ⟨d,i,z,hd,hi,hz,_,_,_,_,hzr,hza,_⟩ := (hT.row hto).out
      obtain ⟨c',hw,hd'⟩ := Done.newVar hs (cs := (tt.row t).zero) (us := z.cells.toList) (el := t) (hzr c) hza
      refine ⟨_,_,_,h,fun o' ho' hlt => by simp at ho'; omega,OpS.value ?_ hd'⟩
      rw [hw]
      unfold execOp
      simp only [ho]
      apply qaK
      have : (Instr.alloc t true (.tuple #[])).run P c.w = (do return .pointer (some (← newVar t z)) : Sem Value).run P c.w := by simp [Instr.alloc,zeroValue,typeInfo,hi,hz]
      rw [this,qif]
  case h_5 t x ho =>
    split at h
    · rename_i hall
      obtain ⟨c',hw,hd'⟩ := Done.newVar hs (el := t) (qb9 hs (qaw he x) hall) hall
      refine ⟨_,_,_,h,fun o' ho' hlt => by simp at ho'; omega,OpS.value ?_ hd'⟩
      rw [hw]
      unfold execOp
      simp only [ho]
      apply qaK
      exact qif t (a.eval x) c.w
    · cases h
  case h_6 t ps ho =>
    obtain ⟨q,z,h,hr,hrun⟩ := qkk hT hs he ps h
    exact OpDone.pure hs h hr (by unfold execOp; simp only [ho]; exact qaK hrun)
  case h_7 t len ps ho =>
    split at h
    · obtain ⟨q,ch,nx',u,c',h,hd,hrun,hm⟩ := qge hT hs he ps h
      exact ⟨q,ch,nx',h,fun o' ho' hlt => absurd hlt (hm o' ho'),OpS.value (by unfold execOp; simp only [ho]; exact qaK hrun) hd⟩
    · obtain ⟨q,ch,nx',u,c',h,hd,hrun,hm,hnn⟩ := qgd hT hs rfl he ps h
      obtain ⟨q,h,hd⟩ := qlq h hd fun _=>hnn
      exact ⟨q,ch,nx',h,hm,OpS.value (by unfold execOp; simp only [ho]; exact qaK hrun) hd⟩
  case h_8 t x ho =>
    split at h
    · obtain ⟨v,ch,nx',z,c',h,hd,hrun,hm⟩ := qkL hT hs (qaw he x) h
      exact ⟨v,ch,nx',h,hm,OpS.value (by unfold execOp; simp only [ho]; exact qaK hrun) hd⟩
    · obtain ⟨q,z,h,hr,hrun⟩ := qhC hT hs (qaw he x) h
      exact OpDone.pure hs h hr (by unfold execOp; simp only [ho]; exact qaK hrun)
  case h_9 t x y ho =>
    split at h
    · obtain ⟨ch,c',h,hd,hrun,hm⟩ := qiJ hT hs (qaw he x) (qaw he y) h
      exact ⟨_,ch,_,h,fun o' ho' _ => hm o' ho',OpS.skip (by unfold execOp; simp [ho,hrun]) hd⟩
    · split at h
      · obtain ⟨ch,nx',c',h,hd,hrun,hm⟩ := qjC hT hs (qaw he x) (qaw he y) h
        exact ⟨_,ch,nx',h,hm,OpS.skip (by unfold execOp; simp [ho,hrun]) hd⟩
      · obtain ⟨ch,c',h,hd,hrun,hm⟩ := qjB hT hs (qaw he x) (qaw he y) h
        exact ⟨_,ch,_,h,fun o' ho' _ => hm o' ho',OpS.skip (by unfold execOp; simp [ho,hrun]) hd⟩
  case h_10 x ho =>
    have hx := qaw he x
    split at h
    · rename_i hy
      rw [hy] at hx
      have hx' := hx
      obtain ⟨_,b,_,e⟩ := hx
      exact OpDone.pure hs h hx' (by unfold execOp; simp [ho,e])
    · rename_i hy
      rw [hy] at hx
      have hx' := hx
      obtain ⟨_,b,_,e⟩ := hx
      exact OpDone.pure hs h hx' (by unfold execOp; simp [ho,e])
    · rename_i hy
      rw [hy] at hx
      have hx' := hx
      obtain ⟨b,off,us,e,_⟩ := hx
      exact OpDone.pure hs h hx' (by unfold execOp; simp [ho,e])
    · rename_i hy
      rw [hy] at hx
      have hx' := hx
      obtain ⟨us,e,_⟩ := hx
      exact OpDone.pure hs h hx' (by unfold execOp; simp [ho,e])
    · cases h
  case h_11 op t x y yt ho =>
   have hx := qaw he x
   split at h
   · rename_i e hv
     rw [hv] at hx
     split at h
     · rename_i hy
       have hy : y = .const .nilIface := by
         revert hy; unfold isNilIface; split <;> intro hy
         · rfl
         · cases hy
       subst hy
       obtain ⟨q,z,h,hr,hrun⟩ := qmd hT x hx h
       exact OpDone.pure hs h hr (by unfold execOp; simp only [ho]; exact qaK hrun)
     · cases h
   · obtain ⟨q,z,h,hr,hrun⟩ := qmi hT hs x y (qaw he x) (qaw he y) h
     exact OpDone.pure hs h hr (by unfold execOp; simp only [ho]; exact qaK hrun)
  case h_12 op t x ho =>
    obtain ⟨q,z,h,hr,hrun⟩ := qmy (P := P) (qaw he x) h
    exact OpDone.pure hs h hr (by unfold execOp; simp only [ho]; exact qaK hrun)
  case h_13 src t x ho =>
    obtain ⟨q,z,h,hr,hrun⟩ := qkY hT hs (qaw he x) h
    exact OpDone.pure hs h hr (by unfold execOp; simp only [ho]; exact qaK hrun)
  case h_14 f first caps ho =>
    split at h
    · rename_i hf
      have hf0 : first = #[] := vaF.1 hf
      subst hf0
      refine OpDone.pure hs h (u := .func (.func f) #[] (caps.toList.map a.eval).toArray) ⟨_,rfl,qfr he _⟩ ?_
      have : caps.map a.eval = (caps.toList.map a.eval).toArray := by apply vaF.1; simp
      unfold execOp
      simp only [ho,this]
      apply qaK
      simp [Instr.makeFunc]
    · cases h
  case h_15 t l k ho =>
    split at h
    · rename_i p q
      split at h
      · rename_i hpq
        have hpq : p = q := vaa hpq
        subst hpq
        obtain ⟨v,ch,nx',z,c',h,hd,hrun,hm⟩ := qen hT hs (qaw he (.tmp p)) h
        exact ⟨v,ch,nx',h,fun o' ho' hlt => absurd hlt (hm o' ho'),OpS.value (by unfold execOp; simp only [ho]; exact qaK hrun) hd⟩
      · cases h
    · rename_i p q
      split at h
      · rename_i hpq
        have hpq : p = q := vaa hpq
        subst hpq
        obtain ⟨v,ch,nx',z,c',h,hd,hrun,hm⟩ := qen hT hs (qaw he (.const (.int .i64 (.ofNat p)))) h
        exact ⟨v,ch,nx',h,fun o' ho' hlt => absurd hlt (hm o' ho'),OpS.value (by unfold execOp; simp only [ho]; exact qaK hrun) hd⟩
      · cases h
    · cases h
  case h_16 t x lo hi ho =>
    obtain ⟨q,z,h,hr,hrun⟩ := qjD hT hs (qaw he x) (qmT he lo) (qmT he hi) h
    exact OpDone.pure hs h hr (by unfold execOp; simp only [ho,Option.map_none]; exact qaK hrun)
  case h_17 t x f ho =>
    obtain ⟨q,z,h,hr,hrun⟩ := qgM hT (qaw he x) h
    exact OpDone.pure hs h hr (by unfold execOp; simp only [ho]; exact qaK hrun)
  case h_18 t x f ho =>
    have hx := qaw he x
    split at h
    · rename_i cs hy
      rw [hy] at hx
      obtain ⟨us,hx,hl⟩ := hx
      split at h
      · rename_i hf
        obtain ⟨gs,g,hu,hg,hfo⟩ := hT.field hf
        split at h
        · cases h
        · rename_i hot
          rw [hfo] at hot h
          dsimp only at hot h
          have hpart : ∀ z,(part g.type us.toArray g.offset).run P c.w = .ok z c.w → (execOp a.eval o).run P c.w = .ok (.value z) c.w := fun z hz => by
            unfold execOp
            simp only [ho]
            apply qaK
            rw [hx]
            simp [Instr.field,run_underlying hu,hg,asAgg,hz]
          split at h
          · rename_i hag
            split at h
            · rename_i hle
              have hle : g.offset + (tt.row g.type).size ≤ cs.length := vay hle
              refine OpDone.pure hs h (u := .agg ((us.drop g.offset).take (tt.row g.type).size).toArray) ⟨_,rfl,(hl.drop _).take _⟩ (hpart _ ?_)
              simp [part,qfo hT hot,hag,run_sizeOf hT hot]
            · cases h
          · rename_i hag
            split at h
            · rename_i v _ hcs
              have hl' := hl.drop g.offset
              rw [hcs] at hl'
              obtain ⟨u,us',e,h1,_⟩ := hl'
              refine OpDone.pure hs h h1 (hpart u ?_)
              have hget : us[g.offset]? = some u := by
                have := congrArg (·[0]?) e
                simpa [va9] using this
              simp [part,qfo hT hot,hag,hget]
            · cases h
      · cases h
    · cases h
  case h_19 t x i ho =>
    have key : ∃ q z,K q [] c.nx = some r ∧ Rel c q z ∧ (Instr.indexAt t (a.eval x) (a.eval i)).run P c.w = .ok z c.w := by
      split at h
      · exact qgJ hT hs (qaw he x) (qaw he i) h
      · exact qgI hT hs (qaw he x) (qaw he i) h
    obtain ⟨q,z,h,hr,hrun⟩ := key
    exact OpDone.pure hs h hr (by unfold execOp; simp only [ho]; exact qaK hrun)
  case h_20 t x i ho =>
    have hx := qaw he x
    have hi := qaw he i
    split at h
    · rename_i s k n hk hy hz
      rw [hy] at hx
      rw [hz] at hi
      simp only [Rel] at hx hi
      have hA := qa5 h
      clear h
      obtain ⟨⟨h0,h1⟩,h⟩ := hA
      have hu : P.underlying t = some .string := by
        obtain ⟨d,i,z,hd,_,_,hkd,_⟩ := (hT.row (t := t) (by cases hh : (tt.row t).k <;> simp_all [TK.isStr,TK.isOther])).out
        cases hh : (tt.row t).k <;> simp [hh,TK.isStr] at hk
        rw [hh] at hkd
        cases d <;> simp [kindB] at hkd
        exact hd
      refine OpDone.pure hs h (u := .int .u8 (s.data.getD n.toNat 0).toNat) rfl ?_
      unfold execOp
      simp only [ho]
      apply qaK
      rw [hx,hi]
      have hlt : n.toNat < s.data.size := by
        have : s.size = s.data.size := rfl
        omega
      have hs0 : s[n.toNat]? = some (s.data.getD n.toNat 0) := by
        have h2 : n.toNat < s.size := hlt
        rw [getElem?_pos s n.toNat h2]
        simp only [Array.getD]
        rw [dif_pos hlt]; rfl
      simp [Instr.index,asIntOf,run_underlying hu,h0,hs0]
    · cases h
  case h_21 t n ho =>
    have hx := qaw he t
    split at h
    · rename_i vs hy
      rw [hy] at hx
      obtain ⟨us,hx,hl⟩ := hx
      split at h
      · rename_i v _ hvs
        have hl' := hl.drop n
        rw [hvs] at hl'
        obtain ⟨u,us',e,h1,_⟩ := hl'
        have hget : us[n]? = some u := by
          have := congrArg (·[0]?) e
          simpa [va9] using this
        refine OpDone.pure hs h h1 ?_
        unfold execOp
        simp only [ho]
        apply qaK
        rw [hx]
        simp [Instr.extract,hget]
      · cases h
    · cases h
  case h_22 cl ho =>
    split at h
    · rename_i f hcf
      have hf := qaw he f
      split at h
      · rename_i g caps hy
        rw [hy] at hf
        obtain ⟨us,hf,hl⟩ := hf
        obtain ⟨ch0,c1,h,hw1,hn1,hq1,hd0⟩ := qku hs h
        have hs1 := hd0.ok
        have hst1 := hd0.step
        split at h
        · obtain ⟨hE,v,ch,nx',h,hm,hcall⟩ := qhV hΓ hs rfl (qiW he cl.args.toList |>.append hl) h
          refine ⟨v,ch,nx',h,hm,fun K' Q hK => ?_⟩
          unfold Oper.wp
          rw [qjH hE ho hcf hf]
          refine hcall.mono fun e w' ⟨u,c',e1,e2,hdr,hd⟩ => ?_
          subst e1 e2
          exact hK u c' hd hdr
        · rename_i d l
          rw [qdh] at h
          have hargs := RelL.mono hst1 hs.sub _ _ (qiW he cl.args.toList |>.append hl)
          obtain ⟨hE,v,ch,nx',h,hm,hcall⟩ := qhV hΓ hs1 hn1 hargs h
          rw [qdh] at h
          refine ⟨v,ch ++ d :: l,nx',h,fun o' ho' hlt => ?_,fun K' Q hK => ?_⟩
          · rw [vax] at ho'
            rcases vae.1 ho' with ho' | ho'
            · exact hm o' ho' hlt
            · exact hq1 o' ho'
          · unfold Oper.wp
            rw [qjH hE ho hcf hf]
            rw [hw1] at hcall
            refine hcall.mono fun e w' ⟨u,c',e1,e2,hdr,hd⟩ => ?_
            subst e1 e2
            exact hK u c' (Done.trans hs hd0 hd) hdr
      · cases h
    · rename_i hcb
      split at h
      · rename_i x t hax hat
        obtain ⟨ks,hrun0⟩ := qcM (P := P) ho hcb a c.w
        split at h
        · rename_i hmk
          obtain ⟨q,z,h,hr,hrun⟩ := qi9 hT hmk hs (qaw he x) o.type h
          refine OpDone.pure hs h hr ?_
          rw [hrun0,arr1 hax,arr1 hat,vaC]
          exact qaK hrun
        · split at h
          · rename_i hlk
            have key : ∃ q z,K q [] c.nx = some r ∧ Rel c q z ∧ (Builtin.len_ #[t] o.type #[a.eval x]).run P c.w = .ok z c.w := by
              split at h
              · exact qma hT hs (qaw he x) hlk o.type h
              · exact ql9 hT hs (qaw he x) hlk o.type h
            obtain ⟨q,z,h,hr,hrun⟩ := key
            refine OpDone.pure hs h hr ?_
            rw [hrun0,arr1 hax,arr1 hat,vaC]
            exact qaK hrun
          · cases h
      · cases h
    · rename_i hcb
      split at h
      · rename_i x t hax hat
        obtain ⟨ks,hrun0⟩ := qcM (P := P) ho hcb a c.w
        have hx := qaw he x
        split at h
        · rename_i hk hy
          rw [hy] at hx
          simp only [Rel] at hx
          obtain ⟨e,_,hu⟩ := hT.sl hk
          refine OpDone.pure hs h (u := .int .i64 0) rfl ?_
          rw [hrun0,arr1 hax,arr1 hat,vaC]
          refine qaK ?_
          simp [hx,Builtin.cap_,run_underlying hu,goInt]
        · cases h
      · cases h
    · rename_i hcb
      split at h
      · rename_i d x t t2 hax hat
        obtain ⟨ks,hrun0⟩ := qcM (P := P) ho hcb a c.w
        obtain ⟨ch,c',h,hd,hrun,hm⟩ := qji (t2 := t2) hT hs (qaw he d) (qaw he x) o.type h
        refine ⟨_,ch,_,h,fun o' ho' _ => hm o' ho',OpS.value ?_ hd⟩
        rw [hrun0,arr2 hax,arr2 hat,vaC]
        exact qaK hrun
      · cases h
    · rename_i hcb
      split at h
      · rename_i d x t t2 hax hat
        obtain ⟨ks,hrun0⟩ := qcM (P := P) ho hcb a c.w
        have hx := qaw he x
        split at h
        · rename_i n hy
          rw [hy] at hx
          simp only [Rel] at hx
          obtain ⟨q,ch,nx',z,c',h,hd,hrun,hm⟩ := qjs hT hs rfl (qaw he d) o.type h
          refine ⟨q,ch,nx',h,fun o' ho' hlt => absurd hlt (hm o' ho'),OpS.value ?_ hd⟩
          rw [hrun0,arr2 hax,arr2 hat,vaC]
          simp only [vaY,List.map_nil,hx]
          exact qaK hrun
        · split at h
          · obtain ⟨q,ch,nx',z,c',h,hd,hrun,hm⟩ := qjr hT hs (qaw he d) hx o.type h
            refine ⟨q,ch,nx',h,hm,OpS.value ?_ hd⟩
            rw [hrun0,arr2 hax,arr2 hat,vaC]
            exact qaK hrun
          · split at h
            all_goals
              obtain ⟨q,ch,nx',z,c',h,hd,hrun,hm,hnn⟩ := qjq hT hs rfl (qaw he d) hx o.type h
              obtain ⟨q,h,hd⟩ := qlq h hd fun hb => by
                have hr := qfa he d
                cases hq : rawO env d with
                | ownn o => rw [hq] at hr; exact hnn o (by unfold evalO; rw [hq]; rfl) hr.2.2
                | _ => rw [hq] at hb; cases hb
              refine ⟨q,ch,nx',h,hm,OpS.value ?_ hd⟩
              rw [hrun0,arr2 hax,arr2 hat,vaC]
              exact qaK hrun
      · cases h
    · rename_i hcb
      split at h
      · rename_i d x t t2 hax hat
        obtain ⟨ks,hrun0⟩ := qcM (P := P) ho hcb a c.w
        obtain ⟨q,ch,z,c',h,hd,hrun,hm⟩ := qkX (t2 := t2) hT hs (qaw he d) (qaw he x) o.type h
        refine ⟨q,ch,_,h,fun o' ho' _ => hm o' ho',OpS.value ?_ hd⟩
        rw [hrun0,arr2 hax,arr2 hat,vaC]
        exact qaK hrun
      · cases h
    · rename_i hcb
      obtain ⟨ks,hrun0⟩ := qcM (P := P) ho hcb a c.w
      unfold minMax at h
      split at h
      · rename_i k p rest hargs
        have hl := qfr he cl.args.toList
        rw [hargs] at hl
        obtain ⟨u,us,e,h1,h2⟩ := hl
        simp only [Rel] at h1; subst h1
        obtain ⟨n,h,hrun⟩ := qec (P := P) (mx := false) rest us p h2 h
        refine OpDone.pure hs h (u := .int k n) rfl ?_
        rw [hrun0]
        have : (Builtin.min_ cl.argTypes o.type (cl.args.map a.eval)).run P c.w = .ok (.int k n) c.w := by
          unfold Builtin.min_
          rw [vbD,e]
          exact hrun
        exact qaK this
      · cases h
    · rename_i hcb
      obtain ⟨ks,hrun0⟩ := qcM (P := P) ho hcb a c.w
      unfold minMax at h
      split at h
      · rename_i k p rest hargs
        have hl := qfr he cl.args.toList
        rw [hargs] at hl
        obtain ⟨u,us,e,h1,h2⟩ := hl
        simp only [Rel] at h1; subst h1
        obtain ⟨n,h,hrun⟩ := qec (P := P) (mx := true) rest us p h2 h
        refine OpDone.pure hs h (u := .int k n) rfl ?_
        rw [hrun0]
        have : (Builtin.max_ cl.argTypes o.type (cl.args.map a.eval)).run P c.w = .ok (.int k n) c.w := by
          unfold Builtin.max_
          rw [vbD,e]
          exact hrun
        exact qaK this
      · cases h
    · cases h
  case h_23 t x ho =>
    split at h
    · obtain ⟨v,ch,nx',z,c',h,hd,hrun,hm⟩ := qhq hT hs (qaw he x) h
      exact ⟨v,ch,nx',h,hm,OpS.value (by unfold execOp; simp only [ho]; exact qaK hrun) hd⟩
    · obtain ⟨v,ch,nx',z,c',h,hd,hrun,hm⟩ := qjR hT hs (qaw he x) h
      exact ⟨v,ch,nx',h,fun o' ho' hlt => absurd hlt (Nat.not_lt.2 (hm o' ho')),OpS.value (by unfold execOp; simp only [ho]; exact qaK hrun) hd⟩
  case h_24 it isS ho =>
    split at h
    · obtain ⟨v,ch,nx',z,c',h,hd,hrun,hm⟩ := qkG hs (qaw he it) o.type h
      exact ⟨v,ch,nx',h,fun o' ho' _ => hm o' ho',OpS.value (by unfold execOp; simp only [ho]; exact qaK hrun) hd⟩
    · obtain ⟨v,ch,nx',z,c',h,hd,hrun,hm⟩ := qh7 hs (qaw he it) o.type h
      exact ⟨v,ch,nx',h,fun o' ho' _ => hm o' ho',OpS.value (by unfold execOp; simp only [ho]; exact qaK hrun) hd⟩
  case h_25 it ho =>
    obtain ⟨q,z,h,hr,hrun⟩ := qke hs (qaw he it) h
    exact OpDone.pure hs h hr (by unfold execOp; simp only [ho]; exact qaK hrun)
  case h_26 t q ho =>
    obtain ⟨v,ch,nx',z,c',h2,hq,hd,hrun,hm⟩ := qh8 hT hs h
    subst hq
    exact ⟨v,ch,nx',h2,fun o' ho' hlt => absurd hlt (Nat.not_lt.2 (hm o' ho')),OpS.value (by unfold execOp; simp only [ho]; exact qaK hrun) hd⟩
  case h_27 t m i ok ho =>
    obtain ⟨q,z,h,hr,hrun⟩ := qi6 hT hs (qaw he m) (qaw he i) h
    exact OpDone.pure hs h hr (by unfold execOp; simp only [ho]; exact qaK hrun)
  case h_28 t m i v ho =>
    obtain ⟨ch,c',h,hd,hrun,hm⟩ := qgF hT hs (qaw he m) (qaw he i) (qaw he v) h
    exact ⟨_,ch,_,h,fun o' ho' _ => hm o' ho',OpS.skip (by unfold execOp; simp [ho,hrun]) hd⟩
  case h_29 => cases h
end Go.Vm

namespace Go.Vm
open Go
variable {P : Program} {tt : Tab}
structure StRel (c : Ctx) (σ : St) (a : Act) : Prop where
 ok : SOK c σ.objs
 nx : c.nx = σ.nx
 env : EnvRel c σ.env a
 size : a.tmps.size = σ.n
 defers : a.defers = []
structure FR (c0 : Ctx) (objs0 : List AObj) (c : Ctx) (objs : Objs) : Prop where
 os : c.w.os = c0.w.os
 tape : c.w.tape = c0.w.tape
 output : c.w.output = c0.w.output
 drawn : Strict -> c0.w.drawn <= c.w.drawn
 size : c0.w.heap.size <= c.w.heap.size
 nx : c0.nx <= c.nx
 hdr : ∀ o,o < c0.nx -> c.hdr o = c0.hdr o
 blk : ∀ o,o < c0.nx -> c.blk o = c0.blk o
 under : ∀ o,o < c0.nx -> (∀ b,c0.has o b -> ¬ Lof c0 objs0 b /\ b < c0.w.heap.size) -> ∀ b,c.sub o b ↔ c0.sub o b
 heap : ∀ b,b < c0.w.heap.size -> ¬ Lof c0 objs0 b -> c.w.heap[b]? = c0.w.heap[b]?
 sb : ∀ b,b < c0.w.heap.size -> ¬ Lof c0 objs0 b -> (c.SB b ↔ c0.SB b)
 sa : ∀ b,b < c0.w.heap.size -> ¬ Lof c0 objs0 b -> (c.SA b ↔ c0.SA b)
 fresh : ∀ o b,(look .dead objs o).mut = true -> c.has o b -> c0.w.heap.size <= b \/ Lof c0 objs0 b
theorem FR.step {c0 c c' : Ctx} {objs0 : List AObj} {objs ch : Objs} (h : FR c0 objs0 c objs) (hdr : Strict -> c.w.drawn <= c'.w.drawn) (hs : SOK c objs) (hst : Step c c' (Dof c objs ch)) (hfr : ∀ o b,o ∈ ch.map (·.1) -> (look .dead (ch ++ objs) o).mut = true -> c'.has o b -> c.w.heap.size <= b \/ Dof c objs ch b) :
  FR c0 objs0 c' (ch ++ objs) := by
 have hD : ∀ b,b < c0.w.heap.size -> ¬ Lof c0 objs0 b -> ¬ Dof c objs ch b := fun b hb hL ⟨o,_,hm,hbk⟩ => by
  rcases h.fresh o b hm hbk with k | k
  ·omega
  ·exact hL k
 have hlt : ∀ b,b < c0.w.heap.size -> b < c.w.heap.size := fun b hb => vah hb h.size
 refine ⟨hst.os.trans h.os,hst.tape.trans h.tape,hst.output.trans h.output,fun k => vaW (h.drawn k) (hdr k),vaW h.size hst.size,vaW h.nx hst.nx,fun o ho => (hst.hdr o (vah ho h.nx)).trans (h.hdr o ho),fun o ho => (hst.blk o (vah ho h.nx)).trans (h.blk o ho),
  fun o ho hL b => (hst.under o (vah ho h.nx) (fun g hg => by
   have hg : c0.has o g := hg.imp (fun k => by rw [<- h.blk o ho]; exact k) (h.under o ho hL g).1
   exact ⟨hD g (hL g hg).2 (hL g hg).1,hlt g (hL g hg).2⟩) b).trans (h.under o ho hL b),
  fun b hb hL => (hst.heap b (hlt b hb) (hD b hb hL)).trans (h.heap b hb hL),fun b hb hL => (hst.sb b (hlt b hb) (hD b hb hL)).trans (h.sb b hb hL),fun b hb hL => (hst.sa b (hlt b hb) (hD b hb hL)).trans (h.sa b hb hL),fun o b hm hb => ?_⟩
 by_cases ho : o ∈ ch.map (·.1)
 ·rcases hfr o b ho hm hb with k | ⟨o',_,hm',hb'⟩
  ·exact .inl (vaW h.size k)
  ·exact h.fresh o' b hm' hb'
 ·rw [qaz,if_neg ho] at hm
  refine h.fresh o b hm ?_
  unfold Ctx.has at hb ⊢
  rwa [hst.blk o (hs.lt hm),hst.under o (hs.lt hm) (fun g hg => ⟨fun ⟨q,hq,hqm,hqb⟩ => by
   have := hs.inj o q g hm hqm hg hqb
   subst this; exact ho hq,hs.bd g (hs.sub g (hs.mutSB hm hg))⟩) b] at hb
def Inv (c0 : Ctx) (objs0 : List AObj) (σ : St) (a : Act) (w : World) : Prop := ∃ c,c.w = w /\ StRel c σ a /\ FR c0 objs0 c σ.objs
theorem qkU {c : Ctx} {env : Env} {a : Act} (h : EnvRel c env a) {dst : Option Tmp} (hd : okDst a.tmps.size dst = true) {v : V} {u : Value} (hr : Rel c v u) : EnvRel c (putE env dst v) (a.put dst u) := by
 cases dst with
 | none => exact h
 | some d =>
  have hlt : d < a.tmps.size := by simpa [okDst] using hd
  intro t
  show Rel c (look .undef ((d,v) :: env) t) ((a.tmps.setIfInBounds d u).getD t Go.undef)
  rw [qau]
  by_cases ht : d = t
  ·subst ht
   rw [if_pos rfl]
   have : (a.tmps.setIfInBounds d u).getD d Go.undef = u := by simp [Array.getD,hlt]
   rw [this]; exact hr
  ·rw [if_neg ht]
   have : (a.tmps.setIfInBounds d u).getD t Go.undef = a.tmps.getD t Go.undef := by
    simp only [vaG,vaT ht]
   rw [this]; exact h t
theorem qon {c c' : Ctx} {D : Nat -> Prop} (h : Step c c' D) (hs : ∀ b,c.SB b -> c.SA b) {env : Env} {a : Act} (he : EnvRel c env a) : EnvRel c' env a := fun t => Rel.mono h hs _ _ (he t)
theorem qi2 (a : Act) (dst : Option Tmp) (u : Value) : (a.put dst u).tmps.size = a.tmps.size := by cases dst <;> simp [Act.put]
theorem qkD (a : Act) (dst : Option Tmp) (u : Value) : (a.put dst u).defers = a.defers := by cases dst <;> rfl
def dstOf (ops : Array Oper) (j : Nat) : Option Tmp := (ops[j]?).bind Oper.dst
def SlotsIn (ops : Array Oper) (n : Nat) : Prop := ∀ j t,dstOf ops j = some t -> t < n
theorem qjy {ops : Array Oper} {env : Env} {a : Act} {c : Ctx} (he : EnvRel c env a) (hsz : SlotsIn ops a.tmps.size) {o : Oper} {j : Nat} {want : Bool} (hg : o.guard = some (j,want)) {t : Tmp} (ht : dstOf ops j = some t) {x : Bool} (hx : look .undef env t = .b x) :
  Region.wanted o (yielded ops a.tmps) = (x == want) := by
 have h := he t
 rw [hx] at h
 simp only [Rel] at h
 have hlt := hsz j t ht
 have hy : yielded ops a.tmps j = some x := by
  unfold yielded
  have ht' : (ops[j]?).bind Oper.dst = some t := ht
  have : a.tmps[t]? = some (.bool x) := by
   rw [<- h,vaG,Array.getElem?_eq_getElem hlt]; rfl
  simp [ht',this]
 unfold Region.wanted
 rw [hg]
 simp only [hy]
 cases x <;> cases want <;> rfl
theorem qks {ops : Array Oper} {env : Env} {a : Act} {c : Ctx} (he : EnvRel c env a) {o : Oper} {j : Nat} {want : Bool} (hg : o.guard = some (j,want)) {t : Tmp} (ht : dstOf ops j = some t) (hx : look .undef env t = .tup []) :
  Region.wanted o (yielded ops a.tmps) = false := by
 have h := he t
 rw [hx] at h
 obtain ⟨us,h1,h2⟩ := h
 cases h2
 have ht' : (ops[j]?).bind Oper.dst = some t := ht
 have hy : yielded ops a.tmps j = none := by
  unfold yielded
  rw [ht']
  show (match a.tmps[t]? with | some (.bool b) => some b | _ => none) = none
  rw [vaG] at h1
  cases hq : a.tmps[t]? with
  | none => rfl
  | some u =>
   rw [hq] at h1
   have : u = .tuple #[] := h1
   subst this
   rfl
 unfold Region.wanted
 rw [hg]
 simp only [hy]
 rfl
theorem qme (ops : Array Oper) (j : Nat) : (ops.toList[j]?).bind Oper.dst = dstOf ops j := by simp [dstOf]
theorem qfK (hT : TabOK P tt) {Γ : FEnv} (hΓ : EnvOK P Γ) {ops : Array Oper} {env : Env} {objs : Objs} {nx : Nat} {md : List Nat} {o : Oper} {K : V -> Objs -> Nat -> Option R} {r : R} (h : evGuard tt Γ ops.toList env objs nx md o K = some r)
  {c : Ctx} {a : Act} (hs : SOK c objs) (hn : c.nx = nx) (he : EnvRel c env a) (hsz : SlotsIn ops a.tmps.size) :
  (Region.wanted o (yielded ops a.tmps) = true /\ OpDone P K r o a c objs md) \/ (Region.wanted o (yielded ops a.tmps) = false /\ K (.tup []) [] nx = some r) := by
 unfold evGuard at h
 split at h
 ·rename_i hg
  exact .inl ⟨by simp [Region.wanted,hg],qf5 hT hΓ hs hn he h⟩
 ·rename_i j want hg
  split at h
  ·rename_i t ht
   rw [qme] at ht
   split at h
   ·rename_i x hx
    have hw := qjy he hsz hg ht hx
    rcases qdK h with ⟨hb,h⟩ | ⟨hb,h⟩
    ·exact .inl ⟨by rw [hw,hb]; rfl,qf5 hT hΓ hs hn he h⟩
    ·exact .inr ⟨by rw [hw,hb]; rfl,h⟩
   ·rename_i x hx
    have hw := qjy he hsz hg ht hx
    rcases qdK h with ⟨hb,h⟩ | ⟨hb,h⟩
    ·exact .inr ⟨by rw [hw,hb]; rfl,h⟩
    ·exact .inl ⟨by rw [hw,hb]; rfl,qf5 hT hΓ hs hn he h⟩
   ·rename_i x hx
    exact .inr ⟨qks he hg ht hx,h⟩
   ·cases h
  ·cases h
theorem qfd (hT : TabOK P tt) {Γ : FEnv} (hΓ : EnvOK P Γ) {c0 : Ctx} {objs0 : List AObj} {ops : Array Oper} {Q : Exit -> Act -> World -> Prop} {K : St -> Option R} {r : R} {n : Nat} (hsl : SlotsIn ops n)
  (hK : ∀ σ' a' w',K σ' = some r -> σ'.n = n -> Inv c0 objs0 σ' a' w' -> Q .normal a' w') : ∀ (l : List Oper) (k : Nat) (σ : St) (a : Act) (w : World),ops.toList.drop k = l -> σ.n = n -> Inv c0 objs0 σ a w -> evSeq tt Γ ops.toList l σ K = some r -> wpOps P ops Q (vaN k l.length) a w
 | [],k,σ,a,w,_,hn,hi,h => hK σ a w h hn hi
 | o :: l,k,σ,a,w,hd,hn,hi,h => by
  obtain ⟨c,rfl,hrel,hfr⟩ := hi
  have hk : ops[k]? = some o := by
   have := congrArg (·[0]?) hd
   simpa [va9] using this
  have hd' : ops.toList.drop (k + 1) = l := by
   have := congrArg (List.drop 1) hd
   simpa [List.drop_drop,Nat.add_comm] using this
  unfold evSeq at h
  split at h
  rotate_left
  ·cases h
  rename_i hok
  have hok' : okDst a.tmps.size o.dst = true := by rw [hrel.size]; exact hok
  rw [vaM,va4]
  show wpOps P ops Q (k :: vaN (k + 1) l.length) a c.w
  unfold wpOps
  rw [hk]
  dsimp only
  rcases qfK hT hΓ h hrel.ok hrel.nx hrel.env (by rw [hrel.size,hn]; exact hsl) with ⟨hw,v,ch,nx',h,_,hop⟩ | ⟨hw,h⟩
  ·rw [if_pos hw]
   refine .inl (hop _ _ fun u c' hdn hdr => ?_)
   refine qfd hT hΓ hsl hK l (k + 1) ⟨putE σ.env o.dst v,ch ++ σ.objs,nx',σ.n⟩ _ _ hd' hn ⟨c',rfl,⟨hdn.ok,hdn.nx,?_,by rw [qi2]; exact hrel.size,by rw [qkD]; exact hrel.defers⟩,hfr.step hdr hrel.ok hdn.step hdn.fresh⟩ h
   exact qkU (qon hdn.step hrel.ok.sub hrel.env) hok' hdn.rel
  ·have hw' : ¬ (Region.wanted o (yielded ops a.tmps) = true) := by rw [hw]; exact vba
   rw [if_neg hw']
   refine qfd hT hΓ hsl hK l (k + 1) ⟨putE σ.env o.dst (.tup []),[] ++ σ.objs,σ.nx,σ.n⟩ _ _ hd' hn ⟨c,rfl,⟨hrel.ok,hrel.nx,?_,by rw [qi2]; exact hrel.size,by rw [qkD]; exact hrel.defers⟩,hfr⟩ h
   exact qkU hrel.env hok' ⟨[],rfl,rfl⟩
end Go.Vm

namespace Go.Vm
open Go
variable {P : Program} {tt : Tab}
theorem qnG {o n : Nat} (h : vbo o n = true) : o < n := by simpa using h
theorem qhL : ∀ {l : List Nat} {k n : Nat},frontOK k n l = true -> n <= l.length /\ ∀ j,j < n -> nth 0 l j = k + j
 | _,_,0,_ => ⟨vaH _,fun j hj => by omega⟩
 | [],k,n + 1,h => by cases h
 | i :: r,k,n + 1,h => by
  unfold frontOK at h
  split at h
  ·rename_i hi
   obtain ⟨h1,h2⟩ := qhL h
   refine ⟨by simpa using h1,fun j hj => ?_⟩
   cases j with
   | zero => show i = k + 0; exact vaa hi
   | succ j => show nth 0 r j = k + (j + 1); rw [h2 j (by omega)]; omega
  ·cases h
structure KeepOK (base : Nat) (objs : Objs) (nx : Nat) (ids : List Nat) : Prop where
 nodup : ids.Nodup
 lt : ∀ i ∈ ids,i < nx
 shut : ∀ i ∈ ids,∀ o ∈ (look .dead objs i).ids,o ∈ ids
 len : base <= ids.length
 front : ∀ j,j < base -> nth 0 ids j = j
theorem qhF {base : Nat} {objs : Objs} {nx : Nat} {ids : List Nat} (h : keepOK base objs nx ids = true) : KeepOK base objs nx ids := by
 unfold keepOK at h
 simp only [vab] at h
 obtain ⟨⟨⟨h1,h2⟩,h3⟩,h4⟩ := h
 obtain ⟨h5,h6⟩ := qhL h4
 exact ⟨qeN.1 h1,qhZ.1 h2,fun i hi => qe7 h3 i hi,h5,fun j hj => by rw [h6 j hj]; omega⟩
theorem qod {objs : Objs} {ids : List Nat} {j : Nat} (hj : j < ids.length) : (lessObjs objs ids)[j]? = some ((look .dead objs (nth 0 ids j)).ren (posOf ids)) := by
 unfold lessObjs
 rw [va0,qd8 0 ids j hj]; rfl
theorem qgX (objs : Objs) (ids : List Nat) : (lessObjs objs ids).length = ids.length := by simp [lessObjs]
def lessCtx (c : Ctx) (ids : List Nat) : Ctx :=
 { w := c.w,nx := ids.length,hdr := fun j => c.hdr (nth 0 ids j),blk := fun j => c.blk (nth 0 ids j),sub := fun j b => j < ids.length /\ c.sub (nth 0 ids j) b,SB := c.SB,SA := c.SA }
theorem qlx {c : Ctx} {ids : List Nat} : Ren (posOf ids) c (lessCtx c ids) (· ∈ ids) :=
 ⟨rfl,fun o ho _ => by
  obtain ⟨h1,h2⟩ := qdt ho
  exact ⟨h1,by simp [lessCtx,h2],by simp [lessCtx,h2]⟩,fun b hb _ => hb⟩
theorem qi8 {c : Ctx} {ids : List Nat} {j b : Nat} (h : (lessCtx c ids).has j b) : c.has (nth 0 ids j) b := h.imp id And.right
theorem qez {objs : Objs} {ids : List Nat} (j : Nat) : (j < ids.length /\ look .dead (objsOf (lessObjs objs ids)) j = (look .dead objs (nth 0 ids j)).ren (posOf ids)) \/ (¬ j < ids.length /\ look .dead (objsOf (lessObjs objs ids)) j = .dead) := by
 by_cases hj : j < ids.length
 ·exact .inl ⟨hj,qdg (qod hj)⟩
 ·refine .inr ⟨hj,?_⟩
  rw [qbo,vai,vaU (by rw [qgX]; omega)]; rfl
theorem qnh {c : Ctx} {objs : Objs} (hs : SOK c objs) {base nx : Nat} {ids : List Nat} (hk : KeepOK base objs nx ids) (hnx : c.nx = nx) : SOK (lessCtx c ids) (objsOf (lessObjs objs ids)) := by
 subst hnx
 refine ⟨hs.low,fun j => ?_,fun j1 j2 b h1 h2 b1 b2 => ?_,fun j h b hb => ?_,fun b h => hs.sub b h,hs.bd,fun j hj => hs.one _ (hk.lt _ (qcN hj))⟩
 ·rcases qez (objs := objs) j with ⟨hj,he⟩ | ⟨_,he⟩ <;> rw [he]
  ·have := ObjOK.ren qlx (qcN hj) (hk.shut _ (qcN hj)) (.inl fun _ hb _ => hb) (fun hm b hb => hs.mutSB hm hb) (fun hx b hb => hs.blt hx hb) (fun _ b => by rw [qck hk.nodup hj]; simp [lessCtx,hj]) (hs.obj (nth 0 ids j))
   rwa [qck hk.nodup hj] at this
  ·exact trivial
 ·rcases qez (objs := objs) j1 with ⟨k1,e1⟩ | ⟨_,e1⟩ <;> rw [e1] at h1
  rotate_left
  ·cases h1
  rcases qez (objs := objs) j2 with ⟨k2,e2⟩ | ⟨_,e2⟩ <;> rw [e2] at h2
  rotate_left
  ·cases h2
  rw [qea] at h1 h2
  have := hs.inj _ _ b h1 h2 (qi8 b1) (qi8 b2)
  rw [<- qck hk.nodup k1,this,qck hk.nodup k2]
 ·obtain ⟨hj,hb⟩ := hb
  rcases qez (objs := objs) j with ⟨_,he⟩ | ⟨hn,_⟩
  ·rw [he,qfZ] at h
   exact hs.flat _ h b hb
  ·exact hn hj
theorem qni {c0 c : Ctx} {objs0 : List AObj} {objs : Objs} (h : FR c0 objs0 c objs) {base nx : Nat} {ids : List Nat} (hk : KeepOK base objs nx ids) (hb : c0.nx = base) : FR c0 objs0 (lessCtx c ids) (objsOf (lessObjs objs ids)) := by
 subst hb
 refine ⟨h.os,h.tape,h.output,h.drawn,h.size,hk.len,fun o ho => ?_,fun o ho => ?_,fun o ho hL b => ?_,h.heap,h.sb,h.sa,fun j b hm hb => ?_⟩
 ·show c.hdr (nth 0 ids o) = _; rw [hk.front o ho]; exact h.hdr o ho
 ·show c.blk (nth 0 ids o) = _; rw [hk.front o ho]; exact h.blk o ho
 ·show (o < ids.length /\ c.sub (nth 0 ids o) b) ↔ _
  rw [hk.front o ho,h.under o ho hL b]
  exact ⟨And.right,fun k => ⟨vah ho hk.len,k⟩⟩
 ·rcases qez (objs := objs) j with ⟨hj,he⟩ | ⟨_,he⟩ <;> rw [he] at hm
  ·rw [qea] at hm; exact h.fresh _ b hm (qi8 hb)
  ·cases hm
theorem qly {c : Ctx} {ids : List Nat} {v : V} {u : Value} (hi : ∀ o ∈ V.ids v,o ∈ ids) (h : Rel c v u) : Rel (lessCtx c ids) (v.ren (posOf ids)) u := Rel.ren qlx v u hi (.inl fun b hb _ => hb) h
theorem qjY {f : Nat -> Nat} {g : Nat -> V} : ∀ (live : List Nat) (t : Nat),look .undef (live.zip (V.renL f (live.map g))) t = if t ∈ live then V.ren f (g t) else .undef
 | [],t => rfl
 | s :: r,t => by
  show look .undef ((s,V.ren f (g s)) :: r.zip (V.renL f (r.map g))) t = _
  rw [qau,qjY r t]
  by_cases h : s = t
  ·subst h; simp
  ·rw [if_neg h]
   simp [Ne.symm h]
theorem qls : ∀ {vs : List V} {v : V} {o : Nat},v ∈ vs -> o ∈ V.ids v -> o ∈ V.idsL vs
 | [],_,_,h,_ => by cases h
 | x :: r,v,o,h,ho => by
  rcases vap.1 h with rfl | h
  ·exact vag _ ho
  ·exact vaf _ (qls h ho)
theorem qlo {c0 : Ctx} {objs0 : List AObj} {base : Nat} {live : List Nat} {σ : St} {a : Act} {w : World} (hb : c0.nx = base) (hn : normOK base live σ = true) (h : Inv c0 objs0 σ a w) : Inv c0 objs0 (normSt base live σ) a w := by
 obtain ⟨c,hw,hr,hf⟩ := h
 unfold normOK at hn
 simp only [vab] at hn
 obtain ⟨hin,hk⟩ := hn
 have hin := qb8.1 hin
 have hk := qhF hk
 refine ⟨lessCtx c (keptIds base σ.objs (live.map (look .undef σ.env))),hw,⟨?_,rfl,fun t => ?_,hr.size,hr.defers⟩,?_⟩
 ·have := qnh hr.ok hk hr.nx
  unfold objsOf at this
  rw [qgX] at this
  exact this
 ·show Rel _ (look .undef (live.zip _) t) _
  rw [qjY]
  by_cases ht : t ∈ live
  ·rw [if_pos ht]
   exact qly (fun o ho => hin o (qls (va7 ht) ho)) (hr.env t)
  ·rw [if_neg ht]; exact trivial
 ·have := qni hf hk hb
  unfold objsOf at this
  rw [qgX] at this
  exact this
theorem qpO {c : Ctx} {objs : Objs} (hs : SOK c objs) {o : Nat} {e : Ty} {xs : List e.den} {fz : Bool} (ho : look .dead objs o = .row e xs fz) (l : List Nat) (hl : fz = false -> o ∈ l) {es lo hi : Nat} (hes : es = e.size) {u : Value} (h : Rel c (.sub o es lo hi) u) :
  ∃ a n k,u = .slice a n k /\ Rows (Cells c.w (fzCtx c l).SA e) c.w (fzCtx c l).SA ((xs.take hi).drop lo) a n k := by
 obtain ⟨a,n,k,hh,hr⟩ := qdp hs ho l hl
 obtain ⟨_,a',n',k',hh',h1,h2,rfl⟩ := h
 rw [hh] at hh'; cases hh'
 subst hes
 exact ⟨_,_,_,rfl,hr.cut h1 (by rw [<- hr.1]; exact h2)⟩
theorem qh9 {α : Type} (d : α) (i : Nat) (v : α) (r : List (Nat × α)) : look d ([(i,v)] ++ r) i = v := by
 show look d ((i,v) :: r) i = v
 rw [qau,if_pos rfl]
theorem qhJ {c0 c : Ctx} {objs0 : List AObj} {σ : St} {a : Act} (hr : StRel c σ a) (hf : FR c0 objs0 c σ.objs) {o : Nat} {e : Ty} {xs : List e.den} {fz : Bool} (ho : look .dead σ.objs o = .row e xs fz) :
  ∃ l : List Nat,(fz = false -> o ∈ l) /\ (∃ D,Step c (fzCtx c l) D) /\ SOK (fzCtx c l) (fzRow o e xs fz ++ σ.objs) /\ FR c0 objs0 (fzCtx c l) (fzRow o e xs fz ++ σ.objs) := by
 cases fz with
 | true =>
  have hc : fzCtx c [] = c := by
   unfold fzCtx
   simp
  refine ⟨[],(by intro h; cases h),⟨fun _=>False,by rw [hc]; exact Step.refl c⟩,?_,?_⟩
  ·rw [hc]; exact hr.ok
  ·rw [hc]; exact hf
 | false =>
  have hl : Unfrozen σ.objs [o] := fun o' ho' => by
   rw [vak] at ho'; subst ho'; rw [ho]; rfl
  obtain ⟨hst,hs⟩ := qc0 hr.ok hl
  have hfz : freezes σ.objs [o] = fzRow o e xs false := by
   show [(o,frozenRow (look .dead σ.objs o))] = _
   rw [ho]; rfl
  rw [hfz] at hst hs
  refine ⟨[o],fun _=>vak.2 rfl,⟨_,hst⟩,hs,hf.step (fun _=>vac _) hr.ok hst fun o' b h1 h2 _ => ?_⟩
  have h1 : o' = o := by simpa [fzRow] using h1
  subst h1
  rw [show fzRow o' e xs false ++ σ.objs = (o',AObj.row e xs true) :: σ.objs from rfl,qau,if_pos rfl] at h2
  cases h2
theorem qhR {c0 c : Ctx} {objs0 : List AObj} {σ : St} {a : Act} (hr : StRel c σ a) (hf : FR c0 objs0 c σ.objs) (m : Cm) (v : V) :
  ∃ c',c'.w = c.w /\ (∃ D,Step c c' D) /\ SOK c' ((cm1 σ.objs σ.nx m v).2.1 ++ σ.objs) /\ c'.nx = (cm1 σ.objs σ.nx m v).2.2 /\ FR c0 objs0 c' ((cm1 σ.objs σ.nx m v).2.1 ++ σ.objs) /\ (∀ u,Rel c v u -> Rel c' (cm1 σ.objs σ.nx m v).1 u) := by
 have keep : ∀ x : V × Objs × Nat,x.2.1 = [] -> x.2.2 = σ.nx -> (∀ u,Rel c v u -> Rel c x.1 u) -> ∃ c',c'.w = c.w /\ (∃ D,Step c c' D) /\ SOK c' (x.2.1 ++ σ.objs) /\ c'.nx = x.2.2 /\ FR c0 objs0 c' (x.2.1 ++ σ.objs) /\ (∀ u,Rel c v u -> Rel c' x.1 u) := by
  intro x h1 h2 h3
  rw [h1,h2]
  exact ⟨c,rfl,⟨_,Step.refl c⟩,hr.ok,hr.nx,hf,h3⟩
 unfold cm1
 split
 ·rename_i e
  have hnx := hr.nx
  let c2 : Ctx := { c with nx := c.nx + 1,hdr := fun o => if o < c.nx then c.hdr o else .slice none 0 0,blk := fun o => if o < c.nx then c.blk o else none }
  have hst : Step c c2 (fun _=>False) := ⟨rfl,rfl,rfl,vac _,vbk _,fun o ho => if_pos ho,fun o ho => if_pos ho,fun _ _ _ _ => Iff.rfl,fun _ _ _ => rfl,fun _ _ _ => Iff.rfl,fun _ _ _ => Iff.rfl,fun _ h => h.elim⟩
  have hst' : Step c c2 (Dof c σ.objs [(σ.nx,.row e [] false)]) := ⟨hst.os,hst.tape,hst.output,hst.size,hst.nx,hst.hdr,hst.blk,fun _ _ _ _ => Iff.rfl,fun _ _ _ => rfl,fun _ _ _ => Iff.rfl,fun _ _ _ => Iff.rfl,fun b ⟨o,ho,hm,_⟩ => by
   simp at ho; subst ho
   have hlt := (hr.ok.obj _).lt (fun hd => by rw [hd] at hm; cases hm)
   rw [hnx] at hlt; exact absurd hlt (vaE _)⟩
  have hb2 : c2.blk σ.nx = none := if_neg (by rw [<- hnx]; exact vaE _)
  have hnew : ∀ o b,o ∈ [(σ.nx,AObj.row e [] false)].map (·.1) -> c2.has o b -> False := fun o b ho hb => by
   simp at ho; subst ho
   rcases hb with hb | hb
   ·rw [hb2] at hb; cases hb
   ·exact hr.ok.flat σ.nx (by rw [hr.ok.dead_ge (vaO hnx)]; rfl) b hb
  refine ⟨c2,rfl,⟨_,hst⟩,?_,by show c.nx + 1 = _; rw [hnx],hf.step (fun _=>vac _) hr.ok hst' fun o b h1 _ h3 => (hnew o b h1 h3).elim,fun u hv => ⟨by show σ.nx < c.nx + 1; rw [hnx]; exact vao _,?_⟩⟩
  ·refine hr.ok.step hst' (fun o ho => ?_) (fun o b ho _ hb => (hnew o b ho hb).elim) (fun o1 _ b h1 _ _ _ hb _ => (hnew o1 b h1 hb).elim) (hr.ok.flat_of fun o ho => (by simp at ho; subst ho; rw [hr.ok.dead_ge (vaO hnx)]; rfl)) hr.ok.sub hr.ok.bd (fun o ho => ?_)
   ·simp at ho; subst ho
    show ObjOK c2 σ.nx (look .dead [(σ.nx,AObj.row e [] false)] σ.nx)
    have hl : look .dead [(σ.nx,AObj.row e [] false)] σ.nx = .row e [] false := by rw [qau,if_pos rfl]
    have hh2 : c2.hdr σ.nx = .slice none 0 0 := if_neg (by rw [<- hnx]; exact vaE _)
    rw [hl]
    refine ⟨by show σ.nx < c.nx + 1; rw [hnx]; exact vao _,u8T,[],?_,rfl,?_,fun b hb => (by rw [hb2] at hb; cases hb),fun _=>rfl⟩
    ·rw [hh2]; exact ⟨by simp,.inl ⟨rfl,rfl⟩⟩
    ·rw [hh2,hb2]; rfl
   ·show (if o < c.nx then c.hdr o else .slice none 0 0).oneCell' = true
    split
    ·rename_i h; exact hr.ok.one o h
    ·rfl
  ·cases hv
   show Value.slice none 0 0 = (if σ.nx < c.nx then c.hdr σ.nx else .slice none 0 0)
   rw [if_neg (by rw [hnx]; exact vaE _)]
 ·rename_i d
  have hnx := hr.nx
  let c2 : Ctx := { c with nx := c.nx + 1,hdr := fun o => if o < c.nx then c.hdr o else .slice none 0 0,blk := fun o => if o < c.nx then c.blk o else none }
  have hst : Step c c2 (fun _=>False) := ⟨rfl,rfl,rfl,vac _,vbk _,fun o ho => if_pos ho,fun o ho => if_pos ho,fun _ _ _ _ => Iff.rfl,fun _ _ _ => rfl,fun _ _ _ => Iff.rfl,fun _ _ _ => Iff.rfl,fun _ h => h.elim⟩
  have hst' : Step c c2 (Dof c σ.objs [(σ.nx,.nest (.row d []))]) := ⟨hst.os,hst.tape,hst.output,hst.size,hst.nx,hst.hdr,hst.blk,fun _ _ _ _ => Iff.rfl,fun _ _ _ => rfl,fun _ _ _ => Iff.rfl,fun _ _ _ => Iff.rfl,fun b ⟨o,ho,hm,_⟩ => by
   simp at ho; subst ho
   have hlt := (hr.ok.obj _).lt (fun hd => by rw [hd] at hm; cases hm)
   rw [hnx] at hlt; exact absurd hlt (vaE _)⟩
  have hb2 : c2.blk σ.nx = none := if_neg (by rw [<- hnx]; exact vaE _)
  have hnew : ∀ o b,o ∈ [(σ.nx,AObj.nest (.row d []))].map (·.1) -> c2.has o b -> False := fun o b ho hb => by
   simp at ho; subst ho
   rcases hb with hb | hb
   ·rw [hb2] at hb; cases hb
   ·exact hr.ok.flat σ.nx (by rw [hr.ok.dead_ge (vaO hnx)]; rfl) b hb
  refine ⟨c2,rfl,⟨_,hst⟩,?_,by show c.nx + 1 = _; rw [hnx],hf.step (fun _=>vac _) hr.ok hst' fun o b h1 _ h3 => (hnew o b h1 h3).elim,fun u hv => ⟨by show σ.nx < c.nx + 1; rw [hnx]; exact vao _,?_⟩⟩
  ·refine hr.ok.step hst' (fun o ho => ?_) (fun o b ho _ hb => (hnew o b ho hb).elim) (fun o1 _ b h1 _ _ _ hb _ => (hnew o1 b h1 hb).elim) (hr.ok.flat_of fun o ho => (by simp at ho; subst ho; rw [hr.ok.dead_ge (vaO hnx)]; rfl)) hr.ok.sub hr.ok.bd (fun o ho => ?_)
   ·simp at ho; subst ho
    show ObjOK c2 σ.nx (look .dead [(σ.nx,AObj.nest (.row d []))] σ.nx)
    have hl : look .dead [(σ.nx,AObj.nest (.row d []))] σ.nx = .nest (.row d []) := by rw [qau,if_pos rfl]
    have hh2 : c2.hdr σ.nx = .slice none 0 0 := if_neg (by rw [<- hnx]; exact vaE _)
    rw [hl]
    refine ⟨by show σ.nx < c.nx + 1; rw [hnx]; exact vao _,u8T,[],[],?_,⟨rfl,rfl⟩,?_,fun b => ⟨fun hb => (hr.ok.flat σ.nx (by rw [hr.ok.dead_ge (vaO hnx)]; rfl) b hb).elim,fun hb => by cases hb⟩,by rw [hb2]; exact List.nodup_nil,fun b hb => (hnew σ.nx b (by simp) hb).elim,fun _=>rfl⟩
    ·rw [hh2]; exact ⟨by simp,.inl ⟨rfl,rfl⟩⟩
    ·rw [hh2,hb2]; rfl
   ·show (if o < c.nx then c.hdr o else .slice none 0 0).oneCell' = true
    split
    ·rename_i h; exact hr.ok.one o h
    ·rfl
  ·cases hv
   show Value.slice none 0 0 = (if σ.nx < c.nx then c.hdr σ.nx else .slice none 0 0)
   rw [if_neg (by rw [hnx]; exact vaE _)]
 ·rename_i e
  exact keep _ rfl rfl fun u hv => by cases hv; exact ⟨none,0,0,rfl,rfl,vac _,[],rfl,.inl rfl⟩
 ·rename_i e
  exact keep _ rfl rfl fun u hv => by cases hv; exact ⟨none,0,0,rfl,rfl,vac _,[],rfl,.inl rfl⟩
 ·rename_i e
  exact keep _ rfl rfl fun u hv => by cases hv; exact ⟨none,0,0,rfl,⟨rfl,vac _,[],rfl,.inl rfl⟩,rfl⟩
 ·rename_i o
  split
  ·rename_i e xs fz ho
   obtain ⟨l,hl,hst,hs,hf'⟩ := qhJ hr hf ho
   refine ⟨fzCtx c l,rfl,hst,hs,hr.nx,hf',fun u hv => ?_⟩
   obtain ⟨a,n,k,hh,hrw⟩ := qdp hr.ok ho l hl
   obtain ⟨_,rfl,a',n',k',hnn⟩ := hv
   rw [hnn] at hh
   cases hh
   exact ⟨_,_,_,hnn,hrw,rfl⟩
  ·exact keep _ rfl rfl fun u hv => hv
 ·rename_i o
  split
  ·rename_i e xs ho
   obtain ⟨et',cells,hown,hcl,hobk,_,h5,_,hty⟩ := hr.ok.row_at ho
   have hm : (look .dead σ.objs o).mut = true := by rw [ho]; rfl
   obtain ⟨c',hw,hd⟩ := Done.killNew hr.ok (o := o) (w := c.w) (hv := c.hdr o) (et := et') (zs := xs) (cells := cells) ⟨hm,by rw [ho]; rfl⟩ rfl rfl rfl (vac _) (fun _ _ _ => rfl) hown hcl (fun b hb => .inr (by rw [<- hobk]; exact hb)) hty
   have hnx' := hr.nx
   rw [<- hnx']
   exact ⟨c',hw,⟨_,hd.step⟩,hd.ok,hd.nx,hf.step (fun _=>by rw [hw]; exact vac _) hr.ok hd.step hd.fresh,fun u hv => by rw [hv.2]; exact hd.rel⟩
  ·exact keep _ rfl rfl fun u hv => hv
 ·rename_i o
  split
  ·rename_i e xs fz ho
   obtain ⟨l,hl,hst,hs,hf'⟩ := qhJ hr hf ho
   refine ⟨fzCtx c l,rfl,hst,hs,hr.nx,hf',fun u hv => ?_⟩
   obtain ⟨a,n,k,hh,hrw⟩ := qdp hr.ok ho l hl
   obtain ⟨_,rfl⟩ := hv
   exact ⟨a,n,k,hh,hrw⟩
  ·rename_i d xs ho
   split
   ·rename_i hm
    have hl : Unfrozen σ.objs [o] := fun o' ho' => by
     rw [vak] at ho'; subst ho'; rw [ho]; exact hm
    obtain ⟨hst,hs⟩ := qc0 hr.ok hl
    have hfz : freezes σ.objs [o] = [(o,.row d.er (erC hm xs) true)] := by
     show [(o,frozenRow (look .dead σ.objs o))] = _
     rw [ho,show frozenRow (.nest (.row d xs)) = .row d.er (erC hm xs) true from dif_pos hm]
    rw [hfz] at hst hs
    have hlk : look .dead ([(o,AObj.row d.er (erC hm xs) true)] ++ σ.objs) o = .row d.er (erC hm xs) true := qh9 ..
    refine ⟨fzCtx c [o],rfl,⟨_,hst⟩,hs,hr.nx,hf.step (fun _=>vac _) hr.ok hst fun o' b h1 h2 _ => ?_,fun u hv => ?_⟩
    ·have h1 : o' = o := by simpa using h1
     subst h1
     rw [hlk] at h2; cases h2
    ·obtain ⟨a,n,k,hh,hrw⟩ := qdp hs hlk [] (fun h => by cases h)
     have hc : fzCtx (fzCtx c [o]) [] = fzCtx c [o] := by
      unfold fzCtx
      simp
     rw [hc] at hrw
     obtain ⟨_,rfl⟩ := hv
     exact ⟨a,n,k,hh,hrw⟩
   ·exact keep _ rfl rfl fun u hv => hv
  ·exact keep _ rfl rfl fun u hv => hv
 ·rename_i o es lo hi
  split
  ·rename_i e xs fz ho
   split
   ·rename_i hes
    obtain ⟨l,hl,hst,hs,hf'⟩ := qhJ hr hf ho
    refine ⟨fzCtx c l,rfl,hst,hs,hr.nx,hf',fun u hv => ?_⟩
    obtain ⟨a,n,k,hh,hrw⟩ := qpO hr.ok ho l hl (vaa hes) hv
    exact ⟨a,n,k,hh,hrw⟩
   ·exact keep _ rfl rfl fun u hv => hv
  ·exact keep _ rfl rfl fun u hv => hv
 ·rename_i o
  split
  ·rename_i e xs ho
   have hm : (look .dead σ.objs o).mut = true := by rw [ho]; rfl
   refine ⟨c,rfl,⟨_,Step.refl c⟩,hr.ok.swap hm (fun _ b hb => hr.ok.flat o (by rw [ho]; rfl) b hb) trivial,hr.nx,{ hf with fresh := fun j b hmj hb => hf.fresh j b ?_ hb },fun u hv => hv⟩
   rw [show ([(o,AObj.dead)] ++ σ.objs : Objs) = (o,.dead) :: σ.objs from rfl,qau] at hmj
   split at hmj
   ·cases hmj
   ·exact hmj
  ·exact keep _ rfl rfl fun u hv => hv
 ·split
  ·rename_i hlt
   have hlt := qnG hlt
   exact keep _ rfl rfl fun u hv => ⟨by rw [hr.nx]; exact hlt,.inl hv⟩
  ·exact keep _ rfl rfl fun u hv => hv
 ·exact keep _ rfl rfl fun u hv => hv
theorem qet {c c' : Ctx} : ∀ {cs : List V} {us : List Value} (j : Nat) {v : V},RelL c cs us -> RelL c' cs us -> (∀ u,Rel c (getC cs j) u -> Rel c' v u) -> RelL c' (setNth j v cs) us
 | [],us,j,v,_,h,_ => by cases j <;> exact h
 | x :: r,us,0,v,⟨u0,us0,e0,k1,_⟩,⟨u,us',e,h1,h2⟩,hv => by
  have hh : u = u0 := (vbt.inj (e.symm.trans e0)).1
  exact ⟨u,us',e,hv u (hh ▸ k1),h2⟩
 | x :: r,us,j + 1,v,⟨u0,us0,e0,_,k2⟩,⟨u,us',e,h1,h2⟩,hv => by
  have hh : us' = us0 := (vbt.inj (e.symm.trans e0)).2
  exact ⟨u,us',e,h1,qet j (hh ▸ k2) h2 fun u' h3 => hv u' h3⟩
theorem qpo (objs : Objs) (nx : Nat) (m : Cm) {v : V} (h : v.isC = true) : (cm1 objs nx m v).1.isC = true := by
 unfold cm1
 split
 ·rfl
 ·rfl
 ·rfl
 ·rfl
 ·rfl
 ·split <;> rfl
 ·split <;> rfl
 ·split
  ·rfl
  ·split <;> rfl
  ·rfl
 ·split
  ·split
   ·rfl
   ·rfl
  ·rfl
 ·split <;> exact h
 ·split <;> rfl
 ·exact h
theorem qiB : ∀ {cs : List V} (j : Nat) {v : V},cs.all V.isC = true -> ((getC cs j).isC = true -> v.isC = true) -> (setNth j v cs).all V.isC = true
 | [],j,_,_,_ => by cases j <;> rfl
 | x :: r,0,v,h,hv => by
  simp only [va3,vab] at h
  show (v :: r).all V.isC = true
  simp only [va3,vab]
  exact ⟨hv h.1,h.2⟩
 | x :: r,j + 1,v,h,hv => by
  simp only [va3,vab] at h
  show (x :: setNth j v r).all V.isC = true
  simp only [va3,vab]
  exact ⟨h.1,qiB j h.2 hv⟩
theorem qmx {c : Ctx} {objs : Objs} (hs : SOK c objs) {o vt : Nat} {cs cs' : List V} (ho : look .dead objs o = .var vt cs) (hall : cs'.all V.isC = true)
  (hrel : ∀ us b el,c.blk o = some b -> c.w.heap[b]? = some (.cells (us : List Value).toArray el (0,0)) -> RelL c cs us -> RelL c cs' us) : SOK c ((o,.var vt cs') :: objs) := by
 have hm : ∀ j,(look .dead ((o,AObj.var vt cs') :: objs) j).mut = (look .dead objs j).mut := fun j => by
  rw [qau]
  split
  ·rename_i h; subst h; rw [ho]; rfl
  ·rfl
 refine ⟨hs.low,fun j => ?_,fun j1 j2 b h1 h2 => by rw [hm] at h1 h2; exact hs.inj j1 j2 b h1 h2,fun q h => hs.flat q (by rw [qau] at h; split at h; rename_i e; subst e; rw [ho]; rfl; exact h),hs.sub,hs.bd,hs.one⟩
 rw [qau]
 split
 ·rename_i h; subst h
  have := hs.obj o
  rw [ho] at this
  obtain ⟨h1,b,us,el,h2,h3,h4,h5,_,hel⟩ := this
  exact ⟨h1,b,us,el,h2,h3,hrel us b el h2 h3 h4,h5,hall,hel⟩
 ·exact hs.obj j
theorem FR.swap {c0 c : Ctx} {objs0 : List AObj} {objs : Objs} (h : FR c0 objs0 c objs) {o vt : Nat} {cs cs' : List V} (ho : look .dead objs o = .var vt cs) : FR c0 objs0 c ((o,.var vt cs') :: objs) :=
 { h with fresh := fun j b hm hb => h.fresh j b (by
   rw [qau] at hm
   split at hm
   ·rename_i h; subst h; rw [ho]; rfl
   ·exact hm) hb }
theorem qpS (objs : Objs) (nx : Nat) (m : Cm) (v : V) {o : Nat} (h : o ≠ nx) {vt : Nat} {cs : List V} (ho : look .dead objs o = .var vt cs) : o ∉ (cm1 objs nx m v).2.1.map (·.1) := by
 have hfz : ∀ {o' : Nat} {e : Ty} {xs : List e.den} {fz : Bool},look .dead objs o' = .row e xs fz -> o ∉ (fzRow o' e xs fz).map (·.1) := fun {o' e xs fz} ho' => by
  cases fz with
  | true => simp [fzRow]
  | false =>
   intro hm
   have hm : o = o' := by simpa [fzRow] using hm
   subst hm; rw [ho] at ho'; cases ho'
 unfold cm1
 split
 ·simpa using h
 ·simpa using h
 ·simp
 ·simp
 ·simp
 ·split
  ·rename_i ho'; exact hfz ho'
  ·simp
 ·split
  ·rename_i o' _ e xs ho'
   intro hm
   have hm : o = o' \/ o = nx := by simpa using hm
   rcases hm with rfl | rfl
   ·rw [ho] at ho'; cases ho'
   ·exact h rfl
  ·simp
 ·split
  ·rename_i ho'; exact hfz ho'
  ·rename_i o' _ d xs ho'
   split
   ·intro hm
    have hm : o = o' := by simpa using hm
    subst hm; rw [ho] at ho'; cases ho'
   ·simp
  ·simp
 ·split
  ·rename_i ho'
   split
   ·exact hfz ho'
   ·simp
  ·simp
 ·split
  ·rename_i o' _ _ _ ho'
   intro hm
   have hm : o = o' := by simpa using hm
   subst hm; rw [ho] at ho'; cases ho'
  ·simp
 ·split <;> simp
 ·simp
theorem qo8 {c : Ctx} {objs : Objs} (hs : SOK c objs) {o : Nat} {e : Ty} {xs : List e.den} {fz : Bool} (ho : look .dead objs o = .row e xs fz) {u : Value} (h : Rel c (.own o) u) : Rel c (.sub o e.size 0 xs.length) u := by
 obtain ⟨hlt,rfl⟩ := h
 obtain ⟨et,cells,hown,_⟩ := hs.row_at ho
 refine ⟨hlt,?_⟩
 rcases hown.2 with ⟨hv,hz⟩ | ⟨g,cap,cur,hv,_,_,hle,_⟩
 ·exact ⟨_,_,_,hv,vaH _,by rw [hz]; exact vac _,by rw [hv,hz]; rfl⟩
 ·refine ⟨_,_,_,hv,vaH _,vac _,?_⟩
  rw [hv]
  simp only [vbw,vbv,Option.map_some]
  split
  ·rfl
  ·rw [Addr.add_lit]
theorem qmD {c0 c : Ctx} {objs0 : List AObj} {σ : St} {a : Act} (hr : StRel c σ a) (hf : FR c0 objs0 c σ.objs) {o es lo hi : Nat} {u : Value} (hv : Rel c (.sub o es lo hi) u) :
  ∃ c',c'.w = c.w /\ (∃ D,Step c c' D) /\ SOK c' ((trim1 σ.objs σ.nx o es lo hi).2.1 ++ σ.objs) /\ c'.nx = (trim1 σ.objs σ.nx o es lo hi).2.2 /\ FR c0 objs0 c' ((trim1 σ.objs σ.nx o es lo hi).2.1 ++ σ.objs) /\ Rel c' (trim1 σ.objs σ.nx o es lo hi).1 u := by
 have keep : ∃ c',c'.w = c.w /\ (∃ D,Step c c' D) /\ SOK c' (([] : Objs) ++ σ.objs) /\ c'.nx = σ.nx /\ FR c0 objs0 c' (([] : Objs) ++ σ.objs) /\ Rel c' (.sub o es lo hi) u := ⟨c,rfl,⟨_,Step.refl c⟩,hr.ok,hr.nx,hf,hv⟩
 unfold trim1
 split
 ·rename_i e xs hob
  split
  ·rename_i hcc
   simp only [vab] at hcc
   have hlo : lo = 0 := vaa hcc.1
   have hes : es = e.size := vaa hcc.2
   obtain ⟨hnx,a',n,k,hh,_,hhi,rfl⟩ := hv
   have hm : (look .dead σ.objs o).mut = true := by rw [hob]; rfl
   obtain ⟨et',cells,hown,hcl,hobk,_,h5,_,hty⟩ := hr.ok.row_at hob
   subst hlo hes
   have key : ∃ c',c'.w = c.w /\ Done c σ.objs c' (.own c.nx) (.slice (if k = 0 then a' else a'.map (·.add (0 * e.size))) (hi - 0) (k - 0)) [(o,.dead),(c.nx,.row e (xs.take hi) false)] (c.nx + 1) := by
    rcases hown.2 with ⟨hv,hz0⟩ | ⟨g,cap,cur,hv,_,hg,hle,hcm,hcs,htk⟩
    ·have hx0 : xs = [] := van hz0
     subst hx0
     rw [hh] at hv; cases hv
     have hhi0 : hi = 0 := by omega
     subst hhi0
     exact Done.killNew hr.ok (o := o) (w := c.w) (hv := .slice none 0 0) (et := et') (zs := ([] : List e.den).take 0) (cells := []) ⟨hm,by rw [hob]; rfl⟩ rfl rfl rfl (vac _) (fun _ _ _ => rfl) ⟨by simp,.inl ⟨rfl,rfl⟩⟩ (show CellsL (Cells c.w c.SA e) ([] : List e.den) [] from rfl) (fun b hb => by simp [Value.ownBlock] at hb) hty
    ·rw [hh] at hv; cases hv
     have hbk : c.blk o = some g := by rw [<- hobk,hh]; rfl
     have hclen := hcl.len (fun x cs h => Cells.len e x cs h)
     have htake := CellsL.take (fun x cs h => Cells.len e x cs h) _ _ hcl hi
     have htl : (cells.take (hi * e.size)).length = hi * e.size := by
      rw [vaz,hclen]
      exact vaI (vaK _ hhi)
     have hln : (xs.take hi).length = hi := by rw [vaz,vaI hhi]
     have hsl' : (Value.slice (if k = 0 then some (⟨g,0,none⟩ : Addr) else (some (⟨g,0,none⟩ : Addr)).map (·.add (0 * e.size))) (hi - 0) (k - 0)) = .slice (some ⟨g,0,none⟩) hi k := by
      simp [Addr.add]
     rw [hsl']
     refine Done.killNew hr.ok (o := o) (w := c.w) (hv := .slice (some ⟨g,0,none⟩) hi k) (zs := xs.take hi) (cells := cells.take (hi * e.size)) (et := et') ⟨hm,by rw [hob]; rfl⟩ rfl rfl rfl (vac _) (fun _ _ _ => rfl) ⟨by rw [hln,htl],.inr ⟨g,k,_,by rw [hln],vaH _,hg,by rw [hln]; omega,hcm,hcs,?_⟩⟩ htake (fun b hb => by simp [Value.ownBlock] at hb; subst hb; exact .inr hbk) hty
     rw [hln,<- htk,List.take_take,vaI (vaK _ hhi)]
   obtain ⟨c',hw,hd⟩ := key
   have hnx' := hr.nx
   rw [<- hnx']
   exact ⟨c',hw,⟨_,hd.step⟩,hd.ok,hd.nx,hf.step (fun _=>by rw [hw]; exact vac _) hr.ok hd.step hd.fresh,hd.rel⟩
  ·exact keep
 ·exact keep
theorem qpl {c0 c : Ctx} {objs0 : List AObj} {σ : St} {a : Act} (hr : StRel c σ a) (hf : FR c0 objs0 c σ.objs) (m : Cm) (j : Nat) {v : V} {u : Value} (hv : Rel c v u) :
  ∃ c',c'.w = c.w /\ (∃ D,Step c c' D) /\ SOK c' ((cv2 σ.objs σ.nx m j v).2.1 ++ σ.objs) /\ c'.nx = (cv2 σ.objs σ.nx m j v).2.2 /\ FR c0 objs0 c' ((cv2 σ.objs σ.nx m j v).2.1 ++ σ.objs) /\ Rel c' (cv2 σ.objs σ.nx m j v).1 u := by
 unfold cv2
 split
 ·rename_i o
  unfold cut1
  have keep : ∃ c',c'.w = c.w /\ (∃ D,Step c c' D) /\ SOK c' (([] : Objs) ++ σ.objs) /\ c'.nx = σ.nx /\ FR c0 objs0 c' (([] : Objs) ++ σ.objs) /\ Rel c' (.own o) u := ⟨c,rfl,⟨_,Step.refl c⟩,hr.ok,hr.nx,hf,hv⟩
  split
  ·split
   ·rename_i e xs fz ho
    exact ⟨c,rfl,⟨_,Step.refl c⟩,hr.ok,hr.nx,hf,qo8 hr.ok ho hv⟩
   ·exact keep
  ·rename_i e
   obtain ⟨c',hw,hst,hs,hn,hf',hrel⟩ := qhR hr hf (.fz e) (.own o)
   exact ⟨c',hw,hst,hs,hn,hf',hrel _ hv⟩
  ·exact keep
 ·rename_i o es lo hi
  unfold subV
  split
  ·exact qmD hr hf hv
  ·obtain ⟨c',hw,hst,hs,hn,hf',hrel⟩ := qhR hr hf m (.sub o es lo hi)
   exact ⟨c',hw,hst,hs,hn,hf',hrel _ hv⟩
 ·rename_i cs
  obtain ⟨us,e,hl⟩ := hv
  obtain ⟨c',hw,⟨D,hst⟩,hs,hn,hf',hrel⟩ := qhR hr hf m (getC cs j)
  exact ⟨c',hw,⟨D,hst⟩,hs,hn,hf',us,e,qet j hl (RelL.mono hst hr.ok.sub _ _ hl) fun u' h => hrel u' h⟩
 ·rename_i o off
  split
  ·rename_i vt cs ho
   have hob := hr.ok.obj o
   rw [ho] at hob
   obtain ⟨hlt,b,us,el,hb1,hb2,hl,_,hall,_⟩ := hob
   obtain ⟨c',hw,⟨D,hst⟩,hs,hn,hf',hrel⟩ := qhR hr hf m (getC cs (off + j))
   have hne : o ≠ σ.nx := by rw [<- hr.nx]; exact vaV hlt
   have ho' : look .dead ((cm1 σ.objs σ.nx m (getC cs (off + j))).2.1 ++ σ.objs) o = .var vt cs := by rw [qaz,if_neg (qpS _ _ _ _ hne ho),ho]
   have hvar : ∀ us' el',c'.blk o = some b -> c'.w.heap[b]? = some (.cells (us' : List Value).toArray el' (0,0)) -> us' = us := fun us' el' _ h2 => by
    rw [hw,hb2] at h2; have h3 := vbf.inj h2
    simp at h3; exact h3.1.symm
   exact ⟨c',hw,⟨D,hst⟩,qmx hs ho' (qiB _ hall fun h => qpo _ _ _ h) (fun us' b' el' k1 k2 hl' => by
    rw [hst.blk o hlt,hb1] at k1; cases k1
    have := hvar us' el' (by rw [hst.blk o hlt,hb1]) k2
    subst this
    exact qet _ hl hl' fun u' h => hrel u' h),hn,hf'.swap ho',Rel.mono hst hr.ok.sub _ _ hv⟩
  ·exact ⟨c,rfl,⟨_,Step.refl c⟩,hr.ok,hr.nx,hf,hv⟩
 ·obtain ⟨c',hw,hst,hs,hn,hf',hrel⟩ := qhR hr hf m v
  exact ⟨c',hw,hst,hs,hn,hf',hrel _ hv⟩
theorem qlY {c0 c : Ctx} {objs0 : List AObj} {σ : St} {a : Act} (hr : StRel c σ a) (hf : FR c0 objs0 c σ.objs) {v : V} {u : Value} (hv : Rel c v u) (o : Option Nat) :
  ∃ c',c'.w = c.w /\ (∃ D,Step c c' D) /\ SOK c' (shutAt σ.objs o ++ σ.objs) /\ c'.nx = σ.nx /\ FR c0 objs0 c' (shutAt σ.objs o ++ σ.objs) /\ Rel c' v u := by
 have keep : ∃ c',c'.w = c.w /\ (∃ D,Step c c' D) /\ SOK c' (([] : Objs) ++ σ.objs) /\ c'.nx = σ.nx /\ FR c0 objs0 c' (([] : Objs) ++ σ.objs) /\ Rel c' v u := ⟨c,rfl,⟨_,Step.refl c⟩,hr.ok,hr.nx,hf,hv⟩
 cases o with
 | none => exact keep
 | some o =>
  unfold shutAt
  dsimp only
  unfold shutCh
  split
  ·rename_i ids xs h
   obtain ⟨ch,c',hk,hw,hnx,hd⟩ := qlX hr.ok h
   have hd := hd v u fun st => Rel.mono st hr.ok.sub _ _ hv
   have h1 := vbf.inj hk
   have h2 : V.tup (ch.map fun c => .own c.1) = .tup ids := congrArg Prod.fst h1
   have h3 : ch.map (·.2) = xs := congrArg Prod.snd h1
   injection h2 with h2
   rw [<- h2,<- h3,qiH]
   exact ⟨c',hw,⟨_,hd.step⟩,hd.ok,by rw [hnx,hr.nx],hf.step (fun _=>by rw [hw]; exact vac _) hr.ok hd.step fun o' b h1 h2 h3 => hd.fresh o' b h1 h2 h3,hd.rel⟩
  ·exact keep
theorem qpm {c0 c : Ctx} {objs0 : List AObj} {σ : St} {a : Act} (hr : StRel c σ a) (hf : FR c0 objs0 c σ.objs) (m : Cm) (j : Nat) {v : V} {u : Value} (hv : Rel c v u) :
  ∃ c',c'.w = c.w /\ (∃ D,Step c c' D) /\ SOK c' ((cv1 σ.objs σ.nx m j v).2.1 ++ σ.objs) /\ c'.nx = (cv1 σ.objs σ.nx m j v).2.2 /\ FR c0 objs0 c' ((cv1 σ.objs σ.nx m j v).2.1 ++ σ.objs) /\ Rel c' (cv1 σ.objs σ.nx m j v).1 u := by
 unfold cv1
 split
 ·exact qlY hr hf hv _
 ·exact qpl hr hf _ j hv
theorem qnv : ∀ (l : Cvs) (σ : St),(cvSt l σ).n = σ.n
 | [],_ => rfl
 | (_,_,_) :: r,_ => qnv r _
theorem qlO {c0 : Ctx} {objs0 : List AObj} : ∀ (l : Cvs) {σ : St} {a : Act} {w : World},Inv c0 objs0 σ a w -> Inv c0 objs0 (cvSt l σ) a w
 | [],_,_,_,h => h
 | (t,j,m) :: r,σ,a,w,h => by
  obtain ⟨c,hw,hr,hf⟩ := h
  obtain ⟨c',hw',⟨_,hst⟩,hs,hn,hf',hrel⟩ := qpm hr hf m j (hr.env t)
  refine qlO r ⟨c',hw'.trans hw,⟨hs,hn,fun t' => ?_,hr.size,hr.defers⟩,hf'⟩
  show Rel c' (look .undef ((t,_) :: σ.env) t') _
  rw [qau]
  by_cases ht : t = t'
  ·subst ht; rw [if_pos rfl]; exact hrel
  ·rw [if_neg ht]; exact Rel.mono hst hr.ok.sub _ _ (hr.env t')
def getRes (tmps : Array Value) : ResultVar -> Sem Value
 | .tmp t => pure (tmps.getD t Go.undef)
 | .cell a t => do loadVar t (<- asAddr (tmps.getD a Go.undef))
theorem qi7 {t : TypeId} {u z : Value} {w : World} (h : (Instr.loadAt t u).run P w = .ok z w) : (asAddr u >>= fun a => loadVar t a).run P w = .ok z w := by
 unfold Instr.loadAt Instr.sureAddr at h
 cases u with
 | pointer p =>
  cases p with
  | some a => simpa [asAddr] using h
  | none => simp at h
 | _ => simp at h
theorem qfU (hT : TabOK P tt) {objs : Objs} {env : Env} {c : Ctx} (hs : SOK c objs) {a : Act} (he : EnvRel c env a) {r : R} : ∀ (rs : List ResultVar) (K : List V -> Option R),resK tt objs env rs K = some r ->
  ∃ vs us,K vs = some r /\ RelL c vs us /\ (rs.mapM (getRes a.tmps)).run P c.w = .ok us c.w
 | [],K,h => ⟨[],[],h,rfl,rfl⟩
 | .tmp t :: rs,K,h => by
  obtain ⟨vs,us,h1,h2,h3⟩ := qfU hT hs he rs _ h
  refine ⟨_,_ :: us,h1,⟨_,us,rfl,he t,h2⟩,?_⟩
  rw [List.mapM_cons]
  simp [getRes,h3]
 | .cell x t :: rs,K,h => by
  obtain ⟨v,z,h,hr,hl⟩ := qhC hT hs (he x) h
  obtain ⟨vs,us,h1,h2,h3⟩ := qfU hT hs he rs _ h
  refine ⟨_,z :: us,h1,⟨_,us,rfl,hr,h2⟩,?_⟩
  have := qi7 hl
  have hg : getRes a.tmps (.cell x t) = (asAddr (a.tmps.getD x Go.undef) >>= fun y => loadVar t y) := rfl
  rw [List.mapM_cons,Sem.run_bind,hg,this]
  simp [Result.andThen,h3]
theorem qkw {fn : Func} {a : Act} {c : Ctx} {us : List Value} (h : (fn.results.toList.mapM (getRes a.tmps)).run P c.w = .ok us c.w) :
  (results fn a.tmps).run P c.w = .ok (if h : us.toArray.size = 1 then us.toArray[0] else .tuple us.toArray) c.w := by
 have e : results fn a.tmps = (fn.results.mapM (getRes a.tmps) >>= fun vs => pure (if h : vs.size = 1 then vs[0] else .tuple vs)) := rfl
 rw [e,Array.mapM_eq_mapM_toList,Sem.run_bind,Sem.run_map,h]
 rfl
theorem qlZ {c : Ctx} : ∀ {vs : List V} {us : List Value},RelL c vs us -> Rel c (resOne vs) (if h : us.toArray.size = 1 then us.toArray[0] else .tuple us.toArray)
 | [],us,h => by cases h; exact ⟨[],rfl,rfl⟩
 | [v],us,h => by
  obtain ⟨u,us',rfl,h1,h2⟩ := h
  cases h2
  exact h1
 | v :: w :: r,us,h => by
  obtain ⟨u,us',rfl,h1,u2,us2,rfl,h2⟩ := h
  rw [dif_neg (by simp)]
  exact ⟨u :: u2 :: us2,rfl,u,_,rfl,h1,u2,us2,rfl,h2⟩
def xt : Xt -> Exit
 | .normal => .normal
 | .exit id => .exit id
 | .ret => .ret
theorem qkc (hT : TabOK P tt) {c0 : Ctx} {objs0 : List AObj} (hs0 : SOK c0 (objsOf objs0)) {base : Nat} (hb : c0.nx = base) {fn : Func} {e : Xt} {σ : St} {res : V} {objs' : List AObj} (h : finish tt base fn.results.toList e σ = some (res,objs')) {a : Act} {w : World} (hi : Inv c0 objs0 σ a w) :
  bodyPost P fn (fun e w' => ∃ u c',e = .returned u /\ c'.w = w' /\ FnPost c0 objs0 c' res u objs') (xt e) a w := by
 obtain ⟨c,rfl,hr,hf⟩ := hi
 have key : ∀ h : resK tt σ.objs σ.env fn.results.toList (fun vs =>
   let v := resOne vs
   let ids := keptIds base σ.objs [v]
   match allIn (V.ids v) ids && keepOK base σ.objs σ.nx ids with
   | true => some (v.ren (posOf ids),lessObjs σ.objs ids)
   | false => none) = some (res,objs'),a.defers = [] /\ ∃ v,(results fn a.tmps).run P c.w = .ok v c.w /\ ∃ u c',Ending.returned v = .returned u /\ c'.w = c.w /\ FnPost c0 objs0 c' res u objs' := fun h => by
  obtain ⟨vs,us,h,h2,h3⟩ := qfU hT hr.ok hr.env _ _ h
  dsimp only at h
  refine ⟨hr.defers,_,qkw h3,_,lessCtx c (keptIds base σ.objs [resOne vs]),rfl,rfl,?_⟩
  split at h
  rotate_left
  ·cases h
  rename_i hk
  cases h
  simp only [vab] at hk
  obtain ⟨hin,hk⟩ := hk
  have hk := qhF hk
  have hf' := qni hf hk hb
  refine ⟨⟨hf'.os,hf'.tape,hf'.output,hf'.size,hf'.nx,hf'.hdr,hf'.blk,hf'.under,hf'.heap,hf'.sb,hf'.sa,fun b hL => ?_⟩,qnh hr.ok hk hr.nx,qly (fun o ho => qb8.1 hin o ho) (qlZ h2),(qgX _ _).symm,fun b hL => ?_,hf.drawn⟩
  ·obtain ⟨j,hm,hbk⟩ := qgf.1 hL
   exact hs0.mutSB hm hbk
  ·obtain ⟨j,hm,hbk⟩ := qgf.1 hL
   exact hf'.fresh j b hm hbk
 cases e with
 | normal => exact key h
 | ret => exact key h
 | exit id => cases h
end Go.Vm

namespace Go.Vm
open Go
variable {P : Program} {tt : Tab} {Γ : FEnv}
def RegionOK (P : Program) (tt : Tab) (Γ : FEnv) : Prop := ∀ (c0 : Ctx) (objs0 : List AObj) (id : Nat) (ops : Array Oper) (draw : Bool) (σ : St) (K : St -> Option R) (r : R) (Q : Exit -> Act -> World -> Prop) (a : Act) (w : World),
 evRegion tt Γ ops.toList draw σ K = some r -> Inv c0 objs0 σ a w -> (∀ σ' a' w',K σ' = some r -> σ'.n = σ.n -> Inv c0 objs0 σ' a' w' -> Q .normal a' w') -> (Code.region id ops draw).wp P Q a w
def KOK (c0 : Ctx) (objs0 : List AObj) (n : Nat) (r : R) (K : Xt -> St -> Option R) (Q : Exit -> Act -> World -> Prop) : Prop :=
 ∀ e σ a w,K e σ = some r -> σ.n = n -> Inv c0 objs0 σ a w -> Q (xt e) a w
def LoopOK (P : Program) (c0 : Ctx) (objs0 : List AObj) (n : Nat) (L : LoopF) : Prop := ∀ (c : Code) (σ : St) (K : Xt -> St -> Option R) (r : R) (Q : Exit -> Act -> World -> Prop) (a : Act) (w : World),
 L c σ K = some r -> σ.n = n -> Inv c0 objs0 σ a w -> KOK c0 objs0 n r K Q -> (Code.loop c).wp P Q a w
theorem qmc {c : Ctx} {env : Env} {a : Act} (he : EnvRel c env a) {x : Operand} {b : Bool} (h : evalO env x = .b b) : a.eval x = .bool b := by
 have := qaw he x
 rw [h] at this
 exact this
theorem qdA (hR : RegionOK P tt Γ) {c0 : Ctx} {objs0 : List AObj} {n : Nat} {L : LoopF} (hL : LoopOK P c0 objs0 n L) : ∀ (c : Code) (σ : St) (K : Xt -> St -> Option R) (r : R) (Q : Exit -> Act -> World -> Prop) (a : Act) (w : World),
  evB tt Γ L c σ K = some r -> σ.n = n -> Inv c0 objs0 σ a w -> KOK c0 objs0 n r K Q -> c.wp P Q a w
 | .skip,σ,K,r,Q,a,w,h,hn,hi,hK => wp_skip (hK .normal σ a w h hn hi)
 | .region id ops draw,σ,K,r,Q,a,w,h,hn,hi,hK => hR c0 objs0 id ops draw σ _ r Q a w h hi fun σ' a' w' h' hn' hi' => hK .normal σ' a' w' h' (hn'.trans hn) hi'
 | .seq x y,σ,K,r,Q,a,w,h,hn,hi,hK => by
  refine wp_seq (qdA hR hL x σ _ r _ a w h hn hi fun e σ' a' w' h' hn' hi' => ?_)
  cases e with
  | normal => exact qdA hR hL y σ' K r Q a' w' h' hn' hi' hK
  | exit id => exact hK (.exit id) σ' a' w' h' hn' hi'
  | ret => exact hK .ret σ' a' w' h' hn' hi'
 | .cond x y z,σ,K,r,Q,a,w,h,hn,hi,hK => by
  unfold evB at h
  split at h
  rotate_left
  ·cases h
  rename_i t ht
  obtain ⟨c,hw,hr,hf⟩ := hi
  have hc := qmc hr.env ht
  refine wp_cond_split hc (fun hb => ?_) (fun hb => ?_)
  ·rcases qdK h with ⟨_,h⟩ | ⟨hb',h⟩
   ·exact qdA hR hL y σ K r Q a w h hn ⟨c,hw,hr,hf⟩ hK
   ·rw [hb] at hb'; cases hb'
  ·rcases qdK h with ⟨hb',h⟩ | ⟨_,h⟩
   ·rw [hb] at hb'; cases hb'
   ·exact qdA hR hL z σ K r Q a w h hn ⟨c,hw,hr,hf⟩ hK
 | .block id x,σ,K,r,Q,a,w,h,hn,hi,hK => by
  refine wp_block (qdA hR hL x σ _ r _ a w h hn hi fun e σ' a' w' h' hn' hi' => ?_)
  cases e with
  | normal => exact hK .normal σ' a' w' h' hn' hi'
  | exit id' =>
   dsimp only at h'
   show (if id' = id then Q .normal a' w' else Q (.exit id') a' w')
   split at h'
   ·rename_i hid
    rw [if_pos (vaa hid)]
    exact hK .normal σ' a' w' h' hn' hi'
   ·rename_i hid
    rw [if_neg (fun e => by subst e; simp at hid)]
    exact hK (.exit id') σ' a' w' h' hn' hi'
  | ret => exact hK .ret σ' a' w' h' hn' hi'
 | .loop x,σ,K,r,Q,a,w,h,hn,hi,hK => hL x σ K r Q a w h hn hi hK
 | .exit id,σ,K,r,Q,a,w,h,hn,hi,hK => wp_exit (hK (.exit id) σ a w h hn hi)
 | .ret,σ,K,r,Q,a,w,h,hn,hi,hK => wp_ret (hK .ret σ a w h hn hi)
 | .rangeFunc _ _ _ _,_,_,_,_,_,_,h,_,_,_ => by cases h
 | .scope _,_,_,_,_,_,_,h,_,_,_ => by cases h
 | .label _,_,_,_,_,_,_,h,_,_,_ => by cases h
 | .goto _,_,_,_,_,_,_,h,_,_,_ => by cases h
 | .refuse _,_,_,_,_,_,_,h,_,_,_ => by cases h
theorem qhH (hR : RegionOK P tt Γ) {c0 : Ctx} {objs0 : List AObj} {n base : Nat} (hb : c0.nx = base) (live : Live) : ∀ (m : Nat) (c : Code) (σ : St) (K : Xt -> St -> Option R) (r : R) (Q : Exit -> Act -> World -> Prop) (a : Act) (w : World),
  head live base (loopF tt Γ live base m) c σ K = some r -> σ.n = n -> Inv c0 objs0 σ a w -> KOK c0 objs0 n r K Q -> Code.rounds P c Q m a w
 | 0,c,σ,K,r,Q,a,w,h,hn,hi,hK => by
  unfold head at h
  split at h
  ·cases h
  ·cases h
 | m + 1,c,σ,K,r,Q,a,w,h,hn,hi,hK => by
  have ih := qhH hR (n := n) (objs0 := objs0) hb live m
  have hL : LoopOK P c0 objs0 n (head live base (loopF tt Γ live base m)) := fun c σ K r Q a w h hn hi hK => wp_loop_rounds m (ih c σ K r Q a w h hn hi hK)
  unfold head at h
  split at h
  rotate_left
  ·cases h
  rename_i hok
  rw [rounds_succ]
  refine qdA hR hL c _ _ r _ a w h ((qnv _ _).trans hn) (qlo hb hok (qlO _ hi)) fun e σ' a' w' h' hn' hi' => ?_
  have hlv : ∀ e,leave live base c K e σ' = some r -> Q (xt e) a' w' := fun e h' => by
   unfold leave at h'
   split at h'
   ·rename_i hok'
    exact hK e _ a' w' h' ((qnv _ _).trans hn') (qlo hb hok' (qlO _ hi'))
   ·cases h'
  cases e with
  | normal => exact ih c σ' K r Q a' w' h' hn' hi' hK
  | exit id => exact hlv (.exit id) h'
  | ret => exact hlv .ret h'
theorem qfP : ∀ (vs : List V) (n t : Nat),look .undef (argSlots n vs) t = if n <= t then vs.getD (t - n) .undef else .undef
 | [],n,t => by simp [argSlots,look]
 | v :: r,n,t => by
  show look .undef ((n,v) :: argSlots (n + 1) r) t = _
  rw [qau,qfP r (n + 1) t]
  by_cases h : n = t
  ·subst h; simp
  ·rw [if_neg h]
   by_cases hn : n <= t
   ·rw [if_pos (by omega),if_pos hn,show t - n = (t - (n + 1)) + 1 by omega]; simp
   ·rw [if_neg (by omega),if_neg hn]
theorem qlj {c : Ctx} : ∀ {vs : List V} {us : List Value},RelL c vs us -> vs.length = us.length /\ ∀ j,Rel c (vs.getD j .undef) (us.getD j Go.undef)
 | [],us,h => by cases h; exact ⟨rfl,fun j => by simp [Rel]⟩
 | v :: r,us,h => by
  obtain ⟨u,us',rfl,h1,h2⟩ := h
  obtain ⟨h3,h4⟩ := qlj h2
  refine ⟨by simp [h3],fun j => ?_⟩
  cases j with
  | zero => simpa using h1
  | succ j => simpa using h4 j
theorem qoj (hT : TabOK P tt) (hR : RegionOK P tt Γ) {live : Live} {f : FuncId} {fn : Func} (hf : P.funcs[f]? = some fn) {m : Nat} {args : List V} {objs : List AObj} {res : V} {objs' : List AObj} (h : evF tt Γ live fn m args objs = some (res,objs')) : FnOK P f args objs res objs' := by
 intro c vs hnx hs hrel
 unfold evF at h
 split at h
 ·cases h
 rename_i hle
 have hle := vay hle
 split at h
 ·cases h
 rename_i code hb
 obtain ⟨hlen,hget⟩ := qlj hrel
 refine calls_of_wp hf hb ?_
 have hL : LoopOK P c objs fn.ntmps (head live objs.length (loopF tt Γ live objs.length m)) := fun c' σ K r Q a w h hn hi hK => wp_loop_rounds m (qhH hR hnx live m c' σ K r Q a w h hn hi hK)
 refine qdA hR hL code _ _ _ _ _ c.w h rfl ⟨c,rfl,⟨hs,hnx,fun t => ?_,?_,rfl⟩,?_⟩ fun e σ a w h' _ hi => qkc hT hs hnx h' (qlO _ hi)
 ·show Rel c (look .undef (argSlots 0 args) t) ((vs.toArray ++ vbJ (fn.ntmps - vs.toArray.size) Go.undef).getD t Go.undef)
  rw [qfP,if_pos (vaH _),vbw]
  have := hget t
  by_cases ht : t < vs.length
  ·have e : (vs.toArray ++ vbJ (fn.ntmps - vs.toArray.size) Go.undef).getD t Go.undef = vs.getD t Go.undef := by
    simp [vaG,Array.getElem?_append,vai,ht]
   rw [e]; exact this
  ·have e : args.getD t .undef = .undef := by
    rw [vai,vaU (by omega)]; rfl
   rw [e]; exact trivial
 ·simp; omega
 ·exact ⟨rfl,rfl,rfl,fun _=>vac _,vac _,vac _,fun _ _ => rfl,fun _ _ => rfl,fun _ _ _ _ => Iff.rfl,fun _ _ _ => rfl,fun _ _ _ => Iff.rfl,fun _ _ _ => Iff.rfl,fun o b hm hb => .inr (qgf.2 ⟨o,hm,hb⟩)⟩
end Go.Vm

namespace Go.Vm
open Go
variable {P : Program} {tt : Tab}
theorem qdv {env : Env} {dst : Option Tmp} {v : V} (t : Nat) : look .undef (putE env dst v) t = if dst = some t then v else look .undef env t := by
 cases dst with
 | none => simp [putE]
 | some d =>
  show look .undef ((d,v) :: env) t = _
  rw [qau]
  by_cases h : d = t <;> simp [h]
theorem qeh {p q : Nat -> Bool} {t : Nat} : ∀ (rs : List Rec) (j : Nat) (env env' : Env),(∀ k r,rs[k]? = some r -> r.dst = some t -> p (j + k) = q (j + k)) -> look .undef env t = look .undef env' t -> look .undef (envOn p j rs env) t = look .undef (envOn q j rs env') t
 | [],_,_,_,_,h => h
 | r :: rs,j,env,env',hk,h => by
  refine qeh rs (j + 1) _ _ (fun k r' hr' hd => by have := hk (k + 1) r' (by simpa using hr') hd; rwa [show j + (k + 1) = j + 1 + k by omega] at this) ?_
  by_cases hd : r.dst = some t
  ·have := hk 0 r rfl hd
   rw [vaP] at this
   rw [this]
   cases q j with
   | true => simp [qdv,hd]
   | false => exact h
  ·cases p j <;> cases q j <;> simp [qdv,hd,h]
theorem qix {t : Nat} {p : Nat -> Bool} : ∀ (rs : List Rec) (j : Nat) (env : Env),(∀ k r,rs[k]? = some r -> p (j + k) = true -> r.dst ≠ some t) -> look .undef (envOn p j rs env) t = look .undef env t
 | [],_,_,_ => rfl
 | r :: rs,j,env,h => by
  refine (qix rs (j + 1) _ fun k r' hr' hp => h (k + 1) r' (by simpa using hr') (by rw [show j + (k + 1) = j + 1 + k by omega]; exact hp)).trans ?_
  have := h 0 r rfl
  rw [vaP] at this
  cases hp : p j with
  | true => dsimp only; rw [qdv,if_neg (this hp)]
  | false => rfl
theorem qiy {p : Nat -> Bool} {t : Nat} : ∀ (rs : List Rec) (j : Nat) (env : Env) (i : Nat) (r : Rec),rs[i]? = some r -> r.dst = some t -> p (j + i) = true -> (∀ k r',rs[k]? = some r' -> i < k -> p (j + k) = true -> r'.dst ≠ some t) -> look .undef (envOn p j rs env) t = r.v
 | [],_,_,_,_,h,_,_,_ => by simp at h
 | s :: rs,j,env,0,r,h,hd,hp,hl => by
  have : s = r := by simpa using h
  subst this
  rw [vaP] at hp
  show look .undef (envOn p (j + 1) rs (match p j with | true => putE env s.dst s.v | false => env)) t = _
  rw [hp]
  dsimp only
  rw [qix rs (j + 1) _ fun k r' hr' hpk => hl (k + 1) r' (by simpa using hr') (by omega) (by rw [show j + (k + 1) = j + 1 + k by omega]; exact hpk),qdv,if_pos hd]
 | s :: rs,j,env,i + 1,r,h,hd,hp,hl => by
  exact qiy rs (j + 1) _ i r (by simpa using h) hd (by rw [show j + 1 + i = j + (i + 1) by omega]; exact hp) fun k r' hr' hk hpk => hl (k + 1) r' (by simpa using hr') (by omega) (by rw [show j + (k + 1) = j + 1 + k by omega]; exact hpk)
theorem qfe {t : Nat} {p : Nat -> Bool} : ∀ (rs : List Rec) (j : Nat) (env : Env),look .undef (envOn p j rs env) t = look .undef env t \/ ∃ k r,rs[k]? = some r /\ p (j + k) = true /\ look .undef (envOn p j rs env) t = r.v
 | [],_,_ => .inl rfl
 | r :: rs,j,env => by
  rcases qfe (t := t) (p := p) rs (j + 1) (match p j with | true => putE env r.dst r.v | false => env) with h | ⟨k,r',h1,h2,h3⟩
  ·cases hp : p j with
   | true =>
    rw [hp] at h
    dsimp only at h
    rw [qdv] at h
    by_cases hd : r.dst = some t
    ·rw [if_pos hd] at h
     refine .inr ⟨0,r,rfl,by rw [vaP]; exact hp,?_⟩
     show look .undef (envOn p (j + 1) rs (match p j with | true => putE env r.dst r.v | false => env)) t = _
     rw [hp]; exact h
    ·rw [if_neg hd] at h
     refine .inl ?_
     show look .undef (envOn p (j + 1) rs (match p j with | true => putE env r.dst r.v | false => env)) t = _
     rw [hp]; exact h
   | false =>
    rw [hp] at h
    refine .inl ?_
    show look .undef (envOn p (j + 1) rs (match p j with | true => putE env r.dst r.v | false => env)) t = _
    rw [hp]; exact h
  ·exact .inr ⟨k + 1,r',by simpa using h1,by rw [show j + (k + 1) = j + 1 + k by omega]; exact h2,h3⟩
theorem qgx (p : Nat -> Bool) : ∀ (rs rs' : List Rec) (j : Nat) (env : Env),envOn p j (rs ++ rs') env = envOn p (j + rs.length) rs' (envOn p j rs env)
 | [],rs',j,env => by simp [envOn]
 | r :: rs,rs',j,env => by
  show envOn p (j + 1) (rs ++ rs') _ = _
  rw [qgx p rs rs' (j + 1),vaM,show j + 1 + rs.length = j + (rs.length + 1) by omega]; rfl
def keys (ch : Objs) : List Nat := ch.map (·.1)
theorem qcL (ch objs : Objs) (t : Nat) : look .dead (ch ++ objs) t = if t ∈ keys ch then look .dead ch t else look .dead objs t := qaz ..
theorem qdG {p q : Nat -> Bool} {t : Nat} : ∀ (rs : List Rec) (j : Nat) (env env' : Objs),(∀ k r,rs[k]? = some r -> t ∈ keys r.ch -> p (j + k) = q (j + k)) -> look .dead env t = look .dead env' t -> look .dead (objsOn p j rs env) t = look .dead (objsOn q j rs env') t
 | [],_,_,_,_,h => h
 | r :: rs,j,env,env',hk,h => by
  refine qdG rs (j + 1) _ _ (fun k r' hr' hd => by have := hk (k + 1) r' (by simpa using hr') hd; rwa [show j + (k + 1) = j + 1 + k by omega] at this) ?_
  by_cases hd : t ∈ keys r.ch
  ·have := hk 0 r rfl hd
   rw [vaP] at this
   rw [this]
   cases q j with
   | true => dsimp only; rw [qcL,qcL,if_pos hd,if_pos hd]
   | false => exact h
  ·have e : ∀ env : Objs,look .dead (r.ch ++ env) t = look .dead env t := fun env => by rw [qcL,if_neg hd]
   cases p j <;> cases q j <;> simp [e,h]
theorem qhw {t : Nat} {p : Nat -> Bool} : ∀ (rs : List Rec) (j : Nat) (env : Objs),(∀ k r,rs[k]? = some r -> p (j + k) = true -> t ∉ keys r.ch) -> look .dead (objsOn p j rs env) t = look .dead env t
 | [],_,_,_ => rfl
 | r :: rs,j,env,h => by
  refine (qhw rs (j + 1) _ fun k r' hr' hp => h (k + 1) r' (by simpa using hr') (by rw [show j + (k + 1) = j + 1 + k by omega]; exact hp)).trans ?_
  have := h 0 r rfl
  rw [vaP] at this
  cases hp : p j with
  | true => dsimp only; rw [qcL,if_neg (this hp)]
  | false => rfl
theorem qhx {p : Nat -> Bool} {t : Nat} : ∀ (rs : List Rec) (j : Nat) (env : Objs) (i : Nat) (r : Rec),rs[i]? = some r -> t ∈ keys r.ch -> p (j + i) = true -> (∀ k r',rs[k]? = some r' -> i < k -> p (j + k) = true -> t ∉ keys r'.ch) -> look .dead (objsOn p j rs env) t = look .dead r.ch t
 | [],_,_,_,_,h,_,_,_ => by simp at h
 | s :: rs,j,env,0,r,h,hd,hp,hl => by
  have : s = r := by simpa using h
  subst this
  rw [vaP] at hp
  show look .dead (objsOn p (j + 1) rs (match p j with | true => s.ch ++ env | false => env)) t = _
  rw [hp]
  dsimp only
  rw [qhw rs (j + 1) _ fun k r' hr' hpk => hl (k + 1) r' (by simpa using hr') (by omega) (by rw [show j + (k + 1) = j + 1 + k by omega]; exact hpk),qcL,if_pos hd]
 | s :: rs,j,env,i + 1,r,h,hd,hp,hl => by
  exact qhx rs (j + 1) _ i r (by simpa using h) hd (by rw [show j + 1 + i = j + (i + 1) by omega]; exact hp) fun k r' hr' hk hpk => hl (k + 1) r' (by simpa using hr') (by omega) (by rw [show j + (k + 1) = j + 1 + k by omega]; exact hpk)
theorem qev {t : Nat} {p : Nat -> Bool} : ∀ (rs : List Rec) (j : Nat) (env : Objs),look .dead (objsOn p j rs env) t = look .dead env t \/ ∃ k r,rs[k]? = some r /\ p (j + k) = true /\ t ∈ keys r.ch /\ look .dead (objsOn p j rs env) t = look .dead r.ch t
 | [],_,_ => .inl rfl
 | r :: rs,j,env => by
  rcases qev (t := t) (p := p) rs (j + 1) (match p j with | true => r.ch ++ env | false => env) with h | ⟨k,r',h1,h2,h3⟩
  ·cases hp : p j with
   | true =>
    rw [hp] at h
    dsimp only at h
    rw [qcL] at h
    by_cases hd : t ∈ keys r.ch
    ·rw [if_pos hd] at h
     refine .inr ⟨0,r,rfl,by rw [vaP]; exact hp,hd,?_⟩
     show look .dead (objsOn p (j + 1) rs (match p j with | true => r.ch ++ env | false => env)) t = _
     rw [hp]; exact h
    ·rw [if_neg hd] at h
     refine .inl ?_
     show look .dead (objsOn p (j + 1) rs (match p j with | true => r.ch ++ env | false => env)) t = _
     rw [hp]; exact h
   | false =>
    rw [hp] at h
    refine .inl ?_
    show look .dead (objsOn p (j + 1) rs (match p j with | true => r.ch ++ env | false => env)) t = _
    rw [hp]; exact h
  ·exact .inr ⟨k + 1,r',by simpa using h1,by rw [show j + (k + 1) = j + 1 + k by omega]; exact h2,h3⟩
theorem qfE (p : Nat -> Bool) : ∀ (rs rs' : List Rec) (j : Nat) (env : Objs),objsOn p j (rs ++ rs') env = objsOn p (j + rs.length) rs' (objsOn p j rs env)
 | [],rs',j,env => by simp [objsOn]
 | r :: rs,rs',j,env => by
  show objsOn p (j + 1) (rs ++ rs') _ = _
  rw [qfE p rs rs' (j + 1),vaM,show j + 1 + rs.length = j + (rs.length + 1) by omega]; rfl
theorem qit {ds : List Nat} {i t : Nat} : ∀ (ops : List Oper) (j : Nat) (env : Env),look .undef (hideE ds i j ops env) t = .undef ∨ (look .undef (hideE ds i j ops env) t = look .undef env t ∧ ∀ k o,ops[k]? = some o → side ds i (j + k) = true → o.dst ≠ some t)
  | [],_,_ => .inr ⟨rfl,fun k o h => by simp at h⟩
  | o :: r,j,env => by
    rcases qit (ds := ds) (i := i) (t := t) r (j + 1) (match side ds i j with | true => putE env o.dst .undef | false => env) with h | ⟨h,hk⟩
    · exact .inl h
    · have key : ∀ (b : Bool),side ds i j = b → look .undef (hideE ds i j (o :: r) env) t = look .undef (match b with | true => putE env o.dst .undef | false => env) t := fun b hb => by
        rw [hb] at h
        show look .undef (hideE ds i (j + 1) r (match side ds i j with | true => putE env o.dst .undef | false => env)) t = _
        rw [hb]; exact h
      have hrest : (side ds i j = true → o.dst ≠ some t) → ∀ k o',(o :: r)[k]? = some o' → side ds i (j + k) = true → o'.dst ≠ some t := fun h0 k o' ho hs => by
        cases k with
        | zero => have : o = o' := by simpa using ho
                  subst this; exact h0 hs
        | succ k => exact hk k o' (by simpa using ho) (by rw [show j + 1 + k = j + (k + 1) by omega]; exact hs)
      cases hsd : side ds i j with
      | true =>
        have := key true hsd
        dsimp only at this
        rw [qdv] at this
        by_cases hd : o.dst = some t
        · rw [if_pos hd] at this; exact .inl this
        · rw [if_neg hd] at this; exact .inr ⟨this,hrest fun _=>hd⟩
      | false => exact .inr ⟨key false hsd,hrest fun h => by rw [hsd] at h; cases h⟩
theorem qng {md : List Nat} {objs : Objs} (t : Nat) : look .dead (md.map (fun o => (o,AObj.dead)) ++ objs) t = if t ∈ md then .dead else look .dead objs t := by
  rw [qaz]
  have e : (md.map fun o => (o,AObj.dead)).map (·.1) = md := by rw [vbe]; simp [Function.comp_def]
  rw [e]
  by_cases h : t ∈ md
  · rw [if_pos h,if_pos h]
    induction md with
    | nil => rfl
    | cons m r ih =>
      show look .dead ((m,AObj.dead) :: r.map fun o => (o,AObj.dead)) t = _
      rw [qau]
      by_cases hm : m = t
      · rw [if_pos hm]
      · rw [if_neg hm]
        refine ih ?_ ?_
        · rw [vbe]; simp [Function.comp_def]
        · rcases vap.1 h with h | h
          · exact absurd h.symm hm
          · exact h
  · rw [if_neg h,if_neg h]
theorem qf0 {ds : List Nat} {i t : Nat} : ∀ (mds : List (List Nat)) (j : Nat) (objs : Objs),look .dead (hideO ds i j mds objs) t = .dead ∨ (look .dead (hideO ds i j mds objs) t = look .dead objs t ∧ ∀ k md,mds[k]? = some md → side ds i (j + k) = true → t ∉ md)
  | [],_,_ => .inr ⟨rfl,fun k o h => by simp at h⟩
  | md :: r,j,objs => by
    rcases qf0 (ds := ds) (i := i) (t := t) r (j + 1) (match side ds i j with | true => md.map (fun o => (o,AObj.dead)) ++ objs | false => objs) with h | ⟨h,hk⟩
    · exact .inl h
    · have key : ∀ (b : Bool),side ds i j = b → look .dead (hideO ds i j (md :: r) objs) t = look .dead (match b with | true => md.map (fun o => (o,AObj.dead)) ++ objs | false => objs) t := fun b hb => by
        rw [hb] at h
        show look .dead (hideO ds i (j + 1) r (match side ds i j with | true => md.map (fun o => (o,AObj.dead)) ++ objs | false => objs)) t = _
        rw [hb]; exact h
      have hrest : (side ds i j = true → t ∉ md) → ∀ k md',(md :: r)[k]? = some md' → side ds i (j + k) = true → t ∉ md' := fun h0 k md' ho hs => by
        cases k with
        | zero => have : md = md' := by simpa using ho
                  subst this; exact h0 hs
        | succ k => exact hk k md' (by simpa using ho) (by rw [show j + 1 + k = j + (k + 1) by omega]; exact hs)
      cases hsd : side ds i j with
      | true =>
        have := key true hsd
        dsimp only at this
        rw [qng] at this
        by_cases hd : t ∈ md
        · rw [if_pos hd] at this; exact .inl this
        · rw [if_neg hd] at this; exact .inr ⟨this,hrest fun _=>hd⟩
      | false => exact .inr ⟨key false hsd,hrest fun h => by rw [hsd] at h; cases h⟩
end Go.Vm
