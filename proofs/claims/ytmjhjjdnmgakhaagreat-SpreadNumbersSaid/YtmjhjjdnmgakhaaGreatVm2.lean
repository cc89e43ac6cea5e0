/- Own texts put together: Vm25, Vm26, Vm27 .. -/
import Derived.Test.YtmjhjjdnmgakhaaGreatVm1
import Derived.Laws.BitsLemmas
import Derived.OpenShut
import Derived.SizedLaws
import Derived.Carry
import Derived.DataElems
import Derived.ProofKit
open Nat renaming eq_of_beq_eq_true→vaa, zero_add→vac, beq→vae, le_of_ble_eq_true→vaf, ble→vam, lt_of_lt_of_le→vap, le_refl→vas, blt→vax, add_zero→vay, lt_or_ge→vaD, testBit_lt_two_pow→vaK, pow_le_pow_right→vaM, shiftLeft_eq→vaY
open Bool renaming and_eq_true→vab, false_ne_true→vah, or_eq_true_iff→vaC, not_eq_true'→vaT, or_eq_true→vaZ
open List renaming getElem?_eq_some_iff→vad, all_eq_true→vaj, range→vak, mem_append_right→val, mem_cons→van, nil_append→vao, getElem?_map→vaq, any_eq_true→vat, take_append_drop→vau, mem_map→vav, mem_append→vaw, mem_cons_of_mem→vaz, mem_append_left→vaA, map_congr_left→vaB, getElem?_append_left→vaF, drop_drop→vaG, getElem?_eq_getElem→vaI, map_cons→vaJ, mem_map_of_mem→vaN, mem_singleton→vaO, mem_cons_self→vaP, getElem?_take→vaQ, getElem?_drop→vaR, any_eq_false→vaS, length_take→vaU, length_cons→vaV, countP_cons→vaW, cons_append→vaX
open Array renaming getElem?_eq_some_iff→vag, getD_eq_getD_getElem?→vai, replicate→vaE, getElem?_replicate→vaH, length_toList→vaL
set_option linter.unusedVariables false
set_option linter.unusedSimpArgs false
namespace Go.Vm
open Go
variable {P : Program} {tt : Tab} {Γ : FEnv}
theorem qkt (i k : Nat) : (1 <<< i).testBit k = decide (i = k) := by
 rw [vaY,Nat.one_mul,Nat.testBit_two_pow]
theorem qf8 (acc : List Nat) (k : Nat) : ∀ (es : List Edge) (m : Nat),(depOf acc es m).testBit k = true ↔ m.testBit k = true \/ ∃ e ∈ es,Region.binds .any e = true /\ (e.on = k \/ (nth 0 acc e.on).testBit k = true)
 | [],m => by simp [depOf]
 | e :: r,m => by
  unfold depOf
  cases hb : Region.binds .any e with
  | true =>
   dsimp only
   rw [qf8 acc k r]
   simp only [Nat.testBit_or,qkt,vaZ,decide_eq_true_eq,van,exists_eq_or_imp,hb,true_and]
   constructor
   ·rintro (((h | h) | h) | h)
    ·exact .inl h
    ·exact .inr (.inl (.inl h))
    ·exact .inr (.inl (.inr h))
    ·exact .inr (.inr h)
   ·rintro (h | (h | h) | h)
    ·exact .inl (.inl (.inl h))
    ·exact .inl (.inl (.inr h))
    ·exact .inl (.inr h)
    ·exact .inr h
  | false =>
   dsimp only
   rw [qf8 acc k r]
   simp [hb]
structure Deps (ops : Array Oper) (ds : List Nat) : Prop where
 spec : ∀ i o,ops[i]? = some o -> ∀ k,dep ds i k = true ↔ ∃ e ∈ o.after.toList,Region.binds .any e = true /\ (e.on = k \/ dep ds e.on k = true)
 below : ∀ i j,i < ops.size -> dep ds i j = true -> j < i
theorem qhQ (ds : List Nat) : ∀ (l : List Oper) (i : Nat),depsOK ds i l = true -> ∀ k o,l[k]? = some o -> nth 0 ds (i + k) = depOf ds o.after.toList 0 /\ nth 0 ds (i + k) < 1 <<< (i + k)
 | [],_,_,k,o,h => by simp at h
 | o' :: r,i,h,k,o,hk => by
  unfold depsOK at h
  split at h
  rotate_left
  ·cases h
  rename_i hc
  simp only [vab] at hc
  cases k with
  | zero =>
   have : o' = o := by simpa using hk
   subst this
   exact ⟨vaa hc.1,by simpa using hc.2⟩
  | succ k =>
   have := qhQ ds r (i + 1) h k o (by simpa using hk)
   rwa [show i + 1 + k = i + (k + 1) by omega] at this
theorem qpk {ops : Array Oper} {ds : List Nat} (h : depsOK ds 0 ops.toList = true) : Deps ops ds := by
 have key := qhQ ds ops.toList 0 h
 refine ⟨fun i o ho k => ?_,fun i j hi hd => ?_⟩
 ·have := (key i o (by simpa using ho)).1
  rw [vac] at this
  unfold dep
  rw [this,qf8]
  simp
 ·obtain ⟨o,ho⟩ : ∃ o,ops[i]? = some o := ⟨ops[i],by simp [hi]⟩
  have := (key i o (by simpa using ho)).2
  rw [vac,vaY,Nat.one_mul] at this
  refine Classical.byContradiction fun hn => ?_
  have h2 : (nth 0 ds i).testBit j = false := vaK (vap this (vaM (by omega) (by omega)))
  unfold dep at hd
  rw [h2] at hd; cases hd
theorem Deps.trans {ops : Array Oper} {ds : List Nat} (h : Deps ops ds) : ∀ {i : Nat},i < ops.size -> ∀ {j k : Nat},dep ds i j = true -> dep ds j k = true -> dep ds i k = true := by
 intro i
 induction i using Nat.strongRecOn with
 | _ i ih =>
  intro hi j k h1 h2
  obtain ⟨o,ho⟩ : ∃ o,ops[i]? = some o := ⟨ops[i],by simp [hi]⟩
  obtain ⟨e,he,hb,h3⟩ := (h.spec i o ho j).1 h1
  have hdi : dep ds i e.on = true := (h.spec i o ho e.on).2 ⟨e,he,hb,.inl rfl⟩
  have hlt := h.below i e.on hi hdi
  refine (h.spec i o ho k).2 ⟨e,he,hb,.inr ?_⟩
  rcases h3 with h3 | h3
  ·rw [h3]; exact h2
  ·exact ih e.on hlt (by omega) h3 h2
theorem qfm {ds : List Nat} {i j : Nat} : side ds i j = true ↔ i ≠ j /\ ¬ dep ds i j = true /\ ¬ dep ds j i = true := by
 unfold side
 by_cases h : i = j
 ·subst h; simp
 ·rw [qd0 h]
  simp [h]
theorem qjE {ds : List Nat} {i j : Nat} (h : side ds i j = true) : side ds j i = true := by
 rw [qfm] at h ⊢
 exact ⟨Ne.symm h.1,h.2.2,h.2.1⟩
theorem qgB {ds : List Nat} {ops : List Oper} : ∀ {i n : Nat},apartOK ds ops i n = true -> ∀ a b,a < i -> b < n -> side ds a b = true -> dstNe (nth none (ops.map (·.dst)) a) (nth none (ops.map (·.dst)) b) = true
 | 0,_,_,a,b,ha,_,_ => by omega
 | i + 1,n,h,a,b,ha,hb,hs => by
  unfold apartOK at h
  simp only [vab,vaj,List.mem_range] at h
  rcases vaD a i with h' | h'
  ·exact qgB h.2 a b h' hb hs
  ·have : a = i := by omega
   subst this
   have := h.1 b hb
   rw [hs] at this
   simpa using this
theorem qm6 {ops : Array Oper} {i : Nat} {o : Oper} (h : ops[i]? = some o) : nth none (ops.toList.map (·.dst)) i = o.dst := by
 have hi : i < ops.toList.length := by have := (vag.1 h).1; simpa using this
 have h1 := qd8 none (ops.toList.map (·.dst)) i (by simpa using hi)
 rw [vaq] at h1
 have h2 : ops.toList[i]? = some o := by simpa using h
 rw [h2] at h1
 exact (Option.some.inj h1).symm
theorem qnr {ops : Array Oper} {ds : List Nat} (h : apartOK ds ops.toList ops.toList.length ops.toList.length = true) {i j : Nat} {o o' : Oper} (hi : ops[i]? = some o) (hj : ops[j]? = some o') (hs : side ds i j = true) {t : Tmp} (h1 : o.dst = some t) (h2 : o'.dst = some t) : False := by
 have hi' := (vag.1 hi).1
 have hj' := (vag.1 hj).1
 have := qgB h i j (by simpa using hi') (by simpa using hj') hs
 rw [qm6 hi,qm6 hj,h1,h2] at this
 simp [dstNe] at this
def Seen (ds : List Nat) (nx0 i lo hi : Nat) (recs : List Rec) (o : Nat) : Prop := o < nx0 \/ (lo <= o /\ o < hi) \/ ∃ j s,recs[j]? = some s /\ dep ds i j = true /\ s.lo <= o /\ o < s.hi
theorem qg9 {ds : List Nat} {i o : Nat} : ∀ {recs : List Rec} {j : Nat},seenIn ds i j recs o = true -> ∃ k s,recs[k]? = some s /\ dep ds i (j + k) = true /\ s.lo <= o /\ o < s.hi
 | [],_,h => by cases h
 | r :: rs,j,h => by
  unfold seenIn at h
  rcases vaC.1 h with h | h
  ·simp only [vab] at h
   exact ⟨0,r,rfl,h.1.1,vaf h.1.2,by simpa using h.2⟩
  ·obtain ⟨k,s,h1,h2,h3⟩ := qg9 h
   exact ⟨k + 1,s,by simpa using h1,by rw [show j + (k + 1) = j + 1 + k by omega]; exact h2,h3⟩
theorem qfT {ds : List Nat} {nx0 i lo hi : Nat} {recs : List Rec} {o : Nat} (h : seenB ds nx0 i lo hi recs o = true) : Seen ds nx0 i lo hi recs o := by
 unfold seenB at h
 rcases vaC.1 h with h | h
 ·rcases vaC.1 h with h | h
  ·exact .inl (by simpa using h)
  ·simp only [vab] at h
   exact .inr (.inl ⟨vaf h.1,by simpa using h.2⟩)
 ·obtain ⟨k,s,h1,h2,h3⟩ := qg9 h
  rw [vac] at h2
  exact .inr (.inr ⟨k,s,h1,h2,h3⟩)
theorem qgy {ds : List Nat} {nx0 i n : Nat} {ch : Objs} : ∀ {recs : List Rec} {j : Nat},clashOK ds nx0 i n j recs ch = true -> ∀ k s,recs[k]? = some s -> ∀ o,o ∈ keys ch -> o ∈ keys s.ch -> ¬ side ds i (j + k) = true /\ (nx0 <= o -> ∀ m,m < n -> dep ds m (j + k) = true -> ¬ side ds i m = true)
 | [],_,_,k,s,h,_,_,_ => by simp at h
 | r :: rs,j,h,k,s,hk,o,h1,h2 => by
  unfold clashOK at h
  simp only [vab] at h
  obtain ⟨⟨ha,hc⟩,hb⟩ := h
  cases k with
  | succ k =>
   have := qgy hb k s (by simpa using hk) o h1 h2
   rwa [show j + 1 + k = j + (k + 1) by omega] at this
  | zero =>
   have : r = s := by simpa using hk
   subst this
   rw [vay]
   have hany : (ch.any fun c => r.ch.any fun d => vae d.1 c.1) = true := by
    obtain ⟨c,hc,rfl⟩ := vav.1 h1
    obtain ⟨d,hd,hdc⟩ := vav.1 h2
    rw [vat]
    refine ⟨c,hc,?_⟩
    rw [vat]
    exact ⟨d,hd,by rw [hdc]; simp⟩
   rw [hany] at ha
   simp only [vaT] at ha
   refine ⟨by rw [ha]; exact vah,fun hle m hm hd => ?_⟩
   have hany2 : (ch.any fun c => vam nx0 c.1 && r.ch.any fun d => vae d.1 c.1) = true := by
    obtain ⟨c,hc,rfl⟩ := vav.1 h1
    obtain ⟨d,hd,hdc⟩ := vav.1 h2
    rw [vat]
    refine ⟨c,hc,?_⟩
    rw [vab,vat]
    exact ⟨Nat.ble_eq_true_of_le hle,d,hd,by rw [hdc]; simp⟩
   rw [hany2] at hc
   simp only [vaj,List.mem_range,vaZ,vaT] at hc
   rcases hc m hm with h | h
   ·rw [hd] at h; cases h
   ·rw [h]; exact vah
structure ChOK (ds : List Nat) (md : List Nat) (nx0 i n lo hi : Nat) (recs : List Rec) (v : V) (ch : Objs) : Prop where
 le : lo <= hi
 v : ∀ o ∈ V.ids v,Seen ds nx0 i lo hi recs o
 key : ∀ o,o ∈ keys ch -> Seen ds nx0 i lo hi recs o /\ (o < nx0 -> o ∈ md)
 obj : ∀ x ∈ ch,∀ o ∈ x.2.ids,Seen ds nx0 i lo hi recs o
 clash : ∀ k s,recs[k]? = some s -> ∀ o,o ∈ keys ch -> o ∈ keys s.ch -> ¬ side ds i k = true /\ (nx0 <= o -> ∀ m,m < n -> dep ds m k = true -> ¬ side ds i m = true)
theorem qnA {ds : List Nat} {md : List Nat} {nx0 i n lo hi : Nat} {recs : List Rec} {v : V} {ch : Objs} (h : chOK ds md nx0 i n lo hi recs v ch = true) : ChOK ds md nx0 i n lo hi recs v ch := by
 unfold chOK at h
 simp only [vab,vaj] at h
 obtain ⟨⟨⟨h1,h2⟩,h3⟩,h4⟩ := h
 refine ⟨vaf h1,fun o ho => qfT (h2 o ho),fun o ho => ?_,fun x hx o ho => qfT ((h3 x hx).1.2 o ho),fun k s hk o ho ho' => by have := qgy h4 k s hk o ho ho'; rwa [vac] at this⟩
 obtain ⟨c,hc,rfl⟩ := vav.1 ho
 refine ⟨qfT (h3 c hc).1.1,fun hlt => ?_⟩
 have := (h3 c hc).2
 have hb : vax c.1 nx0 = true := by simpa using hlt
 rw [hb] at this
 exact qaJ.1 this
def Chain : Nat -> List Rec -> Nat -> Prop
 | nx,[],n => nx = n
 | nx,r :: rs,n => r.lo = nx /\ r.lo <= r.hi /\ Chain r.hi rs n
theorem Chain.le : ∀ {rs : List Rec} {nx n : Nat},Chain nx rs n -> nx <= n
 | [],_,_,h => Nat.le_of_eq h
 | r :: rs,nx,n,h => by have := Chain.le h.2.2; have := h.1; have := h.2.1; omega
theorem Chain.get : ∀ {rs : List Rec} {nx n : Nat},Chain nx rs n -> ∀ {i : Nat} {r : Rec},rs[i]? = some r -> nx <= r.lo /\ r.lo <= r.hi /\ r.hi <= n
 | [],_,_,_,i,r,h => by simp at h
 | s :: rs,nx,n,h,i,r,hr => by
  cases i with
  | zero =>
   have : s = r := by simpa using hr
   subst this
   exact ⟨Nat.le_of_eq h.1.symm,h.2.1,h.2.2.le⟩
  | succ i =>
   have := h.2.2.get (i := i) (r := r) (by simpa using hr)
   have h1 := h.1; have h2 := h.2.1
   exact ⟨by omega,this.2⟩
theorem Chain.apart : ∀ {rs : List Rec} {nx n : Nat},Chain nx rs n -> ∀ {i j : Nat} {r s : Rec},i < j -> rs[i]? = some r -> rs[j]? = some s -> r.hi <= s.lo
 | [],_,_,_,i,j,r,s,_,h,_ => by simp at h
 | x :: rs,nx,n,h,i,j,r,s,hij,hr,hs => by
  cases j with
  | zero => omega
  | succ j =>
   cases i with
   | zero =>
    have : x = r := by simpa using hr
    subst this
    exact (h.2.2.get (i := j) (r := s) (by simpa using hs)).1
   | succ i => exact h.2.2.apart (i := i) (j := j) (by omega) (by simpa using hr) (by simpa using hs)
theorem Chain.snoc : ∀ {rs : List Rec} {nx n : Nat},Chain nx rs n -> ∀ {r : Rec},r.lo = n -> r.lo <= r.hi -> Chain nx (rs ++ [r]) r.hi
 | [],_,_,h,r,h1,h2 => ⟨h1.trans h.symm,h2,rfl⟩
 | s :: rs,nx,n,h,r,h1,h2 => ⟨h.1,h.2.1,h.2.2.snoc h1 h2⟩
structure RecOK (tt : Tab) (Γ : FEnv) (ops : Array Oper) (σ : St) (ds : List Nat) (mds : List (List Nat)) (i : Nat) (r : Rec) (pre : List Rec) : Prop where
 ch : ChOK ds (nth [] mds i) σ.nx i i r.lo r.hi pre r.v r.ch
 run : ∃ o r0,ops[i]? = some o /\ r.dst = o.dst /\ evGuard tt Γ ops.toList (hideE ds i 0 ops.toList (envOn (dep ds i) 0 pre σ.env)) (hideO ds i 0 (pre.map fun r => r.ch.map (·.1)) (hideO ds i 0 mds (objsOn (dep ds i) 0 pre σ.objs))) r.lo (mdAt mds σ.nx i r.lo) o enc = some r0 /\
  ∀ v' ch' nx',enc v' ch' nx' = some r0 -> v' = r.v /\ ch' = r.ch /\ nx' = r.hi
theorem qhN {ops : Array Oper} {σ : St} {ds : List Nat} {mds : List (List Nat)} {K : St -> Option R} {r : R} : ∀ (l : List Oper) (i nx : Nat) (recs : List Rec),ops.toList.drop i = l -> recs.length = i -> (∀ j s,recs[j]? = some s -> RecOK tt Γ ops σ ds mds j s (recs.take j)) -> Chain σ.nx recs nx ->
  evDraw tt Γ ops.toList ds mds σ l i nx recs K = some r -> ∃ recs' N,K ⟨envOn (fun _=>true) 0 recs' σ.env,objsOn (fun _=>true) 0 recs' σ.objs,N,σ.n⟩ = some r /\ recs'.length = ops.size /\ (∀ j s,recs'[j]? = some s -> RecOK tt Γ ops σ ds mds j s (recs'.take j)) /\ Chain σ.nx recs' N
 | [],i,nx,recs,hd,hl,hr,hc,h => by
  refine ⟨recs,nx,h,?_,hr,hc⟩
  have hle : ops.toList.length <= i := List.drop_eq_nil_iff.1 hd
  rw [vaL] at hle
  refine Nat.le_antisymm (Classical.byContradiction fun hn => ?_) (by omega)
  obtain ⟨s,hs⟩ : ∃ s,recs[ops.size]? = some s := ⟨recs[ops.size],by simp [show ops.size < recs.length by omega]⟩
  obtain ⟨o,_,ho,_⟩ := (hr _ s hs).run
  simp at ho
 | o :: l,i,nx,recs,hd,hl,hr,hc,h => by
  unfold evDraw at h
  obtain ⟨r0,v,ch,nx',hx,hk,huniq⟩ := qnF h
  clear h
  split at hk
  rotate_left
  ·cases hk
  rename_i hch
  have hch := qnA hch
  have ho : ops[i]? = some o := by
   have := congrArg (·[0]?) hd
   simpa [vaR] using this
  have hd' : ops.toList.drop (i + 1) = l := by
   have := congrArg (List.drop 1) hd
   simpa [vaG,Nat.add_comm] using this
  refine qhN l (i + 1) nx' (recs ++ [⟨o.dst,v,ch,nx,nx'⟩]) hd' (by simp [hl]) (fun j s hs => ?_) (hc.snoc rfl hch.le) hk
  rcases vaD j recs.length with hj | hj
  ·rw [vaF hj] at hs
   rw [List.take_append_of_le_length (by omega)]
   exact hr j s hs
  ·have hj' : j = recs.length := by
    have := (vad.1 hs).1
    simp at this; omega
   subst hj'
   have : s = ⟨o.dst,v,ch,nx,nx'⟩ := by simpa using hs.symm
   subst this
   rw [List.take_left,hl]
   exact ⟨hch,o,r0,ho,rfl,hx,huniq⟩
end Go.Vm

namespace Go.Vm
open Go
variable {P : Program} {tt : Tab} {Γ : FEnv}
mutual
theorem qoD : ∀ v : V,V.ren id v = v
 | .undef => rfl
 | .hid => rfl
 | .i _ _ => rfl
 | .b _ => rfl
 | .s _ => rfl
 | .nilsl => rfl
 | .kon _ => rfl
 | .dat _ _ _ => rfl
 | .own _ => rfl
 | .ownn _ => rfl
 | .sub _ _ _ _ => rfl
 | .ptr _ _ => rfl
 | .pel _ _ _ _ => rfl
 | .optp _ => rfl
 | .err _ => rfl
 | .nd _ _ _ => rfl
 | .tp cs => by show V.tp (V.renL id cs) = _; rw [qes cs]
 | .agg cs => by show V.agg (V.renL id cs) = _; rw [qes cs]
 | .tup cs => by show V.tup (V.renL id cs) = _; rw [qes cs]
 | .fn f cs => by show V.fn f (V.renL id cs) = _; rw [qes cs]
theorem qes : ∀ vs : List V,V.renL id vs = vs
 | [] => rfl
 | v :: r => by show V.ren id v :: V.renL id r = _; rw [qoD v,qes r]
end
theorem ql5 (x : AObj) : x.ren id = x := by
 cases x with
 | dead => rfl
 | row e xs fz => rfl
 | var vt cs => show AObj.var vt (V.renL id cs) = _; rw [qes]
 | hole e xs ix cs => show AObj.hole e xs ix (V.renL id cs) = _; rw [qes]
 | ext x => rfl
 | nest y =>
  cases y with
  | row d xs => rfl
  | hole d xs ix cs => show AObj.nest (.hole d xs ix (V.renL id cs)) = _; rw [qes]
  | rng it ka k ea e xs rest cur => rfl
mutual
theorem Rel.lt {c : Ctx} : ∀ (v : V) (u : Value),Rel c v u -> ∀ o ∈ V.ids v,o < c.nx
 | .undef,_,_,o,h => by cases h
 | .hid,_,_,o,h => by cases h
 | .i _ _,_,_,o,h => by cases h
 | .b _,_,_,o,h => by cases h
 | .s _,_,_,o,h => by cases h
 | .nilsl,_,_,o,h => by cases h
 | .kon _,_,_,o,h => by cases h
 | .dat _ _ _,_,_,o,h => by cases h
 | .ownn p,_,r,o,h => by
  have : o = p := by simpa [V.ids] using h
  rw [this]; exact r.1
 | .own p,_,r,o,h => by
  have : o = p := by simpa [V.ids] using h
  rw [this]; exact r.1
 | .sub p _ _ _,_,r,o,h => by
  have : o = p := by simpa [V.ids] using h
  rw [this]; exact r.1
 | .ptr p _,_,r,o,h => by
  have : o = p := by simpa [V.ids] using h
  rw [this]; exact r.1
 | .pel p _ _ _,_,r,o,h => by
  have : o = p := by simpa [V.ids] using h
  rw [this]; exact r.1
 | .optp p,_,r,o,h => by
  have : o = p := by simpa [V.ids] using h
  rw [this]; exact r.1
 | .err _,_,_,o,h => by cases h
 | .nd _ _ _,_,_,o,h => by cases h
 | .tp cs,_,r,o,h => by obtain ⟨_,_,us,_,_,_,hl,_⟩ := r; exact RelL.lt cs us hl o h
 | .agg cs,_,r,o,h => by obtain ⟨us,_,hl⟩ := r; exact RelL.lt cs us hl o h
 | .tup cs,_,r,o,h => by obtain ⟨us,_,hl⟩ := r; exact RelL.lt cs us hl o h
 | .fn _ cs,_,r,o,h => by obtain ⟨us,_,hl⟩ := r; exact RelL.lt cs us hl o h
theorem RelL.lt {c : Ctx} : ∀ (vs : List V) (us : List Value),RelL c vs us -> ∀ o ∈ V.idsL vs,o < c.nx
 | [],_,_,o,h => by cases h
 | v :: vs,_,r,o,h => by
  obtain ⟨u,us',_,h1,h2⟩ := r
  rcases vaw.1 h with h | h
  ·exact Rel.lt v u h1 o h
  ·exact RelL.lt vs us' h2 o h
end
theorem ObjOK.ids_lt {c : Ctx} {o : Nat} {x : AObj} (h : ObjOK c o x) : ∀ p ∈ x.ids,p < c.nx := by
 cases x with
 | dead => intro p hp; cases hp
 | row e xs fz => intro p hp; cases hp
 | ext x => intro p hp; cases hp
 | var vt cs =>
  obtain ⟨_,_,us,_,_,_,hr,_⟩ := h
  exact RelL.lt cs us hr
 | hole e xs ix cs =>
  obtain ⟨_,_,_,_,_,us,_,_,_,_,hr,_⟩ := h
  exact RelL.lt cs us hr
 | nest y =>
  cases y with
  | row d xs => intro p hp; cases hp
  | hole d xs ix cs =>
   obtain ⟨_,_,_,_,_,_,us,_,_,_,_,_,hr,_⟩ := h
   exact RelL.lt cs us hr
  | rng it ka k ea e xs rest cur =>
   intro p hp
   rw [vaO.1 hp]
   exact h.2.1
theorem Rel.idr {c c' : Ctx} {G : Nat -> Prop} (h : Ren id c c' G) {v : V} {u : Value} (hg : ∀ o ∈ V.ids v,G o) (hf : ∀ b,¬ c.SB b -> b < c.w.heap.size -> ¬ c'.SB b) (hr : Rel c v u) : Rel c' v u := by
 have := Rel.ren h v u hg (.inl hf) hr
 rwa [qoD] at this
theorem ObjOK.idr {c c' : Ctx} {G : Nat -> Prop} (h : Ren id c c' G) {objs : Objs} (hs : SOK c objs) {o : Nat} (ho : look .dead objs o ≠ .dead -> G o) (hg : ∀ p ∈ (look .dead objs o).ids,G p) (hf : ∀ b,¬ c.SB b -> b < c.w.heap.size -> ¬ c'.SB b) (hsb : ∀ b,c.SB b -> c'.SB b) (hu : (look .dead objs o).isNest = true -> ∀ b,c'.sub o b ↔ c.sub o b) : ObjOK c' o (look .dead objs o) := by
 by_cases hd : look .dead objs o = .dead
 ·rw [hd]; exact trivial
 ·have := ObjOK.ren h (ho hd) hg (.inl hf) (fun hm b hb => hsb b (hs.mutSB hm hb)) (fun hx b hb => hs.blt hx hb) hu (hs.obj o)
  rwa [ql5] at this
theorem qlr {x : AObj} (h : x.mut = true) : x ≠ .dead := fun e => by rw [e] at h; cases h
theorem SOK.congr {c : Ctx} {objs objs' : Objs} (h : ∀ o,look .dead objs' o = look .dead objs o) (hs : SOK c objs) : SOK c objs' :=
 ⟨hs.low,fun o => by rw [h]; exact hs.obj o,fun a b g h1 h2 => hs.inj a b g (by rwa [h] at h1) (by rwa [h] at h2),fun o k => hs.flat o (by rwa [h] at k),hs.sub,hs.bd,hs.one⟩
theorem FR.congr {c0 : Ctx} {objs0 : List AObj} {c : Ctx} {objs objs' : Objs} (h : ∀ o,look .dead objs' o = look .dead objs o) (hf : FR c0 objs0 c objs) : FR c0 objs0 c objs' :=
 ⟨hf.os,hf.tape,hf.output,hf.drawn,hf.size,hf.nx,hf.hdr,hf.blk,hf.under,hf.heap,hf.sb,hf.sa,fun o b hm hb => hf.fresh o b (by rwa [h] at hm) hb⟩
def cutCtx (c : Ctx) (n : Nat) (sm : Objs) : Ctx := { c with nx := n,sub := fun o b => c.sub o b /\ (look .dead sm o).isNest = true }
theorem qnw {c : Ctx} {n : Nat} {sm : Objs} : Ren id c (cutCtx c n sm) (· < n) := ⟨rfl,fun _ ho _ => ⟨ho,rfl,rfl⟩,fun _ hb _ => hb⟩
theorem qpR {c : Ctx} {objs sm : Objs} {n : Nat} (hs : SOK c objs) (hn : n <= c.nx) (hv : ∀ o,look .dead sm o = .dead \/ (look .dead sm o = look .dead objs o /\ o < n /\ ∀ p ∈ (look .dead objs o).ids,p < n)) : SOK (cutCtx c n sm) sm := by
 refine ⟨hs.low,fun o => ?_,fun a b g h1 h2 hb1 hb2 => ?_,fun o h b hb => (by rw [hb.2] at h; cases h),hs.sub,hs.bd,fun o ho => hs.one o (vap ho hn)⟩
 ·rcases hv o with h | ⟨h,h1,h2⟩
  ·rw [h]; exact trivial
  ·have := ObjOK.idr (qnw (sm := sm)) hs (fun _=>h1) h2 (fun _ hb _ => hb) (fun _ hb => hb) (fun hn b => ⟨And.left,fun k => ⟨k,by rw [h]; exact hn⟩⟩)
   rwa [<- h] at this
 ·rcases hv a with h | ⟨h,_⟩ <;> rw [h] at h1
  ·cases h1
  rcases hv b with h' | ⟨h',_⟩ <;> rw [h'] at h2
  ·cases h2
  exact hs.inj a b g h1 h2 (hb1.imp id And.left) (hb2.imp id And.left)
theorem NstOK.sub_none {c : Ctx} {o : Nat} {x : Nst} (h : NstOK c o x) (hb : c.blk o = none) : ∀ b,¬ c.sub o b := fun b k => by
 cases x with
 | row d xs =>
  obtain ⟨_,et,cells,B,h1,h2,h3,h4,_⟩ := h
  rcases h1.2 with ⟨_,hz⟩ | ⟨g,cap,cur,hv,_⟩
  ·have hx : xs = [] := List.eq_nil_of_length_eq_zero hz
   subst hx
   rw [h2.2] at h4
   exact absurd ((h4 b).1 k) (by simp)
  ·rw [hb,hv] at h3; cases h3
 | hole d xs ix cs => obtain ⟨_,_,_,_,_,_,_,_,g,_,_,_,_,_,_,_,_,_,h10,_⟩ := h; rw [hb] at h10; cases h10
 | rng it ka k ea e xs rest cur => obtain ⟨_,_,b',_,_,_,_,_,h1,_⟩ := h; rw [hb] at h1; cases h1
structure Glued (c : Ctx) (objs : Objs) (c2 : Ctx) (v : V) (u : Value) (ch : Objs) (lo hi : Nat) : Prop where
 ok : SOK c2 (ch ++ objs)
 rel : Rel c2 v u
 nx : c2.nx = c.nx
 old : ∀ (v : V) (u : Value),(∀ o ∈ V.ids v,¬ (lo <= o /\ o < hi)) -> Rel c v u -> Rel c2 v u
 fr : ∀ (c0 : Ctx) (objs0 : List AObj),c0.nx <= lo -> FR c0 objs0 c objs -> FR c0 objs0 c2 (ch ++ objs)
theorem qgW : ∀ {ch : Objs} {o : Nat},o ∈ keys ch -> (o,look .dead ch o) ∈ ch
 | [],_,h => by cases h
 | (k,x) :: r,o,h => by
  rw [qau]
  by_cases hk : k = o
  ·subst hk; simp
  ·rw [if_neg hk]
   rcases van.1 h with h | h
   ·exact absurd h.symm hk
   ·exact vaz _ (qgW h)
theorem glue {c : Ctx} {objs sm : Objs} (hs : SOK c objs) {lo hi : Nat} (hle : lo ≤ hi) (hhi : hi ≤ c.nx) (hv : ∀ o,look .dead sm o = .dead ∨ (look .dead sm o = look .dead objs o ∧ o < lo ∧ ∀ p ∈ (look .dead objs o).ids,p < lo))
    (hfree : ∀ o,look .dead objs o ≠ .dead → ¬ (lo ≤ o ∧ o < hi) ∧ ∀ p ∈ (look .dead objs o).ids,¬ (lo ≤ p ∧ p < hi)) {c' : Ctx} {v : V} {u : Value} {ch : Objs} (hdr : Strict → c.w.drawn ≤ c'.w.drawn) (hd : Done (cutCtx c lo sm) sm c' v u ch hi) (hvi : ∀ o ∈ V.ids v,o < hi) (hci : ∀ x ∈ ch,∀ o ∈ x.2.ids,o < hi) :
    ∃ c2,c2.w = c'.w ∧ Glued c objs c2 v u ch lo hi := by
  let rng : Nat → Prop := fun o => lo ≤ o ∧ o < hi
  have rd : ∀ o,Decidable (rng o) := fun o => inferInstanceAs (Decidable (lo ≤ o ∧ o < hi))
  let hdr1 : Nat → Value := fun o => if lo ≤ o ∧ o < hi then c'.hdr o else c.hdr o
  let blk1 : Nat → Option Nat := fun o => if lo ≤ o ∧ o < hi then c'.blk o else c.blk o
  let c1 : Ctx := { c with hdr := hdr1,blk := blk1 }
  let c2 : Ctx := { w := c'.w,nx := c.nx,hdr := hdr1,blk := blk1,sub := fun o b => if o ∈ keys ch ∨ (lo ≤ o ∧ o < hi) then c'.sub o b else c.sub o b,SB := c'.SB,SA := c'.SA }
  have hst := hd.step
  have hnx' := hd.nx
  have r1 : Ren id c c1 (fun o => ¬ (lo ≤ o ∧ o < hi)) := ⟨rfl,fun o ho hlt => ⟨hlt,if_neg ho,if_neg ho⟩,fun b hb _ => hb⟩
  have hblk2 : ∀ o,o < hi → c2.hdr o = c'.hdr o ∧ c2.blk o = c'.blk o := fun o ho => by
    by_cases hl : lo ≤ o
    · exact ⟨if_pos ⟨hl,ho⟩,if_pos ⟨hl,ho⟩⟩
    · have hn : ¬ (lo ≤ o ∧ o < hi) := fun h => hl h.1
      exact ⟨(if_neg hn).trans (hst.hdr o (by show o < lo; omega)).symm,(if_neg hn).trans (hst.blk o (by show o < lo; omega)).symm⟩
  have r2 : Ren id c' c2 (· < hi) := ⟨rfl,fun o ho _ => ⟨vap ho hhi,hblk2 o ho⟩,fun b hb _ => hb⟩
  have hone1 : ∀ o,o < c.nx → (hdr1 o).oneCell' = true := fun o ho => by
    show (if lo ≤ o ∧ o < hi then c'.hdr o else c.hdr o).oneCell' = true
    split
    · rename_i h; exact hd.ok.one o (by rw [hnx']; exact h.2)
    · exact hs.one o ho
  have hfreeI : ∀ o,∀ p ∈ (look .dead objs o).ids,¬ (lo ≤ p ∧ p < hi) := fun o => by
    by_cases h : look .dead objs o = .dead
    · rw [h]; intro p hp; cases hp
    · exact (hfree o h).2
  have hs1 : SOK c1 objs := by
    refine ⟨hs.low,fun o => ObjOK.idr r1 hs (fun h => (hfree o h).1) (hfreeI o) (fun _ hb _ => hb) (fun _ hb => hb) (fun _ _ => Iff.rfl),fun a b g h1 h2 hb1 hb2 => ?_,hs.flat,hs.sub,hs.bd,hone1⟩
    have e : ∀ o,look .dead objs o ≠ .dead → c1.blk o = c.blk o := fun o h => if_neg (hfree o h).1
    exact hs.inj a b g h1 h2 (hb1.imp (fun k => by rw [← e a (qlr h1)]; exact k) id) (hb2.imp (fun k => by rw [← e b (qlr h2)]; exact k) id)
  have hDof : ∀ b,Dof (cutCtx c lo sm) sm ch b → Dof c1 objs ch b := fun b ⟨o,ho,hm,hb⟩ => by
    rcases hv o with h | ⟨h,hlt,_⟩
    · rw [h] at hm; cases hm
    · rw [h] at hm
      exact ⟨o,ho,hm,hb.imp (if_neg (hfree o (qlr hm)).1).trans And.left⟩
  have hD' : ∀ b,¬ Dof c1 objs ch b → ¬ Dof (cutCtx c lo sm) sm ch b := fun b hn h => hn (hDof b h)
  have hdsub : ∀ b,Dof c1 objs ch b → c1.SB b := fun b h => by
    obtain ⟨_,_,hm,hb⟩ := h
    exact hs1.mutSB hm hb
  have hsm : ∀ o,lo ≤ o → look .dead sm o = .dead := fun o ho => (hv o).elim id fun h => absurd h.2.1 (by omega)
  have hund : ∀ o,o < c.nx → (∀ b,c1.has o b → ¬ Dof c1 objs ch b ∧ b < c1.w.heap.size) → ∀ b,c2.sub o b ↔ c1.sub o b := fun o _ hn b => by
    show (if o ∈ keys ch ∨ (lo ≤ o ∧ o < hi) then c'.sub o b else c.sub o b) ↔ c.sub o b
    by_cases hr : lo ≤ o ∧ o < hi
    · rw [if_pos (.inr hr)]
      have hd0 : look .dead objs o = .dead := Classical.byContradiction fun h => (hfree o h).1 hr
      have h0 : ¬ c.sub o b := hs.flat o (by rw [hd0]; rfl) b
      refine ⟨fun k => ?_,fun k => (h0 k).elim⟩
      by_cases ho : o ∈ keys ch
      · cases hx : look .dead (ch ++ sm) o with
        | nest y =>
          have hobj := hd.ok.obj o
          rw [hx] at hobj
          cases hb : c'.blk o with
          | none => exact (NstOK.sub_none hobj hb b k).elim
          | some g =>
            have h1 := hn g (.inl ((if_pos hr).trans hb))
            rcases hd.fresh o g ho (by rw [hx]; rfl) (.inl hb) with h2 | h2
            · exact absurd h1.2 (Nat.not_lt.2 h2)
            · exact absurd (hDof g h2) h1.1
        | _ => exact (hd.ok.flat o (by rw [hx]; rfl) b k).elim
      · exact (hd.ok.flat o (by rw [qcL,if_neg ho,hsm o hr.1]; rfl) b k).elim
    · by_cases ho : o ∈ keys ch
      · rw [if_pos (.inl ho)]
        have hlt : o < lo := by have := hd.ids o ho; omega
        have hh : ∀ g,c.has o g → ¬ Dof c1 objs ch g ∧ g < c1.w.heap.size := fun g hg => hn g (hg.imp (if_neg hr).trans id)
        rw [hst.under o hlt (fun g hg => have k := hh g (hg.imp id And.left); ⟨fun hk => k.1 (hDof g hk),k.2⟩) b]
        refine ⟨And.left,fun k => ⟨k,?_⟩⟩
        cases hx : (look .dead sm o).isNest with
        | true => rfl
        | false =>
          have hm : (look .dead objs o).mut = true := by
            cases hy : look .dead objs o with
            | nest y => rfl
            | _ => exact absurd k (hs.flat o (by rw [hy]; rfl) b)
          exact absurd ⟨o,ho,hm,.inr k⟩ (hh b (.inr k)).1
      · rw [if_neg (fun h => h.elim ho hr)]
  have hstep : Step c1 c2 (Dof c1 objs ch) := ⟨hst.os,hst.tape,hst.output,hst.size,vas _,fun _ _ => rfl,fun _ _ => rfl,hund,fun b hb hn => hst.heap b hb (hD' b hn),fun b hb hn => hst.sb b hb (hD' b hn),fun b hb hn => hst.sa b hb (hD' b hn),hdsub⟩
  have hlk : ∀ o,o ∈ keys ch → look .dead (ch ++ sm) o = look .dead ch o := fun o ho => by rw [qcL,if_pos ho]
  have hki : ∀ o,o ∈ keys ch → o < hi := fun o ho => hd.ids o ho
  have hsub2 : ∀ o,o ∈ keys ch → ∀ b,c2.sub o b ↔ c'.sub o b := fun o ho b => by
    show (if o ∈ keys ch ∨ (lo ≤ o ∧ o < hi) then c'.sub o b else c.sub o b) ↔ _
    rw [if_pos (.inl ho)]
  have hhas : ∀ o,o ∈ keys ch → ∀ b,c2.has o b → c'.has o b := fun o ho b hb => hb.imp (fun k => by rw [← (hblk2 o (hki o ho)).2]; exact k) (hsub2 o ho b).1
  have hfresh : ∀ o b,o ∈ keys ch → (look .dead ch o).mut = true → c2.has o b → c1.w.heap.size ≤ b ∨ Dof c1 objs ch b := fun o b ho hm hb =>
    (hd.fresh o b ho (by rw [hlk o ho]; exact hm) (hhas o ho b hb)).imp id (hDof b)
  have hok2 : SOK c2 (ch ++ objs) := by
    refine hs1.step hstep (fun o ho => ?_) hfresh (fun a b g ha hb h1 h2 hb1 hb2 => ?_) (fun o h b hb => ?_) hd.ok.sub hd.ok.bd hone1
    · have hx := qgW ho
      have := ObjOK.idr r2 hd.ok (o := o) (fun _=>hki o ho) (by rw [hlk o ho]; exact hci _ hx) (fun _ hb _ => hb) (fun _ hb => hb) (fun _=>hsub2 o ho)
      rwa [hlk o ho] at this
    · exact hd.ok.inj a b g (by rw [hlk a ha]; exact h1) (by rw [hlk b hb]; exact h2) (hhas a ha g hb1) (hhas b hb g hb2)
    · change (if o ∈ keys ch ∨ (lo ≤ o ∧ o < hi) then c'.sub o b else c.sub o b) at hb
      rw [qcL] at h
      split at h
      · rename_i ho
        rw [if_pos (.inl ho)] at hb
        exact hd.ok.flat o (by rw [hlk o ho]; exact h) b hb
      · rename_i ho
        by_cases hr : lo ≤ o ∧ o < hi
        · rw [if_pos (.inr hr)] at hb
          exact hd.ok.flat o (by rw [qcL,if_neg ho,hsm o hr.1]; rfl) b hb
        · rw [if_neg (fun k => k.elim ho hr)] at hb
          exact hs.flat o h b hb
  refine ⟨c2,rfl,hok2,Rel.idr r2 hvi (fun _ hb _ => hb) hd.rel,rfl,fun v u hn hr => Rel.mono hstep hs1.sub _ _ (Rel.idr r1 hn (fun _ hb _ => hb) hr),fun c0 objs0 hc0 hf => ?_⟩
  have hf1 : FR c0 objs0 c1 objs := by
    refine ⟨hf.os,hf.tape,hf.output,hf.drawn,hf.size,hf.nx,fun o ho => (if_neg (fun h => by have := h.1; omega)).trans (hf.hdr o ho),fun o ho => (if_neg (fun h => by have := h.1; omega)).trans (hf.blk o ho),hf.under,hf.heap,hf.sb,hf.sa,fun o b hm hb => ?_⟩
    exact hf.fresh o b hm (hb.imp (if_neg (hfree o (qlr hm)).1).symm.trans id)
  exact hf1.step hdr hs1 hstep fun o b ho hm hb => hfresh o b ho (by rw [qcL,if_pos (show o ∈ keys ch from ho)] at hm; exact hm) hb
end Go.Vm

namespace Go.Vm
open Go
variable {P : Program} {tt : Tab} {Γ : FEnv}
theorem qf6 {p : Nat -> Bool} : ∀ (rs : List Rec) (j : Nat) (env : Env),(∀ k,k < rs.length -> p (j + k) = false) -> envOn p j rs env = env
 | [],_,_,_ => rfl
 | r :: rs,j,env,h => by
  have := h 0 (by simp)
  rw [vay] at this
  show envOn p (j + 1) rs (match p j with | true => putE env r.dst r.v | false => env) = _
  rw [this]
  exact qf6 rs (j + 1) env fun k hk => by rw [show j + 1 + k = j + (k + 1) by omega]; exact h (k + 1) (by simpa using hk)
theorem qfc {p : Nat -> Bool} : ∀ (rs : List Rec) (j : Nat) (env : Objs),(∀ k,k < rs.length -> p (j + k) = false) -> objsOn p j rs env = env
 | [],_,_,_ => rfl
 | r :: rs,j,env,h => by
  have := h 0 (by simp)
  rw [vay] at this
  show objsOn p (j + 1) rs (match p j with | true => r.ch ++ env | false => env) = _
  rw [this]
  exact qfc rs (j + 1) env fun k hk => by rw [show j + 1 + k = j + (k + 1) by omega]; exact h (k + 1) (by simpa using hk)
structure Plan (P : Program) (tt : Tab) (Γ : FEnv) (ops : Array Oper) (σ : St) (ds : List Nat) (mds : List (List Nat)) (recs : List Rec) (N : Nat) : Prop where
 deps : Deps ops ds
 apart : apartOK ds ops.toList ops.toList.length ops.toList.length = true
 okd : ∀ (i : Nat) (o : Oper),ops[i]? = some o -> okDst σ.n o.dst = true
 mlen : mds.length = ops.size
 len : recs.length = ops.size
 rcd : ∀ (j : Nat) (s : Rec),recs[j]? = some s -> RecOK tt Γ ops σ ds mds j s (recs.take j)
 chain : Chain σ.nx recs N
 env : ∀ t,∀ o ∈ V.ids (look .undef σ.env t),o < σ.nx
 objs : ∀ o,look .dead σ.objs o ≠ .dead -> o < σ.nx /\ ∀ p ∈ (look .dead σ.objs o).ids,p < σ.nx
section
variable {ops : Array Oper} {σ : St} {ds : List Nat} {mds : List (List Nat)} {recs : List Rec} {N : Nat}
theorem Plan.size (pl : Plan P tt Γ ops σ ds mds recs N) {j : Nat} {s : Rec} (h : recs[j]? = some s) : j < ops.size := by
 rw [<- pl.len]; exact (vad.1 h).1
theorem Plan.get (pl : Plan P tt Γ ops σ ds mds recs N) {j : Nat} (h : j < ops.size) : ∃ s,recs[j]? = some s := ⟨recs[j]'(by rw [pl.len]; exact h),by simp [pl.len,h]⟩
theorem qgR {j k : Nat} {s : Rec} (h : recs[k]? = some s) (hk : k < j) : (recs.take j)[k]? = some s := by
 rw [List.getElem?_take_of_lt hk]; exact h
theorem qlE {j k : Nat} {s : Rec} (h : (recs.take j)[k]? = some s) : recs[k]? = some s /\ k < j := by
 rw [vaQ] at h
 split at h
 ·rename_i hk; exact ⟨h,hk⟩
 ·cases h
theorem Plan.envTake (pl : Plan P tt Γ ops σ ds mds recs N) {i : Nat} (hi : i < ops.size) : envOn (dep ds i) 0 (recs.take i) σ.env = envOn (dep ds i) 0 recs σ.env := by
 have e : envOn (dep ds i) 0 (recs.take i ++ recs.drop i) σ.env = envOn (dep ds i) 0 (recs.take i) σ.env := by
  rw [qgx,qf6]
  intro k _
  cases hd : dep ds i (0 + (recs.take i).length + k) with
  | false => rfl
  | true =>
   have := pl.deps.below i _ hi hd
   rw [vaU,pl.len] at this
   omega
 rw [vau] at e
 exact e.symm
theorem Plan.objsTake (pl : Plan P tt Γ ops σ ds mds recs N) {i : Nat} (hi : i < ops.size) : objsOn (dep ds i) 0 (recs.take i) σ.objs = objsOn (dep ds i) 0 recs σ.objs := by
 have e : objsOn (dep ds i) 0 (recs.take i ++ recs.drop i) σ.objs = objsOn (dep ds i) 0 (recs.take i) σ.objs := by
  rw [qfE,qfc]
  intro k _
  cases hd : dep ds i (0 + (recs.take i).length + k) with
  | false => rfl
  | true =>
   have := pl.deps.below i _ hi hd
   rw [vaU,pl.len] at this
   omega
 rw [vau] at e
 exact e.symm
theorem Plan.seen_lt (pl : Plan P tt Γ ops σ ds mds recs N) {i : Nat} {r : Rec} (hr : recs[i]? = some r) {o : Nat} (h : Seen ds σ.nx i r.lo r.hi (recs.take i) o) : o < r.hi := by
 have hg := pl.chain.get hr
 rcases h with h | h | ⟨j,s,hs,hd,h1,h2⟩
 ·omega
 ·exact h.2
 ·obtain ⟨hs,hj⟩ := qlE hs
  have := pl.chain.apart hj hs hr
  omega
theorem Plan.seen_free (pl : Plan P tt Γ ops σ ds mds recs N) {L : Nat -> Bool} (hsh : ∀ j k,L j = true -> dep ds j k = true -> L k = true) {i k : Nat} {r s : Rec} (hr : recs[i]? = some r) (hs : recs[k]? = some s) (hk : L k = true) (hi : ¬ L i = true) {o : Nat} (h : Seen ds σ.nx k s.lo s.hi (recs.take k) o) : ¬ (r.lo <= o /\ o < r.hi) := by
 have hg := pl.chain.get hr
 have key : ∀ (m : Nat) (x : Rec),recs[m]? = some x -> L m = true -> x.lo <= o -> o < x.hi -> ¬ (r.lo <= o /\ o < r.hi) := fun m x hx hm h1 h2 h3 => by
  rcases Nat.lt_trichotomy m i with h | h | h
  ·have := pl.chain.apart h hx hr; omega
  ·subst h; exact hi hm
  ·have := pl.chain.apart h hr hx; omega
 rcases h with h | h | ⟨j,x,hx,hd,h1,h2⟩
 ·omega
 ·exact key k s hs hk h.1 h.2
 ·obtain ⟨hx,_⟩ := qlE hx
  exact key j x hx (hsh k j hk hd) h1 h2
theorem Plan.clash (pl : Plan P tt Γ ops σ ds mds recs N) {j k : Nat} {s x : Rec} (hs : recs[j]? = some s) (hx : recs[k]? = some x) {o : Nat} (h1 : o ∈ keys s.ch) (h2 : o ∈ keys x.ch) : ¬ side ds j k = true := fun hsd => by
 have hne := (qfm.1 hsd).1
 rcases vaD j k with h | h
 ·exact ((pl.rcd k x hx).ch.clash j s (qgR hs h) o h2 h1).1 (qjE hsd)
 ·exact ((pl.rcd j s hs).ch.clash k x (qgR hx (by omega)) o h1 h2).1 hsd
def J (P : Program) (σ : St) (recs : List Rec) (N : Nat) (c0 : Ctx) (objs0 : List AObj) (L : Nat -> Bool) (a : Act) (w : World) : Prop :=
 ∃ c,c.w = w /\ c.nx = N /\ SOK c (objsOn L 0 recs σ.objs) /\ EnvRel c (envOn L 0 recs σ.env) a /\ a.tmps.size = σ.n /\ a.defers = [] /\ FR c0 objs0 c (objsOn L 0 recs σ.objs)
theorem qns (hT : TabOK P tt) (hΓ : EnvOK P Γ) (pl : Plan P tt Γ ops σ ds mds recs N) {c0 : Ctx} {objs0 : List AObj} (hc0 : c0.nx <= σ.nx) (hsl : SlotsIn ops σ.n) {Q : Exit -> Act -> World -> Prop} {L : Nat -> Bool} (hsh : ∀ j k,L j = true -> dep ds j k = true -> L k = true) {i : Nat} (hi : i < ops.size) (hLi : ¬ L i = true)
  (hready : ∀ k,dep ds i k = true -> L k = true) {a : Act} {w : World} (hj : J P σ recs N c0 objs0 L a w) {L' : Nat -> Bool} (hL' : ∀ k,L' k = true ↔ k = i \/ L k = true) : wpOp P ops Q i (J P σ recs N c0 objs0 L') a w := by
 obtain ⟨c,rfl,hnx,hok,henv,hsz,hdf,hfr⟩ := hj
 obtain ⟨r,hr⟩ := pl.get hi
 obtain ⟨hch,o,r0,ho,hdst,hrun,huniq⟩ := pl.rcd i r hr
 rw [pl.envTake hi,pl.objsTake hi] at hrun
 have hg := pl.chain.get hr
 -- at its side
 have hside : ∀ k,L k = true -> ¬ dep ds i k = true -> side ds i k = true := fun k hk hd => qfm.2 ⟨fun e => hLi (e ▸ hk),hd,fun h => hLi (hsh k i hk h)⟩
 have hneL : ∀ k,k ≠ i -> L' k = L k := fun k hk => by
  cases h : L k with
  | true => exact (hL' k).2 (.inr h)
  | false =>
   cases h' : L' k with
   | false => rfl
   | true =>
    rcases (hL' k).1 h' with e | e
    ·exact absurd e hk
    ·rw [h] at e; cases e
 -- what it sees of objects
 have hvis : ∀ p,look .dead (hideO ds i 0 ((recs.take i).map fun r => r.ch.map (·.1)) (hideO ds i 0 mds (objsOn (dep ds i) 0 recs σ.objs))) p = .dead \/ (look .dead (hideO ds i 0 ((recs.take i).map fun r => r.ch.map (·.1)) (hideO ds i 0 mds (objsOn (dep ds i) 0 recs σ.objs))) p = look .dead (objsOn L 0 recs σ.objs) p /\ p < r.lo /\ ∀ q ∈ (look .dead (objsOn L 0 recs σ.objs) p).ids,q < r.lo) := fun p => by
  rcases qf0 (ds := ds) (i := i) (t := p) ((recs.take i).map fun r => r.ch.map (·.1)) 0 (hideO ds i 0 mds (objsOn (dep ds i) 0 recs σ.objs)) with h | ⟨h0,hmr⟩
  ·exact .inl h
  rcases qf0 (ds := ds) (i := i) (t := p) mds 0 (objsOn (dep ds i) 0 recs σ.objs) with h | ⟨h,hmd⟩
  ·exact .inl (h0.trans h)
  replace h := h0.trans h
  by_cases hdead : look .dead (objsOn (dep ds i) 0 recs σ.objs) p = .dead
  ·exact .inl (h.trans hdead)
  have hcs := qev (t := p) (p := dep ds i) recs 0 σ.objs
  have hcong : look .dead (objsOn (dep ds i) 0 recs σ.objs) p = look .dead (objsOn L 0 recs σ.objs) p := by
   refine qdG recs 0 _ _ (fun k s hs hp => ?_) rfl
   rw [vac]
   cases hd : dep ds i k with
   | true => exact (hready k hd).symm
   | false =>
    cases hk : L k with
    | false => rfl
    | true =>
     exfalso
     have hsd := hside k hk (by rw [hd]; exact vah)
     have hkn := pl.size hs
     have hkey := (pl.rcd k s hs).ch.key p hp
     have hki : i < k := Classical.byContradiction fun hn => by
      have hkl : k < i := by have := (qfm.1 hsd).1; omega
      exact hmr k (keys s.ch) (by rw [vaq,qgR hs hkl]; rfl) (by rw [vac]; exact hsd) hp
     by_cases hb : p < σ.nx
     ·have hkm : k < mds.length := by rw [pl.mlen]; exact hkn
      exact hmd k (nth [] mds k) (qd8 [] mds k hkm) (by rw [vac]; exact hsd) (hkey.2 hb)
     ·rcases hcs with e | ⟨j,s',hs',hdj,hp',_⟩
      ·rw [e] at hdead
       exact hb (pl.objs p hdead).1
      ·rw [vac] at hdj
       have hne : j ≠ k := fun e => by subst e; rw [hd] at hdj; cases hdj
       rcases vaD j k with hjk | hjk
       ·exact ((pl.rcd k s hs).ch.clash j s' (qgR hs' hjk) p hp hp').2 (by omega) i hki hdj (qjE hsd)
       ·have hns := pl.clash hs' hs hp' hp
        have hjn := pl.size hs'
        have : dep ds j k = true := Classical.byContradiction fun hh => hns (qfm.2 ⟨hne,hh,fun h2 => by have := pl.deps.below k j hkn h2; omega⟩)
        have := pl.deps.trans hi hdj this
        rw [hd] at this; cases this
  refine .inr ⟨h.trans hcong,?_⟩
  rw [<- hcong]
  rcases hcs with e | ⟨j,s',hs',hdj,hp',e⟩
  ·rw [e] at hdead ⊢
   have := pl.objs p hdead
   exact ⟨by omega,fun q hq => by have := this.2 q hq; omega⟩
  ·rw [vac] at hdj
   have hji := pl.deps.below i j hi hdj
   have hap := pl.chain.apart hji hs' hr
   rw [e]
   refine ⟨?_,fun q hq => ?_⟩
   ·have := pl.seen_lt hs' ((pl.rcd j s' hs').ch.key p hp').1; omega
   ·have := pl.seen_lt hs' ((pl.rcd j s' hs').ch.obj _ (qgW hp') q hq); omega
 -- what it sees of slots
 have hev : EnvRel (cutCtx c r.lo (hideO ds i 0 ((recs.take i).map fun r => r.ch.map (·.1)) (hideO ds i 0 mds (objsOn (dep ds i) 0 recs σ.objs)))) (hideE ds i 0 ops.toList (envOn (dep ds i) 0 recs σ.env)) a := fun t => by
  rcases qit (ds := ds) (i := i) (t := t) ops.toList 0 (envOn (dep ds i) 0 recs σ.env) with h | ⟨h,hmd⟩
  ·rw [h]; exact trivial
  rw [h]
  have hcong : look .undef (envOn (dep ds i) 0 recs σ.env) t = look .undef (envOn L 0 recs σ.env) t := by
   refine qeh recs 0 _ _ (fun k s hs hp => ?_) rfl
   rw [vac]
   cases hd : dep ds i k with
   | true => exact (hready k hd).symm
   | false =>
    cases hk : L k with
    | false => rfl
    | true =>
     exfalso
     have hsd := hside k hk (by rw [hd]; exact vah)
     obtain ⟨o',_,ho',hdst',_⟩ := (pl.rcd k s hs).run
     exact hmd k o' (by simpa using ho') (by rw [vac]; exact hsd) (by rw [<- hdst']; exact hp)
  have hlt : ∀ p ∈ V.ids (look .undef (envOn (dep ds i) 0 recs σ.env) t),p < r.lo := fun p hp => by
   rcases qfe (t := t) (p := dep ds i) recs 0 σ.env with e | ⟨j,s',hs',hdj,e⟩
   ·rw [e] at hp
    have := pl.env t p hp; omega
   ·rw [vac] at hdj
    have hji := pl.deps.below i j hi hdj
    have hap := pl.chain.apart hji hs' hr
    rw [e] at hp
    have := pl.seen_lt hs' ((pl.rcd j s' hs').ch.v p hp); omega
  have hrel := henv t
  rw [<- hcong] at hrel
  exact Rel.idr qnw hlt (fun _ hb _ => hb) hrel
 have hcut := qpR hok (by rw [hnx]; omega) hvis
 have hsl' : SlotsIn ops a.tmps.size := by rw [hsz]; exact hsl
 -- none that has been run is known by the names that it gives
 have hfree : ∀ p,look .dead (objsOn L 0 recs σ.objs) p ≠ .dead -> ¬ (r.lo <= p /\ p < r.hi) /\ ∀ q ∈ (look .dead (objsOn L 0 recs σ.objs) p).ids,¬ (r.lo <= q /\ q < r.hi) := fun p hp => by
  rcases qev (t := p) (p := L) recs 0 σ.objs with e | ⟨j,s',hs',hdj,hp',e⟩
  ·rw [e] at hp ⊢
   have := pl.objs p hp
   exact ⟨by omega,fun q hq => by have := this.2 q hq; omega⟩
  ·rw [vac] at hdj
   rw [e]
   exact ⟨pl.seen_free hsh hr hs' hdj hLi ((pl.rcd j s' hs').ch.key p hp').1,fun q hq => pl.seen_free hsh hr hs' hdj hLi ((pl.rcd j s' hs').ch.obj _ (qgW hp') q hq)⟩
 have hfreeE : ∀ t,∀ q ∈ V.ids (look .undef (envOn L 0 recs σ.env) t),¬ (r.lo <= q /\ q < r.hi) := fun t q hq => by
  rcases qfe (t := t) (p := L) recs 0 σ.env with e | ⟨j,s',hs',hdj,e⟩
  ·rw [e] at hq
   have := pl.env t q hq; omega
  ·rw [vac] at hdj
   rw [e] at hq
   exact pl.seen_free hsh hr hs' hdj hLi ((pl.rcd j s' hs').ch.v q hq)
 -- the state behind it
 have hafter : ∀ (u : Value) (c' : Ctx),(Strict -> c.w.drawn <= c'.w.drawn) -> Done (cutCtx c r.lo (hideO ds i 0 ((recs.take i).map fun r => r.ch.map (·.1)) (hideO ds i 0 mds (objsOn (dep ds i) 0 recs σ.objs)))) (hideO ds i 0 ((recs.take i).map fun r => r.ch.map (·.1)) (hideO ds i 0 mds (objsOn (dep ds i) 0 recs σ.objs))) c' r.v u r.ch r.hi -> J P σ recs N c0 objs0 L' (a.put o.dst u) c'.w := fun u c' hdr hdn => by
  obtain ⟨c2,hw,hgl⟩ := glue hok hg.2.1 (by rw [hnx]; exact hg.2.2) hvis hfree hdr hdn (fun p hp => pl.seen_lt hr (hch.v p hp)) (fun x hx p hp => pl.seen_lt hr (hch.obj x hx p hp))
  have hlo : ∀ p,look .dead (objsOn L' 0 recs σ.objs) p = look .dead (r.ch ++ objsOn L 0 recs σ.objs) p := fun p => by
   rw [qcL]
   by_cases hp : p ∈ keys r.ch
   ·rw [if_pos hp]
    refine qhx recs 0 _ i r hr hp (by rw [vac]; exact (hL' i).2 (.inl rfl)) fun k s hs hik hk hps => ?_
    rw [vac] at hk
    have hk : L k = true := by rw [hneL k (by omega)] at hk; exact hk
    exact pl.clash hr hs hp hps (hside k hk fun hd => by have := pl.deps.below i k hi hd; omega)
   ·rw [if_neg hp]
    refine qdG recs 0 _ _ (fun k s hs hps => ?_) rfl
    rw [vac]
    refine hneL k fun e => ?_
    subst e
    rw [hr] at hs; cases hs
    exact hp hps
  refine ⟨c2,hw,hgl.nx.trans hnx,hgl.ok.congr hlo,fun t => ?_,by rw [qi2]; exact hsz,by rw [qkD]; exact hdf,(hgl.fr c0 objs0 (by omega) hfr).congr hlo⟩
  have hold : EnvRel c2 (envOn L 0 recs σ.env) a := fun t => hgl.old _ _ (hfreeE t) (henv t)
  have hput := qkU hold (dst := r.dst) (by rw [hsz,hdst]; exact pl.okd i o ho) hgl.rel t
  rw [hdst] at hput
  have he : look .undef (envOn L' 0 recs σ.env) t = look .undef (putE (envOn L 0 recs σ.env) o.dst r.v) t := by
   rw [qdv]
   by_cases hd : o.dst = some t
   ·rw [if_pos hd]
    refine qiy recs 0 _ i r hr (hdst.trans hd) (by rw [vac]; exact (hL' i).2 (.inl rfl)) fun k s hs hik hk hds => ?_
    rw [vac] at hk
    have hk : L k = true := by rw [hneL k (by omega)] at hk; exact hk
    obtain ⟨o',_,ho',hdst',_⟩ := (pl.rcd k s hs).run
    exact qnr pl.apart ho ho' (hside k hk fun hd => by have := pl.deps.below i k hi hd; omega) hd (hdst'.symm.trans hds)
   ·rw [if_neg hd]
    refine qeh recs 0 _ _ (fun k s hs hps => ?_) rfl
    rw [vac]
    refine hneL k fun e => ?_
    subst e
    rw [hr] at hs; cases hs
    exact hd (hdst.symm.trans hps)
  rw [he]
  exact hput
 unfold wpOp
 rw [ho]
 dsimp only
 rcases qfK hT hΓ hrun hcut rfl hev hsl' with ⟨hw,v,ch,nx',h,_,hop⟩ | ⟨hw,h⟩
 ·rw [if_pos hw]
  obtain ⟨rfl,rfl,rfl⟩ := huniq v ch nx' h
  exact .inl (hop _ _ fun u c' hdn hdr => hafter u c' hdr hdn)
 ·rw [if_neg (by rw [hw]; exact vah)]
  obtain ⟨e1,e2,e3⟩ := huniq _ _ _ h
  refine hafter Go.undef (cutCtx c r.lo (hideO ds i 0 ((recs.take i).map fun r => r.ch.map (·.1)) (hideO ds i 0 mds (objsOn (dep ds i) 0 recs σ.objs)))) (fun _=>vas _) ?_
  rw [<- e1,<- e2,<- e3]
  exact Done.pure hcut ⟨[],rfl,rfl⟩
end
end Go.Vm

namespace Go.Vm
open Go
variable {P : Program} {tt : Tab} {Γ : FEnv}
theorem qkj {p q : Nat -> Bool} : ∀ {l : List Nat},(∀ x ∈ l,q x = true -> p x = true) -> ∀ {i : Nat},i ∈ l -> p i = true -> ¬ q i = true -> l.countP q < l.countP p
 | [],_,i,hi,_,_ => by cases hi
 | x :: r,h,i,hi,hp,hq => by
  have hr : ∀ y ∈ r,q y = true -> p y = true := fun y hy => h y (vaz _ hy)
  have hle : r.countP q <= r.countP p := List.countP_mono_left hr
  rw [vaW,vaW]
  rcases van.1 hi with rfl | hi
  ·rw [if_pos hp,if_neg hq]; omega
  ·have := qkj hr hi hp hq
   have hx := h x (vaP ..)
   by_cases h1 : q x = true
   ·rw [if_pos h1,if_pos (hx h1)]; omega
   ·rw [if_neg h1]; omega
section
variable {ops : Array Oper} {σ : St} {ds : List Nat} {mds : List (List Nat)} {recs : List Rec} {N : Nat}
def lst (listed : Array Bool) (j : Nat) : Bool := listed.getD j false
theorem qi5 {listed : Array Bool} {j : Nat} (hj : j < listed.size) : listed.getD j true = lst listed j := by simp [lst,hj]
theorem qpd {listed : Array Bool} {i : Nat} (hi : i < listed.size) (k : Nat) : lst (listed.setIfInBounds i true) k = true ↔ k = i \/ lst listed k = true := by
 unfold lst
 rw [vai,Array.getElem?_setIfInBounds]
 by_cases h : i = k
 ·subst h; simp [hi]
 ·rw [if_neg h]; simp [vai,Ne.symm h]
theorem qmV (pl : Plan P tt Γ ops σ ds mds recs N) {listed : Array Bool} (hs : listed.size = ops.size) (h : Region.ready .any ops listed = []) : ∀ i,i < ops.size -> lst listed i = true := by
 intro i
 induction i using Nat.strongRecOn with
 | _ i ih =>
  intro hi
  refine Classical.byContradiction fun hn => ?_
  have hm : i ∈ Region.ready .any ops listed := by
   refine mem_ready.2 ⟨?_,ops[i],by simp [hi],fun e he hb => ?_⟩
   ·rw [qi5 (by omega)]; simpa using hn
   ·have hd : dep ds i e.on = true := (pl.deps.spec i ops[i] (by simp [hi]) e.on).2 ⟨e,by simpa using he,hb,.inl rfl⟩
    have hlt := pl.deps.below i e.on hi hd
    exact ih e.on hlt (by omega)
  rw [h] at hm; cases hm
theorem qop (hT : TabOK P tt) (hΓ : EnvOK P Γ) (pl : Plan P tt Γ ops σ ds mds recs N) {c0 : Ctx} {objs0 : List AObj} (hc0 : c0.nx <= σ.nx) (hsl : SlotsIn ops σ.n) {Q : Exit -> Act -> World -> Prop}
  (hQ : ∀ a w,J P σ recs N c0 objs0 (fun _=>true) a w -> Q .normal a w) : ∀ (fuel : Nat) (listed : Array Bool) (a : Act) (w : World),listed.size = ops.size -> (∀ j k,lst listed j = true -> dep ds j k = true -> lst listed k = true) -> J P σ recs N c0 objs0 (lst listed) a w ->
  (vak ops.size).countP (fun i => !lst listed i) <= fuel -> wpAny P .any ops Q fuel listed a w := by
 have hend : ∀ (listed : Array Bool) a w,listed.size = ops.size -> Region.ready .any ops listed = [] -> J P σ recs N c0 objs0 (lst listed) a w -> Q .normal a w := fun listed a w hs hr hj => by
  have hall := qmV pl hs hr
  refine hQ a w ?_
  have hc : ∀ k,k < recs.length -> lst listed (0 + k) = true := fun k hk => by rw [vac]; exact hall k (by rw [<- pl.len]; exact hk)
  have e1 : ∀ p,look .dead (objsOn (fun _=>true) 0 recs σ.objs) p = look .dead (objsOn (lst listed) 0 recs σ.objs) p := fun p => qdG recs 0 _ _ (fun k s hs _ => (hc k (vad.1 hs).1).symm) rfl
  have e2 : ∀ t,look .undef (envOn (fun _=>true) 0 recs σ.env) t = look .undef (envOn (lst listed) 0 recs σ.env) t := fun t => qeh recs 0 _ _ (fun k s hs _ => (hc k (vad.1 hs).1).symm) rfl
  obtain ⟨c,hw,hnx,hok,henv,hsz,hdf,hfr⟩ := hj
  exact ⟨c,hw,hnx,hok.congr e1,fun t => by rw [e2]; exact henv t,hsz,hdf,hfr.congr e1⟩
 intro fuel
 induction fuel with
 | zero =>
  intro listed a w hs hsh hj hcnt
  have hall : ∀ i,i < ops.size -> lst listed i = true := fun i hi => by
   refine Classical.byContradiction fun hn => ?_
   have : 0 < (vak ops.size).countP (fun i => !lst listed i) := List.countP_pos_iff.2 ⟨i,by simpa using hi,by simpa using hn⟩
   omega
  have hr : Region.ready .any ops listed = [] := by
   cases h : Region.ready .any ops listed with
   | nil => rfl
   | cons x xs =>
    have hm : x ∈ Region.ready .any ops listed := by rw [h]; exact vaP ..
    obtain ⟨h1,o,ho,_⟩ := mem_ready.1 hm
    have hx := (vag.1 ho).1
    rw [qi5 (by omega),hall x hx] at h1
    cases h1
  exact ⟨hr,hend listed a w hs hr hj⟩
 | succ fuel ih =>
  intro listed a w hs hsh hj hcnt
  refine ⟨fun hr => hend listed a w hs hr hj,fun i hi => ?_⟩
  obtain ⟨h1,o,ho,hafter⟩ := mem_ready.1 hi
  have hin := (vag.1 ho).1
  rw [qi5 (by omega)] at h1
  have hnl : ¬ lst listed i = true := by rw [h1]; exact vah
  have hready : ∀ k,dep ds i k = true -> lst listed k = true := fun k hd => by
   obtain ⟨e,he,hb,h2⟩ := (pl.deps.spec i o ho k).1 hd
   have hl : lst listed e.on = true := hafter e (by simpa using he) hb
   rcases h2 with h2 | h2
   ·rw [<- h2]; exact hl
   ·exact hsh e.on k hl h2
  have hset := qpd (listed := listed) (i := i) (by omega)
  refine wpOp_mono (fun a' w' hj' => ih _ a' w' (by simpa using hs) (fun j k hjl hd => ?_) hj' ?_) (qns hT hΓ pl hc0 hsl hsh hin hnl hready hj hset)
  ·rcases (hset j).1 hjl with rfl | hjl
   ·exact (hset k).2 (.inr (hready k hd))
   ·exact (hset k).2 (.inr (hsh j k hjl hd))
  ·have := qkj (l := vak ops.size) (p := fun x => !lst listed x) (q := fun x => !lst (listed.setIfInBounds i true) x) (fun x _ hx => by
    have hx' : ¬ lst (listed.setIfInBounds i true) x = true := by simpa using hx
    have : ¬ lst listed x = true := fun h => hx' ((hset x).2 (.inr h))
    simpa using this) (i := i) (by simpa using hin) (by simpa using hnl) (by
    have := (hset i).2 (.inl rfl)
    simp [this])
   omega
end
theorem qnX {ops : Array Oper} {n : Nat} (h : ops.toList.all (fun o => okDst n o.dst) = true) : (∀ (i : Nat) (o : Oper),ops[i]? = some o -> okDst n o.dst = true) /\ SlotsIn ops n := by
 have h1 : ∀ (i : Nat) (o : Oper),ops[i]? = some o -> okDst n o.dst = true := fun i o ho => by
  rw [vaj] at h
  exact h o (List.mem_of_getElem? (i := i) (by simpa using ho))
 refine ⟨h1,fun j t ht => ?_⟩
 unfold dstOf at ht
 cases ho : ops[j]? with
 | none => rw [ho] at ht; cases ht
 | some o =>
  rw [ho] at ht
  have := h1 j o ho
  have ht : o.dst = some t := ht
  rw [ht] at this
  simpa [okDst] using this
theorem regionOK (hT : TabOK P tt) (hΓ : EnvOK P Γ) (hm : P.follows .mixedOrders = true) : RegionOK P tt Γ := by
 intro c0 objs0 id ops draw σ K r Q a w h hi hK
 unfold evRegion at h
 split at h
 ·cases h
 rename_i hok
 obtain ⟨hokd,hsl⟩ := qnX hok
 split at h
 ·have := qfd (Q := Q) hT hΓ hsl (fun σ' a' w' h' hn' hi' => hK σ' a' w' h' hn' hi') ops.toList 0 σ a w rfl rfl hi h
  refine wp_region ?_
  rw [List.range_eq_range',<- vaL]
  exact this
 ·dsimp only at h
  split at h
  rotate_left
  ·cases h
  rename_i hc
  simp only [vab] at hc
  obtain ⟨recs,N,hk,hlen,hrec,hch⟩ := qhN ops.toList 0 σ.nx [] rfl rfl (fun j s h => by simp at h) rfl h
  obtain ⟨c,rfl,hrel,hfr⟩ := hi
  have hnx := hrel.nx
  have pl : Plan P tt Γ ops σ (depsOf ops.toList []) (ops.toList.map (mdOf σ.objs (peekE tt σ.objs ops.toList σ.env))) recs N :=
   ⟨qpk hc.2,hc.1,hokd,by simp,hlen,hrec,hch,fun t o ho => by rw [<- hnx]; exact Rel.lt _ _ (hrel.env t) o ho,fun o ho => ⟨by rw [<- hnx]; exact (hrel.ok.obj o).lt ho,by rw [<- hnx]; exact (hrel.ok.obj o).ids_lt⟩⟩
  refine wp_region_any hm ?_
  refine qop hT hΓ pl (c0 := c0) (objs0 := objs0) (by rw [<- hnx]; exact hfr.nx) hsl (fun a' w' hj => ?_) ops.size _ a _ (by simp) (fun j k h => ?_) ?_ (by exact Nat.le_trans (List.countP_le_length) (by simp))
  ·obtain ⟨c',hw,hnx',hok',henv',hsz',hdf',hfr'⟩ := hj
   exact hK _ a' w' hk rfl ⟨c',hw,⟨hok',hnx',henv',hsz',hdf'⟩,hfr'⟩
  ·exfalso
   simp only [lst,vai,vaH] at h
   split at h <;> cases h
  ·have hle := hch.le
   let c2 : Ctx := { w := { c.w with drawn := c.w.drawn + 1 },nx := N,hdr := fun o => if o < c.nx then c.hdr o else .bool true,blk := c.blk,sub := c.sub,SB := c.SB,SA := c.SA }
   have hst : Step c c2 (Dof c σ.objs []) := ⟨rfl,rfl,rfl,vas _,by rw [hnx]; exact hle,fun o ho => if_pos ho,fun _ _ => rfl,fun _ _ _ _ => Iff.rfl,fun _ _ _ => rfl,fun _ _ _ => Iff.rfl,fun _ _ _ => Iff.rfl,fun b ⟨_,h,_⟩ => by cases h⟩
   have hok2 : SOK c2 σ.objs := by
    have := hrel.ok.step (ch := []) hst (fun o h => by cases h) (fun o b h => by cases h) (fun o _ b h => by cases h) hrel.ok.flat hrel.ok.sub hrel.ok.bd (fun o ho => by
     show (if o < c.nx then c.hdr o else .bool true).oneCell' = true
     split
     ·rename_i h; exact hrel.ok.one o h
     ·rfl)
    exact this
   have hz : ∀ k,lst (vaE ops.size false) k = false := fun k => by
    simp only [lst,vai,vaH]
    split <;> rfl
   have e1 : objsOn (lst (vaE ops.size false)) 0 recs σ.objs = σ.objs := qfc recs 0 _ fun k _ => hz _
   have e2 : envOn (lst (vaE ops.size false)) 0 recs σ.env = σ.env := qf6 recs 0 _ fun k _ => hz _
   refine ⟨c2,rfl,rfl,by rw [e1]; exact hok2,by rw [e2]; exact fun t => Rel.mono hst hrel.ok.sub _ _ (hrel.env t),hrel.size,hrel.defers,?_⟩
   rw [e1]
   have := hfr.step (ch := []) (fun _=>Nat.le_succ _) hrel.ok hst (fun o b h => by cases h)
   exact this
theorem fn_ok (hT : TabOK P tt) (hΓ : EnvOK P Γ) (hm : P.follows .mixedOrders = true) {live : Live} {f : FuncId} {fn : Func} (hf : P.funcs[f]? = some fn) {m : Nat} {args : List V} {objs : List AObj} {res : V} {objs' : List AObj} (h : evF tt Γ live fn m args objs = some (res,objs')) : FnOK P f args objs res objs' :=
 qoj hT (regionOK hT hΓ hm) hf h
end Go.Vm

namespace Go.Vm
open Go
noncomputable section
variable {α : Type}
def putK (env : Env) (dst : Option Tmp) (v : V) (K : Env -> α) : α := match dst with | some t => forceV v fun v => K ((t,v) :: env) | none => K env
theorem qmX (env : Env) (dst : Option Tmp) (v : V) (K : Env -> α) : putK env dst v K = K (putE env dst v) := by
 cases dst with
 | none => rfl
 | some t => rw [putK]; exact qde v _
def forceK (K : V -> Objs -> Nat -> Option R) : V -> Objs -> Nat -> Option R := fun v ch nx => forceV v fun v => forceC ch fun ch => litK nx fun nx => K v ch nx
theorem qeD (K : V -> Objs -> Nat -> Option R) : forceK K = K := by
 funext v ch nx
 rw [forceK,qde,qcl,qcE]
def seqF (tt : Tab) (Γ : FEnv) (ops : List Oper) (n : Nat) : List Oper -> Env -> Objs -> Nat -> (Env -> Objs -> Nat -> Option R) -> Option R
 | [],env,objs,nx,K => K env objs nx
 | o :: r,env,objs,nx,K => match okDst n o.dst with
  | true => evGuard tt Γ ops env objs nx (vak nx) o (forceK fun v ch nx => putK env o.dst v fun env => appF ch objs fun objs => seqF tt Γ ops n r env objs nx K)
  | false => none
theorem qmJ (tt : Tab) (Γ : FEnv) (ops : List Oper) (n : Nat) : ∀ (l : List Oper) (env : Env) (objs : Objs) (nx : Nat) (K : St -> Option R),seqF tt Γ ops n l env objs nx (fun env objs nx => K ⟨env,objs,nx,n⟩) = evSeq tt Γ ops l ⟨env,objs,nx,n⟩ K
 | [],_,_,_,_ => rfl
 | o :: r,env,objs,nx,K => by
  unfold seqF evSeq
  cases okDst n o.dst with
  | false => rfl
  | true =>
   dsimp only
   rw [qeD]
   congr 1
   funext v ch nx'
   rw [qmX,qdh]
   exact qmJ tt Γ ops n r _ _ _ K
def drawF (tt : Tab) (Γ : FEnv) (ops : List Oper) (ds : List Nat) (mds : List (List Nat)) (env0 : Env) (objs0 : Objs) (nx0 n : Nat) : List Oper -> Nat -> Nat -> List Rec -> (Env -> Objs -> Nat -> Option R) -> Option R
 | [],_,nx,recs,K => forceE (envOn (fun _=>true) 0 recs env0) fun env => forceC (objsOn (fun _=>true) 0 recs objs0) fun objs => K env objs nx
 | o :: r,i,nx,recs,K =>
  forceE (hideE ds i 0 ops (envOn (dep ds i) 0 recs env0)) fun e => forceC (hideO ds i 0 (recs.map fun r => r.ch.map (·.1)) (hideO ds i 0 mds (objsOn (dep ds i) 0 recs objs0))) fun os =>
  andK (evGuard tt Γ ops e os nx (mdAt mds nx0 i nx) o (forceK enc)) (forceK fun v ch nx' =>
   match chOK ds (nth [] mds i) nx0 i i nx nx' recs v ch with
   | true => litK (i + 1) fun i => drawF tt Γ ops ds mds env0 objs0 nx0 n r i nx' (recs ++ [⟨o.dst,v,ch,nx,nx'⟩]) K
   | false => none)
theorem qlN (tt : Tab) (Γ : FEnv) (ops : List Oper) (ds : List Nat) (mds : List (List Nat)) (env0 : Env) (objs0 : Objs) (nx0 n : Nat) : ∀ (l : List Oper) (i nx : Nat) (recs : List Rec) (K : St -> Option R),
  drawF tt Γ ops ds mds env0 objs0 nx0 n l i nx recs (fun env objs nx => K ⟨env,objs,nx,n⟩) = evDraw tt Γ ops ds mds ⟨env0,objs0,nx0,n⟩ l i nx recs K
 | [],_,_,_,_ => by rw [drawF,qeE,qcl]; rfl
 | o :: r,i,nx,recs,K => by
  unfold drawF evDraw
  rw [qeE,qcl,qeD,qeD]
  congr 1
  funext v ch nx'
  dsimp only
  generalize chOK ds (nth [] mds i) nx0 i i nx nx' recs v ch = b
  cases b with
  | true => dsimp only; rw [qcE]; exact qlN tt Γ ops ds mds env0 objs0 nx0 n r _ _ _ K
  | false => rfl
def regionF (tt : Tab) (Γ : FEnv) (ops : List Oper) (draw : Bool) (env : Env) (objs : Objs) (nx n : Nat) (K : Env -> Objs -> Nat -> Option R) : Option R :=
 match ops.all (fun o => okDst n o.dst) with
 | false => none
 | true => match draw with
  | false => seqF tt Γ ops n ops env objs nx K
  | true =>
   match apartOK (depsOf ops []) ops ops.length ops.length && depsOK (depsOf ops []) 0 ops with
   | true => drawF tt Γ ops (depsOf ops []) (ops.map (mdOf objs (peekE tt objs ops env))) env objs nx n ops 0 nx [] K
   | false => none
theorem ql0 (tt : Tab) (Γ : FEnv) (ops : List Oper) (draw : Bool) (env : Env) (objs : Objs) (nx n : Nat) (K : St -> Option R) : regionF tt Γ ops draw env objs nx n (fun env objs nx => K ⟨env,objs,nx,n⟩) = evRegion tt Γ ops draw ⟨env,objs,nx,n⟩ K := by
 unfold regionF evRegion
 dsimp only
 generalize ops.all (fun o => okDst n o.dst) = b
 cases b with
 | false => rfl
 | true =>
  cases draw with
  | false => exact qmJ ..
  | true =>
   dsimp only
   generalize (apartOK (depsOf ops []) ops ops.length ops.length && depsOK (depsOf ops []) 0 ops) = b
   cases b with
   | true => exact qlN ..
   | false => rfl
def blkF (tt : Tab) (Γ : FEnv) (L : LoopF) : Code -> St -> (Xt -> St -> Option R) -> Option R
 | .skip,σ,K => K .normal σ
 | .region _ ops draw,σ,K => match σ with | ⟨env,objs,nx,n⟩ => regionF tt Γ ops.toList draw env objs nx n fun env objs nx => K .normal ⟨env,objs,nx,n⟩
 | .seq a b,σ,K => blkF tt Γ L a σ fun
  | .normal,σ' => blkF tt Γ L b σ' K
  | e,σ' => K e σ'
 | .cond c a b,σ,K => match evalO σ.env c with
  | .b x => br x (blkF tt Γ L a σ K) (blkF tt Γ L b σ K)
  | _ => none
 | .block id c,σ,K => blkF tt Γ L c σ fun
  | .exit id',σ' => match vae id' id with | true => K .normal σ' | false => K (.exit id') σ'
  | e,σ' => K e σ'
 | .loop c,σ,K => L c σ K
 | .exit id,σ,K => K (.exit id) σ
 | .ret,σ,K => K .ret σ
 | _,_,_ => none
theorem qfi (tt : Tab) (Γ : FEnv) (L : LoopF) : ∀ (c : Code) (σ : St) (K : Xt -> St -> Option R),blkF tt Γ L c σ K = evB tt Γ L c σ K
 | .skip,_,_ => rfl
 | .region _ ops draw,⟨env,objs,nx,n⟩,K => ql0 tt Γ ops.toList draw env objs nx n (K .normal)
 | .seq a b,σ,K => by
  unfold blkF evB
  rw [qfi tt Γ L a]
  congr 1
  funext e σ'
  cases e with
  | normal => exact qfi tt Γ L b σ' K
  | exit id => rfl
  | ret => rfl
 | .cond c a b,σ,K => by
  unfold blkF evB
  rw [qfi tt Γ L a,qfi tt Γ L b]
  rfl
 | .block id c,σ,K => by
  unfold blkF evB
  rw [qfi tt Γ L c]
  congr 1
 | .loop c,σ,K => rfl
 | .exit id,σ,K => rfl
 | .ret,σ,K => rfl
 | .rangeFunc _ _ _ _,_,_ => rfl
 | .scope _,_,_ => rfl
 | .label _,_,_ => rfl
 | .goto _,_,_ => rfl
 | .refuse _,_,_ => rfl
def zipF : List Nat -> List V -> (Env -> α) -> α
 | i :: l,v :: vs,K => zipF l vs fun e => K ((i,v) :: e)
 | _,_,K => K []
theorem qmo : ∀ (l : List Nat) (vs : List V) (K : Env -> α),zipF l vs K = K (l.zip vs)
 | i :: l,v :: vs,K => by rw [zipF,qmo l vs]; rfl
 | [],_,_ => by cases ‹List V› <;> rfl
 | _ :: _,[],_ => rfl
def normF (base : Nat) (live : List Nat) (σ : St) (K : St -> Option R) : Option R :=
 match σ with
 | ⟨env,objs,nx,n⟩ =>
  forceVs (live.map (look .undef env)) fun vs =>
  forceL (keptIds base objs vs) fun ids =>
  match allIn (V.idsL vs) ids && keepOK base objs nx ids with
  | true => forceVs (V.renL (posOf ids) vs) fun vs => zipF live vs fun env => forceC ((vak ids.length).zip (lessObjs objs ids)) fun objs => litK ids.length fun nx => K ⟨env,objs,nx,n⟩
  | false => none
theorem qlp (base : Nat) (live : List Nat) (σ : St) (K : St -> Option R) : normF base live σ K = match normOK base live σ with | true => K (normSt base live σ) | false => none := by
 cases σ with
 | mk env objs nx n =>
  unfold normF normOK normSt
  dsimp only
  rw [qbF,qeC]
  generalize (allIn (V.idsL (List.map (look V.undef env) live)) (keptIds base objs (List.map (look V.undef env) live)) && keepOK base objs nx (keptIds base objs (List.map (look V.undef env) live))) = b
  cases b with
  | true => dsimp only; rw [qbF,qmo,qcl,qcE]
  | false => rfl
def cvF : Cvs -> Env -> Objs -> Nat -> (Env -> Objs -> Nat -> α) -> α
 | [],env,objs,nx,K => K env objs nx
 | (t,j,m) :: r,env,objs,nx,K => forceV (cv1 objs nx m j (look .undef env t)).1 fun v => forceC (cv1 objs nx m j (look .undef env t)).2.1 fun ch => litK (cv1 objs nx m j (look .undef env t)).2.2 fun nx => appF ch objs fun objs => cvF r ((t,v) :: env) objs nx K
theorem qoQ : ∀ (l : Cvs) (env : Env) (objs : Objs) (nx n : Nat) (K : St -> α),cvF l env objs nx (fun env objs nx => K ⟨env,objs,nx,n⟩) = K (cvSt l ⟨env,objs,nx,n⟩)
 | [],_,_,_,_,_ => rfl
 | (t,j,m) :: r,env,objs,nx,n,K => by
  rw [cvF,qde,qcl,qcE,qdh]
  exact qoQ r _ _ _ n K
def seenF (cv : Cvs) (σ : St) (K : St -> α) : α := match σ with | ⟨env,objs,nx,n⟩ => cvF cv env objs nx fun env objs nx => K ⟨env,objs,nx,n⟩
theorem qiP (cv : Cvs) (σ : St) (K : St -> α) : seenF cv σ K = K (cvSt cv σ) := by
 cases σ with
 | mk env objs nx n => exact qoQ cv env objs nx n K
def headF (live : Live) (base : Nat) (L : LoopF) : LoopF := fun c σ K => seenF (live (firstReg c)).ch σ fun σ => normF base (live (firstReg c)).h σ fun σ => L c σ K
def leaveF (live : Live) (base : Nat) (c : Code) (K : Xt -> St -> Option R) : Xt -> St -> Option R := fun e σ => seenF (live (firstReg c)).co σ fun σ => normF base ((live (firstReg c)).out e) σ fun σ => K e σ
def loopG (tt : Tab) (Γ : FEnv) (live : Live) (base : Nat) : Nat -> LoopF
 | 0,_,_,_ => none
 | n + 1,c,σ,K => blkF tt Γ (headF live base (loopG tt Γ live base n)) c σ fun
  | .normal,σ' => headF live base (loopG tt Γ live base n) c σ' K
  | e,σ' => leaveF live base c K e σ'
theorem qlB {live : Live} {base : Nat} {L L' : LoopF} (h : L = L') : headF live base L = head live base L' := by
 subst h
 funext c σ K
 rw [headF,qiP,qlp]; rfl
theorem qj2 (live : Live) (base : Nat) (c : Code) (K : Xt -> St -> Option R) : leaveF live base c K = leave live base c K := by
 funext e σ
 rw [leaveF,qiP,qlp]; rfl
theorem qlu (tt : Tab) (Γ : FEnv) (live : Live) (base : Nat) : ∀ n,loopG tt Γ live base n = loopF tt Γ live base n
 | 0 => rfl
 | n + 1 => by
  funext c σ K
  unfold loopG loopF
  rw [qfi,qlB (qlu tt Γ live base n)]
  congr 1
  funext e σ'
  cases e with
  | normal => rfl
  | exit id => exact congrFun (congrFun (qj2 live base c K) _) _
  | ret => exact congrFun (congrFun (qj2 live base c K) _) _
def finF (tt : Tab) (base : Nat) (results : List ResultVar) : Xt -> St -> Option R
 | .exit _,_ => none
 | _,σ => match σ with
  | ⟨env,objs,nx,_⟩ => resK tt objs env results fun vs => forceV (resOne vs) fun v =>
   forceL (keptIds base objs [v]) fun ids =>
   match allIn (V.ids v) ids && keepOK base objs nx ids with
   | true => forceV (v.ren (posOf ids)) fun v => forceOs (lessObjs objs ids) fun os => some (v,os)
   | false => none
theorem qpj (tt : Tab) (base : Nat) (results : List ResultVar) : finF tt base results = finish tt base results := by
 funext e σ
 have key : ∀ σ : St,(match σ with
  | ⟨env,objs,nx,_⟩ => resK tt objs env results fun vs => forceV (resOne vs) fun v =>
   forceL (keptIds base objs [v]) fun ids =>
   match allIn (V.ids v) ids && keepOK base objs nx ids with
   | true => forceV (v.ren (posOf ids)) fun v => forceOs (lessObjs objs ids) fun os => some (v,os)
   | false => none : Option R) = resK tt σ.objs σ.env results fun vs =>
   let v := resOne vs
   let ids := keptIds base σ.objs [v]
   match allIn (V.ids v) ids && keepOK base σ.objs σ.nx ids with
   | true => some (v.ren (posOf ids),lessObjs σ.objs ids)
   | false => none := fun σ => by
  cases σ with
  | mk env objs nx n =>
   dsimp only
   congr 1
   funext vs
   rw [qde,qeC,qde,qf1]
 cases e with
 | exit id => rfl
 | normal => exact key σ
 | ret => exact key σ
def runF (tt : Tab) (Γ : FEnv) (live : Live) (fn : Func) (n : Nat) (args : List V) (objs : List AObj) : Option R :=
 match vam args.length fn.ntmps with
 | false => none
 | true => match fn.body with
  | none => none
  | some c => blkF tt Γ (headF live objs.length (loopG tt Γ live objs.length n)) c ⟨argSlots 0 args,(vak objs.length).zip objs,objs.length,fn.ntmps⟩ fun e σ => seenF (live endKey).ch σ fun σ => finF tt objs.length fn.results.toList e σ
theorem qo0 (tt : Tab) (Γ : FEnv) (live : Live) (fn : Func) (n : Nat) (args : List V) (objs : List AObj) : runF tt Γ live fn n args objs = evF tt Γ live fn n args objs := by
 unfold runF evF
 generalize vam args.length fn.ntmps = b
 cases b with
 | false => rfl
 | true =>
  dsimp only
  cases fn.body with
  | none => rfl
  | some c =>
   dsimp only
   rw [qfi,qlB (qlu tt Γ live _ n),qpj]
   congr 1
   funext e σ
   exact qiP _ σ _
theorem qnm {P : Program} {tt : Tab} {Γ : FEnv} (hT : TabOK P tt) (hΓ : EnvOK P Γ) (hm : P.follows .mixedOrders = true) {live : Live} {f : FuncId} {fn : Func} (hf : P.funcs[f]? = some fn) {m : Nat} {args : List V} {objs : List AObj} {res : V} {objs' : List AObj} (h : runF tt Γ live fn m args objs = some (res,objs')) : FnOK P f args objs res objs' :=
 fn_ok hT hΓ hm hf (by rw [<- qo0]; exact h)
end
end Go.Vm

namespace Go.Vm
open Go
noncomputable section
def opdsOf : Op -> List Operand
 | .move x | .assign x | .nilCheck x => [x]
 | .pick c a b => [c,a,b]
 | .box _ x => [x]
 | .build _ ps => ps.toList.map (·.2)
 | .buildSlice _ _ ps => ps.toList.map (·.2)
 | .load _ a => [a]
 | .store _ a v => [a,v]
 | .binOp _ _ x y _ => [x,y]
 | .unOp _ _ x => [x]
 | .convert _ _ x => [x]
 | .makeFunc _ _ caps => caps.toList
 | .makeSlice _ l _ => [l]
 | .slice _ x lo hi _ => x :: (lo.toList ++ hi.toList)
 | .fieldAddr _ x _ => [x]
 | .field _ x _ => [x]
 | .indexAddr _ x i => [x,i]
 | .index _ x i => [x,i]
 | .extract t _ => [t]
 | .range _ x => [x]
 | .lookup _ m i _ => [m,i]
 | .mapUpdate _ m i v => [m,i,v]
 | .next it _ => [it]
 | .entry it => [it]
 | .call c => (match c.callee with | .value f => [f] | _ => []) ++ c.args.toList
 | _ => []
theorem qol (tt : Tab) (Γ : FEnv) {env env' : Env} (objs : Objs) (nx : Nat) (md : List Nat) (o : Oper) (K : V → Objs → Nat → Option R) (hr : ∀ x ∈ opdsOf o.op,rawO env x = rawO env' x) :
    evOp tt Γ env objs nx md o K = evOp tt Γ env' objs nx md o K := by
  unfold evOp
  generalize o.op = op at hr
  have h : ∀ x ∈ opdsOf op,evalO env x = evalO env' x := fun x hx => by unfold evalO; rw [hr x hx]
  have hlr : ∀ l : List Operand,(∀ x ∈ l,rawO env x = rawO env' x) → l.map (rawO env) = l.map (rawO env') := fun l hl => vaB hl
  have hl : ∀ l : List Operand,(∀ x ∈ l,evalO env x = evalO env' x) → l.map (evalO env) = l.map (evalO env') := fun l hl => vaB hl
  have hp : ∀ l : List (Nat × Operand),(∀ x ∈ l.map (·.2),evalO env x = evalO env' x) → l.map (fun p => (p.1,evalO env p.2)) = l.map (fun p => (p.1,evalO env' p.2)) := fun l hl => vaB fun p hp => by rw [hl p.2 (vaN hp)]
  cases op with
  | call c =>
    simp only [opdsOf,vaw] at h hr
    have ha := hl c.args.toList fun x hx => h x (.inr hx)
    have har := hlr c.args.toList fun x hx => hr x (.inr hx)
    cases hc : c.callee with
    | value f =>
      rw [hc] at h
      have hf := h f (.inl (by simp))
      dsimp only
      rw [hc]
      dsimp only
      rw [hf,ha,har]
    | builtin b =>
      dsimp only
      rw [hc]
      cases b <;> dsimp only <;> first | rfl | skip
      all_goals
        first
          | rw [ha]
          | (generalize c.args.toList = l at *
             generalize c.argTypes.toList = t at *
             split <;> first | rfl | (simp only [vaJ,List.map_nil,List.cons.injEq,and_true] at ha har; simp only [ha,har]))
    | _ => dsimp only; rw [hc]
  | build t ps => simp only [opdsOf] at h; simp only [hp _ h]
  | buildSlice t n ps => simp only [opdsOf] at h; simp only [hp _ h]
  | makeFunc f a caps =>
    simp only [opdsOf] at h
    have := hl _ h
    cases f <;> dsimp only <;> first | rfl | (split <;> first | rfl | rw [this])
  | slice t x lo hi m =>
    simp only [opdsOf,van,vaw,Option.mem_toList] at h
    have hx := h x (.inl rfl)
    have h1 : lo.map (evalO env) = lo.map (evalO env') := by cases lo with | none => rfl | some a => simp [h a (.inr (.inl rfl))]
    have h2 : hi.map (evalO env) = hi.map (evalO env') := by cases hi with | none => rfl | some a => simp [h a (.inr (.inr rfl))]
    cases m <;> dsimp only
    rw [hx,h1,h2]
  | makeSlice t l c =>
    simp only [opdsOf,vaO,forall_eq] at h
    dsimp only
    split <;> first | rfl | rw [h]
  | _ =>
    simp only [opdsOf,van,List.not_mem_nil,or_false,forall_eq_or_imp,forall_eq] at h hr
    first
      | rfl
      | simp only [h,hr]
def tmpsOf1 : Operand -> List Nat
 | .tmp t => [t]
 | _ => []
def tmpsOf (ops : List Oper) (o : Oper) : List Nat :=
 (match o.guard with | some (j,_) => (match (ops[j]?).bind (·.dst) with | some t => [t] | none => []) | none => []) ++ (opdsOf o.op).flatMap tmpsOf1
theorem qkT (tt : Tab) (Γ : FEnv) {env env' : Env} (ops : List Oper) (objs : Objs) (nx : Nat) (md : List Nat) (o : Oper) (K : V -> Objs -> Nat -> Option R) (h : ∀ t ∈ tmpsOf ops o,look .undef env t = look .undef env' t) :
  evGuard tt Γ ops env objs nx md o K = evGuard tt Γ ops env' objs nx md o K := by
 have h1 : evOp tt Γ env objs nx md o K = evOp tt Γ env' objs nx md o K := qol tt Γ objs nx md o K fun x hx => by
  cases x with
  | tmp t => exact h t (val _ (List.mem_flatMap.2 ⟨_,hx,by simp [tmpsOf1]⟩))
  | _ => rfl
 unfold evGuard
 unfold tmpsOf at h
 cases hg : o.guard with
 | none => exact h1
 | some p =>
  obtain ⟨j,want⟩ := p
  dsimp only
  rw [hg] at h
  dsimp only at h
  cases ht : (ops[j]?).bind (·.dst) with
  | none => rfl
  | some t =>
   rw [ht] at h
   dsimp only
   rw [h t (by simp),h1]
def dstIsNot : Option Tmp -> Nat -> Bool
 | some a,t => !Nat.beq a t
 | none,_ => true
def noSide (ds : List Nat) (i t : Nat) : Nat -> List Oper -> Bool
 | _,[] => true
 | j,o :: r => (match side ds i j with | true => dstIsNot o.dst t | false => true) && noSide ds i t (j + 1) r
def drawOK (ds : List Nat) (ops : List Oper) : Nat -> List Oper -> Bool
 | _,[] => true
 | i,o :: r => (tmpsOf ops o).all (fun t => noSide ds i t 0 ops) && drawOK ds ops (i + 1) r
theorem qlv {env : Env} {dst : Option Tmp} {t : Nat} (h : dst ≠ some t) (v : V) : look .undef (putE env dst v) t = look .undef env t := by
 cases dst with
 | none => rfl
 | some d =>
  show look .undef ((d,v) :: env) t = _
  rw [qau,if_neg (fun e => h (by rw [e]))]
theorem qhP {dst : Option Tmp} {t : Nat} (h : dstIsNot dst t = true) : dst ≠ some t := fun e => by subst e; simp [dstIsNot] at h
theorem qiq {ds : List Nat} {i t : Nat} : ∀ (l : List Oper) (j : Nat) (env : Env),noSide ds i t j l = true -> look .undef (hideE ds i j l env) t = look .undef env t
 | [],_,_,_ => rfl
 | o :: r,j,env,h => by
  simp only [noSide,vab] at h
  unfold hideE
  rw [qiq r (j + 1) _ h.2]
  cases hs : side ds i j with
  | true => rw [hs] at h; exact qlv (qhP h.1) _
  | false => rfl
theorem qjV {ds : List Nat} {i t : Nat} : ∀ {l : List Oper} {j k : Nat} {o : Oper},noSide ds i t j l = true -> l[k]? = some o -> o.dst = some t -> side ds i (j + k) = false
 | [],_,_,_,_,h,_ => by simp at h
 | x :: r,j,0,o,h,hk,hd => by
  simp only [noSide,vab] at h
  simp at hk; subst hk
  cases hs : side ds i j with
  | true => rw [hs] at h; exact absurd hd (qhP h.1)
  | false => simp
 | x :: r,j,k + 1,o,h,hk,hd => by
  simp only [noSide,vab] at h
  have := qjV (k := k) h.2 (by simpa using hk) hd
  rwa [show j + (k + 1) = j + 1 + k by omega]
theorem qir {p q : Nat -> Bool} {t : Nat} : ∀ (recs : List Rec) (j : Nat) (env env' : Env),look .undef env t = look .undef env' t -> (∀ k r,recs[k]? = some r -> r.dst = some t -> p (j + k) = q (j + k)) ->
  look .undef (envOn p j recs env) t = look .undef (envOn q j recs env') t
 | [],_,_,_,h,_ => h
 | r :: rs,j,env,env',h,hpq => by
  unfold envOn
  refine qir rs (j + 1) _ _ ?_ fun k r' hk hd => by
   have := hpq (k + 1) r' (by simpa using hk) hd
   rwa [show j + (k + 1) = j + 1 + k by omega] at this
  by_cases hd : r.dst = some t
  ·have e := hpq 0 r (by simp) hd
   rw [vay] at e
   rw [e]
   cases q j with
   | false => exact h
   | true =>
    dsimp only
    rw [hd]
    show look .undef ((t,r.v) :: env) t = look .undef ((t,r.v) :: env') t
    simp [qau]
  ·have e1 : ∀ (b : Bool) (env : Env),look .undef (match b with | true => putE env r.dst r.v | false => env) t = look .undef env t := fun b env => by cases b with | true => exact qlv hd _ | false => rfl
   exact (e1 _ _).trans (h.trans (e1 _ _).symm)
theorem qkh {ds : List Nat} : ∀ {l : List Oper} {i k : Nat},depsOK ds i l = true -> k < l.length -> nth 0 ds (i + k) < 1 <<< (i + k)
 | [],_,_,_,h => by simp at h
 | o :: r,i,k,h,hk => by
  unfold depsOK at h
  split at h
  rotate_left
  ·cases h
  rename_i hb
  simp only [vab] at hb
  cases k with
  | zero => simpa using hb.2
  | succ k =>
   have := qkh (k := k) h (by simpa using hk)
   rwa [show i + (k + 1) = i + 1 + k by omega]
theorem qoc {ds : List Nat} {ops : List Oper} (hdo : depsOK ds 0 ops = true) {i t : Nat} (hi : i < ops.length) (hn : noSide ds i t 0 ops = true) {recs : List Rec} (hr : recs.map (·.dst) = (ops.take i).map (·.dst)) (env0 : Env) :
  look .undef (hideE ds i 0 ops (envOn (dep ds i) 0 recs env0)) t = look .undef (envOn (fun _=>true) 0 recs env0) t := by
 rw [qiq _ _ _ hn]
 refine qir recs 0 _ _ rfl fun k r hk hd => ?_
 rw [vac]
 have hlen : recs.length = i := by
  have := congrArg List.length hr
  simpa [Nat.min_eq_left (Nat.le_of_lt hi)] using this
 have hki : k < i := by rw [<- hlen]; exact (vad.1 hk).1
 have hko : ∃ o,ops[k]? = some o /\ o.dst = some t := by
  have h1 : (recs.map (·.dst))[k]? = some (some t) := by rw [vaq,hk]; simp [hd]
  rw [hr,vaq,vaQ,if_pos hki] at h1
  cases ho : ops[k]? with
  | none => rw [ho] at h1; cases h1
  | some o => rw [ho] at h1; exact ⟨o,rfl,by simpa using h1⟩
 obtain ⟨o,ho,hod⟩ := hko
 have hs := qjV hn ho hod
 rw [vac] at hs
 have hlt := qkh (k := k) hdo (Nat.lt_trans hki hi)
 rw [vac,Nat.one_shiftLeft] at hlt
 have hz : dep ds k i = false := vaK (vap hlt (vaM (by omega) (Nat.le_of_lt hki)))
 unfold side at hs
 have hb : vae i k = false := by
  cases hb : vae i k with
  | false => rfl
  | true => have := vaa hb; omega
 rw [hb,hz] at hs
 simpa using hs
structure Crec where
 j : Nat
 ch : Objs
 lo : Nat
 hi : Nat
def crec (j : Nat) (r : Rec) : List Crec := match r.ch,vae r.lo r.hi with | [],true => [] | ch,_ => [⟨j,ch,r.lo,r.hi⟩]
def compress : Nat -> List Rec -> List Crec
 | _,[] => []
 | j,r :: rs => crec j r ++ compress (j + 1) rs
theorem qfM (r : Rec) : ∀ (rs : List Rec) (j : Nat),compress j (rs ++ [r]) = compress j rs ++ crec (j + rs.length) r
 | [],j => by simp [compress]
 | x :: rs,j => by
  simp only [vaX,compress,qfM r rs (j + 1),List.append_assoc,vaV]
  rw [show j + 1 + rs.length = j + (rs.length + 1) by omega]
theorem qoq {j : Nat} {r : Rec} (h : crec j r = []) : r.ch = [] /\ r.lo = r.hi := by
 unfold crec at h
 split at h
 ·rename_i h1 h2; exact ⟨h1,vaa h2⟩
 ·cases h
theorem qjk (j : Nat) (r : Rec) : (crec j r = [] /\ r.ch = [] /\ r.lo = r.hi) \/ crec j r = [⟨j,r.ch,r.lo,r.hi⟩] := by
 cases h : crec j r with
 | nil => exact .inl ⟨rfl,qoq h⟩
 | cons x l =>
  refine .inr ?_
  rw [<- h]
  unfold crec at h ⊢
  split
  ·rename_i h1 h2; rw [h1,h2] at h; cases h
  ·rfl
def objsC (p : Nat -> Bool) : List Crec -> Objs -> Objs
 | [],objs => objs
 | ⟨j,ch,_,_⟩ :: rs,objs => objsC p rs (match p j with | true => ch ++ objs | false => objs)
theorem qgU (p : Nat -> Bool) : ∀ (rs : List Rec) (j : Nat) (objs : Objs),objsC p (compress j rs) objs = objsOn p j rs objs
 | [],_,_ => rfl
 | r :: rs,j,objs => by
  unfold compress objsOn
  rcases qjk j r with ⟨h,h1,_⟩ | h
  ·rw [h,h1,vao,qgU p rs]
   cases p j <;> rfl
  ·rw [h]
   show objsC p (compress (j + 1) rs) _ = _
   rw [qgU p rs]
   rfl
def hmOf : Nat -> List (List Nat) -> List (Nat × List Nat)
 | _,[] => []
 | j,md :: r => match md with | [] => hmOf (j + 1) r | _ => (j,md) :: hmOf (j + 1) r
def hideC (ds : List Nat) (i : Nat) : List (Nat × List Nat) -> Objs -> Objs
 | [],objs => objs
 | (j,md) :: r,objs => hideC ds i r (match side ds i j with | true => md.map (fun o => (o,AObj.dead)) ++ objs | false => objs)
theorem qjc (ds : List Nat) (i : Nat) : ∀ (mds : List (List Nat)) (j : Nat) (objs : Objs),hideC ds i (hmOf j mds) objs = hideO ds i j mds objs
 | [],_,_ => rfl
 | [] :: r,j,objs => by
  unfold hmOf hideO
  rw [qjc ds i r]
  cases side ds i j <;> rfl
 | (x :: y) :: r,j,objs => by
  unfold hmOf hideO
  show hideC ds i (hmOf (j + 1) r) _ = _
  rw [qjc ds i r]
  rfl
def hideK (ds : List Nat) (i : Nat) : List Crec -> Objs -> Objs
 | [],objs => objs
 | ⟨j,ch,_,_⟩ :: rs,objs => hideK ds i rs (match side ds i j with | true => (ch.map (·.1)).map (fun o => (o,AObj.dead)) ++ objs | false => objs)
theorem qjb (ds : List Nat) (i : Nat) : ∀ (rs : List Rec) (j : Nat) (objs : Objs),hideK ds i (compress j rs) objs = hideO ds i j (rs.map fun r => r.ch.map (·.1)) objs
 | [],_,_ => rfl
 | r :: rs,j,objs => by
  unfold compress
  rw [vaJ]
  unfold hideO
  rcases qjk j r with ⟨h,h1,_⟩ | h
  ·rw [h,vao,qjb ds i rs,h1]
   cases side ds i j <;> rfl
  ·rw [h]
   show hideK ds i (compress (j + 1) rs) _ = _
   rw [qjb ds i rs]
   cases side ds i j <;> rfl
def seenC (ds : List Nat) (i : Nat) : List Crec -> Nat -> Bool
 | [],_ => false
 | ⟨j,_,lo,hi⟩ :: rs,o => (dep ds i j && vam lo o && vax o hi) || seenC ds i rs o
theorem qiQ (ds : List Nat) (i : Nat) (o : Nat) : ∀ (rs : List Rec) (j : Nat),seenC ds i (compress j rs) o = seenIn ds i j rs o
  | [],_ => rfl
  | r :: rs,j => by
    unfold compress seenIn
    rcases qjk j r with ⟨h,_,h2⟩ | h
    · rw [h,vao,qiQ ds i o rs,h2]
      have : (vam r.hi o && vax o r.hi) = false := by
        cases h1 : vam r.hi o with
        | false => rfl
        | true =>
          have := vaf h1
          cases h3 : vax o r.hi with
          | false => rfl
          | true => have := vaf h3; omega
      rw [Bool.and_assoc,this,Bool.and_false,Bool.false_or]
    · rw [h]
      show (_ || seenC ds i (compress (j + 1) rs) o) = _
      rw [qiQ ds i o rs]
def clashC (ds : List Nat) (nx0 i n : Nat) : List Crec -> Objs -> Bool
 | [],_ => true
 | ⟨j,ch',_,_⟩ :: rs,ch => (match ch.any fun c => ch'.any fun d => vae d.1 c.1 with
  | false => true
  | true => !side ds i j) && (match ch.any fun c => vam nx0 c.1 && ch'.any fun d => vae d.1 c.1 with
  | false => true
  | true => (vak n).all fun k => !dep ds k j || !side ds i k) && clashC ds nx0 i n rs ch
theorem qhT (ds : List Nat) (nx0 i n : Nat) (ch : Objs) : ∀ (rs : List Rec) (j : Nat),clashC ds nx0 i n (compress j rs) ch = clashOK ds nx0 i n j rs ch
 | [],_ => rfl
 | r :: rs,j => by
  unfold compress clashOK
  rcases qjk j r with ⟨h,h1,_⟩ | h
  ·rw [h,vao,qhT ds nx0 i n ch rs,h1]
   have : (ch.any fun c => ([] : Objs).any fun d => vae d.1 c.1) = false := by
    rw [vaS]; intro c _; simp
   have this2 : (ch.any fun c => vam nx0 c.1 && ([] : Objs).any fun d => vae d.1 c.1) = false := by
    rw [vaS]; intro c _; simp
   rw [this,this2]
   simp
  ·rw [h]
   show (_ && clashC ds nx0 i n (compress (j + 1) rs) ch) = _
   rw [qhT ds nx0 i n ch rs]
   rfl
def chC (ds : List Nat) (md : List Nat) (nx0 i n lo hi : Nat) (cr : List Crec) (v : V) (ch : Objs) : Bool :=
 match V.ids v,ch with
 | [],[] => vam lo hi
 | ids,ch =>
  let seen := fun o => vax o nx0 || (vam lo o && vax o hi) || seenC ds i cr o
  vam lo hi && ids.all seen && ch.all (fun c => seen c.1 && c.2.ids.all seen && (match vax c.1 nx0 with | true => elemB c.1 md | false => true)) && clashC ds nx0 i n cr ch
theorem qhS (ds : List Nat) (nx0 i n : Nat) : ∀ (rs : List Rec) (j : Nat),clashOK ds nx0 i n j rs [] = true
 | [],_ => rfl
 | r :: rs,j => by
  unfold clashOK
  rw [qhS ds nx0 i n rs]; rfl
theorem qpT (ds : List Nat) (md : List Nat) (nx0 i n lo hi : Nat) (rs : List Rec) (v : V) (ch : Objs) : chC ds md nx0 i n lo hi (compress 0 rs) v ch = chOK ds md nx0 i n lo hi rs v ch := by
 have hs : (fun o => vax o nx0 || (vam lo o && vax o hi) || seenC ds i (compress 0 rs) o) = seenB ds nx0 i lo hi rs := by
  funext o
  rw [qiQ]; rfl
 unfold chC chOK
 split
 ·rename_i h
  rw [h,qhS]; simp
 ·dsimp only
  rw [qhT]
  simp only [<- hs]
  rfl
def snocK {α : Type} : List Crec -> Crec -> (List Crec -> α) -> α
 | [],c,K => K [c]
 | x :: r,c,K => snocK r c fun l => K (x :: l)
theorem qlc {α : Type} : ∀ (l : List Crec) (c : Crec) (K : List Crec -> α),snocK l c K = K (l ++ [c])
 | [],_,_ => rfl
 | x :: r,c,K => by rw [snocK,qlc r]; rfl
def addC {α : Type} (cr : List Crec) (i : Nat) (ch : Objs) (nx nx' : Nat) (K : List Crec -> α) : α :=
 match ch,vae nx nx' with
 | [],true => K cr
 | ch,_ => snocK cr ⟨i,ch,nx,nx'⟩ K
theorem qpp {α : Type} (cr : List Crec) (i : Nat) (dst : Option Tmp) (v : V) (ch : Objs) (nx nx' : Nat) (K : List Crec -> α) : addC cr i ch nx nx' K = K (cr ++ crec i ⟨dst,v,ch,nx,nx'⟩) := by
 unfold addC crec
 dsimp only
 split
 ·simp
 ·rw [qlc]
def drawG (tt : Tab) (Γ : FEnv) (ops : List Oper) (ds : List Nat) (mds : List (List Nat)) (hm : List (Nat × List Nat)) (objs0 : Objs) (nx0 n : Nat) : List Oper -> Nat -> Env -> Nat -> List Crec -> (Env -> Objs -> Nat -> Option R) -> Option R
 | [],_,env,nx,cr,K => forceC (objsC (fun _=>true) cr objs0) fun objs => K env objs nx
 | o :: r,i,env,nx,cr,K =>
  forceC (hideK ds i cr (hideC ds i hm (objsC (dep ds i) cr objs0))) fun os =>
  andK (evGuard tt Γ ops env os nx (mdAt mds nx0 i nx) o (forceK enc)) (forceK fun v ch nx' =>
   match chC ds (nth [] mds i) nx0 i i nx nx' cr v ch with
   | true => litK (i + 1) fun i' => putK env o.dst v fun env => addC cr i ch nx nx' fun cr => drawG tt Γ ops ds mds hm objs0 nx0 n r i' env nx' cr K
   | false => none)
theorem qiw (p : Nat -> Bool) (r : Rec) : ∀ (rs : List Rec) (j : Nat) (env : Env),envOn p j (rs ++ [r]) env = (match p (j + rs.length) with | true => putE (envOn p j rs env) r.dst r.v | false => envOn p j rs env)
 | [],j,env => by simp only [envOn,vao,List.length_nil,vay]; rfl
 | x :: rs,j,env => by
  simp only [vaX,envOn]
  rw [qiw p r rs (j + 1),vaV,show j + 1 + rs.length = j + (rs.length + 1) by omega]
theorem qkf {ds : List Nat} {ops : List Oper} : ∀ {l : List Oper} {i k : Nat} {o : Oper},drawOK ds ops i l = true -> l[k]? = some o -> ∀ t ∈ tmpsOf ops o,noSide ds (i + k) t 0 ops = true
 | [],_,_,_,_,h => by simp at h
 | x :: r,i,0,o,h,hk => by
  simp only [drawOK,vab] at h
  simp at hk; subst hk
  exact fun t ht => vaj.1 h.1 t ht
 | x :: r,i,k + 1,o,h,hk => by
  simp only [drawOK,vab] at h
  have := qkf (k := k) h.2 (by simpa using hk)
  rwa [show i + 1 + k = i + (k + 1) by omega] at this
theorem qlM {tt : Tab} {Γ : FEnv} {ops : List Oper} {ds : List Nat} {mds : List (List Nat)} {hm : List (Nat × List Nat)} (hok : drawOK ds ops 0 ops = true) (hdo : depsOK ds 0 ops = true) (hhm : hmOf 0 mds = hm) (env0 : Env) (objs0 : Objs) (nx0 n : Nat) (K : Env -> Objs -> Nat -> Option R) : ∀ (l : List Oper) (i nx : Nat) (recs : List Rec) (env : Env),
  ops.drop i = l -> i <= ops.length -> recs.map (·.dst) = (ops.take i).map (·.dst) -> env = envOn (fun _=>true) 0 recs env0 ->
  drawG tt Γ ops ds mds hm objs0 nx0 n l i env nx (compress 0 recs) K = drawF tt Γ ops ds mds env0 objs0 nx0 n l i nx recs K
 | [],i,nx,recs,env,_,_,_,he => by
  unfold drawG drawF
  rw [qeE,qcl,qcl,qgU,he]
 | o :: l,i,nx,recs,env,hd,hle,hr,he => by
  have hk : ops[i]? = some o := by
   have := congrArg (·[0]?) hd
   simpa [vaR] using this
  have hi : i < ops.length := (vad.1 hk).1
  have hd' : ops.drop (i + 1) = l := by
   have := congrArg (List.drop 1) hd
   simpa [vaG,Nat.add_comm] using this
  have hvis : ∀ t ∈ tmpsOf ops o,look .undef env t = look .undef (hideE ds i 0 ops (envOn (dep ds i) 0 recs env0)) t := fun t ht => by
   have := qkf (k := i) hok hk t ht
   rw [vac] at this
   rw [qoc hdo hi this hr,he]
  have hlen : recs.length = i := by
   have := congrArg List.length hr
   simpa [Nat.min_eq_left hle] using this
  unfold drawG drawF
  rw [qeE,qcl,qcl,qgU,<- hhm,qjc,qjb,qkT tt Γ ops _ nx _ o _ hvis]
  congr 1
  rw [qeD,qeD]
  funext v ch nx'
  rw [qpT]
  generalize chOK ds (nth [] mds i) nx0 i i nx nx' recs v ch = b
  cases b with
  | false => rfl
  | true =>
   dsimp only
   rw [qcE,qcE,qmX,qpp _ i o.dst v]
   have hc : compress 0 recs ++ crec i ⟨o.dst,v,ch,nx,nx'⟩ = compress 0 (recs ++ [⟨o.dst,v,ch,nx,nx'⟩]) := by
    rw [qfM,vac,hlen]
   rw [hc]
   have := qlM (tt := tt) (Γ := Γ) (mds := mds) hok hdo hhm env0 objs0 nx0 n K l (i + 1) nx' (recs ++ [⟨o.dst,v,ch,nx,nx'⟩]) (putE env o.dst v) hd' hi (by
    rw [List.map_append,hr,List.take_add_one,hk]; simp) (by
    rw [qiw,he])
   rw [hhm]
   exact this
end
end Go.Vm

namespace Go.Vm
open Go
theorem br_t {c : Bool} {x y r : Option R} (h : c = true) (hx : x = r) : br c x y = r := by unfold br; simp [h,hx]
theorem br_f {c : Bool} {x y r : Option R} (h : c = false) (hy : y = r) : br c x y = r := by unfold br; simp [h,hy]
theorem req_e {a : Nat} {x r : Option R} (hx : x = r) : req (a = a) x = r := by unfold req; simp [hx]
theorem qbd {p : Prop} [Decidable p] {x r : Option R} (h : p) (hx : x = r) : req p x = r := by unfold req; simp [h,hx]
noncomputable def backK (tt : Tab) (Γ : FEnv) (live : Live) (base n : Nat) (c : Code) (K : Xt -> St -> Option R) : Xt -> St -> Option R
 | .normal,σ' => headF live base (loopG tt Γ live base n) c σ' K
 | e,σ' => leaveF live base c K e σ'
theorem qpe {tt : Tab} {Γ : FEnv} {live : Live} {base n : Nat} {c : Code} {σ : St} {K : Xt -> St -> Option R} {r : Option R}
  (h : ∀ B,B = backK tt Γ live base n c K -> blkF tt Γ (headF live base (loopG tt Γ live base n)) c σ B = r) : loopG tt Γ live base (n + 1) c σ K = r := by
 refine Eq.trans ?_ (h _ rfl)
 unfold loopG
 congr 1
def Sound (P : Program) (f : FuncId) (sp : FSpec) : Prop := Enters P f /\ ∀ args objs K r,sp.run args objs K = some r -> ∃ res objs',K res objs' = some r /\ FnOK P f args objs res objs'
theorem qac (P : Program) : EnvOK P (fun _=>none) := fun f sp h => by cases h
def addF (f : FuncId) (sp : FSpec) (Γ : FEnv) : FEnv := fun g => match vae g f with | true => some sp | false => Γ g
theorem qaa {P : Program} {f : FuncId} {sp : FSpec} {Γ : FEnv} (h : Sound P f sp) (hΓ : EnvOK P Γ) : EnvOK P (addF f sp Γ) := fun g sp' hg => by
 unfold addF at hg
 split at hg
 ·rename_i hb
  have : g = f := vaa hb
  subst this
  cases hg
  exact h
 ·exact hΓ g sp' hg
end Go.Vm

namespace Go.Vm
open Go
noncomputable section
variable {α β τ : Type}
@[irreducible] def bindO (x : Option τ) (f : τ -> Option R) : Option R := match x with | some a => f a | none => none
theorem qiA {x : Option τ} {f : τ -> Option R} {r : R} (h : bindO x f = some r) : ∃ a,x = some a /\ f a = some r := by
 unfold bindO at h
 cases x with
 | none => cases h
 | some a => exact ⟨a,rfl,h⟩
theorem qg1 {x : Option τ} {f : τ -> Option R} {a : τ} (h : x = some a) : bindO x f = f a := by unfold bindO; rw [h]
section
variable {g : τ -> Option R}
theorem qcr {p : Prop} [i1 : Decidable p] [i2 : Decidable p] {X : Option R} {A : Option τ} (h : p -> X = bindO A g) : @req p i1 X = bindO (@ite _ p i2 A none) g := by
 unfold req
 by_cases hp : p
 ·rw [if_pos hp,if_pos hp]; exact h hp
 ·rw [if_neg hp,if_neg hp]; unfold bindO; rfl
theorem br_c {c : Bool} {X Y : Option R} {A B : Option τ} (h1 : c = true -> X = bindO A g) (h2 : c = false -> Y = bindO B g) : br c X Y = bindO (if c = true then A else B) g := by
 unfold br
 cases c with
 | true => simpa using h1 rfl
 | false => simpa using h2 rfl
theorem br_d {p : Prop} [i1 : Decidable p] [i2 : Decidable p] {X Y : Option R} {A B : Option τ} (h1 : @decide p i1 = true -> X = bindO A g) (h2 : @decide p i1 = false -> Y = bindO B g) : br (@decide p i1) X Y = bindO (@ite _ p i2 A B) g := by
 unfold br
 by_cases hp : p
 ·rw [if_pos (by simpa using hp),if_pos hp]; exact h1 (by simpa using hp)
 ·rw [if_neg (by simpa using hp),if_neg hp]; exact h2 (by simpa using hp)
theorem qcz {x : Option α} {F : α -> Option R} {A : α -> Option τ} (h : ∀ t,F t = bindO (A t) g) : bindO x F = bindO (x.bind A) g := by
 unfold bindO at *
 cases x with
 | none => rfl
 | some a => exact h a
theorem qco {F1 : α -> Option R} {F2 : β -> Option R} {A1 : α -> Option τ} {A2 : β -> Option τ} {t : α ⊕ β} (h1 : ∀ x,F1 x = bindO (A1 x) g) (h2 : ∀ x,F2 x = bindO (A2 x) g) : Sum.elim F1 F2 t = bindO (Sum.elim A1 A2 t) g := by
 cases t with
 | inl x => exact h1 x
 | inr x => exact h2 x
theorem qcq {X : Option R} {a : τ} (h : X = g a) : X = bindO (some a) g := by rw [h,qg1 rfl]
theorem qaR : (none : Option R) = bindO none g := by unfold bindO; rfl
end
theorem qpU {X Y r : Option R} (h1 : X = r) (h2 : Y = r) : both X Y = r := by unfold both; rw [h1,h2,if_pos rfl]
theorem qbO {x : Option α} {F : α -> Option R} {K : V -> Objs -> Nat -> Option R} {r : Option R} (h : bindO x (fun t => andK (F t) K) = r) : andK (bindO x F) K = r := by
 rw [<- h]
 unfold bindO
 cases x with
 | none => unfold andK; rfl
 | some a => rfl
theorem qa2 {p : Prop} [i1 : Decidable p] {X : Option R} {K : V -> Objs -> Nat -> Option R} {r : Option R} (h : req p (andK X K) = r) : andK (req p X) K = r := by
 rw [<- h]
 unfold req
 by_cases hp : p
 ·rw [if_pos hp,if_pos hp]
 ·rw [if_neg hp,if_neg hp]; unfold andK; rfl
theorem qbe {c : Bool} {X Y : Option R} {K : V -> Objs -> Nat -> Option R} {r : Option R} (h : br c (andK X K) (andK Y K) = r) : andK (br c X Y) K = r := by
 rw [<- h]
 unfold br
 cases c <;> rfl
theorem qaN {K : V -> Objs -> Nat -> Option R} {r : Option R} (h : none = r) : andK none K = r := by rw [<- h]; unfold andK; rfl
abbrev CK := Xt -> St -> Option R
abbrev OK3 := V -> Objs -> Nat -> Option R
abbrev EK := Env -> Objs -> Nat -> Option R
def afterK (tt : Tab) (Γ : FEnv) (L : LoopF) (b : Code) (K : CK) : CK
 | .normal,σ' => blkF tt Γ L b σ' K
 | e,σ' => K e σ'
def blockK (id : Nat) (K : CK) : CK
 | .exit id',σ' => match vae id' id with | true => K .normal σ' | false => K (.exit id') σ'
 | e,σ' => K e σ'
def regK (n : Nat) (K : CK) : EK := fun env objs nx => K .normal ⟨env,objs,nx,n⟩
def opK (tt : Tab) (Γ : FEnv) (ops : List Oper) (n : Nat) (dst : Option Tmp) (l : List Oper) (env : Env) (objs : Objs) (K : EK) : OK3 :=
 forceK fun v ch nx => putK env dst v fun env => appF ch objs fun objs => seqF tt Γ ops n l env objs nx K
def drawK (tt : Tab) (Γ : FEnv) (ops : List Oper) (ds : List Nat) (mds : List (List Nat)) (hm : List (Nat × List Nat)) (objs0 : Objs) (nx0 n : Nat) (dst : Option Tmp) (l : List Oper) (i : Nat) (env : Env) (nx : Nat) (cr : List Crec) (K : EK) : OK3 :=
 forceK fun v ch nx' =>
  match chC ds (nth [] mds i) nx0 i i nx nx' cr v ch with
  | true => litK (i + 1) fun i' => putK env dst v fun env => addC cr i ch nx nx' fun cr => drawG tt Γ ops ds mds hm objs0 nx0 n l i' env nx' cr K
  | false => none
def finK (tt : Tab) (live : Live) (base : Nat) (results : List ResultVar) : CK := fun e σ => seenF (live endKey).ch σ fun σ => finF tt base results e σ
structure Seals where
 blk : Tab -> FEnv -> LoopF -> Code -> St -> CK -> Option R
 seq : Tab -> FEnv -> List Oper -> Nat -> List Oper -> Env -> Objs -> Nat -> EK -> Option R
 after : Tab -> FEnv -> LoopF -> Code -> CK -> CK
 block : Nat -> CK -> CK
 reg : Nat -> CK -> EK
 op : Tab -> FEnv -> List Oper -> Nat -> Option Tmp -> List Oper -> Env -> Objs -> EK -> OK3
 draw : Tab -> FEnv -> List Oper -> List Nat -> List (List Nat) -> List (Nat × List Nat) -> Objs -> Nat -> Nat -> List Oper -> Nat -> Env -> Nat -> List Crec -> EK -> Option R
 dk : Tab -> FEnv -> List Oper -> List Nat -> List (List Nat) -> List (Nat × List Nat) -> Objs -> Nat -> Nat -> Option Tmp -> List Oper -> Nat -> Env -> Nat -> List Crec -> EK -> OK3
 lp : Tab -> FEnv -> Live -> Nat -> Nat -> LoopF
 hd : Tab -> FEnv -> Live -> Nat -> Nat -> LoopF
 back : Tab -> FEnv -> Live -> Nat -> Nat -> Code -> CK -> CK
 fin : Tab -> Live -> Nat -> List ResultVar -> CK
 blk_eq : blk = blkF
 seq_eq : seq = seqF
 after_eq : after = afterK
 block_eq : block = blockK
 reg_eq : reg = regK
 op_eq : op = opK
 draw_eq : draw = drawG
 dk_eq : dk = drawK
 lp_eq : lp = loopG
 hd_eq : hd = fun tt Γ live base n => headF live base (loopG tt Γ live base n)
 back_eq : back = backK
 fin_eq : fin = finK
def seals : Seals := ⟨blkF,seqF,afterK,blockK,regK,opK,drawG,drawK,loopG,_,backK,finK,rfl,rfl,rfl,rfl,rfl,rfl,rfl,rfl,rfl,rfl,rfl,rfl⟩
section
variable {tt : Tab} {Γ : FEnv} {L : LoopF} {K : CK} {r : Option R} {σ : St} (S : Seals)
theorem Seals.skip (h : K .normal σ = r) : S.blk tt Γ L .skip σ K = r := by rw [S.blk_eq]; exact h
theorem Seals.exit {id : Nat} (h : K (.exit id) σ = r) : S.blk tt Γ L (.exit id) σ K = r := by rw [S.blk_eq]; exact h
theorem Seals.ret (h : K .ret σ = r) : S.blk tt Γ L .ret σ K = r := by rw [S.blk_eq]; exact h
theorem Seals.loop {live : Live} {base n : Nat} {c : Code} (h : (seenF (live (firstReg c)).ch σ fun σ => normF base (live (firstReg c)).h σ fun σ => S.lp tt Γ live base n c σ K) = r) : S.blk tt Γ (S.hd tt Γ live base n) (.loop c) σ K = r := by
 rw [S.lp_eq] at h
 rw [S.blk_eq,S.hd_eq]; exact h
theorem Seals.two {a b : Code} (h : S.blk tt Γ L a σ (S.after tt Γ L b K) = r) : S.blk tt Γ L (.seq a b) σ K = r := by rw [S.blk_eq,S.after_eq] at h; rw [S.blk_eq]; exact h
theorem Seals.blok {id : Nat} {c : Code} (h : S.blk tt Γ L c σ (S.block id K) = r) : S.blk tt Γ L (.block id c) σ K = r := by rw [S.blk_eq,S.block_eq] at h; rw [S.blk_eq]; exact h
theorem Seals.cond {c : Operand} {a b : Code} {env : Env} {objs : Objs} {nx n : Nat} {x : Bool} (hc : evalO env c = .b x) (h : br x (S.blk tt Γ L a ⟨env,objs,nx,n⟩ K) (S.blk tt Γ L b ⟨env,objs,nx,n⟩ K) = r) : S.blk tt Γ L (.cond c a b) ⟨env,objs,nx,n⟩ K = r := by
 rw [S.blk_eq] at h ⊢
 unfold blkF
 dsimp only
 rw [hc]
 exact h
theorem Seals.region {id : Nat} {ops : Array Oper} {env : Env} {objs : Objs} {nx n : Nat} (hok : ops.toList.all (fun o => okDst n o.dst) = true) (h : S.seq tt Γ ops.toList n ops.toList env objs nx (S.reg n K) = r) : S.blk tt Γ L (.region id ops false) ⟨env,objs,nx,n⟩ K = r := by
 rw [S.seq_eq,S.reg_eq] at h
 rw [S.blk_eq]
 refine Eq.trans ?_ h
 show regionF tt Γ ops.toList false env objs nx n (regK n K) = _
 unfold regionF
 rw [hok]
theorem Seals.region_d {id : Nat} {ops : Array Oper} {env : Env} {objs : Objs} {nx n : Nat} {ds : List Nat} {mds : List (List Nat)} {hm : List (Nat × List Nat)} (hst : (ops.toList.all (fun o => okDst n o.dst) && (apartOK ds ops.toList ops.toList.length ops.toList.length && depsOK ds 0 ops.toList) && drawOK ds ops.toList 0 ops.toList) = true) (hds : depsOf ops.toList [] = ds) (hhm : hmOf 0 mds = hm) (hm' : ops.toList.map (mdOf objs (peekE tt objs ops.toList env)) = mds)
  (h : S.draw tt Γ ops.toList ds mds hm objs nx n ops.toList 0 env nx [] (S.reg n K) = r) : S.blk tt Γ L (.region id ops true) ⟨env,objs,nx,n⟩ K = r := by
 rw [S.draw_eq,S.reg_eq] at h
 rw [S.blk_eq]
 refine Eq.trans ?_ h
 simp only [vab] at hst
 obtain ⟨⟨h1,h2,h3⟩,h4⟩ := hst
 show regionF tt Γ ops.toList true env objs nx n (regK n K) = _
 unfold regionF
 rw [h1]
 dsimp only
 rw [hds,h2,h3,hm']
 exact (qlM h4 h3 hhm env objs nx n (regK n K) ops.toList 0 nx [] env rfl (Nat.zero_le _) rfl rfl).symm
section
variable {ops : List Oper} {ds : List Nat} {mds : List (List Nat)} {hm : List (Nat × List Nat)} {objs0 : Objs} {nx0 n : Nat} {l : List Oper} {i nx : Nat} {env : Env} {cr : List Crec} {K : EK}
theorem Seals.draw_op {o : Oper}
  (h : (forceC (hideK ds i cr (hideC ds i hm (objsC (dep ds i) cr objs0))) fun os =>
  andK (evGuard tt Γ ops env os nx (mdAt mds nx0 i nx) o (forceK enc)) (S.dk tt Γ ops ds mds hm objs0 nx0 n o.dst l i env nx cr K)) = r) : S.draw tt Γ ops ds mds hm objs0 nx0 n (o :: l) i env nx cr K = r := by
 rw [S.dk_eq] at h
 rw [S.draw_eq]
 exact h
theorem Seals.dk_n {dst : Option Tmp} {v : V} {ch : Objs} {nx' : Nat}
  (h : (forceK (fun v ch nx' =>
  match chC ds (nth [] mds i) nx0 i i nx nx' cr v ch with
  | true => litK (i + 1) fun i' => putK env dst v fun env => addC cr i ch nx nx' fun cr => S.draw tt Γ ops ds mds hm objs0 nx0 n l i' env nx' cr K
  | false => none) v ch nx') = r) : andK (enc v ch nx') (S.dk tt Γ ops ds mds hm objs0 nx0 n dst l i env nx cr K) = r := by
 rw [S.draw_eq] at h
 rw [qov,S.dk_eq]
 exact h
theorem Seals.draw_nil
  (h : (forceC (objsC (fun _=>true) cr objs0) fun objs => K env objs nx) = r) : S.draw tt Γ ops ds mds hm objs0 nx0 n [] i env nx cr K = r := by
 rw [S.draw_eq]
 exact h
end
theorem Seals.after_n {b : Code} (h : S.blk tt Γ L b σ K = r) : S.after tt Γ L b K .normal σ = r := by rw [S.blk_eq] at h; rw [S.after_eq]; exact h
theorem Seals.after_x {b : Code} {id : Nat} (h : K (.exit id) σ = r) : S.after tt Γ L b K (.exit id) σ = r := by rw [S.after_eq]; exact h
theorem Seals.after_r {b : Code} (h : K .ret σ = r) : S.after tt Γ L b K .ret σ = r := by rw [S.after_eq]; exact h
theorem Seals.block_n {id : Nat} (h : K .normal σ = r) : S.block id K .normal σ = r := by rw [S.block_eq]; exact h
theorem Seals.block_r {id : Nat} (h : K .ret σ = r) : S.block id K .ret σ = r := by rw [S.block_eq]; exact h
theorem Seals.block_x {id id' : Nat} (h : (match vae id' id with | true => K .normal σ | false => K (.exit id') σ) = r) : S.block id K (.exit id') σ = r := by rw [S.block_eq]; exact h
theorem Seals.reg_n {env : Env} {objs : Objs} {nx n : Nat} (h : K .normal ⟨env,objs,nx,n⟩ = r) : S.reg n K env objs nx = r := by rw [S.reg_eq]; exact h
theorem Seals.seq_nil {ops : List Oper} {n : Nat} {env : Env} {objs : Objs} {nx : Nat} {K : EK} (h : K env objs nx = r) : S.seq tt Γ ops n [] env objs nx K = r := by rw [S.seq_eq]; exact h
theorem Seals.seq_op {ops : List Oper} {n : Nat} {o : Oper} {l : List Oper} {env : Env} {objs : Objs} {nx : Nat} {K : EK} (hok : okDst n o.dst = true) (h : evGuard tt Γ ops env objs nx (vak nx) o (S.op tt Γ ops n o.dst l env objs K) = r) : S.seq tt Γ ops n (o :: l) env objs nx K = r := by
 rw [S.op_eq] at h
 rw [S.seq_eq]
 unfold seqF
 rw [hok]
 exact h
theorem Seals.op_n {ops : List Oper} {n : Nat} {dst : Option Tmp} {l : List Oper} {env : Env} {objs : Objs} {nx : Nat} {K : EK} {v : V} {ch : Objs} (h : (forceK fun v ch nx => putK env dst v fun env => appF ch objs fun objs => S.seq tt Γ ops n l env objs nx K) v ch nx = r) : S.op tt Γ ops n dst l env objs K v ch nx = r := by rw [S.seq_eq] at h; rw [S.op_eq]; exact h
section
variable {live : Live} {base n : Nat} {c : Code}
theorem Seals.lp_zero : S.lp tt Γ live base 0 c σ K = none := by rw [S.lp_eq]; rfl
theorem Seals.lp_succ (h : S.blk tt Γ (S.hd tt Γ live base n) c σ (S.back tt Γ live base n c K) = r) : S.lp tt Γ live base (n + 1) c σ K = r := by
 rw [S.blk_eq,S.hd_eq,S.back_eq] at h
 rw [S.lp_eq]
 exact qpe fun B hB => by rw [hB]; exact h
theorem Seals.back_n (h : (seenF (live (firstReg c)).ch σ fun σ => normF base (live (firstReg c)).h σ fun σ => S.lp tt Γ live base n c σ K) = r) : S.back tt Γ live base n c K .normal σ = r := by
 rw [S.lp_eq] at h; rw [S.back_eq]; exact h
theorem Seals.back_x {id : Nat} (h : (seenF (live (firstReg c)).co σ fun σ => normF base (live (firstReg c)).o σ fun σ => K (.exit id) σ) = r) : S.back tt Γ live base n c K (.exit id) σ = r := by rw [S.back_eq]; exact h
theorem Seals.back_r (h : (seenF (live (firstReg c)).co σ fun σ => normF base (live (firstReg c)).r σ fun σ => K .ret σ) = r) : S.back tt Γ live base n c K .ret σ = r := by rw [S.back_eq]; exact h
end
theorem Seals.fin_r {live : Live} {base : Nat} {rs : List ResultVar} (h : (seenF (live endKey).ch σ fun σ => finF tt base rs .ret σ) = r) : S.fin tt live base rs .ret σ = r := by rw [S.fin_eq]; exact h
theorem Seals.run_s {live : Live} {fn : Func} {n : Nat} {args : List V} {objs : List AObj} {c : Code} (hle : vam args.length fn.ntmps = true) (hb : fn.body = some c)
  (h : S.blk tt Γ (S.hd tt Γ live objs.length n) c ⟨argSlots 0 args,(vak objs.length).zip objs,objs.length,fn.ntmps⟩ (S.fin tt live objs.length fn.results.toList) = r) : runF tt Γ live fn n args objs = r := by
 rw [S.blk_eq,S.hd_eq,S.fin_eq] at h
 unfold runF
 rw [hle,hb]
 exact h
end
def Cnv (v v' : V) : Prop := ∀ c : Ctx,(∀ b,c.SB b -> c.SA b) -> ∀ u,Rel c v u -> Rel c v' u
def CnvL (v v' : List V) : Prop := ∀ c : Ctx,(∀ b,c.SB b -> c.SA b) -> ∀ u,RelL c v u -> RelL c v' u
theorem qoE : CnvL [] [] := fun _ _ _ h => h
theorem qel {v v' : V} {vs vs' : List V} (h1 : Cnv v v') (h2 : CnvL vs vs') : CnvL (v :: vs) (v' :: vs') := fun c hs us ⟨u,us',e,h3,h4⟩ => ⟨u,us',e,h1 c hs u h3,h2 c hs us' h4⟩
theorem qhd {v : V} : Cnv v v := fun _ _ _ h => h
theorem qo4 {vs vs' : List V} (h : CnvL vs vs') : Cnv (.agg vs) (.agg vs') := fun c hs _ ⟨us,e,hl⟩ => ⟨us,e,h c hs us hl⟩
theorem qo3 {t : Ty} {l : List t.den} : Cnv (.dat t l false) (.dat t l true) := fun c hs u ⟨a,n,k,e,hr⟩ => by
 have hk : Kept c.w c.w c.SA c.SB := ⟨vas _,fun b hb _ => ⟨rfl,fun h => hb (hs b h)⟩⟩
 exact ⟨a,n,k,e,hr.mono hk (fun _ _ h => h)⟩
def listB (t : Ty) (bor : Bool) (v : V) (K : List t.den -> Option R) : Option R :=
 match v with
 | .nilsl => K []
 | .dat e l b => if h : e = t then (match b,bor with | true,false => none | _,_ => K (castL h l)) else none
 | _ => none
theorem qis {t : Ty} {bor : Bool} {v : V} {K : List t.den -> Option R} {r : R} (h : listB t bor v K = some r) : ∃ l,K l = some r /\ Cnv v (.dat t l bor) := by
 unfold listB at h
 split at h
 ·exact ⟨[],h,fun c _ u hr => by cases hr; exact ⟨none,0,0,rfl,rfl,vas _,[],rfl,.inl rfl⟩⟩
 ·rename_i e l b
  split at h
  ·rename_i he
   subst he
   cases b <;> cases bor
   ·exact ⟨l,h,qhd⟩
   ·exact ⟨l,h,qo3⟩
   ·cases h
   ·exact ⟨l,h,qhd⟩
  ·cases h
 ·cases h
def rowK (t : Ty) (fz : Bool) (o : AObj) (K : List t.den -> Option R) : Option R :=
 match o with
 | .row e l f => if h : e = t then (match f,fz with | true,true => K (castL h l) | false,false => K (castL h l) | _,_ => none) else none
 | _ => none
theorem qmS {t : Ty} {fz : Bool} {o : AObj} {K : List t.den -> Option R} {r : R} (h : rowK t fz o K = some r) : ∃ l,K l = some r /\ o = .row t l fz := by
 unfold rowK at h
 split at h
 ·rename_i e l f
  split at h
  ·rename_i he
   subst he
   cases f <;> cases fz
   ·exact ⟨l,h,rfl⟩
   ·cases h
   ·cases h
   ·exact ⟨l,h,rfl⟩
  ·cases h
 ·cases h
def mapK (ka : Bool) (k : Ty) (ea : Bool) (e : Ty) (o : AObj) (K : List (k.den × e.den) -> Option R) : Option R :=
 match o with
 | .ext (.map a k' b e' xs) => if h : a = ka /\ k' = k /\ b = ea /\ e' = e then K (h.2.1 ▸ h.2.2.2 ▸ xs) else none
 | _ => none
theorem qnc {ka : Bool} {k : Ty} {ea : Bool} {e : Ty} {o : AObj} {K : List (k.den × e.den) -> Option R} {r : R} (h : mapK ka k ea e o K = some r) : ∃ l,K l = some r /\ o = .ext (.map ka k ea e l) := by
 unfold mapK at h
 split at h
 ·split at h
  ·rename_i hh
   obtain ⟨rfl,rfl,rfl,rfl⟩ := hh
   exact ⟨_,h,rfl⟩
  ·cases h
 ·cases h
def ndK (e : Ty) (v : V) (K : Bool -> List e.den -> Option R) : Option R :=
 match v with
 | .nd nl e' xs => if h : e' = e then K nl (castL h xs) else none
 | _ => none
theorem qn9 {e : Ty} {v : V} {K : Bool -> List e.den -> Option R} {r : R} (h : ndK e v K = some r) : ∃ nl l,K nl l = some r /\ v = .nd nl e l := by
 unfold ndK at h
 split at h
 ·split at h
  ·rename_i hh
   subst hh
   exact ⟨_,_,h,rfl⟩
  ·cases h
 ·cases h
def nestK (d : DTy) (o : AObj) (K : List d.den -> Option R) : Option R :=
 match o with
 | .nest (.row d' xs) => if h : d' = d then K (castD h xs) else none
 | _ => none
theorem ql7 {d : DTy} {o : AObj} {K : List d.den -> Option R} {r : R} (h : nestK d o K = some r) : ∃ l,K l = some r /\ o = .nest (.row d l) := by
 unfold nestK at h
 split at h
 ·split at h
  ·rename_i hh
   subst hh
   exact ⟨_,h,rfl⟩
  ·cases h
 ·cases h
def datK (t : Ty) (bor : Bool) (v : V) (K : List t.den -> Option R) : Option R :=
 match v with
 | .dat e l b => if h : e = t then (match b,bor with | true,true => K (castL h l) | false,false => K (castL h l) | _,_ => none) else none
 | _ => none
theorem qnu {t : Ty} {bor : Bool} {v : V} {K : List t.den -> Option R} {r : R} (h : datK t bor v K = some r) : ∃ l,K l = some r /\ v = .dat t l bor := by
 unfold datK at h
 split at h
 ·rename_i e l f
  split at h
  ·rename_i he
   subst he
   cases f <;> cases bor
   ·exact ⟨l,h,rfl⟩
   ·cases h
   ·cases h
   ·exact ⟨l,h,rfl⟩
  ·cases h
 ·cases h
theorem FnOK.args2 {P : Program} {f : FuncId} {args args' : List V} {objs : List AObj} {res : V} {objs' : List AObj} (h : CnvL args args') (hf : FnOK P f args' objs res objs') : FnOK P f args objs res objs' := fun c vs h1 h2 h3 => hf c vs h1 h2 (h c h2.sub vs h3)
section
variable {g : τ -> Option R}
theorem qcw {X Y r : Option R} (h : X = r) : br true X Y = r := by unfold br; exact h
theorem qcx {X Y r : Option R} (h : Y = r) : br false X Y = r := by unfold br; exact h
theorem qcv {p : Prop} [i1 : Decidable p] [i2 : Decidable p] {X Y : Option R} {A B : Option τ} (h1 : (!@decide p i1) = true -> X = bindO B g) (h2 : (!@decide p i1) = false -> Y = bindO A g) : br (!@decide p i1) X Y = bindO (@ite _ p i2 A B) g := by
 unfold br
 by_cases hp : p
 ·rw [if_neg (by simpa using hp),if_pos hp]; exact h2 (by simpa using hp)
 ·rw [if_pos (by simpa using hp),if_neg hp]; exact h1 (by simpa using hp)
theorem br_n {c : Bool} {X Y : Option R} {A B : Option τ} (h1 : (!c) = true -> X = bindO B g) (h2 : (!c) = false -> Y = bindO A g) : br (!c) X Y = bindO (if c = true then A else B) g := by
 unfold br
 cases c with
 | true => simpa using h2 rfl
 | false => simpa using h1 rfl
end
end
end Go.Vm

namespace Go.Vm
open Go
def Ty.bytes : Ty -> Nat
 | .int k => k.bits / 8
 | .bool => 1
 | .str => 16
 | .sl _ => 24
 | .unit => 0
 | .pair a b => a.bytes + b.bytes
def Fit : (t : Ty) -> t.den -> Prop
 | .int k,n => (Lit.int k n).wf = true
 | .bool,_ => True
 | .str,s => s.size <= 140737488351232
 | .sl e,l => l.length * e.bytes <= 140737488351232 /\ ∀ x ∈ l,Fit e x
 | .unit,_ => True
 | .pair a b,x => Fit a x.1 /\ Fit b x.2
mutual
def tyB (P : Program) : Nat -> Ty -> TypeId -> Bool
 | 0,_,_ => false
 | n + 1,ty,t => match P.underlying t with
  | some (.int k) => match ty with | .int k' => k == k' | _ => false
  | some .bool => match ty with | .bool => true | _ => false
  | some .string => match ty with | .str => true | _ => false
  | some (.slice et) => match ty with | .sl e => tyB P n e et && vae (P.cellsOf et) e.size && vam e.bytes (P.bytesOf et) && vax 0 e.size | _ => false
  | some (.struct fs) => fldB P n ty fs.toList 0 && vae (P.cellsOf t) ty.size
  | _ => false
def fldB (P : Program) : Nat -> Ty -> List Field -> Nat -> Bool
 | 0,_,_,_ => false
 | n + 1,ty,fs,off => match fs with
  | [] => false
  | [f] => tyB P n ty f.type && vae f.offset off && vae (P.cellsOf f.type) ty.size
  | f :: r => match ty with
   | .pair a b => tyB P n a f.type && vae f.offset off && vae (P.cellsOf f.type) a.size && fldB P n b r (off + a.size)
   | _ => false
end
section
variable {H : Type} {enc : TypeId × Value -> H} {P : Program} {w : World}
abbrev S0 : Nat -> Prop := fun _=>False
theorem qeR {e : TypeId} : ∀ {l : List (DataW H)} {d : DataW H} {m : Nat},d ∈ l -> m ∈ d.weights P e -> m ∈ DataW.weightsAll P e l
 | [],_,_,h,_ => by cases h
 | x :: r,d,m,h,hm => by
  unfold DataW.weightsAll
  rcases van.1 h with rfl | h
  ·exact vaA _ hm
  ·exact val _ (qeR h hm)
theorem qmR {e : Ty} (hpos : 0 < e.size) {a : Addr} {cs : Nat} (hcs : cs = e.size) : ∀ (n : Nat),(∀ i,i < n -> ∃ c d,w.cells? 0 (a.add (i * cs)) cs = some c /\ Cells w S0 e d c /\ Fit e d) ->
  ∃ (xs : List e.den) (cells : List Value),xs.length = n /\ CellsL (Cells w S0 e) xs cells /\ cells.length = n * cs /\ (∀ (j : Nat) u,cells[j]? = some u -> w.cell? (a.add j) = some u) /\ ∀ x ∈ xs,Fit e x
 | 0,_ => ⟨[],[],rfl,rfl,by simp,fun j u h => by simp at h,fun x hx => by cases hx⟩
 | n + 1,h => by
  obtain ⟨xs,cells,h1,h2,h3,h4,h5⟩ := qmR hpos hcs n fun i hi => h i (by omega)
  obtain ⟨c,d,hc,hd,hf⟩ := h n (by omega)
  obtain ⟨_,hlen,hcell⟩ := World.cells?_some hc
  refine ⟨xs ++ [d],cells ++ c,by simp [h1],CellsL.append _ _ _ _ h2 ⟨c,[],by simp,hd,rfl⟩,by rw [List.length_append,h3,hlen,Nat.succ_mul],fun j u hu => ?_,fun x hx => ?_⟩
  ·by_cases hj : j < cells.length
   ·rw [vaF hj] at hu; exact h4 j u hu
   ·rw [List.getElem?_append_right (by omega)] at hu
    have hjc : j - cells.length < c.length := (vad.1 hu).1
    have := hcell (j - cells.length) (by omega)
    rw [hu] at this
    rw [<- this,Addr.add_add]
    congr 2
    omega
  ·rcases vaw.1 hx with hx | hx
   ·exact h5 x hx
   ·simp at hx; subst hx; exact hf
mutual
theorem qeI : ∀ (n : Nat) (ty : Ty) (t : TypeId),tyB P n ty t = true -> ∀ {held : Bool} {fuel : Nat} {cs : List Value} {x : DataW H × List MemPlace},DataW.trod enc P w 0 (fun _=>true) held fuel t cs = some x -> (∀ m ∈ x.1.weights P t,m <= reachBytes) ->
  ∃ d : ty.den,Cells w S0 ty d cs /\ Fit ty d
 | 0,_,_,h,_,_,_,_,_,_ => by simp [tyB] at h
 | n + 1,ty,t,h,held,fuel,cs,x,hx,hw => by
  unfold tyB at h
  split at h
  ·rename_i k hu
   split at h
   ·rename_i k'
    have : k = k' := by simpa using h
    subst this
    obtain ⟨m,rfl,_,hwf⟩ := DataW.trod_int hu hx
    exact ⟨m,rfl,hwf⟩
   ·cases h
  ·rename_i hu
   split at h
   ·obtain ⟨b,rfl,_⟩ := DataW.trod_bool hu hx
    exact ⟨b,rfl,trivial⟩
   ·cases h
  ·rename_i hu
   split at h
   ·obtain ⟨s,rfl,rfl,_⟩ := DataW.trod_string hu hx
    refine ⟨s,rfl,?_⟩
    have := hw s.data.toList.length (by simp [DataW.weights])
    show s.size <= 140737488351232
    simpa [reachBytes] using this
   ·cases h
  ·rename_i et hu
   split at h
   ·rename_i e
    simp only [vab] at h
    obtain ⟨⟨⟨h1,h2⟩,h3⟩,h4⟩ := h
    have h2 := vaa h2
    have h3 := vaf h3
    have h4 : 0 < e.size := vaf h4
    rcases DataW.trod_slice hu hx with ⟨rfl,_⟩ | ⟨a,len,cap,elems,rest,m,_,rfl,rfl,hb,hl,hm,hlen,hel,hsp,hns⟩
    ·exact ⟨([] : List e.den),⟨none,0,0,rfl,rfl,vas _,[],rfl,.inl rfl⟩,by simp,fun x hx => by cases hx⟩
    ·have hrows := qmR (w := w) (e := e) h4 (a := a) h2 len fun i hi => by
      have hi' := hel i hi
      have hie : i < elems.length := by omega
      rw [vaI hie,Option.bind_eq_some_iff] at hi'
      obtain ⟨c,hc,hd⟩ := hi'
      obtain ⟨d,hcd,hf⟩ := qeI n e et h1 hd fun m hm => by
       refine hw m ?_
       simp only [DataW.weights,hu]
       refine vaz _ (vaA _ ?_)
       exact qeR (vaN (List.getElem_mem hie)) hm
      exact ⟨c,d,hc,hcd,hf⟩
     obtain ⟨xs,cells,r1,r2,r3,r4,r5⟩ := hrows
     refine ⟨xs,⟨some a,len,cap,rfl,r1.symm,hl,cells,r2,?_⟩,?_,r5⟩
     ·by_cases hz : xs = []
      ·exact .inl hz
      ·right
       have hpos : 0 < cells.length := by
        rw [r3,<- r1]
        have : 0 < xs.length := List.length_pos_iff.2 hz
        exact Nat.mul_pos this (by omega)
       have h0 := r4 0 _ (vaI hpos)
       obtain ⟨b,off,spot⟩ := a
       have hspot : spot = none := by simpa [Addr.add] using World.cell?_spot h0
       subst hspot
       refine ⟨b,off,rfl,fun h => h,?_,fun j u hu' => ?_⟩
       ·have : w.cell? ⟨b,off,none⟩ = some cells[0] := by simpa [Addr.add] using h0
        by_cases hlt : b < w.heap.size
        ·exact hlt
        ·have h7 : w.heap[b]? = none := Array.getElem?_eq_none (by omega)
         simp [World.cell?,h7] at this
       ·have := r4 j u hu'
        rw [Go.WideShapes.add_plain] at this
        exact this
     ·have := hw ((elems.length + rest.length) * P.bytesOf et) (by simp [DataW.weights,hu])
      have h5 : xs.length * e.bytes <= (elems.length + rest.length) * P.bytesOf et := by
       rw [r1,hlen]
       exact Nat.mul_le_mul (by omega) h3
      simp only [reachBytes] at this
      omega
   ·cases h
  ·rename_i fs hu
   simp only [vab] at h
   obtain ⟨h1,h2⟩ := h
   have h2 := vaa h2
   obtain ⟨xs,m,_,rfl,hlen,hxl,hf⟩ := DataW.trod_struct hu hx
   obtain ⟨d,h3,h4⟩ := qkb n ty fs.toList 0 h1 (cs := cs) (xs := xs) (fuel := m) (held := held) (by simpa using hxl) (fun i f hi => hf i f (by simpa using hi)) (fun m hm => hw m (by simp only [DataW.weights,hu]; exact hm)) (by omega)
   exact ⟨d,h3,h4⟩
  ·cases h
theorem qkb : ∀ (n : Nat) (ty : Ty) (fs : List Field) (off : Nat),fldB P n ty fs off = true -> ∀ {held : Bool} {fuel : Nat} {cs : List Value} {xs : List (DataW H × List MemPlace)},xs.length = fs.length ->
  (∀ (i : Nat) (f : Field),fs[i]? = some f -> DataW.trod enc P w 0 (fun _=>true) held fuel f.type ((cs.drop f.offset).take (P.cellsOf f.type)) = xs[i]?) ->
  (∀ m ∈ DataW.weightsEach P (fs.map (·.type)) (xs.map (·.1)),m <= reachBytes) -> cs.length = off + ty.size -> ∃ d : ty.den,Cells w S0 ty d (cs.drop off) /\ Fit ty d
 | 0,_,_,_,h,_,_,_,_,_,_,_,_ => by simp [fldB] at h
 | n + 1,ty,fs,off,h,held,fuel,cs,xs,hl,hf,hw,hlen => by
  unfold fldB at h
  split at h
  ·cases h
  ·rename_i f
   simp only [vab] at h
   obtain ⟨⟨h1,h2⟩,h3⟩ := h
   have h2 := vaa h2
   have h3 := vaa h3
   obtain ⟨y,rfl⟩ : ∃ y,xs = [y] := List.length_eq_one_iff.1 (by simpa using hl)
   have h0 := hf 0 f rfl
   obtain ⟨d,hd,hfit⟩ := qeI n ty f.type h1 h0 fun m hm => hw m (by simp [DataW.weightsEach,hm])
   refine ⟨d,?_,hfit⟩
   rw [h2,List.take_of_length_le (by simp; omega)] at hd
   exact hd
  ·rename_i f r hr
   split at h
   ·rename_i a b
    simp only [vab] at h
    obtain ⟨⟨⟨h1,h2⟩,h3⟩,h4⟩ := h
    have h2 := vaa h2
    have h3 := vaa h3
    obtain ⟨y,ys,rfl⟩ : ∃ y ys,xs = y :: ys := by
     cases xs with
     | nil => simp at hl
     | cons y ys => exact ⟨y,ys,rfl⟩
    have h0 := hf 0 f rfl
    obtain ⟨d1,hd1,hfit1⟩ := qeI n a f.type h1 h0 fun m hm => hw m (by simp [DataW.weightsEach,hm])
    have hsz : cs.length = off + (a.size + b.size) := hlen
    obtain ⟨d2,hd2,hfit2⟩ := qkb n b r (off + a.size) h4 (cs := cs) (xs := ys) (fuel := fuel) (held := held) (by simpa using hl) (fun i f' hi => hf (i + 1) f' (by simpa using hi)) (fun m hm => hw m (by simp only [vaJ,DataW.weightsEach]; exact val _ hm)) (by omega)
    refine ⟨(d1,d2),⟨_,_,?_,hd1,hd2⟩,hfit1,hfit2⟩
    rw [h2,h3,<- vaG,vau]
   ·cases h
end
theorem qou {n : Nat} {ty : Ty} {t : TypeId} (h : tyB P n ty t = true) {v : Value} {d : DataW H} {ps : List MemPlace} {held : Bool} (hd : DataW.Trod enc P w 0 (fun _=>true) held t v d ps) {ts : List TypeId} {ds : List (DataW H)} (hsz : (DataW.weightsEach P ts ds).all (· <= reachBytes) = true) {j : Nat} (ht : ts[j]? = some t) (hj : ds[j]? = some d) :
  ∃ x : ty.den,Cells w S0 ty x v.cells.toList /\ Fit ty x := by
 obtain ⟨fuel,hf⟩ := hd
 refine qeI n ty t h hf fun m hm => ?_
 have hmem : ∀ (ts : List TypeId) (ds : List (DataW H)) (j : Nat),ts[j]? = some t -> ds[j]? = some d -> m ∈ DataW.weightsEach P ts ds := by
  intro ts
  induction ts with
  | nil => intro ds j h; simp at h
  | cons t0 ts ih =>
   intro ds j h1 h2
   cases ds with
   | nil => simp at h2
   | cons d0 ds =>
    unfold DataW.weightsEach
    cases j with
    | zero => simp at h1 h2; subst h1; subst h2; exact vaA _ hm
    | succ j => exact val _ (ih ds j (by simpa using h1) (by simpa using h2))
 have := vaj.1 hsz m (hmem ts ds j ht hj)
 simpa using this
def ctx0 (w : World) : Ctx := { w := w,nx := 0,hdr := fun _=>.bool true,blk := fun _=>none,sub := fun _ _ => False,SB := S0,SA := S0 }
theorem qpn (w : World) (hw : BaseOK w) : SOK (ctx0 w) (objsOf []) :=
 ⟨⟨w,hw,fun _ _ => ⟨fun h => h,rfl⟩⟩,fun o => by rw [qbo]; simp [ObjOK],fun _ _ _ h _ _ _ => by rw [qbo] at h; simp [AObj.mut] at h,fun _ _ _ => id,fun _ h => h,fun _ h => h.elim,fun _ _ => rfl⟩
theorem qpB {e : Ty} {l : List e.den} {v : Value} (hv : Cells w S0 (.sl e) l [v]) : Rel (ctx0 w) (.dat e l false) v := by
 obtain ⟨a,n,c,h,hr⟩ := hv
 exact ⟨a,n,c,by simpa using h,hr⟩
theorem qoe {f : FuncId} {args : List V} {vs : List Value} (hw : BaseOK w) (h : FnOK P f args [] (.b true) []) (hr : RelL (ctx0 w) args vs) :
  Calls P f vs.toArray w fun e w' => e = .returned (.bool true) /\ Go.RowKit.Below w.heap.size w w' := by
 refine (h (ctx0 w) vs rfl (qpn w hw) hr).mono fun e w' => ?_
 rintro ⟨u,c',rfl,rfl,hp⟩
 have hu : u = .bool true := hp.rel
 subst hu
 have hst := hp.step
 exact ⟨rfl,hst.os,hst.tape,hst.output,hst.size,fun k hk => hst.heap k hk fun ⟨j,x,h1,_,_⟩ => by simp at h1⟩
end
end Go.Vm

namespace Go.Vm
open Go
noncomputable section
structure DL (α : Type) where
 all : (α -> Prop) -> Prop
 enc : α -> List V
 dec : List V -> (α -> Option R) -> Option R
 allp : ∀ {p},all p -> ∀ a,p a
 ok : ∀ {vs K r},dec vs K = some r -> ∃ a,K a = some r /\ CnvL vs (enc a)
structure CL (α : Type) where
 all : (α -> Prop) -> Prop
 enc : α -> List V
 dec : List V -> (α -> Option R) -> Option R
 allp : ∀ {p},all p -> ∀ a,p a
 ok : ∀ {vs K r},dec vs K = some r -> ∃ a,K a = some r /\ vs = enc a
structure OL (α : Type) where
 all : (α -> Prop) -> Prop
 enc : α -> List AObj
 dec : List AObj -> (α -> Option R) -> Option R
 allp : ∀ {p},all p -> ∀ a,p a
 ok : ∀ {vs K r},dec vs K = some r -> ∃ a,K a = some r /\ vs = enc a
def cN : CL Unit where
 all p := p ()
 enc _ := []
 dec vs K := match vs with | [] => K () | _ => none
 allp h := fun _=>h
 ok {vs K r} h := by
  cases vs with
  | nil => exact ⟨(),h,rfl⟩
  | cons => cases h
def cD (e : Ty) (b : Bool) {α : Type} (t : CL α) : CL (List e.den × α) where
  all p := ∀ x,t.all fun a => p (x,a)
  enc a := .dat e a.1 b :: t.enc a.2
  dec vs K := match vs with | v :: r => datK e b v fun x => t.dec r fun a => K (x,a) | _ => none
  allp h := fun a => t.allp (h a.1) a.2
  ok {vs K r} h := by
    cases vs with
    | nil => cases h
    | cons v vs =>
      obtain ⟨x,h2,rfl⟩ := qnu h
      obtain ⟨a,h3,rfl⟩ := t.ok h2
      exact ⟨_,h3,rfl⟩
def cI (k : IntKind) {α : Type} (t : CL α) : CL (Int × α) where
  all p := ∀ x,t.all fun a => p (x,a)
  enc a := .i k a.1 :: t.enc a.2
  dec vs K := match vs with | .i k' x :: r => (match decEq k' k with | .isTrue _ => t.dec r fun a => K (x,a) | .isFalse _ => none) | _ => none
  allp h := fun a => t.allp (h a.1) a.2
  ok {vs K r} h := by
    split at h
    · split at h
      · rename_i hk _
        subst hk
        obtain ⟨a,h3,rfl⟩ := t.ok h
        exact ⟨_,h3,rfl⟩
      · cases h
    · cases h
def cB {α : Type} (t : CL α) : CL (Bool × α) where
  all p := ∀ x,t.all fun a => p (x,a)
  enc a := .b a.1 :: t.enc a.2
  dec vs K := match vs with | .b x :: r => t.dec r fun a => K (x,a) | _ => none
  allp h := fun a => t.allp (h a.1) a.2
  ok {vs K r} h := by
    split at h
    · obtain ⟨a,h3,rfl⟩ := t.ok h
      exact ⟨_,h3,rfl⟩
    · cases h
def cS {α : Type} (t : CL α) : CL (ByteArray × α) where
  all p := ∀ x,t.all fun a => p (x,a)
  enc a := .s a.1 :: t.enc a.2
  dec vs K := match vs with | .s x :: r => t.dec r fun a => K (x,a) | _ => none
  allp h := fun a => t.allp (h a.1) a.2
  ok {vs K r} h := by
    split at h
    · obtain ⟨a,h3,rfl⟩ := t.ok h
      exact ⟨_,h3,rfl⟩
    · cases h
def cO (n : Nat) {α : Type} (t : CL α) : CL α where
  all := t.all
  enc a := .own n :: t.enc a
  dec vs K := match vs with | .own m :: r => (match vae m n with | true => t.dec r K | false => none) | _ => none
  allp := t.allp
  ok {vs K r} h := by
    split at h
    · split at h
      · rename_i hb
        obtain ⟨a,h3,rfl⟩ := t.ok h
        rw [vaa hb]
        exact ⟨_,h3,rfl⟩
      · cases h
    · cases h
def cP (n o : Nat) {α : Type} (t : CL α) : CL α where
  all := t.all
  enc a := .ptr n o :: t.enc a
  dec vs K := match vs with | .ptr m q :: r => (match vae m n && vae q o with | true => t.dec r K | false => none) | _ => none
  allp := t.allp
  ok {vs K r} h := by
    split at h
    · split at h
      · rename_i hb
        simp only [vab] at hb
        obtain ⟨a,h3,rfl⟩ := t.ok h
        rw [vaa hb.1,vaa hb.2]
        exact ⟨_,h3,rfl⟩
      · cases h
    · cases h
def cZ {α : Type} (t : CL α) : CL α where
  all := t.all
  enc a := .nilsl :: t.enc a
  dec vs K := match vs with | .nilsl :: r => t.dec r K | _ => none
  allp := t.allp
  ok {vs K r} h := by
    split at h
    · obtain ⟨a,h3,rfl⟩ := t.ok h
      exact ⟨_,h3,rfl⟩
    · cases h
def dN : DL Unit where
 all p := p ()
 enc _ := []
 dec vs K := match vs with | [] => K () | _ => none
 allp h := fun _=>h
 ok {vs K r} h := by
  cases vs with
  | nil => exact ⟨(),h,qoE⟩
  | cons => cases h
def dL (e : Ty) (b : Bool) {α : Type} (t : DL α) : DL (List e.den × α) where
  all p := ∀ x,t.all fun a => p (x,a)
  enc a := .dat e a.1 b :: t.enc a.2
  dec vs K := match vs with | v :: r => listB e b v fun x => t.dec r fun a => K (x,a) | _ => none
  allp h := fun a => t.allp (h a.1) a.2
  ok {vs K r} h := by
    cases vs with
    | nil => cases h
    | cons v vs =>
      obtain ⟨x,h,hx⟩ := qis h
      obtain ⟨a,h,ha⟩ := t.ok h
      exact ⟨_,h,qel hx ha⟩
def dI (k : IntKind) {β : Type} (t : DL β) : DL (Int × β) where
  all p := ∀ x,t.all fun a => p (x,a)
  enc a := .i k a.1 :: t.enc a.2
  dec vs K := match vs with | .i k' x :: r => (match decEq k' k with | .isTrue _ => t.dec r fun a => K (x,a) | .isFalse _ => none) | _ => none
  allp h := fun a => t.allp (h a.1) a.2
  ok {vs K r} h := by
    split at h
    · split at h
      · rename_i hk _
        subst hk
        obtain ⟨a,h,ha⟩ := t.ok h
        exact ⟨_,h,qel qhd ha⟩
      · cases h
    · cases h
def dB {β : Type} (t : DL β) : DL (Bool × β) where
  all p := ∀ x,t.all fun a => p (x,a)
  enc a := .b a.1 :: t.enc a.2
  dec vs K := match vs with | .b x :: r => t.dec r fun a => K (x,a) | _ => none
  allp h := fun a => t.allp (h a.1) a.2
  ok {vs K r} h := by
    split at h
    · obtain ⟨a,h,ha⟩ := t.ok h
      exact ⟨_,h,qel qhd ha⟩
    · cases h
def dS {β : Type} (t : DL β) : DL (ByteArray × β) where
  all p := ∀ x,t.all fun a => p (x,a)
  enc a := .s a.1 :: t.enc a.2
  dec vs K := match vs with | .s x :: r => t.dec r fun a => K (x,a) | _ => none
  allp h := fun a => t.allp (h a.1) a.2
  ok {vs K r} h := by
    split at h
    · obtain ⟨a,h,ha⟩ := t.ok h
      exact ⟨_,h,qel qhd ha⟩
    · cases h
def dO (n : Nat) {β : Type} (t : DL β) : DL β where
  all := t.all
  enc a := .own n :: t.enc a
  dec vs K := match vs with | .own m :: r => (match vae m n with | true => t.dec r K | false => none) | _ => none
  allp := t.allp
  ok {vs K r} h := by
    split at h
    · split at h
      · rename_i hb
        obtain ⟨a,h,ha⟩ := t.ok h
        rw [vaa hb]
        exact ⟨_,h,qel qhd ha⟩
      · cases h
    · cases h
def dP (n o : Nat) {β : Type} (t : DL β) : DL β where
  all := t.all
  enc a := .ptr n o :: t.enc a
  dec vs K := match vs with | .ptr m q :: r => (match vae m n && vae q o with | true => t.dec r K | false => none) | _ => none
  allp := t.allp
  ok {vs K r} h := by
    split at h
    · split at h
      · rename_i hb
        simp only [vab] at hb
        obtain ⟨a,h,ha⟩ := t.ok h
        rw [vaa hb.1,vaa hb.2]
        exact ⟨_,h,qel qhd ha⟩
      · cases h
    · cases h
def dQ (e : Ty) {α : Type} (t : DL α) : DL (Bool × List e.den × α) where
  all p := ∀ b x,t.all fun a => p (b,x,a)
  enc a := .nd a.1 e a.2.1 :: t.enc a.2.2
  dec vs K := match vs with | v :: r => ndK e v fun b x => t.dec r fun a => K (b,x,a) | _ => none
  allp h := fun a => t.allp (h a.1 a.2.1) a.2.2
  ok {vs K r} h := by
    cases vs with
    | nil => cases h
    | cons v vs =>
      obtain ⟨b,x,h2,rfl⟩ := qn9 h
      obtain ⟨a,h3,ha⟩ := t.ok h2
      exact ⟨(b,x,a),h3,qel qhd ha⟩
def dE (n es off : Nat) {β : Type} (t : DL β) : DL (Nat × β) where
  all p := ∀ x,t.all fun a => p (x,a)
  enc a := .pel n a.1 es off :: t.enc a.2
  dec vs K := match vs with | .pel m x q p :: r => (match vae m n && vae q es && vae p off with | true => t.dec r fun a => K (x,a) | false => none) | _ => none
  allp h := fun a => t.allp (h a.1) a.2
  ok {vs K r} h := by
    split at h
    · split at h
      · rename_i hb
        simp only [vab] at hb
        obtain ⟨a,h,ha⟩ := t.ok h
        rw [vaa hb.1.1,vaa hb.1.2,vaa hb.2]
        exact ⟨_,h,qel qhd ha⟩
      · cases h
    · cases h
def dZ {β : Type} (t : DL β) : DL β where
  all := t.all
  enc a := .nilsl :: t.enc a
  dec vs K := match vs with | .nilsl :: r => t.dec r K | _ => none
  allp := t.allp
  ok {vs K r} h := by
    split at h
    · obtain ⟨a,h,ha⟩ := t.ok h
      exact ⟨_,h,qel qhd ha⟩
    · cases h
def dG {α β : Type} (i : DL α) (t : DL β) : DL (α × β) where
  all p := i.all fun a => t.all fun b => p (a,b)
  enc a := .agg (i.enc a.1) :: t.enc a.2
  dec vs K := match vs with | .agg v :: r => i.dec v fun a => t.dec r fun b => K (a,b) | _ => none
  allp h := fun a => t.allp (i.allp h a.1) a.2
  ok {vs K r} h := by
    split at h
    · obtain ⟨a,h,ha⟩ := i.ok h
      obtain ⟨b,h,hb⟩ := t.ok h
      exact ⟨(a,b),h,qel (qo4 ha) hb⟩
    · cases h
def dF (f : FuncId) {α β : Type} (i : CL α) (t : DL β) : DL (α × β) where
  all p := i.all fun a => t.all fun b => p (a,b)
  enc a := .fn f (i.enc a.1) :: t.enc a.2
  dec vs K := match vs with | .fn g v :: r => (match vae g f with | true => i.dec v fun a => t.dec r fun b => K (a,b) | false => none) | _ => none
  allp h := fun a => t.allp (i.allp h a.1) a.2
  ok {vs K r} h := by
    split at h
    · split at h
      · rename_i hb
        obtain ⟨a,h2,rfl⟩ := i.ok h
        obtain ⟨b,h3,hb'⟩ := t.ok h2
        have hg := vaa hb
        subst hg
        exact ⟨(a,b),h3,qel qhd hb'⟩
      · cases h
    · cases h
def oN : OL Unit where
 all p := p ()
 enc _ := []
 dec vs K := match vs with | [] => K () | _ => none
 allp h := fun _=>h
 ok {vs K r} h := by
  cases vs with
  | nil => exact ⟨(),h,rfl⟩
  | cons => cases h
def oR (e : Ty) (fz : Bool) {α : Type} (t : OL α) : OL (List e.den × α) where
  all p := ∀ x,t.all fun a => p (x,a)
  enc a := .row e a.1 fz :: t.enc a.2
  dec vs K := match vs with | v :: r => rowK e fz v fun x => t.dec r fun a => K (x,a) | _ => none
  allp h := fun a => t.allp (h a.1) a.2
  ok {vs K r} h := by
    cases vs with
    | nil => cases h
    | cons v vs =>
      obtain ⟨x,h2,rfl⟩ := qmS h
      obtain ⟨a,h3,rfl⟩ := t.ok h2
      exact ⟨_,h3,rfl⟩
def oM (ka : Bool) (k : Ty) (ea : Bool) (e : Ty) {α : Type} (t : OL α) : OL (List (k.den × e.den) × α) where
  all p := ∀ x,t.all fun a => p (x,a)
  enc a := .ext (.map ka k ea e a.1) :: t.enc a.2
  dec vs K := match vs with | v :: r => mapK ka k ea e v fun x => t.dec r fun a => K (x,a) | _ => none
  allp h := fun a => t.allp (h a.1) a.2
  ok {vs K r} h := by
    cases vs with
    | nil => cases h
    | cons v vs =>
      obtain ⟨x,h2,rfl⟩ := qnc h
      obtain ⟨a,h3,rfl⟩ := t.ok h2
      exact ⟨(x,a),h3,rfl⟩
def oW (d : DTy) {α : Type} (t : OL α) : OL (List d.den × α) where
  all p := ∀ x,t.all fun a => p (x,a)
  enc a := .nest (.row d a.1) :: t.enc a.2
  dec vs K := match vs with | v :: r => nestK d v fun x => t.dec r fun a => K (x,a) | _ => none
  allp h := fun a => t.allp (h a.1) a.2
  ok {vs K r} h := by
    cases vs with
    | nil => cases h
    | cons v vs =>
      obtain ⟨x,h2,rfl⟩ := ql7 h
      obtain ⟨a,h3,rfl⟩ := t.ok h2
      exact ⟨(x,a),h3,rfl⟩
def oV (n : Nat) {α β : Type} (i : CL α) (t : OL β) : OL (α × β) where
  all p := i.all fun a => t.all fun b => p (a,b)
  enc a := .var n (i.enc a.1) :: t.enc a.2
  dec vs K := match vs with | .var m v :: r => (match vae m n with | true => i.dec v fun a => t.dec r fun b => K (a,b) | false => none) | _ => none
  allp h := fun a => t.allp (i.allp h a.1) a.2
  ok {vs K r} h := by
    split at h
    · split at h
      · rename_i hb
        obtain ⟨a,h2,rfl⟩ := i.ok h
        obtain ⟨b,h3,rfl⟩ := t.ok h2
        rw [vaa hb]
        exact ⟨(a,b),h3,rfl⟩
      · cases h
    · cases h
def oD {α : Type} (t : OL α) : OL α where
  all := t.all
  enc a := .dead :: t.enc a
  dec vs K := match vs with | .dead :: r => t.dec r K | _ => none
  allp := t.allp
  ok {vs K r} h := by
    split at h
    · obtain ⟨a,h3,rfl⟩ := t.ok h
      exact ⟨_,h3,rfl⟩
    · cases h
structure SP where
 {α : Type}
 {ω : Type}
 ms : List Mode
 A : DL α
 O : OL ω
 B : α -> ω -> ((β : Type) -> Option β -> (β -> V) -> (β -> List AObj) -> Option R) -> Option R
 law : ∀ a o,∃ β F r os,∀ C,B a o C = C β F r os := by intros; exact ⟨_,_,_,_,fun _=>rfl⟩
def SP.fs (s : SP) : FSpec := ⟨s.ms,fun args objs K => s.A.dec args fun a => s.O.dec objs fun o => s.B a o fun _ F r os => bindO F fun x => K (r x) (os x)⟩
def SP.St (s : SP) (tt : Tab) (Γ : FEnv) (lv : Live) (fn : Func) (k : Nat) : Prop :=
 s.A.all fun a => s.O.all fun o => runF tt Γ lv fn k (s.A.enc a) (s.O.enc o) = s.B a o fun _ F r os => bindO F fun x => some (r x,os x)
theorem sn_ {P : Program} {tt : Tab} {Γ : FEnv} (hT : TabOK P tt) (hm : P.follows .mixedOrders = true) {s : SP} {f : FuncId} {fn : Func} {lv : Live} {k : Nat} (hf : P.funcs[f]? = some fn) (h1 : (fn.name == "runtime.NumGoroutine") = false) (h2 : fn.body.isNone = false)
  (hΓ : EnvOK P Γ) (h : s.St tt Γ lv fn k) : Sound P f s.fs := by
 refine ⟨⟨fn,hf,h1,h2⟩,fun args objs K r h0 => ?_⟩
 obtain ⟨a,h3,ha⟩ := s.A.ok h0
 obtain ⟨o,h4,rfl⟩ := s.O.ok h3
 have hr := s.O.allp (s.A.allp h a) o
 obtain ⟨_,F,rr,os,hl⟩ := s.law a o
 rw [hl] at h4 hr
 obtain ⟨x,hx,h5⟩ := qiA h4
 exact ⟨_,_,h5,FnOK.args2 ha (qnm hT hΓ hm hf (hr.trans (qg1 hx)))⟩
end
end Go.Vm
