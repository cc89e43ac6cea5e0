/- Own texts put together: Vm32, Vm33 .. -/
import Derived.Test.YtmdhoglicfmakaaVm1
import Derived.OpenShut
import Derived.SizedLaws
import Derived.Carry
import Derived.DataElems
import Derived.ProofKit
set_option linter.unusedVariables false
set_option linter.unusedSimpArgs false
namespace Go.Vm
open Go
def Ty.bytes : Ty → Nat
 | .int k => k.bits / 8
 | .bool => 1
 | .str => 16
 | .sl _ => 24
 | .unit => 0
 | .pair a b => a.bytes + b.bytes
def Fit : (t : Ty) → t.den → Prop
 | .int k,n => (Lit.int k n).wf = true
 | .bool,_ => True
 | .str,s => s.size ≤ 140737488351232
 | .sl e,l => l.length * e.bytes ≤ 140737488351232 ∧ ∀ x ∈ l,Fit e x
 | .unit,_ => True
 | .pair a b,x => Fit a x.1 ∧ Fit b x.2
mutual
def tyB (P : Program) : Nat → Ty → TypeId → Bool
 | 0,_,_ => false
 | n + 1,ty,t => match P.underlying t with
  | some (.int k) => match ty with | .int k' => k == k' | _ => false
  | some .bool => match ty with | .bool => true | _ => false
  | some .string => match ty with | .str => true | _ => false
  | some (.slice et) => match ty with | .sl e => tyB P n e et && Nat.beq (P.cellsOf et) e.size && Nat.ble e.bytes (P.bytesOf et) && Nat.blt 0 e.size | _ => false
  | some (.struct fs) => fldB P n ty fs.toList 0 && Nat.beq (P.cellsOf t) ty.size
  | _ => false
def fldB (P : Program) : Nat → Ty → List Field → Nat → Bool
 | 0,_,_,_ => false
 | n + 1,ty,fs,off => match fs with
  | [] => false
  | [f] => tyB P n ty f.type && Nat.beq f.offset off && Nat.beq (P.cellsOf f.type) ty.size
  | f :: r => match ty with
   | .pair a b => tyB P n a f.type && Nat.beq f.offset off && Nat.beq (P.cellsOf f.type) a.size && fldB P n b r (off + a.size)
   | _ => false
end
section
variable {H : Type} {enc : TypeId × Value → H} {P : Program} {w : World}
abbrev S0 : Nat → Prop := fun _=>False
theorem qb1 {e : TypeId} : ∀ {l : List (DataW H)} {d : DataW H} {m : Nat},d ∈ l → m ∈ d.weights P e → m ∈ DataW.weightsAll P e l
 | [],_,_,h,_ => by cases h
 | x :: r,d,m,h,hm => by
  unfold DataW.weightsAll
  rcases List.mem_cons.1 h with rfl | h
  ·exact List.mem_append_left _ hm
  ·exact List.mem_append_right _ (qb1 h hm)
theorem qgf {e : Ty} (hpos : 0 < e.size) {a : Addr} {cs : Nat} (hcs : cs = e.size) : ∀ (n : Nat),(∀ i,i < n → ∃ c d,w.cells? 0 (a.add (i * cs)) cs = some c ∧ Cells w S0 e d c ∧ Fit e d) →
  ∃ (xs : List e.den) (cells : List Value),xs.length = n ∧ CellsL (Cells w S0 e) xs cells ∧ cells.length = n * cs ∧ (∀ (j : Nat) u,cells[j]? = some u → w.cell? (a.add j) = some u) ∧ ∀ x ∈ xs,Fit e x
 | 0,_ => ⟨[],[],rfl,rfl,by simp,fun j u h => by simp at h,fun x hx => by cases hx⟩
 | n + 1,h => by
  obtain ⟨xs,cells,h1,h2,h3,h4,h5⟩ := qgf hpos hcs n fun i hi => h i (by omega)
  obtain ⟨c,d,hc,hd,hf⟩ := h n (by omega)
  obtain ⟨_,hlen,hcell⟩ := World.cells?_some hc
  refine ⟨xs ++ [d],cells ++ c,by simp [h1],CellsL.append _ _ _ _ h2 ⟨c,[],by simp,hd,rfl⟩,by rw [List.length_append,h3,hlen,Nat.succ_mul],fun j u hu => ?_,fun x hx => ?_⟩
  ·by_cases hj : j < cells.length
   ·rw [List.getElem?_append_left hj] at hu; exact h4 j u hu
   ·rw [List.getElem?_append_right (by omega)] at hu
    have hjc : j - cells.length < c.length := (List.getElem?_eq_some_iff.1 hu).1
    have := hcell (j - cells.length) (by omega)
    rw [hu] at this
    rw [← this,Addr.add_add]
    congr 2
    omega
  ·rcases List.mem_append.1 hx with hx | hx
   ·exact h5 x hx
   ·simp at hx; subst hx; exact hf
mutual
theorem qbY : ∀ (n : Nat) (ty : Ty) (t : TypeId),tyB P n ty t = true → ∀ {held : Bool} {fuel : Nat} {cs : List Value} {x : DataW H × List MemPlace},DataW.trod enc P w 0 (fun _=>true) held fuel t cs = some x → (∀ m ∈ x.1.weights P t,m ≤ reachBytes) →
  ∃ d : ty.den,Cells w S0 ty d cs ∧ Fit ty d
 | 0,_,_,h,_,_,_,_,_,_ => by simp [tyB] at h
 | n + 1,ty,t,h,held,fuel,cs,x,hx,hw => by
  unfold tyB at h
  split at h
  ·rename_i k hu
   split at h
   ·rename_i k'
    have : k = k' := by simpa using h
    subst this
    obtain ⟨m,rfl,_,hwf⟩ := DataW.trod_int hu hx
    exact ⟨m,rfl,hwf⟩
   ·cases h
  ·rename_i hu
   split at h
   ·obtain ⟨b,rfl,_⟩ := DataW.trod_bool hu hx
    exact ⟨b,rfl,trivial⟩
   ·cases h
  ·rename_i hu
   split at h
   ·obtain ⟨s,rfl,rfl,_⟩ := DataW.trod_string hu hx
    refine ⟨s,rfl,?_⟩
    have := hw s.data.toList.length (by simp [DataW.weights])
    show s.size ≤ 140737488351232
    simpa [reachBytes] using this
   ·cases h
  ·rename_i et hu
   split at h
   ·rename_i e
    simp only [Bool.and_eq_true] at h
    obtain ⟨⟨⟨h1,h2⟩,h3⟩,h4⟩ := h
    have h2 := Nat.eq_of_beq_eq_true h2
    have h3 := Nat.le_of_ble_eq_true h3
    have h4 : 0 < e.size := Nat.le_of_ble_eq_true h4
    rcases DataW.trod_slice hu hx with ⟨rfl,_⟩ | ⟨a,len,cap,elems,rest,m,_,rfl,rfl,hb,hl,hm,hlen,hel,hsp,hns⟩
    ·exact ⟨([] : List e.den),⟨none,0,0,rfl,rfl,Nat.le_refl _,[],rfl,.inl rfl⟩,by simp,fun x hx => by cases hx⟩
    ·have hrows := qgf (w := w) (e := e) h4 (a := a) h2 len fun i hi => by
      have hi' := hel i hi
      have hie : i < elems.length := by omega
      rw [List.getElem?_eq_getElem hie,Option.bind_eq_some_iff] at hi'
      obtain ⟨c,hc,hd⟩ := hi'
      obtain ⟨d,hcd,hf⟩ := qbY n e et h1 hd fun m hm => by
       refine hw m ?_
       simp only [DataW.weights,hu]
       refine List.mem_cons_of_mem _ (List.mem_append_left _ ?_)
       exact qb1 (List.mem_map_of_mem (List.getElem_mem hie)) hm
      exact ⟨c,d,hc,hcd,hf⟩
     obtain ⟨xs,cells,r1,r2,r3,r4,r5⟩ := hrows
     refine ⟨xs,⟨some a,len,cap,rfl,r1.symm,hl,cells,r2,?_⟩,?_,r5⟩
     ·by_cases hz : xs = []
      ·exact .inl hz
      ·right
       have hpos : 0 < cells.length := by
        rw [r3,← r1]
        have : 0 < xs.length := List.length_pos_iff.2 hz
        exact Nat.mul_pos this (by omega)
       have h0 := r4 0 _ (List.getElem?_eq_getElem hpos)
       obtain ⟨b,off,spot⟩ := a
       have hspot : spot = none := by simpa [Addr.add] using World.cell?_spot h0
       subst hspot
       refine ⟨b,off,rfl,fun h => h,?_,fun j u hu' => ?_⟩
       ·have : w.cell? ⟨b,off,none⟩ = some cells[0] := by simpa [Addr.add] using h0
        by_cases hlt : b < w.heap.size
        ·exact hlt
        ·have h7 : w.heap[b]? = none := Array.getElem?_eq_none (by omega)
         simp [World.cell?,h7] at this
       ·have := r4 j u hu'
        rw [Go.WideShapes.add_plain] at this
        exact this
     ·have := hw ((elems.length + rest.length) * P.bytesOf et) (by simp [DataW.weights,hu])
      have h5 : xs.length * e.bytes ≤ (elems.length + rest.length) * P.bytesOf et := by
       rw [r1,hlen]
       exact Nat.mul_le_mul (by omega) h3
      simp only [reachBytes] at this
      omega
   ·cases h
  ·rename_i fs hu
   simp only [Bool.and_eq_true] at h
   obtain ⟨h1,h2⟩ := h
   have h2 := Nat.eq_of_beq_eq_true h2
   obtain ⟨xs,m,_,rfl,hlen,hxl,hf⟩ := DataW.trod_struct hu hx
   obtain ⟨d,h3,h4⟩ := qeR n ty fs.toList 0 h1 (cs := cs) (xs := xs) (fuel := m) (held := held) (by simpa using hxl) (fun i f hi => hf i f (by simpa using hi)) (fun m hm => hw m (by simp only [DataW.weights,hu]; exact hm)) (by omega)
   exact ⟨d,h3,h4⟩
  ·cases h
theorem qeR : ∀ (n : Nat) (ty : Ty) (fs : List Field) (off : Nat),fldB P n ty fs off = true → ∀ {held : Bool} {fuel : Nat} {cs : List Value} {xs : List (DataW H × List MemPlace)},xs.length = fs.length →
  (∀ (i : Nat) (f : Field),fs[i]? = some f → DataW.trod enc P w 0 (fun _=>true) held fuel f.type ((cs.drop f.offset).take (P.cellsOf f.type)) = xs[i]?) →
  (∀ m ∈ DataW.weightsEach P (fs.map (·.type)) (xs.map (·.1)),m ≤ reachBytes) → cs.length = off + ty.size → ∃ d : ty.den,Cells w S0 ty d (cs.drop off) ∧ Fit ty d
 | 0,_,_,_,h,_,_,_,_,_,_,_,_ => by simp [fldB] at h
 | n + 1,ty,fs,off,h,held,fuel,cs,xs,hl,hf,hw,hlen => by
  unfold fldB at h
  split at h
  ·cases h
  ·rename_i f
   simp only [Bool.and_eq_true] at h
   obtain ⟨⟨h1,h2⟩,h3⟩ := h
   have h2 := Nat.eq_of_beq_eq_true h2
   have h3 := Nat.eq_of_beq_eq_true h3
   obtain ⟨y,rfl⟩ : ∃ y,xs = [y] := List.length_eq_one_iff.1 (by simpa using hl)
   have h0 := hf 0 f rfl
   obtain ⟨d,hd,hfit⟩ := qbY n ty f.type h1 h0 fun m hm => hw m (by simp [DataW.weightsEach,hm])
   refine ⟨d,?_,hfit⟩
   rw [h2,List.take_of_length_le (by simp; omega)] at hd
   exact hd
  ·rename_i f r hr
   split at h
   ·rename_i a b
    simp only [Bool.and_eq_true] at h
    obtain ⟨⟨⟨h1,h2⟩,h3⟩,h4⟩ := h
    have h2 := Nat.eq_of_beq_eq_true h2
    have h3 := Nat.eq_of_beq_eq_true h3
    obtain ⟨y,ys,rfl⟩ : ∃ y ys,xs = y :: ys := by
     cases xs with
     | nil => simp at hl
     | cons y ys => exact ⟨y,ys,rfl⟩
    have h0 := hf 0 f rfl
    obtain ⟨d1,hd1,hfit1⟩ := qbY n a f.type h1 h0 fun m hm => hw m (by simp [DataW.weightsEach,hm])
    have hsz : cs.length = off + (a.size + b.size) := hlen
    obtain ⟨d2,hd2,hfit2⟩ := qeR n b r (off + a.size) h4 (cs := cs) (xs := ys) (fuel := fuel) (held := held) (by simpa using hl) (fun i f' hi => hf (i + 1) f' (by simpa using hi)) (fun m hm => hw m (by simp only [List.map_cons,DataW.weightsEach]; exact List.mem_append_right _ hm)) (by omega)
    refine ⟨(d1,d2),⟨_,_,?_,hd1,hd2⟩,hfit1,hfit2⟩
    rw [h2,h3,← List.drop_drop,List.take_append_drop]
   ·cases h
end
theorem qhS {n : Nat} {ty : Ty} {t : TypeId} (h : tyB P n ty t = true) {v : Value} {d : DataW H} {ps : List MemPlace} {held : Bool} (hd : DataW.Trod enc P w 0 (fun _=>true) held t v d ps) {ts : List TypeId} {ds : List (DataW H)} (hsz : (DataW.weightsEach P ts ds).all (· ≤ reachBytes) = true) {j : Nat} (ht : ts[j]? = some t) (hj : ds[j]? = some d) :
  ∃ x : ty.den,Cells w S0 ty x v.cells.toList ∧ Fit ty x := by
 obtain ⟨fuel,hf⟩ := hd
 refine qbY n ty t h hf fun m hm => ?_
 have hmem : ∀ (ts : List TypeId) (ds : List (DataW H)) (j : Nat),ts[j]? = some t → ds[j]? = some d → m ∈ DataW.weightsEach P ts ds := by
  intro ts
  induction ts with
  | nil => intro ds j h; simp at h
  | cons t0 ts ih =>
   intro ds j h1 h2
   cases ds with
   | nil => simp at h2
   | cons d0 ds =>
    unfold DataW.weightsEach
    cases j with
    | zero => simp at h1 h2; subst h1; subst h2; exact List.mem_append_left _ hm
    | succ j => exact List.mem_append_right _ (ih ds j (by simpa using h1) (by simpa using h2))
 have := List.all_eq_true.1 hsz m (hmem ts ds j ht hj)
 simpa using this
def ctx0 (w : World) : Ctx := { w := w,nx := 0,hdr := fun _=>.bool true,blk := fun _=>none,sub := fun _ _ => False,SB := S0,SA := S0 }
theorem qhB (w : World) (hw : BaseOK w) : SOK (ctx0 w) (objsOf []) :=
 ⟨⟨w,hw,fun _ _ => ⟨fun h => h,rfl⟩⟩,fun o => by rw [qam]; simp [ObjOK],fun _ _ _ h _ _ _ => by rw [qam] at h; simp [AObj.mut] at h,fun _ _ _ => id,fun _ h => h,fun _ h => h.elim,fun _ _ => rfl⟩
theorem rel_sl {e : Ty} {l : List e.den} {v : Value} (hv : Cells w S0 (.sl e) l [v]) : Rel (ctx0 w) (.dat e l false) v := by
 obtain ⟨a,n,c,h,hr⟩ := hv
 exact ⟨a,n,c,by simpa using h,hr⟩
theorem qgZ {f : FuncId} {args : List V} {vs : List Value} (hw : BaseOK w) (h : FnOK P f args [] (.b true) []) (hr : RelL (ctx0 w) args vs) :
  Calls P f vs.toArray w fun e w' => e = .returned (.bool true) ∧ Go.RowKit.Below w.heap.size w w' := by
 refine (h (ctx0 w) vs rfl (qhB w hw) hr).mono fun e w' => ?_
 rintro ⟨u,c',rfl,rfl,hp⟩
 have hu : u = .bool true := hp.rel
 subst hu
 have hst := hp.step
 exact ⟨rfl,hst.os,hst.tape,hst.output,hst.size,fun k hk => hst.heap k hk fun ⟨j,x,h1,_,_⟩ => by simp at h1⟩
end
end Go.Vm

namespace Go.Vm
open Go
noncomputable section
structure DL (α : Type) where
 all : (α → Prop) → Prop
 enc : α → List V
 dec : List V → (α → Option R) → Option R
 allp : ∀ {p},all p → ∀ a,p a
 ok : ∀ {vs K r},dec vs K = some r → ∃ a,K a = some r ∧ CnvL vs (enc a)
structure CL (α : Type) where
 all : (α → Prop) → Prop
 enc : α → List V
 dec : List V → (α → Option R) → Option R
 allp : ∀ {p},all p → ∀ a,p a
 ok : ∀ {vs K r},dec vs K = some r → ∃ a,K a = some r ∧ vs = enc a
structure OL (α : Type) where
 all : (α → Prop) → Prop
 enc : α → List AObj
 dec : List AObj → (α → Option R) → Option R
 allp : ∀ {p},all p → ∀ a,p a
 ok : ∀ {vs K r},dec vs K = some r → ∃ a,K a = some r ∧ vs = enc a
def cN : CL Unit where
 all p := p ()
 enc _ := []
 dec vs K := match vs with | [] => K () | _ => none
 allp h := fun _=>h
 ok {vs K r} h := by
  cases vs with
  | nil => exact ⟨(),h,rfl⟩
  | cons => cases h
def cD (e : Ty) (b : Bool) {α : Type} (t : CL α) : CL (List e.den × α) where
  all p := ∀ x,t.all fun a => p (x,a)
  enc a := .dat e a.1 b :: t.enc a.2
  dec vs K := match vs with | v :: r => datK e b v fun x => t.dec r fun a => K (x,a) | _ => none
  allp h := fun a => t.allp (h a.1) a.2
  ok {vs K r} h := by
    cases vs with
    | nil => cases h
    | cons v vs =>
      obtain ⟨x,h2,rfl⟩ := qgF h
      obtain ⟨a,h3,rfl⟩ := t.ok h2
      exact ⟨_,h3,rfl⟩
def cI (k : IntKind) {α : Type} (t : CL α) : CL (Int × α) where
  all p := ∀ x,t.all fun a => p (x,a)
  enc a := .i k a.1 :: t.enc a.2
  dec vs K := match vs with | .i k' x :: r => (match decEq k' k with | .isTrue _ => t.dec r fun a => K (x,a) | .isFalse _ => none) | _ => none
  allp h := fun a => t.allp (h a.1) a.2
  ok {vs K r} h := by
    split at h
    · split at h
      · rename_i hk _
        subst hk
        obtain ⟨a,h3,rfl⟩ := t.ok h
        exact ⟨_,h3,rfl⟩
      · cases h
    · cases h
def cB {α : Type} (t : CL α) : CL (Bool × α) where
  all p := ∀ x,t.all fun a => p (x,a)
  enc a := .b a.1 :: t.enc a.2
  dec vs K := match vs with | .b x :: r => t.dec r fun a => K (x,a) | _ => none
  allp h := fun a => t.allp (h a.1) a.2
  ok {vs K r} h := by
    split at h
    · obtain ⟨a,h3,rfl⟩ := t.ok h
      exact ⟨_,h3,rfl⟩
    · cases h
def cS {α : Type} (t : CL α) : CL (ByteArray × α) where
  all p := ∀ x,t.all fun a => p (x,a)
  enc a := .s a.1 :: t.enc a.2
  dec vs K := match vs with | .s x :: r => t.dec r fun a => K (x,a) | _ => none
  allp h := fun a => t.allp (h a.1) a.2
  ok {vs K r} h := by
    split at h
    · obtain ⟨a,h3,rfl⟩ := t.ok h
      exact ⟨_,h3,rfl⟩
    · cases h
def cO (n : Nat) {α : Type} (t : CL α) : CL α where
  all := t.all
  enc a := .own n :: t.enc a
  dec vs K := match vs with | .own m :: r => (match Nat.beq m n with | true => t.dec r K | false => none) | _ => none
  allp := t.allp
  ok {vs K r} h := by
    split at h
    · split at h
      · rename_i hb
        obtain ⟨a,h3,rfl⟩ := t.ok h
        rw [Nat.eq_of_beq_eq_true hb]
        exact ⟨_,h3,rfl⟩
      · cases h
    · cases h
def cP (n o : Nat) {α : Type} (t : CL α) : CL α where
  all := t.all
  enc a := .ptr n o :: t.enc a
  dec vs K := match vs with | .ptr m q :: r => (match Nat.beq m n && Nat.beq q o with | true => t.dec r K | false => none) | _ => none
  allp := t.allp
  ok {vs K r} h := by
    split at h
    · split at h
      · rename_i hb
        simp only [Bool.and_eq_true] at hb
        obtain ⟨a,h3,rfl⟩ := t.ok h
        rw [Nat.eq_of_beq_eq_true hb.1,Nat.eq_of_beq_eq_true hb.2]
        exact ⟨_,h3,rfl⟩
      · cases h
    · cases h
def cZ {α : Type} (t : CL α) : CL α where
  all := t.all
  enc a := .nilsl :: t.enc a
  dec vs K := match vs with | .nilsl :: r => t.dec r K | _ => none
  allp := t.allp
  ok {vs K r} h := by
    split at h
    · obtain ⟨a,h3,rfl⟩ := t.ok h
      exact ⟨_,h3,rfl⟩
    · cases h
def dN : DL Unit where
 all p := p ()
 enc _ := []
 dec vs K := match vs with | [] => K () | _ => none
 allp h := fun _=>h
 ok {vs K r} h := by
  cases vs with
  | nil => exact ⟨(),h,qgi⟩
  | cons => cases h
def dL (e : Ty) (b : Bool) {α : Type} (t : DL α) : DL (List e.den × α) where
  all p := ∀ x,t.all fun a => p (x,a)
  enc a := .dat e a.1 b :: t.enc a.2
  dec vs K := match vs with | v :: r => listB e b v fun x => t.dec r fun a => K (x,a) | _ => none
  allp h := fun a => t.allp (h a.1) a.2
  ok {vs K r} h := by
    cases vs with
    | nil => cases h
    | cons v vs =>
      obtain ⟨x,h,hx⟩ := qcB h
      obtain ⟨a,h,ha⟩ := t.ok h
      exact ⟨_,h,qbP hx ha⟩
def dI (k : IntKind) {β : Type} (t : DL β) : DL (Int × β) where
  all p := ∀ x,t.all fun a => p (x,a)
  enc a := .i k a.1 :: t.enc a.2
  dec vs K := match vs with | .i k' x :: r => (match decEq k' k with | .isTrue _ => t.dec r fun a => K (x,a) | .isFalse _ => none) | _ => none
  allp h := fun a => t.allp (h a.1) a.2
  ok {vs K r} h := by
    split at h
    · split at h
      · rename_i hk _
        subst hk
        obtain ⟨a,h,ha⟩ := t.ok h
        exact ⟨_,h,qbP qed ha⟩
      · cases h
    · cases h
def dB {β : Type} (t : DL β) : DL (Bool × β) where
  all p := ∀ x,t.all fun a => p (x,a)
  enc a := .b a.1 :: t.enc a.2
  dec vs K := match vs with | .b x :: r => t.dec r fun a => K (x,a) | _ => none
  allp h := fun a => t.allp (h a.1) a.2
  ok {vs K r} h := by
    split at h
    · obtain ⟨a,h,ha⟩ := t.ok h
      exact ⟨_,h,qbP qed ha⟩
    · cases h
def dS {β : Type} (t : DL β) : DL (ByteArray × β) where
  all p := ∀ x,t.all fun a => p (x,a)
  enc a := .s a.1 :: t.enc a.2
  dec vs K := match vs with | .s x :: r => t.dec r fun a => K (x,a) | _ => none
  allp h := fun a => t.allp (h a.1) a.2
  ok {vs K r} h := by
    split at h
    · obtain ⟨a,h,ha⟩ := t.ok h
      exact ⟨_,h,qbP qed ha⟩
    · cases h
def dO (n : Nat) {β : Type} (t : DL β) : DL β where
  all := t.all
  enc a := .own n :: t.enc a
  dec vs K := match vs with | .own m :: r => (match Nat.beq m n with | true => t.dec r K | false => none) | _ => none
  allp := t.allp
  ok {vs K r} h := by
    split at h
    · split at h
      · rename_i hb
        obtain ⟨a,h,ha⟩ := t.ok h
        rw [Nat.eq_of_beq_eq_true hb]
        exact ⟨_,h,qbP qed ha⟩
      · cases h
    · cases h
def dP (n o : Nat) {β : Type} (t : DL β) : DL β where
  all := t.all
  enc a := .ptr n o :: t.enc a
  dec vs K := match vs with | .ptr m q :: r => (match Nat.beq m n && Nat.beq q o with | true => t.dec r K | false => none) | _ => none
  allp := t.allp
  ok {vs K r} h := by
    split at h
    · split at h
      · rename_i hb
        simp only [Bool.and_eq_true] at hb
        obtain ⟨a,h,ha⟩ := t.ok h
        rw [Nat.eq_of_beq_eq_true hb.1,Nat.eq_of_beq_eq_true hb.2]
        exact ⟨_,h,qbP qed ha⟩
      · cases h
    · cases h
def dZ {β : Type} (t : DL β) : DL β where
  all := t.all
  enc a := .nilsl :: t.enc a
  dec vs K := match vs with | .nilsl :: r => t.dec r K | _ => none
  allp := t.allp
  ok {vs K r} h := by
    split at h
    · obtain ⟨a,h,ha⟩ := t.ok h
      exact ⟨_,h,qbP qed ha⟩
    · cases h
def dG {α β : Type} (i : DL α) (t : DL β) : DL (α × β) where
  all p := i.all fun a => t.all fun b => p (a,b)
  enc a := .agg (i.enc a.1) :: t.enc a.2
  dec vs K := match vs with | .agg v :: r => i.dec v fun a => t.dec r fun b => K (a,b) | _ => none
  allp h := fun a => t.allp (i.allp h a.1) a.2
  ok {vs K r} h := by
    split at h
    · obtain ⟨a,h,ha⟩ := i.ok h
      obtain ⟨b,h,hb⟩ := t.ok h
      exact ⟨(a,b),h,qbP (qhr ha) hb⟩
    · cases h
def dF (f : FuncId) {α β : Type} (i : CL α) (t : DL β) : DL (α × β) where
  all p := i.all fun a => t.all fun b => p (a,b)
  enc a := .fn f (i.enc a.1) :: t.enc a.2
  dec vs K := match vs with | .fn g v :: r => (match Nat.beq g f with | true => i.dec v fun a => t.dec r fun b => K (a,b) | false => none) | _ => none
  allp h := fun a => t.allp (i.allp h a.1) a.2
  ok {vs K r} h := by
    split at h
    · split at h
      · rename_i hb
        obtain ⟨a,h2,rfl⟩ := i.ok h
        obtain ⟨b,h3,hb'⟩ := t.ok h2
        have hg := Nat.eq_of_beq_eq_true hb
        subst hg
        exact ⟨(a,b),h3,qbP qed hb'⟩
      · cases h
    · cases h
def oN : OL Unit where
 all p := p ()
 enc _ := []
 dec vs K := match vs with | [] => K () | _ => none
 allp h := fun _=>h
 ok {vs K r} h := by
  cases vs with
  | nil => exact ⟨(),h,rfl⟩
  | cons => cases h
def oR (e : Ty) (fz : Bool) {α : Type} (t : OL α) : OL (List e.den × α) where
  all p := ∀ x,t.all fun a => p (x,a)
  enc a := .row e a.1 fz :: t.enc a.2
  dec vs K := match vs with | v :: r => rowK e fz v fun x => t.dec r fun a => K (x,a) | _ => none
  allp h := fun a => t.allp (h a.1) a.2
  ok {vs K r} h := by
    cases vs with
    | nil => cases h
    | cons v vs =>
      obtain ⟨x,h2,rfl⟩ := qeG h
      obtain ⟨a,h3,rfl⟩ := t.ok h2
      exact ⟨_,h3,rfl⟩
def oM (ka : Bool) (k : Ty) (ea : Bool) (e : Ty) {α : Type} (t : OL α) : OL (List (k.den × e.den) × α) where
  all p := ∀ x,t.all fun a => p (x,a)
  enc a := .ext (.map ka k ea e a.1) :: t.enc a.2
  dec vs K := match vs with | v :: r => mapK ka k ea e v fun x => t.dec r fun a => K (x,a) | _ => none
  allp h := fun a => t.allp (h a.1) a.2
  ok {vs K r} h := by
    cases vs with
    | nil => cases h
    | cons v vs =>
      obtain ⟨x,h2,rfl⟩ := qeK h
      obtain ⟨a,h3,rfl⟩ := t.ok h2
      exact ⟨(x,a),h3,rfl⟩
def oV (n : Nat) {α β : Type} (i : CL α) (t : OL β) : OL (α × β) where
  all p := i.all fun a => t.all fun b => p (a,b)
  enc a := .var n (i.enc a.1) :: t.enc a.2
  dec vs K := match vs with | .var m v :: r => (match Nat.beq m n with | true => i.dec v fun a => t.dec r fun b => K (a,b) | false => none) | _ => none
  allp h := fun a => t.allp (i.allp h a.1) a.2
  ok {vs K r} h := by
    split at h
    · split at h
      · rename_i hb
        obtain ⟨a,h2,rfl⟩ := i.ok h
        obtain ⟨b,h3,rfl⟩ := t.ok h2
        rw [Nat.eq_of_beq_eq_true hb]
        exact ⟨(a,b),h3,rfl⟩
      · cases h
    · cases h
def oD {α : Type} (t : OL α) : OL α where
  all := t.all
  enc a := .dead :: t.enc a
  dec vs K := match vs with | .dead :: r => t.dec r K | _ => none
  allp := t.allp
  ok {vs K r} h := by
    split at h
    · obtain ⟨a,h3,rfl⟩ := t.ok h
      exact ⟨_,h3,rfl⟩
    · cases h
structure SP where
 {α : Type}
 {ω : Type}
 ms : List Mode
 A : DL α
 O : OL ω
 B : α → ω → ((β : Type) → Option β → (β → V) → (β → List AObj) → Option R) → Option R
 law : ∀ a o,∃ β F r os,∀ C,B a o C = C β F r os := by intros; exact ⟨_,_,_,_,fun _=>rfl⟩
def SP.fs (s : SP) : FSpec := ⟨s.ms,fun args objs K => s.A.dec args fun a => s.O.dec objs fun o => s.B a o fun _ F r os => bindO F fun x => K (r x) (os x)⟩
def SP.St (s : SP) (tt : Tab) (Γ : FEnv) (lv : Live) (fn : Func) (k : Nat) : Prop :=
 s.A.all fun a => s.O.all fun o => runF tt Γ lv fn k (s.A.enc a) (s.O.enc o) = s.B a o fun _ F r os => bindO F fun x => some (r x,os x)
theorem sn_ {P : Program} {tt : Tab} {Γ : FEnv} (hT : TabOK P tt) (hm : P.follows .mixedOrders = true) {s : SP} {f : FuncId} {fn : Func} {lv : Live} {k : Nat} (hf : P.funcs[f]? = some fn) (h1 : (fn.name == "runtime.NumGoroutine") = false) (h2 : fn.body.isNone = false)
  (hΓ : EnvOK P Γ) (h : s.St tt Γ lv fn k) : Sound P f s.fs := by
 refine ⟨⟨fn,hf,h1,h2⟩,fun args objs K r h0 => ?_⟩
 obtain ⟨a,h3,ha⟩ := s.A.ok h0
 obtain ⟨o,h4,rfl⟩ := s.O.ok h3
 have hr := s.O.allp (s.A.allp h a) o
 obtain ⟨_,F,rr,os,hl⟩ := s.law a o
 rw [hl] at h4 hr
 obtain ⟨x,hx,h5⟩ := qb0 h4
 exact ⟨_,_,h5,FnOK.args2 ha (qeQ hT hΓ hm hf (hr.trans (qbG hx)))⟩
end
end Go.Vm
