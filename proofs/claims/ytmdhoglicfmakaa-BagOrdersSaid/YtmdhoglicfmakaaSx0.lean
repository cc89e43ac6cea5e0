/- Own texts put together: VmSort, N19 .. -/
import Derived.Test.YtmdhoglicfmakaaVm2
import Derived.Test.YtmdhoglicfmakaaPl0
import Derived.Shelf.SlSortCmp.NoneTotal
import Derived.Shelf.SlLaysF0
import Derived.Test.YtmdhoglicfmakaaProg
set_option linter.unusedVariables false
set_option linter.unusedSimpArgs false
namespace Go.Vm
open Go Go.Shelf Go.RowKit Go.Proofs Go.Pf
open Go.Sort
variable {P : Program} {ρ : Go.Shelf.Ren}
abbrev eMsg : Ty := .pair (.int .i64) (.pair (.int .i64) (.pair (.int .i64) (.pair (.sl (.int .i64)) (.sl (.int .i64)))))
theorem qhD {α : Type} (f : α → BMsg) : SWO (ltOf fun x y => bcmp (f x) (f y)) where
 irrefl x := by show blt (f x) (f x) = false; rw [qa7]; omega
 trans x y z h1 h2 := by
  replace h1 := (qbF (f x) (f y)).1 h1
  replace h2 := (qbF (f y) (f z)).1 h2
  exact (qbF (f x) (f z)).2 (by omega)
 ntrans x y z h1 h2 := by
  replace h1 := (qa7 (f x) (f y)).1 h1
  replace h2 := (qa7 (f y) (f z)).1 h2
  exact (qa7 (f x) (f z)).2 (by omega)
theorem qf0 (hst : Strict) {g : FuncId} {r : Int} {x y : BMsg} (hC : FnOK P g [.agg (cellsOf eMsg x false),.agg (cellsOf eMsg y false)] [] (.i .i64 r) []) {W : World} (hlow : ∃ w0,BaseOK w0 ∧ ∀ b,b < w0.heap.size → W.heap[b]? = w0.heap[b]?)
  {us1 us2 : List Value} (h1 : Cells W S0 eMsg x us1) (h2 : Cells W S0 eMsg y us2) :
  Calls P g #[.agg us1.toArray,.agg us2.toArray] W fun e w' => e = .returned (.int .i64 r) ∧ ∃ q os',w' = grow (W.drewN q) os' := by
 obtain ⟨w0,hw0,hlow⟩ := hlow
 have hok : SOK (ctx0 W) (objsOf []) := ⟨⟨w0,hw0,fun b hb => ⟨id,hlow b hb⟩⟩,fun o => by rw [qam]; simp [ObjOK],fun _ _ _ h _ _ _ => by rw [qam] at h; simp [AObj.mut] at h,fun _ _ _ => id,fun _ h => h,fun _ h => h.elim,fun _ _ => rfl⟩
 refine (hC (ctx0 W) [.agg us1.toArray,.agg us2.toArray] rfl hok ⟨_,_,rfl,⟨us1,rfl,qay (c := ctx0 W) false eMsg x us1 h1⟩,_,_,rfl,⟨us2,rfl,qay (c := ctx0 W) false eMsg y us2 h2⟩,rfl⟩).mono fun e w' => ?_
 rintro ⟨u,c',rfl,rfl,hp⟩
 have hu : u = .int .i64 r := hp.rel
 subst hu
 have hstp := hp.step
 have hd := hp.drawn hst
 have hos : c'.w.os = W.os := hstp.os
 have hta : c'.w.tape = W.tape := hstp.tape
 have hou : c'.w.output = W.output := hstp.output
 have hsz : W.heap.size ≤ c'.w.heap.size := hstp.size
 have hhp : ∀ b,b < W.heap.size → c'.w.heap[b]? = W.heap[b]? := fun b hb => hstp.heap b hb fun ⟨j,x,h1,_,_⟩ => by simp at h1
 refine ⟨rfl,c'.w.drawn - W.drawn,c'.w.heap.extract W.heap.size c'.w.heap.size,?_⟩
 have hheap : c'.w.heap = W.heap ++ c'.w.heap.extract W.heap.size c'.w.heap.size := by
  apply Array.ext_getElem?
  intro k
  rw [Array.getElem?_append]
  split
  ·exact hhp k ‹_›
  ·rename_i hk
   rw [Array.getElem?_extract]
   by_cases hk2 : k < c'.w.heap.size
   ·rw [if_pos (by omega)]; congr 1; omega
   ·rw [if_neg (by omega),Array.getElem?_eq_none (by omega)]
 have hdr : c'.w.drawn = W.drawn + (c'.w.drawn - W.drawn) := by
  have hd : W.drawn ≤ c'.w.drawn := hd
  omega
 unfold grow World.drewN
 generalize c'.w.drawn - W.drawn = q at hdr
 generalize c'.w.heap.extract W.heap.size c'.w.heap.size = os at hheap
 revert hheap hdr hos hta hou
 generalize c'.w = w'
 intro hos hta hou hheap hdr
 cases w'
 cases W
 simp only at *
 subst hos hta hou hheap hdr
 rfl
theorem qbS {α : Type} [Inhabited α] (enc : α → List Value) (k : Nat) (w : World) (blk off m : Nat) (d : Array α) (os : Array Obj) {b : Nat} (hb : b < w.heap.size) (hne : b ≠ blk) : (sortWorldK enc k w blk off m d os).heap[b]? = w.heap[b]? := by
 show ((w.heap.modify blk _) ++ os)[b]? = _
 rw [Array.getElem?_append,if_pos (by simpa using hb),Array.getElem?_modify,if_neg (Ne.symm hne)]
theorem qbb {α : Type} [Inhabited α] (enc : α → List Value) (k : Nat) (w : World) (blk off m : Nat) (d : Array α) (os : Array Obj) : w.heap.size ≤ (sortWorldK enc k w blk off m d os).heap.size := by
 show _ ≤ ((w.heap.modify blk _) ++ os).size
 simp
theorem qdL {α : Type} [Inhabited α] (enc : α → List Value) (k : Nat) (w : World) (blk off m : Nat) (d : Array α) (os : Array Obj) {cur : Array Value} {el : TypeId} {fr : Nat × Nat} (hb : w.heap[blk]? = some (.cells cur el fr)) :
  (sortWorldK enc k w blk off m d os).heap[blk]? = some (.cells (putCells id off (flatK enc k d) cur) el fr) := by
 have hlt : blk < w.heap.size := (Array.getElem?_eq_some_iff.1 hb).1
 show ((w.heap.modify blk _) ++ os)[blk]? = _
 rw [Array.getElem?_append,if_pos (by simpa using hlt),Array.getElem?_modify,if_pos rfl,hb]
 rfl
theorem qcH {α : Type} [Inhabited α] (enc : α → List Value) (k : Nat) (hk : ∀ x,(enc x).length = k) (l : List α) : (flatK enc k l.toArray).toList = l.flatMap enc := by
 by_cases hk0 : k = 0
 ·have hn : ∀ x,enc x = [] := fun x => List.length_eq_zero_iff.1 (by rw [hk,hk0])
  apply List.ext_getElem?
  intro j
  have h1 : (flatK enc k l.toArray).toList = [] := List.length_eq_zero_iff.1 (by simp [flatK,hk0])
  have h2 : l.flatMap enc = [] := by simp [hn]
  rw [h1,h2]
 ·have hkp : 0 < k := Nat.pos_of_ne_zero hk0
  apply List.ext_getElem?
  intro j
  have hlen : ∀ l : List α,(l.flatMap enc).length = l.length * k := fun l => by
   induction l with
   | nil => simp
   | cons x r ih => rw [List.flatMap_cons,List.length_append,hk,ih,List.length_cons,Nat.succ_mul]; omega
  have key : ∀ (l : List α) (j : Nat),j < l.length * k → (l.flatMap enc)[j]? = some ((enc (l.getD (j / k) default)).getD (j % k) default) := by
   intro l
   induction l with
   | nil => intro j hj; simp at hj
   | cons x r ih =>
    intro j hj
    rw [List.flatMap_cons,List.getElem?_append]
    split
    ·rename_i h
     rw [hk] at h
     rw [Nat.div_eq_of_lt h,Nat.mod_eq_of_lt h]
     rw [List.getD_cons_zero,List.getD_eq_getElem?_getD,List.getElem?_eq_getElem (by rw [hk]; exact h)]; rfl
    ·rename_i h
     rw [hk] at h ⊢
     rw [List.length_cons,Nat.succ_mul] at hj
     rw [ih (j - k) (by omega)]
     have e1 : j / k = (j - k) / k + 1 := by
      rw [← Nat.sub_add_cancel (Nat.le_of_not_lt h),Nat.add_div_right _ hkp,Nat.add_sub_cancel]
     have e2 : j % k = (j - k) % k := by
      conv => lhs; rw [← Nat.sub_add_cancel (Nat.le_of_not_lt h)]
      rw [Nat.add_mod_right]
     rw [e1,e2,List.getD_cons_succ]
  by_cases hj : j < l.length * k
  ·rw [key l j hj,Array.getElem?_toList]
   have : j < (flatK enc k l.toArray).size := by simpa using hj
   rw [Array.getElem?_eq_getElem this]
   have hg := get_flatK enc k l.toArray j (by simpa using hj)
   rw [getElem!_pos _ j this] at hg
   rw [hg]
   simp [List.getD_eq_getElem?_getD,Array.getElem!_eq_getD,Array.getD_eq_getD_getElem?,List.getElem!_eq_getElem?_getD]
  ·rw [List.getElem?_eq_none (by simp; omega),List.getElem?_eq_none (by rw [hlen]; omega)]
theorem qeg {F cur : Array Value} (h : F.size ≤ cur.size) : (putCells id 0 F cur).size = cur.size ∧ (putCells id 0 F cur).toList.take F.size = F.toList := by
 refine ⟨by simp [putCells],?_⟩
 apply List.ext_getElem?
 intro j
 rw [List.getElem?_take]
 split
 ·rename_i hj
  rw [Array.getElem?_toList,Array.getElem?_toList]
  unfold putCells
  rw [Array.getElem?_mapIdx,Array.getElem?_eq_getElem (by omega : j < cur.size),Array.getElem?_eq_getElem hj]
  simp [hj]
 ·rw [List.getElem?_eq_none (by simp; omega)]
theorem qfk {g : FuncId} (hE : Enters P g) (args : Array Value) (w : World) : (callFunc g args).run P w = .ok (.enter g args) w := by
 obtain ⟨fn,h1,h2,h3⟩ := hE
 have h2' : ¬ ((fn.name == "runtime.NumGoroutine") = true) := by rw [h2]; exact Bool.false_ne_true
 have h3' : ¬ (fn.body.isNone = true) := by rw [h3]; exact Bool.false_ne_true
 simp only [callFunc,Sem.run_bind,run_program,Result.andThen_ok,h1]
 rw [if_neg h2',if_neg h3']
 rfl
theorem qcY {w : World} {S : Nat → Prop} {e : Ty} : ∀ (xs : List e.den) (cells : List Value),CellsL (Cells w S e) xs cells → ∀ (i : Nat) (x : e.den),xs[i]? = some x → Cells w S e x ((cells.drop (i * e.size)).take e.size)
 | [],_,_,i,x,h => by cases h
 | y :: r,_,⟨c1,c2,e1,h1,h2⟩,i,x,h => by
  subst e1
  have hl := Cells.len e y c1 h1
  cases i with
  | zero =>
   cases h
   rw [Nat.zero_mul,List.drop_zero,← hl,List.take_left']
   ·exact h1
   ·rfl
  | succ i =>
   have := qcY r c2 h2 i x h
   rw [Nat.succ_mul,Nat.add_comm,← List.drop_drop,← hl,List.drop_left' rfl,hl]
   exact this
theorem qbV {w : World} {S : Nat → Prop} {e : Ty} {ι : Type} (f : ι → e.den) (g : ι → List Value) (h : ∀ i,Cells w S e (f i) (g i)) : ∀ l : List ι,CellsL (Cells w S e) (l.map f) (l.flatMap g)
 | [] => rfl
 | i :: r => ⟨g i,r.flatMap g,by rw [List.flatMap_cons],h i,qbV f g h r⟩
theorem qfg {es : Nat} : ∀ (n : Nat) (cells : List Value),cells.length = n * es → (List.range n).flatMap (fun i => (cells.drop (i * es)).take es) = cells := by
 intro n
 induction n with
 | zero => intro cells h; simp at h; simp [h]
 | succ n ih =>
  intro cells h
  have h1 := ih (cells.take (n * es)) (by rw [List.length_take,h,Nat.succ_mul]; omega)
  rw [List.range_succ,List.flatMap_append,List.flatMap_singleton]
  have : (List.range n).flatMap (fun i => (cells.drop (i * es)).take es) = (List.range n).flatMap (fun i => ((cells.take (n * es)).drop (i * es)).take es) := by
   unfold List.flatMap
   congr 1
   apply List.map_congr_left
   intro i hi
   rw [List.mem_range] at hi
   rw [List.drop_take,List.take_take,Nat.min_eq_left]
   have : (i + 1) * es ≤ n * es := Nat.mul_le_mul_right _ hi
   rw [Nat.succ_mul] at this; omega
  rw [this,h1,List.take_of_length_le (l := cells.drop (n * es)) (by rw [List.length_drop,h,Nat.succ_mul]; omega),List.take_append_drop]
def spSort (g : FuncId) : FSpec := ⟨[.kp,.kp],fun args objs K => match args,objs with
 | [.own o,.fn f []],[x] => (match Nat.beq f g && Nat.beq o 0 with
  | true => rowK eMsg false x fun xs => req ((List.map mkey xs).Nodup ∧ xs.length ≤ 281474976710656) (K (.tup []) [.row eMsg (bsort xs) false])
  | false => none)
 | _,_ => none⟩
theorem sndSort (hst : Strict) {g : FuncId} (L : SlLaysF0.n6 P ρ) (aE : ∀ w,(isAgg (ρ.t 24)).run P w = .ok true w) (zE : ∀ w,(Go.sizeOf (ρ.t 24)).run P w = .ok 5 w) (hE : Enters P (ρ.f 6)) (hG : Enters P g)
  (hC : ∀ x y : BMsg,FnOK P g [.agg (cellsOf eMsg x false),.agg (cellsOf eMsg y false)] [] (.i .i64 (bcmp x y)) []) : Sound P (ρ.f 6) (spSort g) := by
 refine ⟨hE,fun args objs K r h => ?_⟩
 unfold spSort at h; dsimp only at h; split at h
 rotate_left
 ·cases h
 rename_i o f x
 split at h
 rotate_left
 ·cases h
 rename_i hb
 simp only [Bool.and_eq_true] at hb
 have hf : f = g := Nat.eq_of_beq_eq_true hb.1
 have ho : o = 0 := Nat.eq_of_beq_eq_true hb.2
 subst hf ho
 obtain ⟨xs,h9,rfl⟩ := qeG h; clear h
 obtain ⟨⟨hnd,hbig⟩,h9⟩ := qas h9
 refine ⟨_,_,h9,fun c vs hn hs hr => ?_⟩
 obtain ⟨u1,us1,rfl,⟨h0,rfl⟩,u2,us2,rfl,⟨us,rfl,e4⟩,e5⟩ := hr
 cases e4; cases e5
 have hlk : look .dead (objsOf [.row eMsg xs false]) 0 = .row eMsg xs false := by rw [qam]; rfl
 have hobj := hs.obj 0
 rw [hlk] at hobj
 obtain ⟨_,et,cells,hown,hcl,hob,hbl,hty⟩ := hobj
 have hclen := hcl.len (fun x cs h => Cells.len eMsg x cs h)
 have hmut : (look .dead (objsOf [.row eMsg xs false]) 0).mut = true := by rw [hlk]; rfl
 cases hx : xs with
 | nil =>
  have hs0 : bsort [] = [] := by unfold bsort; simp
  rw [hs0]
  subst hx
  have hh : ∃ p cap,c.hdr 0 = .slice p 0 cap := by
   rcases hown.2 with ⟨e,_⟩ | ⟨b,cap,cur,e,_⟩
   ·exact ⟨_,_,e⟩
   ·exact ⟨_,_,e⟩
  obtain ⟨p,cap,hh⟩ := hh
  rw [hh]
  refine (AnyF.slices_SortFunc_none L p cap _ c.w).mono fun e w' => ?_
  rintro ⟨rfl,rfl⟩
  refine ⟨_,c,rfl,rfl,⟨⟨rfl,rfl,rfl,Nat.le_refl _,Nat.le_refl _,fun _ _ => rfl,fun _ _ => rfl,fun _ _ _ _ => Iff.rfl,fun _ _ _ => rfl,fun _ _ _ => Iff.rfl,fun _ _ _ => Iff.rfl,fun b hb => ?_⟩,hs,⟨[],rfl,rfl⟩,hn,fun b h => .inr h,fun _=>Nat.le_refl _⟩⟩
  obtain ⟨j,hm,hb⟩ := qbq.1 hb
  exact hs.mutSB hm hb
 | cons x0 xr =>
  have hpos : 0 < xs.length := by rw [hx]; exact Nat.succ_pos _
  rw [← hx]
  clear hx
  rcases hown.2 with ⟨_,hz⟩ | ⟨b,cap,cur,hv,_,hhb,hcap,hmax,hcs,htk⟩
  ·omega
  have hbk : c.blk 0 = some b := by rw [← hob,hv]; rfl
  have hSB := (hbl b hbk).1 rfl
  have hSA := hs.sub b hSB
  have hblt := hs.bd b hSA
  haveI : Inhabited (Fin xs.length) := ⟨⟨0,hpos⟩⟩
  let enc : Fin xs.length → List Value := fun i => (cells.drop (i.1 * eMsg.size)).take eMsg.size
  have hcell : ∀ i : Fin xs.length,Cells c.w c.SA eMsg (xs.get i) (enc i) := fun i => qcY xs cells hcl i.1 _ (by simp)
  have hk : ∀ i,(enc i).length = 5 := fun i => Cells.len eMsg _ _ (hcell i)
  have h1 : ∀ i,∀ v ∈ enc i,v.oneCell' = true := fun i => Cells.one eMsg _ _ (hcell i)
  let cf : Fin xs.length → Fin xs.length → Int := fun i j => bcmp (xs.get i) (xs.get j)
  have hO : SWO (ltOf cf) := qhD (fun i => xs.get i)
  have hT : ∀ i j,ltOf cf i j = false → ltOf cf j i = false → i = j := fun i j a b => by
   have e := qgM (a := xs.get i) (b := xs.get j) a b
   have hi : (xs.map mkey)[i.1]? = (xs.map mkey)[j.1]? := by
    rw [List.getElem?_map,List.getElem?_map,List.getElem?_eq_getElem i.2,List.getElem?_eq_getElem j.2]
    exact congrArg some e
   have := (List.getElem?_inj (by simp) hnd).1 hi
   exact Fin.ext this
  let d : Array (Fin xs.length) := (List.finRange xs.length).toArray
  have hds : d.size = xs.length := by simp [d]
  have hfin : ∀ (F : Nat → List Value),(List.finRange xs.length).flatMap (fun i => F i.1) = (List.range xs.length).flatMap F := fun F => by
   have : List.range xs.length = (List.finRange xs.length).map (fun i => i.1) := by
    apply List.ext_getElem
    ·simp
    ·intro i _ _; simp
   rw [this,List.flatMap_map]
  have hflat : (flatK enc 5 d).toList = cells := by
   rw [qcH enc 5 hk]
   exact (hfin fun i => (cells.drop (i * eMsg.size)).take eMsg.size).trans (qfg _ _ hclen)
  have hfsz : (flatK enc 5 d).size = xs.length * 5 := by rw [size_flatK,hds]
  have hle : xs.length * 5 ≤ cur.size := by rw [hcs]; exact Nat.mul_le_mul_right _ hcap
  have hH : HoldsK enc 5 c.w b 0 d := fun j hj => by
   have hj5 : j < xs.length * 5 := by rw [← hfsz]; exact hj
   refine ⟨?_,by simp [World.frozen?,hhb]⟩
   have hjc : (flatK enc 5 d)[j]? = cur[j]? := by
    rw [← Array.getElem?_toList,hflat,← htk,List.getElem?_take,if_pos (show j < xs.length * eMsg.size from hj5),Array.getElem?_toList]
   have hjl : j < cur.size := by omega
   simp only [World.cell?,hhb,Nat.zero_add]
   rw [getElem!_pos _ j hj]
   rw [Array.getElem?_eq_getElem hj,Array.getElem?_eq_getElem hjl] at hjc
   simp [hjl,Option.some.inj hjc]
  have hW : ∀ (m : Nat) (os : Array Obj) (dk : Array (Fin xs.length)),Kept c.w (sortWorldK enc 5 c.w b 0 m dk os) c.SA c.SA := fun m os dk => ⟨qbb ..,fun g hS hg => ⟨qbS _ _ _ _ _ _ _ _ hg fun e => hS (e ▸ hSA),hS⟩⟩
  have hcmp : CmpLays P f #[] enc 5 cf b 0 d.size c.w := fun m os dk _ i j => by
   have hk0 : ∀ i,Cells (sortWorldK enc 5 c.w b 0 m dk os) S0 eMsg (xs.get i) (enc i) := fun i => Cells.mono ⟨(hW m os dk).1,fun g hS hg => ⟨((hW m os dk).2 g hS hg).1,id⟩⟩ eMsg _ _ (hcell i)
   obtain ⟨w0,hw0,hlow⟩ := hs.low
   exact qf0 hst (hC (xs.get i) (xs.get j)) ⟨w0,hw0,fun g hg => by
    obtain ⟨k1,k2⟩ := hlow g hg
    have hgl : g < c.w.heap.size := by
     rcases Nat.lt_or_ge g c.w.heap.size with h | h
     ·exact h
     ·rw [Array.getElem?_eq_none h,Array.getElem?_eq_getElem hg] at k2; cases k2
    rw [((hW m os dk).2 g k1 hgl).1,k2]⟩ (hk0 i) (hk0 j)
  have hsz : d.size < 4611686018427387904 := by
   rw [hds]; omega
  rw [hv]
  have hcall := AnyQ.slices_SortFunc_total L 5 aE zE enc hk h1 cf hO f #[] b 0 cap d c.w (qfk hG) hcmp hH hblt hsz hT
  rw [hds] at hcall
  refine hcall.mono fun e w' => ?_
  rintro ⟨rfl,nd,os,rfl⟩
  let l' : List (Fin xs.length) := d.toList.mergeSort fun x y => !(ltOf cf) y x
  have hl' : l'.map (fun i => xs.get i) = bsort xs := by
   refine (List.map_mergeSort (r := fun x y => !(ltOf cf) y x) (s := fun x y : BMsg => !blt y x) (f := fun i => xs.get i) (l := d.toList) (fun a _ b _ => rfl)).trans ?_
   unfold bsort
   congr 1
   apply List.ext_getElem
   ·simp [d]
   ·intro i _ _; simp [d]
  have hln : l'.length = xs.length := by show (d.toList.mergeSort _).length = _; rw [List.length_mergeSort]; simp [d]
  let w' : World := sortWorldK enc 5 c.w b 0 nd l'.toArray os
  let c' : Ctx := { c with w := w' }
  have hk' : Kept c.w w' c.SA c.SA := hW nd os l'.toArray
  have hF : (flatK enc 5 l'.toArray).size = xs.length * 5 := by rw [size_flatK]; simp [hln]
  obtain ⟨hp1,hp2⟩ := qeg (F := flatK enc 5 l'.toArray) (cur := cur) (by rw [hF]; exact hle)
  have hb' : w'.heap[b]? = some (.cells (putCells id 0 (flatK enc 5 l'.toArray) cur) et (0,0)) := qdL _ _ _ _ _ _ _ _ hhb
  have hblen : (bsort xs).length = xs.length := by rw [← hl',List.length_map,hln]
  have hnew : ObjOK c' 0 (.row eMsg (bsort xs) false) := by
   refine ⟨h0,et,l'.flatMap enc,⟨?_,.inr ⟨b,cap,_,by rw [hblen]; exact hv,Nat.zero_le _,hb',by rw [hblen]; exact hcap,hmax,by rw [hp1]; exact hcs,?_⟩⟩,?_,hob,fun g hg => ⟨fun _=>(hbl g hg).1 rfl,fun h => (by cases h)⟩,hty⟩
   ·rw [← qcH enc 5 hk,Array.length_toList,hF,hblen]; rfl
   ·rw [hblen,← qcH enc 5 hk,← hp2,hF]; rfl
   ·rw [← hl']
    exact qbV _ _ (fun i => Cells.mono hk' eMsg _ _ (hcell i)) l'
  have hD : ∀ g,Dof c (objsOf [.row eMsg xs false]) [(0,.row eMsg (bsort xs) false)] g ↔ g = b := fun g => by
   constructor
   ·rintro ⟨o',ho',hm',hb''⟩
    simp at ho'; subst ho'
    have := hs.has_flat (by rw [hlk]; rfl) hb''
    rw [hbk] at this; exact (Option.some.inj this).symm
   ·rintro rfl; exact ⟨0,by simp,hmut,.inl hbk⟩
  have hst' : Step c c' (Dof c (objsOf [.row eMsg xs false]) [(0,.row eMsg (bsort xs) false)]) := by
   refine ⟨rfl,rfl,rfl,qbb ..,Nat.le_refl _,fun _ _ => rfl,fun _ _ => rfl,fun _ _ _ _ => Iff.rfl,fun g hg hn => ?_,fun _ _ _ => Iff.rfl,fun _ _ _ => Iff.rfl,fun g h => h.sb hs⟩
   exact qbS _ _ _ _ _ _ _ _ hg fun e => hn ((hD g).2 e)
  have hl1 : look .dead [(0,AObj.row eMsg (bsort xs) false)] 0 = .row eMsg (bsort xs) false := by rw [qae,if_pos rfl]
  have hok' := hs.step (ch := [(0,.row eMsg (bsort xs) false)]) hst' (fun o' ho' => by simp at ho'; subst ho'; rw [hl1]; exact hnew)
   (fun o' g ho' _ hg => by
    simp at ho'; subst ho'
    exact .inr ((hD g).2 (by have := hs.has_flat (by rw [hlk]; rfl) (show c.has 0 g from hg); rw [hbk] at this; exact (Option.some.inj this).symm)))
   (fun o1 o2 g h1 h2 _ _ _ _ => by simp at h1 h2; omega) (hs.flat_of fun o' ho' => by simp at ho'; subst ho'; rw [hlk]; rfl) hs.sub (fun g hg => Nat.lt_of_lt_of_le (hs.bd g hg) (qbb ..)) hs.one
  have hlo : ∀ o',look .dead (objsOf [AObj.row eMsg (bsort xs) false]) o' = look .dead ([(0,AObj.row eMsg (bsort xs) false)] ++ objsOf [.row eMsg xs false]) o' := fun o' => by
   rw [show [(0,AObj.row eMsg (bsort xs) false)] ++ objsOf [.row eMsg xs false] = (0,AObj.row eMsg (bsort xs) false) :: objsOf [.row eMsg xs false] from rfl,qae,qam,qam]
   cases o' with
   | zero => rfl
   | succ o' => rw [if_neg (by omega)]; rfl
  have hLD : ∀ g,Lof c [.row eMsg xs false] g ↔ g = b := fun g => by
   constructor
   ·intro h
    obtain ⟨j,hm,hg⟩ := qbq.1 h
    cases j with
    | zero => have := hs.has_flat (by rw [hlk]; rfl) hg; rw [hbk] at this; exact (Option.some.inj this).symm
    | succ j => rw [qam] at hm; cases hm
   ·rintro rfl; exact qbq.2 ⟨0,hmut,.inl hbk⟩
  refine ⟨_,c',rfl,rfl,⟨⟨rfl,rfl,rfl,hst'.size,Nat.le_refl _,fun _ _ => rfl,fun _ _ => rfl,fun _ _ _ _ => Iff.rfl,fun g hg hn => hst'.heap g hg fun h => hn ((hLD g).2 ((hD g).1 h)),fun _ _ _ => Iff.rfl,fun _ _ _ => Iff.rfl,fun g h => by rw [(hLD g).1 h]; exact hSB⟩,SOK.congr hlo hok',⟨[],rfl,rfl⟩,hn,fun g h => ?_,fun _=>?_⟩⟩
  ·obtain ⟨j,hm,hg⟩ := qbq.1 h
   cases j with
   | zero => exact .inr ((hLD g).2 (by have := hs.has_flat (by rw [hlk]; rfl) (show c.has 0 g from hg); rw [hbk] at this; exact (Option.some.inj this).symm))
   | succ j => rw [qam] at hm; cases hm
  ·show c.w.drawn ≤ c.w.drawn + nd
   exact Nat.le_add_right _ _
end Go.Vm

namespace Go.Proofs
open Go.Shelf
def Try.sortMsg_ren : Go.Shelf.Ren := ⟨fun | 6 => 22 | 15 => 31 | 14 => 30 | 28 => 41 | 29 => 42 | 20 => 33 | 21 => 34 | 22 => 35 | 23 => 36 | 24 => 37 | 25 => 38 | 26 => 39 | 27 => 40 | 46 => 43 | 47 => 44 | 48 => 45 | 49 => 46 | 50 => 47 | 57 => 48 | n => n,fun | 22 => 43 | 24 => 41 | 25 => 63 | 3 => 3 | 39 => 70 | 0 => 0 | 53 => 81 | 55 => 83 | 4 => 4 | 46 => 74 | 45 => 73 | 50 => 78 | 5 => 5 | 9 => 9 | 66 => 84 | 70 => 88 | 76 => 90 | 77 => 91 | n => n,fun | n => n⟩
theorem Try.sortMsg : Go.Proofs.SlLaysF0.n6 Try.prog Try.sortMsg_ren := {
 mixed := by kernel_rfl
 f6 := ⟨Try.f22.name,by decide,Try.func22.trans (congrArg some (by kernel_rfl))⟩
 f14 := ⟨Try.f30.name,by decide,Try.func30.trans (congrArg some (by kernel_rfl))⟩
 f15 := Try.func31.trans (congrArg some (by kernel_rfl))
 f20 := ⟨Try.f33.name,by decide,Try.func33.trans (congrArg some (by kernel_rfl))⟩
 f21 := ⟨Try.f34.name,by decide,Try.func34.trans (congrArg some (by kernel_rfl))⟩
 f22 := ⟨Try.f35.name,by decide,Try.func35.trans (congrArg some (by kernel_rfl))⟩
 f23 := ⟨Try.f36.name,by decide,Try.func36.trans (congrArg some (by kernel_rfl))⟩
 f24 := ⟨Try.f37.name,by decide,Try.func37.trans (congrArg some (by kernel_rfl))⟩
 f25 := ⟨Try.f38.name,by decide,Try.func38.trans (congrArg some (by kernel_rfl))⟩
 f26 := ⟨Try.f39.name,by decide,Try.func39.trans (congrArg some (by kernel_rfl))⟩
 f27 := ⟨Try.f40.name,by decide,Try.func40.trans (congrArg some (by kernel_rfl))⟩
 f28 := Try.func41.trans (congrArg some (by kernel_rfl))
 f29 := Try.func42.trans (congrArg some (by kernel_rfl))
 f46 := ⟨Try.f43.name,by decide,Try.func43.trans (congrArg some (by kernel_rfl))⟩
 f47 := Try.func44.trans (congrArg some (by kernel_rfl))
 f48 := Try.func45.trans (congrArg some (by kernel_rfl))
 f49 := ⟨Try.f46.name,by decide,Try.func46.trans (congrArg some (by kernel_rfl))⟩
 f50 := ⟨Try.f47.name,by decide,Try.func47.trans (congrArg some (by kernel_rfl))⟩
 f57 := ⟨Try.f48.name,by decide,Try.func48.trans (congrArg some (by kernel_rfl))⟩
 t0 := Try.underlying0
 a0 := Try.isAgg0
 z0 := Try.sizeOf0
 v0 := Try.zeroValue0
 t3 := Try.underlying3
 a3 := Try.isAgg3
 z3 := Try.sizeOf3
 v3 := Try.zeroValue3
 t4 := Try.underlying4
 a4 := Try.isAgg4
 z4 := Try.sizeOf4
 v4 := Try.zeroValue4
 t5 := Try.underlying5
 a5 := Try.isAgg5
 z5 := Try.sizeOf5
 v5 := Try.zeroValue5
 t9 := Try.underlying9
 a9 := Try.isAgg9
 z9 := Try.sizeOf9
 v9 := Try.zeroValue9
 t22 := Try.underlying43
 a22 := Try.isAgg43
 z22 := Try.sizeOf43
 v22 := Try.zeroValue43
 t25 := Try.underlying63
 a25 := Try.isAgg63
 z25 := Try.sizeOf63
 v25 := Try.zeroValue63
 t39 := Try.underlying70
 a39 := Try.isAgg70
 z39 := Try.sizeOf70
 v39 := Try.zeroValue70
 t45 := Try.underlying73
 a45 := Try.isAgg73
 z45 := Try.sizeOf73
 v45 := Try.zeroValue73
 t46 := Try.underlying74
 a46 := Try.isAgg74
 z46 := Try.sizeOf74
 v46 := Try.zeroValue74
 t50 := Try.underlying78
 a50 := Try.isAgg78
 z50 := Try.sizeOf78
 v50 := Try.zeroValue78
 t53 := Try.underlying81
 a53 := Try.isAgg81
 z53 := Try.sizeOf81
 v53 := Try.zeroValue81
 t55 := Try.underlying83
 a55 := Try.isAgg83
 z55 := Try.sizeOf83
 v55 := Try.zeroValue83
 t66 := Try.underlying84
 a66 := Try.isAgg84
 z66 := Try.sizeOf84
 v66 := Try.zeroValue84
 t70 := Try.underlying88
 a70 := Try.isAgg88
 z70 := Try.sizeOf88
 v70 := Try.zeroValue88
 t76 := Try.underlying90
 a76 := Try.isAgg90
 z76 := Try.sizeOf90
 v76 := Try.zeroValue90
 t77 := Try.underlying91
 a77 := Try.isAgg91
 z77 := Try.sizeOf91
 v77 := Try.zeroValue91 }
end Go.Proofs
