/- Own texts put together: Vm19b, Vm19c, Vm20 .. -/
import Derived.Test.YtjamdeehpblflaaGreatDoorVm0
import Derived.Laws.RangeString
import Derived.ChangeKeysEq
import Derived.LoopN
import Derived.Laws.BitsLemmas
import Derived.OpenShut
import Derived.SizedLaws
import Derived.Carry
import Derived.DataElems
import Derived.ProofKit
import Derived.Lib.ItoaNum
import Derived.Lib.Join
import Derived.Lib.ParseIntB
import Derived.Laws.BytesArg
import Derived.Shelf.Strconv.Itoa4
import Derived.Shelf.Strings.OnBuilder
import Derived.Shelf.Strings.BuilderF
import Derived.Shelf.Strconv.ErrVarParseInt
import Derived.Lib.AtoiErrMem
open Nat renaming eq_of_beq_eq_true→vaa, zero_add→vac, lt_of_lt_of_le→vad, le_refl→vaf, le_of_ble_eq_true→vah, beq→vaj, add_zero→van, le_trans→vaB, lt_succ_self→vaE, ble→vaF, min_eq_left→vaL, zero_le→vaQ, blt→vaR, lt_or_ge→vaX, lt_irrefl→va4, testBit_lt_two_pow→vbg, sub_zero→vbj, add_comm→vbk, pow_le_pow_right→vbn, mul_le_mul_right→vbo, shiftLeft_eq→vbw
open Bool renaming and_eq_true→vab, false_ne_true→vaq, not_eq_true'→vaw, or_eq_true_iff→va2, or_eq_true→vbz
open Array renaming getD_eq_getD_getElem?→vae, getElem?_eq_some_iff→vai, replicate→vaI, toList_inj→vaP, getElem?_modify→vaU, length_toList→va0, getElem?_setIfInBounds_ne→va5, getElem?_replicate→vbc, getElem?_eq_none→vbd, getElem?_append→vbf, toList_map→vbt
open List renaming getElem?_eq_some_iff→vag, getElem?_map→vak, mem_append_right→vam, getD_eq_getElem?_getD→vao, mem_cons→vap, map_toArray→vas, all_eq_true→vat, mem_append→vau, map_append→vav, mem_append_left→vax, getElem?_eq_getElem→vay, getElem?_drop→vaz, range→vaA, length_cons→vaC, eq_nil_of_length_eq_zero→vaD, mem_cons_of_mem→vaG, map_cons→vaH, toList_toArray→vaJ, nil_append→vaK, append_assoc→vaM, range'→vaN, all_cons→vaO, length_take→vaS, any_eq_true→vaT, take_append_drop→vaV, mem_map→vaW, isEmpty_toArray→vaY, drop_drop→vaZ, mem_map_of_mem→va1, mem_singleton→va3, toArray→va6, range'_succ→va7, cons→va8, append_nil→va9, getElem?_append_left→vba, drop_eq_getElem_cons→vbb, drop_eq_nil_of_le→vbe, getElem?_toArray→vbh, getElem?_eq_none→vbi, range_eq_range'→vbl, mem_of_getElem?→vbm, map_congr_left→vbp, mem_cons_self→vbq, getElem?_take→vbr, any_eq_false→vbs, countP_cons→vbu, cons_append→vbv, length_map→vbx, drop→vby
set_option linter.unusedVariables false
set_option linter.unusedSimpArgs false
namespace Go.Vm
open Go
variable {P : Program} {tt : Tab}
theorem TabOK.str {t : Nat} (h : TabOK P tt) (hk : (tt.row t).k.isStr = true) : P.underlying t = some .string := by
 obtain ⟨d,i,z,hd,_,_,hkd,_⟩ := (h.row (t := t) (by cases hh : (tt.row t).k <;> simp_all [TK.isStr,TK.isOther])).out
 cases hh : (tt.row t).k <;> simp [hh,TK.isStr] at hk
 rw [hh] at hkd
 cases d <;> simp [kindB] at hkd
 exact hd
theorem TabOK.rune {t : Nat} (h : TabOK P tt) (hk : (tt.row t).k.isRune = true) : P.underlying t = some (.int .i32) := by
 have hk' : (tt.row t).k = .int .i32 := by
  revert hk
  cases (tt.row t).k <;> simp only [TK.isRune] <;> intro h <;> first | cases h; done | skip
  rename_i k
  cases k <;> simp at h ⊢
 obtain ⟨d,i,z,hd,_,_,hkd,_⟩ := (h.row (t := t) (by rw [hk']; rfl)).out
 rw [hk'] at hkd
 cases d <;> simp [kindB] at hkd
 rw [<- hkd] at hd; exact hd
theorem Done.newExt {c : Ctx} {objs : Objs} (hs : SOK c objs) {ob : Obj} {x : Ext} {hv : Value} {v : V} {u : Value} (hone : hv.oneCell' = true) (hx : ExtRel c.w c.SA x ob) (hm : x.isMap = true -> hv = .map (some c.w.heap.size))
  (hr : Rel (addCtx c (c.w.alloc ob) hv (some c.w.heap.size)) v u) : Done c objs (addCtx c (c.w.alloc ob) hv (some c.w.heap.size)) v u [(c.nx,.ext x)] (c.nx + 1) := by
 have hold : ∀ b,b < c.w.heap.size -> (c.w.alloc ob).heap[b]? = c.w.heap[b]? := fun b hb => Go.RowKit.Below.heap_alloc _ _ _ hb
 have hk : Kept c.w (c.w.alloc ob) c.SA (addCtx c (c.w.alloc ob) hv (some c.w.heap.size)).SA := ⟨by simp,fun b hS hlt => ⟨hold b hlt,fun h => by
  rcases h with h | h
  ·exact hS h
  ·cases h; omega⟩⟩
 refine Done.new hs rfl rfl rfl (by simp) hold (fun b h => by cases h; exact ⟨vaf _,by simp⟩) hone ⟨vaE _,c.w.heap.size,ob,by simp [addCtx],?_,hx.mono hk,.inr rfl,fun e => by simp [addCtx,hm e]⟩ hr
 show (c.w.heap.push _)[c.w.heap.size]? = _
 simp
theorem Done.updExt {c : Ctx} {objs : Objs} (hs : SOK c objs) {o : Nat} {x x' : Ext} {ob' : Obj} (ho : look .dead objs o = .ext x) {b : Nat} (hb : c.blk o = some b) (hm : x'.isMap = true -> x.isMap = true) {v : V} {u : Value}
  (hx : ExtRel c.w c.SA x' ob') (hr : ∀ c' : Ctx,c'.nx = c.nx -> c'.hdr = c.hdr -> c'.blk = c.blk -> Step c c' (Dof c objs [(o,.ext x')]) -> Rel c' v u) :
  ∃ c',c'.w = { c.w with heap := c.w.heap.setIfInBounds b ob' } /\ Done c objs c' v u [(o,.ext x')] c.nx := by
 have hobj := hs.obj o
 rw [ho] at hobj
 obtain ⟨h0,b',ob,hb',hh,hr0,hsb,hmp⟩ := hobj
 rw [hb] at hb'; cases hb'
 have hlt : b < c.w.heap.size := (vai.1 hh).1
 have hmut : (look .dead objs o).mut = true := by rw [ho]; rfl
 have hne : ∀ k,k ≠ b -> (c.w.heap.setIfInBounds b ob')[k]? = c.w.heap[k]? := fun k hk => va5 (Ne.symm hk)
 have hD : Dof c objs [(o,.ext x')] b := ⟨o,by simp,hmut,hb⟩
 have hst : Step c { c with w := { c.w with heap := c.w.heap.setIfInBounds b ob' } } (Dof c objs [(o,.ext x')]) :=
  ⟨rfl,rfl,rfl,by simp,vaf _,fun _ _ => rfl,fun _ _ => rfl,fun k _ hk => hne k fun e => hk (e ▸ hD),fun _ _ _ => Iff.rfl,fun _ _ _ => Iff.rfl,fun k h => h.sb hs⟩
 have hk : Kept c.w { c.w with heap := c.w.heap.setIfInBounds b ob' } c.SA c.SA := ⟨by simp,fun k hS hlt => ⟨hne k fun e => hS (e ▸ hs.sub b hsb),hS⟩⟩
 refine ⟨{ c with w := { c.w with heap := c.w.heap.setIfInBounds b ob' } },rfl,Done.upd (w := { c.w with heap := c.w.heap.setIfInBounds b ob' }) hs hmut hb rfl rfl rfl (by simp) hne ⟨h0,b,ob',hb,?_,hx.mono hk,hsb,fun e => hmp (hm e)⟩ (hr _ rfl rfl rfl hst)⟩
 show (c.w.heap.setIfInBounds b ob')[b]? = _
 rw [Array.getElem?_setIfInBounds_self_of_lt hlt]
theorem qky (hT : TabOK P tt) {t : Nat} {objs : Objs} {x : V} {K : V -> Objs -> Nat -> Option R} {r : R} {c : Ctx} (hs : SOK c objs) {u : Value} (hx : Rel c x u) (h : rangeV tt t c.nx x K = some r) :
  ∃ v ch nx' z c',K v ch nx' = some r /\ Done c objs c' v z ch nx' /\ (Instr.range t u).run P c.w = .ok z c'.w /\ ∀ o' ∈ ch.map (·.1),c.nx <= o' := by
 unfold rangeV at h
 split at h
 ·rename_i a hk
  simp only [Rel] at hx
  subst hx
  refine ⟨_,_,_,.pointer (some ⟨c.w.heap.size,0,none⟩),_,h,Done.newExt hs (hv := .slice none 0 0) (ob := .stringIter a 0) rfl rfl (by intro e; cases e) ⟨vaE _,c.w.heap.size,by simp [addCtx],rfl⟩,run_range_string c.w t a (hT.str hk),fun o' ho' => by simp at ho'; omega⟩
 ·cases h
theorem qlt {objs : Objs} {it : V} {isS : Bool} {md : List Nat} {K : V -> Objs -> Nat -> Option R} {r : R} {c : Ctx} (hs : SOK c objs) {u : Value} (hx : Rel c it u) (ty : TypeId) (h : nextV objs c.nx it isS md K = some r) :
  ∃ v ch nx' z c',K v ch nx' = some r /\ Done c objs c' v z ch nx' /\ (Instr.next u isS ty).run P c.w = .ok z c'.w /\ ∀ o' ∈ ch.map (·.1),o' ∈ md := by
 unfold nextV at h
 split at h
 ·rename_i o off
  split at h
  ·rename_i s p ho
   split at h
   ·rename_i hm
    simp only [vab] at hm
    have h0 : off = 0 := vaa hm.1
    subst h0
    obtain ⟨_,b,hb,rfl⟩ := hx
    have hobj := hs.obj o
    rw [ho] at hobj
    obtain ⟨_,b',ob,hb',hh,hr0,hsb,_⟩ := hobj
    rw [hb] at hb'; cases hb'
    have hr0 : ob = .stringIter s p := hr0
    subst hr0
    rcases qe5 h with ⟨hp,h⟩ | ⟨hp,h⟩
    ·have hp : p < s.size := of_decide_eq_true hp
     obtain ⟨c',hw,hd⟩ := Done.updExt hs ho hb (x' := .iter s (p + (Utf8.decode s p).2)) (ob' := .stringIter s (p + (Utf8.decode s p).2)) (by intro e; cases e) (v := .tup [.b true,.i .i64 p,.i .i32 (Utf8.decode s p).1])
      (u := .tuple #[.bool true,.int .i64 p,.int .i32 (Utf8.decode s p).1]) rfl (fun c' _ _ _ _ => ⟨[.bool true,.int .i64 p,.int .i32 (Utf8.decode s p).1],rfl,_,_,rfl,rfl,_,_,rfl,rfl,_,_,rfl,rfl,rfl⟩)
     refine ⟨_,_,_,_,c',h,hd,?_,fun o' ho' => by simp at ho'; rw [ho']; exact qa1.1 hm.2⟩
     rw [hw]
     simp [Instr.next,getObj,setObj,Sem.run,hh,hp,goInt]
    ·have hp : ¬ p < s.size := of_decide_eq_false hp
     refine ⟨_,_,_,.tuple #[.bool false],c,h,Done.pure hs ⟨[.bool false],rfl,_,_,rfl,rfl,rfl⟩,?_,fun o' ho' => by cases ho'⟩
     simp [Instr.next,getObj,Sem.run,hh,hp]
   ·cases h
  ·cases h
 ·cases h
theorem qhQ {w : World} {S : Nat -> Prop} : ∀ {xs : List Int} {cs : List Value},CellsL (Cells w S (.int .i32)) xs cs -> cs = xs.map (Value.int .i32)
 | [],_,h => h
 | x :: r,_,⟨c1,c2,e,h1,h2⟩ => by
  have h1 : c1 = [.int .i32 x] := h1
  rw [e,h1,qhQ h2]; rfl
theorem qiB {w : World} {S : Nat -> Prop} : ∀ {xs : List Int} {cs : List Value},CellsL (Cells w S (.int .u8)) xs cs -> cs = xs.map (Value.int .u8)
 | [],_,h => h
 | x :: r,_,⟨c1,c2,e,h1,h2⟩ => by
  have h1 : c1 = [.int .u8 x] := h1
  rw [e,h1,qiB h2]; rfl
theorem TabOK.byte {t : Nat} (h : TabOK P tt) (hk : (tt.row t).k.isByte = true) : P.underlying t = some (.int .u8) := by
 have hk' : (tt.row t).k = .int .u8 := by
  revert hk
  cases (tt.row t).k <;> simp only [TK.isByte] <;> intro h <;> first | cases h; done | skip
  rename_i k
  cases k <;> simp at h ⊢
 obtain ⟨d,i,z,hd,_,_,hkd,_⟩ := (h.row (t := t) (by rw [hk']; rfl)).out
 rw [hk'] at hkd
 cases d <;> simp [kindB] at hkd
 subst hkd; exact hd
theorem qlN (hT : TabOK P tt) {src t : Nat} {objs : Objs} {x : V} {K : V -> Option R} {r : R} {c : Ctx} (hs : SOK c objs) {u : Value} (hx : Rel c x u) (h : convV tt objs src t x K = some r) :
  ∃ q z,K q = some r /\ Rel c q z /\ (convert src t u).run P c.w = .ok z c.w := by
 unfold convV at h
 split at h
 ·cases h
 rename_i hso
 obtain ⟨ds,_,_,hds,_⟩ := (hT.row hso).out
 split at h
 ·rename_i k k' n hk
  simp only [Rel] at hx
  obtain ⟨d',i',z',hd',_,_,hkd,_⟩ := (hT.row (t := t) (by rw [hk]; rfl)).out
  have hdi : d' = .int k := by
   rw [hk] at hkd
   cases d' <;> simp [kindB] at hkd
   rw [hkd]
  subst hdi
  refine ⟨_,.int k (k.wrap n),h,rfl,?_⟩
  rw [hx]
  simp [convert,run_underlying hds,run_underlying hd',Conv.intToInt]
 ·rename_i k' n hk
  simp only [Rel] at hx
  have hd' := hT.str (t := t) (by rw [hk]; rfl)
  refine ⟨_,.string (Utf8.encode n),h,rfl,?_⟩
  rw [hx]
  simp [convert,run_underlying hds,run_underlying hd',Conv.intToString]
 ·rename_i a hk
  simp only [Rel] at hx
  have hd' := hT.str (t := t) (by rw [hk]; rfl)
  refine ⟨_,.string a,h,rfl,?_⟩
  rw [hx]
  simp [convert,run_underlying hds,run_underlying hd']
 ·rename_i v hk _ _
  have hd' := hT.str (t := t) (by rw [hk]; rfl)
  split at h
  ·rename_i e hse
   split at h
   ·rename_i he
    obtain ⟨xs,bor,h,a,n,k,cells,hu,hn,hc,hor⟩ := qeG hs hx h
    have hc := qhQ hc
    have hsl := hT.slk hse
    have her := hT.rune he
    refine ⟨_,.string (runesBytes xs),h,rfl,?_⟩
    subst hu hn
    cases a with
    | none =>
     rcases hor with hx | ⟨b,off,ha,_⟩
     ·subst hx
      exact run_convert_runes_nil c.w src t e _ _ hsl her hd'
     ·cases ha
    | some ad =>
     have hat : ∀ j,j < xs.length -> c.w.cell? (ad.add j) = some (.int .i32 (xs.getD j 0)) := fun j hj => by
      rcases hor with hx | ⟨b,off,ha,hat⟩
      ·subst hx; simp at hj
      ·cases ha
       rw [Addr.add_lit]
       refine hat j _ ?_
       rw [hc,vak,vao,vay hj]; rfl
     have := run_convert_runes (P := P) c.w src t e ad xs.length k xs (vaf _) hsl her hd' hat
     rwa [List.take_length] at this
   ·split at h
    ·rename_i _ he
     obtain ⟨xs,bor,h,a,n,k,cells,hu,hn,hc,hor⟩ := qeG hs hx h
     have hc := qiB hc
     have hsl := hT.slk hse
     have heb := hT.byte he
     refine ⟨_,.string (strOfNums xs),h,rfl,?_⟩
     subst hu hn
     cases a with
     | none =>
      rcases hor with hx | ⟨b,off,ha,_⟩
      ·subst hx
       exact run_convert_bytes_nil c.w src e hsl heb _ _ t hd'
      ·cases ha
     | some ad =>
      rcases hor with hx | ⟨b,off,ha,hat⟩
      ·subst hx
       rw [show ([] : List (Ty.int .u8).den).length = 0 from rfl,run_convert_bytes_string c.w src t e _ _ _ hsl heb hd']
       simp [Conv.bytesToString,loadCells]
       rfl
      ·cases ha
       refine run_convert_bytes_arg c.w src e hsl heb b off _ k xs rfl (fun j hj => hat j _ ?_) t hd'
       rw [hc,vak,vao,vay hj]; rfl
    ·cases h
  ·cases h
 ·cases h
end Go.Vm

namespace Go.Vm
open Go
variable {P : Program} {tt : Tab}
def intsL (q : IntKind) : (n : Nat) -> (ints q n).den -> List Int
 | 0,_ => []
 | 1,x => [x]
 | n + 2,x => x.1 :: intsL q (n + 1) x.2
theorem qgk (q : IntKind) : ∀ (n : Nat) (x : (ints q n).den),(intsL q n x).length = n
 | 0,_ => rfl
 | 1,_ => rfl
 | n + 2,x => by show (intsL q (n + 1) x.2).length + 1 = _; rw [qgk q (n + 1)]
theorem qdI {w : World} {S : Nat -> Prop} (q : IntKind) : ∀ (n : Nat) (x : (ints q n).den) (cs : List Value),Cells w S (ints q n) x cs -> cs = (intsL q n x).map (Value.int q)
 | 0,_,_,h => h
 | 1,_,_,h => h
 | n + 2,x,_,⟨c1,c2,e,h1,h2⟩ => by
  have h1 : c1 = [.int q x.1] := h1
  rw [e,h1,qdI q (n + 1) x.2 c2 h2]; rfl
theorem qlD (q : IntKind) : ∀ (n : Nat) (x y : (ints q n).den),keyEq (ints q n) x y = decide (intsL q n x = intsL q n y)
 | 0,_,_ => rfl
 | 1,(x : Int),(y : Int) => by
  show decide (x = y) = decide ([x] = [y])
  simp
 | n + 2,x,y => by
  show (match decide ((x.1 : Int) = y.1) with | true => keyEq (ints q (n + 1)) x.2 y.2 | false => false) = decide ((x.1 : Int) :: intsL q (n + 1) x.2 = (y.1 : Int) :: intsL q (n + 1) y.2)
  rw [qlD q (n + 1)]
  by_cases h : (x.1 : Int) = y.1
  ·rw [decide_eq_true h]; simp [h]
  ·rw [decide_eq_false h]; simp [h]
inductive KeyOK (P : Program) (kt : TypeId) : (ka : Bool) -> (k : Ty) -> Prop
 | int (q : IntKind) (h : P.underlying kt = some (.int q)) : KeyOK P kt false (.int q)
 | arr (q : IntKind) (n : Nat) (e : TypeId) (h : P.underlying kt = some (.array n e)) (he : P.underlying e = some (.int q)) (hc : P.cellsOf e = 1) : KeyOK P kt true (ints q n)
theorem qlz (hT : TabOK P tt) {kt : Nat} {ka : Bool} {k : Ty} (h : keyB tt kt ka k = true) : KeyOK P kt ka k := by
 unfold keyB at h
 split at h
 ·rename_i q hk
  simp only [vab,vaw,decide_eq_true_eq] at h
  obtain ⟨d,i,z,hd,_,_,hkd,_⟩ := (hT.row (t := kt) (by rw [hk]; rfl)).out
  rw [hk] at hkd
  cases d <;> simp [kindB] at hkd
  rw [<- hkd] at hd
  rw [h.1,h.2]
  exact .int q hd
 ·rename_i n e hk
  split at h
  ·rename_i q hke
   simp only [vab,decide_eq_true_eq] at h
   obtain ⟨d,i,z,hd,_,_,hkd,_⟩ := (hT.row (t := kt) (by rw [hk]; rfl)).out
   rw [hk] at hkd
   cases d <;> simp [kindB] at hkd
   obtain ⟨d',i',z',hd',hi',_,hkd',hsz,_⟩ := (hT.row (t := e) (by rw [hke]; rfl)).out
   rw [hke] at hkd'
   cases d' <;> simp [kindB] at hkd'
   rw [<- hkd.1,<- hkd.2] at hd
   rw [<- hkd'] at hd'
   rw [h.1.1,h.1.2]
   refine .arr q n e hd hd' ?_
   have := vaa h.2
   simp [Program.cellsOf,hi',hsz,this]
  ·cases h
 ·cases h
theorem qhR {e : TypeId} {q : IntKind} (he : P.underlying e = some (.int q)) (w : World) {xs : Array Value} {i : Nat} {v : Value} (h : xs[i]? = some v) : (part e xs i).run P w = .ok v w := by
 simp [part,isAgg,run_underlying he,h]
theorem qiP {e : TypeId} {q : IntKind} (he : P.underlying e = some (.int q)) (w : World) (d : Nat) (l l' : List Int) (hl : l.length = l'.length) : ∀ (m s : Nat),s + m = l.length ->
  (Op.eqItems (d + 1) e 1 (l.map (Value.int q)).toArray (l'.map (Value.int q)).toArray (vaN s m)).run P w = .ok (decide (l.drop s = l'.drop s)) w
 | 0,s,h => by
  rw [vbe (by omega),vbe (by omega)]
  simp [Op.eqItems,vaN]
 | m + 1,s,h => by
  have h1 : s < l.length := by omega
  have h2 : s < l'.length := by omega
  have ih := qiP he w d l l' hl m (s + 1) (by omega)
  have p1 : (part e (l.map (Value.int q)).toArray (s * 1)).run P w = .ok (.int q l[s]) w := qhR he w (by simp [h1])
  have p2 : (part e (l'.map (Value.int q)).toArray (s * 1)).run P w = .ok (.int q l'[s]) w := qhR he w (by simp [h2])
  have p3 : (Op.equalIn (d + 1) e (.int q l[s]) (.int q l'[s])).run P w = .ok (l[s] == l'[s]) w := by
   simp [Op.equalIn,run_underlying he]
  rw [va7]
  simp only [Op.eqItems,Sem.run_bind,p1,p2,p3,Result.andThen_ok]
  rw [vbb h1,vbb h2]
  by_cases hh : l[s] = l'[s]
  ·simp only [hh,beq_self_eq_true,Bool.not_true,Bool.false_eq_true,if_false,va8.injEq,true_and]; exact ih
  ·simp only [hh,beq_eq_false_iff_ne.2 hh,Bool.not_false,if_true,va8.injEq,false_and,decide_false,Sem.run_pure]
theorem qjv {kt e : TypeId} {q : IntKind} {n : Nat} (hk : P.underlying kt = some (.array n e)) (he : P.underlying e = some (.int q)) (hc : P.cellsOf e = 1) (w : World) {l l' : List Int} (h1 : l.length = n) (h2 : l'.length = n) :
  (Op.equal kt (.agg (l.map (Value.int q)).toArray) (.agg (l'.map (Value.int q)).toArray)).run P w = .ok (decide (l = l')) w := by
 obtain ⟨i,hi⟩ := info_of_underlying he
 have := qiP he w 9998 l l' (by omega) n 0 (by omega)
 rw [List.drop_zero,List.drop_zero] at this
 show (Op.equalIn (9999 + 1) kt _ _).run P w = _
 rw [run_equalIn_array w 9999 _ _ hk hi,hc,vbl]
 exact this
theorem qph {kt : TypeId} {ka : Bool} {k : Ty} (h : KeyOK P kt ka k) : (∃ d,P.underlying kt = some d /\ ∀ {w w' : World} {S S' : Nat -> Prop} {x y : k.den} {u u' : Value},ValRel w S ka k x u -> ValRel w' S' ka k y u' -> Instr.sameNow d u u' = some (keyEq k x y)) \/
  (∃ d,P.underlying kt = some d /\ ∀ {w w' : World} {S S' : Nat -> Prop} {x y : k.den} {u u' : Value},ValRel w S ka k x u -> ValRel w' S' ka k y u' -> Instr.sameNow d u u' = none /\ ∀ w0,(Op.equal kt u u').run P w0 = .ok (keyEq k x y) w0) := by
 cases h with
 | int q hd =>
  refine .inl ⟨_,hd,fun {w w' S S' x y u u'} h1 h2 => ?_⟩
  have h1 : [u] = [.int q x] := h1
  have h2 : [u'] = [.int q y] := h2
  cases h1; cases h2
  show (if q = q then some ((x : Int) == y) else none) = some (decide ((x : Int) = y))
  rw [if_pos rfl]; rfl
 | arr q n e hk he hc =>
  refine .inr ⟨_,hk,fun {w w' S S' x y u u'} h1 h2 => ?_⟩
  obtain ⟨cs,c1,rfl⟩ := h1
  obtain ⟨cs',c2,rfl⟩ := h2
  rw [qdI q n x cs c1,qdI q n y cs' c2]
  refine ⟨rfl,fun w0 => ?_⟩
  rw [qjv hk he hc w0 (qgk q n x) (qgk q n y),qlD]
theorem qf2 {e : TypeId} {q : IntKind} (he : P.underlying e = some (.int q)) (w : World) (emp : Bool) (n : Nat) (v : Value) : (Instr.checkKey emp (n + 1) e v).run P w = .ok () w := by
 unfold Instr.checkKey
 simp only [Sem.run_bind,run_underlying he,Result.andThen_ok]
 cases v <;> rfl
theorem qf1 {e : TypeId} {q : IntKind} (he : P.underlying e = some (.int q)) (hc : P.cellsOf e = 1) (w : World) (emp : Bool) (N : Nat) (cs : Array Value) : ∀ (m s : Nat),s + m <= cs.size ->
  (forIn (m := Sem) (vaN s m) PUnit.unit fun i (_ : PUnit) => do Instr.checkKey emp (N + 1) e (<- part e cs (i * (<- sizeOf e))); pure (ForInStep.yield PUnit.unit)).run P w = .ok PUnit.unit w
 | 0,s,h => by simp
 | m + 1,s,h => by
  have ih := qf1 he hc w emp N cs m (s + 1) (by omega)
  obtain ⟨i,hi⟩ := info_of_underlying he
  have hs : s < cs.size := by omega
  have hp : (part e cs (s * 1)).run P w = .ok cs[s] w := qhR he w (by simp [hs])
  rw [va7]
  simp only [List.forIn_cons,Sem.run_bind,_root_.Go.run_sizeOf w hi,hc,Result.andThen_ok,hp,qf2 he w emp N,Sem.run_pure]
  exact ih
theorem qew {kt : TypeId} {ka : Bool} {k : Ty} (h : KeyOK P kt ka k) {w' : World} {S : Nat -> Prop} {x : k.den} {u : Value} (hu : ValRel w' S ka k x u) (w : World) (emp : Bool) : (Instr.checkKey emp 10000 kt u).run P w = .ok () w := by
 cases h with
 | int q hd => exact qf2 hd w emp 9999 u
 | arr q n e hk he hc =>
  obtain ⟨cs,c1,rfl⟩ := hu
  have hl : cs.length = n := by rw [qdI q n x cs c1,vbx,qgk]
  have := qf1 he hc w emp 9998 cs.toArray n 0 (by simp [hl])
  show (Instr.checkKey emp (9999 + 1) kt _).run P w = _
  unfold Instr.checkKey
  simp only [Sem.run_bind,run_underlying hk,Result.andThen_ok]
  simp only [Std.Legacy.Range.forIn_eq_forIn_range',Std.Legacy.Range.size,vbj,Nat.add_one_sub_one,Nat.div_one]
  have this : (forIn (m := Sem) (vaN 0 n) PUnit.unit fun i (_ : PUnit) => do Instr.checkKey emp 9999 e (<- part e cs.toArray (i * (<- sizeOf e))); pure (ForInStep.yield PUnit.unit)).run P w = .ok PUnit.unit w := this
  rw [this]; rfl
def Found (w : World) (S : Nat -> Prop) (ka : Bool) (k : Ty) (ea : Bool) (e : Ty) (x : k.den) (xs : List (k.den × e.den)) (es : List MapEntry) (s : Nat) (res : Option (Nat × Value)) : Prop :=
 (res = none /\ mget xs x = none /\ (∀ y,mset xs x y = xs ++ [(x,y)]) /\ mdel xs x = xs) \/
 (∃ j m v y0,res = some (s + j,m.val) /\ es[j]? = some m /\ mget xs x = some v /\ ValRel w S ea e v m.val /\ ValRel w S ka k y0 m.key /\ keyEq k x y0 = true /\
  (∀ y m',ValRel w S ka k x m'.key -> ValRel w S ea e y m'.val -> EntsRel w S ka k ea e (mset xs x y) (es.set j m')) /\ EntsRel w S ka k ea e (mdel xs x) (es.eraseIdx j))
theorem qgn {w : World} {S : Nat -> Prop} {ka : Bool} {k : Ty} {ea : Bool} {e : Ty} {x : k.den} {z : k.den × e.den} {xs : List (k.den × e.den)} {m : MapEntry} {es : List MapEntry} {s : Nat}
  (h1 : ValRel w S ka k z.1 m.key) (h2 : ValRel w S ea e z.2 m.val) (h3 : EntsRel w S ka k ea e xs es) (heq : keyEq k x z.1 = true) : Found w S ka k ea e x (z :: xs) (m :: es) s (some (s,m.val)) := by
 refine .inr ⟨0,m,z.2,z.1,rfl,rfl,?_,h2,h1,heq,fun y m' k1 k2 => ?_,?_⟩
 ·rw [mget,heq]
 ·rw [mset,heq]; exact ⟨m',es,rfl,k1,k2,h3⟩
 ·rw [mdel,heq]; exact h3
theorem qgm {w : World} {S : Nat -> Prop} {ka : Bool} {k : Ty} {ea : Bool} {e : Ty} {x : k.den} {z : k.den × e.den} {xs : List (k.den × e.den)} {m : MapEntry} {es : List MapEntry} {s : Nat} {res : Option (Nat × Value)}
  (h1 : ValRel w S ka k z.1 m.key) (h2 : ValRel w S ea e z.2 m.val) (hne : keyEq k x z.1 = false) (h : Found w S ka k ea e x xs es (s + 1) res) : Found w S ka k ea e x (z :: xs) (m :: es) s res := by
 rcases h with ⟨a1,a2,a3,a4⟩ | ⟨j,m0,v,y0,b1,b2,b3,b4,b5,b6,b7,b8⟩
 ·refine .inl ⟨a1,?_,fun y => ?_,?_⟩
  ·rw [mget,hne]; exact a2
  ·rw [mset,hne]; show z :: mset xs x y = _; rw [a3 y]; rfl
  ·rw [mdel,hne]; show z :: mdel xs x = _; rw [a4]
 ·refine .inr ⟨j + 1,m0,v,y0,by rw [b1,show s + (j + 1) = s + 1 + j by omega],by simpa using b2,?_,b4,b5,b6,fun y m' k1 k2 => ?_,?_⟩
  ·rw [mget,hne]; exact b3
  ·rw [mset,hne]; exact ⟨m,es.set j m',rfl,h1,h2,b7 y m' k1 k2⟩
  ·rw [mdel,hne]; exact ⟨m,es.eraseIdx j,rfl,h1,h2,b8⟩
theorem qmy {w w' : World} {S S' : Nat -> Prop} {ka : Bool} {k : Ty} {ea : Bool} {e : Ty} {d : TypeDesc} (ht : ∀ {w w' : World} {S S' : Nat -> Prop} {x y : k.den} {u u' : Value},ValRel w S ka k x u -> ValRel w' S' ka k y u' -> Instr.sameNow d u u' = some (keyEq k x y))
  {x : k.den} {u : Value} (hu : ValRel w' S' ka k x u) : ∀ (xs : List (k.den × e.den)) (es : List MapEntry) (s : Nat),EntsRel w S ka k ea e xs es -> ∃ res,Instr.findNow d u es s = some res /\ Found w S ka k ea e x xs es s res
 | [],es,s,h => by
  have h : es = [] := h
  subst h
  exact ⟨none,rfl,.inl ⟨rfl,rfl,fun _=>rfl,rfl⟩⟩
 | z :: xs,_,s,⟨m,es,e1,h1,h2,h3⟩ => by
  subst e1
  have hk := ht hu h1
  cases hc : keyEq k x z.1 with
  | true => exact ⟨_,by rw [Instr.findNow,hk,hc],qgn h1 h2 h3 hc⟩
  | false =>
   obtain ⟨res,r1,r2⟩ := qmy ht hu xs es (s + 1) h3
   exact ⟨res,by rw [Instr.findNow,hk,hc]; exact r1,qgm h1 h2 hc r2⟩
theorem qmz {w w' : World} {S S' : Nat -> Prop} {kt : TypeId} {ka : Bool} {k : Ty} {ea : Bool} {e : Ty} (ht : ∀ {w w' : World} {S S' : Nat -> Prop} {x y : k.den} {u u' : Value},ValRel w S ka k x u -> ValRel w' S' ka k y u' -> ∀ w0,(Op.equal kt u u').run P w0 = .ok (keyEq k x y) w0)
  {x : k.den} {u : Value} (hu : ValRel w' S' ka k x u) (w0 : World) : ∀ (xs : List (k.den × e.den)) (es : List MapEntry) (s : Nat),EntsRel w S ka k ea e xs es -> ∃ res,(Instr.findAsking kt u es s).run P w0 = .ok res w0 /\ Found w S ka k ea e x xs es s res
 | [],es,s,h => by
  have h : es = [] := h
  subst h
  exact ⟨none,rfl,.inl ⟨rfl,rfl,fun _=>rfl,rfl⟩⟩
 | z :: xs,_,s,⟨m,es,e1,h1,h2,h3⟩ => by
  subst e1
  have hk := ht hu h1 w0
  cases hc : keyEq k x z.1 with
  | true =>
   rw [hc] at hk
   exact ⟨_,by simp only [Instr.findAsking,Sem.run_bind,hk,Result.andThen_ok]; rfl,qgn h1 h2 h3 hc⟩
  | false =>
   rw [hc] at hk
   obtain ⟨res,r1,r2⟩ := qmz ht hu w0 xs es (s + 1) h3
   exact ⟨res,by simp only [Instr.findAsking,Sem.run_bind,hk,Result.andThen_ok]; exact r1,qgm h1 h2 hc r2⟩
theorem qhS {kt : TypeId} {ka : Bool} {k : Ty} (h : KeyOK P kt ka k) {w w' : World} {S S' : Nat -> Prop} {ea : Bool} {e : Ty} {x : k.den} {u : Value} (hu : ValRel w' S' ka k x u) (w0 : World) {xs : List (k.den × e.den)} {es : List MapEntry} (he : EntsRel w S ka k ea e xs es) :
  ∃ res,(Instr.findKey kt u es).run P w0 = .ok res w0 /\ Found w S ka k ea e x xs es 0 res := by
 rcases qph h with ⟨d,hd,ht⟩ | ⟨d,hd,ht⟩
 ·obtain ⟨res,r1,r2⟩ := qmy ht hu xs es 0 he
  exact ⟨res,by simp [Instr.findKey,run_underlying hd,r1],r2⟩
 ·obtain ⟨res,r1,r2⟩ := qmz (P := P) (kt := kt) (fun a b => (ht a b).2) hu w0 xs es 0 he
  refine ⟨res,?_,r2⟩
  have hn : Instr.findNow d u es 0 = none \/ es = [] := by
   cases xs with
   | nil => exact .inr he
   | cons z xs =>
    obtain ⟨m,es',e1,h1,_,_⟩ := he
    subst e1
    left
    rw [Instr.findNow,(ht hu h1).1]
  rcases hn with hn | hn
  ·simp [Instr.findKey,run_underlying hd,hn,r1]
  ·subst hn
   have : res = none := by
    have r1 : Result.ok (none : Option (Nat × Value)) w0 = .ok res w0 := r1
    cases r1; rfl
   subst this
   simp [Instr.findKey,run_underlying hd,Instr.findNow]
theorem qke {c : Ctx} {w : World} {S : Nat -> Prop} {v : V} {u : Value} {ag : Bool} {e : Ty} {y : e.den} (hv : Rel c v u) (hag : isAggV v = ag) (hall : (vcells v).all V.isC = true) {objs : Objs} (hs : SOK c objs) (hc : Cells w S e y u.cells.toList) : ValRel w S ag e y u := by
 cases ag with
 | true =>
  cases v <;> simp only [isAggV] at hag <;> first | (cases hag; done) | skip
  obtain ⟨us,rfl,_⟩ := hv
  exact ⟨us,by simpa [Value.cells] using hc,rfl⟩
 | false =>
  have hn : v.isC = true := by
   cases v <;> simp [isAggV] at hag <;> simpa [vcells] using hall
  have := qhf (qlh hs hv hn)
  rw [this] at hc
  exact hc
theorem qgJ {c : Ctx} {objs : Objs} (hs : SOK c objs) {ka : Bool} {k : Ty} {v : V} {u : Value} (hv : Rel c v u) {K : k.den -> Option R} {r : R} (h : keyV objs ka k v K = some r) : ∃ x,K x = some r /\ ValRel c.w (fzCtx c []).SA ka k x u := by
 unfold keyV at h
 split at h
 ·rename_i hc
  simp only [vab,beq_iff_eq] at hc
  have hvc := qcG hs hv hc.2
  obtain ⟨x,rest,f,u1,u2,h,e1,hr1,hf1,hc1⟩ := qb2 hs k _ _ hvc h
  split at h
  ·have hx := hc1 [] fun o ho => ho
   rw [show u2 = [] from hr1,va9] at e1
   rw [<- e1] at hx
   exact ⟨x,h,qke hv hc.1 hc.2 hs hx⟩
  ·cases h
 ·cases h
theorem qqc (hT : TabOK P tt) {t : Nat} {ag : Bool} {e : Ty} (h : valB tt t ag e = true) : ∃ d i z,P.underlying t = some d /\ P.info? t = some i /\ i.zero = some z /\ (∀ w S,ValRel w S ag e e.dflt z) := by
 unfold valB at h
 simp only [vab,vaw,beq_iff_eq] at h
 obtain ⟨⟨ho,hag⟩,h⟩ := h
 have hR := hT.row ho
 obtain ⟨d,i,z,hd,hi,hz,hkd,_,_,hzs,_,_,hty⟩ := hR.out
 refine ⟨d,i,z,hd,hi,hz,fun w S => ?_⟩
 have hza := hR.ag i z hi hz
 have hcells : z.cells.toList = zcells e := by
  cases hc : (tt.row t).ty with
  | some e' =>
   rw [hc] at h
   have h : e' = e := of_decide_eq_true h
   rw [hc] at hty
   rw [<- h]; exact (hty e' rfl).2.2.1
  | none =>
   rw [hc] at h
   simp only [vab,decide_eq_true_eq] at h
   have hz0 := vaa h.1.2
   rw [h.2]
   apply vaD
   rw [va0,hzs,hz0]
 have hc := qdj w S e
 rw [<- hcells] at hc
 unfold Tab.isAgg at hag
 rw [hag] at hza
 cases ag with
 | true =>
  cases z with
  | agg cs => exact ⟨cs.toList,hc,by simp⟩
  | _ => simp [aggVal] at hza
 | false =>
  have : z.cells = #[z] := by cases z <;> simp [aggVal] at hza <;> rfl
  rw [this] at hc; exact hc
theorem qid {c : Ctx} {ag : Bool} {e : Ty} {y : e.den} {u : Value} (hu : ValRel c.w c.SA ag e y u) {K : V -> Option R} {r : R} (h : mkVal ag (cellsOf e y false) K = some r) : ∃ v,K v = some r /\ Rel c v u := by
 unfold mkVal at h
 cases ag with
 | true =>
  obtain ⟨cs,h1,rfl⟩ := hu
  exact ⟨_,h,cs,rfl,qcp false e y cs h1⟩
 | false =>
  have hl := qcp (c := c) false e y [u] hu
  dsimp only at h
  split at h
  ·rename_i v hc
   rw [hc] at hl
   obtain ⟨u',us',e',h1,_⟩ := hl
   cases e'
   exact ⟨v,h,h1⟩
  ·cases h
theorem TabOK.map (hT : TabOK P tt) {t kt et : Nat} (h : (tt.row t).k = .map kt et) : P.underlying t = some (.map kt et) := by
 obtain ⟨d,i,z,hd,_,_,hkd,_⟩ := (hT.row (t := t) (by rw [h]; rfl)).out
 rw [h] at hkd
 cases d <;> simp [kindB] at hkd
 rw [hd,hkd.1,hkd.2]
theorem SOK.map_at {c : Ctx} {objs : Objs} (hs : SOK c objs) {o : Nat} {ka : Bool} {k : Ty} {ea : Bool} {e : Ty} {xs : List (k.den × e.den)} (ho : look .dead objs o = .ext (.map ka k ea e xs)) :
  ∃ b es clock,o < c.nx /\ c.blk o = some b /\ c.w.heap[b]? = some (.map (va6 es) clock) /\ EntsRel c.w c.SA ka k ea e xs es /\ c.SB b /\ c.hdr o = .map (some b) := by
 have := hs.obj o
 rw [ho] at this
 obtain ⟨h0,b,ob,hb,hh,hr,hsb,hm⟩ := this
 obtain ⟨es,clock,rfl,hr⟩ := hr
 exact ⟨b,es,clock,h0,hb,hh,hr,hsb,hm rfl⟩
theorem qcn {w : World} {b : Nat} {es : Array MapEntry} {clock : Nat} (h : w.heap[b]? = some (.map es clock)) : (getObj b).run P w = .ok (.map es clock) w := by
 simp [getObj,Sem.run,h]
theorem qc6 {w : World} {b : Nat} {es : Array MapEntry} {clock : Nat} (ob : Obj) (h : w.heap[b]? = some (.map es clock)) : (setObj b ob).run P w = .ok () { w with heap := w.heap.setIfInBounds b ob } := by
 simp [setObj,Sem.run,h]
theorem qiJ (hT : TabOK P tt) {t : Nat} {objs : Objs} {hint : Option Operand} {K : V -> Objs -> Nat -> Option R} {r : R} {c : Ctx} (hs : SOK c objs) (h : makeMapV tt t c.nx hint K = some r) :
  ∃ v ch nx' z c',K v ch nx' = some r /\ hint = none /\ Done c objs c' v z ch nx' /\ (Instr.makeMap t none).run P c.w = .ok z c'.w /\ ∀ o' ∈ ch.map (·.1),c.nx <= o' := by
 unfold makeMapV at h
 split at h
 ·refine ⟨_,_,_,.map (some c.w.heap.size),_,h,rfl,Done.newExt hs (hv := .map (some c.w.heap.size)) (ob := .map #[] 0) rfl ⟨[],0,rfl,rfl⟩ (fun _=>rfl) ⟨vaE _,by simp [addCtx]⟩,rfl,fun o' ho' => by simp at ho'; omega⟩
 ·cases h
theorem qjH (hT : TabOK P tt) {t : Nat} {objs : Objs} {m i : V} {ok : Bool} {K : V -> Option R} {r : R} {c : Ctx} (hs : SOK c objs) {um ui : Value} (hm : Rel c m um) (hi : Rel c i ui) (h : lookupV tt objs t m i ok K = some r) :
  ∃ q z,K q = some r /\ Rel c q z /\ (Instr.lookup t um ui ok).run P c.w = .ok z c.w := by
 unfold lookupV at h
 split at h
 ·rename_i kt et o hk
  split at h
  ·rename_i ka k ea e xs ho
   split at h
   ·rename_i hb
    simp only [vab] at hb
    obtain ⟨b,es,clock,h0,hbk,hh,hr,hsb,hhd⟩ := hs.map_at ho
    obtain ⟨_,hu⟩ := hm
    rw [hhd] at hu
    subst hu
    have hK := qlz hT hb.1
    obtain ⟨d,inf,z0,hd,hinf,hz0,hzr⟩ := qqc hT hb.2
    obtain ⟨x,h,hx⟩ := qgJ hs hi h
    obtain ⟨res,hf,hF⟩ := qhS hK hx c.w hr
    have hck := qew hK hx c.w es.isEmpty
    have hzv : (zeroValue et).run P c.w = .ok z0 c.w := by simp [zeroValue,typeInfo,hinf,hz0]
    have hlk : ∀ (v : Value) (f : Bool),(match res with | some (_,v) => v | none => z0) = v -> res.isSome = f -> (Instr.lookup t (.map (some b)) ui ok).run P c.w = .ok (if ok = true then .tuple #[v,.bool f] else v) c.w := fun v f hv hff => by
     unfold Instr.lookup
     simp only [Sem.run_bind,run_underlying (hT.map hk),Result.andThen_ok,qcn hh,vaY,hck,vaJ,hf]
     cases res with
     | none =>
      have hv : z0 = v := hv
      have hff : false = f := hff
      subst hv hff
      simp [hck,hf,hzv]
     | some p =>
      obtain ⟨j,v'⟩ := p
      have hv : v' = v := hv
      have hff : true = f := hff
      subst hv hff
      simp [hck,hf]
    rcases hF with ⟨e1,e2,_,_⟩ | ⟨j,m',v,y0,e1,e2,e3,e4,_⟩
    ·subst e1
     rw [e2] at h
     obtain ⟨q,h,hq⟩ := qid (hzr c.w c.SA) h
     cases ok with
     | true => exact ⟨_,_,h,⟨[z0,.bool false],rfl,_,_,rfl,hq,_,_,rfl,rfl,rfl⟩,hlk z0 false rfl rfl⟩
     | false => exact ⟨_,_,h,hq,hlk z0 false rfl rfl⟩
    ·subst e1
     rw [e3] at h
     obtain ⟨q,h,hq⟩ := qid (y := v) e4 h
     cases ok with
     | true => exact ⟨_,_,h,⟨[m'.val,.bool true],rfl,_,_,rfl,hq,_,_,rfl,rfl,rfl⟩,hlk m'.val true rfl rfl⟩
     | false => exact ⟨_,_,h,hq,hlk m'.val true rfl rfl⟩
   ·cases h
  ·cases h
 ·cases h
theorem qju (n : Nat) (q : IntKind) (l : List Int) : ((l.map (Value.int q)).zip (l.map (Value.int q))).all (fun (x,y) => Instr.sameBits n x y) = true := by
 rw [vat]
 rintro ⟨x,y⟩ h
 have := List.of_mem_zip h
 have hxy : x = y /\ ∃ i,x = .int q i := by
  obtain ⟨i,hi,e⟩ := List.getElem_of_mem h
  rw [List.getElem_zip] at e
  cases e
  simp
 obtain ⟨rfl,i,rfl⟩ := hxy
 cases n <;> simp [Instr.sameBits]
theorem qkl {kt : TypeId} {ka : Bool} {k : Ty} (h : KeyOK P kt ka k) {w w' : World} {S S' : Nat -> Prop} {x y : k.den} {u u' : Value} (hu : ValRel w S ka k x u) (hu' : ValRel w' S' ka k y u') (he : keyEq k x y = true) (w0 : World) :
  (Instr.keyThatStays u' u).run P w0 = .ok u w0 := by
 have hb : Instr.sameBits 10000 u' u = true := by
  cases h with
  | int q hd =>
   have hu : [u] = [.int q x] := hu
   have hu' : [u'] = [.int q y] := hu'
   cases hu; cases hu'
   have he : (x : Int) = y := of_decide_eq_true he
   rw [he]; simp [Instr.sameBits]
  | arr q n e hk hel hc =>
   obtain ⟨cs,c1,rfl⟩ := hu
   obtain ⟨cs',c2,rfl⟩ := hu'
   rw [qlD] at he
   have he := of_decide_eq_true he
   rw [qdI q n x cs c1,qdI q n y cs' c2,he]
   simp only [Instr.sameBits,beq_self_eq_true,Bool.true_and,vaJ]
   exact qju 9999 q _
 simp [Instr.keyThatStays,hb]
theorem qit {w : World} {S : Nat -> Prop} {ka : Bool} {k : Ty} {ea : Bool} {e : Ty} {y : k.den × e.den} {m : MapEntry} (h1 : ValRel w S ka k y.1 m.key) (h2 : ValRel w S ea e y.2 m.val) : ∀ {xs : List (k.den × e.den)} {es : List MapEntry},EntsRel w S ka k ea e xs es -> EntsRel w S ka k ea e (xs ++ [y]) (es ++ [m])
 | [],es,h => by
  have h : es = [] := h
  subst h; exact ⟨m,[],rfl,h1,h2,rfl⟩
 | z :: xs,_,⟨m',es,e1,k1,k2,k3⟩ => by subst e1; exact ⟨m',es ++ [m],rfl,k1,k2,qit h1 h2 k3⟩
theorem qmC {w : World} {S : Nat -> Prop} {ka : Bool} {k : Ty} {ea : Bool} {e : Ty} : ∀ {xs : List (k.den × e.den)} {es : List MapEntry},EntsRel w S ka k ea e xs es -> es.length = xs.length
 | [],es,h => by
  have h : es = [] := h
  subst h; rfl
 | z :: xs,_,⟨m',es,e1,k1,k2,k3⟩ => by subst e1; simp [qmC k3]
theorem qpZ (c : Ctx) : (fzCtx c []).SA = c.SA := by
 funext b
 simp [fzCtx]
theorem qhj (hT : TabOK P tt) {t : Nat} {objs : Objs} {m i v : V} {md : List Nat} {K : Objs -> Option R} {r : R} {c : Ctx} (hs : SOK c objs) {um ui uv : Value} (hm : Rel c m um) (hi : Rel c i ui) (hv : Rel c v uv) (h : mapUpdateV tt objs t m i v md K = some r) :
  ∃ ch c',K ch = some r /\ Done c objs c' .undef Go.undef ch c.nx /\ (Instr.mapUpdate t um ui uv).run P c.w = .ok () c'.w /\ ∀ o ∈ ch.map (·.1),o ∈ md := by
 unfold mapUpdateV at h
 split at h
 ·rename_i kt et o hk
  split at h
  ·rename_i ka k ea e xs ho
   split at h
   ·rename_i hb
    simp only [vab,beq_iff_eq] at hb
    obtain ⟨⟨⟨hb1,hb2⟩,hb3⟩,hb4⟩ := hb
    obtain ⟨_,hu⟩ := hm
    have hK := qlz hT hb1
    obtain ⟨x,h,hx⟩ := qgJ hs hi h
    rw [qpZ] at hx
    have hvc := qcG hs hv hb4
    obtain ⟨y,rest,f,u1,u2,h,e1,hr1,hf1,hc1⟩ := qb2 hs e _ _ hvc h
    split at h
    ·split at h
     ·rename_i hcc
      simp only [vab,vaw] at hcc
      obtain ⟨⟨hm1,hm2⟩,hm3⟩ := hcc
      have hof : o ∉ f := fun hh => by rw [qa1.2 hh] at hm3; cases hm3
      rw [show u2 = [] from hr1,va9] at e1
      obtain ⟨hst1,hs1⟩ := qdX hs hf1
      have ho1 : look .dead (freezes objs f ++ objs) o = .ext (.map ka k ea e xs) := by rw [qov hof,ho]
      obtain ⟨b,es,clock,h0,hbk,hh,hr,hsb,hhd⟩ := hs1.map_at ho1
      have hhd : c.hdr o = .map (some b) := hhd
      have hh : c.w.heap[b]? = some (.map (va6 es) clock) := hh
      rw [hhd] at hu
      subst hu
      have hv1 : Rel (fzCtx c f) v uv := Rel.mono hst1 hs.sub v uv hv
      have hx1 : ValRel (fzCtx c f).w (fzCtx c f).SA ka k x ui := hx.mono (hst1.kept hs.sub false)
      have hy := hc1 f fun _ h => h
      rw [<- e1] at hy
      have hy1 : ValRel (fzCtx c f).w (fzCtx c f).SA ea e y uv := qke hv hb3 hb4 hs hy
      obtain ⟨res,hf,hF⟩ := qhS hK hx1 c.w hr
      have hck := qew hK hx c.w false
      have fin : ∀ (es' : List MapEntry) (clock' : Nat),EntsRel (fzCtx c f).w (fzCtx c f).SA ka k ea e (mset xs x y) es' -> ∃ c',c'.w = { c.w with heap := c.w.heap.setIfInBounds b (.map es'.toArray clock') } /\ Done c objs c' .undef Go.undef ((o,.ext (.map ka k ea e (mset xs x y))) :: freezes objs f) c.nx := fun es' clock' hE => by
       obtain ⟨c',hw,hd⟩ := Done.updExt hs1 ho1 hbk (x' := .map ka k ea e (mset xs x y)) (ob' := .map es'.toArray clock') (fun _=>rfl) (v := .undef) (u := Go.undef) ⟨es',clock',rfl,hE⟩ (fun _ _ _ _ _ => trivial)
       exact ⟨c',hw,Done.after_freeze hs hf1 hd⟩
      have hmd : ∀ o' ∈ (((o,AObj.ext (.map ka k ea e (mset xs x y))) :: freezes objs f) : Objs).map (·.1),o' ∈ md := fun o' ho' => by
       rw [vaH,qbn] at ho'
       rcases vap.1 ho' with rfl | ho'
       ·exact qa1.1 hm1
       ·exact qcv.1 hm2 o' ho'
      rcases hF with ⟨r1,r2,r3,_⟩ | ⟨j,m',v',y0,r1,r2,r3,r4,r5,r6,r7,_⟩
      ·subst r1
       have hE := qit (y := (x,y)) (m := { key := ui,val := uv,born := clock }) hx1 hy1 hr
       rw [<- r3 y] at hE
       obtain ⟨c',hw,hd⟩ := fin _ (clock + 1) hE
       refine ⟨_,c',h,hd,?_,hmd⟩
       rw [hw]
       unfold Instr.mapUpdate
       simp only [Sem.run_bind,run_underlying (hT.map hk),Result.andThen_ok,qcn hh,hck,vaJ,hf,qc6 _ hh]
       simp
      ·subst r1
       have hE := r7 y { m' with key := ui,val := uv } hx1 hy1
       obtain ⟨c',hw,hd⟩ := fin _ clock hE
       refine ⟨_,c',h,hd,?_,hmd⟩
       have hks := qkl hK hx1 r5 r6 c.w
       have hge : ((va6 es)[0 + j]?.map (·.key)).getD ui = m'.key := by
        rw [vac,vbh,r2]; rfl
       have hmod : ((va6 es).modify (0 + j) fun e => { e with key := ui,val := uv }) = (es.set j { m' with key := ui,val := uv }).toArray := by
        rw [vac]
        apply Array.ext_getElem?
        intro q
        rw [vaU]
        simp only [vbh,List.getElem?_set]
        by_cases hq : j = q
        ·subst hq
         rw [r2]
         have hlt : j < es.length := (vag.1 r2).1
         simp [hlt]
        ·simp [hq]
       rw [hw]
       unfold Instr.mapUpdate
       simp only [Sem.run_bind,run_underlying (hT.map hk),Result.andThen_ok,qcn hh,hck,vaJ,hf,hge,hks,hmod,qc6 _ hh]
     ·cases h
    ·cases h
   ·cases h
  ·cases h
 ·cases h
theorem qjT (hT : TabOK P tt) {t t2 : Nat} {objs : Objs} {m i : V} {md : List Nat} {K : Objs -> Option R} {r : R} {c : Ctx} (hs : SOK c objs) {um ui : Value} (hm : Rel c m um) (hi : Rel c i ui) (ty : TypeId) (h : deleteV tt objs t m i md K = some r) :
  ∃ ch c',K ch = some r /\ Done c objs c' (.tup []) (.tuple #[]) ch c.nx /\ (Builtin.delete_ #[t,t2] ty #[um,ui]).run P c.w = .ok (.tuple #[]) c'.w /\ ∀ o ∈ ch.map (·.1),o ∈ md := by
 unfold deleteV at h
 split at h
 ·rename_i kt et o hk
  split at h
  ·rename_i ka k ea e xs ho
   split at h
   ·rename_i hb
    simp only [vab] at hb
    obtain ⟨b,es,clock,h0,hbk,hh,hr,hsb,hhd⟩ := hs.map_at ho
    obtain ⟨_,hu⟩ := hm
    rw [hhd] at hu
    subst hu
    have hK := qlz hT hb.1
    obtain ⟨x,h,hx⟩ := qgJ hs hi h
    rw [qpZ] at hx
    obtain ⟨res,hf,hF⟩ := qhS hK hx c.w hr
    have hck := qew hK hx c.w es.isEmpty
    have fin : ∀ (es' : List MapEntry),EntsRel c.w c.SA ka k ea e (mdel xs x) es' -> ∃ c',c'.w = { c.w with heap := c.w.heap.setIfInBounds b (.map es'.toArray clock) } /\ Done c objs c' (.tup []) (.tuple #[]) [(o,.ext (.map ka k ea e (mdel xs x)))] c.nx := fun es' hE =>
     Done.updExt hs ho hbk (x' := .map ka k ea e (mdel xs x)) (ob' := .map es'.toArray clock) (fun _=>rfl) (v := .tup []) (u := .tuple #[]) ⟨es',clock,rfl,hE⟩ (fun _ _ _ _ _ => ⟨[],rfl,rfl⟩)
    have hmd : ∀ o' ∈ ([(o,AObj.ext (.map ka k ea e (mdel xs x)))] : Objs).map (·.1),o' ∈ md := fun o' ho' => by simp at ho'; rw [ho']; exact qa1.1 hb.2
    rcases hF with ⟨r1,r2,r3,r4⟩ | ⟨j,m',v',y0,r1,r2,r3,r4,r5,r6,r7,r8⟩
    ·subst r1
     obtain ⟨c',hw,hd⟩ := fin es (by rw [r4]; exact hr)
     refine ⟨_,c',h,hd,?_,hmd⟩
     rw [hw]
     unfold Builtin.delete_
     simp [run_underlying (hT.map hk),qcn hh,vaY,hck,hf,qc6 _ hh]
    ·subst r1
     obtain ⟨c',hw,hd⟩ := fin (es.eraseIdx j) r8
     refine ⟨_,c',h,hd,?_,hmd⟩
     rw [hw]
     unfold Builtin.delete_
     simp [run_underlying (hT.map hk),qcn hh,vaY,hck,hf,qc6 _ hh]
   ·cases h
  ·cases h
 ·cases h
theorem TabOK.mapk {t : Nat} (hT : TabOK P tt) (hk : (tt.row t).k.isMap = true) : ∃ kt et,P.underlying t = some (.map kt et) := by
 cases h : (tt.row t).k <;> simp [h,TK.isMap] at hk
 exact ⟨_,_,hT.map h⟩
theorem qjJ (hT : TabOK P tt) {t : Nat} (hk : (tt.row t).k.isMap = true) {objs : Objs} {m : V} {K : V -> Option R} {r : R} {c : Ctx} (hs : SOK c objs) {um : Value} (hm : Rel c m um) (ty : TypeId) (h : lenMapV objs m K = some r) :
  ∃ q z,K q = some r /\ Rel c q z /\ (Builtin.len_ #[t] ty #[um]).run P c.w = .ok z c.w := by
 obtain ⟨kt,et,hu⟩ := hT.mapk hk
 unfold lenMapV at h
 split at h
 ·rename_i o
  split at h
  ·rename_i ka k ea e xs ho
   obtain ⟨b,es,clock,h0,hbk,hh,hr,hsb,hhd⟩ := hs.map_at ho
   obtain ⟨_,hmu⟩ := hm
   rw [hhd] at hmu
   subst hmu
   refine ⟨_,.int .i64 xs.length,h,rfl,?_⟩
   simp [Builtin.len_,run_underlying hu,qcn hh,goInt,qmC hr]
  ·cases h
 ·cases h
end Go.Vm

namespace Go.Vm
open Go
variable {P : Program} {tt : Tab}
def OpDone (P : Program) (K : V -> Objs -> Nat -> Option R) (r : R) (o : Oper) (a : Act) (c : Ctx) (objs : Objs) (md : List Nat) : Prop :=
 ∃ v ch nx',K v ch nx' = some r /\ (∀ o' ∈ ch.map (·.1),o' < c.nx -> o' ∈ md) /\ OpS P o a c objs v ch nx'
theorem OpDone.pure {K : V -> Objs -> Nat -> Option R} {r : R} {o : Oper} {a : Act} {c : Ctx} {objs : Objs} {md : List Nat} (hs : SOK c objs) {v : V} {u : Value} (h : K v [] c.nx = some r) (hr : Rel c v u) (hrun : (execOp a.eval o).run P c.w = .ok (.value u) c.w) :
  OpDone P K r o a c objs md := ⟨v,[],c.nx,h,fun o' ho' => (by cases ho'),OpS.value hrun (Done.pure hs hr)⟩
theorem qef {c : Ctx} {env : Env} {a : Act} (he : EnvRel c env a) : ∀ xs : List Operand,RelL c (xs.map (evalO env)) (xs.map a.eval)
 | [] => rfl
 | x :: r => ⟨_,_,rfl,qax he x,qef he r⟩
theorem qn0 {c : Ctx} {env : Env} {a : Act} (he : EnvRel c env a) (x : Option Operand) : (x.map (evalO env) = none /\ x.map a.eval = none) \/ ∃ v u,x.map (evalO env) = some v /\ x.map a.eval = some u /\ Rel c v u := by
 cases x with
 | none => exact .inl ⟨rfl,rfl⟩
 | some x => exact .inr ⟨_,_,rfl,rfl,qax he x⟩
theorem qcW {b : Builtin} {o : Oper} {cl : Call} (ho : o.op = .call cl) (hc : cl.callee = .builtin b) (a : Act) (w : World) :
  ∃ ks,(execOp a.eval o).run P w = (builtin b cl.argTypes o.type ks (cl.args.map a.eval)).run P w := by
 refine ⟨cl.args.map (fun | .const _ => true | _ => false),?_⟩
 unfold execOp
 simp only [ho,resolve,hc,invoke,Sem.run_bind,Sem.run_pure,Result.andThen_ok]
 rfl
theorem qiO (t : TypeId) (z : Value) (w : World) : (do return .pointer (some (<- newVar t z)) : Sem Value).run P w = .ok (.pointer (some ⟨w.heap.size,0,none⟩)) (w.alloc (.cells z.cells.toList.toArray t)) := by
 rw [Array.toArray_toList]; rfl
theorem arr1 {α : Type} {xs : Array α} {x : α} (h : xs.toList = [x]) : xs = #[x] := vaP.1 h
theorem arr2 {α : Type} {xs : Array α} {x y : α} (h : xs.toList = [x,y]) : xs = #[x,y] := vaP.1 h
theorem SOK.swap {c : Ctx} {objs : Objs} (hs : SOK c objs) {o : Nat} {y : AObj} (hm : (look .dead objs o).mut = true) (hy : ObjOK c o y) : SOK c ((o,y) :: objs) := by
 have hmut : ∀ q,(look .dead ((o,y) :: objs) q).mut = true -> (look .dead objs q).mut = true := fun q h => by
  rw [qaL] at h
  split at h
  ·rename_i e; subst e; exact hm
  ·exact h
 refine ⟨hs.low,fun q => ?_,fun a b g h1 h2 => hs.inj a b g (hmut a h1) (hmut b h2),hs.sub,hs.bd,hs.one⟩
 rw [qaL]
 split
 ·rename_i e; subst e; exact hy
 ·exact hs.obj q
theorem Done.after {c c1 c2 : Ctx} {objs ch0 ch : Objs} {v : V} {u : Value} {nx' : Nat} (hs : SOK c objs) (h1 : Step c c1 (Dof c objs ch0)) (hblk : ∀ q,c1.blk q = c.blk q) (hnx : c1.nx = c.nx) (hmut : ∀ q,q ∈ ch0.map (·.1) -> (look .dead objs q).mut = true)
  (h : Done c1 (ch0 ++ objs) c2 v u ch nx') : Done c objs c2 v u (ch ++ ch0) nx' := by
 have hD2 : ∀ b,Dof c1 (ch0 ++ objs) ch b -> Dof c objs (ch ++ ch0) b := fun b ⟨o,ho,hm,hb⟩ => by
  refine ⟨o,by rw [vav]; exact vax _ ho,?_,by rw [<- hblk]; exact hb⟩
  rw [qa7] at hm
  split at hm
  ·exact hmut o ‹_›
  ·exact hm
 have hD1 : ∀ b,Dof c objs ch0 b -> Dof c objs (ch ++ ch0) b := fun b ⟨o,ho,hm,hb⟩ => ⟨o,by rw [vav]; exact vam _ ho,hm,hb⟩
 have h2 := h.step
 refine ⟨⟨h2.os.trans h1.os,h2.tape.trans h1.tape,h2.output.trans h1.output,vaB h1.size h2.size,vaB h1.nx h2.nx,fun o ho => (h2.hdr o (vad ho h1.nx)).trans (h1.hdr o ho),fun o ho => (h2.blk o (vad ho h1.nx)).trans (h1.blk o ho),
   fun b hb hD => (h2.heap b (vad hb h1.size) fun k => hD (hD2 b k)).trans (h1.heap b hb fun k => hD (hD1 b k)),
   fun b hb hD => (h2.sb b (vad hb h1.size) fun k => hD (hD2 b k)).trans (h1.sb b hb fun k => hD (hD1 b k)),fun b hb hD => (h2.sa b (vad hb h1.size) fun k => hD (hD2 b k)).trans (h1.sa b hb fun k => hD (hD1 b k)),fun b hD => hD.sb hs⟩,?_,h.rel,h.nx,?_,?_⟩
 ·rw [vaM]; exact h.ok
 ·intro o b ho hm hb
  rw [vaM] at hm
  by_cases hoc : o ∈ ch.map (·.1)
  ·rcases h.fresh o b hoc hm hb with k | k
   ·exact .inl (vaB h1.size k)
   ·exact .inr (hD2 b k)
  ·rw [vav] at ho
   rcases vau.1 ho with ho | ho
   ·exact absurd ho hoc
   ·have hmo := hmut o ho
    have hlt := hs.lt hmo
    rw [h2.blk o (by rw [hnx]; exact hlt),hblk] at hb
    exact .inr ⟨o,by rw [vav]; exact vam _ ho,hmo,hb⟩
 ·intro o ho
  rw [vav] at ho
  rcases vau.1 ho with ho | ho
  ·exact h.ids o ho
  ·have := hs.lt (hmut o ho)
   have h3 := h2.nx
   rw [h.nx,hnx] at h3
   exact vad this h3
theorem qfG {c : Ctx} {objs : Objs} (hs : SOK c objs) {md : List Nat} {K : Objs -> Option R} {r : R} : ∀ {vs : List V},shutV objs md vs K = some r ->
  ∃ ch0 c1,K ch0 = some r /\ Step c c1 (Dof c objs ch0) /\ SOK c1 (ch0 ++ objs) /\ (∀ q,c1.blk q = c.blk q) /\ c1.nx = c.nx /\ c1.w = c.w /\ (∀ q,q ∈ ch0.map (·.1) -> (look .dead objs q).mut = true /\ q ∈ md)
 | [],h => by
  have hst : Step c c (Dof c objs []) := ⟨rfl,rfl,rfl,vaf _,vaf _,fun _ _ => rfl,fun _ _ => rfl,fun _ _ _ => rfl,fun _ _ _ => Iff.rfl,fun _ _ _ => Iff.rfl,fun b ⟨o,ho,_⟩ => (by cases ho)⟩
  exact ⟨[],c,h,hst,hs,fun _=>rfl,rfl,rfl,fun q hq => by cases hq⟩
 | v :: vs,h => by
  unfold shutV at h
  split at h
  ·rename_i o
   split at h
   ·rename_i e xs ix cs hob
    have hobj := hs.obj o
    rw [hob] at hobj
    obtain ⟨h0,et,cells,b,pre,mid,post,k1,k2,k3,k4,k5,k6,k7,k8,k9,k10,k11,k12⟩ := hobj
    obtain ⟨x,rest,f,u1,u2,hk,e1,hr1,hf1,hc1⟩ := qb2 hs e _ _ k4 h
    split at hk
    ·split at hk
     ·rename_i hcc
      simp only [vab,vaw] at hcc
      obtain ⟨⟨hm1,hm2⟩,hm3⟩ := hcc
      have hof : o ∉ f := fun hh => by rw [qa1.2 hh] at hm3; cases hm3
      rw [show u2 = [] from hr1,va9] at e1
      subst e1
      have hcx := hc1 f fun _ h => h
      obtain ⟨hst1,hs1⟩ := qdX hs hf1
      have hmut : (look .dead objs o).mut = true := by rw [hob]; rfl
      have hkk := hst1.kept hs.sub false
      have hmono := fun (x : e.den) (cs : List Value) (hh : Cells c.w c.SA e x cs) => Cells.mono hkk e x cs hh
      have hset : xs.set ix x = xs.take ix ++ x :: xs.drop (ix + 1) := List.set_eq_take_append_cons_drop.trans (by rw [if_pos k6])
      have hnew : ObjOK (fzCtx c f) o (.row e (xs.set ix x) false) := by
       refine ⟨h0,et,cells,by rw [List.length_set]; exact k1,?_,k9,fun b' hb' => ⟨fun _=>⟨?_,fun ⟨q,hq,hqb⟩ => ?_⟩,fun h => (by cases h)⟩,k12⟩
       ·rw [hset,k2,vaM]
        exact CellsL.append _ _ _ _ (CellsL.mono hmono _ _ k3) ⟨mid,post,rfl,hcx,CellsL.mono hmono _ _ k5⟩
       ·cases k10.symm.trans hb'; exact k11
       ·obtain ⟨e',xs',hq'⟩ := hf1 q hq
        have := hs.inj o q b' hmut (by rw [hq']; rfl) hb' hqb
        subst this; exact hof hq
      have hs2 := hs1.swap (o := o) (by rw [qa7,qbn,if_neg hof]; exact hmut) hnew
      have hD : ∀ b,Dof c objs (freezes objs f) b -> Dof c objs ((o,.row e (xs.set ix x) false) :: freezes objs f) b := fun b ⟨q,hq,hm,hb⟩ => ⟨q,vaG _ hq,hm,hb⟩
      refine ⟨_,fzCtx c f,hk,⟨rfl,rfl,rfl,vaf _,vaf _,fun _ _ => rfl,fun _ _ => rfl,fun _ _ _ => rfl,fun b hb hn => hst1.sb b hb fun k => hn (hD b k),fun b hb hn => hst1.sa b hb fun k => hn (hD b k),fun b h => h.sb hs⟩,hs2,fun _=>rfl,rfl,rfl,fun q hq => ?_⟩
      rw [vaH,qbn] at hq
      rcases vap.1 hq with rfl | hq
      ·exact ⟨hmut,qa1.1 hm1⟩
      ·obtain ⟨e',xs',hq'⟩ := hf1 q hq
       exact ⟨by rw [hq']; rfl,qcv.1 hm2 q hq⟩
     ·cases hk
    ·cases hk
   ·exact qfG hs h
  ·exact qfG hs h
theorem qgR (hT : TabOK P tt) {Γ : FEnv} (hΓ : EnvOK P Γ) {env : Env} {objs : Objs} {nx : Nat} {md : List Nat} {o : Oper} {K : V → Objs → Nat → Option R} {r : R} {c : Ctx} {a : Act} (hs : SOK c objs) (hn : c.nx = nx) (he : EnvRel c env a)
    (h : evOp tt Γ env objs nx md o K = some r) : OpDone P K r o a c objs md := by
  subst hn
  unfold evOp at h
  dsimp only at h
  split at h
  case h_1 x ho => exact OpDone.pure hs h (qax he x) (by unfold execOp; simp [ho])
  case h_2 x ho => exact OpDone.pure hs h (qax he x) (by unfold execOp; simp [ho])
  case h_3 x p q ho =>
    have hx := qax he x
    split at h
    · rename_i y hy
      rw [hy] at hx
      simp only [Rel] at hx
      rcases qe5 h with ⟨hb,h⟩ | ⟨hb,h⟩
      · exact OpDone.pure hs h (qax he p) (by unfold execOp; simp [ho,hx,asBool,hb])
      · exact OpDone.pure hs h (qax he q) (by unfold execOp; simp [ho,hx,asBool,hb])
    · cases h
  case h_4 t ho =>
    split at h
    · cases h
    · rename_i hto
      obtain ⟨d,i,z,hd,hi,hz,_,_,_,_,hzr,hza,_⟩ := (hT.row hto).out
      obtain ⟨c',hw,hd'⟩ := Done.newVar hs (cs := (tt.row t).zero) (us := z.cells.toList) (el := t) (hzr c) hza
      refine ⟨_,_,_,h,fun o' ho' hlt => by simp at ho'; omega,OpS.value ?_ hd'⟩
      rw [hw]
      unfold execOp
      simp only [ho]
      apply qaP
      have : (Instr.alloc t true (.tuple #[])).run P c.w = (do return .pointer (some (← newVar t z)) : Sem Value).run P c.w := by simp [Instr.alloc,zeroValue,typeInfo,hi,hz]
      rw [this,qiO]
  case h_5 t x ho =>
    split at h
    · rename_i hall
      obtain ⟨c',hw,hd'⟩ := Done.newVar hs (el := t) (qcG hs (qax he x) hall) hall
      refine ⟨_,_,_,h,fun o' ho' hlt => by simp at ho'; omega,OpS.value ?_ hd'⟩
      rw [hw]
      unfold execOp
      simp only [ho]
      apply qaP
      exact qiO t (a.eval x) c.w
    · cases h
  case h_6 t ps ho =>
    obtain ⟨q,z,h,hr,hrun⟩ := qk0 hT hs he ps h
    exact OpDone.pure hs h hr (by unfold execOp; simp only [ho]; exact qaP hrun)
  case h_7 t len ps ho =>
    obtain ⟨q,ch,nx',u,c',h,hd,hrun,hm⟩ := qgW hT hs rfl he ps h
    exact ⟨q,ch,nx',h,hm,OpS.value (by unfold execOp; simp only [ho]; exact qaP hrun) hd⟩
  case h_8 t x ho =>
    obtain ⟨q,z,h,hr,hrun⟩ := qig hT hs (qax he x) h
    exact OpDone.pure hs h hr (by unfold execOp; simp only [ho]; exact qaP hrun)
  case h_9 t x y ho =>
    split at h
    · obtain ⟨ch,c',h,hd,hrun,hm⟩ := qjk hT hs (qax he x) (qax he y) h
      exact ⟨_,ch,_,h,fun o' ho' _ => hm o' ho',OpS.skip (by unfold execOp; simp [ho,hrun]) hd⟩
    · obtain ⟨ch,c',h,hd,hrun,hm⟩ := qki hT hs (qax he x) (qax he y) h
      exact ⟨_,ch,_,h,fun o' ho' _ => hm o' ho',OpS.skip (by unfold execOp; simp [ho,hrun]) hd⟩
  case h_10 x ho =>
    have hx := qax he x
    split at h
    · rename_i hy
      rw [hy] at hx
      have hx' := hx
      obtain ⟨_,b,_,e⟩ := hx
      exact OpDone.pure hs h hx' (by unfold execOp; simp [ho,e])
    · rename_i hy
      rw [hy] at hx
      have hx' := hx
      obtain ⟨_,b,_,e⟩ := hx
      exact OpDone.pure hs h hx' (by unfold execOp; simp [ho,e])
    · rename_i hy
      rw [hy] at hx
      have hx' := hx
      obtain ⟨b,off,us,e,_⟩ := hx
      exact OpDone.pure hs h hx' (by unfold execOp; simp [ho,e])
    · rename_i hy
      rw [hy] at hx
      have hx' := hx
      obtain ⟨us,e,_⟩ := hx
      exact OpDone.pure hs h hx' (by unfold execOp; simp [ho,e])
    · cases h
  case h_11 op t x y yt ho =>
   have hx := qax he x
   split at h
   · rename_i e hv
     rw [hv] at hx
     split at h
     · rename_i hy
       have hy : y = .const .nilIface := by
         revert hy; unfold isNilIface; split <;> intro hy
         · rfl
         · cases hy
       subst hy
       obtain ⟨q,z,h,hr,hrun⟩ := qm9 hT x hx h
       exact OpDone.pure hs h hr (by unfold execOp; simp only [ho]; exact qaP hrun)
     · cases h
   · obtain ⟨q,z,h,hr,hrun⟩ := qng hT hs x y (qax he x) (qax he y) h
     exact OpDone.pure hs h hr (by unfold execOp; simp only [ho]; exact qaP hrun)
  case h_12 op t x ho =>
    obtain ⟨q,z,h,hr,hrun⟩ := qnG (P := P) (qax he x) h
    exact OpDone.pure hs h hr (by unfold execOp; simp only [ho]; exact qaP hrun)
  case h_13 src t x ho =>
    obtain ⟨q,z,h,hr,hrun⟩ := qlN hT hs (qax he x) h
    exact OpDone.pure hs h hr (by unfold execOp; simp only [ho]; exact qaP hrun)
  case h_14 f first caps ho =>
    split at h
    · rename_i hf
      have hf0 : first = #[] := vaP.1 hf
      subst hf0
      refine OpDone.pure hs h (u := .func (.func f) #[] (caps.toList.map a.eval).toArray) ⟨_,rfl,qef he _⟩ ?_
      have : caps.map a.eval = (caps.toList.map a.eval).toArray := by apply vaP.1; simp
      unfold execOp
      simp only [ho,this]
      apply qaP
      simp [Instr.makeFunc]
    · cases h
  case h_15 t l k ho =>
    split at h
    · rename_i p q
      split at h
      · rename_i hpq
        have hpq : p = q := vaa hpq
        subst hpq
        obtain ⟨v,ch,nx',z,c',h,hd,hrun,hm⟩ := qeJ hT hs rfl (qax he (.tmp p)) h
        exact ⟨v,ch,nx',h,fun o' ho' hlt => absurd hlt (hm o' ho'),OpS.value (by unfold execOp; simp only [ho]; exact qaP hrun) hd⟩
      · cases h
    · rename_i p q
      split at h
      · rename_i hpq
        have hpq : p = q := vaa hpq
        subst hpq
        obtain ⟨v,ch,nx',z,c',h,hd,hrun,hm⟩ := qeJ hT hs rfl (qax he (.const (.int .i64 (.ofNat p)))) h
        exact ⟨v,ch,nx',h,fun o' ho' hlt => absurd hlt (hm o' ho'),OpS.value (by unfold execOp; simp only [ho]; exact qaP hrun) hd⟩
      · cases h
    · cases h
  case h_16 t x lo hi ho =>
    obtain ⟨q,z,h,hr,hrun⟩ := qkj hT hs (qax he x) (qn0 he lo) (qn0 he hi) h
    exact OpDone.pure hs h hr (by unfold execOp; simp only [ho,Option.map_none]; exact qaP hrun)
  case h_17 t x f ho =>
    obtain ⟨q,z,h,hr,hrun⟩ := qhm hT (qax he x) h
    exact OpDone.pure hs h hr (by unfold execOp; simp only [ho]; exact qaP hrun)
  case h_18 t x f ho =>
    have hx := qax he x
    split at h
    · rename_i cs hy
      rw [hy] at hx
      obtain ⟨us,hx,hl⟩ := hx
      split at h
      · rename_i hf
        obtain ⟨gs,g,hu,hg,hfo⟩ := hT.field hf
        split at h
        · cases h
        · rename_i hot
          rw [hfo] at hot h
          dsimp only at hot h
          have hpart : ∀ z,(part g.type us.toArray g.offset).run P c.w = .ok z c.w → (execOp a.eval o).run P c.w = .ok (.value z) c.w := fun z hz => by
            unfold execOp
            simp only [ho]
            apply qaP
            rw [hx]
            simp [Instr.field,run_underlying hu,hg,asAgg,hz]
          split at h
          · rename_i hag
            split at h
            · rename_i hle
              have hle : g.offset + (tt.row g.type).size ≤ cs.length := vah hle
              refine OpDone.pure hs h (u := .agg ((us.drop g.offset).take (tt.row g.type).size).toArray) ⟨_,rfl,(hl.drop _).take _⟩ (hpart _ ?_)
              simp [part,qf0 hT hot,hag,run_sizeOf hT hot]
            · cases h
          · rename_i hag
            split at h
            · rename_i v _ hcs
              have hl' := hl.drop g.offset
              rw [hcs] at hl'
              obtain ⟨u,us',e,h1,_⟩ := hl'
              refine OpDone.pure hs h h1 (hpart u ?_)
              have hget : us[g.offset]? = some u := by
                have := congrArg (·[0]?) e
                simpa [vaz] using this
              simp [part,qf0 hT hot,hag,hget]
            · cases h
      · cases h
    · cases h
  case h_19 t x i ho =>
    obtain ⟨q,z,h,hr,hrun⟩ := qhk hT hs (qax he x) (qax he i) h
    exact OpDone.pure hs h hr (by unfold execOp; simp only [ho]; exact qaP hrun)
  case h_20 t x i ho =>
    have hx := qax he x
    have hi := qax he i
    split at h
    · rename_i s k n hk hy hz
      rw [hy] at hx
      rw [hz] at hi
      simp only [Rel] at hx hi
      have hA := qbw h
      clear h
      obtain ⟨⟨h0,h1⟩,h⟩ := hA
      have hu : P.underlying t = some .string := by
        obtain ⟨d,i,z,hd,_,_,hkd,_⟩ := (hT.row (t := t) (by cases hh : (tt.row t).k <;> simp_all [TK.isStr,TK.isOther])).out
        cases hh : (tt.row t).k <;> simp [hh,TK.isStr] at hk
        rw [hh] at hkd
        cases d <;> simp [kindB] at hkd
        exact hd
      refine OpDone.pure hs h (u := .int .u8 (s.data.getD n.toNat 0).toNat) rfl ?_
      unfold execOp
      simp only [ho]
      apply qaP
      rw [hx,hi]
      have hlt : n.toNat < s.data.size := by
        have : s.size = s.data.size := rfl
        omega
      have hs0 : s[n.toNat]? = some (s.data.getD n.toNat 0) := by
        have h2 : n.toNat < s.size := hlt
        rw [getElem?_pos s n.toNat h2]
        simp only [Array.getD]
        rw [dif_pos hlt]; rfl
      simp [Instr.index,asIntOf,run_underlying hu,h0,hs0]
    · cases h
  case h_21 t n ho =>
    have hx := qax he t
    split at h
    · rename_i vs hy
      rw [hy] at hx
      obtain ⟨us,hx,hl⟩ := hx
      split at h
      · rename_i v _ hvs
        have hl' := hl.drop n
        rw [hvs] at hl'
        obtain ⟨u,us',e,h1,_⟩ := hl'
        have hget : us[n]? = some u := by
          have := congrArg (·[0]?) e
          simpa [vaz] using this
        refine OpDone.pure hs h h1 ?_
        unfold execOp
        simp only [ho]
        apply qaP
        rw [hx]
        simp [Instr.extract,hget]
      · cases h
    · cases h
  case h_22 cl ho =>
    split at h
    · rename_i f hcf
      have hf := qax he f
      split at h
      · rename_i g caps hy
        rw [hy] at hf
        obtain ⟨us,hf,hl⟩ := hf
        obtain ⟨ch0,c1,h,hst1,hs1,hb1,hn1,hw1,hq1⟩ := qfG hs h
        split at h
        · obtain ⟨hE,v,ch,nx',h,hm,hcall⟩ := qiA hΓ hs rfl (qef he cl.args.toList |>.append hl) h
          refine ⟨v,ch,nx',h,hm,fun K' Q hK => ?_⟩
          unfold Oper.wp
          rw [qkm hE ho hcf hf]
          refine hcall.mono fun e w' ⟨u,c',e1,e2,hd⟩ => ?_
          subst e1 e2
          exact hK u c' hd
        · rename_i d l
          rw [qfS] at h
          have hargs := RelL.mono hst1 hs.sub _ _ (qef he cl.args.toList |>.append hl)
          obtain ⟨hE,v,ch,nx',h,hm,hcall⟩ := qiA hΓ hs1 hn1 hargs h
          rw [qfS] at h
          refine ⟨v,ch ++ d :: l,nx',h,fun o' ho' hlt => ?_,fun K' Q hK => ?_⟩
          · rw [vav] at ho'
            rcases vau.1 ho' with ho' | ho'
            · exact hm o' ho' hlt
            · exact (hq1 o' ho').2
          · unfold Oper.wp
            rw [qkm hE ho hcf hf]
            rw [hw1] at hcall
            refine hcall.mono fun e w' ⟨u,c',e1,e2,hd⟩ => ?_
            subst e1 e2
            exact hK u c' (Done.after hs hst1 hb1 hn1 (fun q hq => (hq1 q hq).1) hd)
      · cases h
    · rename_i hcb
      split at h
      · rename_i x t hax hat
        obtain ⟨ks,hrun0⟩ := qcW (P := P) ho hcb a c.w
        split at h
        · rename_i hmk
          obtain ⟨q,z,h,hr,hrun⟩ := qjJ hT hmk hs (qax he x) o.type h
          refine OpDone.pure hs h hr ?_
          rw [hrun0,arr1 hax,arr1 hat,vas]
          exact qaP hrun
        · split at h
          · rename_i hlk
            obtain ⟨q,z,h,hr,hrun⟩ := qm4 hT hs (qax he x) hlk o.type h
            refine OpDone.pure hs h hr ?_
            rw [hrun0,arr1 hax,arr1 hat,vas]
            exact qaP hrun
          · cases h
      · cases h
    · rename_i hcb
      split at h
      · rename_i x t hax hat
        obtain ⟨ks,hrun0⟩ := qcW (P := P) ho hcb a c.w
        have hx := qax he x
        split at h
        · rename_i hk hy
          rw [hy] at hx
          simp only [Rel] at hx
          obtain ⟨e,_,hu⟩ := hT.sl hk
          refine OpDone.pure hs h (u := .int .i64 0) rfl ?_
          rw [hrun0,arr1 hax,arr1 hat,vas]
          refine qaP ?_
          simp [hx,Builtin.cap_,run_underlying hu,goInt]
        · cases h
      · cases h
    · rename_i hcb
      split at h
      · rename_i d x t t2 hax hat
        obtain ⟨ks,hrun0⟩ := qcW (P := P) ho hcb a c.w
        obtain ⟨ch,c',h,hd,hrun,hm⟩ := qjT (t2 := t2) hT hs (qax he d) (qax he x) o.type h
        refine ⟨_,ch,_,h,fun o' ho' _ => hm o' ho',OpS.value ?_ hd⟩
        rw [hrun0,arr2 hax,arr2 hat,vas]
        exact qaP hrun
      · cases h
    · rename_i hcb
      split at h
      · rename_i d x t t2 hax hat
        obtain ⟨ks,hrun0⟩ := qcW (P := P) ho hcb a c.w
        have hx := qax he x
        split at h
        · rename_i n hy
          rw [hy] at hx
          simp only [Rel] at hx
          obtain ⟨q,ch,nx',z,c',h,hd,hrun,hm⟩ := qj5 hT hs rfl (qax he d) o.type h
          refine ⟨q,ch,nx',h,fun o' ho' hlt => absurd hlt (hm o' ho'),OpS.value ?_ hd⟩
          rw [hrun0,arr2 hax,arr2 hat,vas]
          simp only [vaH,List.map_nil,hx]
          exact qaP hrun
        · split at h
          all_goals
            obtain ⟨q,ch,nx',z,c',h,hd,hrun,hm⟩ := qj2 hT hs rfl (qax he d) hx o.type h
            refine ⟨q,ch,nx',h,hm,OpS.value ?_ hd⟩
            rw [hrun0,arr2 hax,arr2 hat,vas]
            exact qaP hrun
      · cases h
    · rename_i hcb
      split at h
      · rename_i d x t t2 hax hat
        obtain ⟨ks,hrun0⟩ := qcW (P := P) ho hcb a c.w
        obtain ⟨q,ch,z,c',h,hd,hrun,hm⟩ := qlM (t2 := t2) hT hs (qax he d) (qax he x) o.type h
        refine ⟨q,ch,_,h,fun o' ho' _ => hm o' ho',OpS.value ?_ hd⟩
        rw [hrun0,arr2 hax,arr2 hat,vas]
        exact qaP hrun
      · cases h
    · rename_i hcb
      obtain ⟨ks,hrun0⟩ := qcW (P := P) ho hcb a c.w
      unfold minMax at h
      split at h
      · rename_i k p rest hargs
        have hl := qef he cl.args.toList
        rw [hargs] at hl
        obtain ⟨u,us,e,h1,h2⟩ := hl
        simp only [Rel] at h1; subst h1
        obtain ⟨n,h,hrun⟩ := qeB (P := P) (mx := false) rest us p h2 h
        refine OpDone.pure hs h (u := .int k n) rfl ?_
        rw [hrun0]
        have : (Builtin.min_ cl.argTypes o.type (cl.args.map a.eval)).run P c.w = .ok (.int k n) c.w := by
          unfold Builtin.min_
          rw [vbt,e]
          exact hrun
        exact qaP this
      · cases h
    · rename_i hcb
      obtain ⟨ks,hrun0⟩ := qcW (P := P) ho hcb a c.w
      unfold minMax at h
      split at h
      · rename_i k p rest hargs
        have hl := qef he cl.args.toList
        rw [hargs] at hl
        obtain ⟨u,us,e,h1,h2⟩ := hl
        simp only [Rel] at h1; subst h1
        obtain ⟨n,h,hrun⟩ := qeB (P := P) (mx := true) rest us p h2 h
        refine OpDone.pure hs h (u := .int k n) rfl ?_
        rw [hrun0]
        have : (Builtin.max_ cl.argTypes o.type (cl.args.map a.eval)).run P c.w = .ok (.int k n) c.w := by
          unfold Builtin.max_
          rw [vbt,e]
          exact hrun
        exact qaP this
      · cases h
    · cases h
  case h_23 t x ho =>
    obtain ⟨v,ch,nx',z,c',h,hd,hrun,hm⟩ := qky hT hs (qax he x) h
    exact ⟨v,ch,nx',h,fun o' ho' hlt => absurd hlt (Nat.not_lt.2 (hm o' ho')),OpS.value (by unfold execOp; simp only [ho]; exact qaP hrun) hd⟩
  case h_24 it isS ho =>
    obtain ⟨v,ch,nx',z,c',h,hd,hrun,hm⟩ := qlt hs (qax he it) o.type h
    exact ⟨v,ch,nx',h,fun o' ho' _ => hm o' ho',OpS.value (by unfold execOp; simp only [ho]; exact qaP hrun) hd⟩
  case h_25 t q ho =>
    obtain ⟨v,ch,nx',z,c',h2,hq,hd,hrun,hm⟩ := qiJ hT hs h
    subst hq
    exact ⟨v,ch,nx',h2,fun o' ho' hlt => absurd hlt (Nat.not_lt.2 (hm o' ho')),OpS.value (by unfold execOp; simp only [ho]; exact qaP hrun) hd⟩
  case h_26 t m i ok ho =>
    obtain ⟨q,z,h,hr,hrun⟩ := qjH hT hs (qax he m) (qax he i) h
    exact OpDone.pure hs h hr (by unfold execOp; simp only [ho]; exact qaP hrun)
  case h_27 t m i v ho =>
    obtain ⟨ch,c',h,hd,hrun,hm⟩ := qhj hT hs (qax he m) (qax he i) (qax he v) h
    exact ⟨_,ch,_,h,fun o' ho' _ => hm o' ho',OpS.skip (by unfold execOp; simp [ho,hrun]) hd⟩
  case h_28 => cases h
end Go.Vm

namespace Go.Vm
open Go
variable {P : Program} {tt : Tab}
structure StRel (c : Ctx) (σ : St) (a : Act) : Prop where
 ok : SOK c σ.objs
 nx : c.nx = σ.nx
 env : EnvRel c σ.env a
 size : a.tmps.size = σ.n
 defers : a.defers = []
structure FR (c0 : Ctx) (objs0 : List AObj) (c : Ctx) (objs : Objs) : Prop where
 os : c.w.os = c0.w.os
 tape : c.w.tape = c0.w.tape
 output : c.w.output = c0.w.output
 size : c0.w.heap.size <= c.w.heap.size
 nx : c0.nx <= c.nx
 hdr : ∀ o,o < c0.nx -> c.hdr o = c0.hdr o
 blk : ∀ o,o < c0.nx -> c.blk o = c0.blk o
 heap : ∀ b,b < c0.w.heap.size -> ¬ Lof c0 objs0 b -> c.w.heap[b]? = c0.w.heap[b]?
 sb : ∀ b,b < c0.w.heap.size -> ¬ Lof c0 objs0 b -> (c.SB b ↔ c0.SB b)
 sa : ∀ b,b < c0.w.heap.size -> ¬ Lof c0 objs0 b -> (c.SA b ↔ c0.SA b)
 fresh : ∀ o b,(look .dead objs o).mut = true -> c.blk o = some b -> c0.w.heap.size <= b \/ Lof c0 objs0 b
theorem FR.step {c0 c c' : Ctx} {objs0 : List AObj} {objs ch : Objs} (h : FR c0 objs0 c objs) (hs : SOK c objs) (hst : Step c c' (Dof c objs ch)) (hfr : ∀ o b,o ∈ ch.map (·.1) -> (look .dead (ch ++ objs) o).mut = true -> c'.blk o = some b -> c.w.heap.size <= b \/ Dof c objs ch b) :
  FR c0 objs0 c' (ch ++ objs) := by
 have hD : ∀ b,b < c0.w.heap.size -> ¬ Lof c0 objs0 b -> ¬ Dof c objs ch b := fun b hb hL ⟨o,_,hm,hbk⟩ => by
  rcases h.fresh o b hm hbk with k | k
  ·omega
  ·exact hL k
 have hlt : ∀ b,b < c0.w.heap.size -> b < c.w.heap.size := fun b hb => vad hb h.size
 refine ⟨hst.os.trans h.os,hst.tape.trans h.tape,hst.output.trans h.output,vaB h.size hst.size,vaB h.nx hst.nx,fun o ho => (hst.hdr o (vad ho h.nx)).trans (h.hdr o ho),fun o ho => (hst.blk o (vad ho h.nx)).trans (h.blk o ho),
  fun b hb hL => (hst.heap b (hlt b hb) (hD b hb hL)).trans (h.heap b hb hL),fun b hb hL => (hst.sb b (hlt b hb) (hD b hb hL)).trans (h.sb b hb hL),fun b hb hL => (hst.sa b (hlt b hb) (hD b hb hL)).trans (h.sa b hb hL),fun o b hm hb => ?_⟩
 by_cases ho : o ∈ ch.map (·.1)
 ·rcases hfr o b ho hm hb with k | ⟨o',_,hm',hb'⟩
  ·exact .inl (vaB h.size k)
  ·exact h.fresh o' b hm' hb'
 ·rw [qa7,if_neg ho] at hm
  rw [hst.blk o (hs.lt hm)] at hb
  exact h.fresh o b hm hb
def Inv (c0 : Ctx) (objs0 : List AObj) (σ : St) (a : Act) (w : World) : Prop := ∃ c,c.w = w /\ StRel c σ a /\ FR c0 objs0 c σ.objs
theorem qlH {c : Ctx} {env : Env} {a : Act} (h : EnvRel c env a) {dst : Option Tmp} (hd : okDst a.tmps.size dst = true) {v : V} {u : Value} (hr : Rel c v u) : EnvRel c (putE env dst v) (a.put dst u) := by
 cases dst with
 | none => exact h
 | some d =>
  have hlt : d < a.tmps.size := by simpa [okDst] using hd
  intro t
  show Rel c (look .undef ((d,v) :: env) t) ((a.tmps.setIfInBounds d u).getD t Go.undef)
  rw [qaL]
  by_cases ht : d = t
  ·subst ht
   rw [if_pos rfl]
   have : (a.tmps.setIfInBounds d u).getD d Go.undef = u := by simp [Array.getD,hlt]
   rw [this]; exact hr
  ·rw [if_neg ht]
   have : (a.tmps.setIfInBounds d u).getD t Go.undef = a.tmps.getD t Go.undef := by
    simp only [vae,va5 ht]
   rw [this]; exact h t
theorem qpp {c c' : Ctx} {D : Nat -> Prop} (h : Step c c' D) (hs : ∀ b,c.SB b -> c.SA b) {env : Env} {a : Act} (he : EnvRel c env a) : EnvRel c' env a := fun t => Rel.mono h hs _ _ (he t)
theorem qjE (a : Act) (dst : Option Tmp) (u : Value) : (a.put dst u).tmps.size = a.tmps.size := by cases dst <;> simp [Act.put]
theorem qlo (a : Act) (dst : Option Tmp) (u : Value) : (a.put dst u).defers = a.defers := by cases dst <;> rfl
def dstOf (ops : Array Oper) (j : Nat) : Option Tmp := (ops[j]?).bind Oper.dst
def SlotsIn (ops : Array Oper) (n : Nat) : Prop := ∀ j t,dstOf ops j = some t -> t < n
theorem qkd {ops : Array Oper} {env : Env} {a : Act} {c : Ctx} (he : EnvRel c env a) (hsz : SlotsIn ops a.tmps.size) {o : Oper} {j : Nat} {want : Bool} (hg : o.guard = some (j,want)) {t : Tmp} (ht : dstOf ops j = some t) {x : Bool} (hx : look .undef env t = .b x) :
  Region.wanted o (yielded ops a.tmps) = (x == want) := by
 have h := he t
 rw [hx] at h
 simp only [Rel] at h
 have hlt := hsz j t ht
 have hy : yielded ops a.tmps j = some x := by
  unfold yielded
  have ht' : (ops[j]?).bind Oper.dst = some t := ht
  have : a.tmps[t]? = some (.bool x) := by
   rw [<- h,vae,Array.getElem?_eq_getElem hlt]; rfl
  simp [ht',this]
 unfold Region.wanted
 rw [hg]
 simp only [hy]
 cases x <;> cases want <;> rfl
theorem qlb {ops : Array Oper} {env : Env} {a : Act} {c : Ctx} (he : EnvRel c env a) {o : Oper} {j : Nat} {want : Bool} (hg : o.guard = some (j,want)) {t : Tmp} (ht : dstOf ops j = some t) (hx : look .undef env t = .tup []) :
  Region.wanted o (yielded ops a.tmps) = false := by
 have h := he t
 rw [hx] at h
 obtain ⟨us,h1,h2⟩ := h
 cases h2
 have ht' : (ops[j]?).bind Oper.dst = some t := ht
 have hy : yielded ops a.tmps j = none := by
  unfold yielded
  rw [ht']
  show (match a.tmps[t]? with | some (.bool b) => some b | _ => none) = none
  rw [vae] at h1
  cases hq : a.tmps[t]? with
  | none => rfl
  | some u =>
   rw [hq] at h1
   have : u = .tuple #[] := h1
   subst this
   rfl
 unfold Region.wanted
 rw [hg]
 simp only [hy]
 rfl
theorem qnb (ops : Array Oper) (j : Nat) : (ops.toList[j]?).bind Oper.dst = dstOf ops j := by simp [dstOf]
theorem qgs (hT : TabOK P tt) {Γ : FEnv} (hΓ : EnvOK P Γ) {ops : Array Oper} {env : Env} {objs : Objs} {nx : Nat} {md : List Nat} {o : Oper} {K : V -> Objs -> Nat -> Option R} {r : R} (h : evGuard tt Γ ops.toList env objs nx md o K = some r)
  {c : Ctx} {a : Act} (hs : SOK c objs) (hn : c.nx = nx) (he : EnvRel c env a) (hsz : SlotsIn ops a.tmps.size) :
  (Region.wanted o (yielded ops a.tmps) = true /\ OpDone P K r o a c objs md) \/ (Region.wanted o (yielded ops a.tmps) = false /\ K (.tup []) [] nx = some r) := by
 unfold evGuard at h
 split at h
 ·rename_i hg
  exact .inl ⟨by simp [Region.wanted,hg],qgR hT hΓ hs hn he h⟩
 ·rename_i j want hg
  split at h
  ·rename_i t ht
   rw [qnb] at ht
   split at h
   ·rename_i x hx
    have hw := qkd he hsz hg ht hx
    rcases qe5 h with ⟨hb,h⟩ | ⟨hb,h⟩
    ·exact .inl ⟨by rw [hw,hb]; rfl,qgR hT hΓ hs hn he h⟩
    ·exact .inr ⟨by rw [hw,hb]; rfl,h⟩
   ·rename_i x hx
    have hw := qkd he hsz hg ht hx
    rcases qe5 h with ⟨hb,h⟩ | ⟨hb,h⟩
    ·exact .inr ⟨by rw [hw,hb]; rfl,h⟩
    ·exact .inl ⟨by rw [hw,hb]; rfl,qgR hT hΓ hs hn he h⟩
   ·rename_i x hx
    exact .inr ⟨qlb he hg ht hx,h⟩
   ·cases h
  ·cases h
theorem qfN (hT : TabOK P tt) {Γ : FEnv} (hΓ : EnvOK P Γ) {c0 : Ctx} {objs0 : List AObj} {ops : Array Oper} {Q : Exit -> Act -> World -> Prop} {K : St -> Option R} {r : R} {n : Nat} (hsl : SlotsIn ops n)
  (hK : ∀ σ' a' w',K σ' = some r -> σ'.n = n -> Inv c0 objs0 σ' a' w' -> Q .normal a' w') : ∀ (l : List Oper) (k : Nat) (σ : St) (a : Act) (w : World),ops.toList.drop k = l -> σ.n = n -> Inv c0 objs0 σ a w -> evSeq tt Γ ops.toList l σ K = some r -> wpOps P ops Q (vaN k l.length) a w
 | [],k,σ,a,w,_,hn,hi,h => hK σ a w h hn hi
 | o :: l,k,σ,a,w,hd,hn,hi,h => by
  obtain ⟨c,rfl,hrel,hfr⟩ := hi
  have hk : ops[k]? = some o := by
   have := congrArg (·[0]?) hd
   simpa [vaz] using this
  have hd' : ops.toList.drop (k + 1) = l := by
   have := congrArg (vby 1) hd
   simpa [vaZ,vbk] using this
  unfold evSeq at h
  split at h
  rotate_left
  ·cases h
  rename_i hok
  have hok' : okDst a.tmps.size o.dst = true := by rw [hrel.size]; exact hok
  rw [vaC,va7]
  show wpOps P ops Q (k :: vaN (k + 1) l.length) a c.w
  unfold wpOps
  rw [hk]
  dsimp only
  rcases qgs hT hΓ h hrel.ok hrel.nx hrel.env (by rw [hrel.size,hn]; exact hsl) with ⟨hw,v,ch,nx',h,_,hop⟩ | ⟨hw,h⟩
  ·rw [if_pos hw]
   refine .inl (hop _ _ fun u c' hdn => ?_)
   refine qfN hT hΓ hsl hK l (k + 1) ⟨putE σ.env o.dst v,ch ++ σ.objs,nx',σ.n⟩ _ _ hd' hn ⟨c',rfl,⟨hdn.ok,hdn.nx,?_,by rw [qjE]; exact hrel.size,by rw [qlo]; exact hrel.defers⟩,hfr.step hrel.ok hdn.step hdn.fresh⟩ h
   exact qlH (qpp hdn.step hrel.ok.sub hrel.env) hok' hdn.rel
  ·have hw' : ¬ (Region.wanted o (yielded ops a.tmps) = true) := by rw [hw]; exact vaq
   rw [if_neg hw']
   refine qfN hT hΓ hsl hK l (k + 1) ⟨putE σ.env o.dst (.tup []),[] ++ σ.objs,σ.nx,σ.n⟩ _ _ hd' hn ⟨c,rfl,⟨hrel.ok,hrel.nx,?_,by rw [qjE]; exact hrel.size,by rw [qlo]; exact hrel.defers⟩,hfr⟩ h
   exact qlH hrel.env hok' ⟨[],rfl,rfl⟩
end Go.Vm

namespace Go.Vm
open Go
variable {P : Program} {tt : Tab}
theorem qoL {o n : Nat} (h : vaR o n = true) : o < n := by simpa using h
theorem qio : ∀ {l : List Nat} {k n : Nat},frontOK k n l = true -> n <= l.length /\ ∀ j,j < n -> nth 0 l j = k + j
 | _,_,0,_ => ⟨vaQ _,fun j hj => by omega⟩
 | [],k,n + 1,h => by cases h
 | i :: r,k,n + 1,h => by
  unfold frontOK at h
  split at h
  ·rename_i hi
   obtain ⟨h1,h2⟩ := qio h
   refine ⟨by simpa using h1,fun j hj => ?_⟩
   cases j with
   | zero => show i = k + 0; exact vaa hi
   | succ j => show nth 0 r j = k + (j + 1); rw [h2 j (by omega)]; omega
  ·cases h
structure KeepOK (base : Nat) (objs : Objs) (nx : Nat) (ids : List Nat) : Prop where
 nodup : ids.Nodup
 lt : ∀ i ∈ ids,i < nx
 shut : ∀ i ∈ ids,∀ o ∈ (look .dead objs i).ids,o ∈ ids
 len : base <= ids.length
 front : ∀ j,j < base -> nth 0 ids j = j
theorem qik {base : Nat} {objs : Objs} {nx : Nat} {ids : List Nat} (h : keepOK base objs nx ids = true) : KeepOK base objs nx ids := by
 unfold keepOK at h
 simp only [vab] at h
 obtain ⟨⟨⟨h1,h2⟩,h3⟩,h4⟩ := h
 obtain ⟨h5,h6⟩ := qio h4
 exact ⟨qgG.1 h1,qiD.1 h2,fun i hi => qfF h3 i hi,h5,fun j hj => by rw [h6 j hj]; omega⟩
theorem qpe {objs : Objs} {ids : List Nat} {j : Nat} (hj : j < ids.length) : (lessObjs objs ids)[j]? = some ((look .dead objs (nth 0 ids j)).ren (posOf ids)) := by
 unfold lessObjs
 rw [vak,qez 0 ids j hj]; rfl
theorem qhA (objs : Objs) (ids : List Nat) : (lessObjs objs ids).length = ids.length := by simp [lessObjs]
def lessCtx (c : Ctx) (ids : List Nat) : Ctx :=
 { w := c.w,nx := ids.length,hdr := fun j => c.hdr (nth 0 ids j),blk := fun j => c.blk (nth 0 ids j),SB := c.SB,SA := c.SA }
theorem qmo {c : Ctx} {ids : List Nat} : Ren (posOf ids) c (lessCtx c ids) (· ∈ ids) :=
 ⟨rfl,fun o ho _ => by
  obtain ⟨h1,h2⟩ := qeV ho
  exact ⟨h1,by simp [lessCtx,h2],by simp [lessCtx,h2]⟩,fun b hb _ => hb⟩
theorem qgg {objs : Objs} {ids : List Nat} (j : Nat) : (j < ids.length /\ look .dead (objsOf (lessObjs objs ids)) j = (look .dead objs (nth 0 ids j)).ren (posOf ids)) \/ (¬ j < ids.length /\ look .dead (objsOf (lessObjs objs ids)) j = .dead) := by
 by_cases hj : j < ids.length
 ·exact .inl ⟨hj,qdr (qpe hj)⟩
 ·refine .inr ⟨hj,?_⟩
  rw [qa2,vao,vbi (by rw [qhA]; omega)]; rfl
theorem qor {c : Ctx} {objs : Objs} (hs : SOK c objs) {base nx : Nat} {ids : List Nat} (hk : KeepOK base objs nx ids) (hnx : c.nx = nx) : SOK (lessCtx c ids) (objsOf (lessObjs objs ids)) := by
 subst hnx
 refine ⟨hs.low,fun j => ?_,fun j1 j2 b h1 h2 b1 b2 => ?_,fun b h => hs.sub b h,hs.bd,fun j hj => hs.one _ (hk.lt _ (qde hj))⟩
 ·rcases qgg (objs := objs) j with ⟨hj,he⟩ | ⟨_,he⟩ <;> rw [he]
  ·have := ObjOK.ren qmo (qde hj) (hk.shut _ (qde hj)) (.inl fun _ hb _ => hb) (fun hm b hb => hs.mutSB hm hb) (fun hx b hb => hs.blt hx hb) (hs.obj (nth 0 ids j))
   rwa [qc9 hk.nodup hj] at this
  ·exact trivial
 ·rcases qgg (objs := objs) j1 with ⟨k1,e1⟩ | ⟨_,e1⟩ <;> rw [e1] at h1
  rotate_left
  ·cases h1
  rcases qgg (objs := objs) j2 with ⟨k2,e2⟩ | ⟨_,e2⟩ <;> rw [e2] at h2
  rotate_left
  ·cases h2
  rw [qeA] at h1 h2
  have := hs.inj _ _ b h1 h2 b1 b2
  rw [<- qc9 hk.nodup k1,this,qc9 hk.nodup k2]
theorem qos {c0 c : Ctx} {objs0 : List AObj} {objs : Objs} (h : FR c0 objs0 c objs) {base nx : Nat} {ids : List Nat} (hk : KeepOK base objs nx ids) (hb : c0.nx = base) : FR c0 objs0 (lessCtx c ids) (objsOf (lessObjs objs ids)) := by
 subst hb
 refine ⟨h.os,h.tape,h.output,h.size,hk.len,fun o ho => ?_,fun o ho => ?_,h.heap,h.sb,h.sa,fun j b hm hb => ?_⟩
 ·show c.hdr (nth 0 ids o) = _; rw [hk.front o ho]; exact h.hdr o ho
 ·show c.blk (nth 0 ids o) = _; rw [hk.front o ho]; exact h.blk o ho
 ·rcases qgg (objs := objs) j with ⟨hj,he⟩ | ⟨_,he⟩ <;> rw [he] at hm
  ·rw [qeA] at hm; exact h.fresh _ b hm hb
  ·cases hm
theorem qmp {c : Ctx} {ids : List Nat} {v : V} {u : Value} (hi : ∀ o ∈ V.ids v,o ∈ ids) (h : Rel c v u) : Rel (lessCtx c ids) (v.ren (posOf ids)) u := Rel.ren qmo v u hi (.inl fun b hb _ => hb) h
theorem qkG {f : Nat -> Nat} {g : Nat -> V} : ∀ (live : List Nat) (t : Nat),look .undef (live.zip (V.renL f (live.map g))) t = if t ∈ live then V.ren f (g t) else .undef
 | [],t => rfl
 | s :: r,t => by
  show look .undef ((s,V.ren f (g s)) :: r.zip (V.renL f (r.map g))) t = _
  rw [qaL,qkG r t]
  by_cases h : s = t
  ·subst h; simp
  ·rw [if_neg h]
   simp [Ne.symm h]
theorem qmj : ∀ {vs : List V} {v : V} {o : Nat},v ∈ vs -> o ∈ V.ids v -> o ∈ V.idsL vs
 | [],_,_,h,_ => by cases h
 | x :: r,v,o,h,ho => by
  rcases vap.1 h with rfl | h
  ·exact vax _ ho
  ·exact vam _ (qmj h ho)
theorem qmf {c0 : Ctx} {objs0 : List AObj} {base : Nat} {live : List Nat} {σ : St} {a : Act} {w : World} (hb : c0.nx = base) (hn : normOK base live σ = true) (h : Inv c0 objs0 σ a w) : Inv c0 objs0 (normSt base live σ) a w := by
 obtain ⟨c,hw,hr,hf⟩ := h
 unfold normOK at hn
 simp only [vab] at hn
 obtain ⟨hin,hk⟩ := hn
 have hin := qcv.1 hin
 have hk := qik hk
 refine ⟨lessCtx c (keptIds base σ.objs (live.map (look .undef σ.env))),hw,⟨?_,rfl,fun t => ?_,hr.size,hr.defers⟩,?_⟩
 ·have := qor hr.ok hk hr.nx
  unfold objsOf at this
  rw [qhA] at this
  exact this
 ·show Rel _ (look .undef (live.zip _) t) _
  rw [qkG]
  by_cases ht : t ∈ live
  ·rw [if_pos ht]
   exact qmp (fun o ho => hin o (qmj (va1 ht) ho)) (hr.env t)
  ·rw [if_neg ht]; exact trivial
 ·have := qos hf hk hb
  unfold objsOf at this
  rw [qhA] at this
  exact this
theorem qrq {c : Ctx} {objs : Objs} (hs : SOK c objs) {o : Nat} {e : Ty} {xs : List e.den} {fz : Bool} (ho : look .dead objs o = .row e xs fz) (l : List Nat) (hl : fz = false -> o ∈ l) {es lo hi : Nat} (hes : es = e.size) {u : Value} (h : Rel c (.sub o es lo hi) u) :
  ∃ a n k,u = .slice a n k /\ Rows (Cells c.w (fzCtx c l).SA e) c.w (fzCtx c l).SA ((xs.take hi).drop lo) a n k := by
 obtain ⟨a,n,k,hh,hr⟩ := qfI hs ho l hl
 obtain ⟨_,a',n',k',hh',h1,h2,rfl⟩ := h
 rw [hh] at hh'; cases hh'
 subst hes
 exact ⟨_,_,_,rfl,hr.cut h1 (by rw [<- hr.1]; exact h2)⟩
theorem qkQ {c0 c : Ctx} {objs0 : List AObj} {σ : St} {a : Act} (hr : StRel c σ a) (hf : FR c0 objs0 c σ.objs) {o : Nat} {e : Ty} {xs : List e.den} {fz : Bool} (ho : look .dead σ.objs o = .row e xs fz) :
  ∃ l : List Nat,(fz = false -> o ∈ l) /\ (∃ D,Step c (fzCtx c l) D) /\ SOK (fzCtx c l) (fzRow o e xs fz ++ σ.objs) /\ FR c0 objs0 (fzCtx c l) (fzRow o e xs fz ++ σ.objs) := by
 cases fz with
 | true =>
  have hc : fzCtx c [] = c := by
   unfold fzCtx
   simp
  refine ⟨[],(by intro h; cases h),⟨fun _=>False,by rw [hc]; exact Step.refl c⟩,?_,?_⟩
  ·rw [hc]; exact hr.ok
  ·rw [hc]; exact hf
 | false =>
  have hl : Unfrozen σ.objs [o] := fun o' ho' => by
   rw [va3] at ho'; subst ho'; exact ⟨e,xs,ho⟩
  obtain ⟨hst,hs⟩ := qdX hr.ok hl
  have hfz : freezes σ.objs [o] = fzRow o e xs false := by
   show [(o,frozenRow (look .dead σ.objs o))] = _
   rw [ho]; rfl
  rw [hfz] at hst hs
  refine ⟨[o],fun _=>va3.2 rfl,⟨_,hst⟩,hs,hf.step hr.ok hst fun o' b h1 h2 _ => ?_⟩
  have h1 : o' = o := by simpa [fzRow] using h1
  subst h1
  rw [show fzRow o' e xs false ++ σ.objs = (o',AObj.row e xs true) :: σ.objs from rfl,qaL,if_pos rfl] at h2
  cases h2
theorem qiw {c0 c : Ctx} {objs0 : List AObj} {σ : St} {a : Act} (hr : StRel c σ a) (hf : FR c0 objs0 c σ.objs) (m : Cm) (v : V) :
  ∃ c',c'.w = c.w /\ (∃ D,Step c c' D) /\ SOK c' ((cm1 σ.objs σ.nx m v).2.1 ++ σ.objs) /\ c'.nx = (cm1 σ.objs σ.nx m v).2.2 /\ FR c0 objs0 c' ((cm1 σ.objs σ.nx m v).2.1 ++ σ.objs) /\ (∀ u,Rel c v u -> Rel c' (cm1 σ.objs σ.nx m v).1 u) := by
 have keep : ∀ x : V × Objs × Nat,x.2.1 = [] -> x.2.2 = σ.nx -> (∀ u,Rel c v u -> Rel c x.1 u) -> ∃ c',c'.w = c.w /\ (∃ D,Step c c' D) /\ SOK c' (x.2.1 ++ σ.objs) /\ c'.nx = x.2.2 /\ FR c0 objs0 c' (x.2.1 ++ σ.objs) /\ (∀ u,Rel c v u -> Rel c' x.1 u) := by
  intro x h1 h2 h3
  rw [h1,h2]
  exact ⟨c,rfl,⟨_,Step.refl c⟩,hr.ok,hr.nx,hf,h3⟩
 unfold cm1
 split
 ·rename_i e
  have hnx := hr.nx
  let c2 : Ctx := { c with nx := c.nx + 1,hdr := fun o => if o < c.nx then c.hdr o else .slice none 0 0,blk := fun o => if o < c.nx then c.blk o else none }
  have hst : Step c c2 (fun _=>False) := ⟨rfl,rfl,rfl,vaf _,Nat.le_succ _,fun o ho => if_pos ho,fun o ho => if_pos ho,fun _ _ _ => rfl,fun _ _ _ => Iff.rfl,fun _ _ _ => Iff.rfl,fun _ h => h.elim⟩
  have hst' : Step c c2 (Dof c σ.objs [(σ.nx,.row e [] false)]) := ⟨hst.os,hst.tape,hst.output,hst.size,hst.nx,hst.hdr,hst.blk,fun _ _ _ => rfl,fun _ _ _ => Iff.rfl,fun _ _ _ => Iff.rfl,fun b ⟨o,ho,hm,_⟩ => by
   simp at ho; subst ho
   have hlt := (hr.ok.obj _).lt (fun hd => by rw [hd] at hm; cases hm)
   rw [hnx] at hlt; exact absurd hlt (va4 _)⟩
  have hb2 : c2.blk σ.nx = none := if_neg (by rw [<- hnx]; exact va4 _)
  have hnew : ∀ o b,o ∈ [(σ.nx,AObj.row e [] false)].map (·.1) -> c2.blk o = some b -> False := fun o b ho hb => by
   simp at ho; subst ho
   rw [hb2] at hb; cases hb
  refine ⟨c2,rfl,⟨_,hst⟩,?_,by show c.nx + 1 = _; rw [hnx],hf.step hr.ok hst' fun o b h1 _ h3 => (hnew o b h1 h3).elim,fun u hv => ⟨by show σ.nx < c.nx + 1; rw [hnx]; exact vaE _,?_⟩⟩
  ·refine hr.ok.step hst' (fun o ho => ?_) (fun o b ho _ hb => (hnew o b ho hb).elim) (fun o1 _ b h1 _ _ _ hb _ => (hnew o1 b h1 hb).elim) hr.ok.sub hr.ok.bd (fun o ho => ?_)
   ·simp at ho; subst ho
    show ObjOK c2 σ.nx (look .dead [(σ.nx,AObj.row e [] false)] σ.nx)
    have hl : look .dead [(σ.nx,AObj.row e [] false)] σ.nx = .row e [] false := by rw [qaL,if_pos rfl]
    have hh2 : c2.hdr σ.nx = .slice none 0 0 := if_neg (by rw [<- hnx]; exact va4 _)
    rw [hl]
    refine ⟨by show σ.nx < c.nx + 1; rw [hnx]; exact vaE _,u8T,[],?_,rfl,?_,fun b hb => (by rw [hb2] at hb; cases hb),fun _=>rfl⟩
    ·rw [hh2]; exact ⟨by simp,.inl ⟨rfl,rfl⟩⟩
    ·rw [hh2,hb2]; rfl
   ·show (if o < c.nx then c.hdr o else .slice none 0 0).oneCell' = true
    split
    ·rename_i h; exact hr.ok.one o h
    ·rfl
  ·cases hv
   show Value.slice none 0 0 = (if σ.nx < c.nx then c.hdr σ.nx else .slice none 0 0)
   rw [if_neg (by rw [hnx]; exact va4 _)]
 ·rename_i e
  exact keep _ rfl rfl fun u hv => by cases hv; exact ⟨none,0,0,rfl,rfl,vaf _,[],rfl,.inl rfl⟩
 ·rename_i e
  exact keep _ rfl rfl fun u hv => by cases hv; exact ⟨none,0,0,rfl,rfl,vaf _,[],rfl,.inl rfl⟩
 ·rename_i o
  split
  ·rename_i e xs fz ho
   obtain ⟨l,hl,hst,hs,hf'⟩ := qkQ hr hf ho
   refine ⟨fzCtx c l,rfl,hst,hs,hr.nx,hf',fun u hv => ?_⟩
   obtain ⟨a,n,k,hh,hrw⟩ := qfI hr.ok ho l hl
   obtain ⟨_,rfl⟩ := hv
   exact ⟨a,n,k,hh,hrw⟩
  ·exact keep _ rfl rfl fun u hv => hv
 ·rename_i o es lo hi
  split
  ·rename_i e xs fz ho
   split
   ·rename_i hes
    obtain ⟨l,hl,hst,hs,hf'⟩ := qkQ hr hf ho
    refine ⟨fzCtx c l,rfl,hst,hs,hr.nx,hf',fun u hv => ?_⟩
    obtain ⟨a,n,k,hh,hrw⟩ := qrq hr.ok ho l hl (vaa hes) hv
    exact ⟨a,n,k,hh,hrw⟩
   ·exact keep _ rfl rfl fun u hv => hv
  ·exact keep _ rfl rfl fun u hv => hv
 ·split
  ·rename_i hlt
   have hlt := qoL hlt
   exact keep _ rfl rfl fun u hv => ⟨by rw [hr.nx]; exact hlt,.inl hv⟩
  ·exact keep _ rfl rfl fun u hv => hv
 ·exact keep _ rfl rfl fun u hv => hv
theorem qeQ {c c' : Ctx} : ∀ {cs : List V} {us : List Value} (j : Nat) {v : V},RelL c cs us -> RelL c' cs us -> (∀ u,Rel c (getC cs j) u -> Rel c' v u) -> RelL c' (setNth j v cs) us
 | [],us,j,v,_,h,_ => by cases j <;> exact h
 | x :: r,us,0,v,⟨u0,us0,e0,k1,_⟩,⟨u,us',e,h1,h2⟩,hv => by
  have hh : u = u0 := (va8.inj (e.symm.trans e0)).1
  exact ⟨u,us',e,hv u (hh ▸ k1),h2⟩
 | x :: r,us,j + 1,v,⟨u0,us0,e0,_,k2⟩,⟨u,us',e,h1,h2⟩,hv => by
  have hh : us' = us0 := (va8.inj (e.symm.trans e0)).2
  exact ⟨u,us',e,h1,qeQ j (hh ▸ k2) h2 fun u' h3 => hv u' h3⟩
theorem qqO (objs : Objs) (nx : Nat) (m : Cm) {v : V} (h : v.isC = true) : (cm1 objs nx m v).1.isC = true := by
 unfold cm1
 split
 ·rfl
 ·rfl
 ·rfl
 ·split
  ·rfl
  ·rfl
 ·split
  ·split
   ·rfl
   ·rfl
  ·rfl
 ·split <;> rfl
 ·exact h
theorem qjb : ∀ {cs : List V} (j : Nat) {v : V},cs.all V.isC = true -> ((getC cs j).isC = true -> v.isC = true) -> (setNth j v cs).all V.isC = true
 | [],j,_,_,_ => by cases j <;> rfl
 | x :: r,0,v,h,hv => by
  simp only [vaO,vab] at h
  show (v :: r).all V.isC = true
  simp only [vaO,vab]
  exact ⟨hv h.1,h.2⟩
 | x :: r,j + 1,v,h,hv => by
  simp only [vaO,vab] at h
  show (x :: setNth j v r).all V.isC = true
  simp only [vaO,vab]
  exact ⟨h.1,qjb j h.2 hv⟩
theorem qnF {c : Ctx} {objs : Objs} (hs : SOK c objs) {o vt : Nat} {cs cs' : List V} (ho : look .dead objs o = .var vt cs) (hall : cs'.all V.isC = true)
  (hrel : ∀ us b el,c.blk o = some b -> c.w.heap[b]? = some (.cells (us : List Value).toArray el (0,0)) -> RelL c cs us -> RelL c cs' us) : SOK c ((o,.var vt cs') :: objs) := by
 have hm : ∀ j,(look .dead ((o,AObj.var vt cs') :: objs) j).mut = (look .dead objs j).mut := fun j => by
  rw [qaL]
  split
  ·rename_i h; subst h; rw [ho]; rfl
  ·rfl
 refine ⟨hs.low,fun j => ?_,fun j1 j2 b h1 h2 => by rw [hm] at h1 h2; exact hs.inj j1 j2 b h1 h2,hs.sub,hs.bd,hs.one⟩
 rw [qaL]
 split
 ·rename_i h; subst h
  have := hs.obj o
  rw [ho] at this
  obtain ⟨h1,b,us,el,h2,h3,h4,h5,_,hel⟩ := this
  exact ⟨h1,b,us,el,h2,h3,hrel us b el h2 h3 h4,h5,hall,hel⟩
 ·exact hs.obj j
theorem FR.swap {c0 c : Ctx} {objs0 : List AObj} {objs : Objs} (h : FR c0 objs0 c objs) {o vt : Nat} {cs cs' : List V} (ho : look .dead objs o = .var vt cs) : FR c0 objs0 c ((o,.var vt cs') :: objs) :=
 { h with fresh := fun j b hm hb => h.fresh j b (by
   rw [qaL] at hm
   split at hm
   ·rename_i h; subst h; rw [ho]; rfl
   ·exact hm) hb }
theorem qrx (objs : Objs) (nx : Nat) (m : Cm) (v : V) {o : Nat} (h : o ≠ nx) {vt : Nat} {cs : List V} (ho : look .dead objs o = .var vt cs) : o ∉ (cm1 objs nx m v).2.1.map (·.1) := by
 have hfz : ∀ {o' : Nat} {e : Ty} {xs : List e.den} {fz : Bool},look .dead objs o' = .row e xs fz -> o ∉ (fzRow o' e xs fz).map (·.1) := fun {o' e xs fz} ho' => by
  cases fz with
  | true => simp [fzRow]
  | false =>
   intro hm
   have hm : o = o' := by simpa [fzRow] using hm
   subst hm; rw [ho] at ho'; cases ho'
 unfold cm1
 split
 ·simpa using h
 ·simp
 ·simp
 ·split
  ·rename_i ho'; exact hfz ho'
  ·simp
 ·split
  ·rename_i ho'
   split
   ·exact hfz ho'
   ·simp
  ·simp
 ·split <;> simp
 ·simp
theorem qqs {c : Ctx} {objs : Objs} (hs : SOK c objs) {o : Nat} {e : Ty} {xs : List e.den} {fz : Bool} (ho : look .dead objs o = .row e xs fz) {u : Value} (h : Rel c (.own o) u) : Rel c (.sub o e.size 0 xs.length) u := by
 obtain ⟨hlt,rfl⟩ := h
 obtain ⟨et,cells,hown,_⟩ := hs.row_at ho
 refine ⟨hlt,?_⟩
 rcases hown.2 with ⟨hv,hz⟩ | ⟨g,cap,cur,hv,_,_,hle,_⟩
 ·exact ⟨_,_,_,hv,vaQ _,by rw [hz]; exact vaf _,by rw [hv,hz]; rfl⟩
 ·refine ⟨_,_,_,hv,vaQ _,vaf _,?_⟩
  rw [hv]
  simp only [vbj,Nat.zero_mul,Option.map_some]
  split
  ·rfl
  ·rw [Addr.add_lit]
theorem qnH {c0 c : Ctx} {objs0 : List AObj} {σ : St} {a : Act} (hr : StRel c σ a) (hf : FR c0 objs0 c σ.objs) {o es lo hi : Nat} {u : Value} (hv : Rel c (.sub o es lo hi) u) :
  ∃ c',c'.w = c.w /\ (∃ D,Step c c' D) /\ SOK c' ((trim1 σ.objs σ.nx o es lo hi).2.1 ++ σ.objs) /\ c'.nx = (trim1 σ.objs σ.nx o es lo hi).2.2 /\ FR c0 objs0 c' ((trim1 σ.objs σ.nx o es lo hi).2.1 ++ σ.objs) /\ Rel c' (trim1 σ.objs σ.nx o es lo hi).1 u := by
 have keep : ∃ c',c'.w = c.w /\ (∃ D,Step c c' D) /\ SOK c' (([] : Objs) ++ σ.objs) /\ c'.nx = σ.nx /\ FR c0 objs0 c' (([] : Objs) ++ σ.objs) /\ Rel c' (.sub o es lo hi) u := ⟨c,rfl,⟨_,Step.refl c⟩,hr.ok,hr.nx,hf,hv⟩
 unfold trim1
 split
 ·rename_i e xs hob
  split
  ·rename_i hcc
   simp only [vab] at hcc
   have hlo : lo = 0 := vaa hcc.1
   have hes : es = e.size := vaa hcc.2
   obtain ⟨hnx,a',n,k,hh,_,hhi,rfl⟩ := hv
   have hm : (look .dead σ.objs o).mut = true := by rw [hob]; rfl
   obtain ⟨et',cells,hown,hcl,hobk,_,h5,_,hty⟩ := hr.ok.row_at hob
   subst hlo hes
   have key : ∃ c',c'.w = c.w /\ Done c σ.objs c' (.own c.nx) (.slice (if k = 0 then a' else a'.map (·.add (0 * e.size))) (hi - 0) (k - 0)) [(o,.dead),(c.nx,.row e (xs.take hi) false)] (c.nx + 1) := by
    rcases hown.2 with ⟨hv,hz0⟩ | ⟨g,cap,cur,hv,_,hg,hle,hcm,hcs,htk⟩
    ·have hx0 : xs = [] := vaD hz0
     subst hx0
     rw [hh] at hv; cases hv
     have hhi0 : hi = 0 := by omega
     subst hhi0
     exact Done.killNew hr.ok (o := o) (w := c.w) (hv := .slice none 0 0) (et := et') (zs := ([] : List e.den).take 0) (cells := []) hm rfl rfl rfl (vaf _) (fun _ _ _ => rfl) ⟨by simp,.inl ⟨rfl,rfl⟩⟩ (show CellsL (Cells c.w c.SA e) ([] : List e.den) [] from rfl) (fun b hb => by simp [Value.ownBlock] at hb) hty
    ·rw [hh] at hv; cases hv
     have hbk : c.blk o = some g := by rw [<- hobk,hh]; rfl
     have hclen := hcl.len (fun x cs h => Cells.len e x cs h)
     have htake := CellsL.take (fun x cs h => Cells.len e x cs h) _ _ hcl hi
     have htl : (cells.take (hi * e.size)).length = hi * e.size := by
      rw [vaS,hclen]
      exact vaL (vbo _ hhi)
     have hln : (xs.take hi).length = hi := by rw [vaS,vaL hhi]
     have hsl' : (Value.slice (if k = 0 then some (⟨g,0,none⟩ : Addr) else (some (⟨g,0,none⟩ : Addr)).map (·.add (0 * e.size))) (hi - 0) (k - 0)) = .slice (some ⟨g,0,none⟩) hi k := by
      simp [Addr.add]
     rw [hsl']
     refine Done.killNew hr.ok (o := o) (w := c.w) (hv := .slice (some ⟨g,0,none⟩) hi k) (zs := xs.take hi) (cells := cells.take (hi * e.size)) (et := et') hm rfl rfl rfl (vaf _) (fun _ _ _ => rfl) ⟨by rw [hln,htl],.inr ⟨g,k,_,by rw [hln],vaQ _,hg,by rw [hln]; omega,hcm,hcs,?_⟩⟩ htake (fun b hb => by simp [Value.ownBlock] at hb; subst hb; exact .inr hbk) hty
     rw [hln,<- htk,List.take_take,vaL (vbo _ hhi)]
   obtain ⟨c',hw,hd⟩ := key
   have hnx' := hr.nx
   rw [<- hnx']
   exact ⟨c',hw,⟨_,hd.step⟩,hd.ok,hd.nx,hf.step hr.ok hd.step hd.fresh,hd.rel⟩
  ·exact keep
 ·exact keep
theorem qqM {c0 c : Ctx} {objs0 : List AObj} {σ : St} {a : Act} (hr : StRel c σ a) (hf : FR c0 objs0 c σ.objs) (m : Cm) (j : Nat) {v : V} {u : Value} (hv : Rel c v u) :
  ∃ c',c'.w = c.w /\ (∃ D,Step c c' D) /\ SOK c' ((cv1 σ.objs σ.nx m j v).2.1 ++ σ.objs) /\ c'.nx = (cv1 σ.objs σ.nx m j v).2.2 /\ FR c0 objs0 c' ((cv1 σ.objs σ.nx m j v).2.1 ++ σ.objs) /\ Rel c' (cv1 σ.objs σ.nx m j v).1 u := by
 unfold cv1
 split
 ·rename_i o
  unfold cut1
  have keep : ∃ c',c'.w = c.w /\ (∃ D,Step c c' D) /\ SOK c' (([] : Objs) ++ σ.objs) /\ c'.nx = σ.nx /\ FR c0 objs0 c' (([] : Objs) ++ σ.objs) /\ Rel c' (.own o) u := ⟨c,rfl,⟨_,Step.refl c⟩,hr.ok,hr.nx,hf,hv⟩
  split
  ·split
   ·rename_i e xs fz ho
    exact ⟨c,rfl,⟨_,Step.refl c⟩,hr.ok,hr.nx,hf,qqs hr.ok ho hv⟩
   ·exact keep
  ·rename_i e
   obtain ⟨c',hw,hst,hs,hn,hf',hrel⟩ := qiw hr hf (.fz e) (.own o)
   exact ⟨c',hw,hst,hs,hn,hf',hrel _ hv⟩
  ·exact keep
 ·rename_i o es lo hi
  unfold subV
  split
  ·exact qnH hr hf hv
  ·obtain ⟨c',hw,hst,hs,hn,hf',hrel⟩ := qiw hr hf m (.sub o es lo hi)
   exact ⟨c',hw,hst,hs,hn,hf',hrel _ hv⟩
 ·rename_i cs
  obtain ⟨us,e,hl⟩ := hv
  obtain ⟨c',hw,⟨D,hst⟩,hs,hn,hf',hrel⟩ := qiw hr hf m (getC cs j)
  exact ⟨c',hw,⟨D,hst⟩,hs,hn,hf',us,e,qeQ j hl (RelL.mono hst hr.ok.sub _ _ hl) fun u' h => hrel u' h⟩
 ·rename_i o off
  split
  ·rename_i vt cs ho
   have hob := hr.ok.obj o
   rw [ho] at hob
   obtain ⟨hlt,b,us,el,hb1,hb2,hl,_,hall,_⟩ := hob
   obtain ⟨c',hw,⟨D,hst⟩,hs,hn,hf',hrel⟩ := qiw hr hf m (getC cs (off + j))
   have hne : o ≠ σ.nx := by rw [<- hr.nx]; exact Nat.ne_of_lt hlt
   have ho' : look .dead ((cm1 σ.objs σ.nx m (getC cs (off + j))).2.1 ++ σ.objs) o = .var vt cs := by rw [qa7,if_neg (qrx _ _ _ _ hne ho),ho]
   have hvar : ∀ us' el',c'.blk o = some b -> c'.w.heap[b]? = some (.cells (us' : List Value).toArray el' (0,0)) -> us' = us := fun us' el' _ h2 => by
    rw [hw,hb2] at h2; have h3 := Option.some.inj h2
    simp at h3; exact h3.1.symm
   exact ⟨c',hw,⟨D,hst⟩,qnF hs ho' (qjb _ hall fun h => qqO _ _ _ h) (fun us' b' el' k1 k2 hl' => by
    rw [hst.blk o hlt,hb1] at k1; cases k1
    have := hvar us' el' (by rw [hst.blk o hlt,hb1]) k2
    subst this
    exact qeQ _ hl hl' fun u' h => hrel u' h),hn,hf'.swap ho',Rel.mono hst hr.ok.sub _ _ hv⟩
  ·exact ⟨c,rfl,⟨_,Step.refl c⟩,hr.ok,hr.nx,hf,hv⟩
 ·obtain ⟨c',hw,hst,hs,hn,hf',hrel⟩ := qiw hr hf m v
  exact ⟨c',hw,hst,hs,hn,hf',hrel _ hv⟩
theorem qoF : ∀ (l : Cvs) (σ : St),(cvSt l σ).n = σ.n
 | [],_ => rfl
 | (_,_,_) :: r,_ => qoF r _
theorem qmI {c0 : Ctx} {objs0 : List AObj} : ∀ (l : Cvs) {σ : St} {a : Act} {w : World},Inv c0 objs0 σ a w -> Inv c0 objs0 (cvSt l σ) a w
 | [],_,_,_,h => h
 | (t,j,m) :: r,σ,a,w,h => by
  obtain ⟨c,hw,hr,hf⟩ := h
  obtain ⟨c',hw',⟨_,hst⟩,hs,hn,hf',hrel⟩ := qqM hr hf m j (hr.env t)
  refine qmI r ⟨c',hw'.trans hw,⟨hs,hn,fun t' => ?_,hr.size,hr.defers⟩,hf'⟩
  show Rel c' (look .undef ((t,_) :: σ.env) t') _
  rw [qaL]
  by_cases ht : t = t'
  ·subst ht; rw [if_pos rfl]; exact hrel
  ·rw [if_neg ht]; exact Rel.mono hst hr.ok.sub _ _ (hr.env t')
def getRes (tmps : Array Value) : ResultVar -> Sem Value
 | .tmp t => pure (tmps.getD t Go.undef)
 | .cell a t => do loadVar t (<- asAddr (tmps.getD a Go.undef))
theorem qjI {t : TypeId} {u z : Value} {w : World} (h : (Instr.loadAt t u).run P w = .ok z w) : (asAddr u >>= fun a => loadVar t a).run P w = .ok z w := by
 unfold Instr.loadAt Instr.sureAddr at h
 cases u with
 | pointer p =>
  cases p with
  | some a => simpa [asAddr] using h
  | none => simp at h
 | _ => simp at h
theorem qgC (hT : TabOK P tt) {objs : Objs} {env : Env} {c : Ctx} (hs : SOK c objs) {a : Act} (he : EnvRel c env a) {r : R} : ∀ (rs : List ResultVar) (K : List V -> Option R),resK tt objs env rs K = some r ->
  ∃ vs us,K vs = some r /\ RelL c vs us /\ (rs.mapM (getRes a.tmps)).run P c.w = .ok us c.w
 | [],K,h => ⟨[],[],h,rfl,rfl⟩
 | .tmp t :: rs,K,h => by
  obtain ⟨vs,us,h1,h2,h3⟩ := qgC hT hs he rs _ h
  refine ⟨_,_ :: us,h1,⟨_,us,rfl,he t,h2⟩,?_⟩
  rw [List.mapM_cons]
  simp [getRes,h3]
 | .cell x t :: rs,K,h => by
  obtain ⟨v,z,h,hr,hl⟩ := qig hT hs (he x) h
  obtain ⟨vs,us,h1,h2,h3⟩ := qgC hT hs he rs _ h
  refine ⟨_,z :: us,h1,⟨_,us,rfl,hr,h2⟩,?_⟩
  have := qjI hl
  have hg : getRes a.tmps (.cell x t) = (asAddr (a.tmps.getD x Go.undef) >>= fun y => loadVar t y) := rfl
  rw [List.mapM_cons,Sem.run_bind,hg,this]
  simp [Result.andThen,h3]
theorem qlg {fn : Func} {a : Act} {c : Ctx} {us : List Value} (h : (fn.results.toList.mapM (getRes a.tmps)).run P c.w = .ok us c.w) :
  (results fn a.tmps).run P c.w = .ok (if h : us.toArray.size = 1 then us.toArray[0] else .tuple us.toArray) c.w := by
 have e : results fn a.tmps = (fn.results.mapM (getRes a.tmps) >>= fun vs => pure (if h : vs.size = 1 then vs[0] else .tuple vs)) := rfl
 rw [e,Array.mapM_eq_mapM_toList,Sem.run_bind,Sem.run_map,h]
 rfl
theorem qmS {c : Ctx} : ∀ {vs : List V} {us : List Value},RelL c vs us -> Rel c (resOne vs) (if h : us.toArray.size = 1 then us.toArray[0] else .tuple us.toArray)
 | [],us,h => by cases h; exact ⟨[],rfl,rfl⟩
 | [v],us,h => by
  obtain ⟨u,us',rfl,h1,h2⟩ := h
  cases h2
  exact h1
 | v :: w :: r,us,h => by
  obtain ⟨u,us',rfl,h1,u2,us2,rfl,h2⟩ := h
  rw [dif_neg (by simp)]
  exact ⟨u :: u2 :: us2,rfl,u,_,rfl,h1,u2,us2,rfl,h2⟩
def xt : Xt -> Exit
 | .normal => .normal
 | .exit id => .exit id
 | .ret => .ret
theorem qkU (hT : TabOK P tt) {c0 : Ctx} {objs0 : List AObj} (hs0 : SOK c0 (objsOf objs0)) {base : Nat} (hb : c0.nx = base) {fn : Func} {e : Xt} {σ : St} {res : V} {objs' : List AObj} (h : finish tt base fn.results.toList e σ = some (res,objs')) {a : Act} {w : World} (hi : Inv c0 objs0 σ a w) :
  bodyPost P fn (fun e w' => ∃ u c',e = .returned u /\ c'.w = w' /\ FnPost c0 objs0 c' res u objs') (xt e) a w := by
 obtain ⟨c,rfl,hr,hf⟩ := hi
 have key : ∀ h : resK tt σ.objs σ.env fn.results.toList (fun vs =>
   let v := resOne vs
   let ids := keptIds base σ.objs [v]
   match allIn (V.ids v) ids && keepOK base σ.objs σ.nx ids with
   | true => some (v.ren (posOf ids),lessObjs σ.objs ids)
   | false => none) = some (res,objs'),a.defers = [] /\ ∃ v,(results fn a.tmps).run P c.w = .ok v c.w /\ ∃ u c',Ending.returned v = .returned u /\ c'.w = c.w /\ FnPost c0 objs0 c' res u objs' := fun h => by
  obtain ⟨vs,us,h,h2,h3⟩ := qgC hT hr.ok hr.env _ _ h
  dsimp only at h
  refine ⟨hr.defers,_,qlg h3,_,lessCtx c (keptIds base σ.objs [resOne vs]),rfl,rfl,?_⟩
  split at h
  rotate_left
  ·cases h
  rename_i hk
  cases h
  simp only [vab] at hk
  obtain ⟨hin,hk⟩ := hk
  have hk := qik hk
  have hf' := qos hf hk hb
  refine ⟨⟨hf'.os,hf'.tape,hf'.output,hf'.size,hf'.nx,hf'.hdr,hf'.blk,hf'.heap,hf'.sb,hf'.sa,fun b hL => ?_⟩,qor hr.ok hk hr.nx,qmp (fun o ho => qcv.1 hin o ho) (qmS h2),(qhA _ _).symm,fun b hL => ?_⟩
  ·obtain ⟨j,hm,hbk⟩ := qdZ.1 hL
   exact hs0.mutSB hm hbk
  ·obtain ⟨j,hm,hbk⟩ := qdZ.1 hL
   exact hf'.fresh j b hm hbk
 cases e with
 | normal => exact key h
 | ret => exact key h
 | exit id => cases h
end Go.Vm

namespace Go.Vm
open Go
variable {P : Program} {tt : Tab} {Γ : FEnv}
def RegionOK (P : Program) (tt : Tab) (Γ : FEnv) : Prop := ∀ (c0 : Ctx) (objs0 : List AObj) (id : Nat) (ops : Array Oper) (draw : Bool) (σ : St) (K : St -> Option R) (r : R) (Q : Exit -> Act -> World -> Prop) (a : Act) (w : World),
 evRegion tt Γ ops.toList draw σ K = some r -> Inv c0 objs0 σ a w -> (∀ σ' a' w',K σ' = some r -> σ'.n = σ.n -> Inv c0 objs0 σ' a' w' -> Q .normal a' w') -> (Code.region id ops draw).wp P Q a w
def KOK (c0 : Ctx) (objs0 : List AObj) (n : Nat) (r : R) (K : Xt -> St -> Option R) (Q : Exit -> Act -> World -> Prop) : Prop :=
 ∀ e σ a w,K e σ = some r -> σ.n = n -> Inv c0 objs0 σ a w -> Q (xt e) a w
def LoopOK (P : Program) (c0 : Ctx) (objs0 : List AObj) (n : Nat) (L : LoopF) : Prop := ∀ (c : Code) (σ : St) (K : Xt -> St -> Option R) (r : R) (Q : Exit -> Act -> World -> Prop) (a : Act) (w : World),
 L c σ K = some r -> σ.n = n -> Inv c0 objs0 σ a w -> KOK c0 objs0 n r K Q -> (Code.loop c).wp P Q a w
theorem qm8 {c : Ctx} {env : Env} {a : Act} (he : EnvRel c env a) {x : Operand} {b : Bool} (h : evalO env x = .b b) : a.eval x = .bool b := by
 have := qax he x
 rw [h] at this
 exact this
theorem qdY (hR : RegionOK P tt Γ) {c0 : Ctx} {objs0 : List AObj} {n : Nat} {L : LoopF} (hL : LoopOK P c0 objs0 n L) : ∀ (c : Code) (σ : St) (K : Xt -> St -> Option R) (r : R) (Q : Exit -> Act -> World -> Prop) (a : Act) (w : World),
  evB tt Γ L c σ K = some r -> σ.n = n -> Inv c0 objs0 σ a w -> KOK c0 objs0 n r K Q -> c.wp P Q a w
 | .skip,σ,K,r,Q,a,w,h,hn,hi,hK => wp_skip (hK .normal σ a w h hn hi)
 | .region id ops draw,σ,K,r,Q,a,w,h,hn,hi,hK => hR c0 objs0 id ops draw σ _ r Q a w h hi fun σ' a' w' h' hn' hi' => hK .normal σ' a' w' h' (hn'.trans hn) hi'
 | .seq x y,σ,K,r,Q,a,w,h,hn,hi,hK => by
  refine wp_seq (qdY hR hL x σ _ r _ a w h hn hi fun e σ' a' w' h' hn' hi' => ?_)
  cases e with
  | normal => exact qdY hR hL y σ' K r Q a' w' h' hn' hi' hK
  | exit id => exact hK (.exit id) σ' a' w' h' hn' hi'
  | ret => exact hK .ret σ' a' w' h' hn' hi'
 | .cond x y z,σ,K,r,Q,a,w,h,hn,hi,hK => by
  unfold evB at h
  split at h
  rotate_left
  ·cases h
  rename_i t ht
  obtain ⟨c,hw,hr,hf⟩ := hi
  have hc := qm8 hr.env ht
  refine wp_cond_split hc (fun hb => ?_) (fun hb => ?_)
  ·rcases qe5 h with ⟨_,h⟩ | ⟨hb',h⟩
   ·exact qdY hR hL y σ K r Q a w h hn ⟨c,hw,hr,hf⟩ hK
   ·rw [hb] at hb'; cases hb'
  ·rcases qe5 h with ⟨hb',h⟩ | ⟨_,h⟩
   ·rw [hb] at hb'; cases hb'
   ·exact qdY hR hL z σ K r Q a w h hn ⟨c,hw,hr,hf⟩ hK
 | .block id x,σ,K,r,Q,a,w,h,hn,hi,hK => by
  refine wp_block (qdY hR hL x σ _ r _ a w h hn hi fun e σ' a' w' h' hn' hi' => ?_)
  cases e with
  | normal => exact hK .normal σ' a' w' h' hn' hi'
  | exit id' =>
   dsimp only at h'
   show (if id' = id then Q .normal a' w' else Q (.exit id') a' w')
   split at h'
   ·rename_i hid
    rw [if_pos (vaa hid)]
    exact hK .normal σ' a' w' h' hn' hi'
   ·rename_i hid
    rw [if_neg (fun e => by subst e; simp at hid)]
    exact hK (.exit id') σ' a' w' h' hn' hi'
  | ret => exact hK .ret σ' a' w' h' hn' hi'
 | .loop x,σ,K,r,Q,a,w,h,hn,hi,hK => hL x σ K r Q a w h hn hi hK
 | .exit id,σ,K,r,Q,a,w,h,hn,hi,hK => wp_exit (hK (.exit id) σ a w h hn hi)
 | .ret,σ,K,r,Q,a,w,h,hn,hi,hK => wp_ret (hK .ret σ a w h hn hi)
 | .rangeFunc _ _ _ _,_,_,_,_,_,_,h,_,_,_ => by cases h
 | .scope _,_,_,_,_,_,_,h,_,_,_ => by cases h
 | .label _,_,_,_,_,_,_,h,_,_,_ => by cases h
 | .goto _,_,_,_,_,_,_,h,_,_,_ => by cases h
 | .refuse _,_,_,_,_,_,_,h,_,_,_ => by cases h
theorem qim (hR : RegionOK P tt Γ) {c0 : Ctx} {objs0 : List AObj} {n base : Nat} (hb : c0.nx = base) (live : Live) : ∀ (m : Nat) (c : Code) (σ : St) (K : Xt -> St -> Option R) (r : R) (Q : Exit -> Act -> World -> Prop) (a : Act) (w : World),
  head live base (loopF tt Γ live base m) c σ K = some r -> σ.n = n -> Inv c0 objs0 σ a w -> KOK c0 objs0 n r K Q -> Code.rounds P c Q m a w
 | 0,c,σ,K,r,Q,a,w,h,hn,hi,hK => by
  unfold head at h
  split at h
  ·cases h
  ·cases h
 | m + 1,c,σ,K,r,Q,a,w,h,hn,hi,hK => by
  have ih := qim hR (n := n) (objs0 := objs0) hb live m
  have hL : LoopOK P c0 objs0 n (head live base (loopF tt Γ live base m)) := fun c σ K r Q a w h hn hi hK => wp_loop_rounds m (ih c σ K r Q a w h hn hi hK)
  unfold head at h
  split at h
  rotate_left
  ·cases h
  rename_i hok
  rw [rounds_succ]
  refine qdY hR hL c _ _ r _ a w h ((qoF _ _).trans hn) (qmf hb hok (qmI _ hi)) fun e σ' a' w' h' hn' hi' => ?_
  have hlv : ∀ e,leave live base c K e σ' = some r -> Q (xt e) a' w' := fun e h' => by
   unfold leave at h'
   split at h'
   ·rename_i hok'
    exact hK e _ a' w' h' ((qoF _ _).trans hn') (qmf hb hok' (qmI _ hi'))
   ·cases h'
  cases e with
  | normal => exact ih c σ' K r Q a' w' h' hn' hi' hK
  | exit id => exact hlv (.exit id) h'
  | ret => exact hlv .ret h'
theorem qgx : ∀ (vs : List V) (n t : Nat),look .undef (argSlots n vs) t = if n <= t then vs.getD (t - n) .undef else .undef
 | [],n,t => by simp [argSlots,look]
 | v :: r,n,t => by
  show look .undef ((n,v) :: argSlots (n + 1) r) t = _
  rw [qaL,qgx r (n + 1) t]
  by_cases h : n = t
  ·subst h; simp
  ·rw [if_neg h]
   by_cases hn : n <= t
   ·rw [if_pos (by omega),if_pos hn,show t - n = (t - (n + 1)) + 1 by omega]; simp
   ·rw [if_neg (by omega),if_neg hn]
theorem qmb {c : Ctx} : ∀ {vs : List V} {us : List Value},RelL c vs us -> vs.length = us.length /\ ∀ j,Rel c (vs.getD j .undef) (us.getD j Go.undef)
 | [],us,h => by cases h; exact ⟨rfl,fun j => by simp [Rel]⟩
 | v :: r,us,h => by
  obtain ⟨u,us',rfl,h1,h2⟩ := h
  obtain ⟨h3,h4⟩ := qmb h2
  refine ⟨by simp [h3],fun j => ?_⟩
  cases j with
  | zero => simpa using h1
  | succ j => simpa using h4 j
theorem qpk (hT : TabOK P tt) (hR : RegionOK P tt Γ) {live : Live} {f : FuncId} {fn : Func} (hf : P.funcs[f]? = some fn) {m : Nat} {args : List V} {objs : List AObj} {res : V} {objs' : List AObj} (h : evF tt Γ live fn m args objs = some (res,objs')) : FnOK P f args objs res objs' := by
 intro c vs hnx hs hrel
 unfold evF at h
 split at h
 ·cases h
 rename_i hle
 have hle := vah hle
 split at h
 ·cases h
 rename_i code hb
 obtain ⟨hlen,hget⟩ := qmb hrel
 refine calls_of_wp hf hb ?_
 have hL : LoopOK P c objs fn.ntmps (head live objs.length (loopF tt Γ live objs.length m)) := fun c' σ K r Q a w h hn hi hK => wp_loop_rounds m (qim hR hnx live m c' σ K r Q a w h hn hi hK)
 refine qdY hR hL code _ _ _ _ _ c.w h rfl ⟨c,rfl,⟨hs,hnx,fun t => ?_,?_,rfl⟩,?_⟩ fun e σ a w h' _ hi => qkU hT hs hnx h' (qmI _ hi)
 ·show Rel c (look .undef (argSlots 0 args) t) ((vs.toArray ++ vaI (fn.ntmps - vs.toArray.size) Go.undef).getD t Go.undef)
  rw [qgx,if_pos (vaQ _),vbj]
  have := hget t
  by_cases ht : t < vs.length
  ·have e : (vs.toArray ++ vaI (fn.ntmps - vs.toArray.size) Go.undef).getD t Go.undef = vs.getD t Go.undef := by
    simp [vae,vbf,vao,ht]
   rw [e]; exact this
  ·have e : args.getD t .undef = .undef := by
    rw [vao,vbi (by omega)]; rfl
   rw [e]; exact trivial
 ·simp; omega
 ·exact ⟨rfl,rfl,rfl,vaf _,vaf _,fun _ _ => rfl,fun _ _ => rfl,fun _ _ _ => rfl,fun _ _ _ => Iff.rfl,fun _ _ _ => Iff.rfl,fun o b hm hb => .inr (qdZ.2 ⟨o,hm,hb⟩)⟩
end Go.Vm

namespace Go.Vm
open Go
variable {P : Program} {tt : Tab}
theorem qdS {env : Env} {dst : Option Tmp} {v : V} (t : Nat) : look .undef (putE env dst v) t = if dst = some t then v else look .undef env t := by
 cases dst with
 | none => simp [putE]
 | some d =>
  show look .undef ((d,v) :: env) t = _
  rw [qaL]
  by_cases h : d = t <;> simp [h]
theorem qeF {p q : Nat -> Bool} {t : Nat} : ∀ (rs : List Rec) (j : Nat) (env env' : Env),(∀ k r,rs[k]? = some r -> r.dst = some t -> p (j + k) = q (j + k)) -> look .undef env t = look .undef env' t -> look .undef (envOn p j rs env) t = look .undef (envOn q j rs env') t
 | [],_,_,_,_,h => h
 | r :: rs,j,env,env',hk,h => by
  refine qeF rs (j + 1) _ _ (fun k r' hr' hd => by have := hk (k + 1) r' (by simpa using hr') hd; rwa [show j + (k + 1) = j + 1 + k by omega] at this) ?_
  by_cases hd : r.dst = some t
  ·have := hk 0 r rfl hd
   rw [van] at this
   rw [this]
   cases q j with
   | true => simp [qdS,hd]
   | false => exact h
  ·cases p j <;> cases q j <;> simp [qdS,hd,h]
theorem qi9 {t : Nat} {p : Nat -> Bool} : ∀ (rs : List Rec) (j : Nat) (env : Env),(∀ k r,rs[k]? = some r -> p (j + k) = true -> r.dst ≠ some t) -> look .undef (envOn p j rs env) t = look .undef env t
 | [],_,_,_ => rfl
 | r :: rs,j,env,h => by
  refine (qi9 rs (j + 1) _ fun k r' hr' hp => h (k + 1) r' (by simpa using hr') (by rw [show j + (k + 1) = j + 1 + k by omega]; exact hp)).trans ?_
  have := h 0 r rfl
  rw [van] at this
  cases hp : p j with
  | true => dsimp only; rw [qdS,if_neg (this hp)]
  | false => rfl
theorem qja {p : Nat -> Bool} {t : Nat} : ∀ (rs : List Rec) (j : Nat) (env : Env) (i : Nat) (r : Rec),rs[i]? = some r -> r.dst = some t -> p (j + i) = true -> (∀ k r',rs[k]? = some r' -> i < k -> p (j + k) = true -> r'.dst ≠ some t) -> look .undef (envOn p j rs env) t = r.v
 | [],_,_,_,_,h,_,_,_ => by simp at h
 | s :: rs,j,env,0,r,h,hd,hp,hl => by
  have : s = r := by simpa using h
  subst this
  rw [van] at hp
  show look .undef (envOn p (j + 1) rs (match p j with | true => putE env s.dst s.v | false => env)) t = _
  rw [hp]
  dsimp only
  rw [qi9 rs (j + 1) _ fun k r' hr' hpk => hl (k + 1) r' (by simpa using hr') (by omega) (by rw [show j + (k + 1) = j + 1 + k by omega]; exact hpk),qdS,if_pos hd]
 | s :: rs,j,env,i + 1,r,h,hd,hp,hl => by
  exact qja rs (j + 1) _ i r (by simpa using h) hd (by rw [show j + 1 + i = j + (i + 1) by omega]; exact hp) fun k r' hr' hk hpk => hl (k + 1) r' (by simpa using hr') (by omega) (by rw [show j + (k + 1) = j + 1 + k by omega]; exact hpk)
theorem qfO {t : Nat} {p : Nat -> Bool} : ∀ (rs : List Rec) (j : Nat) (env : Env),look .undef (envOn p j rs env) t = look .undef env t \/ ∃ k r,rs[k]? = some r /\ p (j + k) = true /\ look .undef (envOn p j rs env) t = r.v
 | [],_,_ => .inl rfl
 | r :: rs,j,env => by
  rcases qfO (t := t) (p := p) rs (j + 1) (match p j with | true => putE env r.dst r.v | false => env) with h | ⟨k,r',h1,h2,h3⟩
  ·cases hp : p j with
   | true =>
    rw [hp] at h
    dsimp only at h
    rw [qdS] at h
    by_cases hd : r.dst = some t
    ·rw [if_pos hd] at h
     refine .inr ⟨0,r,rfl,by rw [van]; exact hp,?_⟩
     show look .undef (envOn p (j + 1) rs (match p j with | true => putE env r.dst r.v | false => env)) t = _
     rw [hp]; exact h
    ·rw [if_neg hd] at h
     refine .inl ?_
     show look .undef (envOn p (j + 1) rs (match p j with | true => putE env r.dst r.v | false => env)) t = _
     rw [hp]; exact h
   | false =>
    rw [hp] at h
    refine .inl ?_
    show look .undef (envOn p (j + 1) rs (match p j with | true => putE env r.dst r.v | false => env)) t = _
    rw [hp]; exact h
  ·exact .inr ⟨k + 1,r',by simpa using h1,by rw [show j + (k + 1) = j + 1 + k by omega]; exact h2,h3⟩
theorem qhd (p : Nat -> Bool) : ∀ (rs rs' : List Rec) (j : Nat) (env : Env),envOn p j (rs ++ rs') env = envOn p (j + rs.length) rs' (envOn p j rs env)
 | [],rs',j,env => by simp [envOn]
 | r :: rs,rs',j,env => by
  show envOn p (j + 1) (rs ++ rs') _ = _
  rw [qhd p rs rs' (j + 1),vaC,show j + 1 + rs.length = j + (rs.length + 1) by omega]; rfl
def keys (ch : Objs) : List Nat := ch.map (·.1)
theorem qdy (ch objs : Objs) (t : Nat) : look .dead (ch ++ objs) t = if t ∈ keys ch then look .dead ch t else look .dead objs t := qa7 ..
theorem qd4 {p q : Nat -> Bool} {t : Nat} : ∀ (rs : List Rec) (j : Nat) (env env' : Objs),(∀ k r,rs[k]? = some r -> t ∈ keys r.ch -> p (j + k) = q (j + k)) -> look .dead env t = look .dead env' t -> look .dead (objsOn p j rs env) t = look .dead (objsOn q j rs env') t
 | [],_,_,_,_,h => h
 | r :: rs,j,env,env',hk,h => by
  refine qd4 rs (j + 1) _ _ (fun k r' hr' hd => by have := hk (k + 1) r' (by simpa using hr') hd; rwa [show j + (k + 1) = j + 1 + k by omega] at this) ?_
  by_cases hd : t ∈ keys r.ch
  ·have := hk 0 r rfl hd
   rw [van] at this
   rw [this]
   cases q j with
   | true => dsimp only; rw [qdy,qdy,if_pos hd,if_pos hd]
   | false => exact h
  ·have e : ∀ env : Objs,look .dead (r.ch ++ env) t = look .dead env t := fun env => by rw [qdy,if_neg hd]
   cases p j <;> cases q j <;> simp [e,h]
theorem qib {t : Nat} {p : Nat -> Bool} : ∀ (rs : List Rec) (j : Nat) (env : Objs),(∀ k r,rs[k]? = some r -> p (j + k) = true -> t ∉ keys r.ch) -> look .dead (objsOn p j rs env) t = look .dead env t
 | [],_,_,_ => rfl
 | r :: rs,j,env,h => by
  refine (qib rs (j + 1) _ fun k r' hr' hp => h (k + 1) r' (by simpa using hr') (by rw [show j + (k + 1) = j + 1 + k by omega]; exact hp)).trans ?_
  have := h 0 r rfl
  rw [van] at this
  cases hp : p j with
  | true => dsimp only; rw [qdy,if_neg (this hp)]
  | false => rfl
theorem qic {p : Nat -> Bool} {t : Nat} : ∀ (rs : List Rec) (j : Nat) (env : Objs) (i : Nat) (r : Rec),rs[i]? = some r -> t ∈ keys r.ch -> p (j + i) = true -> (∀ k r',rs[k]? = some r' -> i < k -> p (j + k) = true -> t ∉ keys r'.ch) -> look .dead (objsOn p j rs env) t = look .dead r.ch t
 | [],_,_,_,_,h,_,_,_ => by simp at h
 | s :: rs,j,env,0,r,h,hd,hp,hl => by
  have : s = r := by simpa using h
  subst this
  rw [van] at hp
  show look .dead (objsOn p (j + 1) rs (match p j with | true => s.ch ++ env | false => env)) t = _
  rw [hp]
  dsimp only
  rw [qib rs (j + 1) _ fun k r' hr' hpk => hl (k + 1) r' (by simpa using hr') (by omega) (by rw [show j + (k + 1) = j + 1 + k by omega]; exact hpk),qdy,if_pos hd]
 | s :: rs,j,env,i + 1,r,h,hd,hp,hl => by
  exact qic rs (j + 1) _ i r (by simpa using h) hd (by rw [show j + 1 + i = j + (i + 1) by omega]; exact hp) fun k r' hr' hk hpk => hl (k + 1) r' (by simpa using hr') (by omega) (by rw [show j + (k + 1) = j + 1 + k by omega]; exact hpk)
theorem qeU {t : Nat} {p : Nat -> Bool} : ∀ (rs : List Rec) (j : Nat) (env : Objs),look .dead (objsOn p j rs env) t = look .dead env t \/ ∃ k r,rs[k]? = some r /\ p (j + k) = true /\ t ∈ keys r.ch /\ look .dead (objsOn p j rs env) t = look .dead r.ch t
 | [],_,_ => .inl rfl
 | r :: rs,j,env => by
  rcases qeU (t := t) (p := p) rs (j + 1) (match p j with | true => r.ch ++ env | false => env) with h | ⟨k,r',h1,h2,h3⟩
  ·cases hp : p j with
   | true =>
    rw [hp] at h
    dsimp only at h
    rw [qdy] at h
    by_cases hd : t ∈ keys r.ch
    ·rw [if_pos hd] at h
     refine .inr ⟨0,r,rfl,by rw [van]; exact hp,hd,?_⟩
     show look .dead (objsOn p (j + 1) rs (match p j with | true => r.ch ++ env | false => env)) t = _
     rw [hp]; exact h
    ·rw [if_neg hd] at h
     refine .inl ?_
     show look .dead (objsOn p (j + 1) rs (match p j with | true => r.ch ++ env | false => env)) t = _
     rw [hp]; exact h
   | false =>
    rw [hp] at h
    refine .inl ?_
    show look .dead (objsOn p (j + 1) rs (match p j with | true => r.ch ++ env | false => env)) t = _
    rw [hp]; exact h
  ·exact .inr ⟨k + 1,r',by simpa using h1,by rw [show j + (k + 1) = j + 1 + k by omega]; exact h2,h3⟩
theorem qge (p : Nat -> Bool) : ∀ (rs rs' : List Rec) (j : Nat) (env : Objs),objsOn p j (rs ++ rs') env = objsOn p (j + rs.length) rs' (objsOn p j rs env)
 | [],rs',j,env => by simp [objsOn]
 | r :: rs,rs',j,env => by
  show objsOn p (j + 1) (rs ++ rs') _ = _
  rw [qge p rs rs' (j + 1),vaC,show j + 1 + rs.length = j + (rs.length + 1) by omega]; rfl
theorem qi1 {ds : List Nat} {i t : Nat} : ∀ (ops : List Oper) (j : Nat) (env : Env),look .undef (hideE ds i j ops env) t = .undef ∨ (look .undef (hideE ds i j ops env) t = look .undef env t ∧ ∀ k o,ops[k]? = some o → side ds i (j + k) = true → o.dst ≠ some t)
  | [],_,_ => .inr ⟨rfl,fun k o h => by simp at h⟩
  | o :: r,j,env => by
    rcases qi1 (ds := ds) (i := i) (t := t) r (j + 1) (match side ds i j with | true => putE env o.dst .undef | false => env) with h | ⟨h,hk⟩
    · exact .inl h
    · have key : ∀ (b : Bool),side ds i j = b → look .undef (hideE ds i j (o :: r) env) t = look .undef (match b with | true => putE env o.dst .undef | false => env) t := fun b hb => by
        rw [hb] at h
        show look .undef (hideE ds i (j + 1) r (match side ds i j with | true => putE env o.dst .undef | false => env)) t = _
        rw [hb]; exact h
      have hrest : (side ds i j = true → o.dst ≠ some t) → ∀ k o',(o :: r)[k]? = some o' → side ds i (j + k) = true → o'.dst ≠ some t := fun h0 k o' ho hs => by
        cases k with
        | zero => have : o = o' := by simpa using ho
                  subst this; exact h0 hs
        | succ k => exact hk k o' (by simpa using ho) (by rw [show j + 1 + k = j + (k + 1) by omega]; exact hs)
      cases hsd : side ds i j with
      | true =>
        have := key true hsd
        dsimp only at this
        rw [qdS] at this
        by_cases hd : o.dst = some t
        · rw [if_pos hd] at this; exact .inl this
        · rw [if_neg hd] at this; exact .inr ⟨this,hrest fun _=>hd⟩
      | false => exact .inr ⟨key false hsd,hrest fun h => by rw [hsd] at h; cases h⟩
theorem qoq {md : List Nat} {objs : Objs} (t : Nat) : look .dead (md.map (fun o => (o,AObj.dead)) ++ objs) t = if t ∈ md then .dead else look .dead objs t := by
  rw [qa7]
  have e : (md.map fun o => (o,AObj.dead)).map (·.1) = md := by rw [List.map_map]; simp [Function.comp_def]
  rw [e]
  by_cases h : t ∈ md
  · rw [if_pos h,if_pos h]
    induction md with
    | nil => rfl
    | cons m r ih =>
      show look .dead ((m,AObj.dead) :: r.map fun o => (o,AObj.dead)) t = _
      rw [qaL]
      by_cases hm : m = t
      · rw [if_pos hm]
      · rw [if_neg hm]
        refine ih ?_ ?_
        · rw [List.map_map]; simp [Function.comp_def]
        · rcases vap.1 h with h | h
          · exact absurd h.symm hm
          · exact h
  · rw [if_neg h,if_neg h]
theorem qgL {ds : List Nat} {i t : Nat} : ∀ (mds : List (List Nat)) (j : Nat) (objs : Objs),look .dead (hideO ds i j mds objs) t = .dead ∨ (look .dead (hideO ds i j mds objs) t = look .dead objs t ∧ ∀ k md,mds[k]? = some md → side ds i (j + k) = true → t ∉ md)
  | [],_,_ => .inr ⟨rfl,fun k o h => by simp at h⟩
  | md :: r,j,objs => by
    rcases qgL (ds := ds) (i := i) (t := t) r (j + 1) (match side ds i j with | true => md.map (fun o => (o,AObj.dead)) ++ objs | false => objs) with h | ⟨h,hk⟩
    · exact .inl h
    · have key : ∀ (b : Bool),side ds i j = b → look .dead (hideO ds i j (md :: r) objs) t = look .dead (match b with | true => md.map (fun o => (o,AObj.dead)) ++ objs | false => objs) t := fun b hb => by
        rw [hb] at h
        show look .dead (hideO ds i (j + 1) r (match side ds i j with | true => md.map (fun o => (o,AObj.dead)) ++ objs | false => objs)) t = _
        rw [hb]; exact h
      have hrest : (side ds i j = true → t ∉ md) → ∀ k md',(md :: r)[k]? = some md' → side ds i (j + k) = true → t ∉ md' := fun h0 k md' ho hs => by
        cases k with
        | zero => have : md = md' := by simpa using ho
                  subst this; exact h0 hs
        | succ k => exact hk k md' (by simpa using ho) (by rw [show j + 1 + k = j + (k + 1) by omega]; exact hs)
      cases hsd : side ds i j with
      | true =>
        have := key true hsd
        dsimp only at this
        rw [qoq] at this
        by_cases hd : t ∈ md
        · rw [if_pos hd] at this; exact .inl this
        · rw [if_neg hd] at this; exact .inr ⟨this,hrest fun _=>hd⟩
      | false => exact .inr ⟨key false hsd,hrest fun h => by rw [hsd] at h; cases h⟩
end Go.Vm

namespace Go.Vm
open Go
variable {P : Program} {tt : Tab} {Γ : FEnv}
theorem qld (i k : Nat) : (1 <<< i).testBit k = decide (i = k) := by
 rw [vbw,Nat.one_mul,Nat.testBit_two_pow]
theorem qgT (acc : List Nat) (k : Nat) : ∀ (es : List Edge) (m : Nat),(depOf acc es m).testBit k = true ↔ m.testBit k = true \/ ∃ e ∈ es,Region.binds .any e = true /\ (e.on = k \/ (nth 0 acc e.on).testBit k = true)
 | [],m => by simp [depOf]
 | e :: r,m => by
  unfold depOf
  cases hb : Region.binds .any e with
  | true =>
   dsimp only
   rw [qgT acc k r]
   simp only [Nat.testBit_or,qld,vbz,decide_eq_true_eq,vap,exists_eq_or_imp,hb,true_and]
   constructor
   ·rintro (((h | h) | h) | h)
    ·exact .inl h
    ·exact .inr (.inl (.inl h))
    ·exact .inr (.inl (.inr h))
    ·exact .inr (.inr h)
   ·rintro (h | (h | h) | h)
    ·exact .inl (.inl (.inl h))
    ·exact .inl (.inl (.inr h))
    ·exact .inl (.inr h)
    ·exact .inr h
  | false =>
   dsimp only
   rw [qgT acc k r]
   simp [hb]
structure Deps (ops : Array Oper) (ds : List Nat) : Prop where
 spec : ∀ i o,ops[i]? = some o -> ∀ k,dep ds i k = true ↔ ∃ e ∈ o.after.toList,Region.binds .any e = true /\ (e.on = k \/ dep ds e.on k = true)
 below : ∀ i j,i < ops.size -> dep ds i j = true -> j < i
theorem qiv (ds : List Nat) : ∀ (l : List Oper) (i : Nat),depsOK ds i l = true -> ∀ k o,l[k]? = some o -> nth 0 ds (i + k) = depOf ds o.after.toList 0 /\ nth 0 ds (i + k) < 1 <<< (i + k)
 | [],_,_,k,o,h => by simp at h
 | o' :: r,i,h,k,o,hk => by
  unfold depsOK at h
  split at h
  rotate_left
  ·cases h
  rename_i hc
  simp only [vab] at hc
  cases k with
  | zero =>
   have : o' = o := by simpa using hk
   subst this
   exact ⟨vaa hc.1,by simpa using hc.2⟩
  | succ k =>
   have := qiv ds r (i + 1) h k o (by simpa using hk)
   rwa [show i + 1 + k = i + (k + 1) by omega] at this
theorem qqK {ops : Array Oper} {ds : List Nat} (h : depsOK ds 0 ops.toList = true) : Deps ops ds := by
 have key := qiv ds ops.toList 0 h
 refine ⟨fun i o ho k => ?_,fun i j hi hd => ?_⟩
 ·have := (key i o (by simpa using ho)).1
  rw [vac] at this
  unfold dep
  rw [this,qgT]
  simp
 ·obtain ⟨o,ho⟩ : ∃ o,ops[i]? = some o := ⟨ops[i],by simp [hi]⟩
  have := (key i o (by simpa using ho)).2
  rw [vac,vbw,Nat.one_mul] at this
  refine Classical.byContradiction fun hn => ?_
  have h2 : (nth 0 ds i).testBit j = false := vbg (vad this (vbn (by omega) (by omega)))
  unfold dep at hd
  rw [h2] at hd; cases hd
theorem Deps.trans {ops : Array Oper} {ds : List Nat} (h : Deps ops ds) : ∀ {i : Nat},i < ops.size -> ∀ {j k : Nat},dep ds i j = true -> dep ds j k = true -> dep ds i k = true := by
 intro i
 induction i using Nat.strongRecOn with
 | _ i ih =>
  intro hi j k h1 h2
  obtain ⟨o,ho⟩ : ∃ o,ops[i]? = some o := ⟨ops[i],by simp [hi]⟩
  obtain ⟨e,he,hb,h3⟩ := (h.spec i o ho j).1 h1
  have hdi : dep ds i e.on = true := (h.spec i o ho e.on).2 ⟨e,he,hb,.inl rfl⟩
  have hlt := h.below i e.on hi hdi
  refine (h.spec i o ho k).2 ⟨e,he,hb,.inr ?_⟩
  rcases h3 with h3 | h3
  ·rw [h3]; exact h2
  ·exact ih e.on hlt (by omega) h3 h2
theorem qfY {ds : List Nat} {i j : Nat} : side ds i j = true ↔ i ≠ j /\ ¬ dep ds i j = true /\ ¬ dep ds j i = true := by
 unfold side
 by_cases h : i = j
 ·subst h; simp
 ·rw [qer h]
  simp [h]
theorem qkk {ds : List Nat} {i j : Nat} (h : side ds i j = true) : side ds j i = true := by
 rw [qfY] at h ⊢
 exact ⟨Ne.symm h.1,h.2.2,h.2.1⟩
theorem qhg {ds : List Nat} {ops : List Oper} : ∀ {i n : Nat},apartOK ds ops i n = true -> ∀ a b,a < i -> b < n -> side ds a b = true -> dstNe (nth none (ops.map (·.dst)) a) (nth none (ops.map (·.dst)) b) = true
 | 0,_,_,a,b,ha,_,_ => by omega
 | i + 1,n,h,a,b,ha,hb,hs => by
  unfold apartOK at h
  simp only [vab,vat,List.mem_range] at h
  rcases vaX a i with h' | h'
  ·exact qhg h.2 a b h' hb hs
  ·have : a = i := by omega
   subst this
   have := h.1 b hb
   rw [hs] at this
   simpa using this
theorem qog {ops : Array Oper} {i : Nat} {o : Oper} (h : ops[i]? = some o) : nth none (ops.toList.map (·.dst)) i = o.dst := by
 have hi : i < ops.toList.length := by have := (vai.1 h).1; simpa using this
 have h1 := qez none (ops.toList.map (·.dst)) i (by simpa using hi)
 rw [vak] at h1
 have h2 : ops.toList[i]? = some o := by simpa using h
 rw [h2] at h1
 exact (Option.some.inj h1).symm
theorem qoA {ops : Array Oper} {ds : List Nat} (h : apartOK ds ops.toList ops.toList.length ops.toList.length = true) {i j : Nat} {o o' : Oper} (hi : ops[i]? = some o) (hj : ops[j]? = some o') (hs : side ds i j = true) {t : Tmp} (h1 : o.dst = some t) (h2 : o'.dst = some t) : False := by
 have hi' := (vai.1 hi).1
 have hj' := (vai.1 hj).1
 have := qhg h i j (by simpa using hi') (by simpa using hj') hs
 rw [qog hi,qog hj,h1,h2] at this
 simp [dstNe] at this
def Seen (ds : List Nat) (nx0 i lo hi : Nat) (recs : List Rec) (o : Nat) : Prop := o < nx0 \/ (lo <= o /\ o < hi) \/ ∃ j s,recs[j]? = some s /\ dep ds i j = true /\ s.lo <= o /\ o < s.hi
theorem qhP {ds : List Nat} {i o : Nat} : ∀ {recs : List Rec} {j : Nat},seenIn ds i j recs o = true -> ∃ k s,recs[k]? = some s /\ dep ds i (j + k) = true /\ s.lo <= o /\ o < s.hi
 | [],_,h => by cases h
 | r :: rs,j,h => by
  unfold seenIn at h
  rcases va2.1 h with h | h
  ·simp only [vab] at h
   exact ⟨0,r,rfl,h.1.1,vah h.1.2,by simpa using h.2⟩
  ·obtain ⟨k,s,h1,h2,h3⟩ := qhP h
   exact ⟨k + 1,s,by simpa using h1,by rw [show j + (k + 1) = j + 1 + k by omega]; exact h2,h3⟩
theorem qgB {ds : List Nat} {nx0 i lo hi : Nat} {recs : List Rec} {o : Nat} (h : seenB ds nx0 i lo hi recs o = true) : Seen ds nx0 i lo hi recs o := by
 unfold seenB at h
 rcases va2.1 h with h | h
 ·rcases va2.1 h with h | h
  ·exact .inl (by simpa using h)
  ·simp only [vab] at h
   exact .inr (.inl ⟨vah h.1,by simpa using h.2⟩)
 ·obtain ⟨k,s,h1,h2,h3⟩ := qhP h
  rw [vac] at h2
  exact .inr (.inr ⟨k,s,h1,h2,h3⟩)
theorem qhe {ds : List Nat} {nx0 i n : Nat} {ch : Objs} : ∀ {recs : List Rec} {j : Nat},clashOK ds nx0 i n j recs ch = true -> ∀ k s,recs[k]? = some s -> ∀ o,o ∈ keys ch -> o ∈ keys s.ch -> ¬ side ds i (j + k) = true /\ (nx0 <= o -> ∀ m,m < n -> dep ds m (j + k) = true -> ¬ side ds i m = true)
 | [],_,_,k,s,h,_,_,_ => by simp at h
 | r :: rs,j,h,k,s,hk,o,h1,h2 => by
  unfold clashOK at h
  simp only [vab] at h
  obtain ⟨⟨ha,hc⟩,hb⟩ := h
  cases k with
  | succ k =>
   have := qhe hb k s (by simpa using hk) o h1 h2
   rwa [show j + 1 + k = j + (k + 1) by omega] at this
  | zero =>
   have : r = s := by simpa using hk
   subst this
   rw [van]
   have hany : (ch.any fun c => r.ch.any fun d => vaj d.1 c.1) = true := by
    obtain ⟨c,hc,rfl⟩ := vaW.1 h1
    obtain ⟨d,hd,hdc⟩ := vaW.1 h2
    rw [vaT]
    refine ⟨c,hc,?_⟩
    rw [vaT]
    exact ⟨d,hd,by rw [hdc]; simp⟩
   rw [hany] at ha
   simp only [vaw] at ha
   refine ⟨by rw [ha]; exact vaq,fun hle m hm hd => ?_⟩
   have hany2 : (ch.any fun c => vaF nx0 c.1 && r.ch.any fun d => vaj d.1 c.1) = true := by
    obtain ⟨c,hc,rfl⟩ := vaW.1 h1
    obtain ⟨d,hd,hdc⟩ := vaW.1 h2
    rw [vaT]
    refine ⟨c,hc,?_⟩
    rw [vab,vaT]
    exact ⟨Nat.ble_eq_true_of_le hle,d,hd,by rw [hdc]; simp⟩
   rw [hany2] at hc
   simp only [vat,List.mem_range,vbz,vaw] at hc
   rcases hc m hm with h | h
   ·rw [hd] at h; cases h
   ·rw [h]; exact vaq
structure ChOK (ds : List Nat) (md : List Nat) (nx0 i n lo hi : Nat) (recs : List Rec) (v : V) (ch : Objs) : Prop where
 le : lo <= hi
 v : ∀ o ∈ V.ids v,Seen ds nx0 i lo hi recs o
 key : ∀ o,o ∈ keys ch -> Seen ds nx0 i lo hi recs o /\ (o < nx0 -> o ∈ md)
 obj : ∀ x ∈ ch,∀ o ∈ x.2.ids,Seen ds nx0 i lo hi recs o
 clash : ∀ k s,recs[k]? = some s -> ∀ o,o ∈ keys ch -> o ∈ keys s.ch -> ¬ side ds i k = true /\ (nx0 <= o -> ∀ m,m < n -> dep ds m k = true -> ¬ side ds i m = true)
theorem qoH {ds : List Nat} {md : List Nat} {nx0 i n lo hi : Nat} {recs : List Rec} {v : V} {ch : Objs} (h : chOK ds md nx0 i n lo hi recs v ch = true) : ChOK ds md nx0 i n lo hi recs v ch := by
 unfold chOK at h
 simp only [vab,vat] at h
 obtain ⟨⟨⟨h1,h2⟩,h3⟩,h4⟩ := h
 refine ⟨vah h1,fun o ho => qgB (h2 o ho),fun o ho => ?_,fun x hx o ho => qgB ((h3 x hx).1.2 o ho),fun k s hk o ho ho' => by have := qhe h4 k s hk o ho ho'; rwa [vac] at this⟩
 obtain ⟨c,hc,rfl⟩ := vaW.1 ho
 refine ⟨qgB (h3 c hc).1.1,fun hlt => ?_⟩
 have := (h3 c hc).2
 have hb : vaR c.1 nx0 = true := by simpa using hlt
 rw [hb] at this
 exact qa1.1 this
def Chain : Nat -> List Rec -> Nat -> Prop
 | nx,[],n => nx = n
 | nx,r :: rs,n => r.lo = nx /\ r.lo <= r.hi /\ Chain r.hi rs n
theorem Chain.le : ∀ {rs : List Rec} {nx n : Nat},Chain nx rs n -> nx <= n
 | [],_,_,h => Nat.le_of_eq h
 | r :: rs,nx,n,h => by have := Chain.le h.2.2; have := h.1; have := h.2.1; omega
theorem Chain.get : ∀ {rs : List Rec} {nx n : Nat},Chain nx rs n -> ∀ {i : Nat} {r : Rec},rs[i]? = some r -> nx <= r.lo /\ r.lo <= r.hi /\ r.hi <= n
 | [],_,_,_,i,r,h => by simp at h
 | s :: rs,nx,n,h,i,r,hr => by
  cases i with
  | zero =>
   have : s = r := by simpa using hr
   subst this
   exact ⟨Nat.le_of_eq h.1.symm,h.2.1,h.2.2.le⟩
  | succ i =>
   have := h.2.2.get (i := i) (r := r) (by simpa using hr)
   have h1 := h.1; have h2 := h.2.1
   exact ⟨by omega,this.2⟩
theorem Chain.apart : ∀ {rs : List Rec} {nx n : Nat},Chain nx rs n -> ∀ {i j : Nat} {r s : Rec},i < j -> rs[i]? = some r -> rs[j]? = some s -> r.hi <= s.lo
 | [],_,_,_,i,j,r,s,_,h,_ => by simp at h
 | x :: rs,nx,n,h,i,j,r,s,hij,hr,hs => by
  cases j with
  | zero => omega
  | succ j =>
   cases i with
   | zero =>
    have : x = r := by simpa using hr
    subst this
    exact (h.2.2.get (i := j) (r := s) (by simpa using hs)).1
   | succ i => exact h.2.2.apart (i := i) (j := j) (by omega) (by simpa using hr) (by simpa using hs)
theorem Chain.snoc : ∀ {rs : List Rec} {nx n : Nat},Chain nx rs n -> ∀ {r : Rec},r.lo = n -> r.lo <= r.hi -> Chain nx (rs ++ [r]) r.hi
 | [],_,_,h,r,h1,h2 => ⟨h1.trans h.symm,h2,rfl⟩
 | s :: rs,nx,n,h,r,h1,h2 => ⟨h.1,h.2.1,h.2.2.snoc h1 h2⟩
structure RecOK (tt : Tab) (Γ : FEnv) (ops : Array Oper) (σ : St) (ds : List Nat) (mds : List (List Nat)) (i : Nat) (r : Rec) (pre : List Rec) : Prop where
 ch : ChOK ds (nth [] mds i) σ.nx i i r.lo r.hi pre r.v r.ch
 run : ∃ o r0,ops[i]? = some o /\ r.dst = o.dst /\ evGuard tt Γ ops.toList (hideE ds i 0 ops.toList (envOn (dep ds i) 0 pre σ.env)) (hideO ds i 0 (pre.map fun r => r.ch.map (·.1)) (hideO ds i 0 mds (objsOn (dep ds i) 0 pre σ.objs))) r.lo (mdAt mds σ.nx i r.lo) o enc = some r0 /\
  ∀ v' ch' nx',enc v' ch' nx' = some r0 -> v' = r.v /\ ch' = r.ch /\ nx' = r.hi
theorem qis {ops : Array Oper} {σ : St} {ds : List Nat} {mds : List (List Nat)} {K : St -> Option R} {r : R} : ∀ (l : List Oper) (i nx : Nat) (recs : List Rec),ops.toList.drop i = l -> recs.length = i -> (∀ j s,recs[j]? = some s -> RecOK tt Γ ops σ ds mds j s (recs.take j)) -> Chain σ.nx recs nx ->
  evDraw tt Γ ops.toList ds mds σ l i nx recs K = some r -> ∃ recs' N,K ⟨envOn (fun _=>true) 0 recs' σ.env,objsOn (fun _=>true) 0 recs' σ.objs,N,σ.n⟩ = some r /\ recs'.length = ops.size /\ (∀ j s,recs'[j]? = some s -> RecOK tt Γ ops σ ds mds j s (recs'.take j)) /\ Chain σ.nx recs' N
 | [],i,nx,recs,hd,hl,hr,hc,h => by
  refine ⟨recs,nx,h,?_,hr,hc⟩
  have hle : ops.toList.length <= i := List.drop_eq_nil_iff.1 hd
  rw [va0] at hle
  refine Nat.le_antisymm (Classical.byContradiction fun hn => ?_) (by omega)
  obtain ⟨s,hs⟩ : ∃ s,recs[ops.size]? = some s := ⟨recs[ops.size],by simp [show ops.size < recs.length by omega]⟩
  obtain ⟨o,_,ho,_⟩ := (hr _ s hs).run
  simp at ho
 | o :: l,i,nx,recs,hd,hl,hr,hc,h => by
  unfold evDraw at h
  obtain ⟨r0,v,ch,nx',hx,hk,huniq⟩ := qoK h
  clear h
  split at hk
  rotate_left
  ·cases hk
  rename_i hch
  have hch := qoH hch
  have ho : ops[i]? = some o := by
   have := congrArg (·[0]?) hd
   simpa [vaz] using this
  have hd' : ops.toList.drop (i + 1) = l := by
   have := congrArg (vby 1) hd
   simpa [vaZ,vbk] using this
  refine qis l (i + 1) nx' (recs ++ [⟨o.dst,v,ch,nx,nx'⟩]) hd' (by simp [hl]) (fun j s hs => ?_) (hc.snoc rfl hch.le) hk
  rcases vaX j recs.length with hj | hj
  ·rw [vba hj] at hs
   rw [List.take_append_of_le_length (by omega)]
   exact hr j s hs
  ·have hj' : j = recs.length := by
    have := (vag.1 hs).1
    simp at this; omega
   subst hj'
   have : s = ⟨o.dst,v,ch,nx,nx'⟩ := by simpa using hs.symm
   subst this
   rw [List.take_left,hl]
   exact ⟨hch,o,r0,ho,rfl,hx,huniq⟩
end Go.Vm

namespace Go.Vm
open Go
variable {P : Program} {tt : Tab} {Γ : FEnv}
mutual
theorem qpK : ∀ v : V,V.ren id v = v
 | .undef => rfl
 | .i _ _ => rfl
 | .b _ => rfl
 | .s _ => rfl
 | .nilsl => rfl
 | .kon _ => rfl
 | .dat _ _ _ => rfl
 | .own _ => rfl
 | .sub _ _ _ _ => rfl
 | .ptr _ _ => rfl
 | .pel _ _ _ _ => rfl
 | .optp _ => rfl
 | .err _ => rfl
 | .nd _ _ _ => rfl
 | .tp cs => by show V.tp (V.renL id cs) = _; rw [qfJ cs]
 | .agg cs => by show V.agg (V.renL id cs) = _; rw [qfJ cs]
 | .tup cs => by show V.tup (V.renL id cs) = _; rw [qfJ cs]
 | .fn f cs => by show V.fn f (V.renL id cs) = _; rw [qfJ cs]
theorem qfJ : ∀ vs : List V,V.renL id vs = vs
 | [] => rfl
 | v :: r => by show V.ren id v :: V.renL id r = _; rw [qpK v,qfJ r]
end
theorem qm1 (x : AObj) : x.ren id = x := by
 cases x with
 | dead => rfl
 | row e xs fz => rfl
 | var vt cs => show AObj.var vt (V.renL id cs) = _; rw [qfJ]
 | hole e xs ix cs => show AObj.hole e xs ix (V.renL id cs) = _; rw [qfJ]
 | ext x => rfl
mutual
theorem Rel.lt {c : Ctx} : ∀ (v : V) (u : Value),Rel c v u -> ∀ o ∈ V.ids v,o < c.nx
 | .undef,_,_,o,h => by cases h
 | .i _ _,_,_,o,h => by cases h
 | .b _,_,_,o,h => by cases h
 | .s _,_,_,o,h => by cases h
 | .nilsl,_,_,o,h => by cases h
 | .kon _,_,_,o,h => by cases h
 | .dat _ _ _,_,_,o,h => by cases h
 | .own p,_,r,o,h => by
  have : o = p := by simpa [V.ids] using h
  rw [this]; exact r.1
 | .sub p _ _ _,_,r,o,h => by
  have : o = p := by simpa [V.ids] using h
  rw [this]; exact r.1
 | .ptr p _,_,r,o,h => by
  have : o = p := by simpa [V.ids] using h
  rw [this]; exact r.1
 | .pel p _ _ _,_,r,o,h => by
  have : o = p := by simpa [V.ids] using h
  rw [this]; exact r.1
 | .optp p,_,r,o,h => by
  have : o = p := by simpa [V.ids] using h
  rw [this]; exact r.1
 | .err _,_,_,o,h => by cases h
 | .nd _ _ _,_,_,o,h => by cases h
 | .tp cs,_,r,o,h => by obtain ⟨_,_,us,_,_,_,hl,_⟩ := r; exact RelL.lt cs us hl o h
 | .agg cs,_,r,o,h => by obtain ⟨us,_,hl⟩ := r; exact RelL.lt cs us hl o h
 | .tup cs,_,r,o,h => by obtain ⟨us,_,hl⟩ := r; exact RelL.lt cs us hl o h
 | .fn _ cs,_,r,o,h => by obtain ⟨us,_,hl⟩ := r; exact RelL.lt cs us hl o h
theorem RelL.lt {c : Ctx} : ∀ (vs : List V) (us : List Value),RelL c vs us -> ∀ o ∈ V.idsL vs,o < c.nx
 | [],_,_,o,h => by cases h
 | v :: vs,_,r,o,h => by
  obtain ⟨u,us',_,h1,h2⟩ := r
  rcases vau.1 h with h | h
  ·exact Rel.lt v u h1 o h
  ·exact RelL.lt vs us' h2 o h
end
theorem ObjOK.ids_lt {c : Ctx} {o : Nat} {x : AObj} (h : ObjOK c o x) : ∀ p ∈ x.ids,p < c.nx := by
 cases x with
 | dead => intro p hp; cases hp
 | row e xs fz => intro p hp; cases hp
 | ext x => intro p hp; cases hp
 | var vt cs =>
  obtain ⟨_,_,us,_,_,_,hr,_⟩ := h
  exact RelL.lt cs us hr
 | hole e xs ix cs =>
  obtain ⟨_,_,_,_,_,us,_,_,_,_,hr,_⟩ := h
  exact RelL.lt cs us hr
theorem Rel.idr {c c' : Ctx} {G : Nat -> Prop} (h : Ren id c c' G) {v : V} {u : Value} (hg : ∀ o ∈ V.ids v,G o) (hf : ∀ b,¬ c.SB b -> b < c.w.heap.size -> ¬ c'.SB b) (hr : Rel c v u) : Rel c' v u := by
 have := Rel.ren h v u hg (.inl hf) hr
 rwa [qpK] at this
theorem ObjOK.idr {c c' : Ctx} {G : Nat -> Prop} (h : Ren id c c' G) {objs : Objs} (hs : SOK c objs) {o : Nat} (ho : look .dead objs o ≠ .dead -> G o) (hg : ∀ p ∈ (look .dead objs o).ids,G p) (hf : ∀ b,¬ c.SB b -> b < c.w.heap.size -> ¬ c'.SB b) (hsb : ∀ b,c.SB b -> c'.SB b) : ObjOK c' o (look .dead objs o) := by
 by_cases hd : look .dead objs o = .dead
 ·rw [hd]; exact trivial
 ·have := ObjOK.ren h (ho hd) hg (.inl hf) (fun hm b hb => hsb b (hs.mutSB hm hb)) (fun hx b hb => hs.blt hx hb) (hs.obj o)
  rwa [qm1] at this
theorem qmh {x : AObj} (h : x.mut = true) : x ≠ .dead := fun e => by rw [e] at h; cases h
theorem SOK.congr {c : Ctx} {objs objs' : Objs} (h : ∀ o,look .dead objs' o = look .dead objs o) (hs : SOK c objs) : SOK c objs' :=
 ⟨hs.low,fun o => by rw [h]; exact hs.obj o,fun a b g h1 h2 => hs.inj a b g (by rwa [h] at h1) (by rwa [h] at h2),hs.sub,hs.bd,hs.one⟩
theorem FR.congr {c0 : Ctx} {objs0 : List AObj} {c : Ctx} {objs objs' : Objs} (h : ∀ o,look .dead objs' o = look .dead objs o) (hf : FR c0 objs0 c objs) : FR c0 objs0 c objs' :=
 ⟨hf.os,hf.tape,hf.output,hf.size,hf.nx,hf.hdr,hf.blk,hf.heap,hf.sb,hf.sa,fun o b hm hb => hf.fresh o b (by rwa [h] at hm) hb⟩
def cutCtx (c : Ctx) (n : Nat) : Ctx := { c with nx := n }
theorem qoG {c : Ctx} {n : Nat} : Ren id c (cutCtx c n) (· < n) := ⟨rfl,fun _ ho _ => ⟨ho,rfl,rfl⟩,fun _ hb _ => hb⟩
theorem qrw {c : Ctx} {objs sm : Objs} {n : Nat} (hs : SOK c objs) (hn : n <= c.nx) (hv : ∀ o,look .dead sm o = .dead \/ (look .dead sm o = look .dead objs o /\ o < n /\ ∀ p ∈ (look .dead objs o).ids,p < n)) : SOK (cutCtx c n) sm := by
 refine ⟨hs.low,fun o => ?_,fun a b g h1 h2 hb1 hb2 => ?_,hs.sub,hs.bd,fun o ho => hs.one o (vad ho hn)⟩
 ·rcases hv o with h | ⟨h,h1,h2⟩ <;> rw [h]
  ·exact trivial
  ·exact ObjOK.idr qoG hs (fun _=>h1) h2 (fun _ hb _ => hb) fun _ hb => hb
 ·rcases hv a with h | ⟨h,_⟩ <;> rw [h] at h1
  ·cases h1
  rcases hv b with h' | ⟨h',_⟩ <;> rw [h'] at h2
  ·cases h2
  exact hs.inj a b g h1 h2 hb1 hb2
structure Glued (c : Ctx) (objs : Objs) (c2 : Ctx) (v : V) (u : Value) (ch : Objs) (lo hi : Nat) : Prop where
 ok : SOK c2 (ch ++ objs)
 rel : Rel c2 v u
 nx : c2.nx = c.nx
 old : ∀ (v : V) (u : Value),(∀ o ∈ V.ids v,¬ (lo <= o /\ o < hi)) -> Rel c v u -> Rel c2 v u
 fr : ∀ (c0 : Ctx) (objs0 : List AObj),c0.nx <= lo -> FR c0 objs0 c objs -> FR c0 objs0 c2 (ch ++ objs)
theorem qhz : ∀ {ch : Objs} {o : Nat},o ∈ keys ch -> (o,look .dead ch o) ∈ ch
 | [],_,h => by cases h
 | (k,x) :: r,o,h => by
  rw [qaL]
  by_cases hk : k = o
  ·subst hk; simp
  ·rw [if_neg hk]
   rcases vap.1 h with h | h
   ·exact absurd h.symm hk
   ·exact vaG _ (qhz h)
theorem glue {c : Ctx} {objs sm : Objs} (hs : SOK c objs) {lo hi : Nat} (hle : lo <= hi) (hhi : hi <= c.nx) (hv : ∀ o,look .dead sm o = .dead \/ (look .dead sm o = look .dead objs o /\ o < lo /\ ∀ p ∈ (look .dead objs o).ids,p < lo))
  (hfree : ∀ o,look .dead objs o ≠ .dead -> ¬ (lo <= o /\ o < hi) /\ ∀ p ∈ (look .dead objs o).ids,¬ (lo <= p /\ p < hi)) {c' : Ctx} {v : V} {u : Value} {ch : Objs} (hd : Done (cutCtx c lo) sm c' v u ch hi) (hvi : ∀ o ∈ V.ids v,o < hi) (hci : ∀ x ∈ ch,∀ o ∈ x.2.ids,o < hi) :
  ∃ c2,c2.w = c'.w /\ Glued c objs c2 v u ch lo hi := by
 let rng : Nat -> Prop := fun o => lo <= o /\ o < hi
 have rd : ∀ o,Decidable (rng o) := fun o => inferInstanceAs (Decidable (lo <= o /\ o < hi))
 let hdr1 : Nat -> Value := fun o => if lo <= o /\ o < hi then c'.hdr o else c.hdr o
 let blk1 : Nat -> Option Nat := fun o => if lo <= o /\ o < hi then c'.blk o else c.blk o
 let c1 : Ctx := { c with hdr := hdr1,blk := blk1 }
 let c2 : Ctx := { w := c'.w,nx := c.nx,hdr := hdr1,blk := blk1,SB := c'.SB,SA := c'.SA }
 have hst := hd.step
 have hnx' := hd.nx
 have r1 : Ren id c c1 (fun o => ¬ (lo <= o /\ o < hi)) := ⟨rfl,fun o ho hlt => ⟨hlt,if_neg ho,if_neg ho⟩,fun b hb _ => hb⟩
 have hblk2 : ∀ o,o < hi -> c2.hdr o = c'.hdr o /\ c2.blk o = c'.blk o := fun o ho => by
  by_cases hl : lo <= o
  ·exact ⟨if_pos ⟨hl,ho⟩,if_pos ⟨hl,ho⟩⟩
  ·have hn : ¬ (lo <= o /\ o < hi) := fun h => hl h.1
   exact ⟨(if_neg hn).trans (hst.hdr o (by show o < lo; omega)).symm,(if_neg hn).trans (hst.blk o (by show o < lo; omega)).symm⟩
 have r2 : Ren id c' c2 (· < hi) := ⟨rfl,fun o ho _ => ⟨vad ho hhi,hblk2 o ho⟩,fun b hb _ => hb⟩
 have hone1 : ∀ o,o < c.nx -> (hdr1 o).oneCell' = true := fun o ho => by
  show (if lo <= o /\ o < hi then c'.hdr o else c.hdr o).oneCell' = true
  split
  ·rename_i h; exact hd.ok.one o (by rw [hnx']; exact h.2)
  ·exact hs.one o ho
 have hfreeI : ∀ o,∀ p ∈ (look .dead objs o).ids,¬ (lo <= p /\ p < hi) := fun o => by
  by_cases h : look .dead objs o = .dead
  ·rw [h]; intro p hp; cases hp
  ·exact (hfree o h).2
 have hs1 : SOK c1 objs := by
  refine ⟨hs.low,fun o => ObjOK.idr r1 hs (fun h => (hfree o h).1) (hfreeI o) (fun _ hb _ => hb) fun _ hb => hb,fun a b g h1 h2 hb1 hb2 => ?_,hs.sub,hs.bd,hone1⟩
  have e : ∀ o,look .dead objs o ≠ .dead -> c1.blk o = c.blk o := fun o h => if_neg (hfree o h).1
  exact hs.inj a b g h1 h2 (by rw [<- e a (qmh h1)]; exact hb1) (by rw [<- e b (qmh h2)]; exact hb2)
 have hDof : ∀ b,Dof (cutCtx c lo) sm ch b -> Dof c1 objs ch b := fun b ⟨o,ho,hm,hb⟩ => by
  rcases hv o with h | ⟨h,hlt,_⟩
  ·rw [h] at hm; cases hm
  ·rw [h] at hm
   exact ⟨o,ho,hm,(if_neg (hfree o (qmh hm)).1).trans hb⟩
 have hD' : ∀ b,¬ Dof c1 objs ch b -> ¬ Dof (cutCtx c lo) sm ch b := fun b hn h => hn (hDof b h)
 have hdsub : ∀ b,Dof c1 objs ch b -> c1.SB b := fun b h => by
  obtain ⟨_,_,hm,hb⟩ := h
  exact hs1.mutSB hm hb
 have hstep : Step c1 c2 (Dof c1 objs ch) := ⟨hst.os,hst.tape,hst.output,hst.size,vaf _,fun _ _ => rfl,fun _ _ => rfl,fun b hb hn => hst.heap b hb (hD' b hn),fun b hb hn => hst.sb b hb (hD' b hn),fun b hb hn => hst.sa b hb (hD' b hn),hdsub⟩
 have hlk : ∀ o,o ∈ keys ch -> look .dead (ch ++ sm) o = look .dead ch o := fun o ho => by rw [qdy,if_pos ho]
 have hki : ∀ o,o ∈ keys ch -> o < hi := fun o ho => hd.ids o ho
 have hfresh : ∀ o b,o ∈ keys ch -> (look .dead ch o).mut = true -> c2.blk o = some b -> c1.w.heap.size <= b \/ Dof c1 objs ch b := fun o b ho hm hb => by
  rw [(hblk2 o (hki o ho)).2] at hb
  exact (hd.fresh o b ho (by rw [hlk o ho]; exact hm) hb).imp id (hDof b)
 have hok2 : SOK c2 (ch ++ objs) := by
  refine hs1.step hstep (fun o ho => ?_) hfresh (fun a b g ha hb h1 h2 hb1 hb2 => ?_) hd.ok.sub hd.ok.bd hone1
  ·have hx := qhz ho
   have := ObjOK.idr r2 hd.ok (o := o) (fun _=>hki o ho) (by rw [hlk o ho]; exact hci _ hx) (fun _ hb _ => hb) (fun _ hb => hb)
   rwa [hlk o ho] at this
  ·refine hd.ok.inj a b g (by rw [hlk a ha]; exact h1) (by rw [hlk b hb]; exact h2) ?_ ?_
   ·rw [<- (hblk2 a (hki a ha)).2]; exact hb1
   ·rw [<- (hblk2 b (hki b hb)).2]; exact hb2
 refine ⟨c2,rfl,hok2,Rel.idr r2 hvi (fun _ hb _ => hb) hd.rel,rfl,fun v u hn hr => Rel.mono hstep hs1.sub _ _ (Rel.idr r1 hn (fun _ hb _ => hb) hr),fun c0 objs0 hc0 hf => ?_⟩
 have hf1 : FR c0 objs0 c1 objs := by
  refine ⟨hf.os,hf.tape,hf.output,hf.size,hf.nx,fun o ho => (if_neg (fun h => by have := h.1; omega)).trans (hf.hdr o ho),fun o ho => (if_neg (fun h => by have := h.1; omega)).trans (hf.blk o ho),hf.heap,hf.sb,hf.sa,fun o b hm hb => ?_⟩
  exact hf.fresh o b hm ((if_neg (hfree o (qmh hm)).1).symm.trans hb)
 exact hf1.step hs1 hstep fun o b ho hm hb => hfresh o b ho (by rw [qdy,if_pos (show o ∈ keys ch from ho)] at hm; exact hm) hb
end Go.Vm

namespace Go.Vm
open Go
variable {P : Program} {tt : Tab} {Γ : FEnv}
theorem qgS {p : Nat -> Bool} : ∀ (rs : List Rec) (j : Nat) (env : Env),(∀ k,k < rs.length -> p (j + k) = false) -> envOn p j rs env = env
 | [],_,_,_ => rfl
 | r :: rs,j,env,h => by
  have := h 0 (by simp)
  rw [van] at this
  show envOn p (j + 1) rs (match p j with | true => putE env r.dst r.v | false => env) = _
  rw [this]
  exact qgS rs (j + 1) env fun k hk => by rw [show j + 1 + k = j + (k + 1) by omega]; exact h (k + 1) (by simpa using hk)
theorem qfM {p : Nat -> Bool} : ∀ (rs : List Rec) (j : Nat) (env : Objs),(∀ k,k < rs.length -> p (j + k) = false) -> objsOn p j rs env = env
 | [],_,_,_ => rfl
 | r :: rs,j,env,h => by
  have := h 0 (by simp)
  rw [van] at this
  show objsOn p (j + 1) rs (match p j with | true => r.ch ++ env | false => env) = _
  rw [this]
  exact qfM rs (j + 1) env fun k hk => by rw [show j + 1 + k = j + (k + 1) by omega]; exact h (k + 1) (by simpa using hk)
structure Plan (P : Program) (tt : Tab) (Γ : FEnv) (ops : Array Oper) (σ : St) (ds : List Nat) (mds : List (List Nat)) (recs : List Rec) (N : Nat) : Prop where
 deps : Deps ops ds
 apart : apartOK ds ops.toList ops.toList.length ops.toList.length = true
 okd : ∀ (i : Nat) (o : Oper),ops[i]? = some o -> okDst σ.n o.dst = true
 mlen : mds.length = ops.size
 len : recs.length = ops.size
 rcd : ∀ (j : Nat) (s : Rec),recs[j]? = some s -> RecOK tt Γ ops σ ds mds j s (recs.take j)
 chain : Chain σ.nx recs N
 env : ∀ t,∀ o ∈ V.ids (look .undef σ.env t),o < σ.nx
 objs : ∀ o,look .dead σ.objs o ≠ .dead -> o < σ.nx /\ ∀ p ∈ (look .dead σ.objs o).ids,p < σ.nx
section
variable {ops : Array Oper} {σ : St} {ds : List Nat} {mds : List (List Nat)} {recs : List Rec} {N : Nat}
theorem Plan.size (pl : Plan P tt Γ ops σ ds mds recs N) {j : Nat} {s : Rec} (h : recs[j]? = some s) : j < ops.size := by
 rw [<- pl.len]; exact (vag.1 h).1
theorem Plan.get (pl : Plan P tt Γ ops σ ds mds recs N) {j : Nat} (h : j < ops.size) : ∃ s,recs[j]? = some s := ⟨recs[j]'(by rw [pl.len]; exact h),by simp [pl.len,h]⟩
theorem qhw {j k : Nat} {s : Rec} (h : recs[k]? = some s) (hk : k < j) : (recs.take j)[k]? = some s := by
 rw [List.getElem?_take_of_lt hk]; exact h
theorem qmw {j k : Nat} {s : Rec} (h : (recs.take j)[k]? = some s) : recs[k]? = some s /\ k < j := by
 rw [vbr] at h
 split at h
 ·rename_i hk; exact ⟨h,hk⟩
 ·cases h
theorem Plan.envTake (pl : Plan P tt Γ ops σ ds mds recs N) {i : Nat} (hi : i < ops.size) : envOn (dep ds i) 0 (recs.take i) σ.env = envOn (dep ds i) 0 recs σ.env := by
 have e : envOn (dep ds i) 0 (recs.take i ++ recs.drop i) σ.env = envOn (dep ds i) 0 (recs.take i) σ.env := by
  rw [qhd,qgS]
  intro k _
  cases hd : dep ds i (0 + (recs.take i).length + k) with
  | false => rfl
  | true =>
   have := pl.deps.below i _ hi hd
   rw [vaS,pl.len] at this
   omega
 rw [vaV] at e
 exact e.symm
theorem Plan.objsTake (pl : Plan P tt Γ ops σ ds mds recs N) {i : Nat} (hi : i < ops.size) : objsOn (dep ds i) 0 (recs.take i) σ.objs = objsOn (dep ds i) 0 recs σ.objs := by
 have e : objsOn (dep ds i) 0 (recs.take i ++ recs.drop i) σ.objs = objsOn (dep ds i) 0 (recs.take i) σ.objs := by
  rw [qge,qfM]
  intro k _
  cases hd : dep ds i (0 + (recs.take i).length + k) with
  | false => rfl
  | true =>
   have := pl.deps.below i _ hi hd
   rw [vaS,pl.len] at this
   omega
 rw [vaV] at e
 exact e.symm
theorem Plan.seen_lt (pl : Plan P tt Γ ops σ ds mds recs N) {i : Nat} {r : Rec} (hr : recs[i]? = some r) {o : Nat} (h : Seen ds σ.nx i r.lo r.hi (recs.take i) o) : o < r.hi := by
 have hg := pl.chain.get hr
 rcases h with h | h | ⟨j,s,hs,hd,h1,h2⟩
 ·omega
 ·exact h.2
 ·obtain ⟨hs,hj⟩ := qmw hs
  have := pl.chain.apart hj hs hr
  omega
theorem Plan.seen_free (pl : Plan P tt Γ ops σ ds mds recs N) {L : Nat -> Bool} (hsh : ∀ j k,L j = true -> dep ds j k = true -> L k = true) {i k : Nat} {r s : Rec} (hr : recs[i]? = some r) (hs : recs[k]? = some s) (hk : L k = true) (hi : ¬ L i = true) {o : Nat} (h : Seen ds σ.nx k s.lo s.hi (recs.take k) o) : ¬ (r.lo <= o /\ o < r.hi) := by
 have hg := pl.chain.get hr
 have key : ∀ (m : Nat) (x : Rec),recs[m]? = some x -> L m = true -> x.lo <= o -> o < x.hi -> ¬ (r.lo <= o /\ o < r.hi) := fun m x hx hm h1 h2 h3 => by
  rcases Nat.lt_trichotomy m i with h | h | h
  ·have := pl.chain.apart h hx hr; omega
  ·subst h; exact hi hm
  ·have := pl.chain.apart h hr hx; omega
 rcases h with h | h | ⟨j,x,hx,hd,h1,h2⟩
 ·omega
 ·exact key k s hs hk h.1 h.2
 ·obtain ⟨hx,_⟩ := qmw hx
  exact key j x hx (hsh k j hk hd) h1 h2
theorem Plan.clash (pl : Plan P tt Γ ops σ ds mds recs N) {j k : Nat} {s x : Rec} (hs : recs[j]? = some s) (hx : recs[k]? = some x) {o : Nat} (h1 : o ∈ keys s.ch) (h2 : o ∈ keys x.ch) : ¬ side ds j k = true := fun hsd => by
 have hne := (qfY.1 hsd).1
 rcases vaX j k with h | h
 ·exact ((pl.rcd k x hx).ch.clash j s (qhw hs h) o h2 h1).1 (qkk hsd)
 ·exact ((pl.rcd j s hs).ch.clash k x (qhw hx (by omega)) o h1 h2).1 hsd
def J (P : Program) (σ : St) (recs : List Rec) (N : Nat) (c0 : Ctx) (objs0 : List AObj) (L : Nat -> Bool) (a : Act) (w : World) : Prop :=
 ∃ c,c.w = w /\ c.nx = N /\ SOK c (objsOn L 0 recs σ.objs) /\ EnvRel c (envOn L 0 recs σ.env) a /\ a.tmps.size = σ.n /\ a.defers = [] /\ FR c0 objs0 c (objsOn L 0 recs σ.objs)
theorem qoB (hT : TabOK P tt) (hΓ : EnvOK P Γ) (pl : Plan P tt Γ ops σ ds mds recs N) {c0 : Ctx} {objs0 : List AObj} (hc0 : c0.nx <= σ.nx) (hsl : SlotsIn ops σ.n) {Q : Exit -> Act -> World -> Prop} {L : Nat -> Bool} (hsh : ∀ j k,L j = true -> dep ds j k = true -> L k = true) {i : Nat} (hi : i < ops.size) (hLi : ¬ L i = true)
  (hready : ∀ k,dep ds i k = true -> L k = true) {a : Act} {w : World} (hj : J P σ recs N c0 objs0 L a w) {L' : Nat -> Bool} (hL' : ∀ k,L' k = true ↔ k = i \/ L k = true) : wpOp P ops Q i (J P σ recs N c0 objs0 L') a w := by
 obtain ⟨c,rfl,hnx,hok,henv,hsz,hdf,hfr⟩ := hj
 obtain ⟨r,hr⟩ := pl.get hi
 obtain ⟨hch,o,r0,ho,hdst,hrun,huniq⟩ := pl.rcd i r hr
 rw [pl.envTake hi,pl.objsTake hi] at hrun
 have hg := pl.chain.get hr
 -- at its side
 have hside : ∀ k,L k = true -> ¬ dep ds i k = true -> side ds i k = true := fun k hk hd => qfY.2 ⟨fun e => hLi (e ▸ hk),hd,fun h => hLi (hsh k i hk h)⟩
 have hneL : ∀ k,k ≠ i -> L' k = L k := fun k hk => by
  cases h : L k with
  | true => exact (hL' k).2 (.inr h)
  | false =>
   cases h' : L' k with
   | false => rfl
   | true =>
    rcases (hL' k).1 h' with e | e
    ·exact absurd e hk
    ·rw [h] at e; cases e
 -- what it sees of objects
 have hvis : ∀ p,look .dead (hideO ds i 0 ((recs.take i).map fun r => r.ch.map (·.1)) (hideO ds i 0 mds (objsOn (dep ds i) 0 recs σ.objs))) p = .dead \/ (look .dead (hideO ds i 0 ((recs.take i).map fun r => r.ch.map (·.1)) (hideO ds i 0 mds (objsOn (dep ds i) 0 recs σ.objs))) p = look .dead (objsOn L 0 recs σ.objs) p /\ p < r.lo /\ ∀ q ∈ (look .dead (objsOn L 0 recs σ.objs) p).ids,q < r.lo) := fun p => by
  rcases qgL (ds := ds) (i := i) (t := p) ((recs.take i).map fun r => r.ch.map (·.1)) 0 (hideO ds i 0 mds (objsOn (dep ds i) 0 recs σ.objs)) with h | ⟨h0,hmr⟩
  ·exact .inl h
  rcases qgL (ds := ds) (i := i) (t := p) mds 0 (objsOn (dep ds i) 0 recs σ.objs) with h | ⟨h,hmd⟩
  ·exact .inl (h0.trans h)
  replace h := h0.trans h
  by_cases hdead : look .dead (objsOn (dep ds i) 0 recs σ.objs) p = .dead
  ·exact .inl (h.trans hdead)
  have hcs := qeU (t := p) (p := dep ds i) recs 0 σ.objs
  have hcong : look .dead (objsOn (dep ds i) 0 recs σ.objs) p = look .dead (objsOn L 0 recs σ.objs) p := by
   refine qd4 recs 0 _ _ (fun k s hs hp => ?_) rfl
   rw [vac]
   cases hd : dep ds i k with
   | true => exact (hready k hd).symm
   | false =>
    cases hk : L k with
    | false => rfl
    | true =>
     exfalso
     have hsd := hside k hk (by rw [hd]; exact vaq)
     have hkn := pl.size hs
     have hkey := (pl.rcd k s hs).ch.key p hp
     have hki : i < k := Classical.byContradiction fun hn => by
      have hkl : k < i := by have := (qfY.1 hsd).1; omega
      exact hmr k (keys s.ch) (by rw [vak,qhw hs hkl]; rfl) (by rw [vac]; exact hsd) hp
     by_cases hb : p < σ.nx
     ·have hkm : k < mds.length := by rw [pl.mlen]; exact hkn
      exact hmd k (nth [] mds k) (qez [] mds k hkm) (by rw [vac]; exact hsd) (hkey.2 hb)
     ·rcases hcs with e | ⟨j,s',hs',hdj,hp',_⟩
      ·rw [e] at hdead
       exact hb (pl.objs p hdead).1
      ·rw [vac] at hdj
       have hne : j ≠ k := fun e => by subst e; rw [hd] at hdj; cases hdj
       rcases vaX j k with hjk | hjk
       ·exact ((pl.rcd k s hs).ch.clash j s' (qhw hs' hjk) p hp hp').2 (by omega) i hki hdj (qkk hsd)
       ·have hns := pl.clash hs' hs hp' hp
        have hjn := pl.size hs'
        have : dep ds j k = true := Classical.byContradiction fun hh => hns (qfY.2 ⟨hne,hh,fun h2 => by have := pl.deps.below k j hkn h2; omega⟩)
        have := pl.deps.trans hi hdj this
        rw [hd] at this; cases this
  refine .inr ⟨h.trans hcong,?_⟩
  rw [<- hcong]
  rcases hcs with e | ⟨j,s',hs',hdj,hp',e⟩
  ·rw [e] at hdead ⊢
   have := pl.objs p hdead
   exact ⟨by omega,fun q hq => by have := this.2 q hq; omega⟩
  ·rw [vac] at hdj
   have hji := pl.deps.below i j hi hdj
   have hap := pl.chain.apart hji hs' hr
   rw [e]
   refine ⟨?_,fun q hq => ?_⟩
   ·have := pl.seen_lt hs' ((pl.rcd j s' hs').ch.key p hp').1; omega
   ·have := pl.seen_lt hs' ((pl.rcd j s' hs').ch.obj _ (qhz hp') q hq); omega
 -- what it sees of slots
 have hev : EnvRel (cutCtx c r.lo) (hideE ds i 0 ops.toList (envOn (dep ds i) 0 recs σ.env)) a := fun t => by
  rcases qi1 (ds := ds) (i := i) (t := t) ops.toList 0 (envOn (dep ds i) 0 recs σ.env) with h | ⟨h,hmd⟩
  ·rw [h]; exact trivial
  rw [h]
  have hcong : look .undef (envOn (dep ds i) 0 recs σ.env) t = look .undef (envOn L 0 recs σ.env) t := by
   refine qeF recs 0 _ _ (fun k s hs hp => ?_) rfl
   rw [vac]
   cases hd : dep ds i k with
   | true => exact (hready k hd).symm
   | false =>
    cases hk : L k with
    | false => rfl
    | true =>
     exfalso
     have hsd := hside k hk (by rw [hd]; exact vaq)
     obtain ⟨o',_,ho',hdst',_⟩ := (pl.rcd k s hs).run
     exact hmd k o' (by simpa using ho') (by rw [vac]; exact hsd) (by rw [<- hdst']; exact hp)
  have hlt : ∀ p ∈ V.ids (look .undef (envOn (dep ds i) 0 recs σ.env) t),p < r.lo := fun p hp => by
   rcases qfO (t := t) (p := dep ds i) recs 0 σ.env with e | ⟨j,s',hs',hdj,e⟩
   ·rw [e] at hp
    have := pl.env t p hp; omega
   ·rw [vac] at hdj
    have hji := pl.deps.below i j hi hdj
    have hap := pl.chain.apart hji hs' hr
    rw [e] at hp
    have := pl.seen_lt hs' ((pl.rcd j s' hs').ch.v p hp); omega
  have hrel := henv t
  rw [<- hcong] at hrel
  exact Rel.idr qoG hlt (fun _ hb _ => hb) hrel
 have hcut := qrw hok (by rw [hnx]; omega) hvis
 have hsl' : SlotsIn ops a.tmps.size := by rw [hsz]; exact hsl
 -- none that has been run is known by the names that it gives
 have hfree : ∀ p,look .dead (objsOn L 0 recs σ.objs) p ≠ .dead -> ¬ (r.lo <= p /\ p < r.hi) /\ ∀ q ∈ (look .dead (objsOn L 0 recs σ.objs) p).ids,¬ (r.lo <= q /\ q < r.hi) := fun p hp => by
  rcases qeU (t := p) (p := L) recs 0 σ.objs with e | ⟨j,s',hs',hdj,hp',e⟩
  ·rw [e] at hp ⊢
   have := pl.objs p hp
   exact ⟨by omega,fun q hq => by have := this.2 q hq; omega⟩
  ·rw [vac] at hdj
   rw [e]
   exact ⟨pl.seen_free hsh hr hs' hdj hLi ((pl.rcd j s' hs').ch.key p hp').1,fun q hq => pl.seen_free hsh hr hs' hdj hLi ((pl.rcd j s' hs').ch.obj _ (qhz hp') q hq)⟩
 have hfreeE : ∀ t,∀ q ∈ V.ids (look .undef (envOn L 0 recs σ.env) t),¬ (r.lo <= q /\ q < r.hi) := fun t q hq => by
  rcases qfO (t := t) (p := L) recs 0 σ.env with e | ⟨j,s',hs',hdj,e⟩
  ·rw [e] at hq
   have := pl.env t q hq; omega
  ·rw [vac] at hdj
   rw [e] at hq
   exact pl.seen_free hsh hr hs' hdj hLi ((pl.rcd j s' hs').ch.v q hq)
 -- the state behind it
 have hafter : ∀ (u : Value) (c' : Ctx),Done (cutCtx c r.lo) (hideO ds i 0 ((recs.take i).map fun r => r.ch.map (·.1)) (hideO ds i 0 mds (objsOn (dep ds i) 0 recs σ.objs))) c' r.v u r.ch r.hi -> J P σ recs N c0 objs0 L' (a.put o.dst u) c'.w := fun u c' hdn => by
  obtain ⟨c2,hw,hgl⟩ := glue hok hg.2.1 (by rw [hnx]; exact hg.2.2) hvis hfree hdn (fun p hp => pl.seen_lt hr (hch.v p hp)) (fun x hx p hp => pl.seen_lt hr (hch.obj x hx p hp))
  have hlo : ∀ p,look .dead (objsOn L' 0 recs σ.objs) p = look .dead (r.ch ++ objsOn L 0 recs σ.objs) p := fun p => by
   rw [qdy]
   by_cases hp : p ∈ keys r.ch
   ·rw [if_pos hp]
    refine qic recs 0 _ i r hr hp (by rw [vac]; exact (hL' i).2 (.inl rfl)) fun k s hs hik hk hps => ?_
    rw [vac] at hk
    have hk : L k = true := by rw [hneL k (by omega)] at hk; exact hk
    exact pl.clash hr hs hp hps (hside k hk fun hd => by have := pl.deps.below i k hi hd; omega)
   ·rw [if_neg hp]
    refine qd4 recs 0 _ _ (fun k s hs hps => ?_) rfl
    rw [vac]
    refine hneL k fun e => ?_
    subst e
    rw [hr] at hs; cases hs
    exact hp hps
  refine ⟨c2,hw,hgl.nx.trans hnx,hgl.ok.congr hlo,fun t => ?_,by rw [qjE]; exact hsz,by rw [qlo]; exact hdf,(hgl.fr c0 objs0 (by omega) hfr).congr hlo⟩
  have hold : EnvRel c2 (envOn L 0 recs σ.env) a := fun t => hgl.old _ _ (hfreeE t) (henv t)
  have hput := qlH hold (dst := r.dst) (by rw [hsz,hdst]; exact pl.okd i o ho) hgl.rel t
  rw [hdst] at hput
  have he : look .undef (envOn L' 0 recs σ.env) t = look .undef (putE (envOn L 0 recs σ.env) o.dst r.v) t := by
   rw [qdS]
   by_cases hd : o.dst = some t
   ·rw [if_pos hd]
    refine qja recs 0 _ i r hr (hdst.trans hd) (by rw [vac]; exact (hL' i).2 (.inl rfl)) fun k s hs hik hk hds => ?_
    rw [vac] at hk
    have hk : L k = true := by rw [hneL k (by omega)] at hk; exact hk
    obtain ⟨o',_,ho',hdst',_⟩ := (pl.rcd k s hs).run
    exact qoA pl.apart ho ho' (hside k hk fun hd => by have := pl.deps.below i k hi hd; omega) hd (hdst'.symm.trans hds)
   ·rw [if_neg hd]
    refine qeF recs 0 _ _ (fun k s hs hps => ?_) rfl
    rw [vac]
    refine hneL k fun e => ?_
    subst e
    rw [hr] at hs; cases hs
    exact hd (hdst.symm.trans hps)
  rw [he]
  exact hput
 unfold wpOp
 rw [ho]
 dsimp only
 rcases qgs hT hΓ hrun hcut rfl hev hsl' with ⟨hw,v,ch,nx',h,_,hop⟩ | ⟨hw,h⟩
 ·rw [if_pos hw]
  obtain ⟨rfl,rfl,rfl⟩ := huniq v ch nx' h
  exact .inl (hop _ _ fun u c' hdn => hafter u c' hdn)
 ·rw [if_neg (by rw [hw]; exact vaq)]
  obtain ⟨e1,e2,e3⟩ := huniq _ _ _ h
  refine hafter Go.undef (cutCtx c r.lo) ?_
  rw [<- e1,<- e2,<- e3]
  exact Done.pure hcut ⟨[],rfl,rfl⟩
end
end Go.Vm

namespace Go.Vm
open Go
variable {P : Program} {tt : Tab} {Γ : FEnv}
theorem qkZ {p q : Nat -> Bool} : ∀ {l : List Nat},(∀ x ∈ l,q x = true -> p x = true) -> ∀ {i : Nat},i ∈ l -> p i = true -> ¬ q i = true -> l.countP q < l.countP p
 | [],_,i,hi,_,_ => by cases hi
 | x :: r,h,i,hi,hp,hq => by
  have hr : ∀ y ∈ r,q y = true -> p y = true := fun y hy => h y (vaG _ hy)
  have hle : r.countP q <= r.countP p := List.countP_mono_left hr
  rw [vbu,vbu]
  rcases vap.1 hi with rfl | hi
  ·rw [if_pos hp,if_neg hq]; omega
  ·have := qkZ hr hi hp hq
   have hx := h x (vbq ..)
   by_cases h1 : q x = true
   ·rw [if_pos h1,if_pos (hx h1)]; omega
   ·rw [if_neg h1]; omega
section
variable {ops : Array Oper} {σ : St} {ds : List Nat} {mds : List (List Nat)} {recs : List Rec} {N : Nat}
def lst (listed : Array Bool) (j : Nat) : Bool := listed.getD j false
theorem qjG {listed : Array Bool} {j : Nat} (hj : j < listed.size) : listed.getD j true = lst listed j := by simp [lst,hj]
theorem qqB {listed : Array Bool} {i : Nat} (hi : i < listed.size) (k : Nat) : lst (listed.setIfInBounds i true) k = true ↔ k = i \/ lst listed k = true := by
 unfold lst
 rw [vae,Array.getElem?_setIfInBounds]
 by_cases h : i = k
 ·subst h; simp [hi]
 ·rw [if_neg h]; simp [vae,Ne.symm h]
theorem qn2 (pl : Plan P tt Γ ops σ ds mds recs N) {listed : Array Bool} (hs : listed.size = ops.size) (h : Region.ready .any ops listed = []) : ∀ i,i < ops.size -> lst listed i = true := by
 intro i
 induction i using Nat.strongRecOn with
 | _ i ih =>
  intro hi
  refine Classical.byContradiction fun hn => ?_
  have hm : i ∈ Region.ready .any ops listed := by
   refine mem_ready.2 ⟨?_,ops[i],by simp [hi],fun e he hb => ?_⟩
   ·rw [qjG (by omega)]; simpa using hn
   ·have hd : dep ds i e.on = true := (pl.deps.spec i ops[i] (by simp [hi]) e.on).2 ⟨e,by simpa using he,hb,.inl rfl⟩
    have hlt := pl.deps.below i e.on hi hd
    exact ih e.on hlt (by omega)
  rw [h] at hm; cases hm
theorem qpr (hT : TabOK P tt) (hΓ : EnvOK P Γ) (pl : Plan P tt Γ ops σ ds mds recs N) {c0 : Ctx} {objs0 : List AObj} (hc0 : c0.nx <= σ.nx) (hsl : SlotsIn ops σ.n) {Q : Exit -> Act -> World -> Prop}
  (hQ : ∀ a w,J P σ recs N c0 objs0 (fun _=>true) a w -> Q .normal a w) : ∀ (fuel : Nat) (listed : Array Bool) (a : Act) (w : World),listed.size = ops.size -> (∀ j k,lst listed j = true -> dep ds j k = true -> lst listed k = true) -> J P σ recs N c0 objs0 (lst listed) a w ->
  (vaA ops.size).countP (fun i => !lst listed i) <= fuel -> wpAny P .any ops Q fuel listed a w := by
 have hend : ∀ (listed : Array Bool) a w,listed.size = ops.size -> Region.ready .any ops listed = [] -> J P σ recs N c0 objs0 (lst listed) a w -> Q .normal a w := fun listed a w hs hr hj => by
  have hall := qn2 pl hs hr
  refine hQ a w ?_
  have hc : ∀ k,k < recs.length -> lst listed (0 + k) = true := fun k hk => by rw [vac]; exact hall k (by rw [<- pl.len]; exact hk)
  have e1 : ∀ p,look .dead (objsOn (fun _=>true) 0 recs σ.objs) p = look .dead (objsOn (lst listed) 0 recs σ.objs) p := fun p => qd4 recs 0 _ _ (fun k s hs _ => (hc k (vag.1 hs).1).symm) rfl
  have e2 : ∀ t,look .undef (envOn (fun _=>true) 0 recs σ.env) t = look .undef (envOn (lst listed) 0 recs σ.env) t := fun t => qeF recs 0 _ _ (fun k s hs _ => (hc k (vag.1 hs).1).symm) rfl
  obtain ⟨c,hw,hnx,hok,henv,hsz,hdf,hfr⟩ := hj
  exact ⟨c,hw,hnx,hok.congr e1,fun t => by rw [e2]; exact henv t,hsz,hdf,hfr.congr e1⟩
 intro fuel
 induction fuel with
 | zero =>
  intro listed a w hs hsh hj hcnt
  have hall : ∀ i,i < ops.size -> lst listed i = true := fun i hi => by
   refine Classical.byContradiction fun hn => ?_
   have : 0 < (vaA ops.size).countP (fun i => !lst listed i) := List.countP_pos_iff.2 ⟨i,by simpa using hi,by simpa using hn⟩
   omega
  have hr : Region.ready .any ops listed = [] := by
   cases h : Region.ready .any ops listed with
   | nil => rfl
   | cons x xs =>
    have hm : x ∈ Region.ready .any ops listed := by rw [h]; exact vbq ..
    obtain ⟨h1,o,ho,_⟩ := mem_ready.1 hm
    have hx := (vai.1 ho).1
    rw [qjG (by omega),hall x hx] at h1
    cases h1
  exact ⟨hr,hend listed a w hs hr hj⟩
 | succ fuel ih =>
  intro listed a w hs hsh hj hcnt
  refine ⟨fun hr => hend listed a w hs hr hj,fun i hi => ?_⟩
  obtain ⟨h1,o,ho,hafter⟩ := mem_ready.1 hi
  have hin := (vai.1 ho).1
  rw [qjG (by omega)] at h1
  have hnl : ¬ lst listed i = true := by rw [h1]; exact vaq
  have hready : ∀ k,dep ds i k = true -> lst listed k = true := fun k hd => by
   obtain ⟨e,he,hb,h2⟩ := (pl.deps.spec i o ho k).1 hd
   have hl : lst listed e.on = true := hafter e (by simpa using he) hb
   rcases h2 with h2 | h2
   ·rw [<- h2]; exact hl
   ·exact hsh e.on k hl h2
  have hset := qqB (listed := listed) (i := i) (by omega)
  refine wpOp_mono (fun a' w' hj' => ih _ a' w' (by simpa using hs) (fun j k hjl hd => ?_) hj' ?_) (qoB hT hΓ pl hc0 hsl hsh hin hnl hready hj hset)
  ·rcases (hset j).1 hjl with rfl | hjl
   ·exact (hset k).2 (.inr (hready k hd))
   ·exact (hset k).2 (.inr (hsh j k hjl hd))
  ·have := qkZ (l := vaA ops.size) (p := fun x => !lst listed x) (q := fun x => !lst (listed.setIfInBounds i true) x) (fun x _ hx => by
    have hx' : ¬ lst (listed.setIfInBounds i true) x = true := by simpa using hx
    have : ¬ lst listed x = true := fun h => hx' ((hset x).2 (.inr h))
    simpa using this) (i := i) (by simpa using hin) (by simpa using hnl) (by
    have := (hset i).2 (.inl rfl)
    simp [this])
   omega
end
theorem qo1 {ops : Array Oper} {n : Nat} (h : ops.toList.all (fun o => okDst n o.dst) = true) : (∀ (i : Nat) (o : Oper),ops[i]? = some o -> okDst n o.dst = true) /\ SlotsIn ops n := by
 have h1 : ∀ (i : Nat) (o : Oper),ops[i]? = some o -> okDst n o.dst = true := fun i o ho => by
  rw [vat] at h
  exact h o (vbm (i := i) (by simpa using ho))
 refine ⟨h1,fun j t ht => ?_⟩
 unfold dstOf at ht
 cases ho : ops[j]? with
 | none => rw [ho] at ht; cases ht
 | some o =>
  rw [ho] at ht
  have := h1 j o ho
  have ht : o.dst = some t := ht
  rw [ht] at this
  simpa [okDst] using this
theorem regionOK (hT : TabOK P tt) (hΓ : EnvOK P Γ) (hm : P.follows .mixedOrders = true) : RegionOK P tt Γ := by
 intro c0 objs0 id ops draw σ K r Q a w h hi hK
 unfold evRegion at h
 split at h
 ·cases h
 rename_i hok
 obtain ⟨hokd,hsl⟩ := qo1 hok
 split at h
 ·have := qfN (Q := Q) hT hΓ hsl (fun σ' a' w' h' hn' hi' => hK σ' a' w' h' hn' hi') ops.toList 0 σ a w rfl rfl hi h
  refine wp_region ?_
  rw [vbl,<- va0]
  exact this
 ·dsimp only at h
  split at h
  rotate_left
  ·cases h
  rename_i hc
  simp only [vab] at hc
  obtain ⟨recs,N,hk,hlen,hrec,hch⟩ := qis ops.toList 0 σ.nx [] rfl rfl (fun j s h => by simp at h) rfl h
  obtain ⟨c,rfl,hrel,hfr⟩ := hi
  have hnx := hrel.nx
  have pl : Plan P tt Γ ops σ (depsOf ops.toList []) (ops.toList.map (mdOf σ.objs (peekE tt σ.objs ops.toList σ.env))) recs N :=
   ⟨qqK hc.2,hc.1,hokd,by simp,hlen,hrec,hch,fun t o ho => by rw [<- hnx]; exact Rel.lt _ _ (hrel.env t) o ho,fun o ho => ⟨by rw [<- hnx]; exact (hrel.ok.obj o).lt ho,by rw [<- hnx]; exact (hrel.ok.obj o).ids_lt⟩⟩
  refine wp_region_any hm ?_
  refine qpr hT hΓ pl (c0 := c0) (objs0 := objs0) (by rw [<- hnx]; exact hfr.nx) hsl (fun a' w' hj => ?_) ops.size _ a _ (by simp) (fun j k h => ?_) ?_ (by exact vaB (List.countP_le_length) (by simp))
  ·obtain ⟨c',hw,hnx',hok',henv',hsz',hdf',hfr'⟩ := hj
   exact hK _ a' w' hk rfl ⟨c',hw,⟨hok',hnx',henv',hsz',hdf'⟩,hfr'⟩
  ·exfalso
   simp only [lst,vae,vbc] at h
   split at h <;> cases h
  ·have hle := hch.le
   let c2 : Ctx := { w := { c.w with drawn := c.w.drawn + 1 },nx := N,hdr := fun o => if o < c.nx then c.hdr o else .bool true,blk := c.blk,SB := c.SB,SA := c.SA }
   have hst : Step c c2 (Dof c σ.objs []) := ⟨rfl,rfl,rfl,vaf _,by rw [hnx]; exact hle,fun o ho => if_pos ho,fun _ _ => rfl,fun _ _ _ => rfl,fun _ _ _ => Iff.rfl,fun _ _ _ => Iff.rfl,fun b ⟨_,h,_⟩ => by cases h⟩
   have hok2 : SOK c2 σ.objs := by
    have := hrel.ok.step (ch := []) hst (fun o h => by cases h) (fun o b h => by cases h) (fun o _ b h => by cases h) hrel.ok.sub hrel.ok.bd (fun o ho => by
     show (if o < c.nx then c.hdr o else .bool true).oneCell' = true
     split
     ·rename_i h; exact hrel.ok.one o h
     ·rfl)
    exact this
   have hz : ∀ k,lst (vaI ops.size false) k = false := fun k => by
    simp only [lst,vae,vbc]
    split <;> rfl
   have e1 : objsOn (lst (vaI ops.size false)) 0 recs σ.objs = σ.objs := qfM recs 0 _ fun k _ => hz _
   have e2 : envOn (lst (vaI ops.size false)) 0 recs σ.env = σ.env := qgS recs 0 _ fun k _ => hz _
   refine ⟨c2,rfl,rfl,by rw [e1]; exact hok2,by rw [e2]; exact fun t => Rel.mono hst hrel.ok.sub _ _ (hrel.env t),hrel.size,hrel.defers,?_⟩
   rw [e1]
   have := hfr.step (ch := []) hrel.ok hst (fun o b h => by cases h)
   exact this
theorem fn_ok (hT : TabOK P tt) (hΓ : EnvOK P Γ) (hm : P.follows .mixedOrders = true) {live : Live} {f : FuncId} {fn : Func} (hf : P.funcs[f]? = some fn) {m : Nat} {args : List V} {objs : List AObj} {res : V} {objs' : List AObj} (h : evF tt Γ live fn m args objs = some (res,objs')) : FnOK P f args objs res objs' :=
 qpk hT (regionOK hT hΓ hm) hf h
end Go.Vm

namespace Go.Vm
open Go
noncomputable section
variable {α : Type}
def putK (env : Env) (dst : Option Tmp) (v : V) (K : Env -> α) : α := match dst with | some t => forceV v fun v => K ((t,v) :: env) | none => K env
theorem qn6 (env : Env) (dst : Option Tmp) (v : V) (K : Env -> α) : putK env dst v K = K (putE env dst v) := by
 cases dst with
 | none => rfl
 | some t => rw [putK]; exact qdp v _
def forceK (K : V -> Objs -> Nat -> Option R) : V -> Objs -> Nat -> Option R := fun v ch nx => forceV v fun v => forceC ch fun ch => litK nx fun nx => K v ch nx
theorem qe0 (K : V -> Objs -> Nat -> Option R) : forceK K = K := by
 funext v ch nx
 rw [forceK,qdp,qcu,qdb]
def seqF (tt : Tab) (Γ : FEnv) (ops : List Oper) (n : Nat) : List Oper -> Env -> Objs -> Nat -> (Env -> Objs -> Nat -> Option R) -> Option R
 | [],env,objs,nx,K => K env objs nx
 | o :: r,env,objs,nx,K => match okDst n o.dst with
  | true => evGuard tt Γ ops env objs nx (vaA nx) o (forceK fun v ch nx => putK env o.dst v fun env => appF ch objs fun objs => seqF tt Γ ops n r env objs nx K)
  | false => none
theorem qnT (tt : Tab) (Γ : FEnv) (ops : List Oper) (n : Nat) : ∀ (l : List Oper) (env : Env) (objs : Objs) (nx : Nat) (K : St -> Option R),seqF tt Γ ops n l env objs nx (fun env objs nx => K ⟨env,objs,nx,n⟩) = evSeq tt Γ ops l ⟨env,objs,nx,n⟩ K
 | [],_,_,_,_ => rfl
 | o :: r,env,objs,nx,K => by
  unfold seqF evSeq
  cases okDst n o.dst with
  | false => rfl
  | true =>
   dsimp only
   rw [qe0]
   congr 1
   funext v ch nx'
   rw [qn6,qfS]
   exact qnT tt Γ ops n r _ _ _ K
def drawF (tt : Tab) (Γ : FEnv) (ops : List Oper) (ds : List Nat) (mds : List (List Nat)) (env0 : Env) (objs0 : Objs) (nx0 n : Nat) : List Oper -> Nat -> Nat -> List Rec -> (Env -> Objs -> Nat -> Option R) -> Option R
 | [],_,nx,recs,K => forceE (envOn (fun _=>true) 0 recs env0) fun env => forceC (objsOn (fun _=>true) 0 recs objs0) fun objs => K env objs nx
 | o :: r,i,nx,recs,K =>
  forceE (hideE ds i 0 ops (envOn (dep ds i) 0 recs env0)) fun e => forceC (hideO ds i 0 (recs.map fun r => r.ch.map (·.1)) (hideO ds i 0 mds (objsOn (dep ds i) 0 recs objs0))) fun os =>
  andK (evGuard tt Γ ops e os nx (mdAt mds nx0 i nx) o (forceK enc)) (forceK fun v ch nx' =>
   match chOK ds (nth [] mds i) nx0 i i nx nx' recs v ch with
   | true => litK (i + 1) fun i => drawF tt Γ ops ds mds env0 objs0 nx0 n r i nx' (recs ++ [⟨o.dst,v,ch,nx,nx'⟩]) K
   | false => none)
theorem qmE (tt : Tab) (Γ : FEnv) (ops : List Oper) (ds : List Nat) (mds : List (List Nat)) (env0 : Env) (objs0 : Objs) (nx0 n : Nat) : ∀ (l : List Oper) (i nx : Nat) (recs : List Rec) (K : St -> Option R),
  drawF tt Γ ops ds mds env0 objs0 nx0 n l i nx recs (fun env objs nx => K ⟨env,objs,nx,n⟩) = evDraw tt Γ ops ds mds ⟨env0,objs0,nx0,n⟩ l i nx recs K
 | [],_,_,_,_ => by rw [drawF,qe1,qcu]; rfl
 | o :: r,i,nx,recs,K => by
  unfold drawF evDraw
  rw [qe1,qcu,qe0,qe0]
  congr 1
  funext v ch nx'
  dsimp only
  generalize chOK ds (nth [] mds i) nx0 i i nx nx' recs v ch = b
  cases b with
  | true => dsimp only; rw [qdb]; exact qmE tt Γ ops ds mds env0 objs0 nx0 n r _ _ _ K
  | false => rfl
def regionF (tt : Tab) (Γ : FEnv) (ops : List Oper) (draw : Bool) (env : Env) (objs : Objs) (nx n : Nat) (K : Env -> Objs -> Nat -> Option R) : Option R :=
 match ops.all (fun o => okDst n o.dst) with
 | false => none
 | true => match draw with
  | false => seqF tt Γ ops n ops env objs nx K
  | true =>
   match apartOK (depsOf ops []) ops ops.length ops.length && depsOK (depsOf ops []) 0 ops with
   | true => drawF tt Γ ops (depsOf ops []) (ops.map (mdOf objs (peekE tt objs ops env))) env objs nx n ops 0 nx [] K
   | false => none
theorem qmT (tt : Tab) (Γ : FEnv) (ops : List Oper) (draw : Bool) (env : Env) (objs : Objs) (nx n : Nat) (K : St -> Option R) : regionF tt Γ ops draw env objs nx n (fun env objs nx => K ⟨env,objs,nx,n⟩) = evRegion tt Γ ops draw ⟨env,objs,nx,n⟩ K := by
 unfold regionF evRegion
 dsimp only
 generalize ops.all (fun o => okDst n o.dst) = b
 cases b with
 | false => rfl
 | true =>
  cases draw with
  | false => exact qnT ..
  | true =>
   dsimp only
   generalize (apartOK (depsOf ops []) ops ops.length ops.length && depsOK (depsOf ops []) 0 ops) = b
   cases b with
   | true => exact qmE ..
   | false => rfl
def blkF (tt : Tab) (Γ : FEnv) (L : LoopF) : Code -> St -> (Xt -> St -> Option R) -> Option R
 | .skip,σ,K => K .normal σ
 | .region _ ops draw,σ,K => match σ with | ⟨env,objs,nx,n⟩ => regionF tt Γ ops.toList draw env objs nx n fun env objs nx => K .normal ⟨env,objs,nx,n⟩
 | .seq a b,σ,K => blkF tt Γ L a σ fun
  | .normal,σ' => blkF tt Γ L b σ' K
  | e,σ' => K e σ'
 | .cond c a b,σ,K => match evalO σ.env c with
  | .b x => br x (blkF tt Γ L a σ K) (blkF tt Γ L b σ K)
  | _ => none
 | .block id c,σ,K => blkF tt Γ L c σ fun
  | .exit id',σ' => match vaj id' id with | true => K .normal σ' | false => K (.exit id') σ'
  | e,σ' => K e σ'
 | .loop c,σ,K => L c σ K
 | .exit id,σ,K => K (.exit id) σ
 | .ret,σ,K => K .ret σ
 | _,_,_ => none
theorem qfQ (tt : Tab) (Γ : FEnv) (L : LoopF) : ∀ (c : Code) (σ : St) (K : Xt -> St -> Option R),blkF tt Γ L c σ K = evB tt Γ L c σ K
 | .skip,_,_ => rfl
 | .region _ ops draw,⟨env,objs,nx,n⟩,K => qmT tt Γ ops.toList draw env objs nx n (K .normal)
 | .seq a b,σ,K => by
  unfold blkF evB
  rw [qfQ tt Γ L a]
  congr 1
  funext e σ'
  cases e with
  | normal => exact qfQ tt Γ L b σ' K
  | exit id => rfl
  | ret => rfl
 | .cond c a b,σ,K => by
  unfold blkF evB
  rw [qfQ tt Γ L a,qfQ tt Γ L b]
  rfl
 | .block id c,σ,K => by
  unfold blkF evB
  rw [qfQ tt Γ L c]
  congr 1
 | .loop c,σ,K => rfl
 | .exit id,σ,K => rfl
 | .ret,σ,K => rfl
 | .rangeFunc _ _ _ _,_,_ => rfl
 | .scope _,_,_ => rfl
 | .label _,_,_ => rfl
 | .goto _,_,_ => rfl
 | .refuse _,_,_ => rfl
def zipF : List Nat -> List V -> (Env -> α) -> α
 | i :: l,v :: vs,K => zipF l vs fun e => K ((i,v) :: e)
 | _,_,K => K []
theorem qnm : ∀ (l : List Nat) (vs : List V) (K : Env -> α),zipF l vs K = K (l.zip vs)
 | i :: l,v :: vs,K => by rw [zipF,qnm l vs]; rfl
 | [],_,_ => by cases ‹List V› <;> rfl
 | _ :: _,[],_ => rfl
def normF (base : Nat) (live : List Nat) (σ : St) (K : St -> Option R) : Option R :=
 match σ with
 | ⟨env,objs,nx,n⟩ =>
  forceVs (live.map (look .undef env)) fun vs =>
  forceL (keptIds base objs vs) fun ids =>
  match allIn (V.idsL vs) ids && keepOK base objs nx ids with
  | true => forceVs (V.renL (posOf ids) vs) fun vs => zipF live vs fun env => forceC ((vaA ids.length).zip (lessObjs objs ids)) fun objs => litK ids.length fun nx => K ⟨env,objs,nx,n⟩
  | false => none
theorem qmg (base : Nat) (live : List Nat) (σ : St) (K : St -> Option R) : normF base live σ K = match normOK base live σ with | true => K (normSt base live σ) | false => none := by
 cases σ with
 | mk env objs nx n =>
  unfold normF normOK normSt
  dsimp only
  rw [qco,qgo]
  generalize (allIn (V.idsL (List.map (look V.undef env) live)) (keptIds base objs (List.map (look V.undef env) live)) && keepOK base objs nx (keptIds base objs (List.map (look V.undef env) live))) = b
  cases b with
  | true => dsimp only; rw [qco,qnm,qcu,qdb]
  | false => rfl
def cvF : Cvs -> Env -> Objs -> Nat -> (Env -> Objs -> Nat -> α) -> α
 | [],env,objs,nx,K => K env objs nx
 | (t,j,m) :: r,env,objs,nx,K => forceV (cv1 objs nx m j (look .undef env t)).1 fun v => forceC (cv1 objs nx m j (look .undef env t)).2.1 fun ch => litK (cv1 objs nx m j (look .undef env t)).2.2 fun nx => appF ch objs fun objs => cvF r ((t,v) :: env) objs nx K
theorem qp2 : ∀ (l : Cvs) (env : Env) (objs : Objs) (nx n : Nat) (K : St -> α),cvF l env objs nx (fun env objs nx => K ⟨env,objs,nx,n⟩) = K (cvSt l ⟨env,objs,nx,n⟩)
 | [],_,_,_,_,_ => rfl
 | (t,j,m) :: r,env,objs,nx,n,K => by
  rw [cvF,qdp,qcu,qdb,qfS]
  exact qp2 r _ _ _ n K
def seenF (cv : Cvs) (σ : St) (K : St -> α) : α := match σ with | ⟨env,objs,nx,n⟩ => cvF cv env objs nx fun env objs nx => K ⟨env,objs,nx,n⟩
theorem qjs (cv : Cvs) (σ : St) (K : St -> α) : seenF cv σ K = K (cvSt cv σ) := by
 cases σ with
 | mk env objs nx n => exact qp2 cv env objs nx n K
def headF (live : Live) (base : Nat) (L : LoopF) : LoopF := fun c σ K => seenF (live (firstReg c)).ch σ fun σ => normF base (live (firstReg c)).h σ fun σ => L c σ K
def leaveF (live : Live) (base : Nat) (c : Code) (K : Xt -> St -> Option R) : Xt -> St -> Option R := fun e σ => seenF (live (firstReg c)).co σ fun σ => normF base ((live (firstReg c)).out e) σ fun σ => K e σ
def loopG (tt : Tab) (Γ : FEnv) (live : Live) (base : Nat) : Nat -> LoopF
 | 0,_,_,_ => none
 | n + 1,c,σ,K => blkF tt Γ (headF live base (loopG tt Γ live base n)) c σ fun
  | .normal,σ' => headF live base (loopG tt Γ live base n) c σ' K
  | e,σ' => leaveF live base c K e σ'
theorem qmt {live : Live} {base : Nat} {L L' : LoopF} (h : L = L') : headF live base L = head live base L' := by
 subst h
 funext c σ K
 rw [headF,qjs,qmg]; rfl
theorem qkJ (live : Live) (base : Nat) (c : Code) (K : Xt -> St -> Option R) : leaveF live base c K = leave live base c K := by
 funext e σ
 rw [leaveF,qjs,qmg]; rfl
theorem qml (tt : Tab) (Γ : FEnv) (live : Live) (base : Nat) : ∀ n,loopG tt Γ live base n = loopF tt Γ live base n
 | 0 => rfl
 | n + 1 => by
  funext c σ K
  unfold loopG loopF
  rw [qfQ,qmt (qml tt Γ live base n)]
  congr 1
  funext e σ'
  cases e with
  | normal => rfl
  | exit id => exact congrFun (congrFun (qkJ live base c K) _) _
  | ret => exact congrFun (congrFun (qkJ live base c K) _) _
def finF (tt : Tab) (base : Nat) (results : List ResultVar) : Xt -> St -> Option R
 | .exit _,_ => none
 | _,σ => match σ with
  | ⟨env,objs,nx,_⟩ => resK tt objs env results fun vs => forceV (resOne vs) fun v =>
   forceL (keptIds base objs [v]) fun ids =>
   match allIn (V.ids v) ids && keepOK base objs nx ids with
   | true => forceV (v.ren (posOf ids)) fun v => forceOs (lessObjs objs ids) fun os => some (v,os)
   | false => none
theorem qqH (tt : Tab) (base : Nat) (results : List ResultVar) : finF tt base results = finish tt base results := by
 funext e σ
 have key : ∀ σ : St,(match σ with
  | ⟨env,objs,nx,_⟩ => resK tt objs env results fun vs => forceV (resOne vs) fun v =>
   forceL (keptIds base objs [v]) fun ids =>
   match allIn (V.ids v) ids && keepOK base objs nx ids with
   | true => forceV (v.ren (posOf ids)) fun v => forceOs (lessObjs objs ids) fun os => some (v,os)
   | false => none : Option R) = resK tt σ.objs σ.env results fun vs =>
   let v := resOne vs
   let ids := keptIds base σ.objs [v]
   match allIn (V.ids v) ids && keepOK base σ.objs σ.nx ids with
   | true => some (v.ren (posOf ids),lessObjs σ.objs ids)
   | false => none := fun σ => by
  cases σ with
  | mk env objs nx n =>
   dsimp only
   congr 1
   funext vs
   rw [qdp,qgo,qdp,qgM]
 cases e with
 | exit id => rfl
 | normal => exact key σ
 | ret => exact key σ
def runF (tt : Tab) (Γ : FEnv) (live : Live) (fn : Func) (n : Nat) (args : List V) (objs : List AObj) : Option R :=
 match vaF args.length fn.ntmps with
 | false => none
 | true => match fn.body with
  | none => none
  | some c => blkF tt Γ (headF live objs.length (loopG tt Γ live objs.length n)) c ⟨argSlots 0 args,(vaA objs.length).zip objs,objs.length,fn.ntmps⟩ fun e σ => seenF (live endKey).ch σ fun σ => finF tt objs.length fn.results.toList e σ
theorem qqi (tt : Tab) (Γ : FEnv) (live : Live) (fn : Func) (n : Nat) (args : List V) (objs : List AObj) : runF tt Γ live fn n args objs = evF tt Γ live fn n args objs := by
 unfold runF evF
 generalize vaF args.length fn.ntmps = b
 cases b with
 | false => rfl
 | true =>
  dsimp only
  cases fn.body with
  | none => rfl
  | some c =>
   dsimp only
   rw [qfQ,qmt (qml tt Γ live _ n),qqH]
   congr 1
   funext e σ
   exact qjs _ σ _
theorem qkS {P : Program} {tt : Tab} {Γ : FEnv} (hT : TabOK P tt) (hΓ : EnvOK P Γ) (hm : P.follows .mixedOrders = true) {live : Live} {f : FuncId} {fn : Func} (hf : P.funcs[f]? = some fn) {m : Nat} {args : List V} {objs : List AObj} {res : V} {objs' : List AObj} (h : runF tt Γ live fn m args objs = some (res,objs')) : FnOK P f args objs res objs' :=
 fn_ok hT hΓ hm hf (by rw [<- qqi]; exact h)
end
end Go.Vm

namespace Go.Vm
open Go
noncomputable section
def opdsOf : Op -> List Operand
 | .move x | .assign x | .nilCheck x => [x]
 | .pick c a b => [c,a,b]
 | .box _ x => [x]
 | .build _ ps => ps.toList.map (·.2)
 | .buildSlice _ _ ps => ps.toList.map (·.2)
 | .load _ a => [a]
 | .store _ a v => [a,v]
 | .binOp _ _ x y _ => [x,y]
 | .unOp _ _ x => [x]
 | .convert _ _ x => [x]
 | .makeFunc _ _ caps => caps.toList
 | .makeSlice _ l _ => [l]
 | .slice _ x lo hi _ => x :: (lo.toList ++ hi.toList)
 | .fieldAddr _ x _ => [x]
 | .field _ x _ => [x]
 | .indexAddr _ x i => [x,i]
 | .index _ x i => [x,i]
 | .extract t _ => [t]
 | .range _ x => [x]
 | .lookup _ m i _ => [m,i]
 | .mapUpdate _ m i v => [m,i,v]
 | .next it _ => [it]
 | .call c => (match c.callee with | .value f => [f] | _ => []) ++ c.args.toList
 | _ => []
theorem qpn (tt : Tab) (Γ : FEnv) {env env' : Env} (objs : Objs) (nx : Nat) (md : List Nat) (o : Oper) (K : V → Objs → Nat → Option R) (h : ∀ x ∈ opdsOf o.op,evalO env x = evalO env' x) :
    evOp tt Γ env objs nx md o K = evOp tt Γ env' objs nx md o K := by
  unfold evOp
  generalize o.op = op at h
  have hl : ∀ l : List Operand,(∀ x ∈ l,evalO env x = evalO env' x) → l.map (evalO env) = l.map (evalO env') := fun l hl => vbp hl
  have hp : ∀ l : List (Nat × Operand),(∀ x ∈ l.map (·.2),evalO env x = evalO env' x) → l.map (fun p => (p.1,evalO env p.2)) = l.map (fun p => (p.1,evalO env' p.2)) := fun l hl => vbp fun p hp => by rw [hl p.2 (va1 hp)]
  cases op with
  | call c =>
    simp only [opdsOf,vau] at h
    have ha := hl c.args.toList fun x hx => h x (.inr hx)
    cases hc : c.callee with
    | value f =>
      rw [hc] at h
      have hf := h f (.inl (by simp))
      dsimp only
      rw [hc]
      dsimp only
      rw [hf,ha]
    | builtin b =>
      dsimp only
      rw [hc]
      cases b <;> dsimp only <;> first | rfl | skip
      all_goals
        first
          | rw [ha]
          | (generalize c.args.toList = l at *
             generalize c.argTypes.toList = t at *
             split <;> first | rfl | (simp only [vaH,List.map_nil,va8.injEq,and_true] at ha; simp only [ha]))
    | _ => dsimp only; rw [hc]
  | build t ps => simp only [opdsOf] at h; simp only [hp _ h]
  | buildSlice t n ps => simp only [opdsOf] at h; simp only [hp _ h]
  | makeFunc f a caps =>
    simp only [opdsOf] at h
    have := hl _ h
    cases f <;> dsimp only <;> first | rfl | (split <;> first | rfl | rw [this])
  | slice t x lo hi m =>
    simp only [opdsOf,vap,vau,Option.mem_toList] at h
    have hx := h x (.inl rfl)
    have h1 : lo.map (evalO env) = lo.map (evalO env') := by cases lo with | none => rfl | some a => simp [h a (.inr (.inl rfl))]
    have h2 : hi.map (evalO env) = hi.map (evalO env') := by cases hi with | none => rfl | some a => simp [h a (.inr (.inr rfl))]
    cases m <;> dsimp only
    rw [hx,h1,h2]
  | makeSlice t l c =>
    simp only [opdsOf,va3,forall_eq] at h
    dsimp only
    split <;> first | rfl | rw [h]
  | _ =>
    simp only [opdsOf,vap,List.not_mem_nil,or_false,forall_eq_or_imp,forall_eq] at h
    first
      | rfl
      | simp only [h]
def tmpsOf1 : Operand -> List Nat
 | .tmp t => [t]
 | _ => []
def tmpsOf (ops : List Oper) (o : Oper) : List Nat :=
 (match o.guard with | some (j,_) => (match (ops[j]?).bind (·.dst) with | some t => [t] | none => []) | none => []) ++ (opdsOf o.op).flatMap tmpsOf1
theorem qlG (tt : Tab) (Γ : FEnv) {env env' : Env} (ops : List Oper) (objs : Objs) (nx : Nat) (md : List Nat) (o : Oper) (K : V -> Objs -> Nat -> Option R) (h : ∀ t ∈ tmpsOf ops o,look .undef env t = look .undef env' t) :
  evGuard tt Γ ops env objs nx md o K = evGuard tt Γ ops env' objs nx md o K := by
 have h1 : evOp tt Γ env objs nx md o K = evOp tt Γ env' objs nx md o K := qpn tt Γ objs nx md o K fun x hx => by
  cases x with
  | tmp t => exact h t (vam _ (List.mem_flatMap.2 ⟨_,hx,by simp [tmpsOf1]⟩))
  | _ => rfl
 unfold evGuard
 unfold tmpsOf at h
 cases hg : o.guard with
 | none => exact h1
 | some p =>
  obtain ⟨j,want⟩ := p
  dsimp only
  rw [hg] at h
  dsimp only at h
  cases ht : (ops[j]?).bind (·.dst) with
  | none => rfl
  | some t =>
   rw [ht] at h
   dsimp only
   rw [h t (by simp),h1]
def dstIsNot : Option Tmp -> Nat -> Bool
 | some a,t => !Nat.beq a t
 | none,_ => true
def noSide (ds : List Nat) (i t : Nat) : Nat -> List Oper -> Bool
 | _,[] => true
 | j,o :: r => (match side ds i j with | true => dstIsNot o.dst t | false => true) && noSide ds i t (j + 1) r
def drawOK (ds : List Nat) (ops : List Oper) : Nat -> List Oper -> Bool
 | _,[] => true
 | i,o :: r => (tmpsOf ops o).all (fun t => noSide ds i t 0 ops) && drawOK ds ops (i + 1) r
theorem qmm {env : Env} {dst : Option Tmp} {t : Nat} (h : dst ≠ some t) (v : V) : look .undef (putE env dst v) t = look .undef env t := by
 cases dst with
 | none => rfl
 | some d =>
  show look .undef ((d,v) :: env) t = _
  rw [qaL,if_neg (fun e => h (by rw [e]))]
theorem qiu {dst : Option Tmp} {t : Nat} (h : dstIsNot dst t = true) : dst ≠ some t := fun e => by subst e; simp [dstIsNot] at h
theorem qiZ {ds : List Nat} {i t : Nat} : ∀ (l : List Oper) (j : Nat) (env : Env),noSide ds i t j l = true -> look .undef (hideE ds i j l env) t = look .undef env t
 | [],_,_,_ => rfl
 | o :: r,j,env,h => by
  simp only [noSide,vab] at h
  unfold hideE
  rw [qiZ r (j + 1) _ h.2]
  cases hs : side ds i j with
  | true => rw [hs] at h; exact qmm (qiu h.1) _
  | false => rfl
theorem qkB {ds : List Nat} {i t : Nat} : ∀ {l : List Oper} {j k : Nat} {o : Oper},noSide ds i t j l = true -> l[k]? = some o -> o.dst = some t -> side ds i (j + k) = false
 | [],_,_,_,_,h,_ => by simp at h
 | x :: r,j,0,o,h,hk,hd => by
  simp only [noSide,vab] at h
  simp at hk; subst hk
  cases hs : side ds i j with
  | true => rw [hs] at h; exact absurd hd (qiu h.1)
  | false => simp
 | x :: r,j,k + 1,o,h,hk,hd => by
  simp only [noSide,vab] at h
  have := qkB (k := k) h.2 (by simpa using hk) hd
  rwa [show j + (k + 1) = j + 1 + k by omega]
theorem qi0 {p q : Nat -> Bool} {t : Nat} : ∀ (recs : List Rec) (j : Nat) (env env' : Env),look .undef env t = look .undef env' t -> (∀ k r,recs[k]? = some r -> r.dst = some t -> p (j + k) = q (j + k)) ->
  look .undef (envOn p j recs env) t = look .undef (envOn q j recs env') t
 | [],_,_,_,h,_ => h
 | r :: rs,j,env,env',h,hpq => by
  unfold envOn
  refine qi0 rs (j + 1) _ _ ?_ fun k r' hk hd => by
   have := hpq (k + 1) r' (by simpa using hk) hd
   rwa [show j + (k + 1) = j + 1 + k by omega] at this
  by_cases hd : r.dst = some t
  ·have e := hpq 0 r (by simp) hd
   rw [van] at e
   rw [e]
   cases q j with
   | false => exact h
   | true =>
    dsimp only
    rw [hd]
    show look .undef ((t,r.v) :: env) t = look .undef ((t,r.v) :: env') t
    simp [qaL]
  ·have e1 : ∀ (b : Bool) (env : Env),look .undef (match b with | true => putE env r.dst r.v | false => env) t = look .undef env t := fun b env => by cases b with | true => exact qmm hd _ | false => rfl
   exact (e1 _ _).trans (h.trans (e1 _ _).symm)
theorem qkY {ds : List Nat} : ∀ {l : List Oper} {i k : Nat},depsOK ds i l = true -> k < l.length -> nth 0 ds (i + k) < 1 <<< (i + k)
 | [],_,_,_,h => by simp at h
 | o :: r,i,k,h,hk => by
  unfold depsOK at h
  split at h
  rotate_left
  ·cases h
  rename_i hb
  simp only [vab] at hb
  cases k with
  | zero => simpa using hb.2
  | succ k =>
   have := qkY (k := k) h (by simpa using hk)
   rwa [show i + (k + 1) = i + 1 + k by omega]
theorem qpd {ds : List Nat} {ops : List Oper} (hdo : depsOK ds 0 ops = true) {i t : Nat} (hi : i < ops.length) (hn : noSide ds i t 0 ops = true) {recs : List Rec} (hr : recs.map (·.dst) = (ops.take i).map (·.dst)) (env0 : Env) :
  look .undef (hideE ds i 0 ops (envOn (dep ds i) 0 recs env0)) t = look .undef (envOn (fun _=>true) 0 recs env0) t := by
 rw [qiZ _ _ _ hn]
 refine qi0 recs 0 _ _ rfl fun k r hk hd => ?_
 rw [vac]
 have hlen : recs.length = i := by
  have := congrArg List.length hr
  simpa [vaL (Nat.le_of_lt hi)] using this
 have hki : k < i := by rw [<- hlen]; exact (vag.1 hk).1
 have hko : ∃ o,ops[k]? = some o /\ o.dst = some t := by
  have h1 : (recs.map (·.dst))[k]? = some (some t) := by rw [vak,hk]; simp [hd]
  rw [hr,vak,vbr,if_pos hki] at h1
  cases ho : ops[k]? with
  | none => rw [ho] at h1; cases h1
  | some o => rw [ho] at h1; exact ⟨o,rfl,by simpa using h1⟩
 obtain ⟨o,ho,hod⟩ := hko
 have hs := qkB hn ho hod
 rw [vac] at hs
 have hlt := qkY (k := k) hdo (Nat.lt_trans hki hi)
 rw [vac,Nat.one_shiftLeft] at hlt
 have hz : dep ds k i = false := vbg (vad hlt (vbn (by omega) (Nat.le_of_lt hki)))
 unfold side at hs
 have hb : vaj i k = false := by
  cases hb : vaj i k with
  | false => rfl
  | true => have := vaa hb; omega
 rw [hb,hz] at hs
 simpa using hs
structure Crec where
 j : Nat
 ch : Objs
 lo : Nat
 hi : Nat
def crec (j : Nat) (r : Rec) : List Crec := match r.ch,vaj r.lo r.hi with | [],true => [] | ch,_ => [⟨j,ch,r.lo,r.hi⟩]
def compress : Nat -> List Rec -> List Crec
 | _,[] => []
 | j,r :: rs => crec j r ++ compress (j + 1) rs
theorem qgu (r : Rec) : ∀ (rs : List Rec) (j : Nat),compress j (rs ++ [r]) = compress j rs ++ crec (j + rs.length) r
 | [],j => by simp [compress]
 | x :: rs,j => by
  simp only [vbv,compress,qgu r rs (j + 1),vaM,vaC]
  rw [show j + 1 + rs.length = j + (rs.length + 1) by omega]
theorem qpt {j : Nat} {r : Rec} (h : crec j r = []) : r.ch = [] /\ r.lo = r.hi := by
 unfold crec at h
 split at h
 ·rename_i h1 h2; exact ⟨h1,vaa h2⟩
 ·cases h
theorem qjV (j : Nat) (r : Rec) : (crec j r = [] /\ r.ch = [] /\ r.lo = r.hi) \/ crec j r = [⟨j,r.ch,r.lo,r.hi⟩] := by
 cases h : crec j r with
 | nil => exact .inl ⟨rfl,qpt h⟩
 | cons x l =>
  refine .inr ?_
  rw [<- h]
  unfold crec at h ⊢
  split
  ·rename_i h1 h2; rw [h1,h2] at h; cases h
  ·rfl
def objsC (p : Nat -> Bool) : List Crec -> Objs -> Objs
 | [],objs => objs
 | ⟨j,ch,_,_⟩ :: rs,objs => objsC p rs (match p j with | true => ch ++ objs | false => objs)
theorem qhx (p : Nat -> Bool) : ∀ (rs : List Rec) (j : Nat) (objs : Objs),objsC p (compress j rs) objs = objsOn p j rs objs
 | [],_,_ => rfl
 | r :: rs,j,objs => by
  unfold compress objsOn
  rcases qjV j r with ⟨h,h1,_⟩ | h
  ·rw [h,h1,vaK,qhx p rs]
   cases p j <;> rfl
  ·rw [h]
   show objsC p (compress (j + 1) rs) _ = _
   rw [qhx p rs]
   rfl
def hmOf : Nat -> List (List Nat) -> List (Nat × List Nat)
 | _,[] => []
 | j,md :: r => match md with | [] => hmOf (j + 1) r | _ => (j,md) :: hmOf (j + 1) r
def hideC (ds : List Nat) (i : Nat) : List (Nat × List Nat) -> Objs -> Objs
 | [],objs => objs
 | (j,md) :: r,objs => hideC ds i r (match side ds i j with | true => md.map (fun o => (o,AObj.dead)) ++ objs | false => objs)
theorem qjM (ds : List Nat) (i : Nat) : ∀ (mds : List (List Nat)) (j : Nat) (objs : Objs),hideC ds i (hmOf j mds) objs = hideO ds i j mds objs
 | [],_,_ => rfl
 | [] :: r,j,objs => by
  unfold hmOf hideO
  rw [qjM ds i r]
  cases side ds i j <;> rfl
 | (x :: y) :: r,j,objs => by
  unfold hmOf hideO
  show hideC ds i (hmOf (j + 1) r) _ = _
  rw [qjM ds i r]
  rfl
def hideK (ds : List Nat) (i : Nat) : List Crec -> Objs -> Objs
 | [],objs => objs
 | ⟨j,ch,_,_⟩ :: rs,objs => hideK ds i rs (match side ds i j with | true => (ch.map (·.1)).map (fun o => (o,AObj.dead)) ++ objs | false => objs)
theorem qjL (ds : List Nat) (i : Nat) : ∀ (rs : List Rec) (j : Nat) (objs : Objs),hideK ds i (compress j rs) objs = hideO ds i j (rs.map fun r => r.ch.map (·.1)) objs
 | [],_,_ => rfl
 | r :: rs,j,objs => by
  unfold compress
  rw [vaH]
  unfold hideO
  rcases qjV j r with ⟨h,h1,_⟩ | h
  ·rw [h,vaK,qjL ds i rs,h1]
   cases side ds i j <;> rfl
  ·rw [h]
   show hideK ds i (compress (j + 1) rs) _ = _
   rw [qjL ds i rs]
   cases side ds i j <;> rfl
def seenC (ds : List Nat) (i : Nat) : List Crec -> Nat -> Bool
 | [],_ => false
 | ⟨j,_,lo,hi⟩ :: rs,o => (dep ds i j && vaF lo o && vaR o hi) || seenC ds i rs o
theorem qjt (ds : List Nat) (i : Nat) (o : Nat) : ∀ (rs : List Rec) (j : Nat),seenC ds i (compress j rs) o = seenIn ds i j rs o
  | [],_ => rfl
  | r :: rs,j => by
    unfold compress seenIn
    rcases qjV j r with ⟨h,_,h2⟩ | h
    · rw [h,vaK,qjt ds i o rs,h2]
      have : (vaF r.hi o && vaR o r.hi) = false := by
        cases h1 : vaF r.hi o with
        | false => rfl
        | true =>
          have := vah h1
          cases h3 : vaR o r.hi with
          | false => rfl
          | true => have := vah h3; omega
      rw [Bool.and_assoc,this,Bool.and_false,Bool.false_or]
    · rw [h]
      show (_ || seenC ds i (compress (j + 1) rs) o) = _
      rw [qjt ds i o rs]
def clashC (ds : List Nat) (nx0 i n : Nat) : List Crec -> Objs -> Bool
 | [],_ => true
 | ⟨j,ch',_,_⟩ :: rs,ch => (match ch.any fun c => ch'.any fun d => vaj d.1 c.1 with
  | false => true
  | true => !side ds i j) && (match ch.any fun c => vaF nx0 c.1 && ch'.any fun d => vaj d.1 c.1 with
  | false => true
  | true => (vaA n).all fun k => !dep ds k j || !side ds i k) && clashC ds nx0 i n rs ch
theorem qiy (ds : List Nat) (nx0 i n : Nat) (ch : Objs) : ∀ (rs : List Rec) (j : Nat),clashC ds nx0 i n (compress j rs) ch = clashOK ds nx0 i n j rs ch
 | [],_ => rfl
 | r :: rs,j => by
  unfold compress clashOK
  rcases qjV j r with ⟨h,h1,_⟩ | h
  ·rw [h,vaK,qiy ds nx0 i n ch rs,h1]
   have : (ch.any fun c => ([] : Objs).any fun d => vaj d.1 c.1) = false := by
    rw [vbs]; intro c _; simp
   have this2 : (ch.any fun c => vaF nx0 c.1 && ([] : Objs).any fun d => vaj d.1 c.1) = false := by
    rw [vbs]; intro c _; simp
   rw [this,this2]
   simp
  ·rw [h]
   show (_ && clashC ds nx0 i n (compress (j + 1) rs) ch) = _
   rw [qiy ds nx0 i n ch rs]
   rfl
def chC (ds : List Nat) (md : List Nat) (nx0 i n lo hi : Nat) (cr : List Crec) (v : V) (ch : Objs) : Bool :=
 match V.ids v,ch with
 | [],[] => vaF lo hi
 | ids,ch =>
  let seen := fun o => vaR o nx0 || (vaF lo o && vaR o hi) || seenC ds i cr o
  vaF lo hi && ids.all seen && ch.all (fun c => seen c.1 && c.2.ids.all seen && (match vaR c.1 nx0 with | true => elemB c.1 md | false => true)) && clashC ds nx0 i n cr ch
theorem qix (ds : List Nat) (nx0 i n : Nat) : ∀ (rs : List Rec) (j : Nat),clashOK ds nx0 i n j rs [] = true
 | [],_ => rfl
 | r :: rs,j => by
  unfold clashOK
  rw [qix ds nx0 i n rs]; rfl
theorem qry (ds : List Nat) (md : List Nat) (nx0 i n lo hi : Nat) (rs : List Rec) (v : V) (ch : Objs) : chC ds md nx0 i n lo hi (compress 0 rs) v ch = chOK ds md nx0 i n lo hi rs v ch := by
 have hs : (fun o => vaR o nx0 || (vaF lo o && vaR o hi) || seenC ds i (compress 0 rs) o) = seenB ds nx0 i lo hi rs := by
  funext o
  rw [qjt]; rfl
 unfold chC chOK
 split
 ·rename_i h
  rw [h,qix]; simp
 ·dsimp only
  rw [qiy]
  simp only [<- hs]
  rfl
def snocK {α : Type} : List Crec -> Crec -> (List Crec -> α) -> α
 | [],c,K => K [c]
 | x :: r,c,K => snocK r c fun l => K (x :: l)
theorem ql4 {α : Type} : ∀ (l : List Crec) (c : Crec) (K : List Crec -> α),snocK l c K = K (l ++ [c])
 | [],_,_ => rfl
 | x :: r,c,K => by rw [snocK,ql4 r]; rfl
def addC {α : Type} (cr : List Crec) (i : Nat) (ch : Objs) (nx nx' : Nat) (K : List Crec -> α) : α :=
 match ch,vaj nx nx' with
 | [],true => K cr
 | ch,_ => snocK cr ⟨i,ch,nx,nx'⟩ K
theorem qqP {α : Type} (cr : List Crec) (i : Nat) (dst : Option Tmp) (v : V) (ch : Objs) (nx nx' : Nat) (K : List Crec -> α) : addC cr i ch nx nx' K = K (cr ++ crec i ⟨dst,v,ch,nx,nx'⟩) := by
 unfold addC crec
 dsimp only
 split
 ·simp
 ·rw [ql4]
def drawG (tt : Tab) (Γ : FEnv) (ops : List Oper) (ds : List Nat) (mds : List (List Nat)) (hm : List (Nat × List Nat)) (objs0 : Objs) (nx0 n : Nat) : List Oper -> Nat -> Env -> Nat -> List Crec -> (Env -> Objs -> Nat -> Option R) -> Option R
 | [],_,env,nx,cr,K => forceC (objsC (fun _=>true) cr objs0) fun objs => K env objs nx
 | o :: r,i,env,nx,cr,K =>
  forceC (hideK ds i cr (hideC ds i hm (objsC (dep ds i) cr objs0))) fun os =>
  andK (evGuard tt Γ ops env os nx (mdAt mds nx0 i nx) o (forceK enc)) (forceK fun v ch nx' =>
   match chC ds (nth [] mds i) nx0 i i nx nx' cr v ch with
   | true => litK (i + 1) fun i' => putK env o.dst v fun env => addC cr i ch nx nx' fun cr => drawG tt Γ ops ds mds hm objs0 nx0 n r i' env nx' cr K
   | false => none)
theorem qi8 (p : Nat -> Bool) (r : Rec) : ∀ (rs : List Rec) (j : Nat) (env : Env),envOn p j (rs ++ [r]) env = (match p (j + rs.length) with | true => putE (envOn p j rs env) r.dst r.v | false => envOn p j rs env)
 | [],j,env => by simp only [envOn,vaK,List.length_nil,van]; rfl
 | x :: rs,j,env => by
  simp only [vbv,envOn]
  rw [qi8 p r rs (j + 1),vaC,show j + 1 + rs.length = j + (rs.length + 1) by omega]
theorem qkW {ds : List Nat} {ops : List Oper} : ∀ {l : List Oper} {i k : Nat} {o : Oper},drawOK ds ops i l = true -> l[k]? = some o -> ∀ t ∈ tmpsOf ops o,noSide ds (i + k) t 0 ops = true
 | [],_,_,_,_,h => by simp at h
 | x :: r,i,0,o,h,hk => by
  simp only [drawOK,vab] at h
  simp at hk; subst hk
  exact fun t ht => vat.1 h.1 t ht
 | x :: r,i,k + 1,o,h,hk => by
  simp only [drawOK,vab] at h
  have := qkW (k := k) h.2 (by simpa using hk)
  rwa [show i + 1 + k = i + (k + 1) by omega] at this
theorem qmD {tt : Tab} {Γ : FEnv} {ops : List Oper} {ds : List Nat} {mds : List (List Nat)} {hm : List (Nat × List Nat)} (hok : drawOK ds ops 0 ops = true) (hdo : depsOK ds 0 ops = true) (hhm : hmOf 0 mds = hm) (env0 : Env) (objs0 : Objs) (nx0 n : Nat) (K : Env -> Objs -> Nat -> Option R) : ∀ (l : List Oper) (i nx : Nat) (recs : List Rec) (env : Env),
  ops.drop i = l -> i <= ops.length -> recs.map (·.dst) = (ops.take i).map (·.dst) -> env = envOn (fun _=>true) 0 recs env0 ->
  drawG tt Γ ops ds mds hm objs0 nx0 n l i env nx (compress 0 recs) K = drawF tt Γ ops ds mds env0 objs0 nx0 n l i nx recs K
 | [],i,nx,recs,env,_,_,_,he => by
  unfold drawG drawF
  rw [qe1,qcu,qcu,qhx,he]
 | o :: l,i,nx,recs,env,hd,hle,hr,he => by
  have hk : ops[i]? = some o := by
   have := congrArg (·[0]?) hd
   simpa [vaz] using this
  have hi : i < ops.length := (vag.1 hk).1
  have hd' : ops.drop (i + 1) = l := by
   have := congrArg (vby 1) hd
   simpa [vaZ,vbk] using this
  have hvis : ∀ t ∈ tmpsOf ops o,look .undef env t = look .undef (hideE ds i 0 ops (envOn (dep ds i) 0 recs env0)) t := fun t ht => by
   have := qkW (k := i) hok hk t ht
   rw [vac] at this
   rw [qpd hdo hi this hr,he]
  have hlen : recs.length = i := by
   have := congrArg List.length hr
   simpa [vaL hle] using this
  unfold drawG drawF
  rw [qe1,qcu,qcu,qhx,<- hhm,qjM,qjL,qlG tt Γ ops _ nx _ o _ hvis]
  congr 1
  rw [qe0,qe0]
  funext v ch nx'
  rw [qry]
  generalize chOK ds (nth [] mds i) nx0 i i nx nx' recs v ch = b
  cases b with
  | false => rfl
  | true =>
   dsimp only
   rw [qdb,qdb,qn6,qqP _ i o.dst v]
   have hc : compress 0 recs ++ crec i ⟨o.dst,v,ch,nx,nx'⟩ = compress 0 (recs ++ [⟨o.dst,v,ch,nx,nx'⟩]) := by
    rw [qgu,vac,hlen]
   rw [hc]
   have := qmD (tt := tt) (Γ := Γ) (mds := mds) hok hdo hhm env0 objs0 nx0 n K l (i + 1) nx' (recs ++ [⟨o.dst,v,ch,nx,nx'⟩]) (putE env o.dst v) hd' hi (by
    rw [vav,hr,List.take_add_one,hk]; simp) (by
    rw [qi8,he])
   rw [hhm]
   exact this
end
end Go.Vm

namespace Go.Vm
open Go
theorem br_t {c : Bool} {x y r : Option R} (h : c = true) (hx : x = r) : br c x y = r := by unfold br; simp [h,hx]
theorem br_f {c : Bool} {x y r : Option R} (h : c = false) (hy : y = r) : br c x y = r := by unfold br; simp [h,hy]
theorem qb1 {p : Prop} [Decidable p] {x r : Option R} (h : p) (hx : x = r) : req p x = r := by unfold req; simp [h,hx]
noncomputable def backK (tt : Tab) (Γ : FEnv) (live : Live) (base n : Nat) (c : Code) (K : Xt -> St -> Option R) : Xt -> St -> Option R
 | .normal,σ' => headF live base (loopG tt Γ live base n) c σ' K
 | e,σ' => leaveF live base c K e σ'
theorem qqC {tt : Tab} {Γ : FEnv} {live : Live} {base n : Nat} {c : Code} {σ : St} {K : Xt -> St -> Option R} {r : Option R}
  (h : ∀ B,B = backK tt Γ live base n c K -> blkF tt Γ (headF live base (loopG tt Γ live base n)) c σ B = r) : loopG tt Γ live base (n + 1) c σ K = r := by
 refine Eq.trans ?_ (h _ rfl)
 unfold loopG
 congr 1
def Sound (P : Program) (f : FuncId) (sp : FSpec) : Prop := Enters P f /\ ∀ args objs K r,sp.run args objs K = some r -> ∃ res objs',K res objs' = some r /\ FnOK P f args objs res objs'
theorem qab (P : Program) : EnvOK P (fun _=>none) := fun f sp h => by cases h
def addF (f : FuncId) (sp : FSpec) (Γ : FEnv) : FEnv := fun g => match vaj g f with | true => some sp | false => Γ g
theorem qaa {P : Program} {f : FuncId} {sp : FSpec} {Γ : FEnv} (h : Sound P f sp) (hΓ : EnvOK P Γ) : EnvOK P (addF f sp Γ) := fun g sp' hg => by
 unfold addF at hg
 split at hg
 ·rename_i hb
  have : g = f := vaa hb
  subst this
  cases hg
  exact h
 ·exact hΓ g sp' hg
end Go.Vm

namespace Go.Vm
open Go
noncomputable section
variable {α β τ : Type}
@[irreducible] def bindO (x : Option τ) (f : τ -> Option R) : Option R := match x with | some a => f a | none => none
theorem qc4 {x : Option τ} {f : τ -> Option R} {r : R} (h : bindO x f = some r) : ∃ a,x = some a /\ f a = some r := by
 unfold bindO at h
 cases x with
 | none => cases h
 | some a => exact ⟨a,rfl,h⟩
theorem qfi {x : Option τ} {f : τ -> Option R} {a : τ} (h : x = some a) : bindO x f = f a := by unfold bindO; rw [h]
section
variable {g : τ -> Option R}
theorem qdu {p : Prop} [i1 : Decidable p] [i2 : Decidable p] {X : Option R} {A : Option τ} (h : p -> X = bindO A g) : @req p i1 X = bindO (@ite _ p i2 A none) g := by
 unfold req
 by_cases hp : p
 ·rw [if_pos hp,if_pos hp]; exact h hp
 ·rw [if_neg hp,if_neg hp]; unfold bindO; rfl
theorem br_c {c : Bool} {X Y : Option R} {A B : Option τ} (h1 : c = true -> X = bindO A g) (h2 : c = false -> Y = bindO B g) : br c X Y = bindO (if c = true then A else B) g := by
 unfold br
 cases c with
 | true => simpa using h1 rfl
 | false => simpa using h2 rfl
theorem br_d {p : Prop} [i1 : Decidable p] [i2 : Decidable p] {X Y : Option R} {A B : Option τ} (h1 : @decide p i1 = true -> X = bindO A g) (h2 : @decide p i1 = false -> Y = bindO B g) : br (@decide p i1) X Y = bindO (@ite _ p i2 A B) g := by
 unfold br
 by_cases hp : p
 ·rw [if_pos (by simpa using hp),if_pos hp]; exact h1 (by simpa using hp)
 ·rw [if_neg (by simpa using hp),if_neg hp]; exact h2 (by simpa using hp)
theorem qdE {x : Option α} {F : α -> Option R} {A : α -> Option τ} (h : ∀ t,F t = bindO (A t) g) : bindO x F = bindO (x.bind A) g := by
 unfold bindO at *
 cases x with
 | none => rfl
 | some a => exact h a
theorem qdt {F1 : α -> Option R} {F2 : β -> Option R} {A1 : α -> Option τ} {A2 : β -> Option τ} {t : α ⊕ β} (h1 : ∀ x,F1 x = bindO (A1 x) g) (h2 : ∀ x,F2 x = bindO (A2 x) g) : Sum.elim F1 F2 t = bindO (Sum.elim A1 A2 t) g := by
 cases t with
 | inl x => exact h1 x
 | inr x => exact h2 x
theorem qdM {X : Option R} {a : τ} (h : X = g a) : X = bindO (some a) g := by rw [h,qfi rfl]
theorem qbu : (none : Option R) = bindO none g := by unfold bindO; rfl
end
theorem qrz {X Y r : Option R} (h1 : X = r) (h2 : Y = r) : both X Y = r := by unfold both; rw [h1,h2,if_pos rfl]
theorem qcD {x : Option α} {F : α -> Option R} {K : V -> Objs -> Nat -> Option R} {r : Option R} (h : bindO x (fun t => andK (F t) K) = r) : andK (bindO x F) K = r := by
 rw [<- h]
 unfold bindO
 cases x with
 | none => unfold andK; rfl
 | some a => rfl
theorem qbt {p : Prop} [i1 : Decidable p] {X : Option R} {K : V -> Objs -> Nat -> Option R} {r : Option R} (h : req p (andK X K) = r) : andK (req p X) K = r := by
 rw [<- h]
 unfold req
 by_cases hp : p
 ·rw [if_pos hp,if_pos hp]
 ·rw [if_neg hp,if_neg hp]; unfold andK; rfl
theorem qb4 {c : Bool} {X Y : Option R} {K : V -> Objs -> Nat -> Option R} {r : Option R} (h : br c (andK X K) (andK Y K) = r) : andK (br c X Y) K = r := by
 rw [<- h]
 unfold br
 cases c <;> rfl
theorem qa9 {K : V -> Objs -> Nat -> Option R} {r : Option R} (h : none = r) : andK none K = r := by rw [<- h]; unfold andK; rfl
abbrev CK := Xt -> St -> Option R
abbrev OK3 := V -> Objs -> Nat -> Option R
abbrev EK := Env -> Objs -> Nat -> Option R
def afterK (tt : Tab) (Γ : FEnv) (L : LoopF) (b : Code) (K : CK) : CK
 | .normal,σ' => blkF tt Γ L b σ' K
 | e,σ' => K e σ'
def blockK (id : Nat) (K : CK) : CK
 | .exit id',σ' => match vaj id' id with | true => K .normal σ' | false => K (.exit id') σ'
 | e,σ' => K e σ'
def regK (n : Nat) (K : CK) : EK := fun env objs nx => K .normal ⟨env,objs,nx,n⟩
def opK (tt : Tab) (Γ : FEnv) (ops : List Oper) (n : Nat) (dst : Option Tmp) (l : List Oper) (env : Env) (objs : Objs) (K : EK) : OK3 :=
 forceK fun v ch nx => putK env dst v fun env => appF ch objs fun objs => seqF tt Γ ops n l env objs nx K
def drawK (tt : Tab) (Γ : FEnv) (ops : List Oper) (ds : List Nat) (mds : List (List Nat)) (hm : List (Nat × List Nat)) (objs0 : Objs) (nx0 n : Nat) (dst : Option Tmp) (l : List Oper) (i : Nat) (env : Env) (nx : Nat) (cr : List Crec) (K : EK) : OK3 :=
 forceK fun v ch nx' =>
  match chC ds (nth [] mds i) nx0 i i nx nx' cr v ch with
  | true => litK (i + 1) fun i' => putK env dst v fun env => addC cr i ch nx nx' fun cr => drawG tt Γ ops ds mds hm objs0 nx0 n l i' env nx' cr K
  | false => none
def finK (tt : Tab) (live : Live) (base : Nat) (results : List ResultVar) : CK := fun e σ => seenF (live endKey).ch σ fun σ => finF tt base results e σ
structure Seals where
 blk : Tab -> FEnv -> LoopF -> Code -> St -> CK -> Option R
 seq : Tab -> FEnv -> List Oper -> Nat -> List Oper -> Env -> Objs -> Nat -> EK -> Option R
 after : Tab -> FEnv -> LoopF -> Code -> CK -> CK
 block : Nat -> CK -> CK
 reg : Nat -> CK -> EK
 op : Tab -> FEnv -> List Oper -> Nat -> Option Tmp -> List Oper -> Env -> Objs -> EK -> OK3
 draw : Tab -> FEnv -> List Oper -> List Nat -> List (List Nat) -> List (Nat × List Nat) -> Objs -> Nat -> Nat -> List Oper -> Nat -> Env -> Nat -> List Crec -> EK -> Option R
 dk : Tab -> FEnv -> List Oper -> List Nat -> List (List Nat) -> List (Nat × List Nat) -> Objs -> Nat -> Nat -> Option Tmp -> List Oper -> Nat -> Env -> Nat -> List Crec -> EK -> OK3
 lp : Tab -> FEnv -> Live -> Nat -> Nat -> LoopF
 hd : Tab -> FEnv -> Live -> Nat -> Nat -> LoopF
 back : Tab -> FEnv -> Live -> Nat -> Nat -> Code -> CK -> CK
 fin : Tab -> Live -> Nat -> List ResultVar -> CK
 blk_eq : blk = blkF
 seq_eq : seq = seqF
 after_eq : after = afterK
 block_eq : block = blockK
 reg_eq : reg = regK
 op_eq : op = opK
 draw_eq : draw = drawG
 dk_eq : dk = drawK
 lp_eq : lp = loopG
 hd_eq : hd = fun tt Γ live base n => headF live base (loopG tt Γ live base n)
 back_eq : back = backK
 fin_eq : fin = finK
def seals : Seals := ⟨blkF,seqF,afterK,blockK,regK,opK,drawG,drawK,loopG,_,backK,finK,rfl,rfl,rfl,rfl,rfl,rfl,rfl,rfl,rfl,rfl,rfl,rfl⟩
section
variable {tt : Tab} {Γ : FEnv} {L : LoopF} {K : CK} {r : Option R} {σ : St} (S : Seals)
theorem Seals.skip (h : K .normal σ = r) : S.blk tt Γ L .skip σ K = r := by rw [S.blk_eq]; exact h
theorem Seals.exit {id : Nat} (h : K (.exit id) σ = r) : S.blk tt Γ L (.exit id) σ K = r := by rw [S.blk_eq]; exact h
theorem Seals.ret (h : K .ret σ = r) : S.blk tt Γ L .ret σ K = r := by rw [S.blk_eq]; exact h
theorem Seals.loop {live : Live} {base n : Nat} {c : Code} (h : (seenF (live (firstReg c)).ch σ fun σ => normF base (live (firstReg c)).h σ fun σ => S.lp tt Γ live base n c σ K) = r) : S.blk tt Γ (S.hd tt Γ live base n) (.loop c) σ K = r := by
 rw [S.lp_eq] at h
 rw [S.blk_eq,S.hd_eq]; exact h
theorem Seals.two {a b : Code} (h : S.blk tt Γ L a σ (S.after tt Γ L b K) = r) : S.blk tt Γ L (.seq a b) σ K = r := by rw [S.blk_eq,S.after_eq] at h; rw [S.blk_eq]; exact h
theorem Seals.blok {id : Nat} {c : Code} (h : S.blk tt Γ L c σ (S.block id K) = r) : S.blk tt Γ L (.block id c) σ K = r := by rw [S.blk_eq,S.block_eq] at h; rw [S.blk_eq]; exact h
theorem Seals.cond {c : Operand} {a b : Code} {env : Env} {objs : Objs} {nx n : Nat} {x : Bool} (hc : evalO env c = .b x) (h : br x (S.blk tt Γ L a ⟨env,objs,nx,n⟩ K) (S.blk tt Γ L b ⟨env,objs,nx,n⟩ K) = r) : S.blk tt Γ L (.cond c a b) ⟨env,objs,nx,n⟩ K = r := by
 rw [S.blk_eq] at h ⊢
 unfold blkF
 dsimp only
 rw [hc]
 exact h
theorem Seals.region {id : Nat} {ops : Array Oper} {env : Env} {objs : Objs} {nx n : Nat} (hok : ops.toList.all (fun o => okDst n o.dst) = true) (h : S.seq tt Γ ops.toList n ops.toList env objs nx (S.reg n K) = r) : S.blk tt Γ L (.region id ops false) ⟨env,objs,nx,n⟩ K = r := by
 rw [S.seq_eq,S.reg_eq] at h
 rw [S.blk_eq]
 refine Eq.trans ?_ h
 show regionF tt Γ ops.toList false env objs nx n (regK n K) = _
 unfold regionF
 rw [hok]
theorem Seals.region_d {id : Nat} {ops : Array Oper} {env : Env} {objs : Objs} {nx n : Nat} {ds : List Nat} {mds : List (List Nat)} {hm : List (Nat × List Nat)} (hst : (ops.toList.all (fun o => okDst n o.dst) && (apartOK ds ops.toList ops.toList.length ops.toList.length && depsOK ds 0 ops.toList) && drawOK ds ops.toList 0 ops.toList) = true) (hds : depsOf ops.toList [] = ds) (hhm : hmOf 0 mds = hm) (hm' : ops.toList.map (mdOf objs (peekE tt objs ops.toList env)) = mds)
  (h : S.draw tt Γ ops.toList ds mds hm objs nx n ops.toList 0 env nx [] (S.reg n K) = r) : S.blk tt Γ L (.region id ops true) ⟨env,objs,nx,n⟩ K = r := by
 rw [S.draw_eq,S.reg_eq] at h
 rw [S.blk_eq]
 refine Eq.trans ?_ h
 simp only [vab] at hst
 obtain ⟨⟨h1,h2,h3⟩,h4⟩ := hst
 show regionF tt Γ ops.toList true env objs nx n (regK n K) = _
 unfold regionF
 rw [h1]
 dsimp only
 rw [hds,h2,h3,hm']
 exact (qmD h4 h3 hhm env objs nx n (regK n K) ops.toList 0 nx [] env rfl (vaQ _) rfl rfl).symm
section
variable {ops : List Oper} {ds : List Nat} {mds : List (List Nat)} {hm : List (Nat × List Nat)} {objs0 : Objs} {nx0 n : Nat} {l : List Oper} {i nx : Nat} {env : Env} {cr : List Crec} {K : EK}
theorem Seals.draw_op {o : Oper}
  (h : (forceC (hideK ds i cr (hideC ds i hm (objsC (dep ds i) cr objs0))) fun os =>
  andK (evGuard tt Γ ops env os nx (mdAt mds nx0 i nx) o (forceK enc)) (S.dk tt Γ ops ds mds hm objs0 nx0 n o.dst l i env nx cr K)) = r) : S.draw tt Γ ops ds mds hm objs0 nx0 n (o :: l) i env nx cr K = r := by
 rw [S.dk_eq] at h
 rw [S.draw_eq]
 exact h
theorem Seals.dk_n {dst : Option Tmp} {v : V} {ch : Objs} {nx' : Nat}
  (h : (forceK (fun v ch nx' =>
  match chC ds (nth [] mds i) nx0 i i nx nx' cr v ch with
  | true => litK (i + 1) fun i' => putK env dst v fun env => addC cr i ch nx nx' fun cr => S.draw tt Γ ops ds mds hm objs0 nx0 n l i' env nx' cr K
  | false => none) v ch nx') = r) : andK (enc v ch nx') (S.dk tt Γ ops ds mds hm objs0 nx0 n dst l i env nx cr K) = r := by
 rw [S.draw_eq] at h
 rw [qpx,S.dk_eq]
 exact h
theorem Seals.draw_nil
  (h : (forceC (objsC (fun _=>true) cr objs0) fun objs => K env objs nx) = r) : S.draw tt Γ ops ds mds hm objs0 nx0 n [] i env nx cr K = r := by
 rw [S.draw_eq]
 exact h
end
theorem Seals.after_n {b : Code} (h : S.blk tt Γ L b σ K = r) : S.after tt Γ L b K .normal σ = r := by rw [S.blk_eq] at h; rw [S.after_eq]; exact h
theorem Seals.after_x {b : Code} {id : Nat} (h : K (.exit id) σ = r) : S.after tt Γ L b K (.exit id) σ = r := by rw [S.after_eq]; exact h
theorem Seals.after_r {b : Code} (h : K .ret σ = r) : S.after tt Γ L b K .ret σ = r := by rw [S.after_eq]; exact h
theorem Seals.block_n {id : Nat} (h : K .normal σ = r) : S.block id K .normal σ = r := by rw [S.block_eq]; exact h
theorem Seals.block_r {id : Nat} (h : K .ret σ = r) : S.block id K .ret σ = r := by rw [S.block_eq]; exact h
theorem Seals.block_x {id id' : Nat} (h : (match vaj id' id with | true => K .normal σ | false => K (.exit id') σ) = r) : S.block id K (.exit id') σ = r := by rw [S.block_eq]; exact h
theorem Seals.reg_n {env : Env} {objs : Objs} {nx n : Nat} (h : K .normal ⟨env,objs,nx,n⟩ = r) : S.reg n K env objs nx = r := by rw [S.reg_eq]; exact h
theorem Seals.seq_nil {ops : List Oper} {n : Nat} {env : Env} {objs : Objs} {nx : Nat} {K : EK} (h : K env objs nx = r) : S.seq tt Γ ops n [] env objs nx K = r := by rw [S.seq_eq]; exact h
theorem Seals.seq_op {ops : List Oper} {n : Nat} {o : Oper} {l : List Oper} {env : Env} {objs : Objs} {nx : Nat} {K : EK} (hok : okDst n o.dst = true) (h : evGuard tt Γ ops env objs nx (vaA nx) o (S.op tt Γ ops n o.dst l env objs K) = r) : S.seq tt Γ ops n (o :: l) env objs nx K = r := by
 rw [S.op_eq] at h
 rw [S.seq_eq]
 unfold seqF
 rw [hok]
 exact h
theorem Seals.op_n {ops : List Oper} {n : Nat} {dst : Option Tmp} {l : List Oper} {env : Env} {objs : Objs} {nx : Nat} {K : EK} {v : V} {ch : Objs} (h : (forceK fun v ch nx => putK env dst v fun env => appF ch objs fun objs => S.seq tt Γ ops n l env objs nx K) v ch nx = r) : S.op tt Γ ops n dst l env objs K v ch nx = r := by rw [S.seq_eq] at h; rw [S.op_eq]; exact h
section
variable {live : Live} {base n : Nat} {c : Code}
theorem Seals.lp_zero : S.lp tt Γ live base 0 c σ K = none := by rw [S.lp_eq]; rfl
theorem Seals.lp_succ (h : S.blk tt Γ (S.hd tt Γ live base n) c σ (S.back tt Γ live base n c K) = r) : S.lp tt Γ live base (n + 1) c σ K = r := by
 rw [S.blk_eq,S.hd_eq,S.back_eq] at h
 rw [S.lp_eq]
 exact qqC fun B hB => by rw [hB]; exact h
theorem Seals.back_n (h : (seenF (live (firstReg c)).ch σ fun σ => normF base (live (firstReg c)).h σ fun σ => S.lp tt Γ live base n c σ K) = r) : S.back tt Γ live base n c K .normal σ = r := by
 rw [S.lp_eq] at h; rw [S.back_eq]; exact h
theorem Seals.back_x {id : Nat} (h : (seenF (live (firstReg c)).co σ fun σ => normF base (live (firstReg c)).o σ fun σ => K (.exit id) σ) = r) : S.back tt Γ live base n c K (.exit id) σ = r := by rw [S.back_eq]; exact h
theorem Seals.back_r (h : (seenF (live (firstReg c)).co σ fun σ => normF base (live (firstReg c)).r σ fun σ => K .ret σ) = r) : S.back tt Γ live base n c K .ret σ = r := by rw [S.back_eq]; exact h
end
theorem Seals.fin_r {live : Live} {base : Nat} {rs : List ResultVar} (h : (seenF (live endKey).ch σ fun σ => finF tt base rs .ret σ) = r) : S.fin tt live base rs .ret σ = r := by rw [S.fin_eq]; exact h
theorem Seals.fin_n {live : Live} {base : Nat} {rs : List ResultVar} (h : (seenF (live endKey).ch σ fun σ => finF tt base rs .ret σ) = r) : S.fin tt live base rs .normal σ = r := by rw [S.fin_eq]; exact h
theorem Seals.run_s {live : Live} {fn : Func} {n : Nat} {args : List V} {objs : List AObj} {c : Code} (hle : vaF args.length fn.ntmps = true) (hb : fn.body = some c)
  (h : S.blk tt Γ (S.hd tt Γ live objs.length n) c ⟨argSlots 0 args,(vaA objs.length).zip objs,objs.length,fn.ntmps⟩ (S.fin tt live objs.length fn.results.toList) = r) : runF tt Γ live fn n args objs = r := by
 rw [S.blk_eq,S.hd_eq,S.fin_eq] at h
 unfold runF
 rw [hle,hb]
 exact h
end
def Cnv (v v' : V) : Prop := ∀ c : Ctx,(∀ b,c.SB b -> c.SA b) -> ∀ u,Rel c v u -> Rel c v' u
def CnvL (v v' : List V) : Prop := ∀ c : Ctx,(∀ b,c.SB b -> c.SA b) -> ∀ u,RelL c v u -> RelL c v' u
theorem qko : CnvL [] [] := fun _ _ _ h => h
theorem qdN {v v' : V} {vs vs' : List V} (h1 : Cnv v v') (h2 : CnvL vs vs') : CnvL (v :: vs) (v' :: vs') := fun c hs us ⟨u,us',e,h3,h4⟩ => ⟨u,us',e,h1 c hs u h3,h2 c hs us' h4⟩
theorem qgD {v : V} : Cnv v v := fun _ _ _ h => h
theorem qqm {vs vs' : List V} (h : CnvL vs vs') : Cnv (.agg vs) (.agg vs') := fun c hs _ ⟨us,e,hl⟩ => ⟨us,e,h c hs us hl⟩
theorem qql {t : Ty} {l : List t.den} : Cnv (.dat t l false) (.dat t l true) := fun c hs u ⟨a,n,k,e,hr⟩ => by
 have hk : Kept c.w c.w c.SA c.SB := ⟨vaf _,fun b hb _ => ⟨rfl,fun h => hb (hs b h)⟩⟩
 exact ⟨a,n,k,e,hr.mono hk (fun _ _ h => h)⟩
def listB (t : Ty) (bor : Bool) (v : V) (K : List t.den -> Option R) : Option R :=
 match v with
 | .nilsl => K []
 | .dat e l b => if h : e = t then (match b,bor with | true,false => none | _,_ => K (castL h l)) else none
 | _ => none
theorem qgI {t : Ty} {bor : Bool} {v : V} {K : List t.den -> Option R} {r : R} (h : listB t bor v K = some r) : ∃ l,K l = some r /\ Cnv v (.dat t l bor) := by
 unfold listB at h
 split at h
 ·exact ⟨[],h,fun c _ u hr => by cases hr; exact ⟨none,0,0,rfl,rfl,vaf _,[],rfl,.inl rfl⟩⟩
 ·rename_i e l b
  split at h
  ·rename_i he
   subst he
   cases b <;> cases bor
   ·exact ⟨l,h,qgD⟩
   ·exact ⟨l,h,qql⟩
   ·cases h
   ·exact ⟨l,h,qgD⟩
  ·cases h
 ·cases h
def rowK (t : Ty) (fz : Bool) (o : AObj) (K : List t.den -> Option R) : Option R :=
 match o with
 | .row e l f => if h : e = t then (match f,fz with | true,true => K (castL h l) | false,false => K (castL h l) | _,_ => none) else none
 | _ => none
theorem qf3 {t : Ty} {fz : Bool} {o : AObj} {K : List t.den -> Option R} {r : R} (h : rowK t fz o K = some r) : ∃ l,K l = some r /\ o = .row t l fz := by
 unfold rowK at h
 split at h
 ·rename_i e l f
  split at h
  ·rename_i he
   subst he
   cases f <;> cases fz
   ·exact ⟨l,h,rfl⟩
   ·cases h
   ·cases h
   ·exact ⟨l,h,rfl⟩
  ·cases h
 ·cases h
def datK (t : Ty) (bor : Bool) (v : V) (K : List t.den -> Option R) : Option R :=
 match v with
 | .dat e l b => if h : e = t then (match b,bor with | true,true => K (castL h l) | false,false => K (castL h l) | _,_ => none) else none
 | _ => none
theorem qoE {t : Ty} {bor : Bool} {v : V} {K : List t.den -> Option R} {r : R} (h : datK t bor v K = some r) : ∃ l,K l = some r /\ v = .dat t l bor := by
 unfold datK at h
 split at h
 ·rename_i e l f
  split at h
  ·rename_i he
   subst he
   cases f <;> cases bor
   ·exact ⟨l,h,rfl⟩
   ·cases h
   ·cases h
   ·exact ⟨l,h,rfl⟩
  ·cases h
 ·cases h
theorem FnOK.args2 {P : Program} {f : FuncId} {args args' : List V} {objs : List AObj} {res : V} {objs' : List AObj} (h : CnvL args args') (hf : FnOK P f args' objs res objs') : FnOK P f args objs res objs' := fun c vs h1 h2 h3 => hf c vs h1 h2 (h c h2.sub vs h3)
section
variable {g : τ -> Option R}
theorem qdC {X Y r : Option R} (h : X = r) : br true X Y = r := by unfold br; exact h
theorem qdD {X Y r : Option R} (h : Y = r) : br false X Y = r := by unfold br; exact h
theorem qdB {p : Prop} [i1 : Decidable p] [i2 : Decidable p] {X Y : Option R} {A B : Option τ} (h1 : (!@decide p i1) = true -> X = bindO B g) (h2 : (!@decide p i1) = false -> Y = bindO A g) : br (!@decide p i1) X Y = bindO (@ite _ p i2 A B) g := by
 unfold br
 by_cases hp : p
 ·rw [if_neg (by simpa using hp),if_pos hp]; exact h2 (by simpa using hp)
 ·rw [if_pos (by simpa using hp),if_neg hp]; exact h1 (by simpa using hp)
theorem br_n {c : Bool} {X Y : Option R} {A B : Option τ} (h1 : (!c) = true -> X = bindO B g) (h2 : (!c) = false -> Y = bindO A g) : br (!c) X Y = bindO (if c = true then A else B) g := by
 unfold br
 cases c with
 | true => simpa using h2 rfl
 | false => simpa using h1 rfl
end
end
end Go.Vm

namespace Go.Vm
open Go
def Ty.bytes : Ty -> Nat
 | .int k => k.bits / 8
 | .bool => 1
 | .str => 16
 | .sl _ => 24
 | .unit => 0
 | .pair a b => a.bytes + b.bytes
def Fit : (t : Ty) -> t.den -> Prop
 | .int k,n => (Lit.int k n).wf = true
 | .bool,_ => True
 | .str,s => s.size <= 140737488351232
 | .sl e,l => l.length * e.bytes <= 140737488351232 /\ ∀ x ∈ l,Fit e x
 | .unit,_ => True
 | .pair a b,x => Fit a x.1 /\ Fit b x.2
mutual
def tyB (P : Program) : Nat -> Ty -> TypeId -> Bool
 | 0,_,_ => false
 | n + 1,ty,t => match P.underlying t with
  | some (.int k) => match ty with | .int k' => k == k' | _ => false
  | some .bool => match ty with | .bool => true | _ => false
  | some .string => match ty with | .str => true | _ => false
  | some (.slice et) => match ty with | .sl e => tyB P n e et && vaj (P.cellsOf et) e.size && vaF e.bytes (P.bytesOf et) && vaR 0 e.size | _ => false
  | some (.struct fs) => fldB P n ty fs.toList 0 && vaj (P.cellsOf t) ty.size
  | _ => false
def fldB (P : Program) : Nat -> Ty -> List Field -> Nat -> Bool
 | 0,_,_,_ => false
 | n + 1,ty,fs,off => match fs with
  | [] => false
  | [f] => tyB P n ty f.type && vaj f.offset off && vaj (P.cellsOf f.type) ty.size
  | f :: r => match ty with
   | .pair a b => tyB P n a f.type && vaj f.offset off && vaj (P.cellsOf f.type) a.size && fldB P n b r (off + a.size)
   | _ => false
end
section
variable {H : Type} {enc : TypeId × Value -> H} {P : Program} {w : World}
abbrev S0 : Nat -> Prop := fun _=>False
theorem qfk {e : TypeId} : ∀ {l : List (DataW H)} {d : DataW H} {m : Nat},d ∈ l -> m ∈ d.weights P e -> m ∈ DataW.weightsAll P e l
 | [],_,_,h,_ => by cases h
 | x :: r,d,m,h,hm => by
  unfold DataW.weightsAll
  rcases vap.1 h with rfl | h
  ·exact vax _ hm
  ·exact vam _ (qfk h hm)
theorem qnZ {e : Ty} (hpos : 0 < e.size) {a : Addr} {cs : Nat} (hcs : cs = e.size) : ∀ (n : Nat),(∀ i,i < n -> ∃ c d,w.cells? 0 (a.add (i * cs)) cs = some c /\ Cells w S0 e d c /\ Fit e d) ->
  ∃ (xs : List e.den) (cells : List Value),xs.length = n /\ CellsL (Cells w S0 e) xs cells /\ cells.length = n * cs /\ (∀ (j : Nat) u,cells[j]? = some u -> w.cell? (a.add j) = some u) /\ ∀ x ∈ xs,Fit e x
 | 0,_ => ⟨[],[],rfl,rfl,by simp,fun j u h => by simp at h,fun x hx => by cases hx⟩
 | n + 1,h => by
  obtain ⟨xs,cells,h1,h2,h3,h4,h5⟩ := qnZ hpos hcs n fun i hi => h i (by omega)
  obtain ⟨c,d,hc,hd,hf⟩ := h n (by omega)
  obtain ⟨_,hlen,hcell⟩ := World.cells?_some hc
  refine ⟨xs ++ [d],cells ++ c,by simp [h1],CellsL.append _ _ _ _ h2 ⟨c,[],by simp,hd,rfl⟩,by rw [List.length_append,h3,hlen,Nat.succ_mul],fun j u hu => ?_,fun x hx => ?_⟩
  ·by_cases hj : j < cells.length
   ·rw [vba hj] at hu; exact h4 j u hu
   ·rw [List.getElem?_append_right (by omega)] at hu
    have hjc : j - cells.length < c.length := (vag.1 hu).1
    have := hcell (j - cells.length) (by omega)
    rw [hu] at this
    rw [<- this,Addr.add_add]
    congr 2
    omega
  ·rcases vau.1 hx with hx | hx
   ·exact h5 x hx
   ·simp at hx; subst hx; exact hf
mutual
theorem qe9 : ∀ (n : Nat) (ty : Ty) (t : TypeId),tyB P n ty t = true -> ∀ {held : Bool} {fuel : Nat} {cs : List Value} {x : DataW H × List MemPlace},DataW.trod enc P w 0 (fun _=>true) held fuel t cs = some x -> (∀ m ∈ x.1.weights P t,m <= reachBytes) ->
  ∃ d : ty.den,Cells w S0 ty d cs /\ Fit ty d
 | 0,_,_,h,_,_,_,_,_,_ => by simp [tyB] at h
 | n + 1,ty,t,h,held,fuel,cs,x,hx,hw => by
  unfold tyB at h
  split at h
  ·rename_i k hu
   split at h
   ·rename_i k'
    have : k = k' := by simpa using h
    subst this
    obtain ⟨m,rfl,_,hwf⟩ := DataW.trod_int hu hx
    exact ⟨m,rfl,hwf⟩
   ·cases h
  ·rename_i hu
   split at h
   ·obtain ⟨b,rfl,_⟩ := DataW.trod_bool hu hx
    exact ⟨b,rfl,trivial⟩
   ·cases h
  ·rename_i hu
   split at h
   ·obtain ⟨s,rfl,rfl,_⟩ := DataW.trod_string hu hx
    refine ⟨s,rfl,?_⟩
    have := hw s.data.toList.length (by simp [DataW.weights])
    show s.size <= 140737488351232
    simpa [reachBytes] using this
   ·cases h
  ·rename_i et hu
   split at h
   ·rename_i e
    simp only [vab] at h
    obtain ⟨⟨⟨h1,h2⟩,h3⟩,h4⟩ := h
    have h2 := vaa h2
    have h3 := vah h3
    have h4 : 0 < e.size := vah h4
    rcases DataW.trod_slice hu hx with ⟨rfl,_⟩ | ⟨a,len,cap,elems,rest,m,_,rfl,rfl,hb,hl,hm,hlen,hel,hsp,hns⟩
    ·exact ⟨([] : List e.den),⟨none,0,0,rfl,rfl,vaf _,[],rfl,.inl rfl⟩,by simp,fun x hx => by cases hx⟩
    ·have hrows := qnZ (w := w) (e := e) h4 (a := a) h2 len fun i hi => by
      have hi' := hel i hi
      have hie : i < elems.length := by omega
      rw [vay hie,Option.bind_eq_some_iff] at hi'
      obtain ⟨c,hc,hd⟩ := hi'
      obtain ⟨d,hcd,hf⟩ := qe9 n e et h1 hd fun m hm => by
       refine hw m ?_
       simp only [DataW.weights,hu]
       refine vaG _ (vax _ ?_)
       exact qfk (va1 (List.getElem_mem hie)) hm
      exact ⟨c,d,hc,hcd,hf⟩
     obtain ⟨xs,cells,r1,r2,r3,r4,r5⟩ := hrows
     refine ⟨xs,⟨some a,len,cap,rfl,r1.symm,hl,cells,r2,?_⟩,?_,r5⟩
     ·by_cases hz : xs = []
      ·exact .inl hz
      ·right
       have hpos : 0 < cells.length := by
        rw [r3,<- r1]
        have : 0 < xs.length := List.length_pos_iff.2 hz
        exact Nat.mul_pos this (by omega)
       have h0 := r4 0 _ (vay hpos)
       obtain ⟨b,off,spot⟩ := a
       have hspot : spot = none := by simpa [Addr.add] using World.cell?_spot h0
       subst hspot
       refine ⟨b,off,rfl,fun h => h,?_,fun j u hu' => ?_⟩
       ·have : w.cell? ⟨b,off,none⟩ = some cells[0] := by simpa [Addr.add] using h0
        by_cases hlt : b < w.heap.size
        ·exact hlt
        ·have h7 : w.heap[b]? = none := vbd (by omega)
         simp [World.cell?,h7] at this
       ·have := r4 j u hu'
        rw [Go.WideShapes.add_plain] at this
        exact this
     ·have := hw ((elems.length + rest.length) * P.bytesOf et) (by simp [DataW.weights,hu])
      have h5 : xs.length * e.bytes <= (elems.length + rest.length) * P.bytesOf et := by
       rw [r1,hlen]
       exact Nat.mul_le_mul (by omega) h3
      simp only [reachBytes] at this
      omega
   ·cases h
  ·rename_i fs hu
   simp only [vab] at h
   obtain ⟨h1,h2⟩ := h
   have h2 := vaa h2
   obtain ⟨xs,m,_,rfl,hlen,hxl,hf⟩ := DataW.trod_struct hu hx
   obtain ⟨d,h3,h4⟩ := qkT n ty fs.toList 0 h1 (cs := cs) (xs := xs) (fuel := m) (held := held) (by simpa using hxl) (fun i f hi => hf i f (by simpa using hi)) (fun m hm => hw m (by simp only [DataW.weights,hu]; exact hm)) (by omega)
   exact ⟨d,h3,h4⟩
  ·cases h
theorem qkT : ∀ (n : Nat) (ty : Ty) (fs : List Field) (off : Nat),fldB P n ty fs off = true -> ∀ {held : Bool} {fuel : Nat} {cs : List Value} {xs : List (DataW H × List MemPlace)},xs.length = fs.length ->
  (∀ (i : Nat) (f : Field),fs[i]? = some f -> DataW.trod enc P w 0 (fun _=>true) held fuel f.type ((cs.drop f.offset).take (P.cellsOf f.type)) = xs[i]?) ->
  (∀ m ∈ DataW.weightsEach P (fs.map (·.type)) (xs.map (·.1)),m <= reachBytes) -> cs.length = off + ty.size -> ∃ d : ty.den,Cells w S0 ty d (cs.drop off) /\ Fit ty d
 | 0,_,_,_,h,_,_,_,_,_,_,_,_ => by simp [fldB] at h
 | n + 1,ty,fs,off,h,held,fuel,cs,xs,hl,hf,hw,hlen => by
  unfold fldB at h
  split at h
  ·cases h
  ·rename_i f
   simp only [vab] at h
   obtain ⟨⟨h1,h2⟩,h3⟩ := h
   have h2 := vaa h2
   have h3 := vaa h3
   obtain ⟨y,rfl⟩ : ∃ y,xs = [y] := List.length_eq_one_iff.1 (by simpa using hl)
   have h0 := hf 0 f rfl
   obtain ⟨d,hd,hfit⟩ := qe9 n ty f.type h1 h0 fun m hm => hw m (by simp [DataW.weightsEach,hm])
   refine ⟨d,?_,hfit⟩
   rw [h2,List.take_of_length_le (by simp; omega)] at hd
   exact hd
  ·rename_i f r hr
   split at h
   ·rename_i a b
    simp only [vab] at h
    obtain ⟨⟨⟨h1,h2⟩,h3⟩,h4⟩ := h
    have h2 := vaa h2
    have h3 := vaa h3
    obtain ⟨y,ys,rfl⟩ : ∃ y ys,xs = y :: ys := by
     cases xs with
     | nil => simp at hl
     | cons y ys => exact ⟨y,ys,rfl⟩
    have h0 := hf 0 f rfl
    obtain ⟨d1,hd1,hfit1⟩ := qe9 n a f.type h1 h0 fun m hm => hw m (by simp [DataW.weightsEach,hm])
    have hsz : cs.length = off + (a.size + b.size) := hlen
    obtain ⟨d2,hd2,hfit2⟩ := qkT n b r (off + a.size) h4 (cs := cs) (xs := ys) (fuel := fuel) (held := held) (by simpa using hl) (fun i f' hi => hf (i + 1) f' (by simpa using hi)) (fun m hm => hw m (by simp only [vaH,DataW.weightsEach]; exact vam _ hm)) (by omega)
    refine ⟨(d1,d2),⟨_,_,?_,hd1,hd2⟩,hfit1,hfit2⟩
    rw [h2,h3,<- vaZ,vaV]
   ·cases h
end
theorem qmK {n : Nat} {ty : Ty} {t : TypeId} (h : tyB P n ty t = true) {v : Value} {d : DataW H} {ps : List MemPlace} {held : Bool} (hd : DataW.Trod enc P w 0 (fun _=>true) held t v d ps) {ts : List TypeId} {ds : List (DataW H)} (hsz : (DataW.weightsEach P ts ds).all (· <= reachBytes) = true) {j : Nat} (ht : ts[j]? = some t) (hj : ds[j]? = some d) :
  ∃ x : ty.den,Cells w S0 ty x v.cells.toList /\ Fit ty x := by
 obtain ⟨fuel,hf⟩ := hd
 refine qe9 n ty t h hf fun m hm => ?_
 have hmem : ∀ (ts : List TypeId) (ds : List (DataW H)) (j : Nat),ts[j]? = some t -> ds[j]? = some d -> m ∈ DataW.weightsEach P ts ds := by
  intro ts
  induction ts with
  | nil => intro ds j h; simp at h
  | cons t0 ts ih =>
   intro ds j h1 h2
   cases ds with
   | nil => simp at h2
   | cons d0 ds =>
    unfold DataW.weightsEach
    cases j with
    | zero => simp at h1 h2; subst h1; subst h2; exact vax _ hm
    | succ j => exact vam _ (ih ds j (by simpa using h1) (by simpa using h2))
 have := vat.1 hsz m (hmem ts ds j ht hj)
 simpa using this
def ctx0 (w : World) : Ctx := { w := w,nx := 0,hdr := fun _=>.bool true,blk := fun _=>none,SB := S0,SA := S0 }
theorem qqN (w : World) (hw : BaseOK w) : SOK (ctx0 w) (objsOf []) :=
 ⟨⟨w,hw,fun _ _ => ⟨fun h => h,rfl⟩⟩,fun o => by rw [qa2]; simp [ObjOK],fun _ _ _ h _ _ _ => by rw [qa2] at h; simp [AObj.mut] at h,fun _ h => h,fun _ h => h.elim,fun _ _ => rfl⟩
theorem qpL {e : Ty} {l : List e.den} {v : Value} (hv : Cells w S0 (.sl e) l [v]) : Rel (ctx0 w) (.dat e l false) v := by
 obtain ⟨a,n,c,h,hr⟩ := hv
 exact ⟨a,n,c,by simpa using h,hr⟩
theorem qpf {f : FuncId} {args : List V} {vs : List Value} (hw : BaseOK w) (h : FnOK P f args [] (.b true) []) (hr : RelL (ctx0 w) args vs) :
  Calls P f vs.toArray w fun e w' => e = .returned (.bool true) /\ Go.RowKit.Below w.heap.size w w' := by
 refine (h (ctx0 w) vs rfl (qqN w hw) hr).mono fun e w' => ?_
 rintro ⟨u,c',rfl,rfl,hp⟩
 have hu : u = .bool true := hp.rel
 subst hu
 have hst := hp.step
 exact ⟨rfl,hst.os,hst.tape,hst.output,hst.size,fun k hk => hst.heap k hk fun ⟨j,x,h1,_,_⟩ => by simp at h1⟩
end
end Go.Vm

namespace Go.Vm
open Go
noncomputable section
structure DL (α : Type) where
 all : (α -> Prop) -> Prop
 enc : α -> List V
 dec : List V -> (α -> Option R) -> Option R
 allp : ∀ {p},all p -> ∀ a,p a
 ok : ∀ {vs K r},dec vs K = some r -> ∃ a,K a = some r /\ CnvL vs (enc a)
structure CL (α : Type) where
 all : (α -> Prop) -> Prop
 enc : α -> List V
 dec : List V -> (α -> Option R) -> Option R
 allp : ∀ {p},all p -> ∀ a,p a
 ok : ∀ {vs K r},dec vs K = some r -> ∃ a,K a = some r /\ vs = enc a
structure OL (α : Type) where
 all : (α -> Prop) -> Prop
 enc : α -> List AObj
 dec : List AObj -> (α -> Option R) -> Option R
 allp : ∀ {p},all p -> ∀ a,p a
 ok : ∀ {vs K r},dec vs K = some r -> ∃ a,K a = some r /\ vs = enc a
def cN : CL Unit where
 all p := p ()
 enc _ := []
 dec vs K := match vs with | [] => K () | _ => none
 allp h := fun _=>h
 ok {vs K r} h := by
  cases vs with
  | nil => exact ⟨(),h,rfl⟩
  | cons => cases h
def cD (e : Ty) (b : Bool) {α : Type} (t : CL α) : CL (List e.den × α) where
  all p := ∀ x,t.all fun a => p (x,a)
  enc a := .dat e a.1 b :: t.enc a.2
  dec vs K := match vs with | v :: r => datK e b v fun x => t.dec r fun a => K (x,a) | _ => none
  allp h := fun a => t.allp (h a.1) a.2
  ok {vs K r} h := by
    cases vs with
    | nil => cases h
    | cons v vs =>
      obtain ⟨x,h2,rfl⟩ := qoE h
      obtain ⟨a,h3,rfl⟩ := t.ok h2
      exact ⟨_,h3,rfl⟩
def cI (k : IntKind) {α : Type} (t : CL α) : CL (Int × α) where
  all p := ∀ x,t.all fun a => p (x,a)
  enc a := .i k a.1 :: t.enc a.2
  dec vs K := match vs with | .i k' x :: r => (match decEq k' k with | .isTrue _ => t.dec r fun a => K (x,a) | .isFalse _ => none) | _ => none
  allp h := fun a => t.allp (h a.1) a.2
  ok {vs K r} h := by
    split at h
    · split at h
      · rename_i hk _
        subst hk
        obtain ⟨a,h3,rfl⟩ := t.ok h
        exact ⟨_,h3,rfl⟩
      · cases h
    · cases h
def cB {α : Type} (t : CL α) : CL (Bool × α) where
  all p := ∀ x,t.all fun a => p (x,a)
  enc a := .b a.1 :: t.enc a.2
  dec vs K := match vs with | .b x :: r => t.dec r fun a => K (x,a) | _ => none
  allp h := fun a => t.allp (h a.1) a.2
  ok {vs K r} h := by
    split at h
    · obtain ⟨a,h3,rfl⟩ := t.ok h
      exact ⟨_,h3,rfl⟩
    · cases h
def cS {α : Type} (t : CL α) : CL (ByteArray × α) where
  all p := ∀ x,t.all fun a => p (x,a)
  enc a := .s a.1 :: t.enc a.2
  dec vs K := match vs with | .s x :: r => t.dec r fun a => K (x,a) | _ => none
  allp h := fun a => t.allp (h a.1) a.2
  ok {vs K r} h := by
    split at h
    · obtain ⟨a,h3,rfl⟩ := t.ok h
      exact ⟨_,h3,rfl⟩
    · cases h
def cO (n : Nat) {α : Type} (t : CL α) : CL α where
  all := t.all
  enc a := .own n :: t.enc a
  dec vs K := match vs with | .own m :: r => (match vaj m n with | true => t.dec r K | false => none) | _ => none
  allp := t.allp
  ok {vs K r} h := by
    split at h
    · split at h
      · rename_i hb
        obtain ⟨a,h3,rfl⟩ := t.ok h
        rw [vaa hb]
        exact ⟨_,h3,rfl⟩
      · cases h
    · cases h
def cP (n o : Nat) {α : Type} (t : CL α) : CL α where
  all := t.all
  enc a := .ptr n o :: t.enc a
  dec vs K := match vs with | .ptr m q :: r => (match vaj m n && vaj q o with | true => t.dec r K | false => none) | _ => none
  allp := t.allp
  ok {vs K r} h := by
    split at h
    · split at h
      · rename_i hb
        simp only [vab] at hb
        obtain ⟨a,h3,rfl⟩ := t.ok h
        rw [vaa hb.1,vaa hb.2]
        exact ⟨_,h3,rfl⟩
      · cases h
    · cases h
def cZ {α : Type} (t : CL α) : CL α where
  all := t.all
  enc a := .nilsl :: t.enc a
  dec vs K := match vs with | .nilsl :: r => t.dec r K | _ => none
  allp := t.allp
  ok {vs K r} h := by
    split at h
    · obtain ⟨a,h3,rfl⟩ := t.ok h
      exact ⟨_,h3,rfl⟩
    · cases h
def dN : DL Unit where
 all p := p ()
 enc _ := []
 dec vs K := match vs with | [] => K () | _ => none
 allp h := fun _=>h
 ok {vs K r} h := by
  cases vs with
  | nil => exact ⟨(),h,qko⟩
  | cons => cases h
def dL (e : Ty) (b : Bool) {α : Type} (t : DL α) : DL (List e.den × α) where
  all p := ∀ x,t.all fun a => p (x,a)
  enc a := .dat e a.1 b :: t.enc a.2
  dec vs K := match vs with | v :: r => listB e b v fun x => t.dec r fun a => K (x,a) | _ => none
  allp h := fun a => t.allp (h a.1) a.2
  ok {vs K r} h := by
    cases vs with
    | nil => cases h
    | cons v vs =>
      obtain ⟨x,h,hx⟩ := qgI h
      obtain ⟨a,h,ha⟩ := t.ok h
      exact ⟨_,h,qdN hx ha⟩
def dI (k : IntKind) {β : Type} (t : DL β) : DL (Int × β) where
  all p := ∀ x,t.all fun a => p (x,a)
  enc a := .i k a.1 :: t.enc a.2
  dec vs K := match vs with | .i k' x :: r => (match decEq k' k with | .isTrue _ => t.dec r fun a => K (x,a) | .isFalse _ => none) | _ => none
  allp h := fun a => t.allp (h a.1) a.2
  ok {vs K r} h := by
    split at h
    · split at h
      · rename_i hk _
        subst hk
        obtain ⟨a,h,ha⟩ := t.ok h
        exact ⟨_,h,qdN qgD ha⟩
      · cases h
    · cases h
def dB {β : Type} (t : DL β) : DL (Bool × β) where
  all p := ∀ x,t.all fun a => p (x,a)
  enc a := .b a.1 :: t.enc a.2
  dec vs K := match vs with | .b x :: r => t.dec r fun a => K (x,a) | _ => none
  allp h := fun a => t.allp (h a.1) a.2
  ok {vs K r} h := by
    split at h
    · obtain ⟨a,h,ha⟩ := t.ok h
      exact ⟨_,h,qdN qgD ha⟩
    · cases h
def dS {β : Type} (t : DL β) : DL (ByteArray × β) where
  all p := ∀ x,t.all fun a => p (x,a)
  enc a := .s a.1 :: t.enc a.2
  dec vs K := match vs with | .s x :: r => t.dec r fun a => K (x,a) | _ => none
  allp h := fun a => t.allp (h a.1) a.2
  ok {vs K r} h := by
    split at h
    · obtain ⟨a,h,ha⟩ := t.ok h
      exact ⟨_,h,qdN qgD ha⟩
    · cases h
def dO (n : Nat) {β : Type} (t : DL β) : DL β where
  all := t.all
  enc a := .own n :: t.enc a
  dec vs K := match vs with | .own m :: r => (match vaj m n with | true => t.dec r K | false => none) | _ => none
  allp := t.allp
  ok {vs K r} h := by
    split at h
    · split at h
      · rename_i hb
        obtain ⟨a,h,ha⟩ := t.ok h
        rw [vaa hb]
        exact ⟨_,h,qdN qgD ha⟩
      · cases h
    · cases h
def dP (n o : Nat) {β : Type} (t : DL β) : DL β where
  all := t.all
  enc a := .ptr n o :: t.enc a
  dec vs K := match vs with | .ptr m q :: r => (match vaj m n && vaj q o with | true => t.dec r K | false => none) | _ => none
  allp := t.allp
  ok {vs K r} h := by
    split at h
    · split at h
      · rename_i hb
        simp only [vab] at hb
        obtain ⟨a,h,ha⟩ := t.ok h
        rw [vaa hb.1,vaa hb.2]
        exact ⟨_,h,qdN qgD ha⟩
      · cases h
    · cases h
def dZ {β : Type} (t : DL β) : DL β where
  all := t.all
  enc a := .nilsl :: t.enc a
  dec vs K := match vs with | .nilsl :: r => t.dec r K | _ => none
  allp := t.allp
  ok {vs K r} h := by
    split at h
    · obtain ⟨a,h,ha⟩ := t.ok h
      exact ⟨_,h,qdN qgD ha⟩
    · cases h
def dG {α β : Type} (i : DL α) (t : DL β) : DL (α × β) where
  all p := i.all fun a => t.all fun b => p (a,b)
  enc a := .agg (i.enc a.1) :: t.enc a.2
  dec vs K := match vs with | .agg v :: r => i.dec v fun a => t.dec r fun b => K (a,b) | _ => none
  allp h := fun a => t.allp (i.allp h a.1) a.2
  ok {vs K r} h := by
    split at h
    · obtain ⟨a,h,ha⟩ := i.ok h
      obtain ⟨b,h,hb⟩ := t.ok h
      exact ⟨(a,b),h,qdN (qqm ha) hb⟩
    · cases h
def dF (f : FuncId) {α β : Type} (i : CL α) (t : DL β) : DL (α × β) where
  all p := i.all fun a => t.all fun b => p (a,b)
  enc a := .fn f (i.enc a.1) :: t.enc a.2
  dec vs K := match vs with | .fn g v :: r => (match vaj g f with | true => i.dec v fun a => t.dec r fun b => K (a,b) | false => none) | _ => none
  allp h := fun a => t.allp (i.allp h a.1) a.2
  ok {vs K r} h := by
    split at h
    · split at h
      · rename_i hb
        obtain ⟨a,h2,rfl⟩ := i.ok h
        obtain ⟨b,h3,hb'⟩ := t.ok h2
        have hg := vaa hb
        subst hg
        exact ⟨(a,b),h3,qdN qgD hb'⟩
      · cases h
    · cases h
def oN : OL Unit where
 all p := p ()
 enc _ := []
 dec vs K := match vs with | [] => K () | _ => none
 allp h := fun _=>h
 ok {vs K r} h := by
  cases vs with
  | nil => exact ⟨(),h,rfl⟩
  | cons => cases h
def oR (e : Ty) (fz : Bool) {α : Type} (t : OL α) : OL (List e.den × α) where
  all p := ∀ x,t.all fun a => p (x,a)
  enc a := .row e a.1 fz :: t.enc a.2
  dec vs K := match vs with | v :: r => rowK e fz v fun x => t.dec r fun a => K (x,a) | _ => none
  allp h := fun a => t.allp (h a.1) a.2
  ok {vs K r} h := by
    cases vs with
    | nil => cases h
    | cons v vs =>
      obtain ⟨x,h2,rfl⟩ := qf3 h
      obtain ⟨a,h3,rfl⟩ := t.ok h2
      exact ⟨_,h3,rfl⟩
def oV (n : Nat) {α β : Type} (i : CL α) (t : OL β) : OL (α × β) where
  all p := i.all fun a => t.all fun b => p (a,b)
  enc a := .var n (i.enc a.1) :: t.enc a.2
  dec vs K := match vs with | .var m v :: r => (match vaj m n with | true => i.dec v fun a => t.dec r fun b => K (a,b) | false => none) | _ => none
  allp h := fun a => t.allp (i.allp h a.1) a.2
  ok {vs K r} h := by
    split at h
    · split at h
      · rename_i hb
        obtain ⟨a,h2,rfl⟩ := i.ok h
        obtain ⟨b,h3,rfl⟩ := t.ok h2
        rw [vaa hb]
        exact ⟨(a,b),h3,rfl⟩
      · cases h
    · cases h
def oD {α : Type} (t : OL α) : OL α where
  all := t.all
  enc a := .dead :: t.enc a
  dec vs K := match vs with | .dead :: r => t.dec r K | _ => none
  allp := t.allp
  ok {vs K r} h := by
    split at h
    · obtain ⟨a,h3,rfl⟩ := t.ok h
      exact ⟨_,h3,rfl⟩
    · cases h
structure SP where
 {α : Type}
 {ω : Type}
 ms : List Mode
 A : DL α
 O : OL ω
 B : α -> ω -> ((β : Type) -> Option β -> (β -> V) -> (β -> List AObj) -> Option R) -> Option R
 law : ∀ a o,∃ β F r os,∀ C,B a o C = C β F r os := by intros; exact ⟨_,_,_,_,fun _=>rfl⟩
def SP.fs (s : SP) : FSpec := ⟨s.ms,fun args objs K => s.A.dec args fun a => s.O.dec objs fun o => s.B a o fun _ F r os => bindO F fun x => K (r x) (os x)⟩
def SP.St (s : SP) (tt : Tab) (Γ : FEnv) (lv : Live) (fn : Func) (k : Nat) : Prop :=
 s.A.all fun a => s.O.all fun o => runF tt Γ lv fn k (s.A.enc a) (s.O.enc o) = s.B a o fun _ F r os => bindO F fun x => some (r x,os x)
theorem sn_ {P : Program} {tt : Tab} {Γ : FEnv} (hT : TabOK P tt) (hm : P.follows .mixedOrders = true) {s : SP} {f : FuncId} {fn : Func} {lv : Live} {k : Nat} (hf : P.funcs[f]? = some fn) (h1 : (fn.name == "runtime.NumGoroutine") = false) (h2 : fn.body.isNone = false)
  (hΓ : EnvOK P Γ) (h : s.St tt Γ lv fn k) : Sound P f s.fs := by
 refine ⟨⟨fn,hf,h1,h2⟩,fun args objs K r h0 => ?_⟩
 obtain ⟨a,h3,ha⟩ := s.A.ok h0
 obtain ⟨o,h4,rfl⟩ := s.O.ok h3
 have hr := s.O.allp (s.A.allp h a) o
 obtain ⟨_,F,rr,os,hl⟩ := s.law a o
 rw [hl] at h4 hr
 obtain ⟨x,hx,h5⟩ := qc4 h4
 exact ⟨_,_,h5,FnOK.args2 ha (qkS hT hΓ hm hf (hr.trans (qfi hx)))⟩
end
end Go.Vm

namespace Go.Pf
open Go
def strconv_FormatInt.f (n b : Int) : Option ByteArray := if b = 10 /\ -9223372036854775808 <= n /\ n <= 9223372036854775807 then some ⟨(Lib.itoa n).toArray⟩ else none
def strings_Join.f (xs : List ByteArray) (sep : ByteArray) : Option ByteArray :=
 if (Lib.join (xs.map (·.data.toList)) sep.data.toList).length <= 140737488355328 /\ xs.length <= 140737488355328 then some ⟨(Lib.join (xs.map (·.data.toList)) sep.data.toList).toArray⟩ else none
def u8s (bs : List Int) : List UInt8 := bs.map fun x => UInt8.ofNat x.toNat
def strings_Builder_String.f (bs : List Int) : Option ByteArray := if bs ≠ [] /\ ∀ x ∈ bs,0 <= x /\ x < 256 then some ⟨(u8s bs).toArray⟩ else none
def qcQ.f : Option Unit := some ()
def strconv_ParseInt.f (s : ByteArray) (b z : Int) : Option (Int × Bool) :=
 if b = 10 /\ z = 64 /\ s.size <= 281474976710656 then some (match Lib.parseIntB 64 s.data.toList with | .ok v => (v,false) | .«syntax» => (0,true) | .range => (Lib.intSat 64 s.data.toList,true)) else none
end Go.Pf

namespace Go.Vm
open Go Go.Shelf Go.RowKit Go.Proofs
variable {P : Program} {ρ : Go.Shelf.Ren}
theorem Low.var {c : Ctx} (h : Low c) : ∃ w0,BaseOK w0 /\ ∀ (P : Program) (name : String) (x : Array Value),w0.var? P name = some x -> c.w.var? P name = some x := by
 obtain ⟨w0,h0,hk⟩ := h
 refine ⟨w0,h0,fun P name x hx => ?_⟩
 unfold World.var? at hx ⊢
 cases hg : P.globalNamed name with
 | none => rw [hg] at hx; cases hx
 | some g =>
  rw [hg] at hx
  simp only [Option.bind_some] at hx ⊢
  have hlt : g < w0.heap.size := by
   rcases vaX g w0.heap.size with h | h
   ·exact h
   ·rw [vbd h] at hx; cases hx
  rw [(hk g hlt).2]; exact hx
theorem FnPost.still {c : Ctx} {objs : List AObj} (hs : SOK c (objsOf objs)) (hn : c.nx = objs.length) {w' : World} (hB : Below c.w.heap.size c.w w') {v : V} {u : Value} (hr : Rel { c with w := w' } v u) : FnPost c objs { c with w := w' } v u objs := by
 have hst : Step c { c with w := w' } (Dof c (objsOf objs) []) := ⟨hB.os,hB.tape,hB.output,hB.size,vaf _,fun _ _ => rfl,fun _ _ => rfl,fun b hb _ => hB.block b hb,fun _ _ _ => Iff.rfl,fun _ _ _ => Iff.rfl,fun b ⟨o,ho,_⟩ => (by cases ho)⟩
 have hst' : Step c { c with w := w' } (Lof c objs) := { hst with heap := fun b hb _ => hB.block b hb,sb := fun _ _ _ => Iff.rfl,sa := fun _ _ _ => Iff.rfl,dsub := fun b h => by obtain ⟨j,hm,hb⟩ := qdZ.1 h; exact hs.mutSB hm hb }
 have hok := hs.step (ch := []) hst (fun o h => by cases h) (fun o b h => by cases h) (fun o _ b h => by cases h) hs.sub (fun b h => vad (hs.bd b h) hB.size) hs.one
 exact ⟨hst',hok,hr,hn,fun b h => .inr h⟩
theorem qni {w : World} (k : Nat) (os : Array Obj) : Below w.heap.size w (Sort.grow (w.drewN k) os) := by
 refine ⟨rfl,rfl,rfl,?_,fun b hb => ?_⟩
 ·simp [Sort.grow]
 ·simp [Sort.grow,vbf,hb]
def spFmt : FSpec := ⟨[.rd,.rd],fun args objs K => match args,objs with | [.i .i64 n,.i .i64 b],[] => bindO (Go.Pf.strconv_FormatInt.f n b) fun x => K (.s x) [] | _,_ => none⟩
theorem sndFmt (L : LaysM.n173 P ρ) (hE : Enters P (ρ.f 173)) (hB : ∀ w,BaseOK w -> Lib.TabIs P w "internal/strconv.uint64pow10" .u64 Lib.pow10Tab) : Sound P (ρ.f 173) spFmt := by
 refine ⟨hE,fun args objs K r h => ?_⟩
 unfold spFmt at h; dsimp only at h; split at h
 ·rename_i n b
  obtain ⟨x,hx,h⟩ := qc4 h
  unfold Go.Pf.strconv_FormatInt.f at hx
  split at hx
  ·rename_i hc
   obtain ⟨rfl,h0,h1⟩ := hc
   cases hx
   refine ⟨_,_,h,fun c vs hn hs hr => ?_⟩
   obtain ⟨u1,us1,rfl,e1,u2,us2,rfl,e2,e3⟩ := hr
   cases e1; cases e2; cases e3
   obtain ⟨w0,hw0,hv⟩ := hs.low.var
   refine (Any.strconv_FormatInt_10 L n h0 h1 c.w (hv P _ _ (hB w0 hw0))).mono ?_
   rintro e w' ⟨rfl,k,os,rfl⟩
   exact ⟨_,_,rfl,rfl,FnPost.still hs hn (qni k os) rfl⟩
  ·cases hx
 ·cases h
def spJoin : FSpec := ⟨[.rd,.rd],fun args objs K => match args,objs with | [v,.s sep],[] => listB .str true v fun xs => bindO (Go.Pf.strings_Join.f xs sep) fun x => K (.s x) [] | _,_ => none⟩
theorem qkh {w : World} {S : Nat -> Prop} : ∀ {xs : List ByteArray} {cells : List Value},CellsL (Cells w S .str) xs cells -> ∀ (j : Nat) (x : ByteArray),xs[j]? = some x -> cells[j]? = some (.string x)
 | [],_,_,j,x,h => by simp at h
 | y :: r,_,⟨c1,c2,e,h1,h2⟩,j,x,h => by
  have h1 : c1 = [.string y] := h1
  subst e h1
  cases j with
  | zero => simpa using h
  | succ j => simpa using qkh h2 j x (by simpa using h)
theorem sndJoin (L : Lays.n156 P ρ) (X : Builder.Extra P ρ) (hE : Enters P (ρ.f 156)) : Sound P (ρ.f 156) spJoin := by
 refine ⟨hE,fun args objs K r h => ?_⟩
 unfold spJoin at h; dsimp only at h; split at h
 ·rename_i v sep
  obtain ⟨xs,h9,cxs⟩ := qgI h; clear h
  have h := h9; clear h9
  obtain ⟨x,hx,h⟩ := qc4 h
  unfold Go.Pf.strings_Join.f at hx
  split at hx
  ·rename_i hc
   obtain ⟨h0,h1⟩ := hc
   cases hx
   refine ⟨_,_,h,FnOK.args2 (qdN cxs (qdN qgD qko)) fun c vs hn hs hr => ?_⟩
   obtain ⟨u1,us1,rfl,⟨a,n,k,rfl,hlen,hcap,cells,hcl,hor⟩,u2,us2,rfl,e2,e3⟩ := hr
   cases e2; cases e3
   subst hlen
   have fin : ∀ (e : Ending) (w' : World),(e = .returned (.string ⟨(Lib.join (xs.map (·.data.toList)) sep.data.toList).toArray⟩) /\ Below c.w.heap.size c.w w') -> ∃ u c',e = .returned u /\ c'.w = w' /\ FnPost c [] c' (.s ⟨(Lib.join (xs.map (·.data.toList)) sep.data.toList).toArray⟩) u [] := by
    rintro e w' ⟨rfl,hb⟩
    exact ⟨_,_,rfl,rfl,FnPost.still hs hn hb rfl⟩
   rcases hor with hx | ⟨b,off,rfl,_,hlt,hat⟩
   ·subst hx
    refine (Any.strings_Join_none L X a k sep c.w).mono fun e w' ⟨he,hw⟩ => fin e w' ⟨he,hw ▸ Below.refl _ _⟩
   ·exact (Any.strings_Join L X b off k xs sep c.w (fun j x hj => hat j _ (qkh hcl j x hj)) hlt h1 hcap h0).mono fin
  ·cases hx
 ·cases h
end Go.Vm

namespace Go.Vm
open Go Go.Shelf Go.RowKit Go.Proofs Go.Pf
variable {P : Program} {ρ : Go.Shelf.Ren}
theorem FnPost.of_done {c c' : Ctx} {objs objs' : List AObj} {v : V} {u : Value} {ch : Objs} {nx' : Nat} (hs : SOK c (objsOf objs)) (hd : Done c (objsOf objs) c' v u ch nx') (hn : nx' = objs'.length) (hl : ∀ o,look .dead (objsOf objs') o = look .dead (ch ++ objsOf objs) o) :
  FnPost c objs c' v u objs' := by
 have hst := hd.step
 have hD : ∀ b,Dof c (objsOf objs) ch b -> Lof c objs b := fun b ⟨o,_,hm,hb⟩ => qdZ.2 ⟨o,hm,hb⟩
 refine ⟨⟨hst.os,hst.tape,hst.output,hst.size,hst.nx,hst.hdr,hst.blk,fun b hb h => hst.heap b hb fun k => h (hD b k),fun b hb h => hst.sb b hb fun k => h (hD b k),fun b hb h => hst.sa b hb fun k => h (hD b k),fun b h => by obtain ⟨j,hm,hb⟩ := qdZ.1 h; exact hs.mutSB hm hb⟩,
  SOK.congr hl hd.ok,hd.rel,hd.nx.trans hn,fun b h => ?_⟩
 obtain ⟨j,hm,hb⟩ := qdZ.1 h
 rw [hl] at hm
 by_cases hj : j ∈ ch.map (·.1)
 ·exact (hd.fresh j b hj hm hb).imp id (hD b)
 ·rw [qa7,if_neg hj] at hm
  rw [hst.blk j (hs.lt hm)] at hb
  exact .inr (qdZ.2 ⟨j,hm,hb⟩)
theorem qkF {x y : AObj} {r : List AObj} (o : Nat) : look .dead (objsOf (y :: r)) o = look .dead ([(0,y)] ++ objsOf (x :: r)) o := by
 rw [qa7,qa2,qa2]
 cases o with
 | zero => rw [if_pos (by simp),qaL,if_pos rfl]; rfl
 | succ o => rw [if_neg (by simp)]; rfl
def spCC (T : Nat) : FSpec := ⟨[.kp],fun args objs K => match args,objs with
 | [.ptr 0 0],.var t [c0,c1] :: r => match vaj t T,c0 with
  | true,.kon (.pointer none) => K (.tup []) (.var t [.optp 0,c1] :: r)
  | true,.optp 0 => K (.tup []) (.var t [.optp 0,c1] :: r)
  | _,_ => none
 | _,_ => none⟩
theorem sndCC (L : Lays.n240 P ρ) (X : Builder.X72 P ρ) (hE : Enters P (ρ.f 240)) : Sound P (ρ.f 240) (spCC (ρ.t 72)) := by
 refine ⟨hE,fun args objs K r h => ?_⟩
 have key : ∀ (c0 c1 : V) (t : Nat) (rest : List AObj),t = ρ.t 72 -> (c0 = .kon (.pointer none) \/ c0 = .optp 0) -> FnOK P (ρ.f 240) [.ptr 0 0] (.var t [c0,c1] :: rest) (.tup []) (.var t [.optp 0,c1] :: rest) := by
  intro c0 c1 t rest ht h0 c vs hn hs hr
  obtain ⟨u1,us1,rfl,⟨hlt,b,hb,rfl⟩,e3⟩ := hr
  cases e3
  have hob := hs.obj 0
  have hl0 : look .dead (objsOf (.var t [c0,c1] :: rest)) 0 = .var t [c0,c1] := by rw [qa2]; rfl
  rw [hl0] at hob
  obtain ⟨_,b',us,el,hb',hh,hrl,hsb,hall,rfl⟩ := hob
  cases hb.symm.trans hb'
  obtain ⟨x0,us1,rfl,k0,x1,us2,rfl,k1,k2⟩ := hrl
  cases k2
  have hm : (look .dead (objsOf (.var el [c0,c1] :: rest)) 0).mut = true := by rw [hl0]; rfl
  have hx : x0 = .pointer none \/ x0 = .pointer (some ⟨b,0,none⟩) := by
   rcases h0 with rfl | rfl
   ·exact .inl k0
   ·obtain ⟨_,h | ⟨b2,h1,h⟩⟩ := k0
    ·exact .inl h
    ·rw [hb] at h1; cases h1; exact .inr h
  have hall' : [V.optp 0,c1].all V.isC = true := by
   simp only [vaO,List.all_nil,Bool.and_true,vab] at hall ⊢
   exact ⟨rfl,hall.2⟩
  rcases hx with rfl | rfl
  ·refine (Any.Builder_copyCheck_fresh L X b c.w (by simp [World.cell?,hh]) (by simp [World.shape?,hh,ht]) (by simp [World.frozen?,hh])).mono ?_
   rintro e w' ⟨rfl,rfl⟩
   have hset : (c.w.setCell ⟨b,0,none⟩ (.pointer (some ⟨b,0,none⟩))).heap[b]? = some (.cells [.pointer (some ⟨b,0,none⟩),x1].toArray el (0,0)) := by
    simp [World.setCell,vaU,hh]
   have hoth : ∀ k,k ≠ b -> (c.w.setCell ⟨b,0,none⟩ (.pointer (some ⟨b,0,none⟩))).heap[k]? = c.w.heap[k]? := fun k hk => Below.heap_setCell _ _ _ _ hk
   have hst := qhu hs (w := c.w.setCell ⟨b,0,none⟩ (.pointer (some ⟨b,0,none⟩))) (.var el [.optp 0,c1]) hm hb rfl rfl rfl (by simp [World.setCell]) hoth
   have hd := Done.upd hs (w := c.w.setCell ⟨b,0,none⟩ (.pointer (some ⟨b,0,none⟩))) (v := .tup []) (u := .tuple #[]) hm hb rfl rfl rfl (by simp [World.setCell]) hoth
    (x := .var el [.optp 0,c1]) ⟨hlt,b,_,el,hb,hset,⟨_,_,rfl,⟨hlt,.inr ⟨b,hb,rfl⟩⟩,_,_,rfl,Rel.mono hst hs.sub _ _ k1,rfl⟩,hsb,hall',rfl⟩ ⟨[],rfl,rfl⟩
   exact ⟨_,_,rfl,rfl,FnPost.of_done hs hd hn (qkF (x := .var el [c0,c1]))⟩
  ·refine (Any.Builder_copyCheck_used L X b c.w (by simp [World.cell?,hh])).mono ?_
   rintro e w' ⟨rfl,rfl⟩
   have hd := Done.upd hs (w := c.w) (v := .tup []) (u := .tuple #[]) hm hb rfl rfl rfl rfl (fun _ _ => rfl)
    (x := .var el [.optp 0,c1]) ⟨hlt,b,_,el,hb,hh,⟨_,_,rfl,⟨hlt,.inr ⟨b,hb,rfl⟩⟩,_,_,rfl,k1,rfl⟩,hsb,hall',rfl⟩ ⟨[],rfl,rfl⟩
   exact ⟨_,_,rfl,rfl,FnPost.of_done hs hd hn (qkF (x := .var el [c0,c1]))⟩
 unfold spCC at h; dsimp only at h; split at h
 ·rename_i t c0 c1 rest
  split at h
  ·rename_i ht
   exact ⟨_,_,h,key _ c1 t rest (vaa ht) (.inl rfl)⟩
  ·rename_i ht
   exact ⟨_,_,h,key _ c1 t rest (vaa ht) (.inr rfl)⟩
  ·cases h
 ·cases h
def spStr (T : Nat) : FSpec := ⟨[.kp],fun args objs K => match args,objs with
 | [.ptr 0 0],[.var t [.optp 0,.own 1],y] => match vaj t T with
  | true => rowK (.int .u8) false y fun bs => bindO (Go.Pf.strings_Builder_String.f bs) fun x => K (.s x) [.var t [.optp 0,.own 1],.dead]
  | false => none
 | _,_ => none⟩
theorem ql2 {w : World} {S : Nat -> Prop} : ∀ {bs : List Int} {cells : List Value},CellsL (Cells w S (.int .u8)) bs cells -> cells = bs.map (Value.int .u8)
 | [],_,h => h
 | b :: r,_,⟨c1,c2,e,h1,h2⟩ => by
  have h1 : c1 = [.int .u8 b] := h1
  subst e h1
  rw [ql2 h2]; rfl
set_option maxHeartbeats 1000000 in
set_option maxRecDepth 100000 in
theorem qiL (L : Lays.n169 P ρ) (X : Builder.Extra P ρ) (b g cap : Nat) (p : Value) (cur : Array Value) (l : List UInt8) (w : World)
  (hbk : w.heap[b]? = some (.cells #[p,.slice (some ⟨g,0,none⟩) l.length cap] (ρ.t 72) (0,0))) (h0 : l ≠ []) (hnc : l.length <= cap) (hcm : cap <= maxLen) (hcs : cur.size = cap)
  (hg : w.heap[g]? = some (.cells cur (ρ.t 5) (0,0))) (hcell : ∀ (j : Nat) (x : UInt8),l[j]? = some x -> w.cell? ((⟨g,0,none⟩ : Addr).add j) = some (.int .u8 x.toNat)) :
  Calls P (ρ.f 169) #[.pointer (some ⟨b,0,none⟩)] w fun e w' => e = .returned (.string ⟨l.toArray⟩) /\ w' = w.drew.freeze ⟨g,0,none⟩ l.length := by
 have hl0 : l.length ≠ 0 := by simpa using h0
 have c1 : w.drew.cell? ⟨b,1,none⟩ = some (.slice (some ⟨g,0,none⟩) l.length cap) := by
  have : w.drew.heap[b]? = some (.cells #[p,.slice (some ⟨g,0,none⟩) l.length cap] (ρ.t 72) (0,0)) := hbk
  rw [Lib.cell_of_heap this]; rfl
 have hSD : (Builtin.unsafeSliceData_ #[(ρ.t 37)] (ρ.t 127) #[.slice (some ⟨g,0,none⟩) l.length cap]).run P w.drew = .ok (.pointer (some ⟨g,0,none⟩)) w.drew :=
  Lib.run_unsafeSliceData_row _ _ _ _ _ _ (by omega)
 have hUS : (Builtin.unsafeString_ #[(ρ.t 127),(ρ.t 3)] (ρ.t 9) #[.pointer (some ⟨g,0,none⟩),.int .i64 l.length]).run P w.drew = .ok (.string ⟨l.toArray⟩) (w.drew.freeze ⟨g,0,none⟩ l.length) := by
  refine Lib.run_unsafeString_row w.drew (ρ.t 127) (ρ.t 3) (ρ.t 9) (ρ.t 5) L.t127 X.cellsByte g cur.size (by have hg' : w.drew.heap[g]? = some (.cells cur (ρ.t 5) (0,0)) := hg; simp [World.shape?,hg']) l h0 (by omega) (by unfold maxLen at hcm; omega) ?_
  intro j x hx
  exact hcell j x hx
 have mixed := L.mixed
 have t72 := L.t72; have a72 := L.a72; have z72 := L.z72; have v72 := L.v72; have u72 := run_underlying L.t72
 have t70 := L.t70; have a70 := L.a70; have z70 := L.z70; have v70 := L.v70; have u70 := run_underlying L.t70
 have t37 := L.t37; have a37 := L.a37; have z37 := L.z37; have v37 := L.v37; have u37 := run_underlying L.t37
 have t127 := L.t127; have a127 := L.a127; have z127 := L.z127; have v127 := L.v127; have u127 := run_underlying L.t127
 have t3 := L.t3; have a3 := L.a3; have z3 := L.z3; have v3 := L.v3; have u3 := run_underlying L.t3
 have t9 := L.t9; have a9 := L.a9; have z9 := L.z9; have v9 := L.v9; have u9 := run_underlying L.t9
 have t5 := X.t5; have a5 := X.a5; have z5 := X.z5; have v5 := X.v5; have u5 := run_underlying X.t5
 go_enter L.f169,Body.n169_ntmps ρ
 go_wp2
 go_region_o
 all_goals (go_wp2; go_ret; exact ⟨rfl,rfl⟩)
theorem sndStr (L : Lays.n169 P ρ) (X : Builder.Extra P ρ) (hE : Enters P (ρ.f 169)) (h8 : u8T = ρ.t 5) : Sound P (ρ.f 169) (spStr (ρ.t 72)) := by
  refine ⟨hE,fun args objs K r h => ?_⟩
  unfold spStr at h; dsimp only at h; split at h
  · rename_i t y
    split at h
    · rename_i ht
      obtain ⟨bs,h9,rfl⟩ := qf3 h; clear h
      obtain ⟨x,hx,h⟩ := qc4 h9
      unfold Go.Pf.strings_Builder_String.f at hx
      split at hx
      · rename_i hc
        obtain ⟨hne,hrng⟩ := hc
        cases hx
        refine ⟨_,_,h,fun c vs hn hs hr => ?_⟩
        have ht : t = ρ.t 72 := vaa ht
        obtain ⟨u1,us1,rfl,⟨hlt,b,hb,rfl⟩,e3⟩ := hr
        cases e3
        have hl0 : look .dead (objsOf [.var t [.optp 0,.own 1],.row (.int .u8) bs false]) 0 = .var t [.optp 0,.own 1] := by rw [qa2]; rfl
        have hl1 : look .dead (objsOf [.var t [.optp 0,.own 1],.row (.int .u8) bs false]) 1 = .row (.int .u8) bs false := by rw [qa2]; rfl
        have hob := hs.obj 0
        rw [hl0] at hob
        obtain ⟨_,b',us,el,hb',hh,hrl,hsb,hall,rfl⟩ := hob
        cases hb.symm.trans hb'
        obtain ⟨x0,us1,rfl,k0,x1,us2,rfl,⟨k1,rfl⟩,k2⟩ := hrl
        cases k2
        obtain ⟨et,cells,hown,hcl,hobk,hfz,hat,hex,hty⟩ := hs.row_at hl1
        obtain ⟨g,hg⟩ := hex hne
        have het : et = ρ.t 5 := (hty rfl).trans h8
        have hcells := ql2 hcl
        rcases hown.2 with ⟨_,hz⟩ | ⟨g',cap,cur,hv,_,hgh,hle,hcm,hcs,htk⟩
        · exact absurd (vaD hz) hne
        · have hgg : g' = g := by rw [hv] at hobk; rw [hg] at hobk; simpa [Value.ownBlock] using hobk
          subst hgg
          have hmut : (look .dead (objsOf [.var el [.optp 0,.own 1],.row (.int .u8) bs false]) 1).mut = true := by rw [hl1]; rfl
          have hlen : (u8s bs).length = bs.length := vbx _
          have hcs' : cur.size = cap := by simpa [Ty.size] using hcs
          refine (qiL L X b g' cap x0 cur (u8s bs) c.w (by rw [hh,hlen,hv,← ht]) (by unfold u8s; simpa using hne) (by rw [hlen]; exact hle) hcm hcs' (by rw [hgh,het]) (fun j x hj => ?_)).mono ?_
          · unfold u8s at hj
            rw [vak] at hj
            cases hbj : bs[j]? with
            | none => rw [hbj] at hj; cases hj
            | some z =>
              rw [hbj] at hj
              have hxz : UInt8.ofNat z.toNat = x := by simpa using hj
              have hz := hrng z (vbm hbj)
              have h1 := (hat g' hg).1 j (.int .u8 z) (by rw [hcells,vak,hbj]; rfl)
              have h2 : ((x.toNat : Nat) : Int) = z := by
                rw [← hxz,UInt8.toNat_ofNat']; omega
              rw [h2]
              rw [Addr.add_lit]
              simpa [cellAt] using h1
          · rintro e w' ⟨rfl,rfl⟩
            have hoth : ∀ k,k ≠ g' → (c.w.drew.freeze ⟨g',0,none⟩ (u8s bs).length).heap[k]? = c.w.heap[k]? := fun k hk => by
              have hk' : ¬ g' = k := fun e => hk e.symm
              unfold World.freeze
              split
              · rfl
              · simp [vaU,hk']; rfl
            have hsz : (c.w.drew.freeze ⟨g',0,none⟩ (u8s bs).length).heap.size = c.w.heap.size := by
              unfold World.freeze; split <;> simp
            have hfr : ∀ (p : World → World → Prop),p c.w.drew c.w.drew → (∀ h',p { c.w.drew with heap := h' } c.w.drew) → p (c.w.drew.freeze ⟨g',0,none⟩ (u8s bs).length) c.w.drew := fun p h1 h2 => by
              unfold World.freeze; split
              · exact h1
              · exact h2 _
            have hd := Done.upd hs (w := c.w.drew.freeze ⟨g',0,none⟩ (u8s bs).length) (v := .s ⟨(u8s bs).toArray⟩) (u := .string ⟨(u8s bs).toArray⟩) (x := .dead) hmut hg
              (hfr (fun a b => a.os = b.os) rfl fun _=>rfl) (hfr (fun a b => a.tape = b.tape) rfl fun _=>rfl) (hfr (fun a b => a.output = b.output) rfl fun _=>rfl) hsz hoth trivial rfl
            refine ⟨_,_,rfl,rfl,FnPost.of_done hs hd hn fun o => ?_⟩
            rw [qa7,qa2,qa2]
            match o with
            | 0 => rw [if_neg (by simp)]; rfl
            | 1 => rw [if_pos (by simp),qaL,if_pos rfl]; rfl
            | o + 2 => rw [if_neg (by simp)]; rfl
      · cases hx
    · cases h
  · cases h
end Go.Vm

namespace Go.Vm
open Go Go.Shelf Go.RowKit Go.Proofs
variable {P : Program} {ρ : Go.Shelf.Ren}
def spPI : FSpec := ⟨[.rd,.rd,.rd],fun args objs K => match args,objs with | [.s s,.i .i64 b,.i .i64 z],[] => bindO (Go.Pf.strconv_ParseInt.f s b z) fun x => K (.tup [.i .i64 x.1,.err x.2]) [] | _,_ => none⟩
theorem sndPI (L : LaysC.n174 P ρ) (hE : Enters P (ρ.f 174)) (hB : ∀ w,BaseOK w -> (∃ tp p,w.var? P "strconv.ErrSyntax" = some #[.iface tp p]) /\ ∃ tp p,w.var? P "strconv.ErrRange" = some #[.iface tp p]) : Sound P (ρ.f 174) spPI := by
 refine ⟨hE,fun args objs K r h => ?_⟩
 unfold spPI at h; dsimp only at h; split at h
 ·rename_i s b z
  obtain ⟨x,hx,h⟩ := qc4 h
  unfold Go.Pf.strconv_ParseInt.f at hx
  split at hx
  ·rename_i hc
   obtain ⟨rfl,rfl,hz⟩ := hc
   cases hx
   refine ⟨_,_,h,fun c vs hn hs hr => ?_⟩
   obtain ⟨u1,us1,rfl,e1,u2,us2,rfl,e2,u3,us3,rfl,e3,e4⟩ := hr
   cases e1; cases e2; cases e3; cases e4
   obtain ⟨w0,hw0,hv⟩ := hs.low.var
   obtain ⟨⟨t1,p1,h1⟩,t2,p2,h2⟩ := hB w0 hw0
   cases hp : Lib.parseIntB 64 s.data.toList with
   | ok v =>
    refine (Any.strconv_ParseInt_10_at64_ok L s (by omega) v hp c.w).mono ?_
    rintro e w' ⟨rfl,hw⟩
    have hb : Below c.w.heap.size c.w w' := by
     rcases hw with rfl | ⟨t,rfl⟩
     ·exact Below.refl _ _
     ·exact Lib.bytesWorld_below _ _ _
    exact ⟨_,_,rfl,rfl,FnPost.still hs hn hb ⟨_,rfl,_,_,rfl,rfl,_,_,rfl,rfl,rfl⟩⟩
   | «syntax» =>
    refine (Any.strconv_ParseInt_10_at64_syntax_var L s hz hp t1 p1 c.w (hv P _ _ h1)).mono ?_
    rintro e w' ⟨N,rfl,_,_,hb⟩
    exact ⟨_,_,rfl,rfl,FnPost.still hs hn hb ⟨_,rfl,_,_,rfl,rfl,_,_,rfl,⟨_,_,rfl⟩,rfl⟩⟩
   | range =>
    refine (Any.strconv_ParseInt_10_at64_range_var L s hz hp t2 p2 c.w (hv P _ _ h2)).mono ?_
    rintro e w' ⟨N,rfl,_,_,hb⟩
    exact ⟨_,_,rfl,rfl,FnPost.still hs hn hb ⟨_,rfl,_,_,rfl,rfl,_,_,rfl,⟨_,_,rfl⟩,rfl⟩⟩
  ·cases hx
 ·cases h
end Go.Vm
