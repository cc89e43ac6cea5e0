/- Own texts put together: Vm1, Vm1b, Vm2 .. -/
import Derived.Calls
import Derived.Orders
import Derived.KernelRfl
import Derived.Laws.Entries
import Derived.Laws.Cover4
import Derived.Laws.BytesArg
import Derived.Laws.AppendOwn
import Derived.Laws.OwnMore
import Derived.Laws.MakeOwn
import Derived.Laws.CopyRow
import Derived.Deep.AppendSrc
import Derived.Below
import Derived.Maps.RangeRun
import Derived.IntWalk
import Derived.Laws.Tables
open Nat renaming eq_of_beq_eq_true→vaa, mul_le_mul_right→vab, lt_of_lt_of_le→vaf, le_refl→vag, beq→vah, min_eq_left→vaj, zero_add→vak, succ_mul→vap, le_of_ble_eq_true→vaq, lt_succ_self→vat, add_mul→vay, zero_le→vaC, ble→vaD, add_zero→vaG, min_le_left→vaM, blt→vaN, ne_of_lt→vaO, add_assoc→vaS, zero_mul→va4, le_trans→va5, le_succ→va7, min_eq_right→vbr
open List renaming length_take→vac, eq_nil_of_length_eq_zero→vad, length_append→vai, take_of_length_le→van, append_assoc→vao, length_drop→vas, getElem?_take→vau, replicate→vav, mem_append→vaw, length_cons→vaz, drop_eq_nil_of_le→vaA, getElem?_eq_none→vaB, size_toArray→vaE, getElem?_drop→vaH, append_nil→vaI, mem_cons→vaJ, map_cons→vaK, nil_append→vaL, take_left→vaP, range→vaQ, take_append_drop→vaT, mem_append_right→vaU, map_append→vaV, length_map→vaW, mem_cons_of_mem→vaX, mem_append_left→vaY, take_zero→vaZ, drop_drop→va0, mem_cons_self→va1, mem_map→va2, take_append→va6, getElem?_append_right→va8, take_take→vba, getElem?_eq_some_iff→vbb, getElem?_append_left→vbc, getElem?_eq_getElem→vbd, getElem_cons_succ→vbe, map_map→vbf, mem_of_mem_take→vbg, length_pos_iff→vbj, flatMap_cons→vbm, ext_getElem?→vbn, flatMap_map→vbo, all_eq_true→vbp
open Bool renaming and_eq_true→vae, not_eq_true'→vam
open Array renaming length_toList→vax, getElem?_eq_some_iff→vaF, range→vaR, toList_inj→va3, toList_zipIdx→vbi, foldl_toList→vbk, map_empty→vbq
open Int renaming natCast_mul→va9
open ByteArray renaming empty→vbh
open Option renaming map_some→vbl
set_option linter.unusedVariables false
set_option linter.unusedSimpArgs false
namespace Go.Vm
open Go
inductive Ty where
 | int (k : IntKind) | bool | str | sl (e : Ty) | unit | pair (a b : Ty)
 deriving DecidableEq,Inhabited
@[reducible] def Ty.den : Ty → Type
  | .int _ => Int
  | .bool => Bool
  | .str => ByteArray
  | .sl e => List e.den
  | .unit => Unit
  | .pair a b => a.den × b.den
def Ty.dflt : (t : Ty) -> t.den
 | .int _ => (0 : Int)
 | .bool => false
 | .str => vbh
 | .sl _ => []
 | .unit => ()
 | .pair a b => (a.dflt,b.dflt)
def Ty.flat : Ty -> Bool
 | .sl _ => false
 | .pair a b => match a.flat with | true => b.flat | false => false
 | _ => true
def Ty.size : Ty -> Nat
 | .unit => 0
 | .pair a b => a.size + b.size
 | _ => 1
inductive V where
 | undef
 | hid
 | i (k : IntKind) (n : Int)
 | b (x : Bool)
 | s (x : ByteArray)
 | nilsl
 | kon (v : Value)
 | dat (e : Ty) (xs : List e.den) (bor : Bool)
 | own (o : Nat)
 | ownn (o : Nat)
 | sub (o es lo hi : Nat)
 | ptr (o off : Nat)
 | pel (o ix es off : Nat)
 | optp (o : Nat)
 | err (x : Bool)
 | nd (nl : Bool) (e : Ty) (xs : List e.den)
 | tp (cs : List V)
 | agg (cs : List V)
 | tup (vs : List V)
 | fn (f : FuncId) (caps : List V)
 deriving Inhabited
inductive Ext where
 | iter (s : ByteArray) (pos : Nat)
 | map (ka : Bool) (k : Ty) (ea : Bool) (e : Ty) (xs : List (k.den × e.den))
inductive DTy where
 | dat (t : Ty) | row (e : Ty) | map (ka : Bool) (k : Ty) (ea : Bool) (e : Ty) | pair (a b : DTy)
 deriving DecidableEq,Inhabited
@[reducible] def DTy.den : DTy → Type
  | .dat t => t.den
  | .row e => List e.den
  | .map _ k _ e => List (k.den × e.den)
  | .pair a b => a.den × b.den
def DTy.dflt : (d : DTy) -> d.den
 | .dat t => t.dflt
 | .row _ => []
 | .map .. => []
 | .pair a b => (a.dflt,b.dflt)
def DTy.size : DTy -> Nat
 | .dat t => t.size
 | .pair a b => a.size + b.size
 | _ => 1
def DTy.noMap : DTy -> Bool
 | .map .. => false
 | .pair a b => match a.noMap with | true => b.noMap | false => false
 | _ => true
def DTy.er : DTy -> Ty
 | .dat t => t
 | .row e => .sl e
 | .map .. => .unit
 | .pair a b => .pair a.er b.er
theorem erEq : ∀ {d : DTy},d.noMap = true -> d.den = d.er.den
 | .dat t,_ => rfl
 | .row e,_ => rfl
 | .map ..,h => by cases h
 | .pair a b,h => by
  unfold DTy.noMap at h
  split at h
  ·rename_i ha
   exact congr (congrArg Prod (erEq ha)) (erEq h)
  ·cases h
theorem erSize : ∀ {d : DTy},d.noMap = true -> d.er.size = d.size
 | .dat t,_ => rfl
 | .row e,_ => rfl
 | .map ..,h => by cases h
 | .pair a b,h => by
  unfold DTy.noMap at h
  split at h
  ·rename_i ha
   exact congr (congrArg (· + ·) (erSize ha)) (erSize h)
  ·cases h
def erC {d : DTy} (h : d.noMap = true) (xs : List d.den) : List d.er.den := cast (congrArg List (erEq h)) xs
inductive Nst where
 | row (d : DTy) (xs : List d.den)
 | hole (d : DTy) (xs : List d.den) (ix : Nat) (cs : List V)
 | rng (it : Nat) (ka : Bool) (k : Ty) (ea : Bool) (e : Ty) (xs rest : List (k.den × e.den)) (cur : Option (k.den × e.den))
inductive AObj where
 | dead
 | row (e : Ty) (xs : List e.den) (fz : Bool)
 | var (t : Nat) (cs : List V)
 | ext (x : Ext)
 | hole (e : Ty) (xs : List e.den) (ix : Nat) (cs : List V)
 | nest (x : Nst)
 deriving Inhabited
def AObj.isNest : AObj -> Bool
 | .nest _ => true
 | _ => false
def AObj.mut : AObj -> Bool
 | .row _ _ fz => !fz
 | .var _ _ => true
 | .ext _ => true
 | .hole .. => true
 | .nest _ => true
 | .dead => false
abbrev R := V × List AObj
abbrev Objs := List (Nat × AObj)
abbrev Env := List (Nat × V)
@[irreducible] def req (p : Prop) [Decidable p] (x : Option R) : Option R := if p then x else none
@[irreducible] def br (c : Bool) (x y : Option R) : Option R := if c then x else y
open Classical in
@[irreducible] noncomputable def both (x y : Option R) : Option R := if x = y then x else none
def look {α : Type} (d : α) : List (Nat × α) -> Nat -> α
 | [],_ => d
 | (i,v) :: r,n => match vah i n with | true => v | false => look d r n
def elemB : Nat -> List Nat -> Bool
 | _,[] => false
 | n,i :: r => match vah i n with | true => true | false => elemB n r
def nth {α : Type} (d : α) : List α -> Nat -> α
 | [],_ => d
 | x :: _,0 => x
 | _ :: r,n + 1 => nth d r n
def getC (cs : List V) (n : Nat) : V := nth .undef cs n
def ofVal1 : Value -> V
 | .int k n => .i k n
 | .bool x => .b x
 | .string s => .s s
 | .slice none 0 0 => .nilsl
 | v => .kon v
def ofVal : Value -> V
 | .agg cs => .agg (cs.toList.map ofVal1)
 | v => ofVal1 v
structure St where
 env : Env
 objs : Objs
 nx : Nat
 n : Nat     -- how many slots there are
def V.strip : V -> V
 | .ownn o => .own o
 | v => v
def V.isNN : V -> Bool
 | .ownn _ => true
 | _ => false
def V.nnOf : V -> V
 | .own o => .ownn o
 | v => v
def rawO (env : Env) : Operand -> V
 | .tmp t => look .undef env t
 | .const v => ofVal v
 | .func f => .fn f []
 | .global _ => .undef
def evalO (env : Env) (x : Operand) : V := (rawO env x).strip
inductive TK where
 | int (k : IntKind) | bool | str | ptr (e : Nat) | sl (e : Nat) | arr (n e : Nat) | map (k e : Nat) | struct (fs : List (Nat × Nat)) | func | iface | other
instance : Inhabited TK := ⟨.other⟩
def TK.isOther : TK -> Bool | .other => true | _ => false
structure TRow where
 k : TK
 size : Nat
 bytes : Nat
 zero : List V
 ty : Option Ty
 deriving Inhabited
abbrev Tab := List TRow
def Tab.row (tt : Tab) (t : Nat) : TRow := nth default tt t
def TK.isAgg : TK -> Bool | .struct _ => true | .arr _ _ => true | _ => false
def Tab.isAgg (tt : Tab) (t : Nat) : Bool := (tt.row t).k.isAgg
def cellsOf : (t : Ty) -> t.den -> Bool -> List V
 | .int k,x,_ => [.i k x]
 | .bool,x,_ => [.b x]
 | .str,x,_ => [.s x]
 | .sl e,x,bor => [.dat e x bor]
 | .unit,_,_ => []
 | .pair a b,x,bor => cellsOf a x.1 bor ++ cellsOf b x.2 bor
def castL {e e' : Ty} (h : e' = e) (xs : List e'.den) : List e.den := h ▸ xs
def asDat (objs : Objs) (e : Ty) (v : V) (K : List e.den -> Bool -> Option R) : Option R :=
 match v with
 | .nilsl => K [] false
 | .dat e' xs _ => if h : e' = e then K (castL h xs) false else none
 | .own o => match look .dead objs o with
  | .row e' xs _ => if h : e' = e then K (castL h xs) false else none
  | _ => none
 | .sub o es lo hi => match look .dead objs o with
  | .row e' xs _ => if h : e' = e then (match vah es e.size with | true => K (((castL h xs).take hi).drop lo) false | false => none) else none
  | _ => none
 | _ => none
def ofCells (objs : Objs) : (t : Ty) -> List V -> (t.den -> List V -> List Nat -> Option R) -> Option R
 | .int k,.i k' n :: r,K => if k = k' then K n r [] else none
 | .bool,.b x :: r,K => K x r []
 | .str,.s x :: r,K => K x r []
 | .sl e,v :: r,K => match v with
  | .nilsl => K [] r []
  | .dat e' xs false => if h : e' = e then K (castL h xs) r [] else none
  | .nd _ e' xs => if h : e' = e then K (castL h xs) r [] else none
  | .own o => match look .dead objs o with
   | .row e' xs fz => if h : e' = e then K (castL h xs) r (match fz with | true => [] | false => [o]) else none
   | _ => none
  | _ => none
 | .unit,r,K => K () r []
 | .pair a b,cs,K => ofCells objs a cs fun x r f => ofCells objs b r fun y r' f' => K (x,y) r' (f ++ f')
 | _,_,_ => none
def frozenRow : AObj -> AObj
 | .row e xs _ => .row e xs true
 | .nest (.row d xs) => if h : d.noMap = true then .row d.er (erC h xs) true else .dead
 | o => o
def frzB : AObj -> Bool
 | .row _ _ fz => !fz
 | .nest (.row d _) => d.noMap
 | _ => false
def freezes (objs : Objs) (l : List Nat) : Objs := l.map fun o => (o,frozenRow (look .dead objs o))
def vcells : V -> List V
 | .agg cs => cs
 | v => [v]
def V.isC : V -> Bool
 | .undef | .agg _ | .tup _ => false
 | .kon (.agg _) | .kon (.tuple _) => false
 | _ => true
def setRange (cs : List V) (off : Nat) (vs : List V) : List V := cs.take off ++ vs ++ cs.drop (off + vs.length)
def ofParts (objs : Objs) (e : Ty) : List V -> (List e.den -> List Nat -> Option R) -> Option R
 | [],K => K [] []
 | v :: r,K => match (vcells v).all V.isC with
  | true => ofCells objs e (vcells v) fun x rest f => match rest with
   | [] => ofParts objs e r fun xs f' => K (x :: xs) (f ++ f')
   | _ => none
  | false => none
end Go.Vm

namespace Go.Vm
open Go
noncomputable section
variable {α : Type}
def litIn (n : Nat) (K : Nat -> α) : List Nat -> α
 | [] => K n
 | x :: r => match vah n x with | true => K x | false => litIn n K r
theorem qlw (n : Nat) (K : Nat -> α) : ∀ l,litIn n K l = K n
 | [] => rfl
 | x :: r => by
  unfold litIn
  split
  ·rename_i h; rw [vaa h]
  ·exact qlw n K r
def litK (n : Nat) (K : Nat -> α) : α := litIn n K [0,1,2,3,4,5,6,7,8,9,10,11,12,13,14,15,16,17,18,19,20,21,22,23,24,25,26,27,28,29,30,31,32,33,34,35,36,37,38,39,40]
theorem qcE (n : Nat) (K : Nat -> α) : litK n K = K n := qlw n K _
mutual
def forceV : V -> (V -> α) -> α
 | .undef,K => K .undef
 | .hid,K => K .hid
 | .i k n,K => K (.i k n)
 | .b x,K => K (.b x)
 | .s x,K => K (.s x)
 | .nilsl,K => K .nilsl
 | .kon v,K => K (.kon v)
 | .dat e xs bor,K => K (.dat e xs bor)
 | .own o,K => litK o fun o => K (.own o)
 | .ownn o,K => litK o fun o => K (.ownn o)
 | .sub o es lo hi,K => litK o fun o => litK es fun es => K (.sub o es lo hi)
 | .ptr o off,K => litK o fun o => litK off fun off => K (.ptr o off)
 | .pel o ix es off,K => litK o fun o => litK es fun es => litK off fun off => K (.pel o ix es off)
 | .optp o,K => litK o fun o => K (.optp o)
 | .err x,K => K (.err x)
 | .nd nl e xs,K => K (.nd nl e xs)
 | .tp cs,K => forceVs cs fun cs => K (.tp cs)
 | .agg cs,K => forceVs cs fun cs => K (.agg cs)
 | .tup cs,K => forceVs cs fun cs => K (.tup cs)
 | .fn f cs,K => forceVs cs fun cs => K (.fn f cs)
def forceVs : List V -> (List V -> α) -> α
 | [],K => K []
 | v :: r,K => forceV v fun v => forceVs r fun r => K (v :: r)
end
mutual
theorem qde : ∀ (v : V) (K : V -> α),forceV v K = K v
 | .undef,_ => rfl
 | .hid,_ => rfl
 | .i _ _,_ => rfl
 | .b _,_ => rfl
 | .s _,_ => rfl
 | .nilsl,_ => rfl
 | .kon _,_ => rfl
 | .dat _ _ _,_ => rfl
 | .own _,_ => by simp [forceV,qcE]
 | .ownn _,_ => by simp [forceV,qcE]
 | .sub _ _ _ _,_ => by simp [forceV,qcE]
 | .ptr _ _,_ => by simp [forceV,qcE]
 | .pel _ _ _ _,_ => by simp [forceV,qcE]
 | .optp _,_ => by simp [forceV,qcE]
 | .err _,_ => rfl
 | .nd _ _ _,_ => rfl
 | .tp cs,K => by rw [forceV,qbF cs]
 | .agg cs,K => by rw [forceV,qbF cs]
 | .tup cs,K => by rw [forceV,qbF cs]
 | .fn f cs,K => by rw [forceV,qbF cs]
theorem qbF : ∀ (vs : List V) (K : List V -> α),forceVs vs K = K vs
 | [],_ => rfl
 | v :: r,K => by rw [forceVs,qde v,qbF r]
end
def forceO : AObj -> (AObj -> α) -> α
 | .dead,K => K .dead
 | .row e xs fz,K => match fz with | true => K (.row e xs true) | false => K (.row e xs false)
 | .var t cs,K => forceVs cs fun cs => K (.var t cs)
 | .ext x,K => K (.ext x)
 | .hole e xs ix cs,K => forceVs cs fun cs => K (.hole e xs ix cs)
 | .nest x,K => match x with
  | .row d xs => K (.nest (.row d xs))
  | .hole d xs ix cs => forceVs cs fun cs => K (.nest (.hole d xs ix cs))
  | .rng it ka k ea e xs rest cur => litK it fun it => K (.nest (.rng it ka k ea e xs rest cur))
theorem qka (x : AObj) (K : AObj -> α) : forceO x K = K x := by
 cases x with
 | dead => rfl
 | row e xs fz => cases fz <;> rfl
 | var t cs => rw [forceO,qbF]
 | ext x => rfl
 | hole e xs ix cs => rw [forceO,qbF]
 | nest x =>
  cases x with
  | row d xs => rfl
  | hole d xs ix cs => rw [forceO,qbF]
  | rng it ka k ea e xs rest cur => rw [forceO,qcE]
def forceOs : List AObj -> (List AObj -> α) -> α
 | [],K => K []
 | x :: r,K => forceO x fun x => forceOs r fun r => K (x :: r)
theorem qf1 : ∀ (xs : List AObj) (K : List AObj -> α),forceOs xs K = K xs
 | [],_ => rfl
 | x :: r,K => by rw [forceOs,qka,qf1 r]
def forceL : List Nat -> (List Nat -> α) -> α
 | [],K => K []
 | n :: r,K => litK n fun n => forceL r fun r => K (n :: r)
theorem qeC : ∀ (l : List Nat) (K : List Nat -> α),forceL l K = K l
 | [],_ => rfl
 | n :: r,K => by rw [forceL,qcE,qeC r]
def forceC : Objs -> (Objs -> α) -> α
 | [],K => K []
 | c :: r,K => match c with | (n,x) => litK n fun n => forceO x fun x => forceC r fun r => K ((n,x) :: r)
theorem qcl : ∀ (l : Objs) (K : Objs -> α),forceC l K = K l
 | [],_ => rfl
 | (n,x) :: r,K => by rw [forceC,qcE,qka,qcl r]
def forceE : Env -> (Env -> α) -> α
 | [],K => K []
 | c :: r,K => match c with | (n,x) => forceV x fun x => forceE r fun r => K ((n,x) :: r)
theorem qeE : ∀ (l : Env) (K : Env -> α),forceE l K = K l
 | [],_ => rfl
 | (n,x) :: r,K => by rw [forceE,qde,qeE r]
def appF : Objs -> Objs -> (Objs -> α) -> α
 | [],objs,K => K objs
 | c :: r,objs,K => appF r objs fun x => K (c :: x)
theorem qdh : ∀ (l objs : Objs) (K : Objs -> α),appF l objs K = K (l ++ objs)
 | [],_,_ => rfl
 | c :: r,objs,K => by rw [appF,qdh r]; rfl
end
end Go.Vm

namespace Go.Vm
open Go
noncomputable section
mutual
def V.ren (f : Nat -> Nat) : V -> V
 | .own o => .own (f o)
 | .ownn o => .ownn (f o)
 | .sub o es lo hi => .sub (f o) es lo hi
 | .ptr o off => .ptr (f o) off
 | .pel o ix es off => .pel (f o) ix es off
 | .optp o => .optp (f o)
 | .tp cs => .tp (V.renL f cs)
 | .agg cs => .agg (V.renL f cs)
 | .tup cs => .tup (V.renL f cs)
 | .fn g cs => .fn g (V.renL f cs)
 | v => v
def V.renL (f : Nat -> Nat) : List V -> List V
 | [] => []
 | v :: r => V.ren f v :: V.renL f r
end
mutual
def V.ids : V -> List Nat
 | .own o => [o]
 | .ownn o => [o]
 | .sub o _ _ _ => [o]
 | .ptr o _ => [o]
 | .pel o _ _ _ => [o]
 | .optp o => [o]
 | .tp cs => V.idsL cs
 | .agg cs => V.idsL cs
 | .tup cs => V.idsL cs
 | .fn _ cs => V.idsL cs
 | _ => []
def V.idsL : List V -> List Nat
 | [] => []
 | v :: r => V.ids v ++ V.idsL r
end
mutual
def V.firm : V -> Bool
 | .dat _ _ bor => !bor
 | .tp _ => false
 | .agg cs => V.firmL cs
 | .tup cs => V.firmL cs
 | .fn _ cs => V.firmL cs
 | _ => true
def V.firmL : List V -> Bool
 | [] => true
 | v :: r => match V.firm v with | true => V.firmL r | false => false
end
def AObj.ren (f : Nat -> Nat) : AObj -> AObj
 | .var t cs => .var t (V.renL f cs)
 | .hole e xs ix cs => .hole e xs ix (V.renL f cs)
 | .nest (.hole d xs ix cs) => .nest (.hole d xs ix (V.renL f cs))
 | .nest (.rng it ka k ea e xs rest cur) => .nest (.rng (f it) ka k ea e xs rest cur)
 | o => o
def AObj.ids : AObj -> List Nat
 | .var _ cs => V.idsL cs
 | .hole _ _ _ cs => V.idsL cs
 | .nest (.hole _ _ _ cs) => V.idsL cs
 | .nest (.rng it _ _ _ _ _ _ _) => [it]
 | _ => []
def AObj.firm : AObj -> Bool
 | .var _ cs => V.firmL cs
 | .hole .. => false
 | .nest (.hole ..) => false
 | _ => true
def allIn : List Nat -> List Nat -> Bool
 | [],_ => true
 | i :: r,l => match elemB i l with | true => allIn r l | false => false
def posOf : List Nat -> Nat -> Nat
 | [],_ => 0
 | i :: r,o => match vah i o with | true => 0 | false => posOf r o + 1
def reach (objs : Objs) : Nat -> List Nat -> List Nat -> List Nat
 | 0,_,seen => seen
 | _ + 1,[],seen => seen
 | n + 1,o :: r,seen => match elemB o seen with
  | true => reach objs n r seen
  | false => reach objs n (r ++ (look .dead objs o).ids) (seen ++ [o])
mutual
def datify (objs : Objs) : V -> V
 | .own o => match look .dead objs o with
  | .row e xs fz => .dat e xs (!fz)
  | .nest (.row d xs) => if h : d.noMap = true then .dat d.er (erC h xs) true else .undef
  | _ => .undef
 | .sub o es lo hi => match look .dead objs o with
  | .row e xs fz => match vah es e.size with | true => .dat e ((xs.take hi).drop lo) (!fz) | false => .undef
  | _ => .undef
 | .agg cs => .agg (datifyL objs cs)
 | .tup cs => .tup (datifyL objs cs)
 | v => v
def datifyL (objs : Objs) : List V -> List V
 | [] => []
 | v :: r => datify objs v :: datifyL objs r
end
mutual
def owned (objs : Objs) : V -> List Nat
 | .own o => match frzB (look .dead objs o) with | true => [o] | false => []
 | .sub o _ _ _ => match look .dead objs o with | .row _ _ false => [o] | _ => []
 | .agg cs => ownedL objs cs
 | .tup cs => ownedL objs cs
 | _ => []
def ownedL (objs : Objs) : List V -> List Nat
 | [] => []
 | v :: r => owned objs v ++ ownedL objs r
end
mutual
def dids (objs : Objs) : V -> List Nat
 | .own o => match (look .dead objs o).mut with | true => [o] | false => []
 | .sub o _ _ _ => match (look .dead objs o).mut with | true => [o] | false => []
 | .agg cs => didsL objs cs
 | .tup cs => didsL objs cs
 | _ => []
def didsL (objs : Objs) : List V -> List Nat
 | [] => []
 | v :: r => dids objs v ++ didsL objs r
end
inductive Mode where
 | rd | st | kp | nn (e : Ty)
 deriving DecidableEq
structure FSpec where
 modes : List Mode
 run : List V -> List AObj -> (V -> List AObj -> Option R) -> Option R
abbrev FEnv := FuncId -> Option FSpec
def toFreeze (objs : Objs) : List Mode -> List V -> List Nat
 | .st :: ms,v :: vs => owned objs v.strip ++ toFreeze objs ms vs
 | .nn _ :: ms,v :: vs => owned objs v.strip ++ toFreeze objs ms vs
 | _ :: ms,_ :: vs => toFreeze objs ms vs
 | _,_ => []
def readIds (objs : Objs) : List Mode -> List V -> List Nat
 | .kp :: ms,_ :: vs => readIds objs ms vs
 | _ :: ms,v :: vs => dids objs v.strip ++ readIds objs ms vs
 | _,_ => []
def disjB : List Nat -> List Nat -> Bool
 | [],_ => true
 | i :: r,l => match elemB i l with | true => false | false => disjB r l
def ndOf (objs : Objs) (e : Ty) : V -> V
 | .nilsl => .nd true e []
 | .nd nl e' xs => .nd nl e' xs
 | .ownn o => match look .dead objs o with
  | .row e' xs true => .nd false e' xs
  | _ => .undef
 | _ => .undef
def asArgs (objs : Objs) : List Mode -> List V -> List V
 | .kp :: ms,v :: vs => v.strip :: asArgs objs ms vs
 | .nn e :: ms,v :: vs => ndOf objs e v :: asArgs objs ms vs
 | _ :: ms,v :: vs => datify objs v.strip :: asArgs objs ms vs
 | _,vs => vs.map V.strip
def back (ids : List Nat) (nx : Nat) (j : Nat) : Nat := match vaN j ids.length with | true => nth 0 ids j | false => nx + (j - ids.length)
def zipCh (ids : List Nat) (nx : Nat) : Nat -> List AObj -> Objs
 | _,[] => []
 | k,x :: r => (back ids nx k,x) :: zipCh ids nx (k + 1) r
def allLt (nx : Nat) : List Nat -> Bool
 | [] => true
 | i :: r => match vaN i nx with | true => allLt nx r | false => false
def smallOK (objs : Objs) (ids : List Nat) : List Nat -> Bool
 | [] => true
 | i :: r => match allIn (look .dead objs i).ids ids with | true => smallOK objs ids r | false => false
def nodupB : List Nat -> Bool
 | [] => true
 | i :: r => match elemB i r with | true => false | false => nodupB r
def anyNest (objs : Objs) : List Nat -> Bool
 | [] => false
 | o :: r => match (look .dead objs o).isNest with | true => true | false => anyNest objs r
mutual
def V.scal : V -> Bool
 | .i _ _ => true
 | .b _ => true
 | .s _ => true
 | .tup cs => V.scalL cs
 | _ => false
def V.scalL : List V -> Bool
 | [] => true
 | v :: r => match V.scal v with | true => V.scalL r | false => false
end
def emptyB : List Nat -> Bool
 | [] => true
 | _ => false
def callR (wd : Bool) (sp : FSpec) (args' : List V) (objs : Objs) (fz : Objs) (ids : List Nat) (nx : Nat) (K : V -> Objs -> Nat -> Option R) : Option R :=
 forceVs (V.renL (posOf ids) args') fun ra => forceOs (ids.map fun o => (look .dead objs o).ren (posOf ids)) fun ro =>
 sp.run ra ro fun res objs' =>
  match vaD ids.length objs'.length && (wd || (V.firm res && objs'.all AObj.firm)) with
  | false => none
  | true => forceV (res.ren (back ids nx)) fun rv => forceC (zipCh ids nx 0 (objs'.map (AObj.ren (back ids nx)))) fun ch => appF ch fz fun ch => K rv ch (nx + (objs'.length - ids.length))
def callN (sp : FSpec) (args' : List V) (fz : Objs) (ids : List Nat) (nx : Nat) (K : V -> Objs -> Nat -> Option R) : Option R :=
 match ids with
 | [] => forceVs (V.renL (posOf []) args') fun ra => sp.run ra [] fun res objs' => match objs',V.scal res with
  | [],true => K res fz nx
  | _,_ => none
 | _ :: _ => none
def callF (Γ : FEnv) (f : FuncId) (args : List V) (objs0 : Objs) (nx : Nat) (md : List Nat) (K : V -> Objs -> Nat -> Option R) : Option R :=
 match Γ f with
 | none => none
 | some sp =>
  forceL (toFreeze objs0 sp.modes args) fun fr =>
  forceC (freezes objs0 fr) fun fz => appF fz objs0 fun objs =>
  forceVs (asArgs objs sp.modes args) fun args' =>
  forceL (reach objs 100 (V.idsL args') []) fun ids =>
  match nodupB ids && allIn (V.idsL args') ids && smallOK objs ids ids && allIn ids md && allIn fr md && disjB (readIds objs sp.modes args) ids && allLt nx ids with
  | false => none
  | true => match anyNest objs (readIds objs sp.modes args) with
   | false => callR (emptyB (readIds objs sp.modes args)) sp args' objs fz ids nx K
   | true => callN sp args' fz ids nx K
def callF0 (Γ : FEnv) (f : FuncId) (args : List V) (objs0 : Objs) (nx : Nat) (md : List Nat) (K : V -> Objs -> Nat -> Option R) : Option R :=
 match Γ f with
 | none => none
 | some sp =>
  let fz := freezes objs0 (toFreeze objs0 sp.modes args)
  let objs := fz ++ objs0
  let args' := asArgs objs sp.modes args
  let ids := reach objs 100 (V.idsL args') []
  match nodupB ids && allIn (V.idsL args') ids && smallOK objs ids ids && allIn ids md && allIn (toFreeze objs0 sp.modes args) md && disjB (readIds objs sp.modes args) ids && allLt nx ids with
  | false => none
  | true => match anyNest objs (readIds objs sp.modes args) with
   | false =>
    sp.run (V.renL (posOf ids) args') (ids.map fun o => (look .dead objs o).ren (posOf ids)) fun res objs' =>
     match vaD ids.length objs'.length && (emptyB (readIds objs sp.modes args) || (V.firm res && objs'.all AObj.firm)) with
     | false => none
     | true => K (res.ren (back ids nx)) (zipCh ids nx 0 (objs'.map (AObj.ren (back ids nx))) ++ fz) (nx + (objs'.length - ids.length))
   | true => callN sp args' fz ids nx K
theorem qor : callF = callF0 := by
 funext Γ f args objs0 nx md K
 unfold callF callF0
 cases Γ f with
 | none => rfl
 | some sp =>
  dsimp only
  simp only [qeC,qcl,qdh,qbF]
  congr 1
  funext h
  unfold callR
  simp only [qbF,qf1,qde,qcl,qdh]
def binI (op : BinOp) (k : IntKind) (a b : Int) (K : V -> Option R) : Option R :=
 match op with
 | .add => K (.i k (k.wrap (a + b)))
 | .sub => K (.i k (k.wrap (a - b)))
 | .mul => K (.i k (k.wrap (a * b)))
 | .quo => req (b ≠ 0) (K (.i k (k.wrap (a.tdiv b))))
 | .rem => req (b ≠ 0) (K (.i k (a.tmod b)))
 | .eql => K (.b (decide (a = b)))
 | .neq => K (.b (!decide (a = b)))
 | .lss => K (.b (decide (a < b)))
 | .leq => K (.b (decide (a <= b)))
 | .gtr => K (.b (decide (b < a)))
 | .geq => K (.b (decide (b <= a)))
 | .and => K (.i k (bits .and k a b))
 | .or => K (.i k (bits .or k a b))
 | .xor => K (.i k (bits .xor k a b))
 | .andNot => K (.i k (bits .andNot k a b))
 | _ => none
def nilTest (neg : Bool) (empty : Bool) (K : V -> Option R) : Option R :=
 br empty (both (K (.b true)) (K (.b false))) (K (.b neg))
def TK.isBool : TK -> Bool | .bool => true | _ => false
def TK.isSl : TK -> Bool | .sl _ => true | _ => false
def TK.isPtr : TK -> Bool | .ptr _ => true | _ => false
def binV (tt : Tab) (t : Nat) (objs : Objs) (op : BinOp) (x y : V) (K : V -> Option R) : Option R :=
 match op,x,y with
 | .eql,.b a,.b b => match (tt.row t).k.isBool with | true => K (.b (a == b)) | false => none
 | .neq,.b a,.b b => match (tt.row t).k.isBool with | true => K (.b (!(a == b))) | false => none
 | .eql,.s a,.s b => K (.b (a.toList == b.toList))
 | .neq,.s a,.s b => K (.b (!(a.toList == b.toList)))
 | .add,.s a,.s b => req (a.size + b.size <= 9223372036854775807) (K (.s (a ++ b)))
 | .eql,.nd nl _ _,.nilsl => match (tt.row t).k.isSl with | true => K (.b nl) | false => none
 | .neq,.nd nl _ _,.nilsl => match (tt.row t).k.isSl with | true => K (.b (!nl)) | false => none
 | .eql,.dat _ xs _,.nilsl => match (tt.row t).k.isSl with | true => nilTest false xs.isEmpty K | false => none
 | .neq,.dat _ xs _,.nilsl => match (tt.row t).k.isSl with | true => nilTest true xs.isEmpty K | false => none
 | .eql,.nilsl,.nilsl => match (tt.row t).k.isSl with | true => K (.b true) | false => none
 | .neq,.nilsl,.nilsl => match (tt.row t).k.isSl with | true => K (.b false) | false => none
 | .eql,.own o,.nilsl => match (tt.row t).k.isSl,look .dead objs o with | true,.row _ xs _ => nilTest false xs.isEmpty K | _,_ => none
 | .neq,.own o,.nilsl => match (tt.row t).k.isSl,look .dead objs o with | true,.row _ xs _ => nilTest true xs.isEmpty K | _,_ => none
 | .eql,.kon (.pointer none),.kon (.pointer none) => match (tt.row t).k.isPtr with | true => K (.b true) | false => none
 | .neq,.kon (.pointer none),.kon (.pointer none) => match (tt.row t).k.isPtr with | true => K (.b false) | false => none
 | .eql,.ptr _ _,.kon (.pointer none) => match (tt.row t).k.isPtr with | true => K (.b false) | false => none
 | .neq,.ptr _ _,.kon (.pointer none) => match (tt.row t).k.isPtr with | true => K (.b true) | false => none
 | .shl,.i k a,.i _ b => req (0 <= b) (K (.i k (k.wrap (a * 2 ^ (min b.toNat k.bits)))))
 | .shr,.i k a,.i _ b => req (0 <= b) (K (.i k (a.fdiv (2 ^ (min b.toNat k.bits)))))
 | op,.i k a,.i k' b => if k = k' then binI op k a b K else none
 | _,_,_ => none
def TK.isIface : TK -> Bool | .iface => true | _ => false
def errV (tt : Tab) (t : Nat) (op : BinOp) (e : Bool) (K : V -> Option R) : Option R :=
 match op,(tt.row t).k.isIface with
 | .eql,true => K (.b (!e))
 | .neq,true => K (.b e)
 | _,_ => none
def isNilIface : Operand -> Bool
 | .const .nilIface => true
 | _ => false
def unV (op : UnOp) (x : V) (K : V -> Option R) : Option R :=
 match op,x with
 | .neg,.i k n => K (.i k (k.wrap (0 - n)))
 | .not,.b x => K (.b (!x))
 | _,_ => none
def elemOf (tt : Tab) (t : Nat) : Nat := match (tt.row t).k with | .sl e => e | .arr _ e => e | .ptr e => e | _ => 0
def fieldOf (tt : Tab) (t f : Nat) : Nat × Nat := match (tt.row t).k with | .struct fs => nth (0,0) fs f | _ => (0,0)
def hasField (tt : Tab) (t f : Nat) : Bool := match (tt.row t).k with | .struct fs => vaN f fs.length | _ => false
def takeV (tt : Tab) (t : Nat) (cs : List V) (K : V -> Option R) : Option R :=
 match tt.isAgg t with
 | true => match vaD (tt.row t).size cs.length with | true => K (.agg (cs.take (tt.row t).size)) | false => none
 | false => match cs with | c :: _ => K c | [] => none
def loadV (tt : Tab) (objs : Objs) (t : Nat) (a : V) (K : V -> Option R) : Option R :=
 match (tt.row t).k.isOther with
 | true => none
 | false => match a with
  | .ptr o off => match look .dead objs o with | .var _ cs => takeV tt t (cs.drop off) K | _ => none
  | .pel o ix es off => match look .dead objs o with
   | .row e xs _ => match vah es e.size with
    | true => req (ix < xs.length) (takeV tt t ((cellsOf e (xs.getD ix e.dflt) false).drop off) K)
    | false => none
   | .hole e _ jx cs => match vah es e.size with
    | true => req (ix = jx) (takeV tt t (cs.drop off) K)
    | false => none
   | _ => none
  | .tp cs => takeV tt t cs K
  | _ => none
def storeV (tt : Tab) (objs : Objs) (t : Nat) (a v : V) (md : List Nat) (K : Objs → Option R) : Option R :=
  let vs := vcells v
  match vah vs.length (tt.row t).size && vs.all V.isC && !(tt.row t).k.isOther with
  | false => none
  | true => match a with
    | .ptr o off => match look .dead objs o with
      | .var vt cs => match vaD (off + vs.length) cs.length && elemB o md with
        | true => K [(o,.var vt (setRange cs off vs))]
        | false => none
      | _ => none
    | .pel o ix es off => match look .dead objs o with
      | .row e xs false => req (ix < xs.length) (
        match vah es e.size with
        | false => none
        | true =>
          match vah vs.length e.size with
          | true => match vah off 0 with
            | true => ofCells objs e vs fun x rest f => match rest with
              | [] => match elemB o md && allIn f md && !elemB o f with | true => K ((o,.row e (xs.set ix x) false) :: freezes objs f) | false => none
              | _ => none
            | false => none
          | false => ofCells objs e (setRange (cellsOf e (xs.getD ix e.dflt) false) off vs) fun x rest f => match rest with
              | [] => match elemB o md && allIn f md && !elemB o f && vaD (off + vs.length) e.size with | true => K ((o,.row e (xs.set ix x) false) :: freezes objs f) | false => none
              | _ => none)
      | _ => none
    | _ => none
def storeHV (tt : Tab) (objs : Objs) (t : Nat) (a v : V) (md : List Nat) (K : Objs -> Option R) : Option R :=
 let vs := vcells v
 match vah vs.length (tt.row t).size && vs.all V.isC && !(tt.row t).k.isOther with
 | false => none
 | true => match a with
  | .pel o ix es off => match look .dead objs o with
   | .row e xs false => match vah es e.size && vah vs.length e.size && vah off 0 && elemB o md with
    | true => req (ix < xs.length) (K [(o,.hole e xs ix vs)])
    | false => none
   | _ => none
  | _ => none
def shutV (objs : Objs) (md : List Nat) : List V -> (Objs -> Option R) -> Option R
 | [],K => K []
 | v :: r,K => match v with
  | .own o => match look .dead objs o with
   | .hole e xs ix cs => ofCells objs e cs fun x rest f => match rest with
    | [] => match elemB o md && allIn f md && !elemB o f with
     | true => K ((o,.row e (xs.set ix x) false) :: freezes objs f)
     | false => none
    | _ => none
   | _ => shutV objs md r K
  | _ => shutV objs md r K
def DTy.owns : DTy -> Nat
 | .dat _ => 0
 | .pair a b => a.owns + b.owns
 | _ => 1
def openC : (d : DTy) -> d.den -> Nat -> List V
 | .dat t,x,_ => cellsOf t x false
 | .row _,_,nx => [.own nx]
 | .map ..,_,nx => [.own nx]
 | .pair a b,x,nx => openC a x.1 nx ++ openC b x.2 (nx + a.owns)
def openO : (d : DTy) -> d.den -> Nat -> Objs
 | .dat _,_,_ => []
 | .row e,x,nx => [(nx,.row e x false)]
 | .map ka k ea e,x,nx => [(nx,.ext (.map ka k ea e x))]
 | .pair a b,x,nx => openO a x.1 nx ++ openO b x.2 (nx + a.owns)
def flatC : (d : DTy) -> d.den -> List V
 | .dat t,x => cellsOf t x false
 | .pair a b,x => flatC a x.1 ++ flatC b x.2
 | _,_ => [.hid]
def castM {k k' e e' : Ty} (h : k' = k /\ e' = e) (xs : List (k'.den × e'.den)) : List (k.den × e.den) := h.1 ▸ h.2 ▸ xs
def shutD (objs : Objs) : (d : DTy) -> List V -> (d.den -> List V -> List Nat -> Option R) -> Option R
 | .dat t,cs,K => ofCells objs t cs fun x r f => match f with | [] => K x r [] | _ => none
 | .row e,v :: r,K => match v with
  | .nilsl => K [] r []
  | .own o => match look .dead objs o with
   | .row e' xs false => if h : e' = e then K (castL h xs) r [o] else none
   | _ => none
  | _ => none
 | .map ka k ea e,v :: r,K => match v with
  | .own o => match look .dead objs o with
   | .ext (.map ka' k' ea' e' xs) => match ka' == ka && ea' == ea with
    | true => if h : k' = k /\ e' = e then K (castM h xs) r [o] else none
    | false => none
   | _ => none
  | _ => none
 | .pair a b,cs,K => shutD objs a cs fun x r g => shutD objs b r fun y r' g' => K (x,y) r' (g ++ g')
 | _,_,_ => none
def deads (g : List Nat) : Objs := g.map fun o => (o,.dead)
def shutN (objs : Objs) (o : Nat) (K : Objs -> Option R) : Option R :=
 match look .dead objs o with
 | .nest (.hole d xs ix cs) => shutD objs d cs fun x rest g => match rest,nodupB g && !elemB o g with
  | [],true => K ((o,.nest (.row d (xs.set ix x))) :: deads g)
  | _,_ => none
 | _ => K []
def nestB (objs : Objs) : V -> Bool
 | .own o => (look .dead objs o).isNest
 | .pel o _ _ _ => (look .dead objs o).isNest
 | _ => false
def loadN (tt : Tab) (objs : Objs) (nx t : Nat) (a : V) (md : List Nat) (K : V -> Objs -> Nat -> Option R) : Option R :=
 match (tt.row t).k.isOther,a with
 | false,.pel o ix es off => match look .dead objs o with
  | .nest (.row d xs) => match vah es d.size with
   | true => req (ix < xs.length) (match tt.isAgg t,(flatC d (xs.getD ix d.dflt)).drop off with
    | false,.hid :: _ => match elemB o md with
     | true => forceVs (openC d (xs.getD ix d.dflt) nx) fun cs => takeV tt t (cs.drop off) fun v => K v ((o,.nest (.hole d xs ix cs)) :: openO d (xs.getD ix d.dflt) nx) (nx + d.owns)
     | false => none
    | _,cs => takeV tt t cs fun v => K v [] nx)
   | false => none
  | .nest (.hole d _ jx cs) => match vah es d.size with
   | true => req (ix = jx) (takeV tt t (cs.drop off) fun v => K v [] nx)
   | false => none
  | _ => none
 | _,_ => none
def storeN (tt : Tab) (objs : Objs) (nx t : Nat) (a v : V) (md : List Nat) (K : Objs -> Nat -> Option R) : Option R :=
 let vs := vcells v
 match vah vs.length (tt.row t).size && vs.all V.isC && !(tt.row t).k.isOther with
 | false => none
 | true => match a with
  | .pel o ix es off => match look .dead objs o with
   | .nest (.row d xs) => match vah es d.size && vaD (off + vs.length) d.size && elemB o md with
    | true => req (ix < xs.length) (forceVs (openC d (xs.getD ix d.dflt) nx) fun cs => K ((o,.nest (.hole d xs ix (setRange cs off vs))) :: (o,.nest (.hole d xs ix cs)) :: openO d (xs.getD ix d.dflt) nx) (nx + d.owns))
    | false => none
   | .nest (.hole d xs jx cs) => match vah es d.size && vaD (off + vs.length) d.size && elemB o md with
    | true => req (ix = jx) (K [(o,.nest (.hole d xs jx (setRange cs off vs)))] nx)
    | false => none
   | _ => none
  | _ => none
def indexAddrN (tt : Tab) (objs : Objs) (t : Nat) (x i : V) (K : V -> Option R) : Option R :=
 match i,x with
 | .i _ n,.own o => match (tt.row t).k with
  | .sl et => match (tt.row et).k.isOther,look .dead objs o with
   | false,.nest (.row d xs) => match vah (tt.row et).size d.size with
    | true => req (0 <= n /\ n < xs.length) (K (.pel o n.toNat d.size 0))
    | false => none
   | false,.nest (.hole d xs _ _) => match vah (tt.row et).size d.size with
    | true => req (0 <= n /\ n < xs.length) (K (.pel o n.toNat d.size 0))
    | false => none
   | _,_ => none
  | _ => none
 | _,_ => none
def lenN (objs : Objs) (x : V) (K : V -> Option R) : Option R :=
 match x with
 | .own o => match look .dead objs o with
  | .nest (.row _ xs) => K (.i .i64 xs.length)
  | .nest (.hole _ xs _ _) => K (.i .i64 xs.length)
  | _ => none
 | _ => none
def shutAll (objs : Objs) (md : List Nat) : List Nat -> (Objs -> Option R) -> Option R
 | [],K => K []
 | o :: r,K => match look .dead objs o with
  | .nest (.hole _ _ _ _) => shutN objs o fun ch => match allIn (ch.map (·.1)) md with
   | true => appF ch objs fun objs1 => shutAll objs1 md r fun ch' => appF ch' ch K
   | false => none
  | _ => shutAll objs md r K
def shutC (objs : Objs) (md : List Nat) (args caps : List V) (K : Objs -> Option R) : Option R :=
 shutV objs md args fun ch0 => match ch0 with
  | [] => forceL (reach objs 100 (V.idsL (args ++ caps)) []) fun ids => shutAll objs md ids K
  | d :: r => K (d :: r)
def placeParts (cells : List V) : List (Nat × Nat × V) -> Option (List V)
 | [] => some cells
 | (off,size,v) :: r => match vah (vcells v).length size && vaD (off + size) cells.length && (vcells v).all V.isC with
  | true => placeParts (setRange cells off (vcells v)) r
  | false => none
def buildV (tt : Tab) (t : Nat) (parts : List (Nat × V)) (K : V -> Option R) : Option R :=
 match (tt.row t).k with
 | .struct fs => match parts.all (fun p => vaN p.1 fs.length) && fs.all (fun p => !(tt.row p.2).k.isOther) with
  | false => none
  | true => match placeParts (tt.row t).zero (parts.map fun p => ((nth (0,0) fs p.1).1,(tt.row (nth (0,0) fs p.1).2).size,p.2)) with
   | some cs => K (.agg cs)
   | none => none
 | .arr _ e => match (tt.row e).k.isOther with
  | true => none
  | false => match placeParts (tt.row t).zero (parts.map fun p => (p.1 * (tt.row e).size,(tt.row e).size,p.2)) with
   | some cs => K (.agg cs)
   | none => none
 | _ => none
def inOrder : Nat -> List (Nat × V) -> Bool
 | _,[] => true
 | n,p :: r => match vah p.1 n with | true => inOrder (n + 1) r | false => false
def buildSliceV (tt : Tab) (objs : Objs) (nx : Nat) (t len : Nat) (parts : List (Nat × V)) (md : List Nat) (K : V -> Objs -> Nat -> Option R) : Option R :=
 match (tt.row (elemOf tt t)).ty with
 | none => none
 | some e => match vah parts.length len && inOrder 0 parts && vaD (len * e.size) 16777216 && (tt.row t).k.isSl && !(tt.row (elemOf tt t)).k.isOther with
  | false => none
  | true => ofParts objs e (parts.map (·.2)) fun xs f => match allIn f md with
   | true => K (.own nx) ((nx,.row e xs false) :: freezes objs f) (nx + 1)
   | false => none
def fieldAddrV (tt : Tab) (t : Nat) (x : V) (f : Nat) (K : V -> Option R) : Option R :=
 match hasField tt t f && vaD 1 (tt.row (fieldOf tt t f).2).size && !(tt.row (fieldOf tt t f).2).k.isOther with
 | false => none
 | true => match x with
  | .ptr o off => K (.ptr o (off + (fieldOf tt t f).1))
  | .pel o ix es off => K (.pel o ix es (off + (fieldOf tt t f).1))
  | .tp cs => K (.tp (cs.drop (fieldOf tt t f).1))
  | _ => none
def splitIx (n : Int) (K : Nat -> Option R) : Nat -> Nat -> Option R
 | 0,_ => none
 | c + 1,m => br (decide (n = (m : Int))) (K m) (litK (m + 1) fun m => splitIx n K c m)
def arrIx (lit : Bool) (len : Nat) (n : Int) (K : Nat -> Option R) : Option R :=
 match lit with
 | true => match n with
  | .ofNat m => match vaN m len with | true => K m | false => none
  | _ => none
 | false => splitIx n K len 0
def isLit : Operand -> Bool
 | .const _ => true
 | _ => false
def indexAddrV (tt : Tab) (objs : Objs) (lit : Bool) (t : Nat) (x i : V) (K : V → Option R) : Option R :=
  match i with
  | .i _ n => match (tt.row t).k with
    | .sl et => match (tt.row et).k.isOther with
      | true => none
      | false => match x with
        | .dat e xs _ => match vah (tt.row et).size e.size with
          | true => req (0 ≤ n ∧ n < xs.length) (K (.tp (cellsOf e (xs.getD n.toNat e.dflt) false)))
          | false => none
        | .own o => match look .dead objs o with
          | .row e xs fz => match vah (tt.row et).size e.size with
            | true => req (0 ≤ n ∧ n < xs.length) (match fz with
              | true => K (.tp (cellsOf e (xs.getD n.toNat e.dflt) false))
              | false => K (.pel o n.toNat e.size 0))
            | false => none
          | .hole e xs _ _ => match vah (tt.row et).size e.size with
            | true => req (0 ≤ n ∧ n < xs.length) (K (.pel o n.toNat e.size 0))
            | false => none
          | _ => none
        | .sub o es lo hi => match vah (tt.row et).size es with
          | true => req (0 ≤ n ∧ n < ((hi - lo : Nat) : Int)) (match look .dead objs o with
            | .row _ _ false => K (.pel o (lo + n.toNat) es 0)
            | _ => none)
          | false => none
        | _ => none
    | .arr len e => match x with
      | .ptr o off => match (tt.row e).k.isOther with
        | true => none
        | false => arrIx lit len n fun m => K (.ptr o (off + m * (tt.row e).size))
      | _ => none
    | _ => none
  | _ => none
def bound (d : Nat) : Option V -> (Int -> Option R) -> Option R
 | none,K => K d
 | some (.i _ n),K => K n
 | _,_ => none
def TK.isStr : TK -> Bool | .str => true | _ => false
def sliceV (tt : Tab) (objs : Objs) (t : Nat) (x : V) (lo hi : Option V) (K : V → Option R) : Option R :=
  match (tt.row t).k with
  | .str => match x with
    | .s a => bound 0 lo fun l => bound a.size hi fun h => req (0 ≤ l ∧ l ≤ h ∧ h ≤ a.size) (K (.s (a.extract l.toNat h.toNat)))
    | _ => none
  | .sl et => match (tt.row et).k.isOther,(tt.row et).ty with
    | false,some e' => match x with
      | .nilsl => bound 0 lo fun l => bound 0 hi fun h => req (l = 0 ∧ h = 0) (K .nilsl)
      | .dat e xs bor => bound 0 lo fun l => bound xs.length hi fun h => req (0 ≤ l ∧ l ≤ h ∧ h ≤ xs.length) (
          if e' = e then K (.dat e ((xs.take h.toNat).drop l.toNat) bor) else none)
      | .own o => match look .dead objs o with
        | .row e xs fz => bound 0 lo fun l => bound xs.length hi fun h => req (0 ≤ l ∧ l ≤ h ∧ h ≤ xs.length) (
            if e' = e then (match fz with
              | true => K (.dat e ((xs.take h.toNat).drop l.toNat) false)
              | false => K (.sub o e.size l.toNat h.toNat)) else none)
        | _ => none
      | _ => none
    | _,_ => none
  | _ => none
def lenOK (k : TK) : V -> Bool
 | .s _ => k.isStr
 | _ => k.isSl
def lenV (objs : Objs) (x : V) (K : V -> Option R) : Option R :=
 match x with
 | .nilsl => K (.i .i64 0)
 | .dat _ xs _ => K (.i .i64 xs.length)
 | .s a => K (.i .i64 a.size)
 | .own o => match look .dead objs o with | .row _ xs _ => K (.i .i64 xs.length) | _ => none
 | .sub _ _ lo hi => K (.i .i64 ((hi - lo : Nat) : Int))
 | _ => none
def makeSliceV (tt : Tab) (nx : Nat) (t : Nat) (n : V) (K : V -> Objs -> Nat -> Option R) : Option R :=
 match n with
 | .i .i64 n => match (tt.row (elemOf tt t)).ty,(tt.row t).k.isSl && !(tt.row (elemOf tt t)).k.isOther with
  | some e,true => req (0 <= n /\ n <= 281474976710656 /\ (tt.row (elemOf tt t)).bytes * n <= 140737488355328) (K (.own nx) [(nx,.row e (vav n.toNat e.dflt) false)] (nx + 1))
  | _,_ => none
 | _ => none
def mayKeep (e : Ty) (bor : Bool) : Bool := match bor with | false => true | true => e.flat
def lastR : List TRow -> TRow
 | [] => default
 | r :: l => match l with | [] => r | _ :: _ => lastR l
def hasOwn : Nat -> List V -> Bool
 | _,[] => false
 | n,v :: r => match v with | .own m => (match vah m n with | true => true | false => hasOwn n r) | _ => hasOwn n r
def hasNN : Nat -> List V -> Bool
 | _,[] => false
 | n,v :: r => match v with | .ownn m => (match vah m n with | true => true | false => hasNN n r) | _ => hasNN n r
def hintNN (tt : Tab) (d : Option Tmp) : Bool := match d with | some t => hasNN t (lastR tt).zero | none => false
def nnK (b : Bool) (K : V -> Objs -> Nat -> Option R) : V -> Objs -> Nat -> Option R := fun v ch nx => match b with | true => K v.nnOf ch nx | false => K v ch nx
def hintB (tt : Tab) (d : Option Tmp) : Bool := match d with | some t => hasOwn t (lastR tt).zero | none => false
def oldRow (fz : Bool) (e : Ty) (xs : List e.den) : AObj := match fz with | true => .row e xs true | false => .dead
def srcV (tt : Tab) (objs : Objs) (t2 : Nat) (e : Ty) (x : V) (K : List e.den -> Option R) : Option R :=
 match x with
 | .s a => if h : Ty.int .u8 = e then (match (tt.row t2).k.isStr with | true => K (castL h (a.data.toList.map fun b => (b.toNat : Int))) | false => none) else none
 | x => match (tt.row t2).k.isSl with
  | true => asDat objs e x fun ys bor => match mayKeep e bor with
   | true => K ys
   | false => none
  | false => none
def appendV (fz : Bool) (tt : Tab) (objs : Objs) (nx : Nat) (t t2 : Nat) (d x : V) (md : List Nat) (K : V -> Objs -> Nat -> Option R) : Option R :=
 match (tt.row (elemOf tt t)).ty,(tt.row t).k.isSl && !(tt.row (elemOf tt t)).k.isOther with
 | some e,true => srcV tt objs t2 e x fun ys => match d with
   | .nilsl => req (ys.length <= 281474976710656 /\ ys.length * (tt.row (elemOf tt t)).bytes <= 140737488355328) (K (.own nx) [(nx,.row e ys false)] (nx + 1))
   | .own o => match look .dead objs o with
    | .row e' xs false => if h : e' = e then (match elemB o md with
      | true => req (xs.length + ys.length <= 281474976710656 /\ (xs.length + ys.length) * (tt.row (elemOf tt t)).bytes <= 140737488355328) (K (.own nx) [(o,oldRow fz e (castL h xs)),(nx,.row e (castL h xs ++ ys) fz)] (nx + 1))
      | false => none) else none
    | _ => none
   | .sub o es lo hi => match look .dead objs o with
    | .row e' xs false => if h : e' = e then (match !fz && elemB o md && vah lo 0 && vah es e.size with
      | true => req (hi + ys.length <= xs.length) (K (.own nx) [(o,.dead),(nx,.row e ((castL h xs).take hi ++ ys) false)] (nx + 1))
      | false => none) else none
    | _ => none
   | _ => none
 | _,_ => none
def TK.isI64 : TK -> Bool | .int .i64 => true | _ => false
def zerosV (tt : Tab) (t t2 nx : Nat) (d : V) (n : Int) (K : V -> Objs -> Nat -> Option R) : Option R :=
 match (tt.row (elemOf tt t)).ty,(tt.row t).k.isSl && (tt.row t2).k.isI64 && !(tt.row (elemOf tt t)).k.isOther,d with
 | some e,true,.nilsl => req (1 <= n /\ n <= 281474976710656 /\ (tt.row (elemOf tt t)).bytes * n <= 140737488355328) (K (.own nx) [(nx,.row e (vav n.toNat e.dflt) false)] (nx + 1))
 | _,_,_ => none
def copyV (tt : Tab) (objs : Objs) (t : Nat) (d x : V) (md : List Nat) (K : V -> Objs -> Option R) : Option R :=
 match (tt.row (elemOf tt t)).ty,(tt.row t).k.isSl && !(tt.row (elemOf tt t)).k.isOther with
 | some e,true => asDat objs e x fun ys bor => match mayKeep e bor with
  | false => none
  | true => match d with
   | .own o => match look .dead objs o with
    | .row e' xs false => if h : e' = e then (match elemB o md with
     | true => K (.i .i64 (min ys.length xs.length : Nat)) [(o,.row e (ys.take xs.length ++ (castL h xs).drop ys.length) false)]
     | false => none) else none
    | _ => none
   | .sub o es lo hi => match look .dead objs o with
    | .row e' xs false => if h : e' = e then (match elemB o md && vah es e.size with
     | true => K (.i .i64 (min ys.length (hi - lo) : Nat)) [(o,.row e ((castL h xs).take lo ++ ys.take (hi - lo) ++ (castL h xs).drop (lo + min ys.length (hi - lo))) false)]
     | false => none) else none
    | _ => none
   | .nilsl => K (.i .i64 0) []
   | _ => none
 | _,_ => none
def decD : Nat -> V -> Option DTy
 | 0,_ => none
 | n + 1,v => match v with
  | .nd _ e _ => some (.dat e)
  | .dat e _ _ => some (.row e)
  | .tup [.b ka,.dat k _ _,.b ea,.dat e _ _] => some (.map ka k ea e)
  | .agg [a,b] => match decD n a,decD n b with
   | some x,some y => some (.pair x y)
   | _,_ => none
  | _ => none
def hasDeep : Nat -> List V -> Option DTy
 | _,[] => none
 | n,v :: r => match v with
  | .tup [.own m,x] => (match vah m n with | true => decD 20 x | false => hasDeep n r)
  | _ => hasDeep n r
def hintD (tt : Tab) (d : Option Tmp) : Option DTy := match d with | some t => hasDeep t (lastR tt).zero | none => none
def buildSliceN (tt : Tab) (nx : Nat) (d : DTy) (t len : Nat) (parts : List (Nat × V)) (K : V -> Objs -> Nat -> Option R) : Option R :=
 match parts with
 | [p] => match vah len 1 && vah p.1 0 && vaD d.size 16777216 && vaD 1 d.size && (tt.row t).k.isSl && !(tt.row (elemOf tt t)).k.isOther && vah (tt.row (elemOf tt t)).size d.size && vah (vcells p.2).length d.size && (vcells p.2).all V.isC && !decide (d.er = .int .u8) with
  | true => K (.own nx) [(nx,.nest (.hole d [d.dflt] 0 (vcells p.2)))] (nx + 1)
  | false => none
 | _ => none
def makeSliceN (tt : Tab) (nx : Nat) (d : DTy) (t : Nat) (n : V) (K : V -> Objs -> Nat -> Option R) : Option R :=
 match n with
 | .i .i64 n => match (tt.row (elemOf tt t)).ty,(tt.row t).k.isSl && !(tt.row (elemOf tt t)).k.isOther && d.noMap with
  | some e,true => if e = d.er then req (0 <= n /\ n <= 281474976710656 /\ (tt.row (elemOf tt t)).bytes * n <= 140737488355328) (K (.own nx) [(nx,.nest (.row d (vav n.toNat d.dflt)))] (nx + 1)) else none
  | _,_ => none
 | _ => none
def makeSliceX (tt : Tab) (nx : Nat) (h : Option DTy) (t : Nat) (n : V) (K : V -> Objs -> Nat -> Option R) : Option R :=
 match h with
 | some d => makeSliceN tt nx d t n K
 | none => makeSliceV tt nx t n K
def castD {d d' : DTy} (h : d' = d) (xs : List d'.den) : List d.den := h ▸ xs
def appendN (tt : Tab) (objs : Objs) (nx t t2 : Nat) (d x : V) (md : List Nat) (K : V -> Objs -> Nat -> Option R) : Option R :=
 match x with
 | .own o2 => shutN objs o2 fun ch0 => appF ch0 objs fun objs1 =>
  match look .dead objs1 o2,(tt.row t).k.isSl && (tt.row t2).k.isSl && !(tt.row (elemOf tt t)).k.isOther && elemB o2 md && allIn (ch0.map (·.1)) md with
  | .nest (.row dt ys),true => match vah (tt.row (elemOf tt t)).size dt.size && !decide (dt.er = .int .u8) with
   | false => none
   | true => match d with
    | .nilsl => req (ys.length <= 281474976710656 /\ ys.length * (tt.row (elemOf tt t)).bytes <= 140737488355328) (appF ((nx,.nest (.row dt ys)) :: deads [o2]) ch0 fun ch => K (.own nx) ch (nx + 1))
    | .own o1 => match look .dead objs1 o1 with
     | .nest (.row dt' xs) => if h : dt' = dt then (match elemB o1 md && !Nat.beq o1 o2 with
      | true => req (xs.length + ys.length <= 281474976710656 /\ (xs.length + ys.length) * (tt.row (elemOf tt t)).bytes <= 140737488355328) (appF ((nx,.nest (.row dt (castD h xs ++ ys))) :: deads [o1,o2]) ch0 fun ch => K (.own nx) ch (nx + 1))
      | false => none) else none
     | _ => none
    | _ => none
  | _,_ => none
 | _ => none
def minMaxF (mx : Bool) (k : IntKind) : Int -> List V -> (V -> Option R) -> Option R
 | a,[],K => K (.i k a)
 | a,.i k' b :: r,K => if k = k' then minMaxF mx k (match mx with | true => (if a < b then b else a) | false => (if b < a then b else a)) r K else none
 | _,_,_ => none
def minMax (mx : Bool) : List V -> (V -> Option R) -> Option R
 | .i k a :: r,K => minMaxF mx k a r K
 | _,_ => none
def rangeV (tt : Tab) (t nx : Nat) (x : V) (K : V -> Objs -> Nat -> Option R) : Option R :=
 match (tt.row t).k.isStr,x with
 | true,.s a => K (.ptr nx 0) [(nx,.ext (.iter a 0))] (nx + 1)
 | _,_ => none
def nextV (objs : Objs) (nx : Nat) (it : V) (isS : Bool) (md : List Nat) (K : V -> Objs -> Nat -> Option R) : Option R :=
 match isS,it with
 | true,.ptr o off => match look .dead objs o with
  | .ext (.iter s p) => match vah off 0 && elemB o md with
   | true => br (decide (p < s.size)) (K (.tup [.b true,.i .i64 p,.i .i32 (Utf8.decode s p).1]) [(o,.ext (.iter s (p + (Utf8.decode s p).2)))] nx) (K (.tup [.b false]) [] nx)
   | false => none
  | _ => none
 | _,_ => none
def TK.isRune : TK -> Bool | .int .i32 => true | _ => false
def TK.isByte : TK -> Bool | .int .u8 => true | _ => false
def convV (tt : Tab) (objs : Objs) (src t : Nat) (x : V) (K : V -> Option R) : Option R :=
 match (tt.row src).k.isOther with
 | true => none
 | false => match (tt.row t).k,x with
  | .int k,.i _ n => K (.i k (k.wrap n))
  | .str,.i _ n => K (.s (Utf8.encode n))
  | .str,.s a => K (.s a)
  | .str,v => match (tt.row src).k with
   | .sl e => match (tt.row e).k.isRune with
    | true => asDat objs (.int .i32) v fun xs _ => K (.s (runesBytes xs))
    | false => match (tt.row e).k.isByte with
     | true => asDat objs (.int .u8) v fun xs _ => K (.s (strOfNums xs))
     | false => none
   | _ => none
  | _,_ => none
def keyEq : (t : Ty) -> t.den -> t.den -> Bool
 | .int _,a,b => decide ((a : Int) = b)
 | .pair s t,a,b => match keyEq s a.1 b.1 with | true => keyEq t a.2 b.2 | false => false
 | .unit,_,_ => true
 | _,_,_ => false
def ints (q : IntKind) : Nat -> Ty
 | 0 => .unit
 | 1 => .int q
 | n + 2 => .pair (.int q) (ints q (n + 1))
def keyB (tt : Tab) (kt : Nat) (ka : Bool) (k : Ty) : Bool :=
 match (tt.row kt).k with
 | .int q => !ka && decide (k = .int q)
 | .arr n e => match (tt.row e).k with
  | .int q => ka && decide (k = ints q n) && vah (tt.row e).size 1
  | _ => false
 | _ => false
def valB (tt : Tab) (t : Nat) (ag : Bool) (e : Ty) : Bool :=
  !(tt.row t).k.isOther && (tt.isAgg t == ag) && (match (tt.row t).ty with
    | some e' => decide (e' = e)
    | none => ag && vah (tt.row t).size 0 && decide (e = .unit))
def keyTy (tt : Tab) (kt : Nat) : Ty :=
 match (tt.row kt).k with
 | .int q => .int q
 | .arr n e => match (tt.row e).k with | .int q => ints q n | _ => .unit
 | _ => .unit
def valTy (tt : Tab) (t : Nat) : Ty := match (tt.row t).ty with | some e => e | none => .unit
def mget {k e : Ty} : List (k.den × e.den) -> k.den -> Option e.den
 | [],_ => none
 | x :: r,a => match keyEq k a x.1 with | true => some x.2 | false => mget r a
def mset {k e : Ty} : List (k.den × e.den) -> k.den -> e.den -> List (k.den × e.den)
 | [],a,v => [(a,v)]
 | x :: r,a,v => match keyEq k a x.1 with | true => (a,v) :: r | false => x :: mset r a v
def mdel {k e : Ty} : List (k.den × e.den) -> k.den -> List (k.den × e.den)
 | [],_ => []
 | x :: r,a => match keyEq k a x.1 with | true => r | false => x :: mdel r a
open Classical in
@[irreducible] def everyK (n : Nat) (f : Nat -> Option R) : Option R := if h : ∃ r,∀ i,i < n -> f i = some r then some h.choose else none
def rngOf (objs : Objs) (it : Nat) : Objs -> Option Nat
 | [] => none
 | c :: r => match look .dead objs c.1 with
  | .nest (.rng p _ _ _ _ _ _ _) => match vah p it with | true => some c.1 | false => rngOf objs it r
  | _ => rngOf objs it r
def isAggV : V -> Bool
 | .agg _ => true
 | _ => false
def mkVal (ag : Bool) (cs : List V) (K : V -> Option R) : Option R :=
 match ag with
 | true => K (.agg cs)
 | false => match cs with
  | [c] => K c
  | _ => none
def keyV (objs : Objs) (ka : Bool) (k : Ty) (v : V) (K : k.den -> Option R) : Option R :=
 match (isAggV v == ka) && (vcells v).all V.isC with
 | true => ofCells objs k (vcells v) fun x rest f => match rest,f with
  | [],[] => K x
  | _,_ => none
 | false => none
def makeMapV (tt : Tab) (t nx : Nat) (hint : Option Operand) (K : V -> Objs -> Nat -> Option R) : Option R :=
 match (tt.row t).k,hint with
 | .map kt et,none => K (.own nx) [(nx,.ext (.map (tt.isAgg kt) (keyTy tt kt) (tt.isAgg et) (valTy tt et) []))] (nx + 1)
 | _,_ => none
def rangeMapV (tt : Tab) (objs : Objs) (t nx : Nat) (m : V) (md : List Nat) (K : V -> Objs -> Nat -> Option R) : Option R :=
 match (tt.row t).k,m with
 | .map _ _,.own o => match look .dead objs o with
  | .ext (.map ka k ea e xs) => match elemB o md with
   | true => K (.ptr nx 0) [(o,.nest (.rng nx ka k ea e xs xs none)),(nx,.dead)] (nx + 1)
   | false => none
  | _ => none
 | _,_ => none
def nextMapV (objs : Objs) (nx : Nat) (it : V) (md : List Nat) (K : V -> Objs -> Nat -> Option R) : Option R :=
 match it with
 | .ptr p off => match rngOf objs p objs with
  | some o => match look .dead objs o with
   | .nest (.rng q ka k ea e xs rest _) => match vah off 0 && vah q p && elemB o md with
    | true => br rest.isEmpty (K (.tup [.b false]) [(o,.ext (.map ka k ea e xs))] nx)
      (everyK rest.length fun i => K (.tup [.b true,.undef,.undef]) [(o,.nest (.rng q ka k ea e xs (rest.eraseIdx i) (some (rest.getD i (k.dflt,e.dflt)))))] nx)
    | false => none
   | _ => none
  | none => none
 | _ => none
def entryV (objs : Objs) (it : V) (K : V -> Option R) : Option R :=
 match it with
 | .ptr p off => match rngOf objs p objs with
  | some o => match look .dead objs o with
   | .nest (.rng q ka k ea e _ _ (some x)) => match vah off 0 && vah q p with
    | true => mkVal ka (cellsOf k x.1 false) fun u => mkVal ea (cellsOf e x.2 false) fun v => K (.tup [u,v])
    | false => none
   | _ => none
  | none => none
 | _ => none
def lookupV (tt : Tab) (objs : Objs) (t : Nat) (m i : V) (ok : Bool) (K : V -> Option R) : Option R :=
 match (tt.row t).k,m with
 | .map kt et,.own o => match look .dead objs o with
  | .ext (.map ka k ea e xs) => match keyB tt kt ka k && valB tt et ea e with
   | true => keyV objs ka k i fun x => mkVal ea (cellsOf e ((mget xs x).getD e.dflt) false) fun v => match ok with
    | true => K (.tup [v,.b (mget xs x).isSome])
    | false => K v
   | false => none
  | _ => none
 | _,_ => none
def mapUpdateV (tt : Tab) (objs : Objs) (t : Nat) (m i v : V) (md : List Nat) (K : Objs -> Option R) : Option R :=
 match (tt.row t).k,m with
 | .map kt et,.own o => match look .dead objs o with
  | .ext (.map ka k ea e xs) => match keyB tt kt ka k && valB tt et ea e && (isAggV v == ea) && (vcells v).all V.isC with
   | true => keyV objs ka k i fun x => ofCells objs e (vcells v) fun y rest f => match rest with
    | [] => match elemB o md && allIn f md && !elemB o f with
     | true => K ((o,.ext (.map ka k ea e (mset xs x y))) :: freezes objs f)
     | false => none
    | _ => none
   | false => none
  | _ => none
 | _,_ => none
def deleteV (tt : Tab) (objs : Objs) (t : Nat) (m i : V) (md : List Nat) (K : Objs -> Option R) : Option R :=
 match (tt.row t).k,m with
 | .map kt et,.own o => match look .dead objs o with
  | .ext (.map ka k ea e xs) => match keyB tt kt ka k && elemB o md with
   | true => keyV objs ka k i fun x => K [(o,.ext (.map ka k ea e (mdel xs x)))]
   | false => none
  | _ => none
 | _,_ => none
def TK.isMap : TK -> Bool | .map _ _ => true | _ => false
def lenMapV (objs : Objs) (m : V) (K : V -> Option R) : Option R :=
 match m with
 | .own o => match look .dead objs o with
  | .ext (.map _ _ _ _ xs) => K (.i .i64 xs.length)
  | _ => none
 | _ => none
def evOp (tt : Tab) (Γ : FEnv) (env : Env) (objs : Objs) (nx : Nat) (md : List Nat) (o : Oper) (K : V → Objs → Nat → Option R) : Option R :=
  let K0 (v : V) : Option R := K v [] nx
  match o.op with
  | .move x | .assign x => K0 (rawO env x)
  | .pick c a b => match evalO env c with
    | .b x => br x (K0 (rawO env a)) (K0 (rawO env b))
    | _ => none
  | .alloc t => match (tt.row t).k.isOther with
    | true => none
    | false => K (.ptr nx 0) [(nx,.var t (tt.row t).zero)] (nx + 1)
  | .box t x => match (vcells (evalO env x)).all V.isC with
    | true => K (.ptr nx 0) [(nx,.var t (vcells (evalO env x)))] (nx + 1)
    | false => none
  | .build t parts => buildV tt t (parts.toList.map fun p => (p.1,evalO env p.2)) K0
  | .buildSlice t len parts => match hintD tt o.dst with
    | some d => buildSliceN tt nx d t len (parts.toList.map fun p => (p.1,evalO env p.2)) K
    | none => buildSliceV tt objs nx t len (parts.toList.map fun p => (p.1,evalO env p.2)) md (nnK (hintNN tt o.dst) K)
  | .load t a => match nestB objs (evalO env a) with
    | true => loadN tt objs nx t (evalO env a) md K
    | false => loadV tt objs t (evalO env a) K0
  | .store t a v => match hintB tt (match a with | .tmp s => some s | _ => none) with
    | true => storeHV tt objs t (evalO env a) (evalO env v) md fun ch => K .undef ch nx
    | false => match nestB objs (evalO env a) with
      | true => storeN tt objs nx t (evalO env a) (evalO env v) md fun ch nx => K .undef ch nx
      | false => storeV tt objs t (evalO env a) (evalO env v) md fun ch => K .undef ch nx
  | .nilCheck x => match evalO env x with
    | .ptr o off => K0 (.ptr o off)
    | .pel o ix es off => K0 (.pel o ix es off)
    | .tp cs => K0 (.tp cs)
    | .fn f cs => K0 (.fn f cs)
    | _ => none
  | .binOp op t x y _ => match evalO env x with
    | .err e => match isNilIface y with | true => errV tt t op e K0 | false => none
    | vx => binV tt t objs op vx (evalO env y) K0
  | .unOp op _ x => unV op (evalO env x) K0
  | .convert src t x => convV tt objs src t (evalO env x) K0
  | .makeFunc (.func f) first caps => match first.toList with
    | [] => K0 (.fn f (caps.toList.map (evalO env)))
    | _ => none
  | .makeSlice t l c => match l,c with
    | .tmp a,.tmp b => match vah a b with | true => makeSliceX tt nx (hintD tt o.dst) t (evalO env l) K | false => none
    | .const (.int .i64 (.ofNat a)),.const (.int .i64 (.ofNat b)) => match vah a b with | true => makeSliceX tt nx (hintD tt o.dst) t (evalO env l) K | false => none
    | _,_ => none
  | .slice t x lo hi none => sliceV tt objs t (evalO env x) (lo.map (evalO env)) (hi.map (evalO env)) K0
  | .fieldAddr t x f => fieldAddrV tt t (evalO env x) f K0
  | .field t x f => match evalO env x with
    | .agg cs => match hasField tt t f with
      | true => match (tt.row (fieldOf tt t f).2).k.isOther with
       | true => none
       | false => match tt.isAgg (fieldOf tt t f).2 with
        | true => match vaD ((fieldOf tt t f).1 + (tt.row (fieldOf tt t f).2).size) cs.length with
          | true => K0 (.agg ((cs.drop (fieldOf tt t f).1).take (tt.row (fieldOf tt t f).2).size))
          | false => none
        | false => match cs.drop (fieldOf tt t f).1 with | c :: _ => K0 c | [] => none
      | false => none
    | _ => none
  | .indexAddr t x i => match nestB objs (evalO env x) with
    | true => indexAddrN tt objs t (evalO env x) (evalO env i) K0
    | false => indexAddrV tt objs (isLit i) t (evalO env x) (evalO env i) K0
  | .index t x i => match (tt.row t).k.isStr,evalO env x,evalO env i with
    | true,.s a,.i _ n => req (0 ≤ n ∧ n < a.size) (K0 (.i .u8 (a.data.getD n.toNat 0).toNat))
    | _,_,_ => none
  | .extract t n => match evalO env t with
    | .tup vs => match vs.drop n with | v :: _ => K0 v | [] => none
    | _ => none
  | .call c => match c.callee with
    | .value f => match evalO env f with
      | .fn g caps => shutC objs md (c.args.toList.map (evalO env)) caps fun ch0 => match ch0 with
        | [] => callF Γ g (c.args.toList.map (rawO env) ++ caps) objs nx md K
        | d :: r => appF (d :: r) objs fun objs1 => callF Γ g (c.args.toList.map (rawO env) ++ caps) objs1 nx md fun v ch nx => appF ch (d :: r) fun ch => K v ch nx
      | _ => none
    | .builtin .len => match c.args.toList,c.argTypes.toList with
      | [x],[t] => match (tt.row t).k.isMap with
        | true => lenMapV objs (evalO env x) K0
        | false => match lenOK (tt.row t).k (evalO env x) with
          | true => match nestB objs (evalO env x) with | true => lenN objs (evalO env x) K0 | false => lenV objs (evalO env x) K0
          | false => none
      | _,_ => none
    | .builtin .cap => match c.args.toList,c.argTypes.toList with
      | [x],[t] => match (tt.row t).k.isSl,evalO env x with | true,.nilsl => K0 (.i .i64 0) | _,_ => none
      | _,_ => none
    | .builtin .delete => match c.args.toList,c.argTypes.toList with
      | [d,x],[t,_] => deleteV tt objs t (evalO env d) (evalO env x) md fun ch => K (.tup []) ch nx
      | _,_ => none
    | .builtin .append => match c.args.toList,c.argTypes.toList with
      | [d,x],[t,t2] => match evalO env x with
        | .i .i64 n => zerosV tt t t2 nx (evalO env d) n K
        | x => match nestB objs x with
         | true => appendN tt objs nx t t2 (evalO env d) x md K
         | false => match hintB tt o.dst with
          | true => appendV true tt objs nx t t2 (evalO env d) x md (nnK (rawO env d).isNN K)
          | false => appendV false tt objs nx t t2 (evalO env d) x md (nnK (rawO env d).isNN K)
      | _,_ => none
    | .builtin .copy => match c.args.toList,c.argTypes.toList with
      | [d,x],[t,_] => copyV tt objs t (evalO env d) (evalO env x) md fun v ch => K v ch nx
      | _,_ => none
    | .builtin .min => minMax false (c.args.toList.map (evalO env)) K0
    | .builtin .max => minMax true (c.args.toList.map (evalO env)) K0
    | _ => none
  | .range t x => match (tt.row t).k.isMap with
    | true => rangeMapV tt objs t nx (evalO env x) md K
    | false => rangeV tt t nx (evalO env x) K
  | .next it isS => match isS with
    | true => nextV objs nx (evalO env it) true md K
    | false => nextMapV objs nx (evalO env it) md K
  | .entry it => entryV objs (evalO env it) K0
  | .makeMap t r => makeMapV tt t nx r K
  | .lookup t m i ok => lookupV tt objs t (evalO env m) (evalO env i) ok K0
  | .mapUpdate t m i v => mapUpdateV tt objs t (evalO env m) (evalO env i) (evalO env v) md fun ch => K .undef ch nx
  | _ => none
end
end Go.Vm

namespace Go.Vm
open Go
noncomputable section
def okDst (n : Nat) : Option Tmp -> Bool
 | some t => vaN t n
 | none => true
def putE (env : Env) (dst : Option Tmp) (v : V) : Env := match dst with | some t => (t,v) :: env | none => env
def evGuard (tt : Tab) (Γ : FEnv) (ops : List Oper) (env : Env) (objs : Objs) (nx : Nat) (md : List Nat) (o : Oper) (K : V -> Objs -> Nat -> Option R) : Option R :=
 match o.guard with
 | none => evOp tt Γ env objs nx md o K
 | some (j,want) => match (ops[j]?).bind (·.dst) with
  | some t => match look .undef env t,want with
   | .b x,true => br x (evOp tt Γ env objs nx md o K) (K (.tup []) [] nx)
   | .b x,false => br x (K (.tup []) [] nx) (evOp tt Γ env objs nx md o K)
   | .tup [],_ => K (.tup []) [] nx
   | _,_ => none
  | none => none
def evSeq (tt : Tab) (Γ : FEnv) (ops : List Oper) : List Oper -> St -> (St -> Option R) -> Option R
 | [],σ,K => K σ
 | o :: r,σ,K => match okDst σ.n o.dst with
  | true => evGuard tt Γ ops σ.env σ.objs σ.nx (vaQ σ.nx) o fun v ch nx => evSeq tt Γ ops r ⟨putE σ.env o.dst v,ch ++ σ.objs,nx,σ.n⟩ K
  | false => none
def enc (v : V) (ch : Objs) (nx : Nat) : Option R := some (.tup (v :: .own nx :: ch.map fun c => .own c.1),ch.map (·.2))
def unz : List V -> List AObj -> Objs
 | .own o :: ids,x :: xs => (o,x) :: unz ids xs
 | _,_ => []
def andK (x : Option R) (K : V -> Objs -> Nat -> Option R) : Option R :=
 match x with
 | some (.tup (v :: .own nx :: ids),xs) => K v (unz ids xs) nx
 | _ => none
theorem qiH : ∀ ch : Objs,unz (ch.map fun c => .own c.1) (ch.map (·.2)) = ch
 | [] => rfl
 | c :: r => by show (c.1,c.2) :: unz _ _ = _; rw [qiH r]
theorem qov (v : V) (ch : Objs) (nx : Nat) (K : V -> Objs -> Nat -> Option R) : andK (enc v ch nx) K = K v ch nx := by
 show K v (unz _ _) nx = _
 rw [qiH]
theorem qnF {x : Option R} {K : V -> Objs -> Nat -> Option R} {r : R} (h : andK x K = some r) : ∃ r0 v ch nx,x = some r0 /\ K v ch nx = some r /\ ∀ v' ch' nx',enc v' ch' nx' = some r0 -> v' = v /\ ch' = ch /\ nx' = nx := by
 unfold andK at h
 split at h
 ·rename_i v nx ids xs
  refine ⟨_,v,unz ids xs,nx,rfl,h,fun v' ch' nx' he => ?_⟩
  have h1 : (V.tup (v' :: .own nx' :: ch'.map fun c => .own c.1),ch'.map (·.2)) = (V.tup (v :: .own nx :: ids),xs) := Option.some.inj he
  have h2 := congrArg Prod.fst h1
  have h3 := congrArg Prod.snd h1
  dsimp only at h2 h3
  injection h2 with h2
  injection h2 with h4 h2
  injection h2 with h5 h2
  injection h5 with h5
  exact ⟨h4,by rw [<- qiH ch',h2,h3],h5⟩
 ·cases h
attribute [irreducible] enc andK
def depOf (acc : List Nat) : List Edge -> Nat -> Nat
 | [],m => m
 | e :: r,m => match Region.binds .any e with
  | true => depOf acc r (m ||| (1 <<< e.on) ||| nth 0 acc e.on)
  | false => depOf acc r m
def depsOf : List Oper -> List Nat -> List Nat
 | [],acc => acc
 | o :: r,acc => depsOf r (acc ++ [depOf acc o.after.toList 0])
def dep (ds : List Nat) (i j : Nat) : Bool := (nth 0 ds i).testBit j
def side (ds : List Nat) (i j : Nat) : Bool := !Nat.beq i j && !dep ds i j && !dep ds j i
def peekV (tt : Tab) (objs : Objs) (env : Env) (o : Oper) : V :=
 match o.op with
 | .move x | .assign x => rawO env x
 | .nilCheck x => evalO env x
 | .fieldAddr t x f => match evalO env x with
  | .ptr o off => .ptr o (off + (fieldOf tt t f).1)
  | .pel o ix es off => .pel o ix es (off + (fieldOf tt t f).1)
  | _ => .undef
 | .load t x => match tt.isAgg t,evalO env x with
  | false,.ptr o off => match look .dead objs o with | .var _ cs => getC cs off | _ => .undef
  | false,.pel o _ _ off => match look .dead objs o with | .nest (.hole _ _ _ cs) => getC cs off | _ => .undef
  | true,.ptr o off => match look .dead objs o with | .var _ cs => .agg ((cs.drop off).take (tt.row t).size) | _ => .undef
  | _,_ => .undef
 | .indexAddr _ x _ => match evalO env x with
  | .own o => .pel o 0 0 0
  | .sub o _ _ _ => .pel o 0 0 0
  | .ptr o off => .ptr o off
  | _ => .undef
 | .slice _ x _ _ _ => match evalO env x with
  | .own o => .sub o 0 0 0
  | _ => .undef
 | _ => .undef
def peekE (tt : Tab) (objs : Objs) : List Oper -> Env -> Env
 | [],env => env
 | o :: r,env => peekE tt objs r (putE env o.dst (peekV tt objs env o))
def opensB (objs : Objs) : V -> List Nat
 | .pel o _ _ off => match look .dead objs o with
  | .nest (.row d _) => match (flatC d d.dflt).drop off with | .hid :: _ => [o] | _ => []
  | _ => []
 | _ => []
def deepSrc (objs : Objs) : V -> List Nat
 | .own o => match look .dead objs o with
  | .nest x => o :: (AObj.nest x).ids
  | _ => []
 | _ => []
def mdOf (objs : Objs) (env : Env) (o : Oper) : List Nat :=
 match o.op with
 | .load _ a => opensB objs (evalO env a)
 | .store _ a v => (match evalO env a with | .ptr o _ => [o] | .pel o _ _ _ => [o] | _ => []) ++ owned objs (evalO env v)
 | .buildSlice _ _ ps => ownedL objs (ps.toList.map fun p => evalO env p.2)
 | .next it _ => (match evalO env it with | .ptr o _ => [o] | _ => [])
 | .mapUpdate _ m _ v => (match evalO env m with | .own o => [o] | _ => []) ++ owned objs (evalO env v)
 | .call c => match c.callee with
  | .builtin .append | .builtin .copy | .builtin .delete => match c.args.toList with
   | x :: r => (match evalO env x with | .own o => [o] | .sub o _ _ _ => [o] | _ => []) ++ (match r with | y :: _ => deepSrc objs (evalO env y) | [] => [])
   | [] => []
  | .value f => (match evalO env f with | .fn _ caps => reach objs 100 (V.idsL caps ++ V.idsL (c.args.toList.map (evalO env))) [] | _ => []) ++ ownedL objs (c.args.toList.map (evalO env))
  | _ => []
 | _ => []
structure Rec where
 dst : Option Tmp
 v : V
 ch : Objs
 lo : Nat
 hi : Nat
def envOn (p : Nat -> Bool) : Nat -> List Rec -> Env -> Env
 | _,[],env => env
 | j,r :: rs,env => envOn p (j + 1) rs (match p j with | true => putE env r.dst r.v | false => env)
def objsOn (p : Nat -> Bool) : Nat -> List Rec -> Objs -> Objs
 | _,[],objs => objs
 | j,r :: rs,objs => objsOn p (j + 1) rs (match p j with | true => r.ch ++ objs | false => objs)
def hideE (ds : List Nat) (i : Nat) : Nat -> List Oper -> Env -> Env
 | _,[],env => env
 | j,o :: r,env => hideE ds i (j + 1) r (match side ds i j with | true => putE env o.dst .undef | false => env)
def hideO (ds : List Nat) (i : Nat) : Nat -> List (List Nat) -> Objs -> Objs
 | _,[],objs => objs
 | j,md :: r,objs => hideO ds i (j + 1) r (match side ds i j with | true => md.map (fun o => (o,AObj.dead)) ++ objs | false => objs)
def dstNe : Option Tmp -> Option Tmp -> Bool
 | some a,some b => !Nat.beq a b
 | _,_ => true
def apartOK (ds : List Nat) (ops : List Oper) : Nat -> Nat -> Bool
 | 0,_ => true
 | i + 1,n => (vaQ n).all (fun j => !side ds i j || dstNe (nth none (ops.map (·.dst)) i) (nth none (ops.map (·.dst)) j)) && apartOK ds ops i n
def depsOK (ds : List Nat) : Nat -> List Oper -> Bool
 | _,[] => true
 | i,o :: r => match vah (nth 0 ds i) (depOf ds o.after.toList 0) && vaN (nth 0 ds i) (1 <<< i) with | true => depsOK ds (i + 1) r | false => false
def seenIn (ds : List Nat) (i : Nat) : Nat -> List Rec -> Nat -> Bool
 | _,[],_ => false
 | j,r :: rs,o => (dep ds i j && vaD r.lo o && vaN o r.hi) || seenIn ds i (j + 1) rs o
def seenB (ds : List Nat) (nx0 i lo hi : Nat) (recs : List Rec) (o : Nat) : Bool := vaN o nx0 || (vaD lo o && vaN o hi) || seenIn ds i 0 recs o
def clashOK (ds : List Nat) (nx0 i n : Nat) : Nat -> List Rec -> Objs -> Bool
 | _,[],_ => true
 | j,r :: rs,ch => (match ch.any fun c => r.ch.any fun d => vah d.1 c.1 with
  | false => true
  | true => !side ds i j) && (match ch.any fun c => vaD nx0 c.1 && r.ch.any fun d => vah d.1 c.1 with
  | false => true
  | true => (vaQ n).all fun k => !dep ds k j || !side ds i k) && clashOK ds nx0 i n (j + 1) rs ch
def chOK (ds : List Nat) (md : List Nat) (nx0 i n lo hi : Nat) (recs : List Rec) (v : V) (ch : Objs) : Bool :=
 vaD lo hi && (V.ids v).all (seenB ds nx0 i lo hi recs) && ch.all (fun c => seenB ds nx0 i lo hi recs c.1 && c.2.ids.all (seenB ds nx0 i lo hi recs) && (match vaN c.1 nx0 with | true => elemB c.1 md | false => true)) && clashOK ds nx0 i n 0 recs ch
def mdAt (mds : List (List Nat)) (nx0 i lo : Nat) : List Nat := nth [] mds i ++ (vaQ lo).filter (fun n => vaD nx0 n)
def evDraw (tt : Tab) (Γ : FEnv) (ops : List Oper) (ds : List Nat) (mds : List (List Nat)) (σ : St) : List Oper -> Nat -> Nat -> List Rec -> (St -> Option R) -> Option R
 | [],_,nx,recs,K => K ⟨envOn (fun _=>true) 0 recs σ.env,objsOn (fun _=>true) 0 recs σ.objs,nx,σ.n⟩
 | o :: r,i,nx,recs,K =>
  andK (evGuard tt Γ ops (hideE ds i 0 ops (envOn (dep ds i) 0 recs σ.env)) (hideO ds i 0 (recs.map fun r => r.ch.map (·.1)) (hideO ds i 0 mds (objsOn (dep ds i) 0 recs σ.objs))) nx (mdAt mds σ.nx i nx) o enc) fun v ch nx' =>
   match chOK ds (nth [] mds i) σ.nx i i nx nx' recs v ch with
   | true => evDraw tt Γ ops ds mds σ r (i + 1) nx' (recs ++ [⟨o.dst,v,ch,nx,nx'⟩]) K
   | false => none
def evRegion (tt : Tab) (Γ : FEnv) (ops : List Oper) (draw : Bool) (σ : St) (K : St -> Option R) : Option R :=
 match ops.all (fun o => okDst σ.n o.dst) with
 | false => none
 | true => match draw with
  | false => evSeq tt Γ ops ops σ K
  | true =>
   let ds := depsOf ops []
   let pe := peekE tt σ.objs ops σ.env
   let mds := ops.map (mdOf σ.objs pe)
   match apartOK ds ops ops.length ops.length && depsOK ds 0 ops with
   | true => evDraw tt Γ ops ds mds σ ops 0 σ.nx [] K
   | false => none
inductive Xt where
 | normal | exit (id : Nat) | ret
abbrev LoopF := Code -> St -> (Xt -> St -> Option R) -> Option R
def evB (tt : Tab) (Γ : FEnv) (L : LoopF) : Code -> St -> (Xt -> St -> Option R) -> Option R
 | .skip,σ,K => K .normal σ
 | .region _ ops draw,σ,K => evRegion tt Γ ops.toList draw σ (K .normal)
 | .seq a b,σ,K => evB tt Γ L a σ fun
  | .normal,σ' => evB tt Γ L b σ' K
  | e,σ' => K e σ'
 | .cond c a b,σ,K => match evalO σ.env c with
  | .b x => br x (evB tt Γ L a σ K) (evB tt Γ L b σ K)
  | _ => none
 | .block id c,σ,K => evB tt Γ L c σ fun
  | .exit id',σ' => match vah id' id with | true => K .normal σ' | false => K (.exit id') σ'
  | e,σ' => K e σ'
 | .loop c,σ,K => L c σ K
 | .exit id,σ,K => K (.exit id) σ
 | .ret,σ,K => K .ret σ
 | _,_,_ => none
def firstReg : Code -> Nat
 | .region id _ _ => id
 | .seq a _ => firstReg a
 | .block _ c => firstReg c
 | .loop c => firstReg c
 | .cond _ a _ => firstReg a
 | _ => 0
def frontOK : Nat -> Nat -> List Nat -> Bool
 | _,0,_ => true
 | k,n + 1,i :: r => match vah i k with | true => frontOK (k + 1) n r | false => false
 | _,_ + 1,[] => false
def keepOK (base : Nat) (objs : Objs) (nx : Nat) (ids : List Nat) : Bool := nodupB ids && allLt nx ids && smallOK objs ids ids && frontOK 0 base ids
def lessObjs (objs : Objs) (ids : List Nat) : List AObj := ids.map fun o => (look .dead objs o).ren (posOf ids)
def keptIds (base : Nat) (objs : Objs) (vs : List V) : List Nat := reach objs 100 (vaQ base ++ V.idsL vs) []
def normSt (base : Nat) (live : List Nat) (σ : St) : St :=
 let vs := live.map (look .undef σ.env)
 let ids := keptIds base σ.objs vs
 ⟨live.zip (V.renL (posOf ids) vs),(vaQ ids.length).zip (lessObjs σ.objs ids),ids.length,σ.n⟩
def normOK (base : Nat) (live : List Nat) (σ : St) : Bool :=
 let vs := live.map (look .undef σ.env)
 let ids := keptIds base σ.objs vs
 allIn (V.idsL vs) ids && keepOK base σ.objs σ.nx ids
inductive Cm where
 | own (e : Ty) | dat (e : Ty) | cut | fz (e : Ty) | trim | selfp (o : Nat) | shut | nd (e : Ty) | ownd (d : DTy) | anew | kill (o : Nat)
def fzRow (o : Nat) (e : Ty) (xs : List e.den) (fz : Bool) : Objs := match fz with | true => [] | false => [(o,.row e xs true)]
def cm1 (objs : Objs) (nx : Nat) : Cm -> V -> V × Objs × Nat
 | .own e,.nilsl => (.own nx,[(nx,.row e [] false)],nx + 1)
 | .ownd d,.nilsl => (.own nx,[(nx,.nest (.row d []))],nx + 1)
 | .dat e,.nilsl => (.dat e [] false,[],nx)
 | .fz e,.nilsl => (.dat e [] false,[],nx)
 | .nd e,.nilsl => (.nd true e [],[],nx)
 | .nd _,.ownn o => match look .dead objs o with
  | .row e xs fz => (.nd false e xs,fzRow o e xs fz,nx)
  | _ => (.ownn o,[],nx)
 | .anew,.own o => match look .dead objs o with
  | .row e xs false => (.own nx,[(o,.dead),(nx,.row e xs false)],nx + 1)
  | _ => (.own o,[],nx)
 | .fz _,.own o => match look .dead objs o with
  | .row e xs fz => (.dat e xs false,fzRow o e xs fz,nx)
  | .nest (.row d xs) => if h : d.noMap = true then (.dat d.er (erC h xs) false,[(o,.row d.er (erC h xs) true)],nx) else (.own o,[],nx)
  | _ => (.own o,[],nx)
 | .fz _,.sub o es lo hi => match look .dead objs o with
  | .row e xs fz => match vah es e.size with
   | true => (.dat e ((xs.take hi).drop lo) false,fzRow o e xs fz,nx)
   | false => (.sub o es lo hi,[],nx)
  | _ => (.sub o es lo hi,[],nx)
 | .kill o,v => match look .dead objs o with
  | .row _ _ false => (v,[(o,.dead)],nx)
  | _ => (v,[],nx)
 | .selfp o,.kon (.pointer none) => match vaN o nx with
  | true => (.optp o,[],nx)
  | false => (.kon (.pointer none),[],nx)
 | _,v => (v,[],nx)
def setNth : Nat -> V -> List V -> List V
 | _,_,[] => []
 | 0,v,_ :: r => v :: r
 | n + 1,v,x :: r => x :: setNth n v r
def cut1 (objs : Objs) (nx : Nat) (m : Cm) (o : Nat) : V × Objs × Nat :=
 match m with
 | .cut => match look .dead objs o with | .row e xs _ => (.sub o e.size 0 xs.length,[],nx) | _ => (.own o,[],nx)
 | .fz e => cm1 objs nx (.fz e) (.own o)
 | _ => (.own o,[],nx)
def trim1 (objs : Objs) (nx : Nat) (o es lo hi : Nat) : V × Objs × Nat :=
 match look .dead objs o with
 | .row e xs false => match vah lo 0 && vah es e.size with
  | true => (.own nx,[(o,.dead),(nx,.row e (xs.take hi) false)],nx + 1)
  | false => (.sub o es lo hi,[],nx)
 | _ => (.sub o es lo hi,[],nx)
def subV (objs : Objs) (nx : Nat) (m : Cm) (o es lo hi : Nat) : V × Objs × Nat :=
 match m with
 | .trim => trim1 objs nx o es lo hi
 | m => cm1 objs nx m (.sub o es lo hi)
def cv2 (objs : Objs) (nx : Nat) (m : Cm) (j : Nat) : V -> V × Objs × Nat
 | .own o => cut1 objs nx m o
 | .sub o es lo hi => subV objs nx m o es lo hi
 | .agg cs => (.agg (setNth j (cm1 objs nx m (getC cs j)).1 cs),(cm1 objs nx m (getC cs j)).2)
 | .ptr o off => match look .dead objs o with
  | .var vt cs => (.ptr o off,(o,.var vt (setNth (off + j) (cm1 objs nx m (getC cs (off + j))).1 cs)) :: (cm1 objs nx m (getC cs (off + j))).2.1,(cm1 objs nx m (getC cs (off + j))).2.2)
  | _ => (.ptr o off,[],nx)
 | v => cm1 objs nx m v
def shutOf (objs : Objs) (j : Nat) : V -> Option Nat
 | .own o => some o
 | .pel o _ _ _ => some o
 | .ptr o off => match look .dead objs o with
  | .var _ cs => match getC cs (off + j) with | .own q => some q | _ => none
  | _ => none
 | .agg cs => match getC cs j with | .own q => some q | _ => none
 | _ => none
def shutH (objs : Objs) (o : Nat) (K : Objs -> Option R) : Option R :=
 match look .dead objs o with
 | .hole e xs ix cs => ofCells objs e cs fun x rest f => match rest,elemB o f with
  | [],false => K ((o,.row e (xs.set ix x) false) :: freezes objs f)
  | _,_ => none
 | _ => shutN objs o K
def shutCh (objs : Objs) (o : Nat) : Objs :=
 match shutH objs o (fun ch => some (.tup (ch.map fun c => .own c.1),ch.map (·.2))) with
 | some (.tup ids,xs) => unz ids xs
 | _ => []
def shutAt (objs : Objs) : Option Nat -> Objs
 | some o => shutCh objs o
 | none => []
def cv1 (objs : Objs) (nx : Nat) (m : Cm) (j : Nat) (v : V) : V × Objs × Nat :=
 match m with
 | .shut => (v,shutAt objs (shutOf objs j v),nx)
 | m => cv2 objs nx m j v
abbrev Cvs := List (Nat × Nat × Cm)
def cvSt : Cvs -> St -> St
 | [],σ => σ
 | (t,j,m) :: r,σ => cvSt r ⟨(t,(cv1 σ.objs σ.nx m j (look .undef σ.env t)).1) :: σ.env,(cv1 σ.objs σ.nx m j (look .undef σ.env t)).2.1 ++ σ.objs,(cv1 σ.objs σ.nx m j (look .undef σ.env t)).2.2,σ.n⟩
structure Lv where
 h : List Nat
 o : List Nat
 r : List Nat
 ch : Cvs
 co : Cvs
def Lv.out (l : Lv) : Xt -> List Nat
 | .ret => l.r
 | _ => l.o
abbrev Live := Nat -> Lv
def head (live : Live) (base : Nat) (L : LoopF) : LoopF := fun c σ K =>
 match normOK base (live (firstReg c)).h (cvSt (live (firstReg c)).ch σ) with
 | true => L c (normSt base (live (firstReg c)).h (cvSt (live (firstReg c)).ch σ)) K
 | false => none
def leave (live : Live) (base : Nat) (c : Code) (K : Xt -> St -> Option R) : Xt -> St -> Option R := fun e σ =>
 match normOK base ((live (firstReg c)).out e) (cvSt (live (firstReg c)).co σ) with
 | true => K e (normSt base ((live (firstReg c)).out e) (cvSt (live (firstReg c)).co σ))
 | false => none
def endKey : Nat := 1000000
def loopF (tt : Tab) (Γ : FEnv) (live : Live) (base : Nat) : Nat -> LoopF
 | 0,_,_,_ => none
 | n + 1,c,σ,K => evB tt Γ (head live base (loopF tt Γ live base n)) c σ fun
  | .normal,σ' => head live base (loopF tt Γ live base n) c σ' K
  | e,σ' => leave live base c K e σ'
def resK (tt : Tab) (objs : Objs) (env : Env) : List ResultVar -> (List V -> Option R) -> Option R
 | [],K => K []
 | .tmp t :: r,K => resK tt objs env r fun vs => K (look .undef env t :: vs)
 | .cell a t :: r,K => loadV tt objs t (look .undef env a) fun v => resK tt objs env r fun vs => K (v :: vs)
def resOne : List V -> V
 | [v] => v
 | vs => .tup vs
def finish (tt : Tab) (base : Nat) (results : List ResultVar) : Xt -> St -> Option R
 | .exit _,_ => none
 | _,σ => resK tt σ.objs σ.env results fun vs =>
   let v := resOne vs
   let ids := keptIds base σ.objs [v]
   match allIn (V.ids v) ids && keepOK base σ.objs σ.nx ids with
   | true => some (v.ren (posOf ids),lessObjs σ.objs ids)
   | false => none
def loopsOf : Code -> List Code
 | .seq a b => loopsOf a ++ loopsOf b
 | .cond _ a b => loopsOf a ++ loopsOf b
 | .block _ c => loopsOf c
 | .loop c => c :: loopsOf c
 | _ => []
def loopN (fn : Func) (i : Nat) : Code := nth .skip (loopsOf (fn.body.getD .skip)) i
def argSlots : Nat -> List V -> Env
 | _,[] => []
 | n,v :: r => (n,v) :: argSlots (n + 1) r
def evF (tt : Tab) (Γ : FEnv) (live : Live) (fn : Func) (n : Nat) (args : List V) (objs : List AObj) : Option R :=
 match vaD args.length fn.ntmps with
 | false => none
 | true => match fn.body with
  | none => none
  | some c => evB tt Γ (head live objs.length (loopF tt Γ live objs.length n)) c ⟨argSlots 0 args,(vaQ objs.length).zip objs,objs.length,fn.ntmps⟩ fun e σ => finish tt objs.length fn.results.toList e (cvSt (live endKey).ch σ)
end
end Go.Vm

namespace Go.Vm
def BaseOK (_ : World) : Prop := True
def Strict : Prop := True
def u8T : Nat := 0
end Go.Vm

namespace Go.Vm
open Go
structure Ctx where
 w : World
 nx : Nat
 hdr : Nat -> Value
 blk : Nat -> Option Nat
 sub : Nat -> Nat -> Prop
 SB : Nat -> Prop
 SA : Nat -> Prop
def cellAt (w : World) (b off : Nat) : Option Value := w.cell? ⟨b,off,none⟩
def CellsL {α : Type} (C : α -> List Value -> Prop) : List α -> List Value -> Prop
 | [],cs => cs = []
 | x :: r,cs => ∃ c1 c2,cs = c1 ++ c2 /\ C x c1 /\ CellsL C r c2
def Rows {α : Type} (C : α -> List Value -> Prop) (w : World) (S : Nat -> Prop) (xs : List α) (a : Option Addr) (n c : Nat) : Prop :=
 n = xs.length /\ n <= c /\ ∃ cells,CellsL C xs cells /\ (xs = [] \/ ∃ b off,a = some ⟨b,off,none⟩ /\ ¬ S b /\ b < w.heap.size /\ ∀ (j : Nat) u,cells[j]? = some u -> cellAt w b (off + j) = some u)
def Cells (w : World) (S : Nat -> Prop) : (t : Ty) -> t.den -> List Value -> Prop
 | .int k,x,cs => cs = [.int k x]
 | .bool,x,cs => cs = [.bool x]
 | .str,x,cs => cs = [.string x]
 | .sl e,x,cs => ∃ a n c,cs = [.slice a n c] /\ Rows (Cells w S e) w S x a n c
 | .unit,_,cs => cs = []
 | .pair a b,x,cs => ∃ c1 c2,cs = c1 ++ c2 /\ Cells w S a x.1 c1 /\ Cells w S b x.2 c2
def sel (c : Ctx) (bor : Bool) : Nat -> Prop := match bor with | true => c.SB | false => c.SA
def NN (u : Value) : Prop := ∃ a n k,u = .slice (some a) n k
mutual
def Rel (c : Ctx) : V -> Value -> Prop
 | .undef,_ => True
 | .hid,u => u.oneCell' = true
 | .i k n,u => u = .int k n
 | .b x,u => u = .bool x
 | .s x,u => u = .string x
 | .nilsl,u => u = .slice none 0 0
 | .kon v,u => u = v
 | .dat e xs bor,u => ∃ a n k,u = .slice a n k /\ Rows (Cells c.w c.SA e) c.w (sel c bor) xs a n k
 | .own o,u => o < c.nx /\ u = c.hdr o
 | .ownn o,u => o < c.nx /\ u = c.hdr o /\ NN u
 | .sub o es lo hi,u => o < c.nx /\ ∃ a n k,c.hdr o = .slice a n k /\ lo <= hi /\ hi <= n /\ u = .slice (if k = lo then a else a.map (·.add (lo * es))) (hi - lo) (k - lo)
 | .ptr o off,u => o < c.nx /\ ∃ b,c.blk o = some b /\ u = .pointer (some ⟨b,off,none⟩)
 | .pel o ix es off,u => o < c.nx /\ ∃ b,c.blk o = some b /\ u = .pointer (some ⟨b,ix * es + off,none⟩)
 | .optp o,u => o < c.nx /\ (u = .pointer none \/ ∃ b,c.blk o = some b /\ u = .pointer (some ⟨b,0,none⟩))
 | .err x,u => match x with | true => ∃ t p,u = .iface t p | false => u = .nilIface
 | .nd nl e xs,u => ∃ a n k,u = .slice a n k /\ Rows (Cells c.w c.SA e) c.w c.SA xs a n k /\ a.isNone = nl
 | .tp cs,u => ∃ b off us,u = .pointer (some ⟨b,off,none⟩) /\ ¬ c.SB b /\ b < c.w.heap.size /\ RelL c cs us /\ ∀ (j : Nat) v,us[j]? = some v -> cellAt c.w b (off + j) = some v
 | .agg cs,u => ∃ us : List Value,u = .agg us.toArray /\ RelL c cs us
 | .tup cs,u => ∃ us : List Value,u = .tuple us.toArray /\ RelL c cs us
 | .fn f cs,u => ∃ us : List Value,u = .func (.func f) #[] us.toArray /\ RelL c cs us
def RelL (c : Ctx) : List V -> List Value -> Prop
 | [],us => us = []
 | v :: r,us => ∃ u us',us = u :: us' /\ Rel c v u /\ RelL c r us'
end
def ValRel (w : World) (S : Nat -> Prop) (ag : Bool) (t : Ty) (x : t.den) (u : Value) : Prop :=
 match ag with
 | true => ∃ cs : List Value,Cells w S t x cs /\ u = .agg cs.toArray
 | false => Cells w S t x [u]
def EntsRel (w : World) (S : Nat -> Prop) (ka : Bool) (k : Ty) (ea : Bool) (e : Ty) : List (k.den × e.den) -> List MapEntry -> Prop
 | [],es => es = []
 | x :: r,es => ∃ m es',es = m :: es' /\ ValRel w S ka k x.1 m.key /\ ValRel w S ea e x.2 m.val /\ EntsRel w S ka k ea e r es'
def BornOK (es : List MapEntry) (clock : Nat) : Prop := (es.map (·.born)).Nodup /\ ∀ x ∈ es,x.born < clock
def ExtRel (w : World) (S : Nat -> Prop) : Ext -> Obj -> Prop
 | .iter s p,ob => ob = .stringIter s p
 | .map ka k ea e xs,ob => ∃ (es : List MapEntry) (clock : Nat),ob = .map es.toArray clock /\ EntsRel w S ka k ea e xs es /\ BornOK es clock
def Ext.isMap : Ext -> Bool | .map .. => true | _ => false
def TyOK (e : Ty) (et : Nat) : Prop := e = .int .u8 -> et = u8T
def CellsD (w : World) (S : Nat -> Prop) : (d : DTy) -> d.den -> List Value -> List Nat -> Prop
 | .dat t,x,cs,B => Cells w S t x cs /\ B = []
 | .row e,x,cs,B => ∃ (h : Value) (et : TypeId) (us : List Value),cs = [h] /\ w.ownsRow 0 et e.size h (List.length x) us /\ CellsL (Cells w S e) x us /\ B = h.ownBlock.toList /\ TyOK e et
 | .map ka k ea e,x,cs,B => ∃ (b : Nat) (es : List MapEntry) (clock : Nat),cs = [.map (some b)] /\ w.heap[b]? = some (.map es.toArray clock) /\ EntsRel w S ka k ea e x es /\ BornOK es clock /\ B = [b]
 | .pair a b,x,cs,B => ∃ c1 c2 B1 B2,cs = c1 ++ c2 /\ B = B1 ++ B2 /\ CellsD w S a x.1 c1 B1 /\ CellsD w S b x.2 c2 B2
def CellsDL {α : Type} (C : α -> List Value -> List Nat -> Prop) : List α -> List Value -> List Nat -> Prop
 | [],cs,B => cs = [] /\ B = []
 | x :: r,cs,B => ∃ c1 c2 B1 B2,cs = c1 ++ c2 /\ B = B1 ++ B2 /\ C x c1 B1 /\ CellsDL C r c2 B2
def Ctx.has (c : Ctx) (o b : Nat) : Prop := c.blk o = some b \/ c.sub o b
def NstOK (c : Ctx) (o : Nat) : Nst -> Prop
 | .row d xs => o < c.nx /\ ∃ et cells B,c.w.ownsRow 0 et d.size (c.hdr o) xs.length cells /\ CellsDL (CellsD c.w c.SA d) xs cells B /\ (c.hdr o).ownBlock = c.blk o /\
   (∀ b,c.sub o b ↔ b ∈ B) /\ ((c.blk o).toList ++ B).Nodup /\ (∀ b,c.has o b -> c.SB b) /\ TyOK d.er et
 | .hole d xs ix cs => o < c.nx /\ ∃ et cells B1 B2 pre mid post b,c.w.ownsRow 0 et d.size (c.hdr o) xs.length cells /\ cells = pre ++ mid ++ post /\ CellsDL (CellsD c.w c.SA d) (xs.take ix) pre B1 /\ RelL c cs mid /\ CellsDL (CellsD c.w c.SA d) (xs.drop (ix + 1)) post B2 /\
   ix < xs.length /\ cs.length = d.size /\ cs.all V.isC = true /\ (c.hdr o).ownBlock = c.blk o /\ c.blk o = some b /\ (∀ b,c.sub o b ↔ b ∈ B1 ++ B2) /\ (b :: (B1 ++ B2)).Nodup /\ (∀ b,c.has o b -> c.SB b) /\ TyOK d.er et
 | .rng it ka k ea e xs rest cur => o < c.nx /\ it < c.nx /\ ∃ b bi es clock seen lft,c.blk o = some b /\ c.hdr o = .map (some b) /\ c.blk it = some bi /\ (b ≠ bi /\ ∀ g,c.sub o g ↔ g = bi) /\ c.SB b /\ c.SB bi /\
   c.w.heap[b]? = some (.map (es : List MapEntry).toArray clock) /\ c.w.heap[bi]? = some (.mapIter (some b) clock seen clock) /\ EntsRel c.w c.SA ka k ea e xs es /\ BornOK es clock /\ leftOf es.toArray seen = (lft : List MapEntry).toArray /\ EntsRel c.w c.SA ka k ea e rest lft /\
   match cur with
   | none => True
   | some x => ∃ m ∈ es,ValRel c.w c.SA ka k x.1 m.key /\ ValRel c.w c.SA ea e x.2 m.val /\ ∃ s : Array Nat,seen = s.push m.born
def ObjOK (c : Ctx) (o : Nat) : AObj -> Prop
 | .dead => True
 | .row e xs fz => o < c.nx /\ ∃ et cells,c.w.ownsRow 0 et e.size (c.hdr o) xs.length cells /\ CellsL (Cells c.w c.SA e) xs cells /\ (c.hdr o).ownBlock = c.blk o /\
   (∀ b,c.blk o = some b -> (fz = false -> c.SB b) /\ (fz = true -> ¬ c.SA b)) /\ TyOK e et
 | .var vt cs => o < c.nx /\ ∃ b us el,c.blk o = some b /\ c.w.heap[b]? = some (.cells (us : List Value).toArray el (0,0)) /\ RelL c cs us /\ c.SB b /\ cs.all V.isC = true /\ el = vt
 | .hole e xs ix cs => o < c.nx /\ ∃ et cells b pre mid post,c.w.ownsRow 0 et e.size (c.hdr o) xs.length cells /\ cells = pre ++ mid ++ post /\ CellsL (Cells c.w c.SA e) (xs.take ix) pre /\ RelL c cs mid /\ CellsL (Cells c.w c.SA e) (xs.drop (ix + 1)) post /\
   ix < xs.length /\ cs.length = e.size /\ cs.all V.isC = true /\ (c.hdr o).ownBlock = c.blk o /\ c.blk o = some b /\ c.SB b /\ TyOK e et
 | .nest x => NstOK c o x
 | .ext x => o < c.nx /\ ∃ b ob,c.blk o = some b /\ c.w.heap[b]? = some ob /\ ExtRel c.w c.SA x ob /\ c.SB b /\ (x.isMap = true -> c.hdr o = .map (some b))
def Low (c : Ctx) : Prop := ∃ w0,BaseOK w0 /\ ∀ b,b < w0.heap.size -> ¬ c.SA b /\ c.w.heap[b]? = w0.heap[b]?
structure SOK (c : Ctx) (objs : Objs) : Prop where
 low : Low c
 obj : ∀ o,ObjOK c o (look .dead objs o)
 inj : ∀ o1 o2 b,(look .dead objs o1).mut = true -> (look .dead objs o2).mut = true -> c.has o1 b -> c.has o2 b -> o1 = o2
 flat : ∀ o,(look .dead objs o).isNest = false -> ∀ b,¬ c.sub o b
 sub : ∀ b,c.SB b -> c.SA b
 bd : ∀ b,c.SA b -> b < c.w.heap.size
 one : ∀ o,o < c.nx -> (c.hdr o).oneCell' = true
structure Step (c c' : Ctx) (D : Nat -> Prop) : Prop where
 os : c'.w.os = c.w.os
 tape : c'.w.tape = c.w.tape
 output : c'.w.output = c.w.output
 size : c.w.heap.size <= c'.w.heap.size
 nx : c.nx <= c'.nx
 hdr : ∀ o,o < c.nx -> c'.hdr o = c.hdr o
 blk : ∀ o,o < c.nx -> c'.blk o = c.blk o
 under : ∀ o,o < c.nx -> (∀ b,c.has o b -> ¬ D b /\ b < c.w.heap.size) -> ∀ b,c'.sub o b ↔ c.sub o b
 heap : ∀ b,b < c.w.heap.size -> ¬ D b -> c'.w.heap[b]? = c.w.heap[b]?
 sb : ∀ b,b < c.w.heap.size -> ¬ D b -> (c'.SB b ↔ c.SB b)
 sa : ∀ b,b < c.w.heap.size -> ¬ D b -> (c'.SA b ↔ c.SA b)
 dsub : ∀ b,D b -> c.SB b
theorem Step.refl (c : Ctx) : Step c c (fun _=>False) :=
 ⟨rfl,rfl,rfl,vag _,vag _,fun _ _ => rfl,fun _ _ => rfl,fun _ _ _ _ => Iff.rfl,fun _ _ _ => rfl,fun _ _ _ => Iff.rfl,fun _ _ _ => Iff.rfl,fun _ h => h.elim⟩
theorem qeZ {w w' : World} {b off : Nat} (h : w'.heap[b]? = w.heap[b]?) : cellAt w' b off = cellAt w b off := by simp [cellAt,World.cell?,h]
theorem CellsL.mono {α : Type} {C C' : α -> List Value -> Prop} (h : ∀ x cs,C x cs -> C' x cs) : ∀ (xs : List α) (cs : List Value),CellsL C xs cs -> CellsL C' xs cs
 | [],_,hc => hc
 | _ :: r,_,⟨c1,c2,e,h1,h2⟩ => ⟨c1,c2,e,h _ _ h1,CellsL.mono h r c2 h2⟩
theorem CellsL.append {α : Type} {C : α -> List Value -> Prop} : ∀ (xs ys : List α) (a b : List Value),CellsL C xs a -> CellsL C ys b -> CellsL C (xs ++ ys) (a ++ b)
 | [],ys,a,b,ha,hb => by cases ha; exact hb
 | x :: r,ys,a,b,⟨c1,c2,e,h1,h2⟩,hb => ⟨c1,c2 ++ b,by rw [e,vao],h1,CellsL.append r ys c2 b h2 hb⟩
theorem CellsL.len {α : Type} {C : α -> List Value -> Prop} {es : Nat} (hl : ∀ x cs,C x cs -> cs.length = es) : ∀ (xs : List α) (cs : List Value),CellsL C xs cs -> cs.length = xs.length * es
 | [],cs,h => by cases h; simp
 | x :: r,cs,⟨c1,c2,e,h1,h2⟩ => by rw [e,vai,hl _ _ h1,CellsL.len hl r c2 h2,vaz,vap]; omega
theorem CellsL.one {α : Type} {C : α -> List Value -> Prop} (h1 : ∀ x cs,C x cs -> ∀ u ∈ cs,u.oneCell' = true) : ∀ (xs : List α) (cs : List Value),CellsL C xs cs -> ∀ u ∈ cs,u.oneCell' = true
 | [],cs,h,u,hu => by cases h; cases hu
 | x :: r,cs,⟨c1,c2,e,h,h2⟩,u,hu => by
  rw [e] at hu
  rcases vaw.1 hu with hu | hu
  ·exact h1 _ _ h u hu
  ·exact CellsL.one h1 r c2 h2 u hu
theorem CellsL.get {α : Type} {C : α -> List Value -> Prop} {es : Nat} (hl : ∀ x cs,C x cs -> cs.length = es) (d : α) : ∀ (xs : List α) (cs : List Value),CellsL C xs cs -> ∀ i,i < xs.length ->
  ∃ c,C (xs.getD i d) c /\ ∀ (j : Nat) u,c[j]? = some u -> cs[i * es + j]? = some u
 | [],_,_,i,hi => by simp at hi
 | x :: r,cs,⟨c1,c2,e,h1,h2⟩,0,_ => ⟨c1,h1,fun j u hu => by
   have hj : j < c1.length := (vbb.1 hu).1
   rw [e,va4,vak,vbc hj]; exact hu⟩
 | x :: r,cs,⟨c1,c2,e,h1,h2⟩,i + 1,hi => by
  obtain ⟨c,hc,hg⟩ := CellsL.get hl d r c2 h2 i (by simpa using hi)
  refine ⟨c,hc,fun j u hu => ?_⟩
  have hlen := hl _ _ h1
  rw [e,va8 (by rw [hlen,vap]; omega),hlen,show (i + 1) * es + j - es = i * es + j by rw [vap]; omega]
  exact hg j u hu
theorem CellsL.set {α : Type} {C : α -> List Value -> Prop} {es : Nat} (hl : ∀ x cs,C x cs -> cs.length = es) (y : α) (cy : List Value) (hy : C y cy) : ∀ (xs : List α) (cs : List Value),CellsL C xs cs -> ∀ i,i < xs.length ->
  CellsL C (xs.set i y) (cs.take (i * es) ++ cy ++ cs.drop (i * es + cy.length))
 | [],_,_,i,hi => by simp at hi
 | x :: r,cs,⟨c1,c2,e,h1,h2⟩,0,_ => by
  refine ⟨cy,c2,?_,hy,h2⟩
  rw [e,va4,vaZ,vaL,vak,hl _ _ hy,<- hl _ _ h1,List.drop_left]
 | x :: r,cs,⟨c1,c2,e,h1,h2⟩,i + 1,hi => by
  have ih := CellsL.set hl y cy hy r c2 h2 i (by simpa using hi)
  refine ⟨c1,_,?_,h1,ih⟩
  have hlen := hl _ _ h1
  rw [e,show (i + 1) * es = c1.length + i * es by rw [hlen,vap]; omega,va6,List.drop_append]
  rw [show c1.length + i * es - c1.length = i * es by omega,show c1.length + i * es + cy.length - c1.length = i * es + cy.length by omega]
  rw [van (by omega),vaA (by omega)]
  simp [vao]
theorem CellsL.take {α : Type} {C : α -> List Value -> Prop} {es : Nat} (hl : ∀ x cs,C x cs -> cs.length = es) : ∀ (xs : List α) (cs : List Value),CellsL C xs cs -> ∀ k,CellsL C (xs.take k) (cs.take (k * es))
 | [],cs,h,k => by cases h; simp [CellsL]
 | x :: r,cs,⟨c1,c2,e,h1,h2⟩,0 => by simp [CellsL]
 | x :: r,cs,⟨c1,c2,e,h1,h2⟩,k + 1 => by
  refine ⟨c1,c2.take (k * es),?_,h1,CellsL.take hl r c2 h2 k⟩
  have hlen := hl _ _ h1
  rw [e,show (k + 1) * es = c1.length + k * es by rw [hlen,vap]; omega,va6,van (by omega)]
  congr 2; omega
theorem CellsL.drop {α : Type} {C : α -> List Value -> Prop} {es : Nat} (hl : ∀ x cs,C x cs -> cs.length = es) : ∀ (xs : List α) (cs : List Value),CellsL C xs cs -> ∀ k,CellsL C (xs.drop k) (cs.drop (k * es))
 | [],cs,h,k => by cases h; simp [CellsL]
 | x :: r,cs,⟨c1,c2,e,h1,h2⟩,0 => by simpa using ⟨c1,c2,e,h1,h2⟩
 | x :: r,cs,⟨c1,c2,e,h1,h2⟩,k + 1 => by
  have ih := CellsL.drop hl r c2 h2 k
  have hlen := hl _ _ h1
  have hd : cs.drop ((k + 1) * es) = c2.drop (k * es) := by
   rw [e,show (k + 1) * es = c1.length + k * es by rw [hlen,vap]; omega,<- va0,List.drop_left]
  rw [hd]; exact ih
theorem Cells.len {w : World} {S : Nat -> Prop} : ∀ (t : Ty) (x : t.den) (cs : List Value),Cells w S t x cs -> cs.length = t.size
 | .int _,_,_,h | .bool,_,_,h | .str,_,_,h => by simp [Cells] at h; simp [h,Ty.size]
 | .sl _,_,_,h => by obtain ⟨_,_,_,h,_⟩ := h; simp [h,Ty.size]
 | .unit,_,_,h => by simp [Cells] at h; simp [h,Ty.size]
 | .pair a b,x,_,h => by
  obtain ⟨c1,c2,h,h1,h2⟩ := h
  rw [h,vai,Cells.len a _ _ h1,Cells.len b _ _ h2,Ty.size]
theorem Cells.one {w : World} {S : Nat -> Prop} : ∀ (t : Ty) (x : t.den) (cs : List Value),Cells w S t x cs -> ∀ u ∈ cs,u.oneCell' = true
 | .int _,_,_,h,u,hu | .bool,_,_,h,u,hu | .str,_,_,h,u,hu => by simp [Cells] at h; simp [h] at hu; subst hu; rfl
 | .sl _,_,_,h,u,hu => by obtain ⟨_,_,_,h,_⟩ := h; simp [h] at hu; subst hu; rfl
 | .unit,_,_,h,u,hu => by simp [Cells] at h; simp [h] at hu
 | .pair a b,x,_,h,u,hu => by
  obtain ⟨c1,c2,h,h1,h2⟩ := h
  rw [h] at hu
  rcases vaw.1 hu with hu | hu
  ·exact Cells.one a _ _ h1 u hu
  ·exact Cells.one b _ _ h2 u hu
def Kept (w w' : World) (S S' : Nat -> Prop) : Prop := w.heap.size <= w'.heap.size /\ ∀ b,¬ S b -> b < w.heap.size -> w'.heap[b]? = w.heap[b]? /\ ¬ S' b
theorem Rows.mono {α : Type} {C C' : α -> List Value -> Prop} {w w' : World} {S S' : Nat -> Prop} (hk : Kept w w' S S') (h : ∀ x cs,C x cs -> C' x cs) {xs : List α} {a : Option Addr} {n c : Nat} (hr : Rows C w S xs a n c) : Rows C' w' S' xs a n c := by
 obtain ⟨h1,h2,cells,h3,h4⟩ := hr
 refine ⟨h1,h2,cells,CellsL.mono h _ _ h3,?_⟩
 rcases h4 with h4 | ⟨b,off,e,hS,hb,hc⟩
 ·exact .inl h4
 ·obtain ⟨k1,k2⟩ := hk.2 b hS hb
  exact .inr ⟨b,off,e,k2,vaf hb hk.1,fun j u hu => by rw [qeZ k1]; exact hc j u hu⟩
theorem Cells.mono {w w' : World} {S S' : Nat -> Prop} (hk : Kept w w' S S') : ∀ (t : Ty) (x : t.den) (cs : List Value),Cells w S t x cs -> Cells w' S' t x cs
 | .int _,_,_,h | .bool,_,_,h | .str,_,_,h | .unit,_,_,h => h
 | .sl e,x,cs,h => by
  obtain ⟨a,n,c,h,hr⟩ := h
  exact ⟨a,n,c,h,hr.mono hk (Cells.mono hk e)⟩
 | .pair a b,x,_,h => by
  obtain ⟨c1,c2,h,h1,h2⟩ := h
  exact ⟨c1,c2,h,Cells.mono hk a _ _ h1,Cells.mono hk b _ _ h2⟩
theorem ValRel.mono {w w' : World} {S S' : Nat -> Prop} (hk : Kept w w' S S') {ag : Bool} {t : Ty} {x : t.den} {u : Value} (h : ValRel w S ag t x u) : ValRel w' S' ag t x u := by
 cases ag with
 | true => obtain ⟨cs,h1,h2⟩ := h; exact ⟨cs,Cells.mono hk t x cs h1,h2⟩
 | false => exact Cells.mono hk t x _ h
theorem EntsRel.mono {w w' : World} {S S' : Nat -> Prop} (hk : Kept w w' S S') {ka : Bool} {k : Ty} {ea : Bool} {e : Ty} : ∀ {xs : List (k.den × e.den)} {es : List MapEntry},EntsRel w S ka k ea e xs es -> EntsRel w' S' ka k ea e xs es
 | [],_,h => h
 | _ :: _,_,⟨m,es',h1,h2,h3,h4⟩ => ⟨m,es',h1,h2.mono hk,h3.mono hk,EntsRel.mono hk h4⟩
theorem ExtRel.mono {w w' : World} {S S' : Nat -> Prop} (hk : Kept w w' S S') {x : Ext} {ob : Obj} (h : ExtRel w S x ob) : ExtRel w' S' x ob := by
 cases x with
 | iter s p => exact h
 | map ka k ea e xs => obtain ⟨es,clock,h1,h2,h3⟩ := h; exact ⟨es,clock,h1,h2.mono hk,h3⟩
theorem Step.kept {c c' : Ctx} {D : Nat -> Prop} (h : Step c c' D) (hs : ∀ b,c.SB b -> c.SA b) (bor : Bool) : Kept c.w c'.w (sel c bor) (sel c' bor) :=
 ⟨h.size,fun b hb hlt => by
  cases bor with
  | true => exact ⟨h.heap b hlt fun hd => hb (h.dsub b hd),fun k => hb ((h.sb b hlt fun hd => hb (h.dsub b hd)).1 k)⟩
  | false => exact ⟨h.heap b hlt fun hd => hb (hs _ (h.dsub b hd)),fun k => hb ((h.sa b hlt fun hd => hb (hs _ (h.dsub b hd))).1 k)⟩⟩
mutual
theorem Rel.mono {c c' : Ctx} {D : Nat -> Prop} (h : Step c c' D) (hs : ∀ b,c.SB b -> c.SA b) : ∀ (v : V) (u : Value),Rel c v u -> Rel c' v u
 | .undef,_,r => r
 | .hid,_,r => r
 | .i _ _,_,r => r
 | .b _,_,r => r
 | .s _,_,r => r
 | .nilsl,_,r => r
 | .kon _,_,r => r
 | .dat e xs bor,u,r => by
  obtain ⟨a,n,k,e',hr⟩ := r
  exact ⟨a,n,k,e',hr.mono (h.kept hs bor) (Cells.mono (h.kept hs false) e)⟩
 | .own o,u,r => ⟨vaf r.1 h.nx,by rw [h.hdr o r.1]; exact r.2⟩
 | .ownn o,u,r => ⟨vaf r.1 h.nx,by rw [h.hdr o r.1]; exact r.2⟩
 | .sub o _ _ _,u,r => ⟨vaf r.1 h.nx,by rw [h.hdr o r.1]; exact r.2⟩
 | .ptr o _,u,r => ⟨vaf r.1 h.nx,by rw [h.blk o r.1]; exact r.2⟩
 | .pel o _ _ _,u,r => ⟨vaf r.1 h.nx,by rw [h.blk o r.1]; exact r.2⟩
 | .optp o,u,r => ⟨vaf r.1 h.nx,by rw [h.blk o r.1]; exact r.2⟩
 | .err x,u,r => r
 | .nd nl e xs,u,r => by
  obtain ⟨a,n,k,e',hr,hn⟩ := r
  exact ⟨a,n,k,e',hr.mono (h.kept hs false) (Cells.mono (h.kept hs false) e),hn⟩
 | .tp cs,u,r => by
  obtain ⟨b,off,us,e,hb,hlt,hl,hc⟩ := r
  have hd : ¬ D b := fun k => hb (h.dsub b k)
  exact ⟨b,off,us,e,fun k => hb ((h.sb b hlt hd).1 k),vaf hlt h.size,RelL.mono h hs cs us hl,fun j v hv => by rw [qeZ (h.heap b hlt hd)]; exact hc j v hv⟩
 | .agg cs,u,r => by obtain ⟨us,e,hl⟩ := r; exact ⟨us,e,RelL.mono h hs cs us hl⟩
 | .tup cs,u,r => by obtain ⟨us,e,hl⟩ := r; exact ⟨us,e,RelL.mono h hs cs us hl⟩
 | .fn _ cs,u,r => by obtain ⟨us,e,hl⟩ := r; exact ⟨us,e,RelL.mono h hs cs us hl⟩
theorem RelL.mono {c c' : Ctx} {D : Nat -> Prop} (h : Step c c' D) (hs : ∀ b,c.SB b -> c.SA b) : ∀ (vs : List V) (us : List Value),RelL c vs us -> RelL c' vs us
 | [],_,r => r
 | v :: vs,us,r => by
  obtain ⟨u,us',e,h1,h2⟩ := r
  exact ⟨u,us',e,Rel.mono h hs v u h1,RelL.mono h hs vs us' h2⟩
end
theorem qdF {w w' : World} {et : TypeId} {es n : Nat} {h : Value} {us : List Value} (hh : w.ownsRow 0 et es h n us) (hk : ∀ b,h.ownBlock = some b -> w'.heap[b]? = w.heap[b]?) : w'.ownsRow 0 et es h n us := by
 refine ⟨hh.1,?_⟩
 rcases hh.2 with h2 | ⟨g,cap,cur,hv,h3,h4,h5,h6⟩
 ·exact .inl h2
 ·exact .inr ⟨g,cap,cur,hv,h3,by rw [hk g (by rw [hv]; rfl)]; exact h4,h5,h6⟩
theorem CellsD.mono {w w' : World} {S S' : Nat -> Prop} (hk : Kept w w' S S') : ∀ (d : DTy) (x : d.den) (cs : List Value) (B : List Nat),CellsD w S d x cs B -> (∀ b ∈ B,w'.heap[b]? = w.heap[b]?) -> CellsD w' S' d x cs B
 | .dat t,x,cs,B,h,_ => ⟨Cells.mono hk t x cs h.1,h.2⟩
 | .row e,x,cs,B,⟨h,et,us,h1,h2,h3,h4,h5⟩,hb => ⟨h,et,us,h1,qdF h2 fun b hbb => hb b (by rw [h4,hbb]; simp),CellsL.mono (fun y ys hh => Cells.mono hk e y ys hh) _ _ h3,h4,h5⟩
 | .map ka k ea e,x,cs,B,⟨b,es,clock,h1,h2,h3,h4,h5⟩,hb => ⟨b,es,clock,h1,by rw [hb b (by rw [h5]; simp)]; exact h2,h3.mono hk,h4,h5⟩
 | .pair a b,x,cs,B,⟨c1,c2,B1,B2,h1,h2,h3,h4⟩,hb => ⟨c1,c2,B1,B2,h1,h2,CellsD.mono hk a _ _ _ h3 fun g hg => hb g (by rw [h2]; simp [hg]),CellsD.mono hk b _ _ _ h4 fun g hg => hb g (by rw [h2]; simp [hg])⟩
theorem CellsDL.mono {α : Type} {C C' : α -> List Value -> List Nat -> Prop} {p : Nat -> Prop} (h : ∀ x cs B,C x cs B -> (∀ b ∈ B,p b) -> C' x cs B) : ∀ (xs : List α) (cs : List Value) (B : List Nat),CellsDL C xs cs B -> (∀ b ∈ B,p b) -> CellsDL C' xs cs B
 | [],_,_,hc,_ => hc
 | x :: r,cs,B,⟨c1,c2,B1,B2,h1,h2,h3,h4⟩,hb => ⟨c1,c2,B1,B2,h1,h2,h x c1 B1 h3 fun b hbb => hb b (by rw [h2]; simp [hbb]),CellsDL.mono h r c2 B2 h4 fun b hbb => hb b (by rw [h2]; simp [hbb])⟩
theorem CellsD.len {w : World} {S : Nat -> Prop} : ∀ (d : DTy) (x : d.den) (cs : List Value) (B : List Nat),CellsD w S d x cs B -> cs.length = d.size
 | .dat t,x,cs,B,h => Cells.len t x cs h.1
 | .row e,x,cs,B,⟨h,et,us,h1,_⟩ => by rw [h1]; rfl
 | .map ka k ea e,x,cs,B,⟨b,es,clock,h1,_⟩ => by rw [h1]; rfl
 | .pair a b,x,cs,B,⟨c1,c2,B1,B2,h1,h2,h3,h4⟩ => by rw [h1,vai,CellsD.len a _ _ _ h3,CellsD.len b _ _ _ h4]; rfl
theorem NstOK.lt {c : Ctx} {o : Nat} {x : Nst} (h : NstOK c o x) : o < c.nx := by
 cases x <;> exact h.1
theorem NstOK.sb {c : Ctx} {o : Nat} {x : Nst} (h : NstOK c o x) {b : Nat} (hb : c.has o b) : c.SB b := by
 cases x with
 | row d xs => obtain ⟨_,et,cells,B,_,_,_,_,_,h8,_⟩ := h; exact h8 b hb
 | hole d xs ix cs => obtain ⟨_,et,cells,B1,B2,pre,mid,post,g,_,_,_,_,_,_,_,_,_,_,_,_,h8,_⟩ := h; exact h8 b hb
 | rng it ka k ea e xs rest cur =>
  obtain ⟨_,_,b',bi,es,clock,seen,lft,h1,_,_,⟨_,h2⟩,h3,h4,_⟩ := h
  rcases hb with hb | hb
  ·rw [h1] at hb; cases hb; exact h3
  ·rw [(h2 b).1 hb]; exact h4
theorem NstOK.mono {c c' : Ctx} {D : Nat -> Prop} (h : Step c c' D) (hs : ∀ b,c.SB b -> c.SA b) {o : Nat} {x : Nst} (hx : NstOK c o x) (hd : ∀ b,c.has o b -> ¬ D b /\ b < c.w.heap.size) : NstOK c' o x := by
 have hk := h.kept hs false
 have hlt := hx.lt
 have hh : ∀ b,c'.has o b ↔ c.has o b := fun b => by
  unfold Ctx.has
  rw [h.blk o hlt,h.under o hlt hd b]
 have hheap : ∀ b,c.has o b -> c'.w.heap[b]? = c.w.heap[b]? := fun b hb => h.heap b (hd b hb).2 (hd b hb).1
 have hsb : ∀ b,c.has o b -> c.SB b -> c'.SB b := fun b hb k => (h.sb b (hd b hb).2 (hd b hb).1).2 k
 have hu : ∀ b,c'.sub o b ↔ c.sub o b := h.under o hlt hd
 cases x with
 | row d xs =>
  obtain ⟨_,et,cells,B,h1,h2,h3,h4,h5,h6,h7⟩ := hx
  refine ⟨vaf hlt h.nx,et,cells,B,?_,CellsDL.mono (p := fun b => c'.w.heap[b]? = c.w.heap[b]?) (fun y cs B' hh hb => CellsD.mono hk d y cs B' hh hb) _ _ _ h2 (fun b hb => hheap b (.inr ((h4 b).2 hb))),by rw [h.hdr o hlt,h.blk o hlt]; exact h3,fun b => (hu b).trans (h4 b),by rw [h.blk o hlt]; exact h5,fun b hb => hsb b ((hh b).1 hb) (h6 b ((hh b).1 hb)),h7⟩
  rw [h.hdr o hlt]
  exact qdF h1 fun b hb => hheap b (.inl (by rw [<- h3,hb]))
 | hole d xs ix cs =>
  obtain ⟨_,et,cells,B1,B2,pre,mid,post,g,h1,h2,h3,h4,h5,h6,h7,h8,h9,h10,h11,h12,h13,h14⟩ := hx
  refine ⟨vaf hlt h.nx,et,cells,B1,B2,pre,mid,post,g,?_,h2,CellsDL.mono (p := fun b => c'.w.heap[b]? = c.w.heap[b]?) (fun y cs B' hh hb => CellsD.mono hk d y cs B' hh hb) _ _ _ h3 (fun b hb => hheap b (.inr ((h11 b).2 (by simp [hb])))),RelL.mono h hs cs mid h4,
   CellsDL.mono (p := fun b => c'.w.heap[b]? = c.w.heap[b]?) (fun y cs B' hh hb => CellsD.mono hk d y cs B' hh hb) _ _ _ h5 (fun b hb => hheap b (.inr ((h11 b).2 (by simp [hb])))),h6,h7,h8,by rw [h.hdr o hlt,h.blk o hlt]; exact h9,by rw [h.blk o hlt]; exact h10,fun b => (hu b).trans (h11 b),h12,fun b hb => hsb b ((hh b).1 hb) (h13 b ((hh b).1 hb)),h14⟩
  rw [h.hdr o hlt]
  exact qdF h1 fun b hb => hheap b (.inl (by rw [<- h9,hb]))
 | rng it ka k ea e xs rest cur =>
  obtain ⟨_,hit,b,bi,es,clock,seen,lft,h1,h2,h3,h4,h5,h6,h7,h8,h9,h10,h11,h12,h13⟩ := hx
  have hb1 : c.has o b := .inl h1
  have hb2 : c.has o bi := .inr ((h4.2 bi).2 rfl)
  refine ⟨vaf hlt h.nx,vaf hit h.nx,b,bi,es,clock,seen,lft,by rw [h.blk o hlt]; exact h1,by rw [h.hdr o hlt]; exact h2,by rw [h.blk it hit]; exact h3,⟨h4.1,fun g => (hu g).trans (h4.2 g)⟩,hsb b hb1 h5,hsb bi hb2 h6,by rw [hheap b hb1]; exact h7,by rw [hheap bi hb2]; exact h8,h9.mono hk,h10,h11,h12.mono hk,?_⟩
  cases cur with
  | none => trivial
  | some x =>
   obtain ⟨m,hm,k1,k2,k3⟩ := h13
   exact ⟨m,hm,k1.mono hk,k2.mono hk,k3⟩
end Go.Vm

namespace Go.Vm
open Go
theorem qhX {α : Type} : ∀ (a : Ask α) (w : World),w.drawn <= (w.ask a).2.drawn
 | .done _,_ => vag _
 | .ask what range k,w => by
  unfold World.ask
  dsimp only
  split
  ·exact qhX _ _
  ·exact va5 (va7 _) (qhX _ { w with drawn := w.drawn + 1 })
theorem qmI (w : World) (c : Sys) : w.drawn <= (w.sys c).2.drawn := by
 have h := qhX (Kernel.perform c w.os) w
 unfold World.sys
 split
 ·exact vag _
 ·rename_i heq
  rw [heq] at h
  exact h
theorem qic {p : Program} {w w' : World} {a : Addr} {v : Value} {at_ : Bool} {l : List Addr} (h : w.farStore p a v at_ = .ok (w',l)) : w.drawn <= w'.drawn := by
 unfold World.farStore at h
 split at h
 ·split at h
  ·rename_i hr
   cases h
   simp only [World.viewStore,bind,Except.bind,pure,Except.pure,throw,throwThe,MonadExceptOf.throw] at hr
   repeat' (split at hr)
   all_goals first | (cases hr; done) | (cases hr; exact vag _) | skip
  ·cases h
 ·cases h
theorem qbL {α : Type} {p : Program} : ∀ (s : Sem α) (w : World) {a : α} {w' : World},s.run p w = .ok a w' -> w.drawn <= w'.drawn
 | .pure a,w,_,_,h => by cases h; exact vag _
 | .load m a k,w,_,_,h => by
  rw [Sem.run] at h
  split at h
  ·exact qbL _ w h
  ·split at h
   ·exact qbL _ w h
   ·cases h
 | .store m a v k,w,_,_,h => by
  unfold Sem.run at h
  split at h
  all_goals first | (rename_i heq; cases heq; done) | skip
  ·cases h
  ·cases h
  ·rename_i heq
   cases heq
   split at h
   ·split at h
    ·cases h
    ·have := qbL k (World.setCell _ a v) h
     exact this
   ·split at h
    ·rename_i hf
     exact va5 (qic hf) (qbL k _ h)
    ·cases h
 | .new o k,w,_,_,h => qbL (k w.heap.size) { w with heap := w.heap.push o } h
 | .shape r k,w,_,_,h => qbL (k (w.shape? r)) w h
 | .freeze a n k,w,_,_,h => by
  have := qbL k (w.freeze a n) h
  unfold World.freeze at this
  split at this
  ·exact this
  ·exact this
 | .frozen a k,w,_,_,h => qbL (k (w.frozen? a)) w h
 | .getObj r k,w,_,_,h => by
  unfold Sem.run at h
  split at h
  ·cases h
  ·exact qbL _ w h
  ·cases h
 | .setObj r o k,w,_,_,h => by
  unfold Sem.run at h
  split at h
  ·cases h
  ·exact qbL k { w with heap := w.heap.setIfInBounds r o } h
  ·cases h
 | .choose q k,w,_,_,h => by
  unfold Sem.run at h
  split at h
  ·exact qbL _ w h
  ·exact va5 (va7 _) (qbL _ { w with drawn := w.drawn + 1 } h)
 | .sys c k,w,_,_,h => va5 (qmI w c) (qbL (k (w.sys c).1) (w.sys c).2 h)
 | .program k,w,_,_,h => qbL (k p) w h
 | .mark _ k,w,_,_,h => qbL k w h
 | .halt _,_,_,_,h => by cases h
end Go.Vm

namespace Go.Vm
open Go
theorem qa5 {p : Prop} [Decidable p] {x : Option R} {r : R} (h : req p x = some r) : p /\ x = some r := by
 unfold req at h; split at h
 ·exact ⟨‹_›,h⟩
 ·cases h
theorem qdK {c : Bool} {x y : Option R} {r : R} (h : br c x y = some r) : (c = true /\ x = some r) \/ (c = false /\ y = some r) := by
 unfold br at h; cases c <;> simp_all
theorem qnE {x y : Option R} {r : R} (h : both x y = some r) : x = some r /\ y = some r := by
 unfold both at h; split at h
 ·rename_i e; exact ⟨h,e ▸ h⟩
 ·cases h
def eqVal : Value -> Value -> Bool
 | .int k n,.int k' n' => k == k' && n == n'
 | .bool a,.bool b => a == b
 | .string a,.string b => a.data.toList == b.data.toList
 | .slice none 0 0,.slice none 0 0 => true
 | .pointer none,.pointer none => true
 | .map none,.map none => true
 | .nilFunc,.nilFunc => true
 | .nilIface,.nilIface => true
 | _,_ => false
theorem qlK {a b : Value} (h : eqVal a b = true) : a = b := by
 unfold eqVal at h
 split at h
 ·simp at h; rw [h.1,h.2]
 ·simp at h; rw [h]
 ·rename_i a b
  have : a.data.toList = b.data.toList := by simpa using h
  have h2 : a.data = b.data := va3.1 this
  cases a; cases b; simp at h2; rw [h2]
 all_goals first | rfl | cases h
def relB : V -> Value -> Bool
 | .i k n,u => eqVal u (.int k n)
 | .b x,u => eqVal u (.bool x)
 | .s x,u => eqVal u (.string x)
 | .nilsl,u => eqVal u (.slice none 0 0)
 | .kon v,u => eqVal u v
 | _,_ => false
def relLB : List V -> List Value -> Bool
 | [],[] => true
 | v :: r,u :: us => relB v u && relLB r us
 | _,_ => false
theorem qn3 (c : Ctx) {v : V} {u : Value} (h : relB v u = true) : Rel c v u := by
 cases v <;> simp only [relB] at h <;> first | cases h; done | exact qlK h
theorem qjJ (c : Ctx) : ∀ {vs : List V} {us : List Value},relLB vs us = true -> RelL c vs us
 | [],[],_ => rfl
 | v :: r,u :: us,h => by
  simp only [relLB,vae] at h
  exact ⟨u,us,rfl,qn3 c h.1,qjJ c h.2⟩
 | [],_ :: _,h => by cases h
 | _ :: _,[],h => by cases h
def zcells : Ty -> List Value
 | .int k => [.int k 0]
 | .bool => [.bool false]
 | .str => [.string vbh]
 | .sl _ => [.slice none 0 0]
 | .unit => []
 | .pair a b => zcells a ++ zcells b
theorem qcS (w : World) (S : Nat -> Prop) : ∀ t : Ty,Cells w S t t.dflt (zcells t)
 | .int _ | .bool | .str | .unit => rfl
 | .sl _ => ⟨none,0,0,rfl,rfl,vag _,[],rfl,.inl rfl⟩
 | .pair a b => ⟨zcells a,zcells b,rfl,qcS w S a,qcS w S b⟩
def eqVals : List Value -> List Value -> Bool
 | [],[] => true
 | a :: r,b :: s => eqVal a b && eqVals r s
 | _,_ => false
theorem qkd : ∀ {a b : List Value},eqVals a b = true -> a = b
 | [],[],_ => rfl
 | a :: r,b :: s,h => by
  simp only [eqVals,vae] at h
  rw [qlK h.1,qkd h.2]
 | [],_ :: _,h => by cases h
 | _ :: _,[],h => by cases h
def fieldsB : List Field -> List (Nat × Nat) -> Bool
 | [],[] => true
 | f :: r,g :: s => f.offset == g.1 && f.type == g.2 && fieldsB r s
 | _,_ => false
theorem qiv : ∀ {fs : List Field} {gs : List (Nat × Nat)},fieldsB fs gs = true -> gs = fs.map fun f => (f.offset,f.type)
 | [],[],_ => rfl
 | f :: r,g :: s,h => by
  simp only [fieldsB,vae,beq_iff_eq] at h
  rw [vaK,<- qiv h.2,h.1.1,h.1.2]
 | [],_ :: _,h => by cases h
 | _ :: _,[],h => by cases h
def kindB : TK -> TypeDesc -> Bool
 | .int k,.int k' => k == k'
 | .bool,.bool => true
 | .str,.string => true
 | .ptr e,.pointer e' => e == e'
 | .sl e,.slice e' => e == e'
 | .arr n e,.array n' e' => n == n' && e == e'
 | .map k e,.map k' e' => k == k' && e == e'
 | .struct gs,.struct fs => fieldsB fs.toList gs
 | .func,.func _ _ _ => true
 | .iface,.interface _ => true
 | _,_ => false
def aggVal : Value -> Bool
 | .agg _ => true
 | _ => false
def rowB (P : Program) (t : Nat) (r : TRow) : Bool :=
  match r.k with
  | .other => true
  | k => match P.underlying t,P.info? t with
    | some d,some i => match i.zero with
      | some z => kindB k d && i.size == r.size && i.bytes == r.bytes && z.cells.size == r.size && relLB r.zero z.cells.toList && r.zero.all V.isC &&
          (match r.ty with | some e => e.size == r.size && vaN 0 r.size && eqVals z.cells.toList (zcells e) && (!decide (e = .int .u8) || vah t u8T) | none => true) && (aggVal z == r.k.isAgg)
      | none => false
    | _,_ => false
def tabB (P : Program) : Nat -> Tab -> Bool
 | _,[] => true
 | t,r :: rs => rowB P t r && tabB P (t + 1) rs
structure RowOK (P : Program) (t : Nat) (r : TRow) : Prop where
 out : ∃ d i z,P.underlying t = some d /\ P.info? t = some i /\ i.zero = some z /\ kindB r.k d = true /\ i.size = r.size /\ i.bytes = r.bytes /\ z.cells.size = r.size /\
  (∀ c,RelL c r.zero z.cells.toList) /\ r.zero.all V.isC = true /\ ∀ e,r.ty = some e -> e.size = r.size /\ 0 < r.size /\ z.cells.toList = zcells e /\ TyOK e t
 ag : ∀ i z,P.info? t = some i -> i.zero = some z -> aggVal z = r.k.isAgg
def TabOK (P : Program) (tt : Tab) : Prop := ∀ t,(tt.row t).k.isOther = true \/ RowOK P t (tt.row t)
theorem qo1 {P : Program} {t : Nat} {r : TRow} (h : rowB P t r = true) : r.k.isOther = true \/ RowOK P t r := by
 unfold rowB at h
 split at h
 ·rename_i e; left; rw [e]; rfl
 ·right
  split at h
  ·rename_i d i hd hi
   split at h
   ·rename_i z hz
    simp only [vae,beq_iff_eq] at h
    obtain ⟨⟨⟨⟨⟨⟨⟨h1,h2⟩,h3⟩,h4⟩,h5⟩,h6⟩,h7⟩,h8⟩ := h
    refine ⟨⟨d,i,z,hd,hi,hz,h1,h2,h3,h4,fun c => qjJ c h5,h6,fun e he => ?_⟩,fun i' z' hi' hz' => by rw [hi] at hi'; cases hi'; rw [hz] at hz'; cases hz'; exact h8⟩
    rw [he] at h7
    simp only [vae,beq_iff_eq] at h7
    refine ⟨h7.1.1.1,by simpa using h7.1.1.2,qkd h7.1.2,fun hu => ?_⟩
    have h8 := h7.2
    simp only [hu,decide_true,Bool.not_true,Bool.false_or] at h8
    exact vaa h8
   ·cases h
  ·cases h
theorem qmH {P : Program} : ∀ (tt : Tab) (s : Nat),tabB P s tt = true -> ∀ t,(nth default tt t).k.isOther = true \/ RowOK P (s + t) (nth default tt t)
 | [],_,_,t => by left; cases t <;> rfl
 | r :: rs,s,h,t => by
  simp only [tabB,vae] at h
  cases t with
  | zero => exact qo1 h.1
  | succ t => have := qmH rs (s + 1) h.2 t; rw [show s + (t + 1) = s + 1 + t by omega]; exact this
theorem qdi {P : Program} {tt : Tab} (h : tabB P 0 tt = true) : TabOK P tt := fun t => by have := qmH tt 0 h t; rw [vak] at this; exact this
def Dof (c : Ctx) (objs ch : Objs) (b : Nat) : Prop := ∃ o,o ∈ ch.map (·.1) /\ (look .dead objs o).mut = true /\ c.has o b
structure Done (c : Ctx) (objs : Objs) (c' : Ctx) (v : V) (u : Value) (ch : Objs) (nx' : Nat) : Prop where
 step : Step c c' (Dof c objs ch)
 ok : SOK c' (ch ++ objs)
 rel : Rel c' v u
 nx : c'.nx = nx'
 fresh : ∀ o b,o ∈ ch.map (·.1) -> (look .dead (ch ++ objs) o).mut = true -> c'.has o b -> c.w.heap.size <= b \/ Dof c objs ch b
 ids : ∀ o,o ∈ ch.map (·.1) -> o < nx'
theorem Done.pure {c : Ctx} {objs : Objs} {v : V} {u : Value} (hs : SOK c objs) (h : Rel c v u) : Done c objs c v u [] c.nx :=
 ⟨⟨rfl,rfl,rfl,vag _,vag _,fun _ _ => rfl,fun _ _ => rfl,fun _ _ _ _ => Iff.rfl,fun _ _ _ => rfl,fun _ _ _ => Iff.rfl,fun _ _ _ => Iff.rfl,fun b ⟨o,ho,_⟩ => (by cases ho)⟩,hs,h,rfl,fun o b ho => (by cases ho),fun o ho => (by cases ho)⟩
def OpS (P : Program) (o : Oper) (a : Act) (c : Ctx) (objs : Objs) (v : V) (ch : Objs) (nx' : Nat) : Prop :=
 ∀ (K : Act -> World -> Prop) (Q : Exit -> Act -> World -> Prop),(∀ u c',Done c objs c' v u ch nx' -> (Strict -> c.w.drawn <= c'.w.drawn) -> K (a.put o.dst u) c'.w) -> o.wp P a c.w K Q
theorem OpS.value {P : Program} {o : Oper} {a : Act} {c c' : Ctx} {objs : Objs} {v : V} {u : Value} {ch : Objs} {nx' : Nat} (hr : (execOp a.eval o).run P c.w = .ok (.value u) c'.w) (h : Done c objs c' v u ch nx') : OpS P o a c objs v ch nx' := by
 intro K Q hk
 unfold Oper.wp
 rw [hr]
 exact hk u c' h fun _=>qbL _ _ hr
theorem OpS.skip {P : Program} {o : Oper} {a : Act} {c c' : Ctx} {objs : Objs} {ch : Objs} {nx' : Nat} (hr : (execOp a.eval o).run P c.w = .ok .skip c'.w) (h : Done c objs c' .undef Go.undef ch nx') : OpS P o a c objs .undef ch nx' := by
 intro K Q hk
 unfold Oper.wp
 rw [hr]
 exact hk _ c' h fun _=>qbL _ _ hr
def EnvRel (c : Ctx) (env : Env) (a : Act) : Prop := ∀ t,Rel c (look .undef env t) (a.tmps.getD t Go.undef)
theorem qih (c : Ctx) (v : Value) : Rel c (ofVal1 v) v := by
 unfold ofVal1
 split <;> simp [Rel]
theorem qhe (c : Ctx) : ∀ vs : List Value,RelL c (vs.map ofVal1) vs
 | [] => rfl
 | v :: r => ⟨v,r,rfl,qih c v,qhe c r⟩
theorem qmU (c : Ctx) (v : Value) : Rel c (ofVal v) v := by
 unfold ofVal
 split
 ·rename_i cs; exact ⟨cs.toList,by simp,qhe c _⟩
 ·exact qih c v
theorem qfa {c : Ctx} {env : Env} {a : Act} (h : EnvRel c env a) (x : Operand) : Rel c (rawO env x) (a.eval x) := by
 cases x with
 | tmp t => exact h t
 | const v => exact qmU c v
 | func f => exact ⟨[],rfl,rfl⟩
 | global g => exact trivial
theorem Rel.strip {c : Ctx} {v : V} {u : Value} (h : Rel c v u) : Rel c v.strip u := by
 cases v with
 | ownn o => exact ⟨h.1,h.2.1⟩
 | _ => exact h
theorem RelL.strip {c : Ctx} : ∀ {vs : List V} {us : List Value},RelL c vs us -> RelL c (vs.map V.strip) us
 | [],_,h => h
 | _ :: _,_,⟨u,us',e,h1,h2⟩ => ⟨u,us',e,h1.strip,RelL.strip h2⟩
theorem qaw {c : Ctx} {env : Env} {a : Act} (h : EnvRel c env a) (x : Operand) : Rel c (evalO env x) (a.eval x) := (qfa h x).strip
theorem qaK {P : Program} {s : Sem Value} {w w' : World} {u : Value} (h : s.run P w = .ok u w') : (do return .value (<- s) : Sem Next).run P w = .ok (.value u) w' := by
 rw [Sem.run_bind,h]
 rfl
end Go.Vm

namespace Go.Vm
open Go
variable {P : Program} {tt : Tab}
theorem TabOK.row {t : Nat} (h : TabOK P tt) (ho : (tt.row t).k.isOther = false) : RowOK P t (tt.row t) := (h t).resolve_left (by simp [ho])
theorem qpf {k : TK} {d : TypeDesc} (h : kindB k d = true) (hk : k.isSl = true) : ∃ e,k = .sl e /\ d = .slice e := by
 cases k <;> simp [TK.isSl] at hk
 cases d <;> simp [kindB] at h
 exact ⟨_,rfl,by rw [h]⟩
theorem qnk {k : TK} {d : TypeDesc} (h : kindB k d = true) (hk : k.isBool = true) : d = .bool := by
 cases k <;> simp [TK.isBool] at hk
 cases d <;> simp [kindB] at h
 rfl
theorem qof {k : TK} {d : TypeDesc} (h : kindB k d = true) (hk : k.isPtr = true) : ∃ e,k = .ptr e /\ d = .pointer e := by
 cases k <;> simp [TK.isPtr] at hk
 cases d <;> simp [kindB] at h
 exact ⟨_,rfl,by rw [h]⟩
theorem TabOK.sl {t : Nat} (h : TabOK P tt) (hk : (tt.row t).k.isSl = true) : ∃ e,(tt.row t).k = .sl e /\ P.underlying t = some (.slice e) := by
 obtain ⟨d,i,z,hd,_,_,hkd,_⟩ := (h.row (t := t) (by cases hh : (tt.row t).k <;> simp_all [TK.isSl,TK.isOther])).out
 obtain ⟨e,h1,h2⟩ := qpf hkd hk
 exact ⟨e,h1,by rw [hd,h2]⟩
theorem TabOK.bool {t : Nat} (h : TabOK P tt) (hk : (tt.row t).k.isBool = true) : P.underlying t = some .bool := by
 obtain ⟨d,i,z,hd,_,_,hkd,_⟩ := (h.row (t := t) (by cases hh : (tt.row t).k <;> simp_all [TK.isBool,TK.isOther])).out
 rw [hd,qnk hkd hk]
theorem TabOK.ptr {t : Nat} (h : TabOK P tt) (hk : (tt.row t).k.isPtr = true) : ∃ e,P.underlying t = some (.pointer e) := by
 obtain ⟨d,i,z,hd,_,_,hkd,_⟩ := (h.row (t := t) (by cases hh : (tt.row t).k <;> simp_all [TK.isPtr,TK.isOther])).out
 obtain ⟨e,_,h2⟩ := qof hkd hk
 exact ⟨e,by rw [hd,h2]⟩
def Bin (P : Program) (op : BinOp) (t : TypeId) (X Y : Operand) (x y z : Value) (w : World) : Prop :=
 (do eqGuard op t X Y x y; binOp op t x y : Sem Value).run P w = .ok z w
theorem qmj {op : BinOp} {k : IntKind} {a b : Int} {K : V -> Option R} {r : R} (c : Ctx) (t : TypeId) (X Y : Operand) (h : binI op k a b K = some r) :
  ∃ v z,K v = some r /\ Rel c v z /\ Bin P op t X Y (.int k a) (.int k b) z c.w := by
 have hd : ∀ p : Prop,[Decidable p] -> ∀ q : Bool,(decide p = q) -> Rel c (.b (decide p)) (.bool q) := fun p _ q hq => by rw [hq]; rfl
 cases op <;> simp only [binI] at h <;> first | (cases h; done) | skip
 case add => exact ⟨_,_,h,rfl,by simp [Bin,eqGuard,binOp,Op.intArith]⟩
 case sub => exact ⟨_,_,h,rfl,by simp [Bin,eqGuard,binOp,Op.intArith]⟩
 case mul => exact ⟨_,_,h,rfl,by simp [Bin,eqGuard,binOp,Op.intArith]⟩
 case quo => obtain ⟨hb,h⟩ := qa5 h; exact ⟨_,_,h,rfl,by simp [Bin,eqGuard,binOp,Op.intDiv,hb]⟩
 case rem => obtain ⟨hb,h⟩ := qa5 h; exact ⟨_,_,h,rfl,by simp [Bin,eqGuard,binOp,Op.intDiv,hb]⟩
 case eql => exact ⟨_,.bool (decide (a = b)),h,rfl,by simp [Bin,eqGuard,binOp,Op.intCmp]; rfl⟩
 case neq => exact ⟨_,.bool (!decide (a = b)),h,rfl,by simp [Bin,eqGuard,binOp,Op.intCmp,bne]; rfl⟩
 case lss => exact ⟨_,.bool (decide (a < b)),h,rfl,by simp [Bin,eqGuard,binOp,Op.intCmp]⟩
 case leq => exact ⟨_,.bool (decide (a <= b)),h,rfl,by simp [Bin,eqGuard,binOp,Op.intCmp]⟩
 case gtr => exact ⟨_,.bool (decide (b < a)),h,rfl,by simp [Bin,eqGuard,binOp,Op.intCmp]⟩
 case geq => exact ⟨_,.bool (decide (b <= a)),h,rfl,by simp [Bin,eqGuard,binOp,Op.intCmp]⟩
 case and => exact ⟨_,_,h,rfl,by simp [Bin,eqGuard,binOp,intBits_and]⟩
 case or => exact ⟨_,_,h,rfl,by simp [Bin,eqGuard,binOp,intBits_or]⟩
 case xor => exact ⟨_,_,h,rfl,by simp [Bin,eqGuard,binOp,intBits_xor]⟩
 case andNot => exact ⟨_,_,h,rfl,by simp [Bin,eqGuard,binOp,intBits_andNot]⟩
theorem qdj {neg empty : Bool} {K : V -> Option R} {r : R} (q : Bool) (hq : empty = false -> q = neg) (h : nilTest neg empty K = some r) : K (.b q) = some r := by
 unfold nilTest at h
 rcases qdK h with ⟨_,h⟩ | ⟨he,h⟩
 ·obtain ⟨h1,h2⟩ := qnE h
  cases q
  ·exact h2
  ·exact h1
 ·rw [hq he]; exact h
theorem qjI {α : Type} {C : α -> List Value -> Prop} {w : World} {S : Nat -> Prop} {xs : List α} {a : Option Addr} {n k : Nat} (h : Rows C w S xs a n k) (hx : xs.isEmpty = false) : a.isNone = false := by
 obtain ⟨_,_,_,_,h | ⟨b,off,e,_⟩⟩ := h
 ·subst h; simp at hx
 ·rw [e]; rfl
theorem SOK.own_hdr {c : Ctx} {objs : Objs} (hs : SOK c objs) {o : Nat} {e : Ty} {xs : List e.den} {fz : Bool} (ho : look .dead objs o = .row e xs fz) :
  ∃ a n k,c.hdr o = .slice a n k /\ n = xs.length /\ (xs.isEmpty = false -> a.isNone = false) := by
 have := hs.obj o
 rw [ho] at this
 obtain ⟨_,et,cells,hown,_⟩ := this
 rcases hown.2 with ⟨h1,h2⟩ | ⟨g,cap,cur,h1,_⟩
 ·exact ⟨none,0,0,h1,h2.symm,fun hx => by rw [List.isEmpty_eq_false_iff] at hx; exact absurd (vad h2) hx⟩
 ·exact ⟨_,_,_,h1,rfl,fun _=>rfl⟩
theorem qno {t : TypeId} (w : World) (ht : P.underlying t = some .bool) (a b : Bool) : (Op.equal t (.bool a) (.bool b)).run P w = .ok (a == b) w := by
 show (Op.equalIn (9999 + 1) t (.bool a) (.bool b)).run P w = _
 rw [Op.equalIn.eq_2]
 rw [Sem.run_bind,run_underlying ht]
 rfl
theorem qom {t e : TypeId} (w : World) (ht : P.underlying t = some (.slice e)) (a : Option Addr) (n k : Nat) : (Op.equal t (.slice a n k) (.slice none 0 0)).run P w = .ok a.isNone w := by
 show (Op.equalIn (9999 + 1) t (.slice a n k) (.slice none 0 0)).run P w = _
 rw [Op.equalIn.eq_2]
 rw [Sem.run_bind,run_underlying ht]
 cases a <;> rfl
theorem qoO {t e : TypeId} (w : World) (ht : P.underlying t = some (.pointer e)) (a : Addr) : (Op.equal t (.pointer (some a)) (.pointer none)).run P w = .ok false w := by
 show (Op.equalIn (9999 + 1) t (.pointer (some a)) (.pointer none)).run P w = _
 rw [Op.equalIn.eq_2]
 rw [Sem.run_bind,run_underlying ht]
 rfl
theorem qoP {t e : TypeId} (w : World) (ht : P.underlying t = some (.pointer e)) : (Op.equal t (.pointer none) (.pointer none)).run P w = .ok true w := by
 show (Op.equalIn (9999 + 1) t (.pointer none) (.pointer none)).run P w = _
 rw [Op.equalIn.eq_2]
 rw [Sem.run_bind,run_underlying ht]
 rfl
theorem qdf {op : BinOp} {t e : TypeId} {X Y : Operand} {a : Option Addr} {n k : Nat} (w : World) (ht : P.underlying t = some (.slice e)) (hop : op = .eql \/ op = .neq) :
  Bin P op t X Y (.slice a n k) (.slice none 0 0) (.bool (match op with | .eql => a.isNone | _ => !a.isNone)) w := by
 rcases hop with rfl | rfl <;> simp [Bin,eqGuard,binOp,qom w ht]
theorem qmi (hT : TabOK P tt) {t : Nat} {objs : Objs} {op : BinOp} {x y : V} {K : V -> Option R} {r : R} {c : Ctx} (hs : SOK c objs) (X Y : Operand) {u v : Value} (hx : Rel c x u) (hy : Rel c y v)
  (h : binV tt t objs op x y K = some r) : ∃ q z,K q = some r /\ Rel c q z /\ Bin P op t X Y u v z c.w := by
 unfold binV at h
 split at h
 ·-- b == b
  split at h
  ·rename_i hk
   simp only [Rel] at hx hy; subst hx hy
   exact ⟨_,_,h,rfl,by simp [Bin,eqGuard,binOp,qno c.w (hT.bool hk)]⟩
  ·cases h
 ·split at h
  ·rename_i hk
   simp only [Rel] at hx hy; subst hx hy
   exact ⟨_,_,h,rfl,by simp [Bin,eqGuard,binOp,qno c.w (hT.bool hk)]⟩
  ·cases h
 ·simp only [Rel] at hx hy; subst hx hy
  exact ⟨_,_,h,rfl,by simp [Bin,eqGuard,binOp,Op.stringOp]⟩
 ·simp only [Rel] at hx hy; subst hx hy
  exact ⟨_,_,h,rfl,by simp [Bin,eqGuard,binOp,Op.stringOp]⟩
 ·simp only [Rel] at hx hy; subst hx hy
  obtain ⟨hsz,h⟩ := qa5 h
  refine ⟨_,_,h,rfl,?_⟩
  rename_i a b _
  have hm : IntKind.i64.max = 9223372036854775807 := rfl
  have h0 : ¬ (((a.size + b.size : Nat) : Int) > IntKind.i64.max) := by rw [hm]; omega
  have h1 : (Op.stringOp .add a b).run P c.w = .ok (.string (a ++ b)) c.w := by
   simp only [Op.stringOp]
   rw [if_neg h0]; rfl
  show (do eqGuard .add t X Y (.string a) (.string b); binOp .add t (.string a) (.string b) : Sem Value).run P c.w = _
  rw [show eqGuard .add t X Y (.string a) (.string b) = (pure () : Sem Unit) from by simp [eqGuard]]
  exact h1
 ·split at h
  ·rename_i hk
   simp only [Rel] at hx hy; subst hy
   obtain ⟨a,n,k,rfl,_,rfl⟩ := hx
   obtain ⟨e,_,ht⟩ := hT.sl hk
   exact ⟨_,_,h,rfl,qdf c.w ht (.inl rfl)⟩
  ·cases h
 ·split at h
  ·rename_i hk
   simp only [Rel] at hx hy; subst hy
   obtain ⟨a,n,k,rfl,_,rfl⟩ := hx
   obtain ⟨e,_,ht⟩ := hT.sl hk
   exact ⟨_,_,h,rfl,qdf c.w ht (.inr rfl)⟩
  ·cases h
 ·split at h
  ·rename_i hk
   simp only [Rel] at hx hy; subst hy
   obtain ⟨a,n,k,rfl,hr⟩ := hx
   obtain ⟨e,_,ht⟩ := hT.sl hk
   exact ⟨_,_,qdj a.isNone (fun he => qjI hr he) h,rfl,qdf c.w ht (.inl rfl)⟩
  ·cases h
 ·split at h
  ·rename_i hk
   simp only [Rel] at hx hy; subst hy
   obtain ⟨a,n,k,rfl,hr⟩ := hx
   obtain ⟨e,_,ht⟩ := hT.sl hk
   exact ⟨_,_,qdj (!a.isNone) (fun he => by rw [qjI hr he]; rfl) h,rfl,qdf c.w ht (.inr rfl)⟩
  ·cases h
 ·split at h
  ·rename_i hk
   simp only [Rel] at hx hy; subst hx hy
   obtain ⟨e,_,ht⟩ := hT.sl hk
   exact ⟨_,_,h,rfl,qdf c.w ht (.inl rfl)⟩
  ·cases h
 ·split at h
  ·rename_i hk
   simp only [Rel] at hx hy; subst hx hy
   obtain ⟨e,_,ht⟩ := hT.sl hk
   exact ⟨_,_,h,rfl,qdf c.w ht (.inr rfl)⟩
  ·cases h
 ·split at h
  ·rename_i o _ e xs fz hk ho
   simp only [Rel] at hx hy; subst hy
   obtain ⟨_,rfl⟩ := hx
   obtain ⟨a,n,k,hh,_,ha⟩ := hs.own_hdr ho
   obtain ⟨e,_,ht⟩ := hT.sl hk
   rw [hh]
   exact ⟨_,_,qdj a.isNone (fun he => ha he) h,rfl,qdf c.w ht (.inl rfl)⟩
  ·cases h
 ·split at h
  ·rename_i o _ e xs fz hk ho
   simp only [Rel] at hx hy; subst hy
   obtain ⟨_,rfl⟩ := hx
   obtain ⟨a,n,k,hh,_,ha⟩ := hs.own_hdr ho
   obtain ⟨e,_,ht⟩ := hT.sl hk
   rw [hh]
   exact ⟨_,_,qdj (!a.isNone) (fun he => by rw [ha he]; rfl) h,rfl,qdf c.w ht (.inr rfl)⟩
  ·cases h
 ·split at h
  ·rename_i hk
   simp only [Rel] at hx hy; subst hx hy
   obtain ⟨e,ht⟩ := hT.ptr hk
   exact ⟨_,_,h,rfl,by simp [Bin,eqGuard,binOp,qoP c.w ht]⟩
  ·cases h
 ·split at h
  ·rename_i hk
   simp only [Rel] at hx hy; subst hx hy
   obtain ⟨e,ht⟩ := hT.ptr hk
   exact ⟨_,_,h,rfl,by simp [Bin,eqGuard,binOp,qoP c.w ht]⟩
  ·cases h
 ·split at h
  ·rename_i hk
   simp only [Rel] at hx hy; subst hy
   obtain ⟨_,b,_,rfl⟩ := hx
   obtain ⟨e,ht⟩ := hT.ptr hk
   exact ⟨_,_,h,rfl,by simp [Bin,eqGuard,binOp,qoO c.w ht]⟩
  ·cases h
 ·split at h
  ·rename_i hk
   simp only [Rel] at hx hy; subst hy
   obtain ⟨_,b,_,rfl⟩ := hx
   obtain ⟨e,ht⟩ := hT.ptr hk
   exact ⟨_,_,h,rfl,by simp [Bin,eqGuard,binOp,qoO c.w ht]⟩
  ·cases h
 ·simp only [Rel] at hx hy; subst hx hy
  obtain ⟨h0,h⟩ := qa5 h
  exact ⟨_,_,h,rfl,by simp [Bin,eqGuard,binOp,Op.shift,Int.not_lt.2 h0]⟩
 ·simp only [Rel] at hx hy; subst hx hy
  obtain ⟨h0,h⟩ := qa5 h
  exact ⟨_,_,h,rfl,by simp [Bin,eqGuard,binOp,Op.shift,Int.not_lt.2 h0]⟩
 ·split at h
  ·rename_i hk
   simp only [Rel] at hx hy; subst hx hy hk
   exact qmj c t X Y h
  ·cases h
 ·cases h
theorem qmd (hT : TabOK P tt) {t : Nat} {op : BinOp} {e : Bool} {K : V -> Option R} {r : R} {c : Ctx} (X : Operand) {u : Value} (hx : Rel c (.err e) u) (h : errV tt t op e K = some r) :
  ∃ q z,K q = some r /\ Rel c q z /\ Bin P op t X (.const .nilIface) u .nilIface z c.w := by
 have key : ∀ (hk : (tt.row t).k.isIface = true),(Op.equal t u .nilIface).run P c.w = .ok (!e) c.w := fun hk => by
  obtain ⟨ms,ht⟩ : ∃ ms,P.underlying t = some (.interface ms) := by
   have hk' : (tt.row t).k = .iface := by
    revert hk
    cases (tt.row t).k <;> simp [TK.isIface]
   obtain ⟨d',_,_,hd',_,_,hkd,_⟩ := (hT.row (t := t) (by rw [hk']; rfl)).out
   rw [hk'] at hkd
   cases d' <;> simp [kindB] at hkd
   exact ⟨_,hd'⟩
  show (Op.equalIn (9999 + 1) t u .nilIface).run P c.w = _
  rw [Op.equalIn.eq_2]
  rw [Sem.run_bind,run_underlying ht]
  cases e with
  | true => obtain ⟨t',p,rfl⟩ := hx; rfl
  | false => cases hx; rfl
 have hg : ∀ op,(eqGuard op t X (.const .nilIface) u .nilIface : Sem Unit) = pure () := fun op => by
  unfold eqGuard
  cases e with
  | true => obtain ⟨t',p,rfl⟩ := hx; cases op <;> simp
  | false => cases hx; cases op <;> simp
 unfold errV at h
 split at h
 ·rename_i hk
  refine ⟨_,_,h,rfl,?_⟩
  unfold Bin
  rw [hg]
  have hb : (binOp .eql t u .nilIface : Sem Value) = (do return .bool (<- Op.equal t u .nilIface)) := by
   cases e with
   | true => obtain ⟨t',p,rfl⟩ := hx; rfl
   | false => cases hx; rfl
  simp [hb,key hk]
 ·rename_i hk
  refine ⟨_,_,h,rfl,?_⟩
  unfold Bin
  rw [hg]
  have hb : (binOp .neq t u .nilIface : Sem Value) = (do return .bool (!(<- Op.equal t u .nilIface))) := by
   cases e with
   | true => obtain ⟨t',p,rfl⟩ := hx; rfl
   | false => cases hx; rfl
  simp [hb,key hk]
 ·cases h
theorem qmy {op : UnOp} {x : V} {K : V -> Option R} {r : R} {c : Ctx} {u : Value} (hx : Rel c x u) (h : unV op x K = some r) : ∃ q z,K q = some r /\ Rel c q z /\ (Op.unary op u).run P c.w = .ok z c.w := by
 unfold unV at h
 split at h
 ·simp only [Rel] at hx; subst hx
  exact ⟨_,_,h,rfl,by simp [Op.unary,Op.intArith]⟩
 ·simp only [Rel] at hx; subst hx
  exact ⟨_,_,h,rfl,by simp [Op.unary]⟩
 ·cases h
end Go.Vm

namespace Go.Vm
open Go
variable {P : Program} {tt : Tab}
def aggD : TypeDesc -> Bool | .struct _ => true | .array _ _ => true | _ => false
theorem qmb {k : TK} {d : TypeDesc} (h : kindB k d = true) : aggD d = k.isAgg := by
 cases k <;> cases d <;> first | rfl | exact absurd h Bool.false_ne_true
theorem qfo (hT : TabOK P tt) {t : Nat} (ho : (tt.row t).k.isOther = false) (w : World) : (isAgg t).run P w = .ok (tt.isAgg t) w := by
 obtain ⟨d,i,z,hd,_,_,hk,_⟩ := (hT.row ho).out
 have := qmb hk
 unfold Tab.isAgg
 rw [<- this]
 unfold Go.isAgg
 rw [Sem.run_bind,run_underlying hd]
 cases d <;> rfl
theorem run_sizeOf (hT : TabOK P tt) {t : Nat} (ho : (tt.row t).k.isOther = false) (w : World) : (sizeOf t).run P w = .ok (tt.row t).size w := by
 obtain ⟨d,i,z,_,hi,_,_,hs,_⟩ := (hT.row ho).out
 simp [sizeOf,typeInfo,hi,hs]
theorem RelL.len {c : Ctx} : ∀ {vs : List V} {us : List Value},RelL c vs us -> us.length = vs.length
 | [],us,h => by rw [show us = [] from h]; rfl
 | v :: r,us,h => by obtain ⟨u,us',e,_,h2⟩ := h; rw [e,vaz,vaz,RelL.len h2]
theorem RelL.take {c : Ctx} : ∀ {vs : List V} {us : List Value} (n : Nat),RelL c vs us -> RelL c (vs.take n) (us.take n)
 | [],us,n,h => by rw [show us = [] from h]; cases n <;> exact rfl
 | v :: r,us,0,h => rfl
 | v :: r,us,n + 1,h => by obtain ⟨u,us',e,h1,h2⟩ := h; rw [e]; exact ⟨u,us'.take n,rfl,h1,RelL.take n h2⟩
theorem RelL.drop {c : Ctx} : ∀ {vs : List V} {us : List Value} (n : Nat),RelL c vs us -> RelL c (vs.drop n) (us.drop n)
 | [],us,n,h => by rw [show us = [] from h]; cases n <;> exact rfl
 | v :: r,us,0,h => h
 | v :: r,us,n + 1,h => by obtain ⟨u,us',e,h1,h2⟩ := h; rw [e]; exact RelL.drop n h2
theorem RelL.append {c : Ctx} : ∀ {vs : List V} {us : List Value} {vs' : List V} {us' : List Value},RelL c vs us -> RelL c vs' us' -> RelL c (vs ++ vs') (us ++ us')
 | [],us,vs',us',h,h' => by rw [show us = [] from h]; exact h'
 | v :: r,us,vs',us',h,h' => by obtain ⟨u,us1,e,h1,h2⟩ := h; rw [e]; exact ⟨u,us1 ++ us',rfl,h1,RelL.append h2 h'⟩
theorem qbW {c : Ctx} (bor : Bool) : ∀ (t : Ty) (x : t.den) (cs : List Value),Cells c.w c.SA t x cs -> RelL c (cellsOf t x false) cs
 | .int k,x,cs,h => ⟨_,[],h,rfl,rfl⟩
 | .bool,x,cs,h => ⟨_,[],h,rfl,rfl⟩
 | .str,x,cs,h => ⟨_,[],h,rfl,rfl⟩
 | .sl e,x,cs,h => by obtain ⟨a,n,k,e',hr⟩ := h; exact ⟨_,[],e',⟨a,n,k,rfl,hr⟩,rfl⟩
 | .unit,x,cs,h => h
 | .pair a b,x,cs,h => by
  obtain ⟨c1,c2,e,h1,h2⟩ := h
  rw [e]; exact (qbW bor a x.1 c1 h1).append (qbW bor b x.2 c2 h2)
def At (w : World) (b off : Nat) (us : List Value) : Prop := ∀ (j : Nat) u,us[j]? = some u -> cellAt w b (off + j) = some u
theorem At.drop {w : World} {b off : Nat} {us : List Value} (h : At w b off us) (n : Nat) : At w b (off + n) (us.drop n) := fun j u hu => by
 rw [vaH] at hu; rw [vaS]; exact h (n + j) u hu
theorem qcc (hT : TabOK P tt) {t : Nat} (ho : (tt.row t).k.isOther = false) {c : Ctx} {b off : Nat} {cs : List V} {us : List Value} (hr : RelL c cs us) (ha : At c.w b off us) {K : V -> Option R} {r : R}
  (h : takeV tt t cs K = some r) :
  ∃ v z,K v = some r /\ Rel c v z /\ (loadVar t ⟨b,off,none⟩).run P c.w = .ok z c.w := by
 unfold takeV at h
 cases hg : tt.isAgg t with
 | true =>
  rw [hg] at h
  dsimp only at h
  split at h
  ·rename_i hle
   have hle : (tt.row t).size <= cs.length := vaq hle
   refine ⟨_,.agg (us.take (tt.row t).size).toArray,h,⟨_,rfl,hr.take _⟩,?_⟩
   have hlen : (us.take (tt.row t).size).length = (tt.row t).size := by rw [vac,hr.len]; omega
   have hl : (loadCells ⟨b,off,none⟩ (tt.row t).size).run P c.w = .ok (us.take (tt.row t).size).toArray c.w := by
    have := run_loadCells_list (P := P) c.w ⟨b,off,none⟩ (us.take (tt.row t).size) (fun j v hv => by
     rw [Addr.add_lit]
     rw [vau] at hv
     split at hv
     ·exact ha j v hv
     ·cases hv)
    rwa [hlen] at this
   unfold loadVar
   simp [qfo hT ho,hg,run_sizeOf hT ho,hl]
  ·cases h
 | false =>
  rw [hg] at h
  dsimp only at h
  cases cs with
  | nil => cases h
  | cons v cs =>
   obtain ⟨u,us',e,h1,_⟩ := hr
   refine ⟨v,u,h,h1,?_⟩
   have hc : c.w.cell? ⟨b,off,none⟩ = some u := by have := ha 0 u (by rw [e]; rfl); simpa [cellAt] using this
   unfold loadVar
   simp [qfo hT ho,hg,load,Sem.run,hc]
theorem SOK.var_at {c : Ctx} {objs : Objs} (hs : SOK c objs) {o vt : Nat} {cs : List V} (ho : look .dead objs o = .var vt cs) :
  ∃ b us el,c.blk o = some b /\ c.w.heap[b]? = some (.cells (us : List Value).toArray el (0,0)) /\ RelL c cs us /\ c.SB b /\ cs.all V.isC = true /\ At c.w b 0 us /\ el = vt := by
 have := hs.obj o
 rw [ho] at this
 obtain ⟨_,b,us,el,h1,h2,h3,h4,h5,h6⟩ := this
 exact ⟨b,us,el,h1,h2,h3,h4,h5,fun j u hu => (by rw [vak,cellAt,cell_of_row _ _ _ _ _ _ h2]; simpa using hu),h6⟩
theorem SOK.row_at {c : Ctx} {objs : Objs} (hs : SOK c objs) {o : Nat} {e : Ty} {xs : List e.den} {fz : Bool} (ho : look .dead objs o = .row e xs fz) :
  ∃ et cells,c.w.ownsRow 0 et e.size (c.hdr o) xs.length cells /\ CellsL (Cells c.w c.SA e) xs cells /\ (c.hdr o).ownBlock = c.blk o /\
   (∀ b,c.blk o = some b -> (fz = false -> c.SB b) /\ (fz = true -> ¬ c.SA b)) /\ (∀ b,c.blk o = some b -> At c.w b 0 cells /\ b < c.w.heap.size) /\ (xs ≠ [] -> ∃ b,c.blk o = some b) /\ TyOK e et := by
 have := hs.obj o
 rw [ho] at this
 obtain ⟨_,et,cells,h1,h2,h3,h4,h5⟩ := this
 refine ⟨et,cells,h1,h2,h3,h4,fun b hb => ⟨fun j u hu => ?_,?_⟩,fun hx => ?_,h5⟩
 ·have := h1.cells (g := b) (by rw [h3,hb]) j u hu
  rw [Addr.add_lit] at this; exact this
 ·have := h1.lt b (by rw [h3,hb]); exact this.2
 ·rcases h1.2 with ⟨_,h⟩ | ⟨g,cap,cur,hv,_⟩
  ·exact absurd (vad h) hx
  ·exact ⟨g,by rw [<- h3,hv]; rfl⟩
theorem qkV {c : Ctx} {objs : Objs} (hs : SOK c objs) {o : Nat} {e : Ty} {xs : List e.den} {fz : Bool} (ho : look .dead objs o = .row e xs fz) {i b : Nat} (hi : i < xs.length) (hb : c.blk o = some b) :
  ∃ us,Cells c.w c.SA e (xs.getD i e.dflt) us /\ At c.w b (i * e.size) us := by
 obtain ⟨et,cells,_,h2,_,_,h5,_⟩ := hs.row_at ho
 obtain ⟨us,hc,hg⟩ := h2.get (fun x cs h => Cells.len e x cs h) e.dflt _ _ i hi
 refine ⟨us,hc,fun j u hu => ?_⟩
 have := (h5 b hb).1 (i * e.size + j) u (hg j u hu)
 rwa [vak] at this
theorem SOK.hole_at {c : Ctx} {objs : Objs} (hs : SOK c objs) {o : Nat} {e : Ty} {xs : List e.den} {ix : Nat} {cs : List V} (ho : look .dead objs o = .hole e xs ix cs) :
  ∃ b cap us,c.hdr o = .slice (some ⟨b,0,none⟩) xs.length cap /\ c.blk o = some b /\ RelL c cs us /\ At c.w b (ix * e.size) us := by
 have := hs.obj o
 rw [ho] at this
 obtain ⟨_,et,cells,b,pre,mid,post,h1,rfl,h3,h4,h5,h6,h7,h8,h9,h10,h11⟩ := this
 rcases h1.2 with ⟨hv,h⟩ | ⟨g,cap,cur,hv,_⟩
 ·omega
 ·have hg : g = b := by rw [hv,h10] at h9; simpa [Value.ownBlock] using h9
  subst hg
  refine ⟨g,cap,mid,hv,h10,h4,fun j u hu => ?_⟩
  have hpl := h3.len (fun x cs h => Cells.len e x cs h)
  rw [vac,vaj (by omega)] at hpl
  have hj : j < mid.length := by
   rcases Nat.lt_or_ge j mid.length with h | h
   ·exact h
   ·rw [vaB h] at hu; cases hu
  have := h1.cells (g := g) (by rw [h9,h10]) (ix * e.size + j) u (by
   rw [vao,va8 (by omega),<- hpl,Nat.add_sub_cancel_left,vbc hj]; exact hu)
  rw [Addr.add_lit,vak] at this
  exact this
theorem qhC (hT : TabOK P tt) {t : Nat} {objs : Objs} {a : V} {K : V -> Option R} {r : R} {c : Ctx} (hs : SOK c objs) {u : Value} (ha : Rel c a u) (h : loadV tt objs t a K = some r) :
  ∃ v z,K v = some r /\ Rel c v z /\ (Instr.loadAt t u).run P c.w = .ok z c.w := by
 unfold loadV at h
 split at h
 ·cases h
 ·rename_i ho
  split at h
  ·rename_i o off
   split at h
   ·rename_i cs hob
    obtain ⟨_,b,hb,rfl⟩ := ha
    obtain ⟨b',us,el,hb',_,hr,_,_,hat,_⟩ := hs.var_at hob
    cases hb.symm.trans hb'
    obtain ⟨v,z,h1,h2,h3⟩ := qcc hT ho (hr.drop off) (hat.drop off) h
    rw [vak] at h3
    exact ⟨v,z,h1,h2,by simp [Instr.loadAt,Instr.sureAddr,h3]⟩
   ·cases h
  ·rename_i o ix es off
   split at h
   ·rename_i e xs fz hob
    split at h
    ·rename_i hes
     have hes : es = e.size := vaa hes
     obtain ⟨hix,h⟩ := qa5 h
     obtain ⟨_,b,hb,rfl⟩ := ha
     obtain ⟨us,hc,hat⟩ := qkV hs hob hix hb
     obtain ⟨v,z,h1,h2,h3⟩ := qcc hT ho ((qbW (c := c) false e _ us hc).drop off) (hat.drop off) h
     exact ⟨v,z,h1,h2,by rw [hes]; simp [Instr.loadAt,Instr.sureAddr,h3]⟩
    ·cases h
   ·rename_i e xs jx cs hob
    split at h
    ·rename_i hes
     have hes : es = e.size := vaa hes
     obtain ⟨hix,hk⟩ := qa5 h
     obtain ⟨_,b,hb,rfl⟩ := ha
     obtain ⟨b',cap,us,_,hb',hr,hat⟩ := hs.hole_at hob
     rw [<- hix] at hat
     cases hb.symm.trans hb'
     obtain ⟨v,z,h1,h2,h3⟩ := qcc hT ho (hr.drop off) (hat.drop off) hk
     exact ⟨v,z,h1,h2,by rw [hes]; simp [Instr.loadAt,Instr.sureAddr,h3]⟩
    ·cases h
   ·cases h
  ·rename_i cs
   obtain ⟨b,off,us,rfl,_,_,hr,hat⟩ := ha
   obtain ⟨v,z,h1,h2,h3⟩ := qcc hT ho hr hat h
   exact ⟨v,z,h1,h2,by simp [Instr.loadAt,Instr.sureAddr,h3]⟩
  ·cases h
theorem qhD {k : TK} {d : TypeDesc} (h : kindB k d = true) {fs : List (Nat × Nat)} (hk : k = .struct fs) : ∃ gs : Array Field,d = .struct gs /\ fs = gs.toList.map fun f => (f.offset,f.type) := by
 subst hk
 cases d <;> simp [kindB] at h
 exact ⟨_,rfl,qiv h⟩
theorem qd8 {α : Type} (d : α) : ∀ (l : List α) (n : Nat),n < l.length -> l[n]? = some (nth d l n)
 | [],n,h => by simp at h
 | x :: r,0,_ => rfl
 | x :: r,n + 1,h => by simpa [nth] using qd8 d r n (by simpa using h)
theorem TabOK.field (hT : TabOK P tt) {t f : Nat} (h : hasField tt t f = true) : ∃ gs g,P.underlying t = some (.struct gs) /\ gs[f]? = some g /\ fieldOf tt t f = (g.offset,g.type) := by
 unfold hasField at h
 split at h
 ·rename_i fs hk
  obtain ⟨d,i,z,hd,_,_,hkd,_⟩ := (hT.row (t := t) (by rw [hk]; rfl)).out
  obtain ⟨gs,h1,h2⟩ := qhD hkd hk
  have hlt : f < fs.length := by simpa using h
  have hlt' : f < gs.toList.length := by rw [h2,vaW] at hlt; exact hlt
  refine ⟨gs,gs[f]'(by simpa using hlt'),by rw [hd,h1],by simp at hlt'; simp [hlt'],?_⟩
  unfold fieldOf
  rw [hk]
  dsimp only
  have hn := qd8 (0,0) fs f hlt
  rw [h2] at hn
  simp at hlt'
  simp [hlt'] at hn
  rw [h2,<- hn]
 ·cases h
theorem qgM (hT : TabOK P tt) {t f : Nat} {x : V} {K : V -> Option R} {r : R} {c : Ctx} {u : Value} (hx : Rel c x u) (h : fieldAddrV tt t x f K = some r) :
  ∃ v z,K v = some r /\ Rel c v z /\ (Instr.fieldAt t u f).run P c.w = .ok z c.w := by
 unfold fieldAddrV at h
 split at h
 ·cases h
 ·rename_i hc
  simp only [vae,vam] at hc
  obtain ⟨⟨hf,hsz⟩,ho⟩ := hc
  have hsz : 1 <= (tt.row (fieldOf tt t f).2).size := vaq hsz
  obtain ⟨gs,g,hu,hg,hfo⟩ := hT.field hf
  rw [hfo] at ho hsz
  dsimp only at ho hsz
  have run : ∀ b off,(Instr.fieldAt t (.pointer (some ⟨b,off,none⟩)) f).run P c.w = .ok (.pointer (some ⟨b,off + g.offset,none⟩)) c.w := fun b off => by
   have hs0 : ¬ ((tt.row g.type).size = 0) := by omega
   simp [Instr.fieldAt,run_underlying hu,hg,Instr.sureAddr,fieldPlace,run_sizeOf hT ho,hs0,Addr.add_lit]
  split at h
  ·obtain ⟨h1,b,hb,rfl⟩ := hx
   exact ⟨_,_,h,⟨h1,b,hb,by rw [hfo]⟩,run _ _⟩
  ·obtain ⟨h1,b,hb,rfl⟩ := hx
   exact ⟨_,_,h,⟨h1,b,hb,by rw [hfo,<- vaS]⟩,run _ _⟩
  ·obtain ⟨b,off,us,rfl,h1,h2,hr,hat⟩ := hx
   refine ⟨_,_,h,⟨b,off + g.offset,us.drop g.offset,rfl,h1,h2,by rw [hfo]; exact hr.drop _,At.drop hat g.offset⟩,run _ _⟩
  ·cases h
end Go.Vm

namespace Go.Vm
open Go
variable {P : Program} {tt : Tab}
theorem TabOK.slk {t et : Nat} (hT : TabOK P tt) (hk : (tt.row t).k = .sl et) : P.underlying t = some (.slice et) := by
 obtain ⟨e,h1,h2⟩ := hT.sl (t := t) (by rw [hk]; rfl)
 rw [hk] at h1; cases h1; exact h2
theorem qc2 (hT : TabOK P tt) {t et : Nat} (hk : (tt.row t).k = .sl et) (ho : (tt.row et).k.isOther = false) (w : World) (b off n k : Nat) (kk : IntKind) (i : Int) (h0 : 0 <= i) (h1 : i < (n : Int)) :
  (Instr.indexAt t (.slice (some ⟨b,off,none⟩) n k) (.int kk i)).run P w = .ok (.pointer (some ⟨b,off + i.toNat * (tt.row et).size,none⟩)) w := by
 simp [Instr.indexAt,asIntOf,run_underlying (hT.slk hk),h0,h1,run_sizeOf hT ho,Addr.add_lit]
theorem qkQ {c : Ctx} {objs : Objs} (hs : SOK c objs) {o : Nat} {e : Ty} {xs : List e.den} {fz : Bool} (ho : look .dead objs o = .row e xs fz) (hx : xs ≠ []) :
  ∃ b k,c.hdr o = .slice (some ⟨b,0,none⟩) xs.length k /\ c.blk o = some b /\ xs.length <= k := by
 obtain ⟨et,cells,h1,_,h3,_⟩ := hs.row_at ho
 rcases h1.2 with ⟨_,h⟩ | ⟨g,cap,cur,hv,_,_,hle,_⟩
 ·exact absurd (vad h) hx
 ·exact ⟨g,cap,hv,by rw [<- h3,hv]; rfl,hle⟩
theorem ne_of_lt {α : Type} {xs : List α} {n : Int} (h0 : 0 <= n) (h1 : n < (xs.length : Int)) : xs ≠ [] := fun h => by subst h; simp at h1; omega
theorem qfl {n : Int} {K : Nat -> Option R} {r : R} : ∀ (c m : Nat),splitIx n K c m = some r -> ∃ j,j < m + c /\ n = (j : Int) /\ K j = some r
 | 0,m,h => by cases h
 | c + 1,m,h => by
  unfold splitIx at h
  rcases qdK h with ⟨h1,h⟩ | ⟨_,h⟩
  ·exact ⟨m,by omega,of_decide_eq_true h1,h⟩
  ·rw [qcE] at h
   obtain ⟨j,h1,h2,h3⟩ := qfl c (m + 1) h
   exact ⟨j,by omega,h2,h3⟩
theorem qk0 {lit : Bool} {len : Nat} {n : Int} {K : Nat -> Option R} {r : R} (h : arrIx lit len n K = some r) : ∃ j,j < len /\ n = (j : Int) /\ K j = some r := by
 unfold arrIx at h
 split at h
 ·split at h
  ·rename_i m
   split at h
   ·rename_i hb; exact ⟨m,vaq hb,rfl,h⟩
   ·cases h
  ·cases h
 ·obtain ⟨j,h1,h2,h3⟩ := qfl len 0 h
  exact ⟨j,by omega,h2,h3⟩
theorem qgI (hT : TabOK P tt) {lit : Bool} {t : Nat} {objs : Objs} {x i : V} {K : V -> Option R} {r : R} {c : Ctx} (hs : SOK c objs) {u v : Value} (hx : Rel c x u) (hi : Rel c i v) (h : indexAddrV tt objs lit t x i K = some r) :
  ∃ q z,K q = some r /\ Rel c q z /\ (Instr.indexAt t u v).run P c.w = .ok z c.w := by
 unfold indexAddrV at h
 split at h
 ·rename_i kk n
  simp only [Rel] at hi; subst hi
  split at h
  ·rename_i et hk
   split at h
   ·cases h
   ·rename_i ho
    split at h
    ·rename_i e xs bor
     split at h
     ·rename_i hes
      have hes : (tt.row et).size = e.size := vaa hes
      obtain ⟨⟨h0,h1⟩,h⟩ := qa5 h
      obtain ⟨a,m,k,rfl,hm,hle,cells,hcl,hor⟩ := hx
      rcases hor with hor | ⟨b,off,rfl,hS,hb,hat⟩
      ·exact absurd hor (ne_of_lt h0 h1)
      ·subst hm
       obtain ⟨us,hc,hg⟩ := hcl.get (fun x cs h => Cells.len e x cs h) e.dflt _ _ n.toNat (by omega)
       refine ⟨_,_,h,⟨b,off + n.toNat * e.size,us,by rw [<- hes],?_,hb,qbW bor e _ us hc,fun j z hz => ?_⟩,qc2 hT hk ho c.w b off _ k kk n h0 h1⟩
       ·cases bor with
        | true => exact hS
        | false => exact fun hh => hS (hs.sub _ hh)
       ·rw [vaS]; exact hat _ _ (hg j z hz)
     ·cases h
    ·rename_i o
     split at h
     ·rename_i e xs fz hob
      split at h
      ·rename_i hes
       have hes : (tt.row et).size = e.size := vaa hes
       obtain ⟨⟨h0,h1⟩,h⟩ := qa5 h
       obtain ⟨hnx,rfl⟩ := hx
       obtain ⟨b,k,hh,hbk,hlk⟩ := qkQ hs hob (ne_of_lt h0 h1)
       obtain ⟨us,hc,hat⟩ := qkV hs hob (i := n.toNat) (by omega) hbk
       obtain ⟨_,_,_,_,_,h4,h5,_⟩ := hs.row_at hob
       have hrun := qc2 hT hk ho c.w b 0 xs.length k kk n h0 h1
       rw [<- hh,vak,hes] at hrun
       cases fz with
       | true =>
        refine ⟨_,_,h,⟨b,n.toNat * e.size,us,rfl,fun hb => (h4 b hbk).2 rfl (hs.sub _ hb),(h5 b hbk).2,qbW false e _ us hc,hat⟩,hrun⟩
       | false => exact ⟨_,_,h,⟨hnx,b,hbk,rfl⟩,hrun⟩
      ·cases h
     ·rename_i e xs _ _ hob
      split at h
      ·rename_i hes
       have hes : (tt.row et).size = e.size := vaa hes
       obtain ⟨⟨h0,h1⟩,h⟩ := qa5 h
       obtain ⟨hnx,rfl⟩ := hx
       obtain ⟨b,k,_,hh,hbk,_,_⟩ := hs.hole_at hob
       have hrun := qc2 hT hk ho c.w b 0 xs.length k kk n h0 h1
       rw [<- hh,vak,hes] at hrun
       exact ⟨_,_,h,⟨hnx,b,hbk,rfl⟩,hrun⟩
      ·cases h
     ·cases h
    ·rename_i o es lo hi
     split at h
     ·rename_i hes
      have hes : (tt.row et).size = es := vaa hes
      obtain ⟨⟨h0,h1⟩,h⟩ := qa5 h
      split at h
      ·rename_i e xs hob
       obtain ⟨hnx,a,m,k,hh,hlo,hhi,rfl⟩ := hx
       have hm : m = xs.length := by
        obtain ⟨a',m',k',hh',hm',_⟩ := hs.own_hdr hob
        rw [hh] at hh'; cases hh'; exact hm'
       have hne : xs ≠ [] := fun hx => by subst hx; simp at hm; omega
       obtain ⟨b,k',hh',hbk,hlk⟩ := qkQ hs hob hne
       rw [hh] at hh'; cases hh'
       have hkl : ¬ (k = lo) := by omega
       have hrun := qc2 hT hk ho c.w b (lo * es) (hi - lo) (k - lo) kk n h0 h1
       refine ⟨_,_,h,⟨hnx,b,hbk,rfl⟩,?_⟩
       rw [if_neg hkl]
       simp only [vbl,Addr.add_lit,vak,vaG]
       rw [hrun,hes,vay]
      ·cases h
     ·cases h
    ·cases h
  ·rename_i len e hk
   split at h
   ·rename_i o off
    split at h
    ·cases h
    ·rename_i hc
     obtain ⟨m,hlt,hm,h'⟩ := qk0 h
     subst hm
     obtain ⟨hnx,b,hb,rfl⟩ := hx
     obtain ⟨d,i,z,hd,_,_,hkd,_⟩ := (hT.row (t := t) (by rw [hk]; rfl)).out
     have hu : P.underlying t = some (.array len e) := by
      rw [hk] at hkd
      cases d <;> simp [kindB] at hkd
      rw [hd,hkd.1,hkd.2]
     refine ⟨_,_,h',⟨hnx,b,hb,rfl⟩,?_⟩
     simp [Instr.indexAt,asIntOf,run_underlying hu,Instr.sureAddr,hlt,run_sizeOf hT hc,Addr.add_lit]
   ·cases h
  ·cases h
 ·cases h
def Bnd (d : Nat) (y : Option Value) (l : Int) : Prop := (y = none /\ l = d) \/ ∃ k,y = some (.int k l)
theorem qcy {d : Nat} {x : Option V} {y : Option Value} {c : Ctx} (hxy : (x = none /\ y = none) \/ ∃ v u,x = some v /\ y = some u /\ Rel c v u) {K : Int -> Option R} {r : R} (h : bound d x K = some r) : ∃ l,K l = some r /\ Bnd d y l := by
 rcases hxy with ⟨rfl,rfl⟩ | ⟨v,u,rfl,rfl,hr⟩
 ·exact ⟨d,h,.inl ⟨rfl,rfl⟩⟩
 ·unfold bound at h
  cases v <;> simp only at h <;> first | (cases h; done) | skip
  rename_i k n
  simp only [Rel] at hr; subst hr
  exact ⟨n,h,.inr ⟨k,rfl⟩⟩
theorem qer (isS : Bool) (len cap : Nat) (lo hi : Option Value) (l h : Int) (w : World) (hlo : Bnd 0 lo l) (hhi : Bnd len hi h) (h0 : 0 <= l) (h1 : l <= h) (h2 : h <= (len : Int)) (h3 : len <= cap) :
  (Instr.sliceBounds isS len cap lo hi none).run P w = .ok (l.toNat,h.toNat,cap) w := by
 have hc : h <= (cap : Int) := by omega
 have hh0 : 0 <= h := by omega
 rcases hlo with ⟨rfl,rfl⟩ | ⟨k1,rfl⟩ <;> rcases hhi with ⟨rfl,rfl⟩ | ⟨k2,rfl⟩
 ·simp [Instr.sliceBounds]
 ·simp [Instr.sliceBounds,Instr.sliceBound,asIntOf,hc,hh0]
 ·simp [Instr.sliceBounds,Instr.sliceBound,asIntOf,h0,h1]
 ·simp [Instr.sliceBounds,Instr.sliceBound,asIntOf,h0,hh0,hc]
  intro hh
  omega
theorem Rows.cut {e : Ty} {w : World} {S S' : Nat -> Prop} {xs : List e.den} {a : Option Addr} {n k l h : Nat} (hr : Rows (Cells w S' e) w S xs a n k) (h1 : l <= h) (h2 : h <= xs.length) :
  Rows (Cells w S' e) w S ((xs.take h).drop l) (if k = l then a else a.map (·.add (l * e.size))) (h - l) (k - l) := by
 obtain ⟨hn,hle,cells,hcl,hor⟩ := hr
 refine ⟨by rw [vas,vac]; omega,by omega,(cells.take (h * e.size)).drop (l * e.size),CellsL.drop (fun x cs h => Cells.len e x cs h) _ _ (CellsL.take (fun x cs h => Cells.len e x cs h) _ _ hcl h) l,?_⟩
 rcases hor with hor | ⟨b,off,rfl,hS,hb,hat⟩
 ·left; rw [hor]; simp
 ·by_cases hkl : k = l
  ·left
   apply vaA
   rw [vac]; omega
  ·right
   rw [if_neg hkl]
   refine ⟨b,off + l * e.size,by simp [Addr.add_lit],hS,hb,fun j u hu => ?_⟩
   rw [vaH,vau] at hu
   split at hu
   ·rw [vaS]; exact hat _ _ hu
   ·cases hu
theorem TabOK.elem (hT : TabOK P tt) {et : Nat} {e : Ty} (ho : (tt.row et).k.isOther = false) (he : (tt.row et).ty = some e) : e.size = (tt.row et).size /\ 0 < (tt.row et).size := by
 obtain ⟨d,i,z,_,_,_,_,_,_,_,_,_,h⟩ := (hT.row ho).out
 exact ⟨(h e he).1,(h e he).2.1⟩
theorem qd4 (hT : TabOK P tt) {t et : Nat} (hk : (tt.row t).k = .sl et) (ho : (tt.row et).k.isOther = false) (w : World) (a : Option Addr) (n k : Nat) (lo hi : Option Value) (l h : Int)
  (hlo : Bnd 0 lo l) (hhi : Bnd n hi h) (h0 : 0 <= l) (h1 : l <= h) (h2 : h <= (n : Int)) (h3 : n <= k) :
  (Instr.sliceAt t (.slice a n k) lo hi none).run P w = .ok (.slice (if k = l.toNat then a else a.map (·.add (l.toNat * (tt.row et).size))) (h.toNat - l.toNat) (k - l.toNat)) w := by
 simp [Instr.sliceAt,Instr.slice,run_underlying (hT.slk hk),qer true n k lo hi l h w hlo hhi h0 h1 h2 h3,run_sizeOf hT ho]
theorem qjD (hT : TabOK P tt) {t : Nat} {objs : Objs} {x : V} {lo hi : Option V} {K : V -> Option R} {r : R} {c : Ctx} (hs : SOK c objs) {u : Value} {lo' hi' : Option Value} (hx : Rel c x u)
  (hlo : (lo = none /\ lo' = none) \/ ∃ v u,lo = some v /\ lo' = some u /\ Rel c v u) (hhi : (hi = none /\ hi' = none) \/ ∃ v u,hi = some v /\ hi' = some u /\ Rel c v u) (h : sliceV tt objs t x lo hi K = some r) :
  ∃ q z,K q = some r /\ Rel c q z /\ (Instr.sliceAt t u lo' hi' none).run P c.w = .ok z c.w := by
 unfold sliceV at h
 split at h
 ·rename_i hk
  split at h
  ·rename_i a
   simp only [Rel] at hx; subst hx
   obtain ⟨l,h,hl⟩ := qcy hlo h
   obtain ⟨m,h,hm⟩ := qcy hhi h
   obtain ⟨⟨h0,h1,h2⟩,h⟩ := qa5 h
   obtain ⟨d,i,z,hd,_,_,hkd,_⟩ := (hT.row (t := t) (by rw [hk]; rfl)).out
   have hu : P.underlying t = some .string := by
    rw [hk] at hkd
    cases d <;> simp [kindB] at hkd
    exact hd
   exact ⟨_,_,h,rfl,by simp [Instr.sliceAt,Instr.slice,run_underlying hu,qer false a.size a.size lo' hi' l m c.w hl hm h0 h1 h2 (vag _)]⟩
  ·cases h
 ·rename_i et hk
  split at h
  ·rename_i e' ho he
   obtain ⟨hsz,hpos⟩ := hT.elem ho he
   split at h
   ·simp only [Rel] at hx; subst hx
    obtain ⟨l,h,hl⟩ := qcy hlo h
    obtain ⟨m,h,hm⟩ := qcy hhi h
    obtain ⟨⟨h0,h1⟩,h⟩ := qa5 h
    refine ⟨_,_,h,rfl,?_⟩
    rw [qd4 hT hk ho c.w none 0 0 lo' hi' l m hl hm (by omega) (by omega) (by omega) (by omega)]
    simp [h0,h1]
   ·rename_i e xs bor
    obtain ⟨a,n,k,rfl,hr⟩ := hx
    obtain ⟨l,h,hl⟩ := qcy hlo h
    obtain ⟨m,h,hm⟩ := qcy hhi h
    obtain ⟨⟨h0,h1,h2⟩,h⟩ := qa5 h
    split at h
    ·rename_i hee
     subst hee
     have hn := hr.1
     refine ⟨_,_,h,⟨_,_,_,rfl,hr.cut (l := l.toNat) (h := m.toNat) (by omega) (by omega)⟩,?_⟩
     rw [qd4 hT hk ho c.w a n k lo' hi' l m hl (by rw [hn]; exact hm) h0 h1 (by omega) hr.2.1,hsz]
    ·cases h
   ·rename_i o
    split at h
    ·rename_i e xs fz hob
     obtain ⟨hnx,rfl⟩ := hx
     obtain ⟨l,h,hl⟩ := qcy hlo h
     obtain ⟨m,h,hm⟩ := qcy hhi h
     obtain ⟨⟨h0,h1,h2⟩,h⟩ := qa5 h
     split at h
     ·rename_i hee
      subst hee
      obtain ⟨et',cells,hown,hcl,hob',h4,h5,_⟩ := hs.row_at hob
      have key : ∃ a k,c.hdr o = .slice a xs.length k /\ xs.length <= k /\ (xs = [] \/ ∃ b,a = some ⟨b,0,none⟩ /\ c.blk o = some b) := by
       rcases hown.2 with ⟨hv,hz⟩ | ⟨g,cap,cur,hv,_,_,hle,_⟩
       ·exact ⟨none,0,by rw [hv,hz],by omega,.inl (vad hz)⟩
       ·exact ⟨_,cap,hv,hle,.inr ⟨g,rfl,by rw [<- hob',hv]; rfl⟩⟩
      obtain ⟨a,k,hh,hle,hab⟩ := key
      have hrun := qd4 hT hk ho c.w a xs.length k lo' hi' l m hl hm h0 h1 h2 hle
      rw [<- hh] at hrun
      split at h
      ·refine ⟨_,_,h,⟨_,_,_,rfl,?_⟩,hrun⟩
       have hr : Rows (Cells c.w c.SA e') c.w c.SA xs a xs.length k := by
        refine ⟨rfl,hle,cells,hcl,?_⟩
        rcases hab with hx | ⟨b,hab,hbk⟩
        ·exact .inl hx
        ·exact .inr ⟨b,0,hab,(h4 b hbk).2 rfl,(h5 b hbk).2,fun j u hu => (h5 b hbk).1 j u hu⟩
       have := hr.cut (l := l.toNat) (h := m.toNat) (by omega) (by omega)
       rw [hsz] at this
       exact this
      ·refine ⟨_,_,h,⟨hnx,a,xs.length,k,hh,by omega,by omega,?_⟩,hrun⟩
       rw [hsz]
     ·cases h
    ·cases h
   ·cases h
  ·cases h
 ·cases h
theorem ql9 (hT : TabOK P tt) {t : Nat} {objs : Objs} {x : V} {K : V -> Option R} {r : R} {c : Ctx} (hs : SOK c objs) {u : Value} (hx : Rel c x u) (hk : lenOK (tt.row t).k x = true) (ty : TypeId)
  (h : lenV objs x K = some r) : ∃ q z,K q = some r /\ Rel c q z /\ (Builtin.len_ #[t] ty #[u]).run P c.w = .ok z c.w := by
 unfold lenV at h
 split at h
 ·simp only [Rel] at hx; subst hx
  obtain ⟨e,_,ht⟩ := hT.sl (t := t) hk
  exact ⟨_,_,h,rfl,by simp [Builtin.len_,run_underlying ht,goInt]⟩
 ·obtain ⟨a,n,k,rfl,hr⟩ := hx
  obtain ⟨e,_,ht⟩ := hT.sl (t := t) hk
  exact ⟨_,_,h,rfl,by simp [Builtin.len_,run_underlying ht,goInt,hr.1]⟩
 ·simp only [Rel] at hx; subst hx
  have hu : P.underlying t = some .string := by
   obtain ⟨d,i,z,hd,_,_,hkd,_⟩ := (hT.row (t := t) (by cases hh : (tt.row t).k <;> simp_all [lenOK,TK.isStr,TK.isOther])).out
   have hk' : (tt.row t).k.isStr = true := hk
   cases hh : (tt.row t).k <;> simp [hh,TK.isStr] at hk'
   rw [hh] at hkd
   cases d <;> simp [kindB] at hkd
   exact hd
  exact ⟨_,_,h,rfl,by simp [Builtin.len_,run_underlying hu,goInt]⟩
 ·split at h
  ·rename_i e xs fz hob
   obtain ⟨_,rfl⟩ := hx
   obtain ⟨a,n,k,hh,hn,_⟩ := hs.own_hdr hob
   obtain ⟨e,_,ht⟩ := hT.sl (t := t) hk
   rw [hh,hn]
   exact ⟨_,_,h,rfl,by simp [Builtin.len_,run_underlying ht,goInt]⟩
  ·cases h
 ·obtain ⟨_,a,n,k,_,_,_,rfl⟩ := hx
  obtain ⟨e,_,ht⟩ := hT.sl (t := t) hk
  exact ⟨_,_,h,rfl,by simp [Builtin.len_,run_underlying ht,goInt]⟩
 ·cases h
end Go.Vm

namespace Go.Vm
open Go
variable {P : Program} {tt : Tab}
theorem qd0 {i n : Nat} (h : ¬ i = n) : vah i n = false := by
 cases hb : vah i n
 ·rfl
 ·exact absurd (vaa hb) h
theorem qau {α : Type} (d : α) (i : Nat) (v : α) (r : List (Nat × α)) (n : Nat) : look d ((i,v) :: r) n = if i = n then v else look d r n := by
 show (match vah i n with | true => v | false => look d r n) = _
 by_cases h : i = n
 ·subst h; simp
 ·rw [qd0 h]; simp [h]
theorem qaz {α : Type} (d : α) : ∀ (a b : List (Nat × α)) (n : Nat),look d (a ++ b) n = if n ∈ a.map (·.1) then look d a n else look d b n
 | [],b,n => by simp
 | (i,v) :: r,b,n => by
  rw [List.cons_append,qau,qau,qaz d r b n]
  by_cases h : i = n
  ·subst h; simp
  ·have : (n ∈ List.map (·.1) ((i,v) :: r)) ↔ n ∈ List.map (·.1) r := by simp [Ne.symm h]
   rw [if_neg h]
   by_cases hm : n ∈ r.map (·.1)
   ·rw [if_pos hm,if_pos (this.2 hm),if_neg h]
   ·rw [if_neg hm,if_neg (fun hh => hm (this.1 hh))]
theorem qaJ : ∀ {n : Nat} {l : List Nat},elemB n l = true ↔ n ∈ l
 | n,[] => by simp [elemB]
 | n,i :: r => by
  show (match vah i n with | true => true | false => elemB n r) = true ↔ _
  by_cases h : i = n
  ·subst h; simp
  ·rw [qd0 h]; dsimp only; rw [qaJ]; simp [Ne.symm h]
theorem qb8 : ∀ {a l : List Nat},allIn a l = true ↔ ∀ n ∈ a,n ∈ l
 | [],l => by simp [allIn]
 | i :: r,l => by
  unfold allIn
  cases h : elemB i l with
  | true => dsimp only; rw [qb8]; simp [qaJ.1 h]
  | false => dsimp only; simp; intro hh; rw [qaJ.2 hh] at h; cases h
theorem ObjOK.lt {c : Ctx} {o : Nat} {x : AObj} (h : ObjOK c o x) (hx : x ≠ .dead) : o < c.nx := by
 cases x with
 | dead => exact absurd rfl hx
 | row e xs fz => exact h.1
 | var vt cs => exact h.1
 | ext x => exact h.1
 | hole e xs ix cs => exact h.1
 | nest x => exact NstOK.lt h
theorem SOK.lt {c : Ctx} {objs : Objs} (hs : SOK c objs) {o : Nat} (h : (look .dead objs o).mut = true) : o < c.nx := (hs.obj o).lt fun e => by rw [e] at h; cases h
theorem SOK.has_flat {c : Ctx} {objs : Objs} (hs : SOK c objs) {o b : Nat} (h : (look .dead objs o).isNest = false) (hb : c.has o b) : c.blk o = some b := hb.elim id fun k => (hs.flat o h b k).elim
theorem SOK.mutSB {c : Ctx} {objs : Objs} (hs : SOK c objs) {o b : Nat} (h : (look .dead objs o).mut = true) (hb : c.has o b) : c.SB b := by
 have := hs.obj o
 cases hx : look .dead objs o with
 | dead => rw [hx] at h; cases h
 | row e xs fz =>
  have hb := hs.has_flat (by rw [hx]; rfl) hb
  rw [hx] at this h
  obtain ⟨_,_,_,_,_,_,h4,_⟩ := this
  cases fz
  ·exact (h4 b hb).1 rfl
  ·cases h
 | var vt cs => have hb := hs.has_flat (by rw [hx]; rfl) hb; rw [hx] at this; obtain ⟨_,b',_,_,hb',_,_,h4,_⟩ := this; rw [hb] at hb'; cases hb'; exact h4
 | ext x => have hb := hs.has_flat (by rw [hx]; rfl) hb; rw [hx] at this; obtain ⟨_,b',_,hb',_,_,h4,_⟩ := this; rw [hb] at hb'; cases hb'; exact h4
 | hole e xs ix cs => have hb := hs.has_flat (by rw [hx]; rfl) hb; rw [hx] at this; obtain ⟨_,_,_,b',_,_,_,_,_,_,_,_,_,_,_,_,hb',h4,_⟩ := this; rw [hb] at hb'; cases hb'; exact h4
 | nest x => rw [hx] at this; exact NstOK.sb this hb
theorem Dof.sb {c : Ctx} {objs ch : Objs} (hs : SOK c objs) {b : Nat} (h : Dof c objs ch b) : c.SB b := by
 obtain ⟨o,_,hm,hb⟩ := h; exact hs.mutSB hm hb
theorem ObjOK.mono {c c' : Ctx} {D : Nat -> Prop} (h : Step c c' D) (hs : ∀ b,c.SB b -> c.SA b) {o : Nat} {x : AObj} (hx : ObjOK c o x) (hd : x.mut = true -> ∀ b,c.has o b -> ¬ D b /\ b < c.w.heap.size)
  (hlt : x ≠ .dead -> ∀ b,c.blk o = some b -> b < c.w.heap.size) : ObjOK c' o x := by
 cases x with
 | dead => exact trivial
 | row e xs fz =>
  obtain ⟨h0,et,cells,hown,hc,hb,hfz,hty⟩ := hx
  have hD : ∀ b,c.blk o = some b -> ¬ D b := fun b hbb => by
   cases fz with
   | false => exact (hd rfl b (.inl hbb)).1
   | true => exact fun k => (hfz b hbb).2 rfl (hs _ (h.dsub b k))
  refine ⟨vaf h0 h.nx,et,cells,?_,CellsL.mono (fun x cs hh => Cells.mono (h.kept hs false) e x cs hh) _ _ hc,by rw [h.hdr o h0,h.blk o h0]; exact hb,fun b hbb => ?_,hty⟩
  ·rw [h.hdr o h0]
   refine ⟨hown.1,?_⟩
   rcases hown.2 with h2 | ⟨g,cap,cur,hv,h3,h4,h5,h6⟩
   ·exact .inl h2
   ·have hbg : c.blk o = some g := by rw [<- hb,hv]; rfl
    exact .inr ⟨g,cap,cur,hv,h3,by rw [h.heap g (hlt AObj.noConfusion g hbg) (hD g hbg)]; exact h4,h5,h6⟩
  ·rw [h.blk o h0] at hbb
   have hnD := hD b hbb
   exact ⟨fun k => (h.sb b (hlt AObj.noConfusion b hbb) hnD).2 ((hfz b hbb).1 k),fun k kk => (hfz b hbb).2 k ((h.sa b (hlt AObj.noConfusion b hbb) hnD).1 kk)⟩
 | var vt cs =>
  obtain ⟨h0,b,us,el,hb,hh,hr,hsb,hall⟩ := hx
  obtain ⟨hnD,hl⟩ := hd rfl b (.inl hb)
  exact ⟨vaf h0 h.nx,b,us,el,by rw [h.blk o h0]; exact hb,by rw [h.heap b hl hnD]; exact hh,RelL.mono h hs cs us hr,(h.sb b hl hnD).2 hsb,hall⟩
 | ext x =>
  obtain ⟨h0,b,ob,hb,hh,hr,hsb,hm⟩ := hx
  obtain ⟨hnD,hl⟩ := hd rfl b (.inl hb)
  exact ⟨vaf h0 h.nx,b,ob,by rw [h.blk o h0]; exact hb,by rw [h.heap b hl hnD]; exact hh,hr.mono (h.kept hs false),(h.sb b hl hnD).2 hsb,fun e => by rw [h.hdr o h0]; exact hm e⟩
 | hole e xs ix cs =>
  obtain ⟨h0,et,cells,b,pre,mid,post,h1,h2,h3,h4,h5,h6,h7,h8,h9,h10,h11,h12⟩ := hx
  obtain ⟨hnD,hl⟩ := hd rfl b (.inl h10)
  have hc := h.kept hs false
  refine ⟨vaf h0 h.nx,et,cells,b,pre,mid,post,?_,h2,CellsL.mono (fun x cs hh => Cells.mono hc e x cs hh) _ _ h3,RelL.mono h hs cs mid h4,CellsL.mono (fun x cs hh => Cells.mono hc e x cs hh) _ _ h5,h6,h7,h8,by rw [h.hdr o h0,h.blk o h0]; exact h9,by rw [h.blk o h0]; exact h10,(h.sb b hl hnD).2 h11,h12⟩
  rw [h.hdr o h0]
  refine ⟨h1.1,?_⟩
  rcases h1.2 with k2 | ⟨g,cap,cur,hv,k3,k4,k5,k6⟩
  ·exact .inl k2
  ·have hbg : c.blk o = some g := by rw [<- h9,hv]; rfl
   cases h10.symm.trans hbg
   exact .inr ⟨b,cap,cur,hv,k3,by rw [h.heap b hl hnD]; exact k4,k5,k6⟩
 | nest x => exact NstOK.mono h hs hx (hd rfl)
theorem SOK.blt {c : Ctx} {objs : Objs} (hs : SOK c objs) {o b : Nat} (hx : look .dead objs o ≠ .dead) (hb : c.blk o = some b) : b < c.w.heap.size := by
 have := hs.obj o
 cases h : look .dead objs o with
 | dead => exact absurd h hx
 | row e xs fz =>
  rw [h] at this
  obtain ⟨_,_,_,hown,_,hbb,_⟩ := this
  exact (hown.lt b (by rw [hbb,hb])).2
 | var vt cs =>
  rw [h] at this
  obtain ⟨_,b',_,_,hb',hh,_⟩ := this
  rw [hb] at hb'; cases hb'
  exact (vaF.1 hh).1
 | ext x =>
  rw [h] at this
  obtain ⟨_,b',_,hb',hh,_⟩ := this
  rw [hb] at hb'; cases hb'
  exact (vaF.1 hh).1
 | hole e xs ix cs =>
  rw [h] at this
  obtain ⟨_,_,_,_,_,_,_,hown,_,_,_,_,_,_,_,hbb,_⟩ := this
  exact (hown.lt b (by rw [hbb,hb])).2
 | nest x => rw [h] at this; exact hs.bd b (hs.sub b (NstOK.sb this (.inl hb)))
theorem Low.step {c c' : Ctx} {D : Nat -> Prop} (hl : Low c) (h : Step c c' D) (hsub : ∀ b,c.SB b -> c.SA b) (hbd : ∀ b,c.SA b -> b < c.w.heap.size) : Low c' := by
 obtain ⟨w0,h0,hk⟩ := hl
 refine ⟨w0,h0,fun b hb => ?_⟩
 obtain ⟨h1,h2⟩ := hk b hb
 have hD : ¬ D b := fun hd => h1 (hsub b (h.dsub b hd))
 have hlt : b < c.w.heap.size := by
  rw [Array.getElem?_eq_getElem hb] at h2
  exact (vaF.1 h2).1
 exact ⟨fun k => h1 ((h.sa b hlt hD).1 k),(h.heap b hlt hD).trans h2⟩
theorem SOK.dead_ge {c : Ctx} {objs : Objs} (hs : SOK c objs) {o : Nat} (h : c.nx <= o) : look .dead objs o = .dead := by
 cases hx : look .dead objs o with
 | dead => rfl
 | _ => exact absurd ((hs.obj o).lt (by rw [hx]; exact AObj.noConfusion)) (by omega)
theorem SOK.flat_of {c : Ctx} {objs ch : Objs} (hs : SOK c objs) (hc : ∀ o,o ∈ ch.map (·.1) -> (look .dead objs o).isNest = false) : ∀ o,(look .dead (ch ++ objs) o).isNest = false -> ∀ b,¬ c.sub o b := fun o h b => by
 rw [qaz] at h
 split at h
 ·exact hs.flat o (hc o ‹_›) b
 ·exact hs.flat o h b
theorem SOK.step {c c' : Ctx} {objs ch : Objs} (hs : SOK c objs) (h : Step c c' (Dof c objs ch)) (hch : ∀ o,o ∈ ch.map (·.1) -> ObjOK c' o (look .dead ch o))
  (hfr : ∀ o b,o ∈ ch.map (·.1) -> (look .dead ch o).mut = true -> c'.has o b -> c.w.heap.size <= b \/ Dof c objs ch b)
  (hin : ∀ o1 o2 b,o1 ∈ ch.map (·.1) -> o2 ∈ ch.map (·.1) -> (look .dead ch o1).mut = true -> (look .dead ch o2).mut = true -> c'.has o1 b -> c'.has o2 b -> o1 = o2)
  (hfl : ∀ o,(look .dead (ch ++ objs) o).isNest = false -> ∀ b,¬ c'.sub o b)
  (hsub : ∀ b,c'.SB b -> c'.SA b) (hbd : ∀ b,c'.SA b -> b < c'.w.heap.size) (hone : ∀ o,o < c'.nx -> (c'.hdr o).oneCell' = true) : SOK c' (ch ++ objs) := by
 have hnd : ∀ q,q ∉ ch.map (·.1) -> (look .dead objs q).mut = true -> ∀ b,c.has q b -> ¬ Dof c objs ch b := fun q hq mq b hb ⟨o2,ho2,hm2,hb2⟩ => by
  have := hs.inj q o2 b mq hm2 hb hb2
  subst this; exact hq ho2
 have hback : ∀ q,q ∉ ch.map (·.1) -> (look .dead objs q).mut = true -> ∀ b,c'.has q b -> c.has q b := fun q hq mq b hb => by
  unfold Ctx.has at hb ⊢
  rwa [h.blk q (hs.lt mq),h.under q (hs.lt mq) (fun g hg => ⟨hnd q hq mq g hg,hs.bd g (hs.sub g (hs.mutSB mq hg))⟩) b] at hb
 have hold : ∀ o,o ∉ ch.map (·.1) -> ObjOK c' o (look .dead objs o) := fun o ho =>
  (hs.obj o).mono h hs.sub (fun hm b hb => ⟨hnd o ho hm b hb,hs.bd b (hs.sub b (hs.mutSB hm hb))⟩) fun hx b hb => hs.blt hx hb
 refine ⟨hs.low.step h hs.sub hs.bd,fun o => ?_,fun o1 o2 b h1 h2 b1 b2 => ?_,hfl,hsub,hbd,hone⟩
 ·rw [qaz]
  split
  ·exact hch o ‹_›
  ·exact hold o ‹_›
 ·rw [qaz] at h1 h2
  have key : ∀ p q,p ∈ ch.map (·.1) -> q ∉ ch.map (·.1) -> (look .dead ch p).mut = true -> (look .dead objs q).mut = true -> c'.has p b -> c'.has q b -> False := by
   intro p q hp hq mp mq bp bq
   have bq := hback q hq mq b bq
   rcases hfr p b hp mp bp with hle | hD
   ·have := hs.bd b (hs.sub b (hs.mutSB mq bq)); omega
   ·exact hnd q hq mq b bq hD
  split at h1 <;> split at h2
  ·exact hin o1 o2 b ‹_› ‹_› h1 h2 b1 b2
  ·exact (key o1 o2 ‹_› ‹_› h1 h2 b1 b2).elim
  ·exact (key o2 o1 ‹_› ‹_› h2 h1 b2 b1).elim
  ·exact hs.inj o1 o2 b h1 h2 (hback o1 ‹_› h1 b b1) (hback o2 ‹_› h2 b b2)
end Go.Vm

namespace Go.Vm
open Go
variable {P : Program} {tt : Tab}
theorem qa7 (objs : Objs) (l : List Nat) : (freezes objs l).map (·.1) = l := by simp [freezes,Function.comp_def]
theorem qdd (objs : Objs) : ∀ (l : List Nat) (o : Nat),o ∈ l -> look .dead (freezes objs l) o = frozenRow (look .dead objs o)
 | [],o,h => by cases h
 | i :: r,o,h => by
  show look .dead ((i,frozenRow (look .dead objs i)) :: freezes objs r) o = _
  rw [qau]
  by_cases hi : i = o
  ·subst hi; simp
  ·rw [if_neg hi]; exact qdd objs r o (by rcases vaJ.1 h with h | h; exact absurd h.symm hi; exact h)
theorem qeQ {x : AObj} (h : frzB x = true) : x.mut = true := by
 cases x with
 | row e xs fz => exact h
 | nest y => rfl
 | _ => cases h
theorem qhK {x : AObj} (h : frzB x = true) : (frozenRow x).mut = false /\ (frozenRow x).isNest = false := by
 cases x with
 | row e xs fz => exact ⟨rfl,rfl⟩
 | nest y =>
  cases y with
  | row d xs =>
   have h : d.noMap = true := h
   rw [show frozenRow (.nest (.row d xs)) = .row d.er (erC h xs) true from dif_pos h]
   exact ⟨rfl,rfl⟩
  | _ => cases h
 | _ => cases h
def fzCtx (c : Ctx) (l : List Nat) : Ctx := { c with sub := fun o b => c.sub o b /\ o ∉ l,SB := fun b => c.SB b /\ ¬ ∃ o,o ∈ l /\ c.has o b,SA := fun b => c.SA b /\ ¬ ∃ o,o ∈ l /\ c.has o b }
def Unfrozen (objs : Objs) (l : List Nat) : Prop := ∀ o,o ∈ l -> frzB (look .dead objs o) = true
theorem qlP {α β : Type} (h : α = β) (xs : List α) : cast (congrArg List h) xs = xs.map (cast h) := by
 subst h; exact (List.map_id xs).symm
theorem qnC {α β α' β' : Type} (h1 : α = α') (h2 : β = β') (h : (α × β) = (α' × β')) (x : α × β) : cast h x = (cast h1 x.1,cast h2 x.2) := by
 subst h1; subst h2; rfl
theorem CellsD.er {w w' : World} {S S' : Nat -> Prop} (hk : Kept w w' S S') : ∀ {d : DTy} (hm : d.noMap = true) (x : d.den) (cs : List Value) (B : List Nat),CellsD w S d x cs B -> (∀ b ∈ B,w'.heap[b]? = w.heap[b]? /\ ¬ S' b) -> Cells w' S' d.er (cast (erEq hm) x) cs
 | .dat t,_,x,cs,B,h,_ => Cells.mono hk t x cs h.1
 | .row e,_,x,cs,B,⟨h,et,us,h1,h2,h3,h4,_⟩,hb => by
  subst h1
  have h2' := qdF (w' := w') h2 fun b hbb => (hb b (by rw [h4,hbb]; simp)).1
  have hcl := CellsL.mono (fun y ys hh => Cells.mono hk e y ys hh) _ _ h3
  rcases h2'.2 with ⟨e1,e2⟩ | ⟨b,cap,cur,hv,k3,k4,k5,k6⟩
  ·exact ⟨none,0,0,by rw [e1],e2.symm,vag _,us,hcl,.inl (vad e2)⟩
  ·have hbk : h.ownBlock = some b := by rw [hv]; rfl
   refine ⟨some ⟨b,0,none⟩,List.length x,cap,by rw [hv],rfl,k5,us,hcl,.inr ⟨b,0,rfl,(hb b (by rw [h4,hbk]; simp)).2,(h2'.lt b hbk).2,fun j u hu => ?_⟩⟩
   have := h2'.cells (g := b) hbk j u hu
   rw [Addr.add_lit] at this; exact this
 | .map ..,hm,_,_,_,_,_ => by cases hm
 | .pair a b,hm,x,cs,B,⟨c1,c2,B1,B2,h1,h2,h3,h4⟩,hb => by
  unfold DTy.noMap at hm
  split at hm
  ·rename_i ha
   have hx : cast (erEq (d := .pair a b) ‹_›) x = (cast (erEq ha) x.1,cast (erEq hm) x.2) := qnC (erEq ha) (erEq hm) _ x
   rw [hx]
   exact ⟨c1,c2,h1,CellsD.er hk ha _ _ _ h3 fun g hg => hb g (by rw [h2]; simp [hg]),CellsD.er hk hm _ _ _ h4 fun g hg => hb g (by rw [h2]; simp [hg])⟩
  ·cases hm
theorem CellsDL.er {w w' : World} {S S' : Nat -> Prop} (hk : Kept w w' S S') {d : DTy} (hm : d.noMap = true) : ∀ (xs : List d.den) (cs : List Value) (B : List Nat),CellsDL (CellsD w S d) xs cs B -> (∀ b ∈ B,w'.heap[b]? = w.heap[b]? /\ ¬ S' b) -> CellsL (Cells w' S' d.er) (xs.map (cast (erEq hm))) cs
 | [],_,_,h,_ => h.1
 | x :: r,cs,B,⟨c1,c2,B1,B2,h1,h2,h3,h4⟩,hb => ⟨c1,c2,h1,CellsD.er hk hm x c1 B1 h3 fun g hg => hb g (by rw [h2]; simp [hg]),CellsDL.er hk hm r c2 B2 h4 fun g hg => hb g (by rw [h2]; simp [hg])⟩
theorem qc0 {c : Ctx} {objs : Objs} (hs : SOK c objs) {l : List Nat} (hl : Unfrozen objs l) : Step c (fzCtx c l) (Dof c objs (freezes objs l)) /\ SOK (fzCtx c l) (freezes objs l ++ objs) := by
 have hst : Step c (fzCtx c l) (Dof c objs (freezes objs l)) := by
  have hF : ∀ b,¬ Dof c objs (freezes objs l) b -> ¬ ∃ o,o ∈ l /\ c.has o b := fun b hD ⟨o,ho,hb⟩ =>
   hD ⟨o,by rw [qa7]; exact ho,qeQ (hl o ho),hb⟩
  exact ⟨rfl,rfl,rfl,vag _,vag _,fun _ _ => rfl,fun _ _ => rfl,fun o _ hD b => ⟨fun h => h.1,fun h => ⟨h,fun ho => hF b (hD b (.inr h)).1 ⟨o,ho,.inr h⟩⟩⟩,fun _ _ _ => rfl,fun b _ hD => ⟨fun h => h.1,fun h => ⟨h,hF b hD⟩⟩,fun b _ hD => ⟨fun h => h.1,fun h => ⟨h,hF b hD⟩⟩,fun b hD => hD.sb hs⟩
 have hmut : ∀ o,o ∈ (freezes objs l).map (·.1) -> (look .dead (freezes objs l) o).mut = true -> False := fun o ho hm => by
  rw [qa7] at ho
  rw [qdd objs l o ho,(qhK (hl o ho)).1] at hm
  cases hm
 have hfl : ∀ o,(look .dead (freezes objs l ++ objs) o).isNest = false -> ∀ b,¬ (fzCtx c l).sub o b := fun o h b hb => by
  rw [qaz,qa7,if_neg hb.2] at h
  exact hs.flat o h b hb.1
 refine ⟨hst,hs.step hst (fun o ho => ?_) (fun o b ho hm _ => (hmut o ho hm).elim) (fun o1 o2 b h1 _ m1 _ _ _ => (hmut o1 h1 m1).elim) hfl (fun b h => ⟨hs.sub b h.1,h.2⟩) (fun b h => hs.bd b h.1) hs.one⟩
 rw [qa7] at ho
 rw [qdd objs l o ho]
 have hz := hl o ho
 have := hs.obj o
 cases hx : look .dead objs o with
 | row e xs fz =>
  rw [hx] at this
  obtain ⟨h0,et,cells,hown,hc,hb,_,hty⟩ := this
  exact ⟨h0,et,cells,hown,CellsL.mono (fun x cs hh => Cells.mono (hst.kept hs.sub false) e x cs hh) _ _ hc,hb,fun b hbb => ⟨fun h => (by cases h),fun _ hA => hA.2 ⟨o,ho,.inl hbb⟩⟩,hty⟩
 | nest y =>
  rw [hx] at hz this
  cases y with
  | row d xs =>
   have hm : d.noMap = true := hz
   obtain ⟨h0,et,cells,B,h1,h2,h3,h4,h5,h6,h7⟩ := this
   rw [show frozenRow (.nest (.row d xs)) = .row d.er (erC hm xs) true from dif_pos hm]
   have he : erC hm xs = xs.map (cast (erEq hm)) := qlP (erEq hm) xs
   have hcl := CellsDL.er (hst.kept hs.sub false) hm xs cells B h2 fun b hb => ⟨rfl,fun hA => hA.2 ⟨o,ho,.inr ((h4 b).2 hb)⟩⟩
   have hz : d.er.size = d.size := erSize hm
   refine ⟨h0,et,cells,?_,by rw [he]; exact hcl,h3,fun b hbb => ⟨fun h => (by cases h),fun _ hA => hA.2 ⟨o,ho,.inl hbb⟩⟩,h7⟩
   rw [hz,he,vaW]; exact h1
  | hole d xs ix cs => cases hz
  | rng it ka k ea e xs rest cur => cases hz
 | dead => rw [hx] at hz; cases hz
 | var vt cs => rw [hx] at hz; cases hz
 | ext x => rw [hx] at hz; cases hz
 | hole e xs ix cs => rw [hx] at hz; cases hz
theorem Done.after_freeze {c c2 : Ctx} {objs : Objs} (hs : SOK c objs) {l : List Nat} (hl : Unfrozen objs l) {v : V} {u : Value} {ch : Objs} {nx' : Nat} (h : Done (fzCtx c l) (freezes objs l ++ objs) c2 v u ch nx') :
  Done c objs c2 v u (ch ++ freezes objs l) nx' := by
 obtain ⟨h1,hs1⟩ := qc0 hs hl
 have hD2 : ∀ b,Dof (fzCtx c l) (freezes objs l ++ objs) ch b -> Dof c objs (ch ++ freezes objs l) b := fun b ⟨o,ho,hm,hb⟩ => by
  refine ⟨o,by rw [vaV]; exact vaY _ ho,?_,hb.imp id And.left⟩
  rw [qaz,qa7] at hm
  split at hm
  ·rename_i hol
   rw [qdd objs l o hol,(qhK (hl o hol)).1] at hm; cases hm
  ·exact hm
 have hD1 : ∀ b,Dof c objs (freezes objs l) b -> Dof c objs (ch ++ freezes objs l) b := fun b ⟨o,ho,hm,hb⟩ => ⟨o,by rw [vaV]; exact vaU _ ho,hm,hb⟩
 have h2 := h.step
 refine ⟨⟨h2.os,h2.tape,h2.output,h2.size,h2.nx,fun o ho => h2.hdr o ho,fun o ho => h2.blk o ho,fun o ho hD b => (h2.under o ho (fun g hg => ⟨fun k => (hD g (hg.imp id And.left)).1 (hD2 g k),(hD g (hg.imp id And.left)).2⟩) b).trans (h1.under o ho (fun g hg => ⟨fun k => (hD g hg).1 (hD1 g k),(hD g hg).2⟩) b),fun b hb hD => h2.heap b hb fun k => hD (hD2 b k),
   fun b hb hD => (h2.sb b hb fun k => hD (hD2 b k)).trans (h1.sb b hb fun k => hD (hD1 b k)),fun b hb hD => (h2.sa b hb fun k => hD (hD2 b k)).trans (h1.sa b hb fun k => hD (hD1 b k)),fun b hD => hD.sb hs⟩,?_,h.rel,h.nx,?_,?_⟩
 ·rw [vao]; exact h.ok
 ·intro o b ho hm hb
  rw [vao] at hm
  by_cases hoc : o ∈ ch.map (·.1)
  ·rcases h.fresh o b hoc hm hb with k | k
   ·exact .inl k
   ·exact .inr (hD2 b k)
  ·rw [vaV,qa7] at ho
   rcases vaw.1 ho with ho | ho
   ·exact absurd ho hoc
   ·rw [qaz,if_neg hoc,qaz,qa7,if_pos ho,qdd objs l o ho] at hm
    rw [(qhK (hl o ho)).1] at hm; cases hm
 ·intro o ho
  rw [vaV,qa7] at ho
  rcases vaw.1 ho with ho | ho
  ·exact h.ids o ho
  ·have := hs.lt (o := o) (qeQ (hl o ho))
   have h3 := h2.nx
   rw [h.nx] at h3
   exact vaf this h3
def addCtx (c : Ctx) (w : World) (hv : Value) (bo : Option Nat) : Ctx :=
 { w := w,nx := c.nx + 1,hdr := fun o => if o = c.nx then hv else c.hdr o,blk := fun o => if o = c.nx then bo else c.blk o,sub := c.sub,SB := fun b => c.SB b \/ bo = some b,SA := fun b => c.SA b \/ bo = some b }
theorem qek {c : Ctx} {w : World} {hv : Value} {bo : Option Nat} (D : Nat -> Prop) (hos : w.os = c.w.os) (htape : w.tape = c.w.tape) (hout : w.output = c.w.output) (hsz : c.w.heap.size <= w.heap.size)
  (hheap : ∀ b,b < c.w.heap.size -> ¬ D b -> w.heap[b]? = c.w.heap[b]?) (hb : ∀ b,bo = some b -> c.w.heap.size <= b \/ D b) (hD : ∀ b,D b -> c.SB b) : Step c (addCtx c w hv bo) D := by
 refine ⟨hos,htape,hout,hsz,va7 _,fun o ho => if_neg (vaO ho),fun o ho => if_neg (vaO ho),fun _ _ _ _ => Iff.rfl,hheap,fun b hlt hDb => ⟨fun h => ?_,.inl⟩,fun b hlt hDb => ⟨fun h => ?_,.inl⟩,hD⟩
 all_goals
  rcases h with h | h
  ·exact h
  ·rcases hb b h with h | h
   ·omega
   ·exact absurd h hDb
theorem Done.new {c : Ctx} {objs : Objs} (hs : SOK c objs) {w : World} {hv : Value} {bo : Option Nat} {v : V} {u : Value} {x : AObj} (hos : w.os = c.w.os) (htape : w.tape = c.w.tape) (hout : w.output = c.w.output) (hsz : c.w.heap.size <= w.heap.size)
  (hheap : ∀ b,b < c.w.heap.size -> w.heap[b]? = c.w.heap[b]?) (hb : ∀ b,bo = some b -> c.w.heap.size <= b /\ b < w.heap.size) (hone : hv.oneCell' = true)
  (hx : ObjOK (addCtx c w hv bo) c.nx x) (hr : Rel (addCtx c w hv bo) v u) : Done c objs (addCtx c w hv bo) v u [(c.nx,x)] (c.nx + 1) := by
 have hno : ∀ b,¬ Dof c objs [(c.nx,x)] b := fun b ⟨o,ho,hm,_⟩ => by
  have := hs.lt hm
  simp at ho; omega
 have hst : Step c (addCtx c w hv bo) (Dof c objs [(c.nx,x)]) := qek _ hos htape hout hsz (fun b hlt _ => hheap b hlt) (fun b h => .inl (hb b h).1) (fun b h => (hno b h).elim)
 have hfr : ∀ o b,o ∈ [(c.nx,x)].map (·.1) -> (addCtx c w hv bo).has o b -> c.w.heap.size <= b := fun o b ho h => by
  simp at ho; subst ho
  have h := h.resolve_right (hs.flat c.nx (by rw [hs.dead_ge (vag _)]; rfl) b)
  simp [addCtx] at h
  exact (hb b h).1
 refine ⟨hst,hs.step hst (fun o ho => ?_) (fun o b ho _ h => .inl (hfr o b ho h)) (fun o1 o2 b h1 h2 _ _ _ _ => ?_) (hs.flat_of fun o ho => ?_) (fun b h => ?_) (fun b h => ?_) (fun o ho => ?_),hr,rfl,fun o b ho _ h => .inl (hfr o b ho h),fun o ho => ?_⟩
 ·simp at ho; subst ho
  rw [qau,if_pos rfl]; exact hx
 ·simp at h1 h2; omega
 ·simp at ho; subst ho
  rw [hs.dead_ge (vag _)]; rfl
 ·exact h.imp (hs.sub b) id
 ·rcases h with h | h
  ·exact vaf (hs.bd b h) hsz
  ·exact (hb b h).2
 ·show Value.oneCell' (if o = c.nx then hv else c.hdr o) = true
  split
  ·exact hone
  ·exact hs.one o (by change o < c.nx + 1 at ho; omega)
 ·simp at ho; omega
theorem Done.newRow {c : Ctx} {objs : Objs} (hs : SOK c objs) {w : World} {hv : Value} {e : Ty} {xs : List e.den} {et : TypeId} {cells : List Value} (hos : w.os = c.w.os) (htape : w.tape = c.w.tape) (hout : w.output = c.w.output) (hsz : c.w.heap.size <= w.heap.size)
  (hheap : ∀ b,b < c.w.heap.size -> w.heap[b]? = c.w.heap[b]?) (hown : w.ownsRow 0 et e.size hv xs.length cells) (hc : CellsL (Cells c.w c.SA e) xs cells) (hb : ∀ b,hv.ownBlock = some b -> c.w.heap.size <= b) (hty : TyOK e et) :
  ∃ c',c'.w = w /\ Done c objs c' (.own c.nx) hv [(c.nx,.row e xs false)] (c.nx + 1) := by
 refine ⟨addCtx c w hv hv.ownBlock,rfl,?_⟩
 have hk : Kept c.w w c.SA (addCtx c w hv hv.ownBlock).SA := ⟨hsz,fun b hS hlt => ⟨hheap b hlt,fun h => by
  rcases h with h | h
  ·exact hS h
  ·have := hb b h; omega⟩⟩
 refine Done.new hs hos htape hout hsz hheap (fun b h => ⟨hb b h,(hown.lt b h).2⟩) ?_ ⟨vat _,et,cells,?_,CellsL.mono (fun x cs hh => Cells.mono hk e x cs hh) _ _ hc,?_,fun b h => ⟨fun _=>?_,fun h => (by cases h)⟩,hty⟩ ⟨vat _,?_⟩
 ·rcases hown.2 with ⟨h,_⟩ | ⟨_,_,_,h,_⟩ <;> rw [h] <;> rfl
 ·simpa [addCtx] using hown
 ·simp [addCtx]
 ·right; simpa [addCtx] using h
 ·simp [addCtx]
theorem Done.newVar {c : Ctx} {objs : Objs} (hs : SOK c objs) {cs : List V} {us : List Value} {el : TypeId} (hr : RelL c cs us) (hall : cs.all V.isC = true) :
  ∃ c',c'.w = c.w.alloc (.cells us.toArray el) /\ Done c objs c' (.ptr c.nx 0) (.pointer (some ⟨c.w.heap.size,0,none⟩)) [(c.nx,.var el cs)] (c.nx + 1) := by
 refine ⟨addCtx c (c.w.alloc (.cells us.toArray el)) (.slice none 0 0) (some c.w.heap.size),rfl,?_⟩
 have hold : ∀ b,b < c.w.heap.size -> (c.w.alloc (.cells us.toArray el)).heap[b]? = c.w.heap[b]? := fun b hb => Go.RowKit.Below.heap_alloc _ _ _ hb
 have hst : Step c (addCtx c (c.w.alloc (.cells us.toArray el)) (.slice none 0 0) (some c.w.heap.size)) (fun _=>False) :=
  qek _ rfl rfl rfl (by simp) (fun b hb _ => hold b hb) (fun b h => by cases h; exact .inl (vag _)) (fun b h => h.elim)
 refine Done.new hs rfl rfl rfl (by simp) hold (fun b h => by cases h; exact ⟨vag _,by simp⟩) rfl ⟨vat _,c.w.heap.size,us,el,by simp [addCtx],?_,RelL.mono hst hs.sub cs us hr,.inr rfl,hall,rfl⟩ ⟨vat _,c.w.heap.size,by simp [addCtx],rfl⟩
 show (c.w.heap.push _)[c.w.heap.size]? = _
 simp
theorem Done.upd {c : Ctx} {objs : Objs} (hs : SOK c objs) {o b : Nat} {w : World} {x : AObj} {v : V} {u : Value} (hm : (look .dead objs o).mut = true) (hn : (look .dead objs o).isNest = false) (hb : c.blk o = some b) (hos : w.os = c.w.os) (htape : w.tape = c.w.tape) (hout : w.output = c.w.output)
  (hsz : w.heap.size = c.w.heap.size) (hheap : ∀ k,k ≠ b -> w.heap[k]? = c.w.heap[k]?) (hx : ObjOK { c with w := w } o x) (hr : Rel { c with w := w } v u) :
  Done c objs { c with w := w } v u [(o,x)] c.nx := by
 have hD : Dof c objs [(o,x)] b := ⟨o,by simp,hm,.inl hb⟩
 have hst : Step c { c with w := w } (Dof c objs [(o,x)]) :=
  ⟨hos,htape,hout,Nat.le_of_eq hsz.symm,vag _,fun _ _ => rfl,fun _ _ => rfl,fun _ _ _ _ => Iff.rfl,fun k _ hk => hheap k fun e => hk (e ▸ hD),fun _ _ _ => Iff.rfl,fun _ _ _ => Iff.rfl,fun k h => h.sb hs⟩
 have hfr : ∀ o' b',o' ∈ [(o,x)].map (·.1) -> c.has o' b' -> c.w.heap.size <= b' \/ Dof c objs [(o,x)] b' := fun o' b' ho h => by
  simp at ho; subst ho
  have h := hs.has_flat hn h
  rw [hb] at h; cases h
  exact .inr hD
 refine ⟨hst,hs.step hst (fun o' ho => ?_) (fun o' b' ho _ h => hfr o' b' ho h) (fun o1 o2 _ h1 h2 _ _ _ _ => ?_) (hs.flat_of fun o' ho => (by simp at ho; subst ho; exact hn)) hs.sub (fun k h => ?_) hs.one,hr,rfl,fun o' b' ho _ h => hfr o' b' ho h,fun o' ho => ?_⟩
 ·simp at ho; subst ho
  rw [qau,if_pos rfl]; exact hx
 ·simp at h1 h2; omega
 ·show k < w.heap.size
  rw [hsz]; exact hs.bd k h
 ·simp at ho; subst ho; exact hs.lt hm
end Go.Vm

namespace Go.Vm
open Go
variable {P : Program} {tt : Tab}
theorem qkx {c : Ctx} {objs : Objs} (hs : SOK c objs) {v : V} {u : Value} (h : Rel c v u) (hc : v.isC = true) : u.oneCell' = true := by
 cases v <;> simp only [V.isC] at hc <;> simp only [Rel] at h <;> first | (cases hc; done) | skip
 case hid => exact h
 case kon k => subst h; cases u <;> first | rfl | cases hc
 case dat => obtain ⟨_,_,_,rfl,_⟩ := h; rfl
 case own o => obtain ⟨ho,rfl⟩ := h; exact hs.one o ho
 case ownn o => obtain ⟨ho,rfl,_⟩ := h; exact hs.one o ho
 case sub => obtain ⟨_,_,_,_,_,_,_,rfl⟩ := h; rfl
 case ptr => obtain ⟨_,_,_,rfl⟩ := h; rfl
 case pel => obtain ⟨_,_,_,rfl⟩ := h; rfl
 case optp => obtain ⟨_,rfl | ⟨_,_,rfl⟩⟩ := h <;> rfl
 case err x => cases x with
  | true => obtain ⟨_,_,rfl⟩ := h; rfl
  | false => cases h; rfl
 case nd => obtain ⟨_,_,_,rfl,_⟩ := h; rfl
 case tp => obtain ⟨_,_,_,rfl,_⟩ := h; rfl
 case fn => obtain ⟨_,rfl,_⟩ := h; rfl
 all_goals (subst h; rfl)
theorem qgS {c : Ctx} {objs : Objs} (hs : SOK c objs) : ∀ {vs : List V} {us : List Value},RelL c vs us -> vs.all V.isC = true -> ∀ u ∈ us,u.oneCell' = true
 | [],us,h,_,u,hu => by rw [show us = [] from h] at hu; cases hu
 | v :: r,us,h,hc,u,hu => by
  obtain ⟨u0,us',e,h1,h2⟩ := h
  simp only [List.all_cons,vae] at hc
  rw [e] at hu
  rcases vaJ.1 hu with rfl | hu
  ·exact qkx hs h1 hc.1
  ·exact qgS hs h2 hc.2 u hu
theorem qgz {u : Value} (h : u.oneCell' = true) : u.cells = #[u] := by cases u <;> first | rfl | cases h
theorem qb9 {c : Ctx} {objs : Objs} (hs : SOK c objs) {v : V} {u : Value} (h : Rel c v u) (hc : (vcells v).all V.isC = true) : RelL c (vcells v) u.cells.toList := by
 by_cases ha : ∃ cs,v = .agg cs
 ·obtain ⟨cs,rfl⟩ := ha
  obtain ⟨us,rfl,hr⟩ := h
  simpa [Value.cells,vcells] using hr
 ·have hv : vcells v = [v] := by
   unfold vcells
   split
   ·exact absurd ⟨_,rfl⟩ ha
   ·rfl
  rw [hv] at hc ⊢
  simp at hc
  rw [qgz (qkx hs h hc)]
  exact ⟨u,[],rfl,h,rfl⟩
theorem qjZ (l : List Value) (n : Nat) (v : Value) (r : List Value) (h : n < l.length) : (l.set n v).take (n + 1) ++ r ++ (l.set n v).drop (n + 1 + r.length) = l.take n ++ (v :: r) ++ l.drop (n + (r.length + 1)) := by
 rw [List.take_set,List.take_succ_eq_append_getElem h,List.drop_set_of_lt (by omega)]
 rw [List.set_append_right _ _ (by simp; omega)]
 simp [vaj (Nat.le_of_lt h),vao]
 congr 1; omega
theorem qhM (off : Nat) : ∀ (vs : List Value) (k : Nat) (cs : Array Value),off + k + vs.length <= cs.size ->
  ((vs.zipIdx k).foldl (fun (cs : Array Value) (p : Value × Nat) => cs.setIfInBounds (off + p.2) p.1) cs).toList = cs.toList.take (off + k) ++ vs ++ cs.toList.drop (off + k + vs.length)
 | [],k,cs,h => by simp
 | v :: r,k,cs,h => by
  rw [List.zipIdx_cons,List.foldl_cons,qhM off r (k + 1) _ (by simp at h ⊢; omega)]
  simp only [Array.toList_setIfInBounds]
  have := qjZ cs.toList (off + k) v r (by simp at h ⊢; omega)
  rw [<- vaS]
  exact this
theorem qeq {c : Ctx} {cs vs : List V} {us ws : List Value} (off : Nat) (h : RelL c cs us) (h' : RelL c vs ws) : RelL c (setRange cs off vs) (us.take off ++ ws ++ us.drop (off + ws.length)) := by
 unfold setRange
 rw [h'.len]
 exact ((h.take off).append h').append (h.drop _)
theorem qf3 {c : Ctx} {objs : Objs} (hs : SOK c objs) (place : Nat -> Option (Nat × Nat)) (pl : Nat -> Nat × Nat) {env : Env} {a : Act} (he : EnvRel c env a) : ∀ (ps : List (Nat × Operand)) (cells : List V) (us : List Value) (cs : List V),
  (∀ p ∈ ps,place p.1 = some (pl p.1)) -> RelL c cells us -> placeParts cells (ps.map fun p => ((pl p.1).1,(pl p.1).2,evalO env p.2)) = some cs ->
  ∃ us',Instr.fill place us.toArray (ps.map fun p => (p.1,a.eval p.2)) = some us'.toArray /\ RelL c cs us'
 | [],cells,us,cs,_,hr,h => by simp [placeParts] at h; subst h; exact ⟨us,rfl,hr⟩
 | p :: r,cells,us,cs,hp,hr,h => by
  simp only [vaK,placeParts] at h
  split at h
  ·rename_i hc
   simp only [vae] at hc
   obtain ⟨⟨h1,h2⟩,h3⟩ := hc
   have h1 := vaa h1
   have h2 := vaq h2
   have hv := qb9 hs (qaw he p.2) h3
   have hlen : (a.eval p.2).cells.size = (pl p.1).2 := by rw [<- h1,<- hv.len]; simp
   obtain ⟨us',e1,e2⟩ := qf3 hs place pl he r _ _ cs (fun q hq => hp q (vaX _ hq)) (qeq (pl p.1).1 hr hv) h
   refine ⟨us',?_,e2⟩
   rw [<- e1]
   simp only [vaK,Instr.fill,hp p (va1 ..)]
   have hsz : ¬ ((pl p.1).1 + (pl p.1).2 > us.length) := by rw [hr.len]; omega
   simp only [hlen,vaE]
   rw [if_neg (by simpa using hsz)]
   congr 1
   apply va3.1
   rw [<- vbk,vbi]
   have := qhM (pl p.1).1 (a.eval p.2).cells.toList 0 us.toArray (by simp [hlen]; omega)
   simpa using this
  ·cases h
theorem qkk (hT : TabOK P tt) {t : Nat} {objs : Objs} {c : Ctx} (hs : SOK c objs) {env : Env} {a : Act} (he : EnvRel c env a) (ps : Array (Nat × Operand)) {K : V -> Option R} {r : R}
  (h : buildV tt t (ps.toList.map fun p => (p.1,evalO env p.2)) K = some r) : ∃ q z,K q = some r /\ Rel c q z /\ (Instr.build t (ps.map fun (i,x) => (i,a.eval x))).run P c.w = .ok z c.w := by
 have hps : (ps.map fun (i,x) => (i,a.eval x)).toList = ps.toList.map fun p => (p.1,a.eval p.2) := by simp
 unfold buildV at h
 split at h
 ·rename_i fs hk
  split at h
  ·cases h
  ·rename_i hc
   simp only [vae,vbp,va2] at hc
   obtain ⟨hc1,hc2⟩ := hc
   obtain ⟨d,it,z,hd,hi,hz,hkd,hsz,_,hzs,hzr,_⟩ := (hT.row (t := t) (by rw [hk]; rfl)).out
   obtain ⟨gs,h1,h2⟩ := qhD hkd hk
   split at h
   ·rename_i cs hpl
    rw [vbf] at hpl
    have hplaces : gs.toList.mapM (fun f => (P.info? f.type).map fun i => (f.offset,i.size)) = some (fs.map fun p => (p.1,(tt.row p.2).size)) := by
     rw [h2]
     have : ∀ l : List Field,(∀ f ∈ l,(tt.row f.type).k.isOther = false) -> l.mapM (fun f => (P.info? f.type).map fun i => (f.offset,i.size)) = some ((l.map fun f => (f.offset,f.type)).map fun p => (p.1,(tt.row p.2).size)) := by
      intro l
      induction l with
      | nil => intro _; rfl
      | cons f l ih =>
       intro hl
       obtain ⟨d',i',z',_,hi',_,_,hs',_⟩ := (hT.row (hl f (va1 ..))).out
       simp [List.mapM_cons,hi',hs',ih fun f hf => hl f (vaX _ hf)]
     refine this _ fun f hf => ?_
     have := hc2 (f.offset,f.type) (by rw [h2]; exact va2.2 ⟨f,hf,rfl⟩)
     simpa using this
    obtain ⟨us',e1,e2⟩ := qf3 hs (((fs.map fun p => (p.1,(tt.row p.2).size)).toArray)[·]?) (fun i => ((nth (0,0) fs i).1,(tt.row (nth (0,0) fs i).2).size)) he ps.toList (tt.row t).zero z.cells.toList cs (fun p hp => by
     have := hc1 (p.1,evalO env p.2) ⟨p,hp,rfl⟩
     have hlt : p.1 < fs.length := by simpa using this
     simp [qd8 (0,0) fs p.1 hlt]) (hzr c) hpl
    refine ⟨_,.agg us'.toArray,h,⟨us',rfl,e2⟩,run_build c.w t _ _ ?_⟩
    unfold Program.built
    simp only [hi,hd,h1,hz,hplaces]
    rw [hps,<- e1]
   ·cases h
 ·rename_i n e hk
  split at h
  ·cases h
  ·rename_i ho
   obtain ⟨d,it,z,hd,hi,hz,hkd,hsz,_,hzs,hzr,_⟩ := (hT.row (t := t) (by rw [hk]; rfl)).out
   obtain ⟨d',i',z',_,hi',_,_,hs',_⟩ := (hT.row ho).out
   have hu : d = .array n e := by
    rw [hk] at hkd
    cases d <;> simp [kindB] at hkd
    rw [hkd.1,hkd.2]
   split at h
   ·rename_i cs hpl
    rw [vbf] at hpl
    obtain ⟨us',e1,e2⟩ := qf3 hs (fun i => some (i * i'.size,i'.size)) (fun i => (i * (tt.row e).size,(tt.row e).size)) he ps.toList (tt.row t).zero z.cells.toList cs (fun p _ => by rw [hs']) (hzr c) hpl
    refine ⟨_,.agg us'.toArray,h,⟨us',rfl,e2⟩,run_build c.w t _ _ ?_⟩
    unfold Program.built
    simp only [hi,hd,hu,hz,hi']
    rw [hps,<- e1]
   ·cases h
 ·cases h
end Go.Vm

namespace Go.Vm
open Go
variable {P : Program} {tt : Tab}
theorem qhU {e e' : Ty} (h : e' = e) (xs : List e'.den) : (castL h xs).length = xs.length := by subst h; rfl
theorem qhE (c : Ctx) (l : List Nat) : Kept c.w c.w c.SA (fzCtx c l).SA := ⟨vag _,fun _ hb _ => ⟨rfl,fun h => hb h.1⟩⟩
theorem qdp {c : Ctx} {objs : Objs} (hs : SOK c objs) {o : Nat} {e : Ty} {xs : List e.den} {fz : Bool} (ho : look .dead objs o = .row e xs fz) (l : List Nat) (hl : fz = false -> o ∈ l) :
  ∃ a n k,c.hdr o = .slice a n k /\ Rows (Cells c.w (fzCtx c l).SA e) c.w (fzCtx c l).SA xs a n k := by
 obtain ⟨et,cells,hown,hcl,hob,h4,h5,_⟩ := hs.row_at ho
 have hcl' := CellsL.mono (fun x cs hh => Cells.mono (qhE c l) e x cs hh) _ _ hcl
 rcases hown.2 with ⟨hv,hz⟩ | ⟨g,cap,cur,hv,_,_,hle,_⟩
 ·exact ⟨none,0,0,hv,hz.symm,vag _,cells,hcl',.inl (vad hz)⟩
 ·have hbk : c.blk o = some g := by rw [<- hob,hv]; rfl
  refine ⟨_,_,_,hv,rfl,hle,cells,hcl',.inr ⟨g,0,rfl,fun hA => ?_,(h5 g hbk).2,fun j u hu => (h5 g hbk).1 j u hu⟩⟩
  cases fz with
  | true => exact (h4 g hbk).2 rfl hA.1
  | false => exact hA.2 ⟨o,hl rfl,.inl hbk⟩
theorem qbw {c : Ctx} {objs : Objs} (hs : SOK c objs) : ∀ (t : Ty) (cs : List V) (us : List Value) {K : t.den -> List V -> List Nat -> Option R} {r : R},RelL c cs us -> ofCells objs t cs K = some r ->
  ∃ x rest f u1 u2,K x rest f = some r /\ us = u1 ++ u2 /\ RelL c rest u2 /\ Unfrozen objs f /\ ∀ l,(∀ o,o ∈ f -> o ∈ l) -> Cells c.w (fzCtx c l).SA t x u1
 | .int k,cs,us,K,r,hr,h => by
  cases cs with
  | nil => simp [ofCells] at h
  | cons v cs =>
   cases v <;> simp only [ofCells] at h <;> first | (cases h; done) | skip
   split at h
   ·rename_i hk
    obtain ⟨u,us',e,h1,h2⟩ := hr
    simp only [Rel] at h1; subst hk h1
    exact ⟨_,_,[],[_],us',h,e,h2,fun o ho => (by cases ho),fun _ _ => rfl⟩
   ·cases h
 | .bool,cs,us,K,r,hr,h => by
  cases cs with
  | nil => simp [ofCells] at h
  | cons v cs =>
   cases v <;> simp only [ofCells] at h <;> first | (cases h; done) | skip
   obtain ⟨u,us',e,h1,h2⟩ := hr
   simp only [Rel] at h1; subst h1
   exact ⟨_,_,[],[_],us',h,e,h2,fun o ho => (by cases ho),fun _ _ => rfl⟩
 | .str,cs,us,K,r,hr,h => by
  cases cs with
  | nil => simp [ofCells] at h
  | cons v cs =>
   cases v <;> simp only [ofCells] at h <;> first | (cases h; done) | skip
   obtain ⟨u,us',e,h1,h2⟩ := hr
   simp only [Rel] at h1; subst h1
   exact ⟨_,_,[],[_],us',h,e,h2,fun o ho => (by cases ho),fun _ _ => rfl⟩
 | .sl e,cs,us,K,r,hr,h => by
  cases cs with
  | nil => simp [ofCells] at h
  | cons v cs =>
   obtain ⟨u,us',eu,h1,h2⟩ := hr
   simp only [ofCells] at h
   split at h
   ·simp only [Rel] at h1; subst h1
    exact ⟨_,_,[],[_],us',h,eu,h2,fun o ho => (by cases ho),fun _ _ => ⟨none,0,0,rfl,rfl,vag _,[],rfl,.inl rfl⟩⟩
   ·split at h
    ·rename_i e' xs he
     subst he
     obtain ⟨a,n,k,rfl,hrow⟩ := h1
     exact ⟨_,_,[],[_],us',h,eu,h2,fun o ho => (by cases ho),fun l _ => ⟨a,n,k,rfl,hrow.mono (qhE c l) (Cells.mono (qhE c l) e')⟩⟩
    ·cases h
   ·split at h
    ·rename_i e' xs he
     subst he
     obtain ⟨a,n,k,rfl,hrow,_⟩ := h1
     exact ⟨_,_,[],[_],us',h,eu,h2,fun o ho => (by cases ho),fun l _ => ⟨a,n,k,rfl,hrow.mono (qhE c l) (Cells.mono (qhE c l) e')⟩⟩
    ·cases h
   ·rename_i o
    split at h
    ·rename_i e' xs fz hob
     split at h
     ·rename_i he
      subst he
      obtain ⟨hnx,rfl⟩ := h1
      refine ⟨_,_,_,[_],us',h,eu,h2,fun o' ho' => ?_,fun l hl => ?_⟩
      ·cases fz
       ·simp at ho'; subst ho'; rw [hob]; rfl
       ·cases ho'
      ·obtain ⟨a,n,k,hh,hrow⟩ := qdp hs hob l (fun hf => hl o (by rw [hf]; simp))
       exact ⟨a,n,k,by rw [hh],hrow⟩
     ·cases h
    ·cases h
   ·cases h
 | .unit,cs,us,K,r,hr,h => by
  simp only [ofCells] at h
  exact ⟨_,_,[],[],us,h,rfl,hr,fun o ho => (by cases ho),fun _ _ => rfl⟩
 | .pair a b,cs,us,K,r,hr,h => by
  simp only [ofCells] at h
  obtain ⟨x,rest,f,u1,u2,h,e1,hr1,hf1,hc1⟩ := qbw hs a cs us hr h
  obtain ⟨y,rest',f',u3,u4,h,e2,hr2,hf2,hc2⟩ := qbw hs b rest u2 hr1 h
  refine ⟨_,_,_,u1 ++ u3,u4,h,by rw [e1,e2,vao],hr2,fun o ho => ?_,fun l hl => ⟨u1,u3,rfl,hc1 l fun o ho => hl o (vaY _ ho),hc2 l fun o ho => hl o (vaU _ ho)⟩⟩
  rcases vaw.1 ho with ho | ho
  ·exact hf1 o ho
  ·exact hf2 o ho
theorem qfD {c : Ctx} {objs : Objs} (hs : SOK c objs) (e : Ty) : ∀ (vs : List V) (us : List Value) {K : List e.den -> List Nat -> Option R} {r : R},RelL c vs us -> ofParts objs e vs K = some r ->
  ∃ xs f,K xs f = some r /\ xs.length = vs.length /\ Unfrozen objs f /\ ∀ l,(∀ o,o ∈ f -> o ∈ l) -> CellsL (Cells c.w (fzCtx c l).SA e) xs (us.flatMap fun u => u.cells.toList)
 | [],us,K,r,hr,h => by
  rw [show us = [] from hr]
  exact ⟨[],[],h,rfl,fun o ho => (by cases ho),fun _ _ => rfl⟩
 | v :: vs,us,K,r,hr,h => by
  obtain ⟨u,us',eu,h1,h2⟩ := hr
  simp only [ofParts] at h
  split at h
  rotate_left
  ·cases h
  rename_i hc
  obtain ⟨x,rest,f,u1,u2,h,e1,hr1,hf1,hc1⟩ := qbw hs e _ _ (qb9 hs h1 hc) h
  split at h
  ·obtain ⟨xs,f',h,hlen,hf2,hc2⟩ := qfD hs e vs us' h2 h
   refine ⟨_,_,h,by simp [hlen],fun o ho => ?_,fun l hl => ?_⟩
   ·rcases vaw.1 ho with ho | ho
    ·exact hf1 o ho
    ·exact hf2 o ho
   ·rw [eu,vbm]
    rw [show u2 = [] from hr1,vaI] at e1
    exact ⟨_,_,rfl,by rw [e1]; exact hc1 l fun o ho => hl o (vaY _ ho),hc2 l fun o ho => hl o (vaU _ ho)⟩
  ·cases h
theorem qhG : ∀ (ps : List (Nat × V)) (k : Nat),inOrder k ps = true -> ∀ i (h : i < ps.length),ps[i].1 = k + i
 | [],k,_,i,h => by simp at h
 | p :: r,k,ho,i,h => by
  simp only [inOrder] at ho
  split at ho
  ·rename_i hk
   cases i with
   | zero => exact vaa hk
   | succ i =>
    have := qhG r (k + 1) ho i (by simpa using h)
    simp only [vbe]
    rw [this]; omega
  ·cases ho
theorem qf4 (size : Nat) : ∀ (ps : List (Nat × Value)) (k : Nat) (us : List Value),(∀ i (h : i < ps.length),ps[i].1 = k + i) -> (∀ p ∈ ps,p.2.cells.size = size) -> us.length = (k + ps.length) * size ->
  Instr.fill (fun i => some (i * size,size)) us.toArray ps = some (us.take (k * size) ++ ps.flatMap fun p => p.2.cells.toList).toArray
 | [],k,us,_,_,hl => by
  simp only [Instr.fill,List.flatMap_nil,vaI]
  rw [van (by rw [hl]; simp)]
 | (i,v) :: r,k,us,hi,hsz,hl => by
  have hi0 : i = k := by have := hi 0 (by simp); simpa using this
  subst hi0
  have hv : v.cells.size = size := hsz (i,v) (va1 ..)
  have hle : i * size + size <= us.length := by
   rw [hl,vaz,<- vap]; exact vab _ (by omega)
  simp only [Instr.fill,hv,vaE]
  rw [if_neg (by simp; omega)]
  have key : (Array.foldl (fun (cs : Array Value) (x : Value × Nat) => cs.setIfInBounds (i * size + x.2) x.1) us.toArray v.cells.zipIdx) = (us.take (i * size) ++ v.cells.toList ++ us.drop (i * size + size)).toArray := by
   apply va3.1
   rw [<- vbk,vbi]
   have := qhM (i * size) v.cells.toList 0 us.toArray (by simp [hv]; omega)
   simpa [hv] using this
  have ih := qf4 size r (i + 1) (us.take (i * size) ++ v.cells.toList ++ us.drop (i * size + size)) (fun j hj => by
   have := hi (j + 1) (by simpa using hj)
   simp only [vbe] at this
   rw [this]; omega) (fun p hp => hsz p (vaX _ hp)) (by
    simp only [vai,vac,vas,vax,hv]
    rw [hl,vaz]
    rw [show i + 1 + r.length = i + (r.length + 1) by omega]
    rw [hl,vaz] at hle
    omega)
  refine Eq.trans ?_ (ih.trans ?_)
  ·rw [<- key]
  ·rw [vbm,<- vao]
   congr 3
   rw [show (i + 1) * size = (us.take (i * size) ++ v.cells.toList).length by
    have hv' : v.cells.toList.length = size := by simpa using hv
    rw [vai,vac,hv',vap]; omega]
   exact vaP
theorem TabOK.elemRow (hT : TabOK P tt) {et : Nat} {e : Ty} (ho : (tt.row et).k.isOther = false) (he : (tt.row et).ty = some e) :
  ∃ i z,P.info? et = some i /\ i.zero = some z /\ i.size = e.size /\ i.bytes = (tt.row et).bytes /\ z.cells.size = e.size /\ 0 < e.size /\ z.cells.toList = zcells e /\ TyOK e et := by
 obtain ⟨d,i,z,_,hi,hz,_,hs,hb,hzs,_,_,h⟩ := (hT.row ho).out
 obtain ⟨h1,h2,h3⟩ := h e he
 exact ⟨i,z,hi,hz,by rw [hs,h1],hb,by rw [hzs,h1],by rw [h1]; exact h2,h3⟩
theorem qgt {c : Ctx} {objs : Objs} (hs : SOK c objs) (e : Ty) : ∀ (vs : List V) (us : List Value) {K : List e.den -> List Nat -> Option R} {r : R},RelL c vs us -> ofParts objs e vs K = some r -> ∀ u ∈ us,u.cells.size = e.size
 | [],us,K,r,hr,h,u,hu => by rw [show us = [] from hr] at hu; cases hu
 | v :: vs,us,K,r,hr,h,u,hu => by
  obtain ⟨u0,us',eu,h1,h2⟩ := hr
  simp only [ofParts] at h
  split at h
  rotate_left
  ·cases h
  rename_i hc
  obtain ⟨x,rest,f,u1,u2,h,e1,hr1,hf1,hc1⟩ := qbw hs e _ _ (qb9 hs h1 hc) h
  split at h
  ·rw [eu] at hu
   rcases vaJ.1 hu with rfl | hu
   ·rw [show u2 = [] from hr1,vaI] at e1
    have := Cells.len e x u1 (hc1 f fun _ h => h)
    rw [<- e1] at this
    simpa using this
   ·exact qgt hs e vs us' h2 h u hu
  ·cases h
theorem qli {c : Ctx} {env : Env} {a : Act} (he : EnvRel c env a) : ∀ ps : List (Nat × Operand),RelL c (ps.map fun p => evalO env p.2) (ps.map fun p => a.eval p.2)
 | [] => rfl
 | p :: r => ⟨_,_,rfl,qaw he p.2,qli he r⟩
theorem qgd (hT : TabOK P tt) {t len nx : Nat} {objs : Objs} {c : Ctx} (hs : SOK c objs) (hn : c.nx = nx) {env : Env} {a : Act} (he : EnvRel c env a) (ps : Array (Nat × Operand)) {md : List Nat} {K : V → Objs → Nat → Option R} {r : R}
    (h : buildSliceV tt objs nx t len (ps.toList.map fun p => (p.1,evalO env p.2)) md K = some r) :
    ∃ q ch nx' u c',K q ch nx' = some r ∧ Done c objs c' q u ch nx' ∧ (Instr.buildSlice t len (ps.map fun (i,x) => (i,a.eval x))).run P c.w = .ok u c'.w ∧ (∀ o ∈ ch.map (·.1),o < nx → o ∈ md) ∧ NN u := by
  unfold buildSliceV at h
  split at h
  · cases h
  · rename_i e hte
    split at h
    · cases h
    · rename_i hc
      simp only [vae,vam] at hc
      obtain ⟨⟨⟨⟨hlen,hord⟩,hle⟩,hsl⟩,ho⟩ := hc
      have hlen : ps.toList.length = len := by have := vaa hlen; simpa using this
      have hle : len * e.size ≤ 16777216 := vaq hle
      obtain ⟨et,hk,hu⟩ := hT.sl hsl
      have het : elemOf tt t = et := by simp [elemOf,hk]
      rw [het] at hte ho
      obtain ⟨i,z,hi,hz,hsz,hby,hzs,hpos,hzc,hty⟩ := hT.elemRow ho hte
      rw [vbf] at h
      have hrl := qli he ps.toList
      have hmm : (ps.toList.map ((fun x => x.2) ∘ fun p => (p.1,evalO env p.2))) = ps.toList.map fun p => evalO env p.2 := rfl
      rw [hmm] at h
      have hsizes := qgt hs e _ _ hrl h
      obtain ⟨xs,f,h,hxl,hf,hcl⟩ := qfD hs e _ _ hrl h
      split at h
      · rename_i hmd
        have hcl := hcl f fun _ h => h
        obtain ⟨hst1,hs1⟩ := qc0 hs hf
        have hxl : xs.length = len := by rw [hxl,vaW,hlen]
        -- the cells
        have hps : (ps.map fun (i,x) => (i,a.eval x)).toList = ps.toList.map fun p => (p.1,a.eval p.2) := by simp
        have hfill := qf4 e.size (ps.toList.map fun p => (p.1,a.eval p.2)) 0 (((vaR (len * e.size)).map (z.cells[· % z.cells.size]!)).toList) (fun j hj => by
            have := qhG _ 0 hord j (by simpa using hj)
            simpa using this) (fun p hp => by
            obtain ⟨q,hq,rfl⟩ := va2.1 hp
            exact hsizes _ (va2.2 ⟨q,hq,rfl⟩)) (by simp [hlen])
        have hcells : (ps.toList.map fun p => (p.1,a.eval p.2)).flatMap (fun p => p.2.cells.toList) = (ps.toList.map fun p => a.eval p.2).flatMap fun u => u.cells.toList := by
          rw [vbo,vbo]
        rw [hcells] at hfill
        simp only [va4,vaZ,vaL] at hfill
        have hclen := hcl.len (fun x cs h => Cells.len e x cs h)
        rw [hxl] at hclen
        generalize hnews : (ps.toList.map fun p => a.eval p.2).flatMap (fun u => u.cells.toList) = news at hcl hfill hclen
        have hown : (c.w.alloc (.cells news.toArray et)).ownsRow 0 et e.size (.slice (some ⟨c.w.heap.size,0,none⟩) len len) xs.length news := by
          refine ⟨by rw [hxl]; exact hclen,.inr ⟨c.w.heap.size,len,_,by rw [hxl],vaC _,heap_alloc_new _ _,by rw [hxl]; exact vag _,?_,by simp [hclen],?_⟩⟩
          · have : len ≤ len * e.size := Nat.le_mul_of_pos_right _ hpos
            unfold maxLen; omega
          · rw [hxl,← hclen,List.take_length]
        obtain ⟨c2,hw2,hd2⟩ := Done.newRow hs1 (hv := .slice (some ⟨c.w.heap.size,0,none⟩) len len) (xs := xs) (cells := news) (et := et) (w := c.w.alloc (.cells news.toArray et))
          rfl rfl rfl (by simp [fzCtx]) (fun b hb => Go.RowKit.Below.heap_alloc _ _ _ hb) hown (show CellsL (Cells (fzCtx c f).w (fzCtx c f).SA e) xs news from hcl) (fun b hb => by simp [Value.ownBlock] at hb; subst hb; exact vag _) hty
        have hfin := Done.after_freeze hs hf hd2
        subst hn
        refine ⟨_,_,_,_,c2,h,hfin,?_,fun o ho hlt => ?_,_,_,_,rfl⟩
        · rw [hw2]
          have h16 : ¬ (len * e.size > 2 ^ 24) := by omega
          unfold Instr.buildSlice
          simp only [Sem.run_bind,run_underlying hu,Result.andThen_ok,sizeOf,typeInfo,hi,hsz,run_program,Sem.run_pure,if_neg h16]
          have hrow : (newRow et news.toArray).run P c.w = .ok ⟨c.w.heap.size,0,none⟩ (c.w.alloc (.cells news.toArray et)) := rfl
          rw [hps]
          by_cases h0 : len * e.size = 0
          · have harr : (vaR (len * e.size)).map ((#[] : Array Value)[· % (#[] : Array Value).size]!) = (((vaR (len * e.size)).map (z.cells[· % z.cells.size]!)).toList).toArray := by
              have hr0 : vaR (len * e.size) = #[] := by rw [h0]; rfl
              rw [hr0,vbq,vbq]
            rw [if_pos h0]
            simp only [Sem.run_bind,Sem.run_pure,Result.andThen_ok]
            rw [harr,hfill]
            simp [hrow]
          · rw [if_neg h0]
            simp only [Sem.run_bind,Sem.run_pure,Result.andThen_ok,zeroValue,typeInfo,hi,hz,run_program]
            have harr : (vaR (len * e.size)).map (z.cells[· % z.cells.size]!) = (((vaR (len * e.size)).map (z.cells[· % z.cells.size]!)).toList).toArray := by rw [Array.toArray_toList]
            rw [harr,hfill]
            simp [hrow]
        · rw [vaK,qa7] at ho
          rcases vaJ.1 ho with ho | ho
          · simp at ho; omega
          · exact qb8.1 hmd o ho
      · cases h
end Go.Vm

namespace Go.Vm
open Go
variable {P : Program} {tt : Tab}
theorem qgQ {c : Ctx} {objs : Objs} (hs : SOK c objs) {o b : Nat} {w : World} (x : AObj) (hm : (look .dead objs o).mut = true) (hb : c.blk o = some b) (hos : w.os = c.w.os) (htape : w.tape = c.w.tape) (hout : w.output = c.w.output)
  (hsz : w.heap.size = c.w.heap.size) (hheap : ∀ k,k ≠ b -> w.heap[k]? = c.w.heap[k]?) : Step c { c with w := w } (Dof c objs [(o,x)]) :=
 ⟨hos,htape,hout,Nat.le_of_eq hsz.symm,vag _,fun _ _ => rfl,fun _ _ => rfl,fun _ _ _ _ => Iff.rfl,fun k _ hk => hheap k fun e => hk (e ▸ ⟨o,by simp,hm,.inl hb⟩),fun _ _ _ => Iff.rfl,fun _ _ _ => Iff.rfl,fun k h => h.sb hs⟩
theorem SOK.row_full {c : Ctx} {objs : Objs} (hs : SOK c objs) {o : Nat} {e : Ty} {xs : List e.den} {fz : Bool} (ho : look .dead objs o = .row e xs fz) {b : Nat} (hb : c.blk o = some b) :
  ∃ cur el cap cells,c.hdr o = .slice (some ⟨b,0,none⟩) xs.length cap /\ c.w.heap[b]? = some (.cells cur el (0,0)) /\ cur.size = cap * e.size /\ xs.length <= cap /\ cap <= maxLen /\
   cur.toList.take (xs.length * e.size) = cells /\ CellsL (Cells c.w c.SA e) xs cells /\ cells.length = xs.length * e.size /\ TyOK e el := by
 obtain ⟨et,cells,hown,hcl,hob,_,_,_,hty⟩ := hs.row_at ho
 rcases hown.2 with ⟨hv,_⟩ | ⟨g,cap,cur,hv,_,hh,hle,hm,hsz,htk⟩
 ·rw [hv] at hob; rw [hb] at hob; cases hob
 ·have : g = b := by rw [hv] at hob; rw [hb] at hob; simpa [Value.ownBlock] using hob
  subst this
  exact ⟨cur,et,cap,cells,hv,hh,hsz,hle,hm,htk,hcl,hown.1,hty⟩
theorem Done.rowSet {c : Ctx} {objs : Objs} (hs : SOK c objs) {o : Nat} {e : Ty} {xs ys : List e.den} (ho : look .dead objs o = .row e xs false) {b : Nat} (hb : c.blk o = some b) {cur cur' : Array Value} {el : TypeId} {cells' : List Value}
  (hh : c.w.heap[b]? = some (.cells cur el (0,0))) (hlen : ys.length = xs.length) (hcl : CellsL (Cells c.w c.SA e) ys cells') (hsz : cur'.size = cur.size) (htk : cur'.toList.take (xs.length * e.size) = cells') {v : V} {u : Value} (hr : Rel c v u) :
  Done c objs { c with w := c.w.setRow b cur' } v u [(o,.row e ys false)] c.nx := by
 obtain ⟨cur0,el0,cap,cells,h1,h2,h3,h4,h5,h6,h7,h8,hty⟩ := hs.row_full ho hb
 rw [hh] at h2; cases h2
 have hm : (look .dead objs o).mut = true := by rw [ho]; rfl
 have hst := qgQ hs (w := c.w.setRow b cur') (.row e ys false) hm hb rfl rfl rfl (by simp) fun k hk => setRow_other _ _ _ _ hk
 have hSB := hs.mutSB hm (.inl hb)
 refine Done.upd hs hm (by rw [ho]; rfl) hb rfl rfl rfl (by simp) (fun k hk => setRow_other _ _ _ _ hk) ⟨hs.lt hm,el,cells',⟨?_,.inr ⟨b,cap,cur',by rw [hlen]; exact h1,vaC _,setRow_heap _ _ _ _ _ _ hh,by rw [hlen]; exact h4,h5,by rw [hsz,h3],by rw [hlen]; exact htk⟩⟩,
  CellsL.mono (fun x cs hh => Cells.mono (hst.kept hs.sub false) e x cs hh) _ _ hcl,by rw [h1,hb]; rfl,fun k hk => ⟨fun _=>?_,fun h => (by cases h)⟩,hty⟩ (Rel.mono hst hs.sub _ _ hr)
 ·exact hcl.len (fun x cs h => Cells.len e x cs h)
 ·rw [show c.blk o = some k from hk] at hb; cases hb; exact hSB
theorem qnl {objs : Objs} {f : List Nat} {o : Nat} (h : o ∉ f) : look .dead (freezes objs f ++ objs) o = look .dead objs o := by
 rw [qaz,qa7,if_neg h]
theorem qeo {cs vs : List V} {off : Nat} (h1 : cs.all V.isC = true) (h2 : vs.all V.isC = true) : (setRange cs off vs).all V.isC = true := by
 unfold setRange
 rw [vbp] at *
 intro v hv
 rcases vaw.1 hv with hv | hv
 ·rcases vaw.1 hv with hv | hv
  ·exact h1 v (vbg hv)
  ·exact h2 v hv
 ·exact h1 v (List.mem_of_mem_drop hv)
theorem qd3 (hT : TabOK P tt) {t : Nat} (ho : (tt.row t).k.isOther = false) {w : World} {b off : Nat} {v : Value} {cur : Array Value} {el : TypeId} (hh : w.heap[b]? = some (.cells cur el (0,0))) (hsz : v.cells.size = (tt.row t).size)
  (hle : off + v.cells.size <= cur.size) (h1 : ∀ u ∈ v.cells.toList,u.oneCell' = true) :
  (Instr.storeAt t (.pointer (some ⟨b,off,none⟩)) v).run P w = .ok () (w.setRow b (cur.toList.take off ++ v.cells.toList ++ cur.toList.drop (off + v.cells.toList.length)).toArray) := by
 have hst := run_storeCells_at P b off el v.cells.toList 0 cur w hh (by simpa using hle) h1
 simp only [vaG] at hst
 simp [Instr.storeAt,Instr.sureAddr,storeVar,run_sizeOf hT ho,hsz,hst]
theorem qfk (l vs : List Value) (p n : Nat) (h : p + vs.length <= n) (hn : n <= l.length) : (l.take p ++ vs ++ l.drop (p + vs.length)).take n = (l.take n).take p ++ vs ++ (l.take n).drop (p + vs.length) := by
 rw [vba,vaj (by omega),va6]
 have h1 : (l.take p ++ vs).length = p + vs.length := by rw [vai,vac]; omega
 rw [van (by rw [h1]; exact h),h1,List.drop_take]
theorem qoY (l vs : List Value) (p off es : Nat) (h : off + vs.length <= es) :
  l.take p ++ (((l.drop p).take es).take off ++ vs ++ ((l.drop p).take es).drop (off + vs.length)) ++ l.drop (p + es) = l.take (p + off) ++ vs ++ l.drop (p + off + vs.length) := by
 rw [vba,vaj (by omega),List.drop_take,va0]
 rw [show l.take (p + off) = l.take p ++ (l.drop p).take off from by rw [List.take_add]]
 simp only [vao]
 congr 3
 have e1 : l.drop (p + es) = (l.drop (p + off + vs.length)).drop (es - (off + vs.length)) := by
  rw [va0]; congr 1; omega
 rw [e1,show p + (off + vs.length) = p + off + vs.length by omega,vaT]
theorem qjB (hT : TabOK P tt) {t : Nat} {objs : Objs} {c : Ctx} (hs : SOK c objs) {a v : V} {ua uv : Value} (ha : Rel c a ua) (hv : Rel c v uv) {md : List Nat} {K : Objs -> Option R} {r : R} (h : storeV tt objs t a v md K = some r) :
  ∃ ch c',K ch = some r /\ Done c objs c' .undef Go.undef ch c.nx /\ (Instr.storeAt t ua uv).run P c.w = .ok () c'.w /\ ∀ o ∈ ch.map (·.1),o ∈ md := by
 unfold storeV at h
 dsimp only at h
 split at h
 ·cases h
 ·rename_i hc
  simp only [vae,vam] at hc
  obtain ⟨⟨hlen,hall⟩,ho⟩ := hc
  have hlen : (vcells v).length = (tt.row t).size := vaa hlen
  have hvc := qb9 hs hv hall
  have husz : uv.cells.size = (tt.row t).size := by rw [<- hlen,<- hvc.len]; simp
  have hone := qgS hs hvc hall
  split at h
  ·rename_i o off
   split at h
   ·rename_i vt cs hob
    split at h
    ·rename_i hc
     simp only [vae] at hc
     have hle : off + (vcells v).length <= cs.length := vaq hc.1
     have hmd := qaJ.1 hc.2
     obtain ⟨hnx,b,hb,rfl⟩ := ha
     obtain ⟨b',us,el,hb',hh,hr,hsb,hcall,hat,hel⟩ := hs.var_at hob
     cases hb.symm.trans hb'
     have hm : (look .dead objs o).mut = true := by rw [hob]; rfl
     have hrun := qd3 hT ho (off := off) hh husz (by simp; rw [hr.len]; omega) hone
     have hst := qgQ hs (w := c.w.setRow b (us.take off ++ uv.cells.toList ++ us.drop (off + uv.cells.toList.length)).toArray) (.var vt (setRange cs off (vcells v))) hm hb rfl rfl rfl (by simp) fun k hk => setRow_other _ _ _ _ hk
     refine ⟨_,_,h,Done.upd hs (w := c.w.setRow b (us.take off ++ uv.cells.toList ++ us.drop (off + uv.cells.toList.length)).toArray) hm (by rw [hob]; rfl) hb rfl rfl rfl (by simp) (fun k hk => setRow_other _ _ _ _ hk) ⟨hnx,b,_,el,hb,setRow_heap _ _ _ _ _ _ hh,?_,hsb,qeo hcall hall,hel⟩ trivial,hrun,fun o' ho' => by simp at ho'; subst ho'; exact hmd⟩
     exact RelL.mono hst hs.sub _ _ (qeq off hr hvc)
    ·cases h
   ·cases h
  ·rename_i o ix es off
   split at h
   ·rename_i e xs hob
    have h' := qa5 h
    clear h
    obtain ⟨hix,h⟩ := h'
    split at h
    ·cases h
    ·rename_i hes
     have hes : es = e.size := vaa hes
     subst hes
     obtain ⟨hnx,b,hb,rfl⟩ := ha
     obtain ⟨cur,el,cap,cells,hhd,hh,hcs,hle,hcm,htk,hcl,hcln,hty⟩ := hs.row_full hob hb
     have hixs : ix * e.size + e.size <= xs.length * e.size := by rw [<- vap]; exact vab _ hix
     have hcur : xs.length * e.size <= cur.size := by rw [hcs]; exact vab _ hle
     -- the element's new cells
     have key : ∀ (x : e.den) (cx : List Value) (f : List Nat),Unfrozen objs f -> Cells c.w (fzCtx c f).SA e x cx -> o ∉ f -> off + uv.cells.toList.length <= e.size ->
       (cells.take (ix * e.size) ++ cx ++ cells.drop (ix * e.size + cx.length) = cells.take (ix * e.size + off) ++ uv.cells.toList ++ cells.drop (ix * e.size + off + uv.cells.toList.length)) ->
       ∃ c',Done c objs c' .undef Go.undef ((o,.row e (xs.set ix x) false) :: freezes objs f) c.nx /\ (Instr.storeAt t (.pointer (some ⟨b,ix * e.size + off,none⟩)) uv).run P c.w = .ok () c'.w := by
      intro x cx f hf hcx hof hoff hcells
      obtain ⟨hst1,hs1⟩ := qc0 hs hf
      have hun : uv.cells.size = uv.cells.toList.length := by simp
      have hrun := qd3 hT ho (off := ix * e.size + off) hh husz (by rw [hun]; omega) hone
      have hcl1 := CellsL.mono (fun x cs hh => Cells.mono (hst1.kept hs.sub false) e x cs hh) _ _ hcl
      have hset := hcl1.set (fun x cs h => Cells.len e x cs h) x cx hcx _ _ ix hix
      rw [hcells] at hset
      have hd := Done.rowSet hs1 (ys := xs.set ix x) (show look .dead (freezes objs f ++ objs) o = .row e xs false by rw [qnl hof,hob]) (show (fzCtx c f).blk o = some b from hb) (cur' := (cur.toList.take (ix * e.size + off) ++ uv.cells.toList ++ cur.toList.drop (ix * e.size + off + uv.cells.toList.length)).toArray)
       (show (fzCtx c f).w.heap[b]? = _ from hh) (by simp) hset (by simp; omega) (by
        have := qfk cur.toList uv.cells.toList (ix * e.size + off) (xs.length * e.size) (by omega) (by simpa using hcur)
        rw [htk] at this; simpa using this) (v := .undef) (u := Go.undef) trivial
      exact ⟨_,Done.after_freeze hs hf hd,hrun⟩
     split at h
     ·rename_i hfull
      have hfull : (vcells v).length = e.size := vaa hfull
      split at h
      ·rename_i hoff
       have hoff : off = 0 := vaa hoff
       subst hoff
       obtain ⟨x,rest,f,u1,u2,h,e1,hr1,hf1,hc1⟩ := qbw hs e _ _ hvc h
       split at h
       ·split at h
        ·rename_i hcc
         simp only [vae,vam] at hcc
         obtain ⟨⟨hm1,hm2⟩,hm3⟩ := hcc
         have hof : o ∉ f := fun hh => by rw [qaJ.2 hh] at hm3; cases hm3
         rw [show u2 = [] from hr1,vaI] at e1
         have hul : uv.cells.toList.length = e.size := by rw [hvc.len,hfull]
         obtain ⟨c',hd,hrun⟩ := key x u1 f hf1 (hc1 f fun _ h => h) hof (by omega) (by rw [<- e1]; simp)
         refine ⟨_,c',h,hd,hrun,fun o' ho' => ?_⟩
         rw [vaK,qa7] at ho'
         rcases vaJ.1 ho' with rfl | ho'
         ·exact qaJ.1 hm1
         ·exact qb8.1 hm2 o' ho'
        ·cases h
       ·cases h
      ·cases h
     ·rename_i hnf
      obtain ⟨usx,hcx0,hatx⟩ := qkV hs hob hix hb
      have helem : usx = (cells.drop (ix * e.size)).take e.size := by
       obtain ⟨cc,h1,h2⟩ := hcl.get (fun x cs h => Cells.len e x cs h) e.dflt _ _ ix hix
       apply vbn
       intro j
       have hl1 := Cells.len e _ _ hcx0
       by_cases hj : j < e.size
       ·have hj1 : j < usx.length := by omega
        have ha1 := hatx j usx[j] (vbd hj1)
        rw [vbd hj1]
        rw [cellAt,cell_of_row _ _ _ _ _ _ hh] at ha1
        rw [vau,if_pos hj,vaH,<- htk,vau,if_pos (by omega)]
        rw [<- ha1]; simp
       ·rw [vaB (by omega),vaB (by rw [vac]; omega)]
      have hrx := qbW (c := c) false e _ usx hcx0
      obtain ⟨x,rest,f,u1,u2,h,e1,hr1,hf1,hc1⟩ := qbw hs e _ _ (qeq off hrx hvc) h
      split at h
      ·split at h
       ·rename_i hcc
        simp only [vae,vam] at hcc
        obtain ⟨⟨⟨hm1,hm2⟩,hm3⟩,hm4⟩ := hcc
        have hof : o ∉ f := fun hh => by rw [qaJ.2 hh] at hm3; cases hm3
        rw [show u2 = [] from hr1,vaI] at e1
        have hcx := hc1 f fun _ h => h
        have hl := Cells.len e x u1 hcx
        have hoff : off + uv.cells.toList.length <= e.size := by rw [hvc.len]; exact vaq hm4
        obtain ⟨c',hd,hrun⟩ := key x u1 f hf1 hcx hof hoff (by
         rw [hl,<- e1,helem]
         exact qoY cells uv.cells.toList (ix * e.size) off e.size hoff)
        refine ⟨_,c',h,hd,hrun,fun o' ho' => ?_⟩
        rw [vaK,qa7] at ho'
        rcases vaJ.1 ho' with rfl | ho'
        ·exact qaJ.1 hm1
        ·exact qb8.1 hm2 o' ho'
       ·cases h
      ·cases h
   ·cases h
  ·cases h
theorem qiJ (hT : TabOK P tt) {t : Nat} {objs : Objs} {c : Ctx} (hs : SOK c objs) {a v : V} {ua uv : Value} (ha : Rel c a ua) (hv : Rel c v uv) {md : List Nat} {K : Objs -> Option R} {r : R} (h : storeHV tt objs t a v md K = some r) :
  ∃ ch c',K ch = some r /\ Done c objs c' .undef Go.undef ch c.nx /\ (Instr.storeAt t ua uv).run P c.w = .ok () c'.w /\ ∀ o ∈ ch.map (·.1),o ∈ md := by
 unfold storeHV at h
 dsimp only at h
 split at h
 ·cases h
 ·rename_i hc
  simp only [vae,vam] at hc
  obtain ⟨⟨hlen,hall⟩,ho⟩ := hc
  have hlen : (vcells v).length = (tt.row t).size := vaa hlen
  have hvc := qb9 hs hv hall
  have husz : uv.cells.size = (tt.row t).size := by rw [<- hlen,<- hvc.len]; simp
  have hone := qgS hs hvc hall
  split at h
  ·rename_i o ix es off
   split at h
   ·rename_i e xs hob
    split at h
    ·rename_i hcc
     simp only [vae] at hcc
     obtain ⟨⟨⟨h1,h2⟩,h3⟩,h4⟩ := hcc
     have hes : es = e.size := vaa h1
     have hve : (vcells v).length = e.size := vaa h2
     have hoff : off = 0 := vaa h3
     subst hes hoff
     obtain ⟨hix,hk⟩ := qa5 h
     obtain ⟨hnx,b,hb,rfl⟩ := ha
     obtain ⟨cur,el,cap,cells,hhd,hh,hcs,hle,hcm,htk,hcl,hcln,hty⟩ := hs.row_full hob hb
     have hm : (look .dead objs o).mut = true := by rw [hob]; rfl
     have hul : uv.cells.toList.length = e.size := by rw [hvc.len,hve]
     have hun : uv.cells.size = e.size := by rw [<- hul]; simp
     have hixs : ix * e.size + e.size <= xs.length * e.size := by rw [<- vap]; exact vab _ hix
     have hcur : xs.length * e.size <= cur.size := by rw [hcs]; exact vab _ hle
     have hrun := qd3 hT ho (off := ix * e.size + 0) hh husz (by rw [hun]; omega) hone
     have hst := qgQ hs (w := c.w.setRow b (cur.toList.take (ix * e.size + 0) ++ uv.cells.toList ++ cur.toList.drop (ix * e.size + 0 + uv.cells.toList.length)).toArray) (.hole e xs ix (vcells v)) hm hb rfl rfl rfl (by simp) fun k hk => setRow_other _ _ _ _ hk
     have hmono := fun (x : e.den) (cs : List Value) (hh : Cells c.w c.SA e x cs) => Cells.mono (hst.kept hs.sub false) e x cs hh
     have hpre := CellsL.mono hmono _ _ (CellsL.take (fun x cs h => Cells.len e x cs h) _ _ hcl ix)
     have hpost := CellsL.mono hmono _ _ (CellsL.drop (fun x cs h => Cells.len e x cs h) _ _ hcl (ix + 1))
     have hseg := qfk cur.toList uv.cells.toList (ix * e.size + 0) (xs.length * e.size) (by omega) (by simpa using hcur)
     rw [htk] at hseg
     have hsum : ix * e.size + 0 + uv.cells.toList.length = (ix + 1) * e.size := by rw [hul,vap,vaG]
     rw [hsum,vaG] at hseg
     refine ⟨_,_,hk,Done.upd hs (w := c.w.setRow b (cur.toList.take (ix * e.size + 0) ++ uv.cells.toList ++ cur.toList.drop (ix * e.size + 0 + uv.cells.toList.length)).toArray) hm (by rw [hob]; rfl) hb rfl rfl rfl (by simp) (fun k hk => setRow_other _ _ _ _ hk)
      ⟨hnx,el,_,b,_,_,_,⟨?_,.inr ⟨b,cap,_,hhd,vaC _,setRow_heap _ _ _ _ _ _ hh,hle,hcm,?_,?_⟩⟩,rfl,hpre,RelL.mono hst hs.sub _ _ hvc,hpost,hix,hve,hall,by rw [hhd,hb]; rfl,hb,hs.mutSB hm (.inl hb),hty⟩ trivial,hrun,fun o' ho' => by simp at ho'; subst ho'; exact qaJ.1 h4⟩
     ·simp only [vai,vac,vas,hul,hcln,vap]
      omega
     ·simp only [vaE,vai,vac,vas,vax,hul]
      omega
     ·rw [hsum,vaG]; exact hseg
    ·cases h
   ·cases h
  ·cases h
end Go.Vm

namespace Go.Vm
open Go
variable {P : Program} {tt : Tab}
theorem CellsL.ofGet {α : Type} {C : α -> List Value -> Prop} {es : Nat} : ∀ (xs : List α) (cs : List Value),cs.length = xs.length * es -> (∀ i x,xs[i]? = some x -> C x ((cs.drop (i * es)).take es)) -> CellsL C xs cs
 | [],cs,hl,_ => by
  have : cs.length = 0 := by simpa using hl
  exact vad this
 | x :: r,cs,hl,hg => by
  refine ⟨cs.take es,cs.drop es,(vaT es cs).symm,by simpa using hg 0 x rfl,CellsL.ofGet (es := es) r _ (by rw [vas,hl,vaz,vap]; omega) fun i y hy => ?_⟩
  have := hg (i + 1) y (by simpa using hy)
  rw [va0,show es + i * es = (i + 1) * es by rw [vap]; omega]
  exact this
theorem qfX {α : Type} {C : α -> List Value -> Prop} (d : α) (z : Array Value) (n : Nat) (hz : C d z.toList) : CellsL C (vav n d) (madeCells z (n * z.size)).toList := by
 refine CellsL.ofGet (es := z.size) _ _ (by simp [size_madeCells]) fun i x hx => ?_
 have hi : i < n := by
  have := (vbb.1 hx).1
  simpa using this
 have hx : x = d := by
  rw [List.getElem?_replicate,if_pos hi] at hx
  exact (Option.some.inj hx).symm
 subst hx
 have : ((madeCells z (n * z.size)).toList.drop (i * z.size)).take z.size = z.toList := by
  apply vbn
  intro j
  by_cases hj : j < z.size
  ·rw [vau,if_pos hj,vaH]
   have hb : i * z.size + j < n * z.size := by
    have : (i + 1) * z.size <= n * z.size := vab _ hi
    rw [vap] at this; omega
   have hm : (i * z.size + j) % z.size = j := by rw [Nat.mul_comm,Nat.mul_add_mod,Nat.mod_eq_of_lt hj]
   simp [madeCells,hb,hm,hj]
  ·rw [vaB (by rw [vac]; omega),vaB (by simpa using hj)]
 rw [this]; exact hz
theorem qgG (hT : TabOK P tt) {t nx : Nat} {objs : Objs} {c : Ctx} (hs : SOK c objs) (hn : c.nx = nx) {v : V} {u : Value} (hv : Rel c v u) {K : V -> Objs -> Nat -> Option R} {r : R} (h : makeSliceV tt nx t v K = some r) :
  ∃ q ch nx' z c',K q ch nx' = some r /\ Done c objs c' q z ch nx' /\ (Instr.makeSlice t u u).run P c.w = .ok z c'.w /\ ∀ o ∈ ch.map (·.1),¬ o < nx := by
 unfold makeSliceV at h
 split at h
 ·rename_i n
  simp only [Rel] at hv; subst hv
  split at h
  ·rename_i e hte hcc
   simp only [vae,vam] at hcc
   obtain ⟨hsl,ho⟩ := hcc
   obtain ⟨⟨h0,h1,h2⟩,h⟩ := qa5 h
   obtain ⟨et,hk,hu⟩ := hT.sl hsl
   have het : elemOf tt t = et := by simp [elemOf,hk]
   rw [het] at hte ho h2
   obtain ⟨i,z,hi,hz,hsz,hby,hzs,hpos,hzc,hty⟩ := hT.elemRow ho hte
   obtain ⟨m,rfl⟩ : ∃ m : Nat,n = m := ⟨n.toNat,by omega⟩
   have hb2 : (tt.row et).bytes * m <= 140737488355328 := by
    have h3 := h2
    rw [<- va9] at h3
    omega
   have hbb : i.bytes * m <= 281474976710656 := by rw [hby]; omega
   have hmm : m <= maxLen := by unfold maxLen; omega
   obtain ⟨w',hrun,hown,hg⟩ := run_make_full c.w 0 t et i z e.size hu hi hz hsz .i64 .i64 m hbb hmm (vaC _)
   have hcl : CellsL (Cells c.w c.SA e) (vav m e.dflt) (madeCells z.cells (m * e.size)).toList := by
    have := qfX (C := Cells c.w c.SA e) e.dflt z.cells m (by rw [hzc]; exact qcS _ _ e)
    rw [hzs] at this; exact this
   obtain ⟨c',hw,hd⟩ := Done.newRow hs hg.os hg.tape hg.output hg.size (fun b hb => hg.block b hb (by simp)) (xs := vav m e.dflt) (by simpa using hown) hcl (fun b hb => by simp [Value.ownBlock] at hb; omega) hty
   subst hn
   exact ⟨_,_,_,_,c',h,hd,by rw [hw]; exact hrun,fun o ho => by simp at ho; omega⟩
  ·cases h
 ·cases h
def ReadRow (c : Ctx) (S : Nat -> Prop) (e : Ty) (ys : List e.den) (u : Value) : Prop :=
 ∃ a n k cells,u = .slice a n k /\ n = ys.length /\ CellsL (Cells c.w S e) ys cells /\ (ys = [] \/ ∃ b off,a = some ⟨b,off,none⟩ /\ At c.w b off cells)
theorem qlh {c : Ctx} {objs : Objs} (hs : SOK c objs) {o : Nat} {e : Ty} {xs : List e.den} {fz : Bool} (ho : look .dead objs o = .row e xs fz) :
  ∃ a k cells,c.hdr o = .slice a xs.length k /\ xs.length <= k /\ CellsL (Cells c.w c.SA e) xs cells /\ (xs = [] \/ ∃ b,a = some ⟨b,0,none⟩ /\ At c.w b 0 cells) := by
 obtain ⟨et,cells,hown,hcl,hob,_,h5,_⟩ := hs.row_at ho
 rcases hown.2 with ⟨hv,hz⟩ | ⟨g,cap,cur,hv,_,_,hle,_⟩
 ·exact ⟨none,0,cells,by rw [hv,hz],by omega,hcl,.inl (vad hz)⟩
 ·exact ⟨_,cap,cells,hv,hle,hcl,.inr ⟨g,rfl,(h5 g (by rw [<- hob,hv]; rfl)).1⟩⟩
theorem qei {c : Ctx} {objs : Objs} (hs : SOK c objs) {e : Ty} {v : V} {u : Value} (hv : Rel c v u) {K : List e.den -> Bool -> Option R} {r : R} (h : asDat objs e v K = some r) :
  ∃ ys bor,K ys bor = some r /\ ReadRow c (sel c bor) e ys u := by
 unfold asDat at h
 split at h
 ·simp only [Rel] at hv; subst hv
  exact ⟨_,_,h,none,0,0,[],rfl,rfl,rfl,.inl rfl⟩
 ·split at h
  ·rename_i e' xs bor he
   subst he
   obtain ⟨a,n,k,rfl,hn,_,cells,hcl,hor⟩ := hv
   refine ⟨_,_,h,a,n,k,cells,rfl,hn,hcl,?_⟩
   rcases hor with hx | ⟨b,off,ha,_,_,hat⟩
   ·exact .inl hx
   ·exact .inr ⟨b,off,ha,hat⟩
  ·cases h
 ·rename_i o
  split at h
  ·rename_i e' xs fz hob
   split at h
   ·rename_i he
    subst he
    obtain ⟨_,rfl⟩ := hv
    obtain ⟨a,k,cells,hh,_,hcl,hor⟩ := qlh hs hob
    refine ⟨_,_,h,a,_,k,cells,hh,rfl,hcl,?_⟩
    rcases hor with hx | ⟨b,ha,hat⟩
    ·exact .inl hx
    ·exact .inr ⟨b,0,ha,hat⟩
   ·cases h
  ·cases h
 ·rename_i o es lo hi
  split at h
  ·rename_i e' xs fz hob
   split at h
   ·rename_i he
    subst he
    split at h
    ·rename_i hes
     obtain ⟨_,a,n,k,hh,hlo,hhi,rfl⟩ := hv
     obtain ⟨a',k',cells,hh',hle,hcl,hor⟩ := qlh hs hob
     rw [hh] at hh'; cases hh'
     have hes : es = e'.size := vaa hes
     refine ⟨_,_,h,_,_,_,(cells.take (hi * e'.size)).drop (lo * e'.size),rfl,by rw [vas,vac]; show _ = min hi xs.length - lo; omega,CellsL.drop (fun x cs h => Cells.len e' x cs h) _ _ (CellsL.take (fun x cs h => Cells.len e' x cs h) _ _ hcl hi) lo,?_⟩
     rcases hor with hx | ⟨b,ha,hat⟩
     ·left; show (xs.take hi).drop lo = []; rw [hx]; simp
     ·by_cases hkl : k = lo
      ·left
       apply vaA
       rw [vac]; show min hi xs.length <= lo; omega
      ·right
       rw [if_neg hkl,ha,hes]
       refine ⟨b,lo * e'.size,by simp [Addr.add_lit],fun j z hz => ?_⟩
       rw [vaH,vau] at hz
       split at hz
       ·have := hat _ _ hz; rwa [vak] at this
       ·cases hz
    ·cases h
   ·cases h
  ·cases h
 ·cases h
theorem qf2 {w : World} {S S' : Nat -> Prop} : ∀ (e : Ty),e.flat = true -> ∀ (x : e.den) (cs : List Value),Cells w S e x cs -> Cells w S' e x cs
 | .int _,_,_,_,h | .bool,_,_,_,h | .str,_,_,_,h | .unit,_,_,_,h => h
 | .sl _,hf,_,_,_ => by cases hf
 | .pair a b,hf,x,cs,h => by
  simp only [Ty.flat] at hf
  split at hf
  ·rename_i ha
   obtain ⟨c1,c2,e,h1,h2⟩ := h
   exact ⟨c1,c2,e,qf2 a ha _ _ h1,qf2 b hf _ _ h2⟩
  ·cases hf
theorem ReadRow.keep {c : Ctx} {e : Ty} {ys : List e.den} {u : Value} {bor : Bool} (h : ReadRow c (sel c bor) e ys u) (hm : mayKeep e bor = true) : ReadRow c c.SA e ys u := by
 cases bor with
 | false => exact h
 | true =>
  obtain ⟨a,n,k,cells,h1,h2,h3,h4⟩ := h
  exact ⟨a,n,k,cells,h1,h2,CellsL.mono (fun x cs hh => qf2 e hm x cs hh) _ _ h3,h4⟩
theorem ReadRow.src {c : Ctx} {S : Nat -> Prop} {e : Ty} {ys : List e.den} {u : Value} (h : ReadRow c S e ys u) {tx e' : TypeId} (hk : P.underlying tx = some (.slice e')) :
  ∃ cells,CellsL (Cells c.w S e) ys cells /\ Src P e.size tx u ys.length cells c.w := by
 obtain ⟨a,n,k,cells,rfl,hn,hcl,hor⟩ := h
 subst hn
 refine ⟨cells,hcl,?_⟩
 have hl := hcl.len (fun x cs h => Cells.len e x cs h)
 have h1 := hcl.one (fun x cs h => Cells.one e x cs h)
 cases a with
 | none =>
  rcases hor with hx | ⟨b,off,ha,_⟩
  ·subst hx
   rw [show cells = [] from hcl]
   exact Src.ofNil c.w hk k
  ·cases ha
 | some ad =>
  refine Src.ofSlice c.w hk ad ys.length k cells hl (fun j u hu => ?_) h1
  rcases hor with hx | ⟨b,off,ha,hat⟩
  ·subst hx; rw [show cells = [] from hcl] at hu; cases hu
  ·cases ha; rw [Addr.add_lit]; exact hat j u hu
end Go.Vm

namespace Go.Vm
open Go
variable {P : Program} {tt : Tab}
theorem Done.killNew {c : Ctx} {objs : Objs} (hs : SOK c objs) {o : Nat} {w : World} {hv : Value} {e : Ty} {zs : List e.den} {et : TypeId} {cells : List Value} (hmn : (look .dead objs o).mut = true /\ (look .dead objs o).isNest = false)
  (hos : w.os = c.w.os) (htape : w.tape = c.w.tape) (hout : w.output = c.w.output) (hsz : c.w.heap.size <= w.heap.size) (hheap : ∀ b,b < c.w.heap.size -> c.blk o ≠ some b -> w.heap[b]? = c.w.heap[b]?)
  (hown : w.ownsRow 0 et e.size hv zs.length cells) (hc : CellsL (Cells c.w c.SA e) zs cells) (hb : ∀ b,hv.ownBlock = some b -> c.w.heap.size <= b \/ c.blk o = some b) (hty : TyOK e et) :
  ∃ c',c'.w = w /\ Done c objs c' (.own c.nx) hv [(o,.dead),(c.nx,.row e zs false)] (c.nx + 1) := by
 obtain ⟨hm,hn⟩ := hmn
 have hge : (look .dead objs c.nx).isNest = false := by rw [hs.dead_ge (vag _)]; rfl
 have hlt := hs.lt hm
 have hne : ¬ o = c.nx := vaO hlt
 have hD : ∀ b,Dof c objs [(o,.dead),(c.nx,.row e zs false)] b ↔ c.blk o = some b := fun b => by
  constructor
  ·rintro ⟨o',ho',hm',hb'⟩
   simp at ho'
   rcases ho' with rfl | rfl
   ·exact hs.has_flat hn hb'
   ·exact absurd (hs.lt hm') (Nat.lt_irrefl _)
  ·exact fun h => ⟨o,by simp,hm,.inl h⟩
 have hst : Step c (addCtx c w hv hv.ownBlock) (Dof c objs [(o,.dead),(c.nx,.row e zs false)]) :=
  qek _ hos htape hout hsz (fun b hlt' hd => hheap b hlt' fun h => hd ((hD b).2 h)) (fun b h => (hb b h).imp id fun h => (hD b).2 h) fun b h => h.sb hs
 have hlook : look .dead [(o,AObj.dead),(c.nx,.row e zs false)] c.nx = .row e zs false := by rw [qau,if_neg hne,qau,if_pos rfl]
 have hlooko : look .dead [(o,AObj.dead),(c.nx,.row e zs false)] o = .dead := by rw [qau,if_pos rfl]
 have hone : hv.oneCell' = true := by rcases hown.2 with ⟨h,_⟩ | ⟨_,_,_,h,_⟩ <;> rw [h] <;> rfl
 have hfr : ∀ o' b,o' ∈ [(o,AObj.dead),(c.nx,.row e zs false)].map (·.1) -> (look .dead [(o,AObj.dead),(c.nx,.row e zs false)] o').mut = true -> (addCtx c w hv hv.ownBlock).has o' b -> c.w.heap.size <= b \/ Dof c objs [(o,.dead),(c.nx,.row e zs false)] b := by
  intro o' b ho' hm' hb'
  simp at ho'
  rcases ho' with rfl | rfl
  ·rw [hlooko] at hm'; cases hm'
  ·have hb' := hb'.resolve_right (hs.flat c.nx hge b)
   simp [addCtx] at hb'
   exact (hb b hb').imp id fun h => (hD b).2 h
 refine ⟨addCtx c w hv hv.ownBlock,rfl,hst,hs.step hst (fun o' ho' => ?_) hfr (fun o1 o2 b h1 h2 m1 m2 _ _ => ?_) (hs.flat_of fun o' ho' => (by simp at ho'; rcases ho' with rfl | rfl; exact hn; exact hge)) (fun b h => h.imp (hs.sub b) id) (fun b h => ?_) (fun o' ho' => ?_),⟨vat _,by simp [addCtx]⟩,rfl,?_,fun o' ho' => ?_⟩
 ·simp at ho'
  rcases ho' with rfl | rfl
  ·rw [hlooko]; exact trivial
  ·rw [hlook]
   refine ⟨vat _,et,cells,by simpa [addCtx] using hown,CellsL.mono (fun x cs hh => Cells.mono (hst.kept hs.sub false) e x cs hh) _ _ hc,by simp [addCtx],fun b h => ⟨fun _=>?_,fun h => (by cases h)⟩,hty⟩
   right; simpa [addCtx] using h
 ·simp at h1 h2
  rcases h1 with rfl | rfl
  ·rw [hlooko] at m1; cases m1
  ·rcases h2 with rfl | rfl
   ·rw [hlooko] at m2; cases m2
   ·rfl
 ·rcases h with h | h
  ·exact vaf (hs.bd b h) hsz
  ·exact (hown.lt b h).2
 ·show Value.oneCell' (if o' = c.nx then hv else c.hdr o') = true
  split
  ·exact hone
  ·exact hs.one o' (by change o' < c.nx + 1 at ho'; omega)
 ·intro o' b ho' hm' hb'
  refine hfr o' b ho' ?_ hb'
  simp at ho'
  rcases ho' with rfl | rfl
  ·simp [qau] at hm'; cases hm'
  ·rw [hlook]; rfl
 ·simp at ho'; omega
theorem Done.keepNew {c : Ctx} {objs : Objs} (hs : SOK c objs) {o : Nat} {w : World} {hv : Value} {e : Ty} {xs zs : List e.den} {et et' : TypeId} {cells cells' : List Value} (hm : look .dead objs o = .row e xs false)
  (hos : w.os = c.w.os) (htape : w.tape = c.w.tape) (hout : w.output = c.w.output) (hsz : c.w.heap.size <= w.heap.size) (hheap : ∀ b,b < c.w.heap.size -> c.blk o ≠ some b -> w.heap[b]? = c.w.heap[b]?)
  (hown : w.ownsRow 0 et e.size hv zs.length cells) (hc : CellsL (Cells c.w c.SA e) zs cells) (hb : ∀ b,hv.ownBlock = some b -> c.w.heap.size <= b \/ c.blk o = some b)
  (hown' : w.ownsRow 0 et' e.size (c.hdr o) xs.length cells') (hc' : CellsL (Cells c.w c.SA e) xs cells') (hty : TyOK e et) (hty' : TyOK e et') :
  ∃ c',c'.w = w /\ Done c objs c' (.own c.nx) hv [(o,.row e xs true),(c.nx,.row e zs true)] (c.nx + 1) := by
 have hmut : (look .dead objs o).mut = true := by rw [hm]; rfl
 have hlt := hs.lt hmut
 have hne : ¬ o = c.nx := vaO hlt
 obtain ⟨_,_,_,_,_,hobk,_⟩ : ObjOK c o (.row e xs false) := by rw [<- hm]; exact hs.obj o
 have hD : ∀ b,Dof c objs [(o,.row e xs true),(c.nx,.row e zs true)] b ↔ c.blk o = some b := fun b => by
  constructor
  ·rintro ⟨o',ho',hm',hb'⟩
   simp at ho'
   rcases ho' with rfl | rfl
   ·exact hs.has_flat (by rw [hm]; rfl) hb'
   ·exact absurd (hs.lt hm') (Nat.lt_irrefl _)
  ·exact fun h => ⟨o,by simp,hmut,.inl h⟩
 let c' : Ctx := { w := w,nx := c.nx + 1,hdr := fun q => if q = c.nx then hv else c.hdr q,blk := fun q => if q = c.nx then hv.ownBlock else c.blk q,sub := c.sub,SB := fun b => c.SB b /\ c.blk o ≠ some b,SA := fun b => c.SA b /\ c.blk o ≠ some b }
 have hst : Step c c' (Dof c objs [(o,.row e xs true),(c.nx,.row e zs true)]) :=
  ⟨hos,htape,hout,hsz,va7 _,fun q hq => if_neg (vaO hq),fun q hq => if_neg (vaO hq),fun _ _ _ _ => Iff.rfl,fun b hlt' hd => hheap b hlt' fun h => hd ((hD b).2 h),
   fun b _ hd => ⟨fun h => h.1,fun h => ⟨h,fun h2 => hd ((hD b).2 h2)⟩⟩,fun b _ hd => ⟨fun h => h.1,fun h => ⟨h,fun h2 => hd ((hD b).2 h2)⟩⟩,fun b h => h.sb hs⟩
 have hk := hst.kept hs.sub false
 have hlook : look .dead [(o,AObj.row e xs true),(c.nx,.row e zs true)] c.nx = .row e zs true := by rw [qau,if_neg hne,qau,if_pos rfl]
 have hlooko : look .dead [(o,AObj.row e xs true),(c.nx,.row e zs true)] o = .row e xs true := by rw [qau,if_pos rfl]
 have hone : hv.oneCell' = true := by rcases hown.2 with ⟨h,_⟩ | ⟨_,_,_,h,_⟩ <;> rw [h] <;> rfl
 have hno : ∀ q,q ∈ [(o,AObj.row e xs true),(c.nx,.row e zs true)].map (·.1) -> (look .dead [(o,AObj.row e xs true),(c.nx,.row e zs true)] q).mut = true -> False := fun q hq hm' => by
  simp at hq
  rcases hq with rfl | rfl
  ·rw [hlooko] at hm'; cases hm'
  ·rw [hlook] at hm'; cases hm'
 refine ⟨c',rfl,hst,hs.step hst (fun q hq => ?_) (fun q b hq hm' _ => (hno q hq hm').elim) (fun o1 _ _ h1 _ m1 _ _ _ => (hno o1 h1 m1).elim) (hs.flat_of fun q hq => (by simp at hq; rcases hq with rfl | rfl; rw [hm]; rfl; rw [hs.dead_ge (vag _)]; rfl)) (fun b h => ⟨hs.sub b h.1,h.2⟩) (fun b h => vaf (hs.bd b h.1) hsz) (fun q hq => ?_),⟨vat _,?_⟩,rfl,fun q b hq hm' _ => ?_,fun q hq => ?_⟩
 ·simp at hq
  rcases hq with rfl | rfl
  ·rw [hlooko]
   refine ⟨Nat.lt_succ_of_lt hlt,et',cells',?_,CellsL.mono (fun x cs hh => Cells.mono hk e x cs hh) _ _ hc',?_,fun b h => ⟨fun h => (by cases h),fun _ hA => ?_⟩,hty'⟩
   ·show w.ownsRow 0 et' e.size (if q = c.nx then hv else c.hdr q) xs.length cells'
    rw [if_neg hne]; exact hown'
   ·show (if q = c.nx then hv else c.hdr q).ownBlock = if q = c.nx then hv.ownBlock else c.blk q
    rw [if_neg hne,if_neg hne]; exact hobk
   ·replace h : (if q = c.nx then hv.ownBlock else c.blk q) = some b := h
    rw [if_neg hne] at h
    exact hA.2 h
  ·rw [hlook]
   refine ⟨vat _,et,cells,?_,CellsL.mono (fun x cs hh => Cells.mono hk e x cs hh) _ _ hc,?_,fun b h => ⟨fun h => (by cases h),fun _ hA => ?_⟩,hty⟩
   ·show w.ownsRow 0 et e.size (if c.nx = c.nx then hv else c.hdr c.nx) zs.length cells
    rw [if_pos rfl]; exact hown
   ·show (if c.nx = c.nx then hv else c.hdr c.nx).ownBlock = if c.nx = c.nx then hv.ownBlock else c.blk c.nx
    rw [if_pos rfl,if_pos rfl]
   ·replace h : (if c.nx = c.nx then hv.ownBlock else c.blk c.nx) = some b := h
    rw [if_pos rfl] at h
    rcases hb b h with h2 | h2
    ·have := hs.bd b hA.1; omega
    ·exact hA.2 h2
 ·show Value.oneCell' (if q = c.nx then hv else c.hdr q) = true
  split
  ·exact hone
  ·exact hs.one q (by change q < c.nx + 1 at hq; omega)
 ·show hv = if c.nx = c.nx then hv else c.hdr c.nx
  rw [if_pos rfl]
 ·refine (hno q hq ?_).elim
  rw [qaz,if_pos hq] at hm'
  exact hm'
 ·simp at hq; omega
theorem Done.appNew {c : Ctx} {objs : Objs} (fz : Bool) (hs : SOK c objs) {o : Nat} {w : World} {hv : Value} {e : Ty} {xs zs : List e.den} {et et' : TypeId} {cells cells' : List Value} (hm : look .dead objs o = .row e xs false)
  (hos : w.os = c.w.os) (htape : w.tape = c.w.tape) (hout : w.output = c.w.output) (hsz : c.w.heap.size <= w.heap.size) (hheap : ∀ b,b < c.w.heap.size -> c.blk o ≠ some b -> w.heap[b]? = c.w.heap[b]?)
  (hown : w.ownsRow 0 et e.size hv zs.length cells) (hc : CellsL (Cells c.w c.SA e) zs cells) (hb : ∀ b,hv.ownBlock = some b -> c.w.heap.size <= b \/ c.blk o = some b)
  (hown' : w.ownsRow 0 et' e.size (c.hdr o) xs.length cells') (hc' : CellsL (Cells c.w c.SA e) xs cells') (hty : TyOK e et) (hty' : TyOK e et') :
  ∃ c',c'.w = w /\ Done c objs c' (.own c.nx) hv [(o,oldRow fz e xs),(c.nx,.row e zs fz)] (c.nx + 1) := by
 cases fz with
 | false => exact Done.killNew hs (by rw [hm]; exact ⟨rfl,rfl⟩) hos htape hout hsz hheap hown hc hb hty
 | true => exact Done.keepNew hs hm hos htape hout hsz hheap hown hc hb hown' hc' hty hty'
theorem qda {t tx ty e : TypeId} {i : TypeInfo} (ht : P.underlying t = some (.slice e)) (hi : P.info? e = some i) (x : Value) (w : World) (hs : Src P i.size tx x 0 [] w) :
  (Builtin.append_ #[t,tx] ty #[.slice none 0 0,x]).run P w = .ok (.slice none 0 0) w := by
 rcases hs.kind with ⟨e',hk⟩ | hk <;> simp [Builtin.append_,run_underlying ht,run_underlying hk,sizeOf,typeInfo,hi,hs.len,hs.cells]
theorem qfj {t tx ty e : TypeId} {i : TypeInfo} (ht : P.underlying t = some (.slice e)) (hi : P.info? e = some i) (x : Value) (w : World) {g n k m : Nat} {cur : Array Value} {el : TypeId} {news : List Value}
  (hg : w.heap[g]? = some (.cells cur el (0,0))) (hs : Src P i.size tx x m news w) (hroom : n + m <= k) (hfit : n * i.size + news.length <= cur.size) :
  (Builtin.append_ #[t,tx] ty #[.slice (some ⟨g,0,none⟩) n k,x]).run P w =
   .ok (.slice (some ⟨g,0,none⟩) (n + m) k) (w.setRow g (cur.toList.take (n * i.size) ++ news ++ cur.toList.drop (n * i.size + news.length)).toArray) := by
 have hst := run_storeCells_at P g (n * i.size) el news 0 cur w hg (by simpa using hfit) hs.one
 simp only [vaG] at hst
 rcases hs.kind with ⟨e',hk⟩ | hk <;> simp [Builtin.append_,run_underlying ht,run_underlying hk,sizeOf,typeInfo,hi,hs.len,hroom,hs.cells,Addr.add_lit,hst]
theorem qeP {w : World} {e : Ty} {xs ys : List e.den} {et : TypeId} {z : Value} {olds news : List Value} {old n m : Nat} (hz : z.cells.size = e.size) (ho : olds.length = n * e.size) (hn : news.length = m * e.size) (hx : xs.length = n) (hy : ys.length = m)
  (hmax : n + m <= maxLen) :
  (w.drew.alloc (.cells ((olds ++ news).toArray ++ Builtin.zeroCells z.cells (grownCap w (n + m) old et - (n + m))) et)).ownsRow 0 et e.size
   (.slice (some ⟨w.heap.size,0,none⟩) (n + m) (grownCap w (n + m) old et)) (xs ++ ys).length (olds ++ news) := by
 have hge := grownCap_ge w (n + m) old et
 have hcm := grownCap_le_maxLen w (n + m) old et hmax
 have hl : (olds ++ news).length = (n + m) * e.size := by rw [vai,ho,hn,vay]
 have hxy : (xs ++ ys).length = n + m := by rw [vai,hx,hy]
 refine ⟨by rw [hl,hxy],.inr ⟨w.heap.size,_,_,by rw [hxy],vaC _,heap_alloc_new w.drew _,by rw [hxy]; exact hge,hcm,?_,?_⟩⟩
 ·rw [Array.size_append,size_zeroCells,hz,vaE,hl,<- vay]
  congr 1; omega
 ·rw [hxy,Array.toList_append,<- hl]
  exact vaP
theorem qlW (hT : TabOK P tt) {t2 : Nat} {objs : Objs} {c : Ctx} (hs : SOK c objs) {e : Ty} {x : V} {ux : Value} (hx : Rel c x ux) {K : List e.den -> Option R} {r : R} (h : srcV tt objs t2 e x K = some r) :
  ∃ ys news,K ys = some r /\ CellsL (Cells c.w c.SA e) ys news /\ Src P e.size t2 ux ys.length news c.w := by
 unfold srcV at h
 split at h
 ·rename_i a
  split at h
  ·rename_i he
   subst he
   split at h
   ·rename_i hk
    simp only [Rel] at hx; subst hx
    have hu : P.underlying t2 = some .string := by
     have hk' : (tt.row t2).k = .str := by
      revert hk
      cases (tt.row t2).k <;> simp [TK.isStr]
     obtain ⟨d',_,_,hd',_,_,hkd,_⟩ := (hT.row (t := t2) (by rw [hk']; rfl)).out
     rw [hk'] at hkd
     cases d' <;> simp [kindB] at hkd
     exact hd'
    refine ⟨_,byteCells a,h,?_,?_⟩
    ·have key : ∀ l : List UInt8,CellsL (Cells c.w c.SA (.int .u8)) (l.map fun b => (b.toNat : Int)) (l.map fun b => Value.int .u8 b.toNat) := fun l => by
      induction l with
      | nil => rfl
      | cons b l ih => exact ⟨[_],_,rfl,rfl,ih⟩
     exact key a.data.toList
    ·have := Src.ofString (P := P) c.w hu a
     have hl : (castL rfl (a.data.toList.map fun b => (b.toNat : Int)) : List (Ty.int .u8).den).length = a.size := by
      rw [qhU,vaW,vax]; rfl
     rw [hl]
     exact this
   ·cases h
  ·cases h
 ·split at h
  ·rename_i hsl2
   obtain ⟨et2,hk2,hu2⟩ := hT.sl hsl2
   obtain ⟨ys,bor,h,hrd⟩ := qei hs hx h
   split at h
   ·rename_i hkeep
    obtain ⟨news,hcl2,hsrc⟩ := (hrd.keep hkeep).src (tx := t2) hu2
    exact ⟨ys,news,h,hcl2,hsrc⟩
   ·cases h
  ·cases h
theorem qjq {fz : Bool} (hT : TabOK P tt) {t t2 nx : Nat} {objs : Objs} {c : Ctx} (hs : SOK c objs) (hn : c.nx = nx) {d x : V} {ud ux : Value} (hd : Rel c d ud) (hx : Rel c x ux) {md : List Nat} (ty : TypeId) {K : V → Objs → Nat → Option R} {r : R}
    (h : appendV fz tt objs nx t t2 d x md K = some r) :
    ∃ q ch nx' z c',K q ch nx' = some r ∧ Done c objs c' q z ch nx' ∧ (Builtin.append_ #[t,t2] ty #[ud,ux]).run P c.w = .ok z c'.w ∧ (∀ o ∈ ch.map (·.1),o < nx → o ∈ md) ∧ ∀ o,d = .own o → NN ud → NN z := by
  unfold appendV at h
  split at h
  rotate_left
  · cases h
  rename_i e hte hcc
  simp only [vae,vam] at hcc
  obtain ⟨hsl,ho⟩ := hcc
  obtain ⟨et,hk,hu⟩ := hT.sl hsl
  have het : elemOf tt t = et := by simp [elemOf,hk]
  rw [het] at hte ho h
  obtain ⟨i,z,hi,hz,hsz,hby,hzs,hpos,hzc,hty⟩ := hT.elemRow ho hte
  have hA := qlW hT hs hx h
  clear h
  obtain ⟨ys,news,h,hcl2,hsrc⟩ := hA
  rw [← hsz] at hsrc
  have hnl := hcl2.len (fun x cs h => Cells.len e x cs h)
  subst hn
  split at h
  · -- onto nothing
    simp only [Rel] at hd; subst hd
    have hA := qa5 h
    clear h
    obtain ⟨⟨hq1,hq2⟩,h⟩ := hA
    by_cases hy : ys = []
    · subst hy
      rw [show news = [] from hcl2] at hsrc
      obtain ⟨c',hw,hdone⟩ := Done.newRow hs (w := c.w) (hv := .slice none 0 0) (et := et) (xs := ([] : List e.den)) (cells := []) rfl rfl rfl (vag _) (fun _ _ => rfl) ⟨by simp,.inl ⟨rfl,rfl⟩⟩ rfl (fun b hb => by simp [Value.ownBlock] at hb) hty
      exact ⟨_,_,_,_,c',h,hdone,by rw [hw]; exact qda hu hi ux c.w hsrc,fun o ho hlt => (by simp at ho; omega),fun _ e => by cases e⟩
    · have hpos' : 0 < ys.length := vbj.2 hy
      have hrun := run_append_grow_src c.w t t2 ty et i z hu hi hz none 0 0 [] (run_firstCells_none c.w.drew i.size 0 0 0) ux ys.length news hsrc (by omega) (by omega) (growslice_fits (by omega) (by rw [hby]; simpa using hq2))
      simp only [vak,vaL] at hrun
      obtain ⟨c',hw,hdone⟩ := Done.newRow hs (xs := ys) (cells := news) (et := et) (w := c.w.drew.alloc (.cells (news.toArray ++ Builtin.zeroCells z.cells (grownCap c.w ys.length 0 et - ys.length)) et)) (hv := .slice (some ⟨c.w.heap.size,0,none⟩) ys.length (grownCap c.w ys.length 0 et)) rfl rfl rfl (by simp) (fun b hb => Go.RowKit.Below.heap_alloc _ _ _ hb)
        (by have := qeP (w := c.w) (e := e) (xs := []) (ys := ys) (et := et) (z := z) (olds := []) (news := news) (old := 0) (n := 0) (m := ys.length) hzs (by simp) hnl rfl rfl (by unfold maxLen; omega)
            simpa using this) hcl2 (fun b hb => by simp [Value.ownBlock] at hb; omega) hty
      exact ⟨_,_,_,_,c',h,hdone,by rw [hw]; exact hrun,fun o ho hlt => (by simp at ho; omega),fun _ e => by cases e⟩
  · rename_i o
    split at h
    · rename_i e' xs hob
      split at h
      · rename_i he
        subst he
        split at h
        · rename_i hmd
          have hA := qa5 h
          clear h
          obtain ⟨⟨hq1,hq2⟩,h⟩ := hA
          obtain ⟨hnx,rfl⟩ := hd
          have hm : (look .dead objs o).mut = true := by rw [hob]; rfl
          have hids : ∀ o' ∈ [(o,oldRow fz e' (castL rfl xs)),(c.nx,AObj.row e' (castL rfl xs ++ ys) fz)].map (·.1),o' < c.nx → o' ∈ md := fun o' ho' hlt => by
            simp at ho'
            rcases ho' with rfl | rfl
            · exact qaJ.1 hmd
            · omega
          obtain ⟨et',cells,hown,hcl,hobk,_,h5,_,hty'⟩ := hs.row_at hob
          have hbytes : (xs.length + ys.length) * i.bytes ≤ 140737488355328 := by rw [hby]; exact hq2
          rcases hown.2 with ⟨hv,hz0⟩ | ⟨g,cap,cur,hv,_,hg,hle,hcm,hcs,htk⟩
          · have hx0 : xs = [] := vad hz0
            subst hx0
            by_cases hy : ys = []
            · subst hy
              rw [show news = [] from hcl2] at hsrc
              obtain ⟨c',hw,hdone⟩ := Done.appNew fz hs (o := o) (xs := (castL rfl [] : List e'.den)) (w := c.w) (hv := .slice none 0 0) (et := et) (zs := (castL rfl [] ++ [] : List e'.den)) (cells := []) hob rfl rfl rfl (vag _) (fun _ _ _ => rfl) ⟨by simp [castL],.inl ⟨rfl,rfl⟩⟩ (show CellsL (Cells c.w c.SA e') ([] : List e'.den) [] from rfl) (fun b hb => by simp [Value.ownBlock] at hb) (et' := et') (cells' := []) (by rw [hv]; exact ⟨by simp [castL],.inl ⟨rfl,rfl⟩⟩) (show CellsL (Cells c.w c.SA e') ([] : List e'.den) [] from rfl) hty hty'
              exact ⟨_,_,_,_,c',h,hdone,by rw [hw,hv]; exact qda hu hi ux c.w hsrc,hids,fun _ _ ⟨_,_,_,e⟩ => by rw [hv] at e; cases e⟩
            · have hpos' : 0 < ys.length := vbj.2 hy
              have hrun := run_append_grow_src c.w t t2 ty et i z hu hi hz none 0 0 [] (run_firstCells_none c.w.drew i.size 0 0 0) ux ys.length news hsrc (by omega) (by omega) (growslice_fits (by omega) (by simpa using hbytes))
              simp only [vak,vaL] at hrun
              obtain ⟨c',hw,hdone⟩ := Done.appNew fz hs (o := o) (xs := (castL rfl [] : List e'.den)) (zs := (castL rfl [] ++ ys : List e'.den)) (cells := news) (et := et) (w := c.w.drew.alloc (.cells (news.toArray ++ Builtin.zeroCells z.cells (grownCap c.w ys.length 0 et - ys.length)) et)) (hv := .slice (some ⟨c.w.heap.size,0,none⟩) ys.length (grownCap c.w ys.length 0 et)) hob rfl rfl rfl (by simp) (fun b hb _ => Go.RowKit.Below.heap_alloc _ _ _ hb)
                (by have := qeP (w := c.w) (e := e') (xs := []) (ys := ys) (et := et) (z := z) (olds := []) (news := news) (old := 0) (n := 0) (m := ys.length) hzs (by simp) hnl rfl rfl (by unfold maxLen; omega)
                    simpa [castL] using this) (by simpa [castL] using hcl2) (fun b hb => by simp [Value.ownBlock] at hb; omega) (et' := et') (cells' := []) (by rw [hv]; exact ⟨by simp [castL],.inl ⟨rfl,rfl⟩⟩) (show CellsL (Cells c.w c.SA e') ([] : List e'.den) [] from rfl) hty hty'
              exact ⟨_,_,_,_,c',h,hdone,by rw [hw,hv]; exact hrun,hids,fun _ _ _ => ⟨_,_,_,rfl⟩⟩
          · have hbk : c.blk o = some g := by rw [← hobk,hv]; rfl
            have hclen := hcl.len (fun x cs h => Cells.len e' x cs h)
            have hall := hcl.append _ _ _ _ hcl2
            by_cases hroom : xs.length + ys.length ≤ cap
            · have hfit : xs.length * i.size + news.length ≤ cur.size := by rw [hnl,hsz,hcs,← vay]; exact vab _ hroom
              have hrun := qfj (ty := ty) hu hi ux c.w hg hsrc hroom hfit
              have hown' : (c.w.setRow g (cur.toList.take (xs.length * i.size) ++ news ++ cur.toList.drop (xs.length * i.size + news.length)).toArray).ownsRow 0 et' e'.size (.slice (some ⟨g,0,none⟩) (xs.length + ys.length) cap) (castL rfl xs ++ ys).length (cells ++ news) := by
                refine ⟨by simp [castL,hclen,hnl,vay],.inr ⟨g,cap,_,by simp [castL],vaC _,setRow_heap _ _ _ _ _ _ hg,by simpa [castL] using hroom,hcm,?_,?_⟩⟩
                · simp; omega
                · have hcl3 : (xs.length + ys.length) * e'.size = (cells ++ news).length := by rw [vai,hclen,hnl,vay]
                  show List.take ((castL rfl xs ++ ys).length * e'.size) _ = _
                  rw [vai,qhU,hcl3,hsz,htk]
                  exact vaP
              have hold : (c.w.setRow g (cur.toList.take (xs.length * i.size) ++ news ++ cur.toList.drop (xs.length * i.size + news.length)).toArray).ownsRow 0 et' e'.size (c.hdr o) (castL rfl xs : List e'.den).length cells := by
                rw [hv]
                refine ⟨hown.1,.inr ⟨g,cap,_,rfl,vaC _,setRow_heap _ _ _ _ _ _ hg,hle,hcm,?_,?_⟩⟩
                · simp; omega
                · show List.take (xs.length * e'.size) _ = _
                  rw [hsz,htk,vao,← hclen]
                  exact vaP
              obtain ⟨c',hw,hdone⟩ := Done.appNew fz hs (o := o) (xs := castL rfl xs) (w := c.w.setRow g (cur.toList.take (xs.length * i.size) ++ news ++ cur.toList.drop (xs.length * i.size + news.length)).toArray) (hv := .slice (some ⟨g,0,none⟩) (xs.length + ys.length) cap) (zs := castL rfl xs ++ ys) hob rfl rfl rfl (by simp) (fun b _ hb => setRow_other _ _ _ _ fun hh => hb (by rw [hh]; exact hbk)) hown' hall (fun b hb => by simp [Value.ownBlock] at hb; subst hb; exact .inr hbk) (et' := et') (cells' := cells) hold hcl hty' hty'
              exact ⟨_,_,_,_,c',h,hdone,by rw [hw,hv]; exact hrun,hids,fun _ _ _ => ⟨_,_,_,rfl⟩⟩
            · have hold : (Builtin.firstCells i.size xs.length (.slice (some ⟨g,0,none⟩) xs.length cap)).run P c.w.drew = .ok cells.toArray c.w.drew :=
                run_firstCells_some c.w.drew i.size xs.length ⟨g,0,none⟩ xs.length cap cells (by rw [hclen,hsz]) fun j u hu => by
                  have := (h5 g hbk).1 j u hu
                  rw [Addr.add_lit,vak]
                  rw [vak] at this; exact this
              have hrun := run_append_grow_src c.w t t2 ty et i z hu hi hz (some ⟨g,0,none⟩) xs.length cap cells hold ux ys.length news hsrc (by omega) (by omega) (growslice_fits (by omega) hbytes)
              have hold : (c.w.drew.alloc (.cells ((cells ++ news).toArray ++ Builtin.zeroCells z.cells (grownCap c.w (xs.length + ys.length) cap et - (xs.length + ys.length))) et)).ownsRow 0 et' e'.size (c.hdr o) (castL rfl xs : List e'.den).length cells := by
                rw [hv]
                exact ⟨hown.1,.inr ⟨g,cap,cur,rfl,vaC _,(Go.RowKit.Below.heap_alloc _ _ _ (vaF.1 hg).1).trans hg,hle,hcm,hcs,htk⟩⟩
              obtain ⟨c',hw,hdone⟩ := Done.appNew fz hs (o := o) (xs := castL rfl xs) (zs := castL rfl xs ++ ys) (cells := cells ++ news) (et := et) (w := c.w.drew.alloc (.cells ((cells ++ news).toArray ++ Builtin.zeroCells z.cells (grownCap c.w (xs.length + ys.length) cap et - (xs.length + ys.length))) et)) hob rfl rfl rfl (by simp) (fun b hb _ => Go.RowKit.Below.heap_alloc _ _ _ hb)
                (qeP hzs hclen hnl rfl rfl (by unfold maxLen; omega)) hall (fun b hb => by simp [Value.ownBlock] at hb; omega) (et' := et') (cells' := cells) hold hcl hty hty'
              exact ⟨_,_,_,_,c',h,hdone,by rw [hw,hv]; exact hrun,hids,fun _ _ _ => ⟨_,_,_,rfl⟩⟩
        · cases h
      · cases h
    · cases h
  · rename_i o es lo hi'
    split at h
    · rename_i e' xs hob
      split at h
      · rename_i he
        subst he
        split at h
        · rename_i hcc
          simp only [vae,vam] at hcc
          obtain ⟨⟨⟨hfz,hmd⟩,hlo⟩,hes⟩ := hcc
          subst hfz
          have hlo : lo = 0 := vaa hlo
          have hes : es = e'.size := vaa hes
          have hA := qa5 h
          clear h
          obtain ⟨hq,h⟩ := hA
          obtain ⟨hnx,a,n,k,hh,_,hhi,rfl⟩ := hd
          have hm : (look .dead objs o).mut = true := by rw [hob]; rfl
          have hids : ∀ o' ∈ [(o,AObj.dead),(c.nx,AObj.row e' ((castL rfl xs).take hi' ++ ys) false)].map (·.1),o' < c.nx → o' ∈ md := fun o' ho' hlt => by
            simp at ho'
            rcases ho' with rfl | rfl
            · exact qaJ.1 hmd
            · omega
          obtain ⟨et',cells,hown,hcl,hobk,_,h5,_,hty'⟩ := hs.row_at hob
          rcases hown.2 with ⟨hv,hz0⟩ | ⟨g,cap,cur,hv,_,hg,hle,hcm,hcs,htk⟩
          · have hx0 : xs = [] := vad hz0
            subst hx0
            rw [hh] at hv; cases hv
            have hhi0 : hi' = 0 := by omega
            subst hlo hhi0
            have hy : ys = [] := by simpa using hq
            subst hy
            rw [show news = [] from hcl2] at hsrc
            obtain ⟨c',hw,hdone⟩ := Done.killNew hs (o := o) (w := c.w) (hv := .slice none 0 0) (et := et) (zs := ((castL rfl []).take 0 ++ [] : List e'.den)) (cells := []) ⟨hm,by rw [hob]; rfl⟩ rfl rfl rfl (vag _) (fun _ _ _ => rfl) ⟨by simp,.inl ⟨rfl,rfl⟩⟩ (show CellsL (Cells c.w c.SA e') ([] : List e'.den) [] from rfl) (fun b hb => by simp [Value.ownBlock] at hb) hty
            exact ⟨_,_,_,_,c',h,hdone,by rw [hw]; simpa using qda (ty := ty) hu hi ux c.w hsrc,hids,fun _ e => by cases e⟩
          · rw [hh] at hv; cases hv
            subst hlo
            have hbk : c.blk o = some g := by rw [← hobk,hh]; rfl
            have hclen := hcl.len (fun x cs h => Cells.len e' x cs h)
            have hroom : hi' + ys.length ≤ k := by omega
            have hsl' : (Value.slice (if k = 0 then some (⟨g,0,none⟩ : Addr) else (some (⟨g,0,none⟩ : Addr)).map (·.add (0 * es))) (hi' - 0) (k - 0)) = .slice (some ⟨g,0,none⟩) hi' k := by
              simp [Addr.add]
            have hfit : hi' * i.size + news.length ≤ cur.size := by rw [hnl,hsz,hcs,← vay]; exact vab _ hroom
            have hrun := qfj (ty := ty) hu hi ux c.w hg hsrc hroom hfit
            have htake := CellsL.take (fun x cs h => Cells.len e' x cs h) _ _ hcl hi'
            have hall := htake.append _ _ _ _ hcl2
            have htl : (cells.take (hi' * e'.size)).length = hi' * e'.size := by
              rw [vac,hclen]
              exact vaj (vab _ hhi)
            have hln : ((castL rfl xs).take hi' ++ ys).length = hi' + ys.length := by rw [vai,vac,qhU,vaj hhi]
            have hown' : (c.w.setRow g (cur.toList.take (hi' * i.size) ++ news ++ cur.toList.drop (hi' * i.size + news.length)).toArray).ownsRow 0 et' e'.size (.slice (some ⟨g,0,none⟩) (hi' + ys.length) k) ((castL rfl xs).take hi' ++ ys).length (cells.take (hi' * e'.size) ++ news) := by
              refine ⟨by rw [hln,vai,htl,hnl,vay],.inr ⟨g,k,_,by rw [hln],vaC _,setRow_heap _ _ _ _ _ _ hg,by rw [hln]; exact hroom,hcm,?_,?_⟩⟩
              · simp; omega
              · have hcl3 : (hi' + ys.length) * e'.size = (cells.take (hi' * e'.size) ++ news).length := by rw [vai,htl,hnl,vay]
                rw [hln,hcl3,hsz]
                have : cur.toList.take (hi' * e'.size) = cells.take (hi' * e'.size) := by
                  rw [← htk,vba,vaj (vab _ hhi)]
                rw [this]
                exact vaP
            obtain ⟨c',hw,hdone⟩ := Done.killNew hs (o := o) (w := c.w.setRow g (cur.toList.take (hi' * i.size) ++ news ++ cur.toList.drop (hi' * i.size + news.length)).toArray) (hv := .slice (some ⟨g,0,none⟩) (hi' + ys.length) k) (zs := (castL rfl xs).take hi' ++ ys) ⟨hm,by rw [hob]; rfl⟩ rfl rfl rfl (by simp) (fun b _ hb => setRow_other _ _ _ _ fun hh => hb (by rw [hh]; exact hbk)) hown' hall (fun b hb => by simp [Value.ownBlock] at hb; subst hb; exact .inr hbk) hty'
            exact ⟨_,_,_,_,c',h,hdone,by rw [hw,hsl']; exact hrun,hids,fun _ e => by cases e⟩
        · cases h
      · cases h
    · cases h
  · cases h
theorem qgE {t t2 ty e : TypeId} {i : TypeInfo} {z : Value} (w : World) (ht : P.underlying t = some (.slice e)) (ht2 : P.underlying t2 = some (.int .i64)) (hi : P.info? e = some i) (hz : i.zero = some z) (m : Nat) (hpos : 0 < m * i.size) (h1 : m <= 281474976710656) (h2 : m * i.bytes <= 140737488355328) :
  (Builtin.append_ #[t,t2] ty #[.slice none 0 0,.int .i64 m]).run P w = .ok (.slice (some ⟨w.heap.size,0,none⟩) m (grownCap w m 0 e)) (w.drew.alloc (.cells (([] ++ (Builtin.zeroCells z.cells m).toList).toArray ++ Builtin.zeroCells z.cells (grownCap w m 0 e - m)) e)) := by
 have hw : IntKind.i64.wrap (m : Int) = m := by rw [IntKind.wrap_i64]; omega
 have hm : 0 < m := Nat.pos_of_ne_zero fun h => by subst h; simp at hpos
 have c1 : ¬ ((m : Int) < 0) := by omega
 have c2 : ¬ (281474976710656 < (m : Int) * (i.bytes : Int)) := by
  rw [<- va9]; omega
 have c3 : ¬ m <= 0 := by omega
 have hfit : Builtin.nextslicecap m 0 * i.bytes <= 281474976710656 := by
  have : Builtin.nextslicecap m 0 = m := by unfold Builtin.nextslicecap; rw [if_pos (by omega)]
  rw [this]; omega
 have c4 : ¬ (281474976710656 < Builtin.nextslicecap m 0 * i.bytes) := by omega
 have c5 : ¬ (9223372036854775807 < (m : Int)) := by omega
 have c6 : ¬ (m * i.size = 0) := by omega
 have c7 : ¬ (m = 0 \/ i.size = 0) := fun h => by rcases h with h | h <;> rw [h] at c6 <;> simp at c6
 simp [Builtin.append_,run_underlying ht,run_underlying ht2,sizeOf,typeInfo,zeroValue,hi,hz,asInt,asIntOf,hw,c1,c2,c3,c4,c5,c6,c7,show ¬ m = 0 by omega,Question.forced,run_firstCells_none,newRow,grownCap]
theorem qjs (hT : TabOK P tt) {t t2 nx : Nat} {objs : Objs} {c : Ctx} (hs : SOK c objs) (hn : c.nx = nx) {d : V} {n : Int} {ud : Value} (hd : Rel c d ud) (ty : TypeId) {K : V → Objs → Nat → Option R} {r : R} (h : zerosV tt t t2 nx d n K = some r) :
    ∃ q ch nx' z c',K q ch nx' = some r ∧ Done c objs c' q z ch nx' ∧ (Builtin.append_ #[t,t2] ty #[ud,.int .i64 n]).run P c.w = .ok z c'.w ∧ ∀ o ∈ ch.map (·.1),¬ o < nx := by
  unfold zerosV at h
  split at h
  · rename_i e hte hcc
    simp only [vae,vam] at hcc
    obtain ⟨⟨hsl,ht2⟩,ho⟩ := hcc
    obtain ⟨⟨h0,h1,h2⟩,h⟩ := qa5 h
    obtain ⟨et,hk,hu⟩ := hT.sl hsl
    have het : elemOf tt t = et := by simp [elemOf,hk]
    rw [het] at hte ho h2
    obtain ⟨i,z,hi,hz,hsz,hby,hzs,hpos,hzc,hty⟩ := hT.elemRow ho hte
    obtain ⟨m,rfl⟩ : ∃ m : Nat,n = m := ⟨n.toNat,by omega⟩
    simp only [Rel] at hd; subst hd
    have hu2 : P.underlying t2 = some (.int .i64) := by
      have hk' : (tt.row t2).k = .int .i64 := by
        revert ht2
        cases (tt.row t2).k <;> simp only [TK.isI64] <;> intro h <;> first | cases h; done | skip
        rename_i k
        cases k <;> simp at h ⊢
      obtain ⟨d',_,_,hd',_,_,hkd,_⟩ := (hT.row (t := t2) (by rw [hk']; rfl)).out
      rw [hk'] at hkd
      cases d' <;> simp [kindB] at hkd
      rw [← hkd] at hd'; exact hd'
    have hb2 : (tt.row et).bytes * m ≤ 140737488355328 := by
      have h3 := h2
      rw [← va9] at h3
      omega
    have hpz : 0 < m * i.size := Nat.mul_pos (by omega) (by rw [hsz]; exact hpos)
    have hrun := qgE (ty := ty) c.w hu hu2 hi hz m hpz (by omega) (by rw [hby,Nat.mul_comm]; exact hb2)
    have hzl : (Builtin.zeroCells z.cells m).toList.length = m * e.size := by
      rw [vax,size_zeroCells,hzs]
    have hcl : CellsL (Cells c.w c.SA e) (vav m e.dflt) (Builtin.zeroCells z.cells m).toList := by
      have := qfX (C := Cells c.w c.SA e) e.dflt z.cells m (by rw [hzc]; exact qcS _ _ e)
      exact this
    obtain ⟨c',hw,hdn⟩ := Done.newRow hs (w := c.w.drew.alloc (.cells (([] ++ (Builtin.zeroCells z.cells m).toList).toArray ++ Builtin.zeroCells z.cells (grownCap c.w m 0 et - m)) et)) (hv := .slice (some ⟨c.w.heap.size,0,none⟩) m (grownCap c.w m 0 et)) (xs := vav m e.dflt) (cells := (Builtin.zeroCells z.cells m).toList) (et := et) rfl rfl rfl (by simp) (fun b hb => Go.RowKit.Below.heap_alloc _ _ _ hb)
      (by have := qeP (w := c.w) (e := e) (xs := []) (ys := vav m e.dflt) (et := et) (z := z) (olds := []) (news := (Builtin.zeroCells z.cells m).toList) (old := 0) (n := 0) (m := m) hzs (by simp) hzl rfl (by simp) (by unfold maxLen; omega)
          simpa using this) hcl (fun b hb => by simp [Value.ownBlock] at hb; omega) hty
    subst hn
    exact ⟨_,_,_,_,c',h,hdn,by rw [hw]; exact hrun,fun o ho => by simp at ho; omega⟩
  · cases h
end Go.Vm

namespace Go.Vm
open Go
variable {P : Program} {tt : Tab}
theorem Done.noop {c : Ctx} {objs : Objs} (hs : SOK c objs) {o : Nat} {x : AObj} (hx : look .dead objs o = x) (hm : x.mut = true) {v : V} {u : Value} (hr : Rel c v u) : Done c objs c v u [(o,x)] c.nx := by
 have hm' : (look .dead objs o).mut = true := by rw [hx]; exact hm
 have hst : Step c c (Dof c objs [(o,x)]) := ⟨rfl,rfl,rfl,vag _,vag _,fun _ _ => rfl,fun _ _ => rfl,fun _ _ _ _ => Iff.rfl,fun _ _ _ => rfl,fun _ _ _ => Iff.rfl,fun _ _ _ => Iff.rfl,fun b h => h.sb hs⟩
 have hfr : ∀ o' b',o' ∈ [(o,x)].map (·.1) -> c.has o' b' -> c.w.heap.size <= b' \/ Dof c objs [(o,x)] b' := fun o' b' ho h => by
  simp at ho; subst ho
  exact .inr ⟨o',by simp,hm',h⟩
 refine ⟨hst,hs.step hst (fun o' ho' => ?_) (fun o' b' ho _ h => hfr o' b' ho h) (fun o1 o2 _ h1 h2 _ _ _ _ => ?_) (fun o' h => hs.flat o' (by rw [qaz] at h; split at h; rename_i ho; simp at ho; subst ho; rw [qau,if_pos rfl,<- hx] at h; exact h; exact h)) hs.sub hs.bd hs.one,hr,rfl,fun o' b' ho _ h => hfr o' b' ho h,fun o' ho' => ?_⟩
 ·simp at ho'; subst ho'
  rw [qau,if_pos rfl,<- hx]; exact hs.obj o'
 ·simp at h1 h2; omega
 ·simp at ho'; subst ho'; exact hs.lt hm'
theorem ReadRow.first {c : Ctx} {S : Nat -> Prop} {e : Ty} {ys : List e.den} {u : Value} (h : ReadRow c S e ys u) :
  ∃ cells,CellsL (Cells c.w S e) ys cells /\ (Builtin.lenOf u).run P c.w = .ok ys.length c.w /\ ∀ m,m <= ys.length -> (Builtin.firstCells e.size m u).run P c.w = .ok (cells.take (m * e.size)).toArray c.w := by
 obtain ⟨a,n,k,cells,rfl,hn,hcl,hor⟩ := h
 subst hn
 have hl := hcl.len (fun x cs h => Cells.len e x cs h)
 refine ⟨cells,hcl,rfl,fun m hm => ?_⟩
 cases a with
 | none =>
  rcases hor with hx | ⟨b,off,ha,_⟩
  ·subst hx
   rw [show cells = [] from hcl,List.take_nil]
   exact run_firstCells_none c.w e.size m 0 k
  ·cases ha
 | some ad =>
  refine run_firstCells_some c.w e.size m ad ys.length k _ (by rw [vac,hl]; exact vaj (vab _ hm)) fun j u hu => ?_
  rw [vau] at hu
  split at hu
  ·rcases hor with hx | ⟨b,off,ha,hat⟩
   ·subst hx; rw [show cells = [] from hcl] at hu; cases hu
   ·cases ha; rw [Addr.add_lit]; exact hat j u hu
  ·cases hu
theorem CellsL.over {e : Ty} {w : World} {S : Nat -> Prop} {xs ys : List e.den} {cx cy : List Value} (hx : CellsL (Cells w S e) xs cx) (hy : CellsL (Cells w S e) ys cy) (lo m : Nat) :
  CellsL (Cells w S e) (xs.take lo ++ ys.take m ++ xs.drop (lo + m)) (cx.take (lo * e.size) ++ cy.take (m * e.size) ++ cx.drop (lo * e.size + m * e.size)) := by
 have hl : ∀ (x : e.den) (cs : List Value),Cells w S e x cs -> cs.length = e.size := fun x cs h => Cells.len e x cs h
 rw [<- vay]
 exact ((CellsL.take hl _ _ hx lo).append _ _ _ _ (CellsL.take hl _ _ hy m)).append _ _ _ _ (CellsL.drop hl _ _ hx (lo + m))
theorem qkX (hT : TabOK P tt) {t t2 : Nat} {objs : Objs} {c : Ctx} (hs : SOK c objs) {d x : V} {ud ux : Value} (hd : Rel c d ud) (hx : Rel c x ux) {md : List Nat} (ty : TypeId) {K : V -> Objs -> Option R} {r : R}
  (h : copyV tt objs t d x md K = some r) :
  ∃ q ch z c',K q ch = some r /\ Done c objs c' q z ch c.nx /\ (Builtin.copy_ #[t,t2] ty #[ud,ux]).run P c.w = .ok z c'.w /\ ∀ o ∈ ch.map (·.1),o ∈ md := by
 unfold copyV at h
 split at h
 rotate_left
 ·cases h
 rename_i e hte hcc
 simp only [vae,vam] at hcc
 obtain ⟨hsl,ho⟩ := hcc
 obtain ⟨et,hk,hu⟩ := hT.sl hsl
 have het : elemOf tt t = et := by simp [elemOf,hk]
 rw [het] at hte ho
 obtain ⟨i,z,hi,hz,hsz,hby,hzs,hpos,hzc,hty⟩ := hT.elemRow ho hte
 have hA := qei hs hx h
 clear h
 obtain ⟨ys,bor,h,hrd⟩ := hA
 split at h
 ·cases h
 rename_i hkeep
 obtain ⟨news,hcl2,hlen,hfirst⟩ := (hrd.keep hkeep).first (P := P)
 have hnl := hcl2.len (fun x cs h => Cells.len e x cs h)
 have hone := hcl2.one (fun x cs h => Cells.one e x cs h)
 -- a copy onto nothing
 have empty : ∀ (a : Option Addr) (n k : Nat),Nat.min ys.length n = 0 -> (Builtin.copy_ #[t,t2] ty #[.slice a n k,ux]).run P c.w = .ok (goInt 0) c.w := fun a n k h0 => by
  have h1 := hfirst 0 (vaC _)
  simp only [va4,vaZ] at h1
  have h0' : min ys.length n = 0 := h0
  cases a <;> simp [Builtin.copy_,run_underlying hu,sizeOf,typeInfo,hi,hsz,hlen,h0',h1,storeCells]
 -- onto a row
 have full : ∀ (g off n k : Nat) (cur : Array Value) (el : TypeId),c.w.heap[g]? = some (.cells cur el (0,0)) -> off + (min ys.length n) * e.size <= cur.size ->
   (Builtin.copy_ #[t,t2] ty #[.slice (some ⟨g,off,none⟩) n k,ux]).run P c.w = .ok (goInt (min ys.length n : Nat)) (c.w.setRow g (cur.toList.take off ++ news.take (min ys.length n * e.size) ++ cur.toList.drop (off + min ys.length n * e.size)).toArray) := fun g off n k cur el hg hfit => by
  have h1 := hfirst (min ys.length n) (vaM _ _)
  have hl1 : (news.take (min ys.length n * e.size)).length = min ys.length n * e.size := by
   rw [vac,hnl]; exact vaj (vab _ (vaM _ _))
  have hst := run_storeCells_at P g off el (news.take (min ys.length n * e.size)) 0 cur c.w hg (by rw [hl1]; simpa using hfit) (fun v hv => hone v (vbg hv))
  rw [hl1] at hst
  simp only [vaG] at hst
  have hmin : Nat.min ys.length n = min ys.length n := rfl
  simp [Builtin.copy_,run_underlying hu,sizeOf,typeInfo,hi,hsz,hlen,h1,hst]
 split at h
 ·rename_i o
  split at h
  ·rename_i e' xs hob
   split at h
   ·rename_i he
    subst he
    split at h
    ·rename_i hmd
     obtain ⟨hnx,rfl⟩ := hd
     have hm : (look .dead objs o).mut = true := by rw [hob]; rfl
     cases hb : c.blk o with
     | none =>
      obtain ⟨et',cells,hown,_,hobk,_⟩ := hs.row_at hob
      rcases hown.2 with ⟨hv,hz0⟩ | ⟨g,cap,cur,hv,_⟩
      ·have hx0 : xs = [] := vad hz0
       subst hx0
       refine ⟨_,_,_,c,h,Done.noop hs (by rw [hob]; simp [castL]) rfl rfl,?_,fun o' ho' => by simp at ho'; subst ho'; exact qaJ.1 hmd⟩
       rw [hv,empty none 0 0 (Nat.min_zero _)]
       simp [goInt]
      ·rw [hv,hb] at hobk; cases hobk
     | some g =>
      obtain ⟨cur,el,cap,cells,hh,hg,hcs,hle,hcm,htk,hcl,hcln,hty'⟩ := hs.row_full hob hb
      have hfit : xs.length * e'.size <= cur.size := by rw [hcs]; exact vab _ hle
      have hmn : min ys.length xs.length * e'.size <= xs.length * e'.size := vab _ (Nat.min_le_right _ _)
      have hrun := full g 0 xs.length cap cur el hg (by omega)
      have hset := hcl.over hcl2 0 (min ys.length xs.length)
      have hlist : xs.take 0 ++ ys.take (min ys.length xs.length) ++ xs.drop (0 + min ys.length xs.length) = ys.take xs.length ++ (castL rfl xs).drop ys.length := by
       show _ = ys.take xs.length ++ xs.drop ys.length
       rw [vaZ,vaL,vak]
       by_cases hxy : ys.length <= xs.length
       ·rw [vaj hxy,van (vag _),van hxy]
       ·rw [vbr (by omega),vaA (vag _),vaA (by omega)]
      rw [hlist] at hset
      refine ⟨_,_,_,_,h,Done.rowSet hs hob hb hg ?_ hset ?_ ?_ (v := .i .i64 (min ys.length xs.length : Nat)) rfl,by rw [hh]; exact hrun,fun o' ho' => by simp at ho'; subst ho'; exact qaJ.1 hmd⟩
      ·rw [<- hlist]; simp; omega
      ·have : (news.take (min ys.length xs.length * e'.size)).length = min ys.length xs.length * e'.size := by
        rw [vac,hnl]; exact vaj (vab _ (vaM _ _))
       simp only [vaE,vai,vac,this,vas,vax]
       omega
      ·have hl1 : (news.take (min ys.length xs.length * e'.size)).length = min ys.length xs.length * e'.size := by
        rw [vac,hnl]; exact vaj (vab _ (vaM _ _))
       have := qfk cur.toList (news.take (min ys.length xs.length * e'.size)) 0 (xs.length * e'.size) (by rw [hl1]; omega) (by simpa using hfit)
       rw [hl1,htk] at this
       simpa using this
    ·cases h
   ·cases h
  ·cases h
 ·rename_i o es lo hi'
  split at h
  ·rename_i e' xs hob
   split at h
   ·rename_i he
    subst he
    split at h
    ·rename_i hmd
     simp only [vae] at hmd
     obtain ⟨hmd,hes⟩ := hmd
     have hes : es = e'.size := vaa hes
     obtain ⟨hnx,a,n,k,hh,hlo,hhi,rfl⟩ := hd
     have hm : (look .dead objs o).mut = true := by rw [hob]; rfl
     by_cases h0 : min ys.length (hi' - lo) = 0
     ·have hlist : (castL rfl xs).take lo ++ ys.take (hi' - lo) ++ (castL rfl xs).drop (lo + min ys.length (hi' - lo)) = xs := by
       show xs.take lo ++ ys.take (hi' - lo) ++ xs.drop (lo + min ys.length (hi' - lo)) = xs
       have : ys.take (hi' - lo) = [] := vad (by rw [vac]; omega)
       rw [this,h0,vaI,vaG,vaT]
      rw [hlist] at h
      refine ⟨_,_,_,c,h,Done.noop hs hob rfl (v := .i .i64 (min ys.length (hi' - lo) : Nat)) rfl,?_,fun o' ho' => by simp at ho'; subst ho'; exact qaJ.1 hmd⟩
      rw [empty _ _ _ h0,h0]; rfl
     ·have hne : xs ≠ [] := fun hx => by
       obtain ⟨a',m',k',hh',hm',_⟩ := hs.own_hdr hob
       rw [hh] at hh'; cases hh'
       subst hx; simp at hm'; omega
      obtain ⟨g,k',hh',hb,_⟩ := qkQ hs hob hne
      obtain ⟨cur,el,cap,cells,hh2,hg,hcs,hle,hcm,htk,hcl,hcln,hty'⟩ := hs.row_full hob hb
      rw [hh] at hh2; cases hh2
      have hkl : ¬ (k = lo) := by omega
      have hmn : lo * e'.size + min ys.length (hi' - lo) * e'.size <= xs.length * e'.size := by rw [<- vay]; exact vab _ (by omega)
      have hfit : xs.length * e'.size <= cur.size := by rw [hcs]; exact vab _ hle
      have hrun := full g (lo * e'.size) (hi' - lo) (k - lo) cur el hg (by omega)
      have hset := hcl.over hcl2 lo (min ys.length (hi' - lo))
      have hlist : xs.take lo ++ ys.take (min ys.length (hi' - lo)) ++ xs.drop (lo + min ys.length (hi' - lo)) = (castL rfl xs).take lo ++ ys.take (hi' - lo) ++ (castL rfl xs).drop (lo + min ys.length (hi' - lo)) := by
       show _ = xs.take lo ++ ys.take (hi' - lo) ++ xs.drop (lo + min ys.length (hi' - lo))
       congr 2
       by_cases hxy : ys.length <= hi' - lo
       ·rw [vaj hxy,van (vag _),van hxy]
       ·rw [vbr (by omega)]
      rw [hlist] at hset
      have hl1 : (news.take (min ys.length (hi' - lo) * e'.size)).length = min ys.length (hi' - lo) * e'.size := by
       rw [vac,hnl]; exact vaj (vab _ (vaM _ _))
      refine ⟨_,_,_,_,h,Done.rowSet hs hob hb (cur' := (cur.toList.take (lo * e'.size) ++ news.take (min ys.length (hi' - lo) * e'.size) ++ cur.toList.drop (lo * e'.size + min ys.length (hi' - lo) * e'.size)).toArray) hg ?_ hset ?_ ?_ (v := .i .i64 (min ys.length (hi' - lo) : Nat)) rfl,?_,fun o' ho' => by simp at ho'; subst ho'; exact qaJ.1 hmd⟩
      ·rw [<- hlist]; simp; omega
      ·simp only [vaE,vai,vac,hl1,vas,vax]
       omega
      ·have := qfk cur.toList (news.take (min ys.length (hi' - lo) * e'.size)) (lo * e'.size) (xs.length * e'.size) (by rw [hl1]; omega) (by simpa using hfit)
       rw [hl1,htk] at this
       simpa using this
      ·rw [if_neg hkl,hes]
       simp only [vbl,Addr.add_lit,vak]
       exact hrun
    ·cases h
   ·cases h
  ·cases h
 ·simp only [Rel] at hd; subst hd
  refine ⟨_,_,_,c,h,Done.pure hs rfl,empty none 0 0 (Nat.min_zero _),fun o ho => by cases ho⟩
 ·cases h
theorem qec {mx : Bool} {k : IntKind} {c : Ctx} : ∀ (vs : List V) (us : List Value) (a : Int) {K : V -> Option R} {r : R},RelL c vs us -> minMaxF mx k a vs K = some r ->
  ∃ n,K (.i k n) = some r /\ (us.foldlM (match mx with | true => Builtin.max2 | false => Builtin.min2) (.int k a) : Sem Value).run P c.w = .ok (.int k n) c.w
 | [],us,a,K,r,hr,h => by rw [show us = [] from hr]; exact ⟨a,h,rfl⟩
 | v :: vs,us,a,K,r,hr,h => by
  obtain ⟨u,us',e,h1,h2⟩ := hr
  cases v <;> simp only [minMaxF] at h <;> first | (cases h; done) | skip
  split at h
  ·rename_i hk
   simp only [Rel] at h1; subst hk h1 e
   obtain ⟨n,h3,h4⟩ := qec vs us' _ h2 h
   refine ⟨n,h3,?_⟩
   rw [List.foldlM_cons,Sem.run_bind]
   cases mx
   ·simpa [Builtin.min2] using h4
   ·simpa [Builtin.max2] using h4
  ·cases h
end Go.Vm
