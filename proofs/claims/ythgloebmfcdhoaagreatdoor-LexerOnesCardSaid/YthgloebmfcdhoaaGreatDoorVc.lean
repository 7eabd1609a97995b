import Derived.Test.YthgloebmfcdhoaaGreatDoorVb
import Derived.ChangeSame
import Derived.Below
set_option linter.unusedVariables false
set_option linter.unusedSimpArgs false
namespace Go.AM
open Go
noncomputable section
inductive RX where
  | t (n : Nat)
  | c (v : AV)
def RX.ev (T : Tmps) : RX → AV
  | .t n => T.at n
  | .c v => v
def evR (T : Tmps) : List RX → List AV
  | [] => []
  | x :: r => x.ev T :: evR T r
inductive EqK where
  | bool | ptr | iface0 | iface1 | func | slice | other
def eqK : EqK → AV → AV → Option Bool
  | .bool, .bool a, .bool b => some (a == b)
  | .ptr, .nilp, .nilp => some true
  | .ptr, .nilp, .ptr _ _ => some false
  | .ptr, .ptr _ _, .nilp => some false
  | .iface0, .nili, .nili => some true
  | .iface0, .nili, .iface _ _ => some false
  | .iface0, .iface _ _, .nili => some false
  | .iface1, .nili, .iface _ _ => some false
  | .iface1, .iface _ _, .nili => some false
  | .func, .nilf, .nilf => some true
  | .func, .nilf, .fn _ _ _ => some false
  | .func, .fn _ _ _, .nilf => some false
  | .slice, .nils, .nils => some true
  | .slice, .nils, .sl _ _ _ _ _ => some false
  | .slice, .sl _ _ _ _ _, .nils => some false
  | .slice, .nils, .ds (_ + 1) _ _ => some false
  | .slice, .ds (_ + 1) _ _, .nils => some false
  | _, _, _ => none
def eqKOf : TypeDesc → EqK
  | .bool => .bool
  | .pointer _ => .ptr
  | .interface ms => bif ms.isEmpty then .iface0 else .iface1
  | .func _ _ _ => .func
  | .slice _ => .slice
  | _ => .other
inductive KeyK where
  | int | bool | str
def keyFitsK : KeyK → AV → Bool
  | .int, .int _ _ => true
  | .bool, .bool _ => true
  | .str, .str _ => true
  | _, _ => false
def keyKOf : TypeDesc → Option KeyK
  | .int _ => some .int | .bool => some .bool | .string => some .str
  | _ => none
def keyKs : List TypeDesc → Option (List KeyK)
  | [] => some []
  | d :: r => (keyKOf d).bind fun k => (keyKs r).map fun ks => k :: ks
def eqKeysK : List KeyK → List AV → List AV → Option Bool
  | [], [], [] => some true
  | d :: ds, x :: xs, y :: ys => bif keyFitsK d x then (match eqKey x y with
    | some true => eqKeysK ds xs ys
    | some false => some false
    | none => none) else none
  | _, _, _ => none
def binR (d : Option EqK) (fs : Option (List KeyK)) (op : BinOp) (x y : AV) : Option AV :=
  match x, y with
  | .int k a, .int k' b => bif isShift op || kindEq k k' then intOp op k a b else none
  | .str a, .str b => strOp op a b
  | .agg xs, .agg ys => fs.bind fun ds => eqOp op (eqKeysK ds xs ys)
  | x, y => d.bind fun d => eqOp op (eqK d x y)
def fillR (cells : List AV) : List (Nat × Nat × AV) → Option (List AV)
  | [] => some cells
  | p :: rest => bif Nat.beq p.2.2.cells.length p.2.1 then (setAll cells p.1 p.2.2.cells).bind fun cs => fillR cs rest else none
def evQ (T : Tmps) : List (Nat × Nat × RX) → List (Nat × Nat × AV)
  | [] => []
  | p :: r => (p.1, p.2.1, p.2.2.ev T) :: evQ T r
def loadR (agg : Bool) (n : Nat) (G : Glob) (H : Heap) (p : AV) : Option AV := (cellsAt G H n p).bind fun cs => wrapVal agg cs
def storeR (n : Nat) (H : Heap) (p v : AV) : Option Heap := bif Nat.beq v.cells.length n && allOne v.cells then storeCellsA H v.cells p else none
def partR (agg : Bool) (n : Nat) (cs : List AV) (off : Nat) : Option AV := bif agg then (window cs off n).map .agg else nth cs off
inductive ConvK where
  | int (k : IntKind) | strStr | strBytes | bytes (same : Bool)
def convR (H : Heap) (x : AV) : ConvK → Res
  | .int k => match x with | .int _ n => some (.int k (wrapF k n), H) | _ => none
  | .strStr => match x with | .str s => some (.str s, H) | _ => none
  | .strBytes => (lenS x).bind fun _ => (sliceRead H 1 x).bind fun cs => (bytesBack cs).map fun l => (.str ⟨l.toArray⟩, H)
  | .bytes same => match x with
    | .str s => bif Nat.ble s.size 1073741824 then some (.ds s.size (byteCells s.data.toList) none, H) else none
    | .sl r o n z c => bif same then (H.row r).bind fun _ => some (.sl r o n z c, H) else none
    | _ => none
inductive SliceK where
  | str | sl (sz : Nat) | arr (n sz : Nat)
def sliceRd (G : Glob) (H : Heap) (x : AV) (i : Nat) (hi mx : Option AV) : SliceK → Option AV
  | .str => bif mx.isSome then none else match x with | .str s => (natOr s.size hi).bind fun j => sliceStr s i j | _ => none
  | .sl sz => sliceSl sz x i hi mx
  | .arr n sz => bif mx.isSome then none else (natOr n hi).bind fun j => bif Nat.ble i j && Nat.ble j n then sliceArr G H sz i j n x else none
def sliceR (G : Glob) (H : Heap) (k : SliceK) (x : AV) (lo hi mx : Option AV) : Option AV := (natOr 0 lo).bind fun i => sliceRd G H x i hi mx k
def makeSliceR (sz : Nat) (z : List AV) (b : Nat) (H : Heap) (l c : AV) : Res :=
  (natA l).bind fun n => (natA c).bind fun m =>
    bif Nat.ble n m && Nat.ble (m * b) 1099511627776 && Nat.ble m 1099511627776 then some (.sl H.next 0 n sz (some m), H.new (.row (repeatCells z m))) else none
def indexSl (s : Nat) (x ix : AV) : Option AV := (natA ix).bind fun i => elemPtr i s x
def indexArr (n s : Nat) (x ix : AV) : Option AV := (natA ix).bind fun i => bif Nat.blt i n then moveP (i * s) x else none
def indexStr (x ix : AV) : Option AV := (natA ix).bind fun i => match x with | .str s => byteAt s i | _ => none
def indexAgg (n s : Nat) (agg : Bool) (sz : Nat) (x ix : AV) : Option AV :=
  (natA ix).bind fun i => match x with | .agg cs => bif Nat.blt i n then partR agg sz cs (i * s) else none | _ => none
def fieldR (agg : Bool) (n off : Nat) (x : AV) : Option AV := match x with | .agg cs => partR agg n cs off | _ => none
def lookupR (d : KeyK) (z : AV) (H : Heap) (x k : AV) (ok : Bool) : Option AV :=
  bif keyFitsK d k then (mapOf H x).bind fun es => (mapFind k es).map fun r => bif ok then .tup [orZero z r, .bool r.isSome] else orZero z r else none
def mapUpdR (d : KeyK) (H : Heap) (k v : AV) : AV → Option Heap
  | .mp m => bif keyFitsK d k then (match H.get m with | some (.map es) => (mapFind k es).map fun _ => H.put m (some (.map (mapSet k v es))) | _ => none) else none
  | _ => none
def assertR (a : TypeId) (ok : Bool) (z : Option AV) (x : AV) : Option AV :=
  match x with
  | .iface t v => bif Nat.beq t a then some (bif ok then .tup [v, .bool true] else v) else bif ok then z.map fun z => .tup [z, .bool false] else none
  | .nili => bif ok then z.map fun z => .tup [z, .bool false] else none
  | _ => none
inductive LenK where
  | arr (n : Nat) | map | str | sl
def lenR (H : Heap) (x : AV) : LenK → Option AV
  | .arr n => some (.int .i64 (.ofNat n))
  | .map => (mapOf H x).map fun es => .int .i64 (.ofNat es.length)
  | .str => (match x with | .str s => some (.int .i64 (.ofNat s.size)) | _ => none)
  | .sl => (lenS x).map fun n => .int .i64 (.ofNat n)
def appendNR (bytes : Nat) (H : Heap) (sz : Nat) (s : AV) (m : Nat) (new : List AV) : Res :=
  (lenS s).bind fun n => (sliceRead H sz s).bind fun old =>
    bif Nat.ble ((n + m) * bytes) 1099511627776 && Nat.ble (n + m) 1099511627776 && allOne new then (bif Nat.beq m 0 then some (s, H) else growA H sz n m old new s) else none
def appendR (sz bytes : Nat) (z : List AV) (byN : Bool) (H : Heap) (s x : AV) : Res :=
  bif byN then (natA x).bind fun m => appendNR bytes H sz s m (repeatCells z m)
  else (lenA x).bind fun m => (sliceRead H sz x).bind fun new => appendNR bytes H sz s m new
def clearR (sz : Nat) (z : List AV) (H : Heap) (x : AV) : Res := (lenS x).bind fun n => (overwrite H sz n (repeatCells z n) x).map fun H => (.tup [], H)
def copyR (sz : Nat) (H : Heap) (d x : AV) : Res :=
  (lenS d).bind fun n => (lenA x).bind fun m => (sliceRead H sz x).bind fun new => (overwrite H sz (min n m) (new.take (min n m * sz)) d).map fun H => (.int .i64 (.ofNat (min n m)), H)
inductive ROp where
  | mv (x : RX)
  | pick (c a b : RX)
  | alloc (z : List AV)
  | box (x : RX)
  | build (z : List AV) (ps : List (Nat × Nat × RX))
  | lit (drawn : Bool) (sz n : Nat) (cells : List AV) (ps : List (Nat × Nat × RX))
  | load (agg : Bool) (n : Nat) (x : RX)
  | store (n : Nat) (a x : RX)
  | nilc (x : RX)
  | bin (d : Option EqK) (fs : Option (List KeyK)) (op : BinOp) (x y : RX)
  | un (op : UnOp) (x : RX)
  | conv (k : ConvK) (x : RX)
  | iface (t : TypeId) (x : RX)
  | mkfn (f : FuncId) (first caps : List RX)
  | mkmap (r : Option RX)
  | mkslice (sz : Nat) (z : List AV) (b : Nat) (l c : RX)
  | slice (k : SliceK) (x : RX) (lo hi mx : Option RX)
  | faddr (off : Nat) (x : RX)
  | field (agg : Bool) (n off : Nat) (x : RX)
  | iaddrS (s : Nat) (x ix : RX)
  | iaddrA (n s : Nat) (x ix : RX)
  | idxS (x ix : RX)
  | idxA (n s : Nat) (agg : Bool) (sz : Nat) (x ix : RX)
  | lookup (d : KeyK) (z : AV) (x ix : RX) (ok : Bool)
  | mapupd (d : KeyK) (m k v : RX)
  | assert (a : TypeId) (ok : Bool) (z : Option AV) (x : RX)
  | extract (i : Nat) (x : RX)
  | panic (x : RX)
  | defer (f : RX) (args : List RX)
  | call (f : RX) (args : List RX)
  | append (sz bytes : Nat) (z : List AV) (byN : Bool) (s x : RX)
  | len (k : LenK) (x : RX)
  | cap (x : RX)
  | min (x y : RX)
  | max (x y : RX)
  | clear (sz : Nat) (z : List AV) (x : RX)
def evO (T : Tmps) : Option RX → Option AV
  | none => none
  | some x => some (x.ev T)
def ropA (G : Glob) (T : Tmps) (H : Heap) : ROp → OR
  | .mv x => .val (x.ev T) H
  | .pick c a b => match c.ev T with | .bool true => .val (a.ev T) H | .bool false => .val (b.ev T) H | _ => .fail
  | .alloc z => .val (.ptr H.next 0) (H.new (.row z))
  | .box x => .val (.ptr H.next 0) (H.new (.row (x.ev T).cells))
  | .build z ps => .pure H ((fillR z (evQ T ps)).map .agg)
  | .lit drawn sz n cells ps => match fillR cells (evQ T ps) with
    | some cs => bif drawn then .val (.ds n cs (some n)) H else .val (.sl H.next 0 n sz (some n)) (H.new (.row cs))
    | none => .fail
  | .load agg n x => .pure H (loadR agg n G H (x.ev T))
  | .store n a x => .mem (storeR n H (a.ev T) (x.ev T))
  | .nilc x => .pure H (nilCheckA (x.ev T))
  | .bin d fs op x y => .pure H (binR d fs op (x.ev T) (y.ev T))
  | .un op x => .pure H (unA op (x.ev T))
  | .conv k x => .of (convR H (x.ev T) k)
  | .iface t x => .val (.iface t (x.ev T)) H
  | .mkfn f first caps => .val (.fn f (evR T first) (evR T caps)) H
  | .mkmap none => .val (.mp H.next) (H.new (.map []))
  | .mkmap (some r) => match r.ev T with | .int _ _ => .val (.mp H.next) (H.new (.map [])) | _ => .fail
  | .mkslice sz z b l c => .of (makeSliceR sz z b H (l.ev T) (c.ev T))
  | .slice k x lo hi mx => .pure H (sliceR G H k (x.ev T) (evO T lo) (evO T hi) (evO T mx))
  | .faddr off x => .pure H (moveP off (x.ev T))
  | .field agg n off x => .pure H (fieldR agg n off (x.ev T))
  | .iaddrS s x ix => .pure H (indexSl s (x.ev T) (ix.ev T))
  | .iaddrA n s x ix => .pure H (indexArr n s (x.ev T) (ix.ev T))
  | .idxS x ix => .pure H (indexStr (x.ev T) (ix.ev T))
  | .idxA n s agg sz x ix => .pure H (indexAgg n s agg sz (x.ev T) (ix.ev T))
  | .lookup d z x ix ok => .pure H (lookupR d z H (x.ev T) (ix.ev T) ok)
  | .mapupd d m k v => .mem (mapUpdR d H (k.ev T) (v.ev T) (m.ev T))
  | .assert a ok z x => .pure H (assertR a ok z (x.ev T))
  | .extract i x => .pure H (extractA i (x.ev T))
  | .panic x => panicA (x.ev T)
  | .defer f args => .toDefer (asCall (evR T args) (f.ev T))
  | .call f args => .toCall (asCall (evR T args) (f.ev T))
  | .append sz bytes z byN s x => .of (appendR sz bytes z byN H (s.ev T) (x.ev T))
  | .len k x => .pure H (lenR H (x.ev T) k)
  | .cap x => .pure H ((capOf (x.ev T)).map fun c => .int .i64 (.ofNat c))
  | .min x y => .pure H (minA (x.ev T) (y.ev T))
  | .max x y => .pure H (maxA (x.ev T) (y.ev T))
  | .clear sz z x => .of (clearR sz z H (x.ev T))
def resX : Operand → Option RX
  | .tmp t => some (.t t)
  | .const v => (ofVal v).map .c
  | .global g => some (.c (.gptr g 0))
  | .func f => some (.c (.fn f [] []))
def resL : List Operand → Option (List RX)
  | [] => some []
  | x :: r => (resX x).bind fun a => (resL r).map fun b => a :: b
def resO : Option Operand → Option (Option RX)
  | none => some none
  | some x => (resX x).map some
def resQ (place : Nat → Option (Nat × Nat)) : List (Nat × Operand) → Option (List (Nat × Nat × RX))
  | [] => some []
  | p :: r => (place p.1).bind fun os => (resX p.2).bind fun x => (resQ place r).map fun q => (os.1, os.2, x) :: q
def resBuild (P : Program) (z : List AV) (ps : List (Nat × Operand)) : TypeDesc → Option ROp
  | .struct fs => (placesA P fs.toList).bind fun pl => (resQ (fun i => pl[i]?) ps).map fun q => .build z q
  | .array _ e => (sizeT P e).bind fun s => (resQ (fun i => some (i * s, s)) ps).map fun q => .build z q
  | _ => none
def resConv (P : Program) (src dst : TypeId) (x : RX) : Option ROp :=
  (P.underlying src).bind fun ds => (P.underlying dst).bind fun dd => match dd with
    | .int k => some (.conv (.int k) x)
    | .string => (match ds with
      | .string => some (.conv .strStr x)
      | .slice e => bif isByteT P e then some (.conv .strBytes x) else none
      | _ => none)
    | .slice e => bif isByteT P e then some (.conv (.bytes (Nat.beq src dst)) x) else none
    | _ => none
def resSliceK (P : Program) : TypeDesc → Option SliceK
  | .string => some .str
  | .slice e => (sizeT P e).map .sl
  | .array n e => (sizeT P e).map fun s => .arr n s
  | _ => none
def resFaddr (P : Program) (f : Nat) (x : RX) : TypeDesc → Option ROp
  | .struct fs => (fs[f]?).bind fun fd => (sizeT P fd.type).bind fun s => bif Nat.beq s 0 then none else some (.faddr fd.offset x)
  | _ => none
def resField (P : Program) (f : Nat) (x : RX) : TypeDesc → Option ROp
  | .struct fs => (fs[f]?).bind fun fd => (isAggT P fd.type).bind fun agg => (sizeT P fd.type).map fun s => .field agg s fd.offset x
  | _ => none
def resIaddr (P : Program) (x ix : RX) : TypeDesc → Option ROp
  | .slice e => (sizeT P e).map fun s => .iaddrS s x ix
  | .array n e => (sizeT P e).map fun s => .iaddrA n s x ix
  | _ => none
def resIdx (P : Program) (x ix : RX) : TypeDesc → Option ROp
  | .string => some (.idxS x ix)
  | .array n e => (sizeT P e).bind fun s => (isAggT P e).map fun agg => .idxA n s agg s x ix
  | _ => none
def resLenK : TypeDesc → Option LenK
  | .array n _ => some (.arr n)
  | .map _ _ => some .map
  | .string => some .str
  | .slice _ => some .sl
  | _ => none
def resBuiltin (P : Program) (b : Builtin) (ts : List TypeId) (args : List RX) : Option ROp :=
  match b, ts, args with
  | .append, [t, t2], [s, x] => (elemT P t).bind fun e => (zsT P e).bind fun z => (P.underlying t2).bind fun d2 => (bytesT P e).map fun b => .append z.1 b z.2 (isIntD d2) s x
  | .len, [t], [x] => (P.underlying t).bind fun d => (resLenK d).map fun k => .len k x
  | .cap, [t], [x] => (elemT P t).map fun _ => .cap x
  | .min, _, [x, y] => some (.min x y)
  | .max, _, [x, y] => some (.max x y)
  | .clear, [t], [x] => (elemT P t).bind fun e => (zsT P e).map fun z => .clear z.1 z.2 x
  | _, _, _ => none
def resCall (P : Program) (c : Call) : Option ROp :=
  (resL c.args.toList).bind fun args => match c.callee with
    | .value f => (resX f).map fun f => .call f args
    | .builtin b => resBuiltin P b c.argTypes.toList args
    | _ => none
def resDefer (c : Call) : Option ROp :=
  (resL c.args.toList).bind fun args => match c.callee with
    | .value f => (resX f).map fun f => .defer f args
    | _ => none
def resFs : Option (List TypeDesc) → Option (Option (List KeyK))
  | none => some none
  | some ds => (keyKs ds).map some
def notIfaceT (P : Program) (t : TypeId) : Bool := match P.underlying t with | some d => notIface d | none => false
def resOp (P : Program) (drawn : Bool) : Op → Option ROp
  | .move x => (resX x).map .mv
  | .assign x => (resX x).map .mv
  | .pick c a b => (resX c).bind fun c => (resX a).bind fun a => (resX b).map fun b => .pick c a b
  | .alloc e => (zeroT P e).map .alloc
  | .box _ x => (resX x).map .box
  | .build t ps => (zeroT P t).bind fun z => (P.underlying t).bind fun d => resBuild P z ps.toList d
  | .buildSlice t n ps => (elemT P t).bind fun e => (zsT P e).bind fun sz => bif Nat.ble (n * sz.1) 16777216 then (resQ (fun i => some (i * sz.1, sz.1)) ps.toList).map fun q => .lit drawn sz.1 n (repeatCells sz.2 n) q else none
  | .load t a => (isAggT P t).bind fun agg => (sizeT P t).bind fun n => (resX a).map fun a => .load agg n a
  | .store t a x => (sizeT P t).bind fun n => (resX a).bind fun a => (resX x).map fun x => .store n a x
  | .nilCheck x => (resX x).map .nilc
  | .binOp op t x y _ => (resX x).bind fun x => (resX y).bind fun y => (resFs (flatStruct P t)).map fun fs => .bin ((P.underlying t).map eqKOf) fs op x y
  | .unOp op _ x => (resX x).map fun x => .un op x
  | .convert a b x => (resX x).bind fun x => resConv P a b x
  | .makeInterface t x => bif notIfaceT P t then (resX x).map fun x => .iface t x else none
  | .makeFunc fn first caps => (match fn with | .func f => (resL first.toList).bind fun a => (resL caps.toList).map fun b => .mkfn f a b | _ => none)
  | .makeMap t r => (match r with | none => some (.mkmap none) | some r => bif isMapT P t then (resX r).map fun r => .mkmap (some r) else none)
  | .makeSlice t l c => (resX l).bind fun l => (resX c).bind fun c => (elemT P t).bind fun e => (zsT P e).bind fun sz => (bytesT P e).map fun b => .mkslice sz.1 sz.2 b l c
  | .slice t x lo hi mx => (resX x).bind fun x => (resO lo).bind fun lo => (resO hi).bind fun hi => (resO mx).bind fun mx => (P.underlying t).bind fun d => (resSliceK P d).map fun k => .slice k x lo hi mx
  | .fieldAddr t x f => (resX x).bind fun x => (P.underlying t).bind fun d => resFaddr P f x d
  | .field t x f => (resX x).bind fun x => (P.underlying t).bind fun d => resField P f x d
  | .indexAddr t x ix => (resX x).bind fun x => (resX ix).bind fun ix => (P.underlying t).bind fun d => resIaddr P x ix d
  | .index t x ix => (resX x).bind fun x => (resX ix).bind fun ix => (P.underlying t).bind fun d => resIdx P x ix d
  | .lookup t x ix ok => (resX x).bind fun x => (resX ix).bind fun ix => (mapTy P t).bind fun de => (keyKOf de.1).bind fun k => (zeroV P de.2).map fun z => .lookup k z x ix ok
  | .mapUpdate t m k v => (resX m).bind fun m => (resX k).bind fun k => (resX v).bind fun v => (mapTy P t).bind fun de => (keyKOf de.1).map fun d => .mapupd d m k v
  | .insert t m k v => (resX m).bind fun m => (resX k).bind fun k => (resX v).bind fun v => (mapTy P t).bind fun de => (keyKOf de.1).map fun d => .mapupd d m k v
  | .typeAssert x _ a ok => bif notIfaceT P a then (resX x).map fun x => .assert a ok (zeroV P a) x else none
  | .extract t i => (resX t).map fun t => .extract i t
  | .panic x => (resX x).map .panic
  | .defer c => resDefer c
  | .call c => resCall P c
  | _ => none
end
end Go.AM
namespace Go.AM
open Go
section
variable {P : Program} {G : Glob} {drawn : Bool} {T : Tmps} {H : Heap}
theorem resX_ok {x : Operand} {r : RX} (h : resX x = some r) : evalA T x = some (r.ev T) := by
  cases x <;> simp only [resX, Option.map_eq_some_iff] at h
  · injection h with h; subst h; rfl
  · obtain ⟨v, hv, rfl⟩ := h; simp [evalA, hv, RX.ev]
  · injection h with h; subst h; rfl
  · injection h with h; subst h; rfl
theorem resL_ok : ∀ {xs : List Operand} {rs : List RX}, resL xs = some rs → evalL T xs = some (evR T rs)
  | [], rs, h => by simp only [resL] at h; injection h with h; subst h; rfl
  | x :: xs, rs, h => by
    simp only [resL, Option.bind_eq_some_iff, Option.map_eq_some_iff] at h
    obtain ⟨a, ha, b, hb, rfl⟩ := h
    simp [evalL, resX_ok ha, resL_ok hb, evR]
theorem resO_ok {x : Option Operand} {r : Option RX} (h : resO x = some r) : evalO T x = some (evO T r) := by
  cases x with
  | none => simp only [resO] at h; injection h with h; subst h; rfl
  | some x =>
    simp only [resO, Option.map_eq_some_iff] at h
    obtain ⟨a, ha, rfl⟩ := h
    simp [evalO, resX_ok ha, evO]
theorem resQ_ok {place : Nat → Option (Nat × Nat)} : ∀ {ps : List (Nat × Operand)} {qs : List (Nat × Nat × RX)}, resQ place ps = some qs →
    ∃ vs, evalP T ps = some vs ∧ ∀ cells, fillA place cells vs = fillR cells (evQ T qs)
  | [], qs, h => by simp only [resQ] at h; injection h with h; subst h; exact ⟨[], rfl, fun _ => rfl⟩
  | p :: ps, qs, h => by
    simp only [resQ, Option.bind_eq_some_iff, Option.map_eq_some_iff] at h
    obtain ⟨os, hos, x, hx, q, hq, rfl⟩ := h
    obtain ⟨vs, hvs, hf⟩ := resQ_ok hq
    refine ⟨(p.1, x.ev T) :: vs, by simp [evalP, resX_ok hx, hvs], fun cells => ?_⟩
    simp only [fillA, evQ, fillR, hos, Option.bind_some]
    cases Nat.beq (AV.cells (RX.ev T x)).length os.2 with
    | true =>
      simp only [cond_true]
      cases setAll cells os.1 (AV.cells (RX.ev T x)) with
      | none => rfl
      | some cs => simp [hf]
    | false => rfl
theorem eqSlice (e : TypeId) : ∀ x y, eqD (.slice e) x y = eqK .slice x y
  | .ds 0 _ _, .ds 0 _ _ => rfl
  | .ds (_ + 1) _ _, .ds 0 _ _ => rfl
  | .ds 0 _ _, .ds (_ + 1) _ _ => rfl
  | .ds (_ + 1) _ _, .ds (_ + 1) _ _ => rfl
  | .nils, .ds 0 _ _ => rfl
  | .nils, .ds (_ + 1) _ _ => rfl
  | .ds 0 _ _, .nils => rfl
  | .ds (_ + 1) _ _, .nils => rfl
  | .ds 0 _ _, .bool _ => rfl
  | .bool _, .ds 0 _ _ => rfl
  | .ds (_ + 1) _ _, .bool _ => rfl
  | .bool _, .ds (_ + 1) _ _ => rfl
  | .ds 0 _ _, .int _ _ => rfl
  | .int _ _, .ds 0 _ _ => rfl
  | .ds (_ + 1) _ _, .int _ _ => rfl
  | .int _ _, .ds (_ + 1) _ _ => rfl
  | .ds 0 _ _, .str _ => rfl
  | .str _, .ds 0 _ _ => rfl
  | .ds (_ + 1) _ _, .str _ => rfl
  | .str _, .ds (_ + 1) _ _ => rfl
  | .ds 0 _ _, .nilp => rfl
  | .nilp, .ds 0 _ _ => rfl
  | .ds (_ + 1) _ _, .nilp => rfl
  | .nilp, .ds (_ + 1) _ _ => rfl
  | .ds 0 _ _, .ptr _ _ => rfl
  | .ptr _ _, .ds 0 _ _ => rfl
  | .ds (_ + 1) _ _, .ptr _ _ => rfl
  | .ptr _ _, .ds (_ + 1) _ _ => rfl
  | .ds 0 _ _, .gptr _ _ => rfl
  | .gptr _ _, .ds 0 _ _ => rfl
  | .ds (_ + 1) _ _, .gptr _ _ => rfl
  | .gptr _ _, .ds (_ + 1) _ _ => rfl
  | .ds 0 _ _, .dptr _ => rfl
  | .dptr _, .ds 0 _ _ => rfl
  | .ds (_ + 1) _ _, .dptr _ => rfl
  | .dptr _, .ds (_ + 1) _ _ => rfl
  | .ds 0 _ _, .sl _ _ _ _ _ => rfl
  | .sl _ _ _ _ _, .ds 0 _ _ => rfl
  | .ds (_ + 1) _ _, .sl _ _ _ _ _ => rfl
  | .sl _ _ _ _ _, .ds (_ + 1) _ _ => rfl
  | .ds 0 _ _, .fn _ _ _ => rfl
  | .fn _ _ _, .ds 0 _ _ => rfl
  | .ds (_ + 1) _ _, .fn _ _ _ => rfl
  | .fn _ _ _, .ds (_ + 1) _ _ => rfl
  | .ds 0 _ _, .nilf => rfl
  | .nilf, .ds 0 _ _ => rfl
  | .ds (_ + 1) _ _, .nilf => rfl
  | .nilf, .ds (_ + 1) _ _ => rfl
  | .ds 0 _ _, .iface _ _ => rfl
  | .iface _ _, .ds 0 _ _ => rfl
  | .ds (_ + 1) _ _, .iface _ _ => rfl
  | .iface _ _, .ds (_ + 1) _ _ => rfl
  | .ds 0 _ _, .nili => rfl
  | .nili, .ds 0 _ _ => rfl
  | .ds (_ + 1) _ _, .nili => rfl
  | .nili, .ds (_ + 1) _ _ => rfl
  | .ds 0 _ _, .agg _ => rfl
  | .agg _, .ds 0 _ _ => rfl
  | .ds (_ + 1) _ _, .agg _ => rfl
  | .agg _, .ds (_ + 1) _ _ => rfl
  | .ds 0 _ _, .tup _ => rfl
  | .tup _, .ds 0 _ _ => rfl
  | .ds (_ + 1) _ _, .tup _ => rfl
  | .tup _, .ds (_ + 1) _ _ => rfl
  | .ds 0 _ _, .nilm => rfl
  | .nilm, .ds 0 _ _ => rfl
  | .ds (_ + 1) _ _, .nilm => rfl
  | .nilm, .ds (_ + 1) _ _ => rfl
  | .ds 0 _ _, .mp _ => rfl
  | .mp _, .ds 0 _ _ => rfl
  | .ds (_ + 1) _ _, .mp _ => rfl
  | .mp _, .ds (_ + 1) _ _ => rfl
  | .bool _, .bool _ => rfl
  | .bool _, .int _ _ => rfl
  | .bool _, .str _ => rfl
  | .bool _, .nilp => rfl
  | .bool _, .ptr _ _ => rfl
  | .bool _, .gptr _ _ => rfl
  | .bool _, .dptr _ => rfl
  | .bool _, .sl _ _ _ _ _ => rfl
  | .bool _, .fn _ _ _ => rfl
  | .bool _, .nilf => rfl
  | .bool _, .iface _ _ => rfl
  | .bool _, .nili => rfl
  | .bool _, .agg _ => rfl
  | .bool _, .tup _ => rfl
  | .bool _, .nilm => rfl
  | .bool _, .mp _ => rfl
  | .bool _, .nils => rfl
  | .int _ _, .bool _ => rfl
  | .int _ _, .int _ _ => rfl
  | .int _ _, .str _ => rfl
  | .int _ _, .nilp => rfl
  | .int _ _, .ptr _ _ => rfl
  | .int _ _, .gptr _ _ => rfl
  | .int _ _, .dptr _ => rfl
  | .int _ _, .sl _ _ _ _ _ => rfl
  | .int _ _, .fn _ _ _ => rfl
  | .int _ _, .nilf => rfl
  | .int _ _, .iface _ _ => rfl
  | .int _ _, .nili => rfl
  | .int _ _, .agg _ => rfl
  | .int _ _, .tup _ => rfl
  | .int _ _, .nilm => rfl
  | .int _ _, .mp _ => rfl
  | .int _ _, .nils => rfl
  | .str _, .bool _ => rfl
  | .str _, .int _ _ => rfl
  | .str _, .str _ => rfl
  | .str _, .nilp => rfl
  | .str _, .ptr _ _ => rfl
  | .str _, .gptr _ _ => rfl
  | .str _, .dptr _ => rfl
  | .str _, .sl _ _ _ _ _ => rfl
  | .str _, .fn _ _ _ => rfl
  | .str _, .nilf => rfl
  | .str _, .iface _ _ => rfl
  | .str _, .nili => rfl
  | .str _, .agg _ => rfl
  | .str _, .tup _ => rfl
  | .str _, .nilm => rfl
  | .str _, .mp _ => rfl
  | .str _, .nils => rfl
  | .nilp, .bool _ => rfl
  | .nilp, .int _ _ => rfl
  | .nilp, .str _ => rfl
  | .nilp, .nilp => rfl
  | .nilp, .ptr _ _ => rfl
  | .nilp, .gptr _ _ => rfl
  | .nilp, .dptr _ => rfl
  | .nilp, .sl _ _ _ _ _ => rfl
  | .nilp, .fn _ _ _ => rfl
  | .nilp, .nilf => rfl
  | .nilp, .iface _ _ => rfl
  | .nilp, .nili => rfl
  | .nilp, .agg _ => rfl
  | .nilp, .tup _ => rfl
  | .nilp, .nilm => rfl
  | .nilp, .mp _ => rfl
  | .nilp, .nils => rfl
  | .ptr _ _, .bool _ => rfl
  | .ptr _ _, .int _ _ => rfl
  | .ptr _ _, .str _ => rfl
  | .ptr _ _, .nilp => rfl
  | .ptr _ _, .ptr _ _ => rfl
  | .ptr _ _, .gptr _ _ => rfl
  | .ptr _ _, .dptr _ => rfl
  | .ptr _ _, .sl _ _ _ _ _ => rfl
  | .ptr _ _, .fn _ _ _ => rfl
  | .ptr _ _, .nilf => rfl
  | .ptr _ _, .iface _ _ => rfl
  | .ptr _ _, .nili => rfl
  | .ptr _ _, .agg _ => rfl
  | .ptr _ _, .tup _ => rfl
  | .ptr _ _, .nilm => rfl
  | .ptr _ _, .mp _ => rfl
  | .ptr _ _, .nils => rfl
  | .gptr _ _, .bool _ => rfl
  | .gptr _ _, .int _ _ => rfl
  | .gptr _ _, .str _ => rfl
  | .gptr _ _, .nilp => rfl
  | .gptr _ _, .ptr _ _ => rfl
  | .gptr _ _, .gptr _ _ => rfl
  | .gptr _ _, .dptr _ => rfl
  | .gptr _ _, .sl _ _ _ _ _ => rfl
  | .gptr _ _, .fn _ _ _ => rfl
  | .gptr _ _, .nilf => rfl
  | .gptr _ _, .iface _ _ => rfl
  | .gptr _ _, .nili => rfl
  | .gptr _ _, .agg _ => rfl
  | .gptr _ _, .tup _ => rfl
  | .gptr _ _, .nilm => rfl
  | .gptr _ _, .mp _ => rfl
  | .gptr _ _, .nils => rfl
  | .dptr _, .bool _ => rfl
  | .dptr _, .int _ _ => rfl
  | .dptr _, .str _ => rfl
  | .dptr _, .nilp => rfl
  | .dptr _, .ptr _ _ => rfl
  | .dptr _, .gptr _ _ => rfl
  | .dptr _, .dptr _ => rfl
  | .dptr _, .sl _ _ _ _ _ => rfl
  | .dptr _, .fn _ _ _ => rfl
  | .dptr _, .nilf => rfl
  | .dptr _, .iface _ _ => rfl
  | .dptr _, .nili => rfl
  | .dptr _, .agg _ => rfl
  | .dptr _, .tup _ => rfl
  | .dptr _, .nilm => rfl
  | .dptr _, .mp _ => rfl
  | .dptr _, .nils => rfl
  | .sl _ _ _ _ _, .bool _ => rfl
  | .sl _ _ _ _ _, .int _ _ => rfl
  | .sl _ _ _ _ _, .str _ => rfl
  | .sl _ _ _ _ _, .nilp => rfl
  | .sl _ _ _ _ _, .ptr _ _ => rfl
  | .sl _ _ _ _ _, .gptr _ _ => rfl
  | .sl _ _ _ _ _, .dptr _ => rfl
  | .sl _ _ _ _ _, .sl _ _ _ _ _ => rfl
  | .sl _ _ _ _ _, .fn _ _ _ => rfl
  | .sl _ _ _ _ _, .nilf => rfl
  | .sl _ _ _ _ _, .iface _ _ => rfl
  | .sl _ _ _ _ _, .nili => rfl
  | .sl _ _ _ _ _, .agg _ => rfl
  | .sl _ _ _ _ _, .tup _ => rfl
  | .sl _ _ _ _ _, .nilm => rfl
  | .sl _ _ _ _ _, .mp _ => rfl
  | .sl _ _ _ _ _, .nils => rfl
  | .fn _ _ _, .bool _ => rfl
  | .fn _ _ _, .int _ _ => rfl
  | .fn _ _ _, .str _ => rfl
  | .fn _ _ _, .nilp => rfl
  | .fn _ _ _, .ptr _ _ => rfl
  | .fn _ _ _, .gptr _ _ => rfl
  | .fn _ _ _, .dptr _ => rfl
  | .fn _ _ _, .sl _ _ _ _ _ => rfl
  | .fn _ _ _, .fn _ _ _ => rfl
  | .fn _ _ _, .nilf => rfl
  | .fn _ _ _, .iface _ _ => rfl
  | .fn _ _ _, .nili => rfl
  | .fn _ _ _, .agg _ => rfl
  | .fn _ _ _, .tup _ => rfl
  | .fn _ _ _, .nilm => rfl
  | .fn _ _ _, .mp _ => rfl
  | .fn _ _ _, .nils => rfl
  | .nilf, .bool _ => rfl
  | .nilf, .int _ _ => rfl
  | .nilf, .str _ => rfl
  | .nilf, .nilp => rfl
  | .nilf, .ptr _ _ => rfl
  | .nilf, .gptr _ _ => rfl
  | .nilf, .dptr _ => rfl
  | .nilf, .sl _ _ _ _ _ => rfl
  | .nilf, .fn _ _ _ => rfl
  | .nilf, .nilf => rfl
  | .nilf, .iface _ _ => rfl
  | .nilf, .nili => rfl
  | .nilf, .agg _ => rfl
  | .nilf, .tup _ => rfl
  | .nilf, .nilm => rfl
  | .nilf, .mp _ => rfl
  | .nilf, .nils => rfl
  | .iface _ _, .bool _ => rfl
  | .iface _ _, .int _ _ => rfl
  | .iface _ _, .str _ => rfl
  | .iface _ _, .nilp => rfl
  | .iface _ _, .ptr _ _ => rfl
  | .iface _ _, .gptr _ _ => rfl
  | .iface _ _, .dptr _ => rfl
  | .iface _ _, .sl _ _ _ _ _ => rfl
  | .iface _ _, .fn _ _ _ => rfl
  | .iface _ _, .nilf => rfl
  | .iface _ _, .iface _ _ => rfl
  | .iface _ _, .nili => rfl
  | .iface _ _, .agg _ => rfl
  | .iface _ _, .tup _ => rfl
  | .iface _ _, .nilm => rfl
  | .iface _ _, .mp _ => rfl
  | .iface _ _, .nils => rfl
  | .nili, .bool _ => rfl
  | .nili, .int _ _ => rfl
  | .nili, .str _ => rfl
  | .nili, .nilp => rfl
  | .nili, .ptr _ _ => rfl
  | .nili, .gptr _ _ => rfl
  | .nili, .dptr _ => rfl
  | .nili, .sl _ _ _ _ _ => rfl
  | .nili, .fn _ _ _ => rfl
  | .nili, .nilf => rfl
  | .nili, .iface _ _ => rfl
  | .nili, .nili => rfl
  | .nili, .agg _ => rfl
  | .nili, .tup _ => rfl
  | .nili, .nilm => rfl
  | .nili, .mp _ => rfl
  | .nili, .nils => rfl
  | .agg _, .bool _ => rfl
  | .agg _, .int _ _ => rfl
  | .agg _, .str _ => rfl
  | .agg _, .nilp => rfl
  | .agg _, .ptr _ _ => rfl
  | .agg _, .gptr _ _ => rfl
  | .agg _, .dptr _ => rfl
  | .agg _, .sl _ _ _ _ _ => rfl
  | .agg _, .fn _ _ _ => rfl
  | .agg _, .nilf => rfl
  | .agg _, .iface _ _ => rfl
  | .agg _, .nili => rfl
  | .agg _, .agg _ => rfl
  | .agg _, .tup _ => rfl
  | .agg _, .nilm => rfl
  | .agg _, .mp _ => rfl
  | .agg _, .nils => rfl
  | .tup _, .bool _ => rfl
  | .tup _, .int _ _ => rfl
  | .tup _, .str _ => rfl
  | .tup _, .nilp => rfl
  | .tup _, .ptr _ _ => rfl
  | .tup _, .gptr _ _ => rfl
  | .tup _, .dptr _ => rfl
  | .tup _, .sl _ _ _ _ _ => rfl
  | .tup _, .fn _ _ _ => rfl
  | .tup _, .nilf => rfl
  | .tup _, .iface _ _ => rfl
  | .tup _, .nili => rfl
  | .tup _, .agg _ => rfl
  | .tup _, .tup _ => rfl
  | .tup _, .nilm => rfl
  | .tup _, .mp _ => rfl
  | .tup _, .nils => rfl
  | .nilm, .bool _ => rfl
  | .nilm, .int _ _ => rfl
  | .nilm, .str _ => rfl
  | .nilm, .nilp => rfl
  | .nilm, .ptr _ _ => rfl
  | .nilm, .gptr _ _ => rfl
  | .nilm, .dptr _ => rfl
  | .nilm, .sl _ _ _ _ _ => rfl
  | .nilm, .fn _ _ _ => rfl
  | .nilm, .nilf => rfl
  | .nilm, .iface _ _ => rfl
  | .nilm, .nili => rfl
  | .nilm, .agg _ => rfl
  | .nilm, .tup _ => rfl
  | .nilm, .nilm => rfl
  | .nilm, .mp _ => rfl
  | .nilm, .nils => rfl
  | .mp _, .bool _ => rfl
  | .mp _, .int _ _ => rfl
  | .mp _, .str _ => rfl
  | .mp _, .nilp => rfl
  | .mp _, .ptr _ _ => rfl
  | .mp _, .gptr _ _ => rfl
  | .mp _, .dptr _ => rfl
  | .mp _, .sl _ _ _ _ _ => rfl
  | .mp _, .fn _ _ _ => rfl
  | .mp _, .nilf => rfl
  | .mp _, .iface _ _ => rfl
  | .mp _, .nili => rfl
  | .mp _, .agg _ => rfl
  | .mp _, .tup _ => rfl
  | .mp _, .nilm => rfl
  | .mp _, .mp _ => rfl
  | .mp _, .nils => rfl
  | .nils, .bool _ => rfl
  | .nils, .int _ _ => rfl
  | .nils, .str _ => rfl
  | .nils, .nilp => rfl
  | .nils, .ptr _ _ => rfl
  | .nils, .gptr _ _ => rfl
  | .nils, .dptr _ => rfl
  | .nils, .sl _ _ _ _ _ => rfl
  | .nils, .fn _ _ _ => rfl
  | .nils, .nilf => rfl
  | .nils, .iface _ _ => rfl
  | .nils, .nili => rfl
  | .nils, .agg _ => rfl
  | .nils, .tup _ => rfl
  | .nils, .nilm => rfl
  | .nils, .mp _ => rfl
  | .nils, .nils => rfl
theorem eqK_ok (d : TypeDesc) (x y : AV) : eqD d x y = eqK (eqKOf d) x y := by
  cases d
  case slice e => exact eqSlice e x y
  case interface ms =>
    show eqD (.interface ms) x y = eqK (bif ms.isEmpty then .iface0 else .iface1) x y
    cases h : ms.isEmpty <;> cases x <;> cases y <;> first | rfl | (show (bif ms.isEmpty then _ else _) = _; rw [h]; rfl)
  all_goals (cases x <;> cases y <;> rfl)
theorem keyKs_ok : ∀ {ds : List TypeDesc} {ks : List KeyK}, keyKs ds = some ks → ∀ xs ys, eqKeys ds xs ys = eqKeysK ks xs ys
  | [], ks, h, xs, ys => by
    simp only [keyKs] at h; injection h with h; subst h
    cases xs <;> cases ys <;> rfl
  | d :: ds, ks, h, xs, ys => by
    simp only [keyKs, Option.bind_eq_some_iff, Option.map_eq_some_iff] at h
    obtain ⟨k, hk, ks', hks, rfl⟩ := h
    have ih := keyKs_ok hks
    cases xs with
    | nil => rfl
    | cons x xs =>
      cases ys with
      | nil => rfl
      | cons y ys =>
        have hf : keyFits d x = keyFitsK k x := by
          cases d <;> simp only [keyKOf] at hk <;> first | (cases hk; done) | (injection hk with hk; subst hk; cases x <;> rfl)
        simp only [eqKeys, eqKeysK, hf]
        cases keyFitsK k x with
        | false => rfl
        | true =>
          simp only [cond_true]
          cases eqKey x y with
          | none => rfl
          | some b => cases b <;> simp [ih]
end
end Go.AM
namespace Go.AM
open Go
section
variable {P : Program} {G : Glob} {drawn : Bool} {T : Tmps} {H : Heap}
theorem binR_ok {t : TypeId} {fs : Option (List KeyK)} (hf : resFs (flatStruct P t) = some fs) (op : BinOp) (x y : AV) : binA P t op x y = binR ((P.underlying t).map eqKOf) fs op x y := by
  unfold binA binR
  split
  · rfl
  · rfl
  · cases h : flatStruct P t with
    | none => rw [h] at hf; simp only [resFs] at hf; injection hf with hf; subst hf; rfl
    | some ds =>
      rw [h] at hf
      simp only [resFs, Option.map_eq_some_iff] at hf
      obtain ⟨ks, hks, rfl⟩ := hf
      simp only [Option.bind_some]
      rw [keyKs_ok hks]
  · rename_i h1 h2 h3
    split
    · exact (h1 _ _ _ _ rfl rfl).elim
    · exact (h2 _ _ rfl rfl).elim
    · exact (h3 _ _ rfl rfl).elim
    · cases P.underlying t <;> simp [eqK_ok]
theorem resBuild_ok {z : List AV} {ps : List (Nat × Operand)} {d : TypeDesc} {r : ROp} (h : resBuild P z ps d = some r) : ∃ vs, evalP T ps = some vs ∧ ropA G T H r = .pure H (buildD P z vs d) := by
  cases d <;> simp only [resBuild] at h <;> try (cases h; done)
  · simp only [Option.bind_eq_some_iff, Option.map_eq_some_iff] at h
    obtain ⟨s, hs, q, hq, rfl⟩ := h
    obtain ⟨vs, h1, h2⟩ := resQ_ok (T := T) hq
    refine ⟨vs, h1, ?_⟩
    simp [buildD, hs, h2, ropA]
  · simp only [Option.bind_eq_some_iff, Option.map_eq_some_iff] at h
    obtain ⟨pl, hpl, q, hq, rfl⟩ := h
    obtain ⟨vs, h1, h2⟩ := resQ_ok (T := T) hq
    refine ⟨vs, h1, ?_⟩
    simp [buildD, hpl, h2, ropA]
theorem resCall_ok {c : Call} {r : ROp} (h : resCall P c = some r) : calleeA P T H c c.callee = ropA G T H r := by
  simp only [resCall, Option.bind_eq_some_iff] at h
  obtain ⟨args, ha, h⟩ := h
  have hl := resL_ok (T := T) ha
  cases hc : c.callee <;> rw [hc] at h <;> simp only at h
  · simp only [Option.map_eq_some_iff] at h
    obtain ⟨f, hf, rfl⟩ := h
    simp [calleeA, callOf, resX_ok hf, hl, ropA]
  · cases h
  · rename_i b
    simp only [calleeA, hl]
    unfold resBuiltin at h
    split at h
    · rename_i t t2 s x hts
      simp only [Option.bind_eq_some_iff, Option.map_eq_some_iff] at h
      obtain ⟨e, he, z, hz, d2, hd2, by_, hb, rfl⟩ := h
      simp only [evR, hts, builtinA, ropA, appendA, appendR, he, hz, hd2, Option.bind_some, appendN, appendNR, hb]
    · rename_i t x hts
      simp only [Option.bind_eq_some_iff, Option.map_eq_some_iff] at h
      obtain ⟨d, hd, k, hk, rfl⟩ := h
      simp only [evR, hts, builtinA, ropA, lenOfA, hd, Option.bind_some]
      cases d <;> simp only [resLenK] at hk <;> first | (cases hk; done) | (injection hk with hk; subst hk; rfl)
    · rename_i t x hts
      simp only [Option.map_eq_some_iff] at h
      obtain ⟨e, he, rfl⟩ := h
      simp only [evR, hts, builtinA, ropA, capA, he, Option.bind_some]
    · rename_i x y
      injection h with h; subst h
      simp only [evR, builtinA, ropA]
    · rename_i x y
      injection h with h; subst h
      simp only [evR, builtinA, ropA]
    · rename_i t x hts
      simp only [Option.bind_eq_some_iff, Option.map_eq_some_iff] at h
      obtain ⟨e, he, z, hz, rfl⟩ := h
      simp only [evR, hts, builtinA, ropA, clearA, clearR, he, hz, Option.bind_some]
    · cases h
theorem notIfaceT_ok {t : TypeId} (h : notIfaceT P t = true) : ∃ d, P.underlying t = some d ∧ notIface d = true := by
  unfold notIfaceT at h
  split at h
  · rename_i d hd; exact ⟨d, hd, h⟩
  · cases h
theorem keyKOf_ok {d : TypeDesc} {k : KeyK} (h : keyKOf d = some k) (x : AV) : keyFits d x = keyFitsK k x := by
  cases d <;> simp only [keyKOf] at h <;> first | (cases h; done) | (injection h with h; subst h; cases x <;> rfl)
theorem resOp_ok {op : Op} {r : ROp} (h : resOp P drawn op = some r) : opA P G drawn T H op = ropA G T H r := by
  cases op <;> simp only [resOp] at h <;> try (cases h; done)
  case move x =>
    simp only [Option.map_eq_some_iff] at h; obtain ⟨x, hx, rfl⟩ := h
    simp [opA, resX_ok hx, ropA, OR.pure]
  case assign x =>
    simp only [Option.map_eq_some_iff] at h; obtain ⟨x, hx, rfl⟩ := h
    simp [opA, resX_ok hx, ropA, OR.pure]
  case pick c a b =>
    simp only [Option.bind_eq_some_iff, Option.map_eq_some_iff] at h
    obtain ⟨c, hc, a, ha, b, hb, rfl⟩ := h
    simp only [opA, pickO, resX_ok hc, Option.bind_some, ropA]
    unfold pickA
    split <;> simp [resX_ok ha, resX_ok hb, OR.pure, *]
  case alloc e =>
    simp only [Option.map_eq_some_iff] at h; obtain ⟨z, hz, rfl⟩ := h
    simp [opA, allocO, hz, rowOf, ropA, OR.of]
  case box e x =>
    simp only [Option.map_eq_some_iff] at h; obtain ⟨x, hx, rfl⟩ := h
    simp [opA, boxO, resX_ok hx, rowOf, ropA, OR.of]
  case build t ps =>
    simp only [Option.bind_eq_some_iff] at h
    obtain ⟨z, hz, d, hd, h⟩ := h
    obtain ⟨vs, h1, h2⟩ := resBuild_ok (T := T) (H := H) (G := G) h
    simp [opA, buildO, h1, buildA, hz, hd, h2]
  case buildSlice t n ps =>
    simp only [Option.bind_eq_some_iff] at h
    obtain ⟨e, he, sz, hsz, h⟩ := h
    cases hb : Nat.ble (n * sz.1) 16777216 with
    | false => rw [hb] at h; cases h
    | true =>
      rw [hb] at h
      simp only [cond_true, Option.map_eq_some_iff] at h
      obtain ⟨q, hq, rfl⟩ := h
      obtain ⟨vs, h1, h2⟩ := resQ_ok (T := T) hq
      simp only [opA, litO, h1, Option.bind_some, litA, he, sliceCells, hsz, hb, cond_true, ropA, h2]
      cases fillR (repeatCells sz.2 n) (evQ T q) with
      | none => rfl
      | some cs => cases drawn <;> rfl
  case load t a =>
    simp only [Option.bind_eq_some_iff, Option.map_eq_some_iff] at h
    obtain ⟨agg, hagg, n, hn, a, ha, rfl⟩ := h
    simp [opA, loadO, resX_ok ha, loadA, hagg, hn, ropA, loadR]
  case store t a x =>
    simp only [Option.bind_eq_some_iff, Option.map_eq_some_iff] at h
    obtain ⟨n, hn, a, ha, x, hx, rfl⟩ := h
    simp [opA, storeO, resX_ok ha, resX_ok hx, storeA, hn, ropA, storeR]
  case nilCheck x =>
    simp only [Option.map_eq_some_iff] at h; obtain ⟨x, hx, rfl⟩ := h
    simp [opA, resX_ok hx, ropA]
  case binOp op t x y t2 =>
    simp only [Option.bind_eq_some_iff, Option.map_eq_some_iff] at h
    obtain ⟨x, hx, y, hy, fs, hfs, rfl⟩ := h
    simp [opA, binO, resX_ok hx, resX_ok hy, ropA, binR_ok hfs]
  case unOp op t x =>
    simp only [Option.map_eq_some_iff] at h; obtain ⟨x, hx, rfl⟩ := h
    simp [opA, resX_ok hx, ropA]
  case convert a b x =>
    simp only [Option.bind_eq_some_iff] at h
    obtain ⟨x, hx, h⟩ := h
    simp only [resConv, Option.bind_eq_some_iff] at h
    obtain ⟨ds, hds, dd, hdd, h⟩ := h
    simp only [opA, resX_ok hx, Option.bind_some, convA, hds, hdd]
    cases dd <;> simp only at h <;> try (cases h; done)
    · injection h with h; subst h; rfl
    · cases ds <;> simp only at h <;> try (cases h; done)
      · injection h with h; subst h; rfl
      · rename_i e
        cases hb : isByteT P e with
        | false => rw [hb] at h; cases h
        | true =>
          rw [hb] at h
          simp only [cond_true] at h
          injection h with h; subst h
          simp [toStrA, hb, ropA, convR]
    · rename_i e
      cases hb : isByteT P e with
      | false => rw [hb] at h; cases h
      | true =>
        rw [hb] at h
        simp only [cond_true] at h
        injection h with h; subst h
        simp only [toSliceA, hb, ropA, convR, cond_true]
        cases RX.ev T x <;> rfl
  case makeInterface t x =>
    cases hb : notIfaceT P t with
    | false => rw [hb] at h; cases h
    | true =>
      rw [hb] at h
      simp only [cond_true, Option.map_eq_some_iff] at h
      obtain ⟨x, hx, rfl⟩ := h
      obtain ⟨d, hd, hn⟩ := notIfaceT_ok hb
      simp [opA, resX_ok hx, ifaceA, hd, hn, ropA, OR.pure]
  case makeFunc fn first caps =>
    cases fn <;> simp only at h <;> try (cases h; done)
    simp only [Option.bind_eq_some_iff, Option.map_eq_some_iff] at h
    obtain ⟨a, ha, b, hb, rfl⟩ := h
    simp [opA, funcO, resL_ok ha, resL_ok hb, ropA, OR.pure]
  case makeMap t r =>
    cases r with
    | none => simp only at h; injection h with h; subst h; rfl
    | some r =>
      simp only at h
      cases hb : isMapT P t with
      | false => rw [hb] at h; cases h
      | true =>
        rw [hb] at h
        simp only [cond_true, Option.map_eq_some_iff] at h
        obtain ⟨x, hx, rfl⟩ := h
        simp only [opA, mapO, hb, cond_true, resX_ok hx, Option.bind_some, ropA]
        cases RX.ev T x <;> rfl
  case makeSlice t l c =>
    simp only [Option.bind_eq_some_iff, Option.map_eq_some_iff] at h
    obtain ⟨l, hl, c, hc, e, he, sz, hsz, b, hb, rfl⟩ := h
    simp [opA, makeSliceO, resX_ok hl, resX_ok hc, makeSliceA, he, hsz, hb, ropA, makeSliceR]
  case slice t x lo hi mx =>
    simp only [Option.bind_eq_some_iff, Option.map_eq_some_iff] at h
    obtain ⟨x, hx, lo, hlo, hi, hhi, mx, hmx, d, hd, k, hk, rfl⟩ := h
    simp only [opA, sliceO, resX_ok hx, resO_ok hlo, resO_ok hhi, resO_ok hmx, Option.bind_some, sliceA, hd, ropA, sliceR]
    have : ∀ i, sliceD P G H (RX.ev T x) i (evO T hi) (evO T mx) d = sliceRd G H (RX.ev T x) i (evO T hi) (evO T mx) k := by
      intro i
      cases d <;> simp only [resSliceK, Option.map_eq_some_iff] at hk <;> try (cases hk; done)
      · injection hk with hk; subst hk; rfl
      · obtain ⟨s, hs, rfl⟩ := hk; simp [sliceD, sliceRd, hs]
      · obtain ⟨s, hs, rfl⟩ := hk; simp [sliceD, sliceRd, hs]
    simp [this]
  case fieldAddr t x f =>
    simp only [Option.bind_eq_some_iff] at h
    obtain ⟨x, hx, d, hd, h⟩ := h
    cases d <;> simp only [resFaddr] at h <;> try (cases h; done)
    simp only [Option.bind_eq_some_iff] at h
    obtain ⟨fd, hfd, s, hs, h⟩ := h
    cases hb : Nat.beq s 0 with
    | true => rw [hb] at h; cases h
    | false =>
      rw [hb] at h
      simp only [cond_false] at h
      injection h with h; subst h
      simp only [opA, resX_ok hx, Option.bind_some, fieldAddrA, hd, hfd, hs, hb, cond_false, ropA]
  case field t x f =>
    simp only [Option.bind_eq_some_iff] at h
    obtain ⟨x, hx, d, hd, h⟩ := h
    cases d <;> simp only [resField] at h <;> try (cases h; done)
    simp only [Option.bind_eq_some_iff, Option.map_eq_some_iff] at h
    obtain ⟨fd, hfd, agg, hagg, s, hs, rfl⟩ := h
    simp only [opA, resX_ok hx, Option.bind_some, fieldA, hd, hfd, ropA, fieldR, partA, partR, hagg, hs]
    cases RX.ev T x <;> rfl
  case indexAddr t x ix =>
    simp only [Option.bind_eq_some_iff] at h
    obtain ⟨x, hx, ix, hix, d, hd, h⟩ := h
    cases d <;> simp only [resIaddr, Option.map_eq_some_iff] at h <;> try (cases h; done)
    · obtain ⟨s, hs, rfl⟩ := h
      simp [opA, idxAddrO, resX_ok hx, resX_ok hix, indexAddrA, hd, hs, ropA, indexSl]
    · obtain ⟨s, hs, rfl⟩ := h
      simp [opA, idxAddrO, resX_ok hx, resX_ok hix, indexAddrA, hd, hs, ropA, indexArr]
  case index t x ix =>
    simp only [Option.bind_eq_some_iff] at h
    obtain ⟨x, hx, ix, hix, d, hd, h⟩ := h
    cases d <;> simp only [resIdx, Option.map_eq_some_iff, Option.bind_eq_some_iff] at h <;> try (cases h; done)
    · injection h with h; subst h
      simp only [opA, idxO, resX_ok hx, resX_ok hix, Option.bind_some, indexA, hd, ropA, indexStr]
      cases RX.ev T x <;> rfl
    · obtain ⟨s, hs, agg, hagg, rfl⟩ := h
      simp only [opA, idxO, resX_ok hx, resX_ok hix, Option.bind_some, indexA, hd, ropA, indexAgg, partA, partR, hagg, hs]
      cases RX.ev T x <;> rfl
  case lookup t x ix ok =>
    simp only [Option.bind_eq_some_iff, Option.map_eq_some_iff] at h
    obtain ⟨x, hx, ix, hix, de, hde, k, hk, z, hz, rfl⟩ := h
    simp only [opA, lookupO, resX_ok hx, resX_ok hix, Option.bind_some, lookupA, hde, hz, keyKOf_ok hk, ropA, lookupR]
    cases mapOf H (RX.ev T x) with
    | none => rfl
    | some es => cases h : mapFind (RX.ev T ix) es <;> simp [h]
  case mapUpdate t m k v =>
    simp only [Option.bind_eq_some_iff, Option.map_eq_some_iff] at h
    obtain ⟨m, hm, k, hk, v, hv, de, hde, d, hd, rfl⟩ := h
    simp only [opA, mapUpdO, resX_ok hm, resX_ok hk, resX_ok hv, Option.bind_some, ropA]
    cases RX.ev T m <;> simp only [mapUpdateA, mapUpdR, hde, keyKOf_ok hd, Option.bind_some] <;> rfl
  case insert t m k v =>
    simp only [Option.bind_eq_some_iff, Option.map_eq_some_iff] at h
    obtain ⟨m, hm, k, hk, v, hv, de, hde, d, hd, rfl⟩ := h
    simp only [opA, mapUpdO, resX_ok hm, resX_ok hk, resX_ok hv, Option.bind_some, ropA]
    cases RX.ev T m <;> simp only [mapUpdateA, mapUpdR, hde, keyKOf_ok hd, Option.bind_some] <;> rfl
  case typeAssert x t a ok =>
    cases hb : notIfaceT P a with
    | false => rw [hb] at h; cases h
    | true =>
      rw [hb] at h
      simp only [cond_true, Option.map_eq_some_iff] at h
      obtain ⟨x, hx, rfl⟩ := h
      obtain ⟨d, hd, hn⟩ := notIfaceT_ok hb
      simp only [opA, resX_ok hx, Option.bind_some, assertA, hd, hn, cond_true, ropA, assertR]
      cases RX.ev T x <;> rfl
  case extract t i =>
    simp only [Option.map_eq_some_iff] at h; obtain ⟨x, hx, rfl⟩ := h
    simp [opA, resX_ok hx, ropA]
  case panic x =>
    simp only [Option.map_eq_some_iff] at h; obtain ⟨x, hx, rfl⟩ := h
    simp [opA, resX_ok hx, ropA]
  case defer c =>
    simp only [resDefer, Option.bind_eq_some_iff] at h
    obtain ⟨args, ha, h⟩ := h
    cases hc : c.callee <;> rw [hc] at h <;> simp only at h <;> try (cases h; done)
    simp only [Option.map_eq_some_iff] at h
    obtain ⟨f, hf, rfl⟩ := h
    simp [opA, hc, deferCallee, callOf, resX_ok hf, resL_ok ha, ropA]
  case call c => exact resCall_ok h
end
end Go.AM
namespace Go.AM
open Go
noncomputable section
structure ROper where
  dst : Option Nat
  op : ROp
  guard : Option (Nat × Bool)
def guardR (T : Tmps) : Option (Nat × Bool) → Bool
  | none => true
  | some dw => isBool dw.2 (T.at dw.1)
inductive RCode where
  | skip
  | region (ops : List ROper)
  | drawn (ops : List (ROper × List ROper))
  | seq (a b : RCode)
  | cond (c : RX) (a b : RCode)
  | block (id : Nat) (b : RCode)
  | loop (b : RCode)
  | exit (id : Nat)
  | ret
inductive RRes where
  | tmp (t : Nat)
  | cell (a : Nat) (agg : Bool) (n : Nat)
structure RFunc where
  results : List RRes
  body : Option RCode
  defer : Option (Option Nat × List ROper × RCode)
section
variable (G : Glob) (ev : Ev)
def rstep (o : ROper) (s : St) : ES := bif guardR s.T o.guard then afterA ev s o.dst (ropA G s.T s.H o.op) else ⟨.normal, s.put o.dst undefA s.H⟩
def rops : List ROper → St → ES
  | [], s => ⟨.normal, s⟩
  | o :: rest, s => (rstep G ev o s).then (rops rest)
def ragain (s : St) (o : ROper) : Bool :=
  bif guardR s.T o.guard then (match ropA G s.T s.H o.op with
    | .val v _ => (match o.dst with | some d => eqAV v (s.T.at d) | none => false)
    | _ => false) else true
def ragains (s : St) : List ROper → Bool
  | [] => true
  | o :: r => ragain G s o && ragains s r
def rdrawn : List (ROper × List ROper) → St → ES
  | [], s => ⟨.normal, s⟩
  | x :: rest, s => (rstep G ev x.1 s).then fun s => bif ragains G s x.2 then rdrawn rest s else ⟨.fail, s⟩
def rcond (v : AV) (s : St) (a b : St → ES) : ES := match v with | .bool true => a s | .bool false => b s | _ => ⟨.fail, s⟩
def rcode (L : Nat) : RCode → St → ES
  | .skip, s => ⟨.normal, s⟩
  | .region ops, s => rops G ev ops s
  | .drawn l, s => (rdrawn G ev l s).noPanic
  | .seq a b, s => (rcode L a s).then (rcode L b)
  | .cond c a b, s => rcond (c.ev s.T) s (rcode L a) (rcode L b)
  | .block id b, s => (rcode L b s).inBlock id
  | .loop b, s => loopA (rcode L b) L s
  | .exit id, s => ⟨.exit id, s⟩
  | .ret, s => ⟨.ret, s⟩
end
def rres (G : Glob) (T : Tmps) (H : Heap) : RRes → Option AV
  | .tmp t => some (T.at t)
  | .cell a agg n => loadR agg n G H (T.at a)
def rresL (G : Glob) (T : Tmps) (H : Heap) : List RRes → Option (List AV)
  | [] => some []
  | x :: r => (rres G T H x).bind fun a => (rresL G T H r).map fun b => a :: b
def rret (G : Glob) (res : List RRes) (T : Tmps) (H : Heap) : Option AV → CR
  | some v => .panic v H
  | none => match rresL G T H res with | some vs => .ret (oneOrTup vs) H | none => .fail
def rdefer (F : FuncId → Option RFunc) (G : Glob) (ev : Ev) (L : Nat) (f : FuncId) (args : List AV) (u : Option AV) (H : Heap) : Option (Option AV × Heap) :=
  (F f).bind fun fn => fn.defer.bind fun d =>
    noneLeft ((rops G ev d.2.1 ⟨putA (argsT args 0 .lf) d.1 (match u with | some v => v | none => .nili), H, []⟩).then (rcode G ev L d.2.2))
def rfin (F : FuncId → Option RFunc) (G : Glob) (ev : Ev) (L : Nat) (res : List RRes) (s : St) (u : Option AV) : CR :=
  match s.D with
  | [] => rret G res s.T s.H u
  | [d] => (match rdefer F G ev L d.1 d.2 u s.H with | some uH => rret G res s.T uH.2 uH.1 | none => .fail)
  | _ => .fail
def rleave (F : FuncId → Option RFunc) (G : Glob) (ev : Ev) (L : Nat) (res : List RRes) (r : ES) : CR :=
  match r.e with
  | .normal | .ret => rfin F G ev L res r.s none
  | .panic v => rfin F G ev L res r.s (some v)
  | _ => .fail
def rbody (F : FuncId → Option RFunc) (G : Glob) (ev : Ev) (L : Nat) (f : FuncId) (args : List AV) (H : Heap) : CR :=
  match F f with
  | none => .fail
  | some fn => match fn.body with
    | none => .fail
    | some c => rleave F G ev L fn.results (rcode G ev L c ⟨argsT args 0 .lf, H, []⟩)
def callR (F : FuncId → Option RFunc) (G : Glob) (L : Nat) : Nat → Ev
  | 0 => fun _ _ _ => .fail
  | n + 1 => rbody F G (callR F G L n) L
def resGuard (ops : Array Oper) : Option (Nat × Bool) → Option (Option (Nat × Bool))
  | none => some none
  | some jw => (dstOf ops jw.1).map fun d => some (d, jw.2)
def resOper (P : Program) (drawn : Bool) (ops : Array Oper) (o : Oper) : Option ROper :=
  (resGuard ops o.guard).bind fun g => (resOp P drawn o.op).map fun r => ⟨o.dst, r, g⟩
def resOpers (P : Program) (drawn : Bool) (ops : Array Oper) : List Oper → Option (List ROper)
  | [] => some []
  | o :: r => (resOper P drawn ops o).bind fun a => (resOpers P drawn ops r).map fun b => a :: b
def resAt (P : Program) (ops : Array Oper) : List Nat → Option (List ROper)
  | [] => some []
  | j :: r => (ops[j]?).bind fun o => (resOper P true ops o).bind fun a => (resAt P ops r).map fun b => a :: b
def resDrawn (P : Program) (ops : Array Oper) : Sched → Option (List (ROper × List ROper))
  | [] => some []
  | ir :: r => (ops[ir.1]?).bind fun o => (resOper P true ops o).bind fun a => (resAt P ops ir.2).bind fun l => (resDrawn P ops r).map fun b => (a, l) :: b
def resCode (P : Program) (sch : Nat → Option Sched) : Code → Option RCode
  | .skip => some .skip
  | .label _ => some .skip
  | .region id ops false => (resOpers P false ops ops.toList).map .region
  | .region id ops true => (sch id).bind fun l => bif Nat.beq l.length ops.size then (resDrawn P ops l).map .drawn
      else bif Nat.beq (l.length + 1) ops.size then (resDrawn P ops.pop l).bind fun d => (ops[ops.size - 1]?).bind fun o => (resOper P false ops o).map fun r => .seq (.drawn d) (.region [r])
      else none
  | .seq a b => (resCode P sch a).bind fun a => (resCode P sch b).map fun b => .seq a b
  | .cond c a b => (resX c).bind fun c => (resCode P sch a).bind fun a => (resCode P sch b).map fun b => .cond c a b
  | .block id b => (resCode P sch b).map fun b => .block id b
  | .loop b => (resCode P sch b).map fun b => .loop b
  | .exit id => some (.exit id)
  | .ret => some .ret
  | _ => none
def resRes (P : Program) : ResultVar → Option RRes
  | .tmp t => some (.tmp t)
  | .cell a t => (isAggT P t).bind fun agg => (sizeT P t).map fun n => .cell a agg n
def resRess (P : Program) : List ResultVar → Option (List RRes)
  | [] => some []
  | x :: r => (resRes P x).bind fun a => (resRess P r).map fun b => a :: b
def resDef (P : Program) (sch : Nat → Option Sched) (fn : Func) : Code → Option (Option Nat × List ROper × RCode)
  | .seq (.region _ ops false) rest => bif fn.results.isEmpty then (match ops.toList with
    | o :: os => bif isRecover o.op && o.guard.isNone then (resOpers P false ops os).bind fun l => (resCode P sch rest).map fun c => (o.dst, l, c) else none
    | [] => none) else none
  | _ => none
def resFunc (P : Program) (sch : Nat → Option Sched) (fn : Func) : Option RFunc :=
  fn.body.bind fun c => (resRess P fn.results.toList).map fun rs => ⟨rs, resCode P sch c, resDef P sch fn c⟩
def Resolved (P : Program) (Sch : FuncId → Nat → Option Sched) (F : FuncId → Option RFunc) : Prop := ∀ f rf, F f = some rf → (P.funcs[f]?).bind (resFunc P (Sch f)) = some rf
end
end Go.AM
namespace Go.AM
open Go
section
variable {P : Program} {G : Glob} {ev : Ev} {sch : Nat → Option Sched} {L : Nat}
theorem resGuard_ok {ops : Array Oper} {g : Option (Nat × Bool)} {r : Option (Nat × Bool)} (h : resGuard ops g = some r) (T : Tmps) : guardOk ops T g = guardR T r := by
  cases g with
  | none => simp only [resGuard] at h; injection h with h; subst h; rfl
  | some jw =>
    simp only [resGuard, Option.map_eq_some_iff] at h
    obtain ⟨d, hd, rfl⟩ := h
    simp [guardOk, hd, guardR]
theorem resOper_ok {drawn : Bool} {ops : Array Oper} {o : Oper} {r : ROper} (h : resOper P drawn ops o = some r) :
    r.dst = o.dst ∧ (∀ T, guardOk ops T o.guard = guardR T r.guard) ∧ ∀ T H, opA P G drawn T H o.op = ropA G T H r.op := by
  simp only [resOper, Option.bind_eq_some_iff, Option.map_eq_some_iff] at h
  obtain ⟨g, hg, x, hx, rfl⟩ := h
  exact ⟨rfl, fun T => resGuard_ok hg T, fun T H => resOp_ok hx⟩
theorem rstep_ok {drawn : Bool} {ops : Array Oper} {o : Oper} {r : ROper} (h : resOper P drawn ops o = some r) (s : St) : stepA P G ev drawn ops o s = rstep G ev r s := by
  obtain ⟨h1, h2, h3⟩ := resOper_ok (G := G) h
  simp [stepA, rstep, h1, h2, h3]
theorem rops_ok {ops : Array Oper} : ∀ {l : List Oper} {r : List ROper}, resOpers P false ops l = some r → ∀ s, opsA P G ev ops l s = rops G ev r s
  | [], r, h, s => by simp only [resOpers] at h; injection h with h; subst h; rfl
  | o :: l, r, h, s => by
    simp only [resOpers, Option.bind_eq_some_iff, Option.map_eq_some_iff] at h
    obtain ⟨a, ha, b, hb, rfl⟩ := h
    have : opsA P G ev ops l = rops G ev b := funext fun s => rops_ok hb s
    simp only [opsA, rops, rstep_ok ha, this]
theorem ragains_ok {ops : Array Oper} {s : St} : ∀ {l : List Nat} {r : List ROper}, resAt P ops l = some r → allAgain P G ops s l = ragains G s r
  | [], r, h => by simp only [resAt] at h; injection h with h; subst h; rfl
  | j :: l, r, h => by
    simp only [resAt, Option.bind_eq_some_iff, Option.map_eq_some_iff] at h
    obtain ⟨o, ho, a, ha, b, hb, rfl⟩ := h
    obtain ⟨h1, h2, h3⟩ := resOper_ok (G := G) ha
    simp only [allAgain, ragains, ragains_ok hb]
    congr 1
    simp only [againA, ho, ragain, h1, h2, h3]
    cases guardR s.T a.guard with
    | false => rfl
    | true =>
      simp only [cond_true]
      cases ropA G s.T s.H a.op <;> rfl
theorem rdrawn_ok {ops : Array Oper} : ∀ {l : Sched} {r : List (ROper × List ROper)}, resDrawn P ops l = some r → ∀ s, drawnA P G ev ops l s = rdrawn G ev r s
  | [], r, h, s => by simp only [resDrawn] at h; injection h with h; subst h; rfl
  | ir :: l, r, h, s => by
    simp only [resDrawn, Option.bind_eq_some_iff, Option.map_eq_some_iff] at h
    obtain ⟨o, ho, a, ha, q, hq, b, hb, rfl⟩ := h
    simp only [drawnA, ho, rdrawn, rstep_ok ha]
    congr 1
    funext s
    rw [ragains_ok hq, rdrawn_ok hb]
theorem condR_ok {c : Operand} {r : RX} (h : resX c = some r) (s : St) (a b : St → ES) : condA (evalA s.T c) s a b = rcond (r.ev s.T) s a b := by
  rw [resX_ok h]
  unfold condA rcond
  cases RX.ev s.T r <;> first | rfl | (rename_i b; cases b <;> rfl)
theorem rcode_ok : ∀ {c : Code} {r : RCode}, resCode P sch c = some r → ∀ s, codeA P G ev sch L c s = rcode G ev L r s
  | .skip, r, h, s => by simp only [resCode] at h; injection h with h; subst h; rfl
  | .label _, r, h, s => by simp only [resCode] at h; injection h with h; subst h; rfl
  | .exit _, r, h, s => by simp only [resCode] at h; injection h with h; subst h; rfl
  | .ret, r, h, s => by simp only [resCode] at h; injection h with h; subst h; rfl
  | .region id ops false, r, h, s => by
    simp only [resCode, Option.map_eq_some_iff] at h
    obtain ⟨l, hl, rfl⟩ := h
    simp only [codeA, regionA, rcode, rops_ok hl]
  | .region id ops true, r, h, s => by
    simp only [resCode, Option.bind_eq_some_iff] at h
    obtain ⟨q, hq, h⟩ := h
    simp only [codeA, regionA, hq]
    cases hb : Nat.beq q.length ops.size with
    | true =>
      rw [hb, cond_true, Option.map_eq_some_iff] at h
      obtain ⟨l, hl, rfl⟩ := h
      simp only [cond_true, rcode, rdrawn_ok hl]
    | false =>
      rw [hb, cond_false] at h
      simp only [cond_false]
      cases hb2 : Nat.beq (q.length + 1) ops.size with
      | false => rw [hb2, cond_false] at h; cases h
      | true =>
        rw [hb2, cond_true] at h
        simp only [Option.bind_eq_some_iff, Option.map_eq_some_iff] at h
        obtain ⟨d, hd, o, ho, x, hx, rfl⟩ := h
        have hlast : lastA P G ev ops = rops G ev [x] := by
          funext s
          unfold lastA
          rw [ho]
          simp only [rops, rstep_ok hx]
          generalize rstep G ev x s = r
          obtain ⟨e, s1⟩ := r
          cases e <;> rfl
        simp only [cond_true, rcode, rdrawn_ok hd, hlast]
  | .seq a b, r, h, s => by
    simp only [resCode, Option.bind_eq_some_iff, Option.map_eq_some_iff] at h
    obtain ⟨a', ha, b', hb, rfl⟩ := h
    have : codeA P G ev sch L b = rcode G ev L b' := funext fun s => rcode_ok hb s
    simp only [codeA, rcode, rcode_ok ha, this]
  | .cond c a b, r, h, s => by
    simp only [resCode, Option.bind_eq_some_iff, Option.map_eq_some_iff] at h
    obtain ⟨x, hx, a', ha, b', hb, rfl⟩ := h
    have h1 : codeA P G ev sch L a = rcode G ev L a' := funext fun s => rcode_ok ha s
    have h2 : codeA P G ev sch L b = rcode G ev L b' := funext fun s => rcode_ok hb s
    simp only [codeA, rcode, condR_ok hx, h1, h2]
  | .block id b, r, h, s => by
    simp only [resCode, Option.map_eq_some_iff] at h
    obtain ⟨b', hb, rfl⟩ := h
    simp only [codeA, rcode, rcode_ok hb]
  | .loop b, r, h, s => by
    simp only [resCode, Option.map_eq_some_iff] at h
    obtain ⟨b', hb, rfl⟩ := h
    have h1 : codeA P G ev sch L b = rcode G ev L b' := funext fun s => rcode_ok hb s
    simp only [codeA, rcode, h1]
  | .goto _, r, h, s => by simp [resCode] at h
  | .refuse _, r, h, s => by simp [resCode] at h
  | .scope _, r, h, s => by simp [resCode] at h
  | .rangeFunc _ _ _ _, r, h, s => by simp [resCode] at h
theorem rres_ok {x : ResultVar} {r : RRes} (h : resRes P x = some r) (T : Tmps) (H : Heap) : resultA P G T H x = rres G T H r := by
  cases x with
  | tmp t => simp only [resRes] at h; injection h with h; subst h; rfl
  | cell a t =>
    simp only [resRes, Option.bind_eq_some_iff, Option.map_eq_some_iff] at h
    obtain ⟨agg, hagg, n, hn, rfl⟩ := h
    simp [resultA, loadA, hagg, hn, rres, loadR]
theorem rresL_ok : ∀ {x : List ResultVar} {r : List RRes}, resRess P x = some r → ∀ (T : Tmps) (H : Heap), resultsL P G T H x = rresL G T H r
  | [], r, h, T, H => by simp only [resRess] at h; injection h with h; subst h; rfl
  | x :: l, r, h, T, H => by
    simp only [resRess, Option.bind_eq_some_iff, Option.map_eq_some_iff] at h
    obtain ⟨a, ha, b, hb, rfl⟩ := h
    simp only [resultsL, rresL, rres_ok ha, rresL_ok hb]
theorem rret_ok {fn : Func} {rs : List RRes} (h : resRess P fn.results.toList = some rs) (T : Tmps) (H : Heap) (u : Option AV) : retA P G fn T H u = rret G rs T H u := by
  cases u with
  | some v => rfl
  | none =>
    simp only [retA, rret, resultsA, rresL_ok h]
    cases rresL G T H rs <;> rfl
end
section
variable {P : Program} {G : Glob} {ev : Ev} {Sch : FuncId → Nat → Option Sched} {F : FuncId → Option RFunc} {L : Nat}
theorem rdefer_ok (hF : Resolved P Sch F) {f : FuncId} {args : List AV} {u : Option AV} {H : Heap} {x : Option AV × Heap} (h : rdefer F G ev L f args u H = some x) : deferA P G ev Sch L f args u H = some x := by
  simp only [rdefer, Option.bind_eq_some_iff] at h
  obtain ⟨rf, hrf, d, hd, h⟩ := h
  have := hF f rf hrf
  simp only [Option.bind_eq_some_iff] at this
  obtain ⟨fn, hfn, hres⟩ := this
  simp only [resFunc, Option.bind_eq_some_iff, Option.map_eq_some_iff] at hres
  obtain ⟨c, hc, rs, hrs, rfl⟩ := hres
  simp only at hd
  unfold resDef at hd
  split at hd
  · rename_i id ops rest
    cases he : fn.results.isEmpty with
    | false => rw [he] at hd; cases hd
    | true =>
      rw [he] at hd
      simp only [cond_true] at hd
      split at hd
      · rename_i o os ho
        cases hr : isRecover o.op && o.guard.isNone with
        | false => rw [hr] at hd; cases hd
        | true =>
          rw [hr] at hd
          simp only [cond_true, Option.bind_eq_some_iff, Option.map_eq_some_iff] at hd
          obtain ⟨l, hl, c', hc', rfl⟩ := hd
          simp only [deferA, hfn, Option.bind_some, hc, he, cond_true, deferBody, ho, hr]
          have e : codeA P G ev (Sch f) L rest = rcode G ev L c' := funext fun s => rcode_ok hc' s
          rw [rops_ok hl, e]
          exact h
      · cases hd
  · cases hd
theorem rbody_ok (hF : Resolved P Sch F) (f : FuncId) (args : List AV) (H : Heap) : rbody F G ev L f args H = .fail ∨ rbody F G ev L f args H = bodyA P G ev Sch L f args H := by
  unfold rbody
  cases hf : F f with
  | none => exact .inl rfl
  | some rf =>
    have := hF f rf hf
    simp only [Option.bind_eq_some_iff] at this
    obtain ⟨fn, hfn, hres⟩ := this
    simp only [resFunc, Option.bind_eq_some_iff, Option.map_eq_some_iff] at hres
    obtain ⟨c, hc, rs, hrs, rfl⟩ := hres
    simp only
    cases hb : resCode P (Sch f) c with
    | none => exact .inl rfl
    | some rc =>
      simp only [bodyA, hfn, hc, rcode_ok hb]
      generalize rcode G ev L rc ⟨argsT args 0 .lf, H, []⟩ = r
      have fin : ∀ u, rfin F G ev L rs r.s u = .fail ∨ rfin F G ev L rs r.s u = finA P G ev Sch L fn r.s u := by
        intro u
        unfold rfin finA
        split
        · rename_i hD; rw [hD]; exact .inr (rret_ok hrs _ _ _).symm
        · rename_i d hD
          rw [hD]
          simp only
          cases hd : rdefer F G ev L d.1 d.2 u r.s.H with
          | none => exact .inl rfl
          | some x =>
            rw [rdefer_ok hF hd]
            exact .inr (rret_ok hrs _ _ _).symm
        · exact .inl rfl
      unfold rleave leaveA
      split
      · rename_i he; rw [he]; exact fin none
      · rename_i he; rw [he]; exact fin none
      · rename_i v he; rw [he]; exact fin (some v)
      · exact .inl rfl
end
section
variable {C : Ctx} {Sch : FuncId → Nat → Option Sched} {F : FuncId → Option RFunc} {L : Nat}
theorem rbody_sound (hm : C.P.follows .mixedOrders = true) (hg : ProgGood C.P Sch) (hF : Resolved C.P Sch F) {ev : Ev} (hev : EvOK C ev) : EvOK C (rbody F C.G ev L) := by
  intro f args H
  rcases rbody_ok (G := C.G) (ev := ev) (L := L) hF f args H with h | h
  · rw [h]; trivial
  · rw [h]; exact body_ok hev hm hg f args H
theorem callR_sound (hm : C.P.follows .mixedOrders = true) (hg : ProgGood C.P Sch) (hF : Resolved C.P Sch F) : ∀ n, EvOK C (callR F C.G L n)
  | 0 => fun f args H => trivial
  | n + 1 => rbody_sound hm hg hF (callR_sound hm hg hF n)
end
end Go.AM
namespace Go.AM
open Go
noncomputable section
abbrev SchTr := Tr (Tr (Sched × List Nat))
def schAt (t : SchTr) (f id : Nat) : Option (Sched × List Nat) := match t.get f with | some u => u.get id | none => none
def schOf (t : SchTr) : FuncId → Nat → Option Sched := fun f id => (schAt t f id).map (·.1)
def goodCode (N : Nat) (sch : Nat → Option (Sched × List Nat)) : Code → Bool
  | .region id ops drawn => dstB N ops.toList && (!drawn || (match sch id with | none => true | some lb => bif Nat.beq lb.1.length ops.size then schedB ops lb.1 lb.2 else lastB N ops lb.2 && dstB N ops.pop.toList && schedB ops.pop lb.1 lb.2))
  | .seq a b => goodCode N sch a && goodCode N sch b
  | .cond _ a b => goodCode N sch a && goodCode N sch b
  | .block _ b => goodCode N sch b
  | .loop b => goodCode N sch b
  | _ => true
def goodFn (P : Program) (t : SchTr) (f : Nat) : Bool :=
  match P.funcs[f]? with
  | none => true
  | some fn => match fn.body with
    | none => true
    | some c => !(fn.name == "runtime.NumGoroutine") && goodCode fn.ntmps (schAt t f) c
theorem goodCode_ok {N : Nat} {t : SchTr} {f : Nat} : ∀ (c : Code), goodCode N (schAt t f) c = true → CodeGood N (schOf t f) c
  | .region id ops drawn, h => by
    simp only [goodCode, Bool.and_eq_true] at h
    refine ⟨fun i o d ho hd => dstB_get h.1 i o d (by simpa using ho) hd, fun hdr l hl => ?_⟩
    rw [hdr] at h
    simp only [schOf, Option.map_eq_some_iff] at hl
    obtain ⟨lb, hlb, rfl⟩ := hl
    have h2 := h.2
    rw [hlb] at h2
    simp only [Bool.not_true, Bool.false_or] at h2
    cases hb : Nat.beq lb.1.length ops.size with
    | true =>
      rw [hb, cond_true] at h2
      refine ⟨fun _ => facts_of h.1 h2, fun e => ?_⟩
      have := Nat.eq_of_beq_eq_true hb
      omega
    | false =>
      rw [hb, cond_false, Bool.and_eq_true, Bool.and_eq_true] at h2
      refine ⟨fun e => ?_, fun _ => ⟨last_of h2.1.1, facts_of h2.1.2 h2.2⟩⟩
      rw [e] at hb
      simp at hb
  | .seq a b, h => by
    simp only [goodCode, Bool.and_eq_true] at h
    exact ⟨goodCode_ok a h.1, goodCode_ok b h.2⟩
  | .cond _ a b, h => by
    simp only [goodCode, Bool.and_eq_true] at h
    exact ⟨goodCode_ok a h.1, goodCode_ok b h.2⟩
  | .block _ b, h => by
    simp only [goodCode] at h
    exact goodCode_ok b h
  | .loop b, h => by
    simp only [goodCode] at h
    exact goodCode_ok b h
  | .skip, _ => trivial
  | .label _, _ => trivial
  | .exit _, _ => trivial
  | .ret, _ => trivial
  | .goto _, _ => trivial
  | .refuse _, _ => trivial
  | .scope _, _ => trivial
  | .rangeFunc _ _ _ _, _ => trivial
theorem progGood_of {P : Program} {t : SchTr} {n : Nat} (hn : P.funcs.size = n) (h : (List.range n).all (goodFn P t) = true) : ProgGood P (schOf t) := by
  intro f fn c hf hc
  have hlt : f < n := by
    rw [← hn]; exact (Array.getElem?_eq_some_iff.1 hf).1
  have := List.all_eq_true.1 h f (List.mem_range.2 hlt)
  simp only [goodFn, hf, hc, Bool.and_eq_true] at this
  exact ⟨by simpa using this.1, goodCode_ok c this.2⟩
def mkTr {α : Type} : List (Nat × α) → Tr α
  | [] => .lf
  | x :: r => (mkTr r).set x.1 (some x.2)
theorem mkTr_get {α : Type} : ∀ {l : List (Nat × α)} {f : Nat} {a : α}, (mkTr l).get f = some a → (f, a) ∈ l
  | [], f, a, h => by simp [mkTr, Tr.get_lf] at h
  | x :: r, f, a, h => by
    simp only [mkTr, Tr.get_set] at h
    split at h
    · rename_i e
      injection h with h
      subst h; subst e
      exact List.mem_cons_self ..
    · exact List.mem_cons_of_mem _ (mkTr_get h)
def ResAll (P : Program) (t : SchTr) : List (Nat × RFunc) → Prop
  | [] => True
  | x :: r => (P.funcs[x.1]?).bind (resFunc P (schOf t x.1)) = some x.2 ∧ ResAll P t r
theorem resAll_mem {P : Program} {t : SchTr} : ∀ {l : List (Nat × RFunc)}, ResAll P t l → ∀ x ∈ l, (P.funcs[x.1]?).bind (resFunc P (schOf t x.1)) = some x.2
  | [], _, x, hx => by cases hx
  | y :: r, h, x, hx => by
    cases hx with
    | head => exact h.1
    | tail _ hx => exact resAll_mem h.2 x hx
theorem resolved_of {P : Program} {t : SchTr} {tr : Tr RFunc} {l : List (Nat × RFunc)} (e : tr = mkTr l) (h : ResAll P t l) : Resolved P (schOf t) tr.get := by
  intro f rf hf
  rw [e] at hf
  exact resAll_mem h _ (mkTr_get hf)
end
end Go.AM
namespace Go.AM
open Go
structure S (α : Type) where
  a0 : α
  a1 : α
  a2 : α
  a3 : α
  a4 : α
  a5 : α
  a6 : α
  a7 : α
  a8 : α
  a9 : α
  a10 : α
  a11 : α
  a12 : α
  a13 : α
  a14 : α
  a15 : α
abbrev Tm := S (S AV)
def S.sel {α : Type} (s : S α) : Nat → α
  | 0 => s.a0
  | 1 => s.a1
  | 2 => s.a2
  | 3 => s.a3
  | 4 => s.a4
  | 5 => s.a5
  | 6 => s.a6
  | 7 => s.a7
  | 8 => s.a8
  | 9 => s.a9
  | 10 => s.a10
  | 11 => s.a11
  | 12 => s.a12
  | 13 => s.a13
  | 14 => s.a14
  | _ => s.a15
def S.upd {α : Type} (v : α) (s : S α) : Nat → S α
  | 0 => ⟨v, s.a1, s.a2, s.a3, s.a4, s.a5, s.a6, s.a7, s.a8, s.a9, s.a10, s.a11, s.a12, s.a13, s.a14, s.a15⟩
  | 1 => ⟨s.a0, v, s.a2, s.a3, s.a4, s.a5, s.a6, s.a7, s.a8, s.a9, s.a10, s.a11, s.a12, s.a13, s.a14, s.a15⟩
  | 2 => ⟨s.a0, s.a1, v, s.a3, s.a4, s.a5, s.a6, s.a7, s.a8, s.a9, s.a10, s.a11, s.a12, s.a13, s.a14, s.a15⟩
  | 3 => ⟨s.a0, s.a1, s.a2, v, s.a4, s.a5, s.a6, s.a7, s.a8, s.a9, s.a10, s.a11, s.a12, s.a13, s.a14, s.a15⟩
  | 4 => ⟨s.a0, s.a1, s.a2, s.a3, v, s.a5, s.a6, s.a7, s.a8, s.a9, s.a10, s.a11, s.a12, s.a13, s.a14, s.a15⟩
  | 5 => ⟨s.a0, s.a1, s.a2, s.a3, s.a4, v, s.a6, s.a7, s.a8, s.a9, s.a10, s.a11, s.a12, s.a13, s.a14, s.a15⟩
  | 6 => ⟨s.a0, s.a1, s.a2, s.a3, s.a4, s.a5, v, s.a7, s.a8, s.a9, s.a10, s.a11, s.a12, s.a13, s.a14, s.a15⟩
  | 7 => ⟨s.a0, s.a1, s.a2, s.a3, s.a4, s.a5, s.a6, v, s.a8, s.a9, s.a10, s.a11, s.a12, s.a13, s.a14, s.a15⟩
  | 8 => ⟨s.a0, s.a1, s.a2, s.a3, s.a4, s.a5, s.a6, s.a7, v, s.a9, s.a10, s.a11, s.a12, s.a13, s.a14, s.a15⟩
  | 9 => ⟨s.a0, s.a1, s.a2, s.a3, s.a4, s.a5, s.a6, s.a7, s.a8, v, s.a10, s.a11, s.a12, s.a13, s.a14, s.a15⟩
  | 10 => ⟨s.a0, s.a1, s.a2, s.a3, s.a4, s.a5, s.a6, s.a7, s.a8, s.a9, v, s.a11, s.a12, s.a13, s.a14, s.a15⟩
  | 11 => ⟨s.a0, s.a1, s.a2, s.a3, s.a4, s.a5, s.a6, s.a7, s.a8, s.a9, s.a10, v, s.a12, s.a13, s.a14, s.a15⟩
  | 12 => ⟨s.a0, s.a1, s.a2, s.a3, s.a4, s.a5, s.a6, s.a7, s.a8, s.a9, s.a10, s.a11, v, s.a13, s.a14, s.a15⟩
  | 13 => ⟨s.a0, s.a1, s.a2, s.a3, s.a4, s.a5, s.a6, s.a7, s.a8, s.a9, s.a10, s.a11, s.a12, v, s.a14, s.a15⟩
  | 14 => ⟨s.a0, s.a1, s.a2, s.a3, s.a4, s.a5, s.a6, s.a7, s.a8, s.a9, s.a10, s.a11, s.a12, s.a13, v, s.a15⟩
  | _ => ⟨s.a0, s.a1, s.a2, s.a3, s.a4, s.a5, s.a6, s.a7, s.a8, s.a9, s.a10, s.a11, s.a12, s.a13, s.a14, v⟩
theorem S.sel_upd {α : Type} (v : α) (s : S α) : ∀ i j, i < 16 → j < 16 → (s.upd v i).sel j = if j = i then v else s.sel j := by
  intro i j hi hj
  have hI : i = 0 ∨ i = 1 ∨ i = 2 ∨ i = 3 ∨ i = 4 ∨ i = 5 ∨ i = 6 ∨ i = 7 ∨ i = 8 ∨ i = 9 ∨ i = 10 ∨ i = 11 ∨ i = 12 ∨ i = 13 ∨ i = 14 ∨ i = 15 := by omega
  have hJ : j = 0 ∨ j = 1 ∨ j = 2 ∨ j = 3 ∨ j = 4 ∨ j = 5 ∨ j = 6 ∨ j = 7 ∨ j = 8 ∨ j = 9 ∨ j = 10 ∨ j = 11 ∨ j = 12 ∨ j = 13 ∨ j = 14 ∨ j = 15 := by omega
  rcases hI with rfl | rfl | rfl | rfl | rfl | rfl | rfl | rfl | rfl | rfl | rfl | rfl | rfl | rfl | rfl | rfl <;>
    rcases hJ with rfl | rfl | rfl | rfl | rfl | rfl | rfl | rfl | rfl | rfl | rfl | rfl | rfl | rfl | rfl | rfl <;> rfl
def getS (n : Nat) (T : Tm) : AV := (T.sel (n / 16)).sel (n % 16)
def setS (n : Nat) (v : AV) (T : Tm) : Tm := T.upd ((T.sel (n / 16)).upd v (n % 16)) (n / 16)
theorem getS_setS {n m : Nat} (v : AV) (T : Tm) (hn : n < 256) (hm : m < 256) : getS m (setS n v T) = if m = n then v else getS m T := by
  unfold getS setS
  rw [S.sel_upd _ _ _ _ (by omega) (by omega)]
  by_cases h : m / 16 = n / 16
  · rw [if_pos h, S.sel_upd _ _ _ _ (by omega) (by omega)]
    by_cases h2 : m % 16 = n % 16
    · rw [if_pos h2, if_pos (by omega)]
    · rw [if_neg h2, if_neg (by omega), h]
  · rw [if_neg h, if_neg (by omega)]
def S.all {α : Type} (x : α) : S α := ⟨x, x, x, x, x, x, x, x, x, x, x, x, x, x, x, x⟩
def Tm.none : Tm := S.all (S.all undefA)
def Vw (t : Tmps) (T : Tm) : Prop := ∀ k, k < 256 → t.at k = getS k T
theorem Vw.set {t : Tmps} {T : Tm} (h : Vw t T) {d : Nat} (hd : d < 256) (v : AV) : Vw (putA t (some d) v) (setS d v T) := by
  intro k hk
  rw [getS_setS v T hd hk]
  simp only [putA, Tmps.at, Tr.get_set]
  by_cases e : k = d
  · simp [e]
  · rw [if_neg e, if_neg e]; exact h k hk
abbrev Dl := List (FuncId × List AV)
abbrev K := Tm → Heap → Dl → CR
abbrev Fin := Option AV → K
abbrev Set1 := AV → Tm → Tm
abbrev PF := Tm → Heap → Option AV
def dN : Set1 := fun _ T => T
noncomputable section
def kV (x : Tm → AV) (d : Set1) (n : K) : K := fun T H D => n (d (x T) T) H D
def kP (x : PF) (d : Set1) (n : K) : K := fun T H D => @Option.rec AV (fun _ => CR) .fail (fun v => n (d v T) H D) (x T H)
def kR (x : Tm → Heap → Res) (d : Set1) (n : K) : K := fun T H D => @Option.rec (AV × Heap) (fun _ => CR) .fail (fun vH => @Prod.rec AV Heap (fun _ => CR) (fun v H' => n (d v T) H' D) vH) (x T H)
def kN (x : Tm → List AV) (d : Set1) (n : K) : K := fun T H D => n (d (.ptr H.next 0) T) (H.new (.row (x T))) D
def kW (d : Set1) (n : K) : K := fun T H D => n (d (.mp H.next) T) (H.new (.map [])) D
def kM (x : Tm → Heap → Option Heap) (d : Set1) (n : K) : K := fun T H D => @Option.rec Heap (fun _ => CR) .fail (fun H' => n (d undefA T) H' D) (x T H)
def afterCall (fin : Fin) (d : Set1) (n : K) (T : Tm) (D : Dl) (r : CR) : CR :=
  @CR.rec (fun _ => CR) (fun v H' => n (d v T) H' D) (fun v H' => fin (some v) T H' D) .fail r
def kC (ev : Ev) (fin : Fin) (f : Tm → AV) (a : Tm → List AV) (d : Set1) (n : K) : K := fun T H D =>
  @Option.rec (FuncId × List AV) (fun _ => CR) .fail (fun fa => afterCall fin d n T D (ev fa.1 fa.2 H)) (asCall (a T) (f T))
def kD (f : Tm → AV) (a : Tm → List AV) (d : Set1) (n : K) : K := fun T H D =>
  @Option.rec (FuncId × List AV) (fun _ => CR) .fail (fun fa => n (d undefA T) H (fa :: D)) (asCall (a T) (f T))
def throw (fin : Fin) (T : Tm) (H : Heap) (D : Dl) : AV → CR
  | .iface t v => fin (some (.iface t v)) T H D
  | _ => .fail
def kX (fin : Fin) (x : Tm → AV) : K := fun T H D => throw fin T H D (x T)
def kG (g : Tm → AV) (want : Bool) (a : K → K) (d : Set1) (n : K) : K := fun T H D => @Bool.rec (fun _ => CR) (n (d undefA T) H D) (a n T H D) (isBool want (g T))
def ifK (a b : CR) : AV → CR
  | .bool true => a
  | .bool false => b
  | _ => .fail
def kIf (c : Tm → AV) (a b : K) : K := fun T H D => ifK (a T H D) (b T H D) (c T)
def kLoop (body : K → K) (L : Nat) : K := @Nat.rec (fun _ => K) (fun _ _ _ => .fail) (fun _ r => body r) L
def kFail : K := fun _ _ _ => .fail
def kQ (x : PF) (d : Tm → AV) (n : K) : K := fun T H D => @Option.rec AV (fun _ => CR) .fail (fun v => @Bool.rec (fun _ => CR) .fail (n T H D) (eqAV v (d T))) (x T H)
def kQG (g : Tm → AV) (want : Bool) (a : K → K) (n : K) : K := fun T H D => @Bool.rec (fun _ => CR) (n T H D) (a n T H D) (isBool want (g T))
def cX : RX → Tm → AV
  | .t n => getS n
  | .c v => fun _ => v
def cL : List RX → Tm → List AV
  | [] => fun _ => []
  | x :: r => fun T => cX x T :: cL r T
def cO : Option RX → Tm → Option AV
  | none => fun _ => none
  | some x => fun T => some (cX x T)
def cQ : List (Nat × Nat × RX) → Tm → List (Nat × Nat × AV)
  | [] => fun _ => []
  | p :: r => fun T => (p.1, p.2.1, cX p.2.2 T) :: cQ r T
def cD : Option Nat → Set1
  | none => dN
  | some d => setS d
def pickF (a b : AV) : AV → Option AV
  | .bool true => some a
  | .bool false => some b
  | _ => none
def oPick (c a b : Tm → AV) : PF := fun T H => pickF (a T) (b T) (c T)
def oMv (x : Tm → AV) : PF := fun T H => some (x T)
def oBuild (z : List AV) (q : Tm → List (Nat × Nat × AV)) : PF := fun T H => (fillR z (q T)).map .agg
def oLitD (n : Nat) (cells : List AV) (q : Tm → List (Nat × Nat × AV)) : PF := fun T H => (fillR cells (q T)).map fun cs => .ds n cs (some n)
def oLit (sz n : Nat) (cells : List AV) (q : Tm → List (Nat × Nat × AV)) : Tm → Heap → Res := fun T H => (fillR cells (q T)).map fun cs => (.sl H.next 0 n sz (some n), H.new (.row cs))
def oLoad (G : Glob) (agg : Bool) (n : Nat) (x : Tm → AV) : PF := fun T H => loadR agg n G H (x T)
def oStore (n : Nat) (a x : Tm → AV) : Tm → Heap → Option Heap := fun T H => storeR n H (a T) (x T)
def oNilc (x : Tm → AV) : PF := fun T H => nilCheckA (x T)
def oBin (d : Option EqK) (fs : Option (List KeyK)) (op : BinOp) (x y : Tm → AV) : PF := fun T H => binR d fs op (x T) (y T)
def oUn (op : UnOp) (x : Tm → AV) : PF := fun T H => unA op (x T)
def oConv (k : ConvK) (x : Tm → AV) : Tm → Heap → Res := fun T H => convR H (x T) k
def oIface (t : TypeId) (x : Tm → AV) : Tm → AV := fun T => .iface t (x T)
def oFn (f : FuncId) (a b : Tm → List AV) : Tm → AV := fun T => .fn f (a T) (b T)
def mapF (H : Heap) : AV → Res
  | .int _ _ => some (.mp H.next, H.new (.map []))
  | _ => none
def oMap (r : Tm → AV) : Tm → Heap → Res := fun T H => mapF H (r T)
def oMkslice (sz : Nat) (z : List AV) (b : Nat) (l c : Tm → AV) : Tm → Heap → Res := fun T H => makeSliceR sz z b H (l T) (c T)
def oSlice (G : Glob) (k : SliceK) (x : Tm → AV) (lo hi mx : Tm → Option AV) : PF := fun T H => sliceR G H k (x T) (lo T) (hi T) (mx T)
def oFaddr (off : Nat) (x : Tm → AV) : PF := fun T H => moveP off (x T)
def oField (agg : Bool) (n off : Nat) (x : Tm → AV) : PF := fun T H => fieldR agg n off (x T)
def oIaddrS (s : Nat) (x ix : Tm → AV) : PF := fun T H => indexSl s (x T) (ix T)
def oIaddrA (n s : Nat) (x ix : Tm → AV) : PF := fun T H => indexArr n s (x T) (ix T)
def oIdxS (x ix : Tm → AV) : PF := fun T H => indexStr (x T) (ix T)
def oIdxA (n s : Nat) (agg : Bool) (sz : Nat) (x ix : Tm → AV) : PF := fun T H => indexAgg n s agg sz (x T) (ix T)
def oLookup (d : KeyK) (z : AV) (x ix : Tm → AV) (ok : Bool) : PF := fun T H => lookupR d z H (x T) (ix T) ok
def oMapupd (d : KeyK) (m k v : Tm → AV) : Tm → Heap → Option Heap := fun T H => mapUpdR d H (k T) (v T) (m T)
def oAssert (a : TypeId) (ok : Bool) (z : Option AV) (x : Tm → AV) : PF := fun T H => assertR a ok z (x T)
def oExtract (i : Nat) (x : Tm → AV) : PF := fun T H => extractA i (x T)
def oAppend (sz bytes : Nat) (z : List AV) (byN : Bool) (s x : Tm → AV) : Tm → Heap → Res := fun T H => appendR sz bytes z byN H (s T) (x T)
def oLen (k : LenK) (x : Tm → AV) : PF := fun T H => lenR H (x T) k
def oCap (x : Tm → AV) : PF := fun T H => (capOf (x T)).map fun c => .int .i64 (.ofNat c)
def oMin (x y : Tm → AV) : PF := fun T H => minA (x T) (y T)
def oMax (x y : Tm → AV) : PF := fun T H => maxA (x T) (y T)
def oClear (sz : Nat) (z : List AV) (x : Tm → AV) : Tm → Heap → Res := fun T H => clearR sz z H (x T)
def oBox (x : Tm → AV) : Tm → List AV := fun T => (x T).cells
def oCells (z : List AV) : Tm → List AV := fun _ => z
def pOp (G : Glob) : ROp → Option PF
  | .mv x => some (oMv (cX x))
  | .pick c a b => some (oPick (cX c) (cX a) (cX b))
  | .build z ps => some (oBuild z (cQ ps))
  | .lit true sz n cells ps => some (oLitD n cells (cQ ps))
  | .load agg n x => some (oLoad G agg n (cX x))
  | .nilc x => some (oNilc (cX x))
  | .bin d fs op x y => some (oBin d fs op (cX x) (cX y))
  | .un op x => some (oUn op (cX x))
  | .slice k x lo hi mx => some (oSlice G k (cX x) (cO lo) (cO hi) (cO mx))
  | .faddr off x => some (oFaddr off (cX x))
  | .field agg n off x => some (oField agg n off (cX x))
  | .iaddrS s x ix => some (oIaddrS s (cX x) (cX ix))
  | .iaddrA n s x ix => some (oIaddrA n s (cX x) (cX ix))
  | .idxS x ix => some (oIdxS (cX x) (cX ix))
  | .idxA n s agg sz x ix => some (oIdxA n s agg sz (cX x) (cX ix))
  | .lookup d z x ix ok => some (oLookup d z (cX x) (cX ix) ok)
  | .assert a ok z x => some (oAssert a ok z (cX x))
  | .extract i x => some (oExtract i (cX x))
  | .len k x => some (oLen k (cX x))
  | .cap x => some (oCap (cX x))
  | .min x y => some (oMin (cX x) (cX y))
  | .max x y => some (oMax (cX x) (cX y))
  | _ => none
def cPure (x : Option PF) : Set1 → K → K :=
  match x with
  | some x => kP x
  | none => fun _ _ => kFail
def cOp (G : Glob) (ev : Ev) (fin : Fin) (r : ROp) : Set1 → K → K :=
  match r with
  | .mv x => kV (cX x)
  | .alloc z => kN (oCells z)
  | .box x => kN (oBox (cX x))
  | .lit false sz n cells ps => kR (oLit sz n cells (cQ ps))
  | .store n a x => kM (oStore n (cX a) (cX x))
  | .conv k x => kR (oConv k (cX x))
  | .iface t x => kV (oIface t (cX x))
  | .mkfn f first caps => kV (oFn f (cL first) (cL caps))
  | .mkmap none => kW
  | .mkmap (some r) => kR (oMap (cX r))
  | .mkslice sz z b l c => kR (oMkslice sz z b (cX l) (cX c))
  | .mapupd d m k v => kM (oMapupd d (cX m) (cX k) (cX v))
  | .panic x => fun _ _ => kX fin (cX x)
  | .defer f args => kD (cX f) (cL args)
  | .call f args => kC ev fin (cX f) (cL args)
  | .append sz bytes z byN s x => kR (oAppend sz bytes z byN (cX s) (cX x))
  | .clear sz z x => kR (oClear sz z (cX x))
  | r => cPure (pOp G r)
def cOper (G : Glob) (ev : Ev) (fin : Fin) (o : ROper) (n : K) : K :=
  match o.guard with
  | none => cOp G ev fin o.op (cD o.dst) n
  | some g => kG (getS g.1) g.2 (cOp G ev fin o.op (cD o.dst)) (cD o.dst) n
def cOpers (G : Glob) (ev : Ev) (fin : Fin) : List ROper → K → K
  | [], n => n
  | o :: r, n => cOper G ev fin o (cOpers G ev fin r n)
def qOp (x : Option PF) (d : Option Nat) (n : K) : K :=
  match x, d with
  | some x, some d => kQ x (getS d) n
  | _, _ => kFail
def qOper (G : Glob) (o : ROper) (n : K) : K :=
  match o.guard with
  | none => qOp (pOp G o.op) o.dst n
  | some g => kQG (getS g.1) g.2 (qOp (pOp G o.op) o.dst) n
def cAgain (G : Glob) : List ROper → K → K
  | [], n => n
  | o :: r, n => qOper G o (cAgain G r n)
def cDrawn (G : Glob) (ev : Ev) : List (ROper × List ROper) → K → K
  | [], n => n
  | x :: r, n => cOper G ev (fun _ => kFail) x.1 (cAgain G x.2 (cDrawn G ev r n))
def cCode (G : Glob) (ev : Ev) (fin : Fin) (L : Nat) : RCode → (Nat → K) → K → K
  | .skip, ex, n => n
  | .region l, ex, n => cOpers G ev fin l n
  | .drawn l, ex, n => cDrawn G ev l n
  | .seq a b, ex, n => cCode G ev fin L a ex (cCode G ev fin L b ex n)
  | .cond c a b, ex, n => kIf (cX c) (cCode G ev fin L a ex n) (cCode G ev fin L b ex n)
  | .block id b, ex, n => cCode G ev fin L b (fun i => bif Nat.beq i id then n else ex i) n
  | .loop b, ex, n => kLoop (fun n' => cCode G ev fin L b ex n') L
  | .exit id, ex, n => ex id
  | .ret, ex, n => fin none
end
def okX : RX → Bool
  | .t n => Nat.blt n 256
  | .c _ => true
def okL (l : List RX) : Bool := l.all okX
def okO : Option RX → Bool
  | none => true
  | some x => okX x
def okQ (l : List (Nat × Nat × RX)) : Bool := l.all fun p => okX p.2.2
def okD : Option Nat → Bool
  | none => true
  | some d => Nat.blt d 256
def okOp : ROp → Bool
  | .mv x => okX x | .pick c a b => okX c && okX a && okX b | .alloc _ => true | .box x => okX x | .build _ ps => okQ ps | .lit _ _ _ _ ps => okQ ps
  | .load _ _ x => okX x | .store _ a x => okX a && okX x | .nilc x => okX x | .bin _ _ _ x y => okX x && okX y | .un _ x => okX x | .conv _ x => okX x | .iface _ x => okX x
  | .mkfn _ a b => okL a && okL b | .mkmap r => okO r | .mkslice _ _ _ l c => okX l && okX c | .slice _ x a b c => okX x && okO a && okO b && okO c | .faddr _ x => okX x | .field _ _ _ x => okX x
  | .iaddrS _ x y => okX x && okX y | .iaddrA _ _ x y => okX x && okX y | .idxS x y => okX x && okX y | .idxA _ _ _ _ x y => okX x && okX y | .lookup _ _ x y _ => okX x && okX y
  | .mapupd _ m k v => okX m && okX k && okX v | .assert _ _ _ x => okX x | .extract _ x => okX x | .panic x => okX x | .defer f a => okX f && okL a | .call f a => okX f && okL a
  | .append _ _ _ _ s x => okX s && okX x | .len _ x => okX x | .cap x => okX x | .min x y => okX x && okX y | .max x y => okX x && okX y | .clear _ _ x => okX x
def okOper (o : ROper) : Bool := okOp o.op && okD o.dst && okD (o.guard.map (·.1))
def okCode : RCode → Bool
  | .region l => l.all okOper
  | .drawn l => l.all fun x => okOper x.1 && x.2.all okOper
  | .seq a b => okCode a && okCode b
  | .cond c a b => okX c && okCode a && okCode b
  | .block _ b => okCode b
  | .loop b => okCode b
  | _ => true
end Go.AM
namespace Go.AM
open Go
def outK (nx : St → CR) (ex : Nat → St → CR) (fin : Option AV → St → CR) (r : ES) : CR :=
  match r.e with
  | .normal => nx r.s
  | .exit i => ex i r.s
  | .ret => fin none r.s
  | .panic v => fin (some v) r.s
  | .fail => .fail
def Lq (a b : CR) : Prop := a = .fail ∨ a = b
theorem Lq.rfl {a : CR} : Lq a a := .inr (Eq.refl a)
theorem Lq.to {a b c : CR} (h : Lq a b) (e : b = c) : Lq a c := e ▸ h
def Agree (n : K) (nx : St → CR) : Prop := ∀ (s : St) (T : Tm), Vw s.T T → Lq (n T s.H s.D) (nx s)
section
variable {G : Glob} {ev : Ev} {t : Tmps} {T : Tm}
theorem cX_ok {x : RX} (h : okX x = true) (hv : Vw t T) : cX x T = x.ev t := by
  cases x with
  | t n => exact (hv n (Nat.le_of_ble_eq_true h)).symm
  | c v => rfl
theorem cL_ok (hv : Vw t T) : ∀ {l : List RX}, okL l = true → cL l T = evR t l
  | [], _ => rfl
  | x :: l, h => by
    simp only [okL, List.all_cons, Bool.and_eq_true] at h
    simp only [cL, evR, cX_ok h.1 hv, cL_ok hv (l := l) h.2]
theorem cO_ok {x : Option RX} (h : okO x = true) (hv : Vw t T) : cO x T = evO t x := by
  cases x with
  | none => rfl
  | some x => simp only [cO, evO, cX_ok h hv]
theorem cQ_ok (hv : Vw t T) : ∀ {l : List (Nat × Nat × RX)}, okQ l = true → cQ l T = evQ t l
  | [], _ => rfl
  | x :: l, h => by
    simp only [okQ, List.all_cons, Bool.and_eq_true] at h
    simp only [cQ, evQ, cX_ok h.1 hv, cQ_ok hv (l := l) h.2]
theorem cD_ok {d : Option Nat} (h : okD d = true) (hv : Vw t T) (v : AV) : Vw (putA t d v) (cD d v T) := by
  cases d with
  | none => exact hv
  | some d => exact hv.set (Nat.le_of_ble_eq_true h) v
theorem pOp_ok {r : ROp} {p : PF} (hp : pOp G r = some p) (h : okOp r = true) (hv : Vw t T) (H : Heap) : ropA G t H r = .pure H (p T H) := by
  cases r
  case pick c a b =>
    injection hp with hp; subst hp
    simp only [okOp, Bool.and_eq_true] at h
    simp only [ropA, oPick, cX_ok h.1.1 hv, cX_ok h.1.2 hv, cX_ok h.2 hv]
    cases RX.ev t c <;> first | rfl | (rename_i b; cases b <;> rfl)
  case lit drawn sz n cells ps =>
    cases drawn with
    | false => cases hp
    | true =>
      injection hp with hp; subst hp
      simp only [okOp] at h
      simp only [ropA, oLitD, cQ_ok hv h]
      cases fillR cells (evQ t ps) <;> rfl
  all_goals first
    | (cases hp; done)
    | (injection hp with hp; subst hp; simp only [okOp, Bool.and_eq_true] at h; skip)
  case mv x => simp only [ropA, oMv, cX_ok h hv, OR.pure]
  case build z ps => simp only [ropA, oBuild, cQ_ok hv h]
  case load agg n x => simp only [ropA, oLoad, cX_ok h hv]
  case nilc x => simp only [ropA, oNilc, cX_ok h hv]
  case bin d fs op x y => simp only [ropA, oBin, cX_ok h.1 hv, cX_ok h.2 hv]
  case un op x => simp only [ropA, oUn, cX_ok h hv]
  case slice k x lo hi mx => simp only [ropA, oSlice, cX_ok h.1.1.1 hv, cO_ok h.1.1.2 hv, cO_ok h.1.2 hv, cO_ok h.2 hv]
  case faddr off x => simp only [ropA, oFaddr, cX_ok h hv]
  case field a b c x => simp only [ropA, oField, cX_ok h hv]
  case iaddrS s x y => simp only [ropA, oIaddrS, cX_ok h.1 hv, cX_ok h.2 hv]
  case iaddrA n s x y => simp only [ropA, oIaddrA, cX_ok h.1 hv, cX_ok h.2 hv]
  case idxS x y => simp only [ropA, oIdxS, cX_ok h.1 hv, cX_ok h.2 hv]
  case idxA n s a b x y => simp only [ropA, oIdxA, cX_ok h.1 hv, cX_ok h.2 hv]
  case lookup d z x y ok => simp only [ropA, oLookup, cX_ok h.1 hv, cX_ok h.2 hv]
  case assert a ok z x => simp only [ropA, oAssert, cX_ok h hv]
  case extract i x => simp only [ropA, oExtract, cX_ok h hv]
  case len k x => simp only [ropA, oLen, cX_ok h hv]
  case cap x => simp only [ropA, oCap, cX_ok h hv]
  case min x y => simp only [ropA, oMin, cX_ok h.1 hv, cX_ok h.2 hv]
  case max x y => simp only [ropA, oMax, cX_ok h.1 hv, cX_ok h.2 hv]
variable {nx : St → CR} {ex' : Nat → St → CR} {fin' : Option AV → St → CR} {n : K} {fin : Fin} {s : St} {d : Option Nat}
theorem kP_ok {p : PF} (hd : okD d = true) (hv : Vw s.T T) (hn : Agree n nx) : Lq (kP p (cD d) n T s.H s.D) (outK nx ex' fin' (afterA ev s d (.pure s.H (p T s.H)))) := by
  unfold kP
  cases hp : p T s.H with
  | none => exact .inl rfl
  | some v => simp only [OR.pure, afterA, outK]; exact hn (s.put d v s.H) _ (cD_ok hd hv v)
theorem kR_ok {p : Tm → Heap → Res} (hd : okD d = true) (hv : Vw s.T T) (hn : Agree n nx) : Lq (kR p (cD d) n T s.H s.D) (outK nx ex' fin' (afterA ev s d (.of (p T s.H)))) := by
  unfold kR
  cases hp : p T s.H with
  | none => exact .inl rfl
  | some vH => obtain ⟨v, H'⟩ := vH; simp only [OR.of, afterA, outK]; exact hn (s.put d v H') _ (cD_ok hd hv v)
theorem kM_ok {p : Tm → Heap → Option Heap} (hd : okD d = true) (hv : Vw s.T T) (hn : Agree n nx) : Lq (kM p (cD d) n T s.H s.D) (outK nx ex' fin' (afterA ev s d (.mem (p T s.H)))) := by
  unfold kM
  cases hp : p T s.H with
  | none => exact .inl rfl
  | some H' => simp only [OR.mem, afterA, outK]; exact hn (s.put d undefA H') _ (cD_ok hd hv undefA)
theorem kV_ok {x : Tm → AV} (hd : okD d = true) (hv : Vw s.T T) (hn : Agree n nx) : Lq (kV x (cD d) n T s.H s.D) (outK nx ex' fin' (afterA ev s d (.val (x T) s.H))) := by
  simp only [kV, afterA, outK]; exact hn (s.put d (x T) s.H) _ (cD_ok hd hv _)
theorem kN_ok {x : Tm → List AV} (hd : okD d = true) (hv : Vw s.T T) (hn : Agree n nx) : Lq (kN x (cD d) n T s.H s.D) (outK nx ex' fin' (afterA ev s d (.val (.ptr s.H.next 0) (s.H.new (.row (x T)))))) := by
  simp only [kN, afterA, outK]; exact hn (s.put d (.ptr s.H.next 0) (s.H.new (.row (x T)))) _ (cD_ok hd hv _)
theorem cOp_ok {r : ROp} (h : okOp r = true) (hd : okD d = true) (hv : Vw s.T T) (hn : Agree n nx) (hf : ∀ u, Agree (fin u) (fin' u)) :
    Lq (cOp G ev fin r (cD d) n T s.H s.D) (outK nx ex' fin' (afterA ev s d (ropA G s.T s.H r))) := by
  cases hp : pOp G r with
  | some p =>
    have e := pOp_ok hp h hv s.H
    rw [e]
    cases r
    case mv x =>
      injection hp with hp; subst hp
      simp only [cOp, oMv, OR.pure]
      exact kV_ok hd hv hn
    case lit drawn sz n cells ps =>
      cases drawn with
      | false => cases hp
      | true => simp only [cOp, hp, cPure]; exact kP_ok hd hv hn
    all_goals first
      | (cases hp; done)
      | (simp only [cOp, hp, cPure]; exact kP_ok hd hv hn)
  | none =>
    cases r
    case lit drawn sz n cells ps =>
      cases drawn with
      | true => cases hp
      | false =>
        simp only [okOp] at h
        simp only [cOp, ropA]
        refine Lq.to (kR_ok (ev := ev) (ex' := ex') (fin' := fin') hd hv hn) ?_
        simp only [oLit, cQ_ok hv h]
        cases fillR cells (evQ s.T ps) <;> rfl
    case mkmap r =>
      cases r with
      | none =>
        simp only [cOp, ropA, kW, afterA, outK]
        exact hn (s.put d (.mp s.H.next) (s.H.new (.map []))) _ (cD_ok hd hv _)
      | some x =>
        simp only [okOp, okO] at h
        simp only [cOp, ropA]
        refine Lq.to (kR_ok (ev := ev) (ex' := ex') (fin' := fin') hd hv hn) ?_
        simp only [oMap, cX_ok h hv]
        cases RX.ev s.T x <;> rfl
    case panic x =>
      simp only [okOp] at h
      simp only [cOp, ropA, kX, cX_ok h hv]
      cases RX.ev s.T x <;> first | exact .inl rfl | exact hf (some _) s T hv
    case call f args =>
      simp only [okOp, Bool.and_eq_true] at h
      simp only [cOp, ropA, kC, cX_ok h.1 hv, cL_ok hv h.2]
      cases asCall (evR s.T args) (RX.ev s.T f) with
      | none => exact .inl rfl
      | some fa =>
        simp only [OR.toCall, afterA, afterCall]
        cases ev fa.1 fa.2 s.H with
        | ret v H' => exact hn (s.put d v H') _ (cD_ok hd hv v)
        | panic v H' => exact hf (some v) ⟨s.T, H', s.D⟩ T hv
        | fail => exact .inl rfl
    case defer f args =>
      simp only [okOp, Bool.and_eq_true] at h
      simp only [cOp, ropA, kD, cX_ok h.1 hv, cL_ok hv h.2]
      cases asCall (evR s.T args) (RX.ev s.T f) with
      | none => exact .inl rfl
      | some fa => exact hn ⟨putA s.T d undefA, s.H, fa :: s.D⟩ _ (cD_ok hd hv undefA)
    all_goals first
      | (cases hp; done)
      | (simp only [okOp, Bool.and_eq_true] at h; simp only [cOp, ropA])
    case alloc z => exact kN_ok hd hv hn
    case box x =>
      refine Lq.to (kN_ok (ev := ev) (ex' := ex') (fin' := fin') hd hv hn) ?_
      simp only [oBox, cX_ok h hv]
    case store m a x =>
      refine Lq.to (kM_ok (ev := ev) (ex' := ex') (fin' := fin') hd hv hn) ?_
      simp only [oStore, cX_ok h.1 hv, cX_ok h.2 hv]
    case conv k x =>
      refine Lq.to (kR_ok (ev := ev) (ex' := ex') (fin' := fin') hd hv hn) ?_
      simp only [oConv, cX_ok h hv]
    case iface t x =>
      refine Lq.to (kV_ok (ev := ev) (ex' := ex') (fin' := fin') hd hv hn) ?_
      simp only [oIface, cX_ok h hv]
    case mkfn f a b =>
      refine Lq.to (kV_ok (ev := ev) (ex' := ex') (fin' := fin') hd hv hn) ?_
      simp only [oFn, cL_ok hv h.1, cL_ok hv h.2]
    case mkslice sz z b l c =>
      refine Lq.to (kR_ok (ev := ev) (ex' := ex') (fin' := fin') hd hv hn) ?_
      simp only [oMkslice, cX_ok h.1 hv, cX_ok h.2 hv]
    case mapupd dk m k v =>
      refine Lq.to (kM_ok (ev := ev) (ex' := ex') (fin' := fin') hd hv hn) ?_
      simp only [oMapupd, cX_ok h.1.1 hv, cX_ok h.1.2 hv, cX_ok h.2 hv]
    case append sz b z byN x y =>
      refine Lq.to (kR_ok (ev := ev) (ex' := ex') (fin' := fin') hd hv hn) ?_
      simp only [oAppend, cX_ok h.1 hv, cX_ok h.2 hv]
    case clear sz z x =>
      refine Lq.to (kR_ok (ev := ev) (ex' := ex') (fin' := fin') hd hv hn) ?_
      simp only [oClear, cX_ok h hv]
theorem cOper_ok {o : ROper} (h : okOper o = true) (hv : Vw s.T T) (hn : Agree n nx) (hf : ∀ u, Agree (fin u) (fin' u)) :
    Lq (cOper G ev fin o n T s.H s.D) (outK nx ex' fin' (rstep G ev o s)) := by
  simp only [okOper, Bool.and_eq_true] at h
  unfold cOper rstep
  cases hg : o.guard with
  | none => simp only [guardR, cond_true]; exact cOp_ok h.1.1 h.1.2 hv hn hf
  | some g =>
    have hlt : g.1 < 256 := by have := h.2; rw [hg] at this; exact Nat.le_of_ble_eq_true this
    simp only [guardR, kG, hv g.1 hlt]
    cases isBool g.2 (getS g.1 T) with
    | true => simp only [cond_true]; exact cOp_ok h.1.1 h.1.2 hv hn hf
    | false => simp only [cond_false, outK]; exact hn (s.put o.dst undefA s.H) _ (cD_ok h.1.2 hv _)
theorem outK_then {r : ES} {k : St → ES} : outK nx ex' fin' (r.then k) = outK (fun s => outK nx ex' fin' (k s)) ex' fin' r := by
  unfold ES.then
  cases he : r.e <;> simp [outK, he]
theorem cOpers_ok : ∀ {l : List ROper} (h : l.all okOper = true) {n : K} {nx : St → CR} (hn : Agree n nx) (hf : ∀ u, Agree (fin u) (fin' u)), Agree (cOpers G ev fin l n) fun s => outK nx ex' fin' (rops G ev l s)
  | [], _, n, nx, hn, hf => fun s T hv => hn s T hv
  | o :: l, h, n, nx, hn, hf => fun s T hv => by
    simp only [List.all_cons, Bool.and_eq_true] at h
    simp only [cOpers, rops, outK_then]
    exact cOper_ok h.1 hv (cOpers_ok h.2 hn hf) hf
end
section
variable {G : Glob} {ev : Ev} {T : Tm} {nx : St → CR} {ex' : Nat → St → CR} {fin' : Option AV → St → CR} {n : K} {fin : Fin} {s : St}
theorem qOper_ok {o : ROper} (h : okOper o = true) (hv : Vw s.T T) (hq : qOper G o n T s.H s.D ≠ .fail) : ragain G s o = true ∧ qOper G o n T s.H s.D = n T s.H s.D := by
  simp only [okOper, Bool.and_eq_true] at h
  have key : qOp (pOp G o.op) o.dst n T s.H s.D ≠ .fail → (match ropA G s.T s.H o.op with
    | .val v _ => (match o.dst with | some d => eqAV v (s.T.at d) | none => false)
    | _ => false) = true ∧ qOp (pOp G o.op) o.dst n T s.H s.D = n T s.H s.D := by
    intro hq
    cases hp : pOp G o.op with
    | none => rw [hp] at hq; exact absurd rfl hq
    | some p =>
      rw [hp] at hq
      cases hd : o.dst with
      | none => rw [hd] at hq; exact absurd rfl hq
      | some d =>
        rw [hd] at hq
        have hlt : d < 256 := by have := h.1.2; rw [hd] at this; exact Nat.le_of_ble_eq_true this
        simp only [qOp, kQ] at hq ⊢
        rw [pOp_ok hp h.1.1 hv s.H]
        cases hpp : p T s.H with
        | none => rw [hpp] at hq; exact absurd rfl hq
        | some v =>
          rw [hpp] at hq
          simp only [OR.pure, hv d hlt] at hq ⊢
          cases he : eqAV v (getS d T) with
          | false => rw [he] at hq; exact absurd rfl hq
          | true => exact ⟨rfl, rfl⟩
  unfold qOper at hq ⊢
  unfold ragain
  cases hg : o.guard with
  | none =>
    rw [hg] at hq
    simp only [guardR, cond_true] at hq ⊢
    exact key hq
  | some g =>
    rw [hg] at hq
    have hlt : g.1 < 256 := by have := h.2; rw [hg] at this; exact Nat.le_of_ble_eq_true this
    simp only [guardR, kQG, hv g.1 hlt] at hq ⊢
    cases hb : isBool g.2 (getS g.1 T) with
    | true => rw [hb] at hq; simp only [cond_true]; exact key hq
    | false => simp only [cond_false]; exact ⟨trivial, trivial⟩
theorem cAgain_ok : ∀ {l : List ROper} (h : l.all okOper = true) (hv : Vw s.T T) (hq : cAgain G l n T s.H s.D ≠ .fail), ragains G s l = true ∧ cAgain G l n T s.H s.D = n T s.H s.D
  | [], _, hv, hq => ⟨rfl, rfl⟩
  | o :: l, h, hv, hq => by
    simp only [List.all_cons, Bool.and_eq_true] at h
    simp only [cAgain] at hq ⊢
    obtain ⟨h1, h2⟩ := qOper_ok h.1 hv hq
    rw [h2] at hq ⊢
    obtain ⟨h3, h4⟩ := cAgain_ok h.2 hv hq
    exact ⟨by simp [ragains, h1, h3], h4⟩
end
section
variable {G : Glob} {ev : Ev} {L : Nat} {fin' : Option AV → St → CR} {fin : Fin}
theorem outK_fail {nx : St → CR} {ex' : Nat → St → CR} {s : St} : outK nx ex' fin' ⟨.fail, s⟩ = .fail := rfl
theorem cDrawn_ok {n : K} {nx : St → CR} {ex' : Nat → St → CR} (hn : Agree n nx) : ∀ {l : List (ROper × List ROper)} (h : (l.all fun x => okOper x.1 && x.2.all okOper) = true), Agree (cDrawn G ev l n) fun s => outK nx ex' (fun _ _ => .fail) (rdrawn G ev l s)
  | [], _ => fun s T hv => hn s T hv
  | x :: l, h => fun s T hv => by
    simp only [List.all_cons, Bool.and_eq_true] at h
    simp only [cDrawn, rdrawn, outK_then]
    refine cOper_ok h.1.1 hv ?_ (fun u s T hv => .inl rfl)
    intro s1 T1 hv1
    by_cases hq : cAgain G x.2 (cDrawn G ev l n) T1 s1.H s1.D = .fail
    · exact .inl hq
    · obtain ⟨h1, h2⟩ := cAgain_ok h.1.2 hv1 hq
      show Lq _ (outK nx ex' (fun _ _ => .fail) (bif ragains G s1 x.2 then rdrawn G ev l s1 else ⟨.fail, s1⟩))
      rw [h2, h1]
      exact cDrawn_ok hn h.2 s1 T1 hv1
theorem outK_noPanic {nx : St → CR} {ex' : Nat → St → CR} {r : ES} (hr : r.e ≠ .ret) : outK nx ex' (fun _ _ => .fail) r = outK nx ex' fin' r.noPanic := by
  obtain ⟨e, s⟩ := r
  cases e <;> first | rfl | exact absurd rfl hr
theorem rstep_ne {o : ROper} {s : St} : (rstep G ev o s).e ≠ .ret := by
  unfold rstep
  cases guardR s.T o.guard with
  | false => exact fun h => by cases h
  | true =>
    simp only [cond_true]
    unfold afterA
    split <;> first | (exact fun h => by cases h) | (split <;> exact fun h => by cases h)
theorem rdrawn_ne : ∀ {l : List (ROper × List ROper)} {s : St}, (rdrawn G ev l s).e ≠ .ret
  | [], s => fun h => by cases h
  | x :: l, s => by
    simp only [rdrawn, ES.then]
    have := rstep_ne (G := G) (ev := ev) (o := x.1) (s := s)
    cases he : (rstep G ev x.1 s).e with
    | normal =>
      simp only
      cases ragains G (rstep G ev x.1 s).s x.2 with
      | true => exact rdrawn_ne
      | false => exact fun h => by cases h
    | ret => exact absurd he this
    | exit i => simp [he]
    | panic v => simp [he]
    | fail => simp [he]
theorem outK_inBlock {nx : St → CR} {ex' : Nat → St → CR} {r : ES} {id : Nat} : outK nx ex' fin' (r.inBlock id) = outK nx (fun i s => bif Nat.beq i id then nx s else ex' i s) fin' r := by
  obtain ⟨e, s⟩ := r
  cases e <;> first | rfl | skip
  rename_i i
  simp only [ES.inBlock, outK]
  cases Nat.beq i id <;> rfl
theorem cCode_ok (hf : ∀ u, Agree (fin u) (fin' u)) : ∀ (c : RCode), okCode c = true → ∀ {ex : Nat → K} {ex' : Nat → St → CR} {n : K} {nx : St → CR}, (∀ i, Agree (ex i) (ex' i)) → Agree n nx →
    Agree (cCode G ev fin L c ex n) fun s => outK nx ex' fin' (rcode G ev L c s)
  | .skip, _, ex, ex', n, nx, he, hn => fun s T hv => hn s T hv
  | .region l, h, ex, ex', n, nx, he, hn => cOpers_ok h hn hf
  | .drawn l, h, ex, ex', n, nx, he, hn => fun s T hv => by
    simp only [cCode, rcode]
    rw [← outK_noPanic rdrawn_ne]
    exact cDrawn_ok hn h s T hv
  | .seq a b, h, ex, ex', n, nx, he, hn => fun s T hv => by
    simp only [okCode, Bool.and_eq_true] at h
    simp only [cCode, rcode, outK_then]
    exact cCode_ok hf a h.1 he (cCode_ok hf b h.2 he hn) s T hv
  | .cond c a b, h, ex, ex', n, nx, he, hn => fun s T hv => by
    simp only [okCode, Bool.and_eq_true] at h
    have ha := cCode_ok hf a h.1.2 he hn s T hv
    have hb := cCode_ok hf b h.2 he hn s T hv
    simp only [cCode, kIf, rcode, cX_ok h.1.1 hv]
    cases RX.ev s.T c <;> first | exact .inl rfl | skip
    rename_i q
    cases q
    · exact hb
    · exact ha
  | .block id b, h, ex, ex', n, nx, he, hn => fun s T hv => by
    simp only [okCode] at h
    simp only [cCode, rcode, outK_inBlock]
    refine cCode_ok hf b h ?_ hn s T hv
    intro i
    cases hb : Nat.beq i id with
    | true => intro s T hv; simp only [hb, cond_true]; exact hn s T hv
    | false => intro s T hv; simp only [hb, cond_false]; exact he i s T hv
  | .loop b, h, ex, ex', n, nx, he, hn => by
    simp only [okCode] at h
    simp only [cCode, rcode]
    have key : ∀ m, Agree (kLoop (fun n' => cCode G ev fin L b ex n') m) fun s => outK nx ex' fin' (loopA (rcode G ev L b) m s) := by
      intro m
      induction m with
      | zero => exact fun s T hv => .inl rfl
      | succ m ih =>
        intro s T hv
        simp only [loopA, outK_then]
        exact cCode_ok hf b h he ih s T hv
    exact key L
  | .exit id, _, ex, ex', n, nx, he, hn => fun s T hv => he id s T hv
  | .ret, _, ex, ex', n, nx, he, hn => fun s T hv => hf none s T hv
end
end Go.AM
namespace Go.AM
open Go
abbrev CRun := Ev → Nat → List AV → Heap → CR
abbrev CDef := Ev → Nat → List AV → Option AV → Heap → CR
def argsS : List AV → Nat → Tm → Tm
  | [], _, T => T
  | x :: r, i, T => argsS r (i + 1) (setS i x T)
def argsTm : List AV → Option Tm
  | [] => some Tm.none
  | [a0] => some ⟨⟨a0, undefA, undefA, undefA, undefA, undefA, undefA, undefA, undefA, undefA, undefA, undefA, undefA, undefA, undefA, undefA⟩, S.all undefA, S.all undefA, S.all undefA, S.all undefA, S.all undefA, S.all undefA, S.all undefA, S.all undefA, S.all undefA, S.all undefA, S.all undefA, S.all undefA, S.all undefA, S.all undefA, S.all undefA⟩
  | [a0, a1] => some ⟨⟨a0, a1, undefA, undefA, undefA, undefA, undefA, undefA, undefA, undefA, undefA, undefA, undefA, undefA, undefA, undefA⟩, S.all undefA, S.all undefA, S.all undefA, S.all undefA, S.all undefA, S.all undefA, S.all undefA, S.all undefA, S.all undefA, S.all undefA, S.all undefA, S.all undefA, S.all undefA, S.all undefA, S.all undefA⟩
  | [a0, a1, a2] => some ⟨⟨a0, a1, a2, undefA, undefA, undefA, undefA, undefA, undefA, undefA, undefA, undefA, undefA, undefA, undefA, undefA⟩, S.all undefA, S.all undefA, S.all undefA, S.all undefA, S.all undefA, S.all undefA, S.all undefA, S.all undefA, S.all undefA, S.all undefA, S.all undefA, S.all undefA, S.all undefA, S.all undefA, S.all undefA⟩
  | [a0, a1, a2, a3] => some ⟨⟨a0, a1, a2, a3, undefA, undefA, undefA, undefA, undefA, undefA, undefA, undefA, undefA, undefA, undefA, undefA⟩, S.all undefA, S.all undefA, S.all undefA, S.all undefA, S.all undefA, S.all undefA, S.all undefA, S.all undefA, S.all undefA, S.all undefA, S.all undefA, S.all undefA, S.all undefA, S.all undefA, S.all undefA⟩
  | [a0, a1, a2, a3, a4] => some ⟨⟨a0, a1, a2, a3, a4, undefA, undefA, undefA, undefA, undefA, undefA, undefA, undefA, undefA, undefA, undefA⟩, S.all undefA, S.all undefA, S.all undefA, S.all undefA, S.all undefA, S.all undefA, S.all undefA, S.all undefA, S.all undefA, S.all undefA, S.all undefA, S.all undefA, S.all undefA, S.all undefA, S.all undefA⟩
  | [a0, a1, a2, a3, a4, a5] => some ⟨⟨a0, a1, a2, a3, a4, a5, undefA, undefA, undefA, undefA, undefA, undefA, undefA, undefA, undefA, undefA⟩, S.all undefA, S.all undefA, S.all undefA, S.all undefA, S.all undefA, S.all undefA, S.all undefA, S.all undefA, S.all undefA, S.all undefA, S.all undefA, S.all undefA, S.all undefA, S.all undefA, S.all undefA⟩
  | [a0, a1, a2, a3, a4, a5, a6] => some ⟨⟨a0, a1, a2, a3, a4, a5, a6, undefA, undefA, undefA, undefA, undefA, undefA, undefA, undefA, undefA⟩, S.all undefA, S.all undefA, S.all undefA, S.all undefA, S.all undefA, S.all undefA, S.all undefA, S.all undefA, S.all undefA, S.all undefA, S.all undefA, S.all undefA, S.all undefA, S.all undefA, S.all undefA⟩
  | [a0, a1, a2, a3, a4, a5, a6, a7] => some ⟨⟨a0, a1, a2, a3, a4, a5, a6, a7, undefA, undefA, undefA, undefA, undefA, undefA, undefA, undefA⟩, S.all undefA, S.all undefA, S.all undefA, S.all undefA, S.all undefA, S.all undefA, S.all undefA, S.all undefA, S.all undefA, S.all undefA, S.all undefA, S.all undefA, S.all undefA, S.all undefA, S.all undefA⟩
  | _ => none
theorem argsTm_eq {args : List AV} {T : Tm} (h : argsTm args = some T) : T = argsS args 0 Tm.none ∧ args.length ≤ 8 := by
  match args, h with
  | [], h => injection h with h; subst h; exact ⟨rfl, by simp⟩
  | [a0], h => injection h with h; subst h; exact ⟨rfl, by simp⟩
  | [a0, a1], h => injection h with h; subst h; exact ⟨rfl, by simp⟩
  | [a0, a1, a2], h => injection h with h; subst h; exact ⟨rfl, by simp⟩
  | [a0, a1, a2, a3], h => injection h with h; subst h; exact ⟨rfl, by simp⟩
  | [a0, a1, a2, a3, a4], h => injection h with h; subst h; exact ⟨rfl, by simp⟩
  | [a0, a1, a2, a3, a4, a5], h => injection h with h; subst h; exact ⟨rfl, by simp⟩
  | [a0, a1, a2, a3, a4, a5, a6], h => injection h with h; subst h; exact ⟨rfl, by simp⟩
  | [a0, a1, a2, a3, a4, a5, a6, a7], h => injection h with h; subst h; exact ⟨rfl, by simp⟩
  | a0 :: a1 :: a2 :: a3 :: a4 :: a5 :: a6 :: a7 :: a8 :: r, h => cases h
theorem sel_all {α : Type} (x : α) (i : Nat) : (S.all x).sel i = x := by unfold S.sel; split <;> rfl
theorem vw_none : Vw .lf Tm.none := by
  intro k hk
  simp only [Tmps.at, Tr.get_lf, getS, Tm.none, sel_all]
theorem vw_args : ∀ (args : List AV) (i : Nat) (t : Tmps) (T : Tm), i + args.length ≤ 256 → Vw t T → Vw (argsT args i t) (argsS args i T)
  | [], i, t, T, h, hv => hv
  | x :: r, i, t, T, h, hv => by
    simp only [List.length_cons] at h
    exact vw_args r (i + 1) _ _ (by omega) (hv.set (by omega) x)
theorem vw_argsTm {args : List AV} {T : Tm} (h : argsTm args = some T) : Vw (argsT args 0 .lf) T := by
  obtain ⟨rfl, hl⟩ := argsTm_eq h
  exact vw_args args 0 _ _ (by omega) vw_none
noncomputable section
def cRess (G : Glob) : List RRes → Tm → Heap → Option (List AV)
  | [], _, _ => some []
  | .tmp t :: r, T, H => (cRess G r T H).map fun l => getS t T :: l
  | .cell a agg n :: r, T, H => (loadR agg n G H (getS a T)).bind fun v => (cRess G r T H).map fun l => v :: l
def retK (res : Tm → Heap → Option (List AV)) (T : Tm) (H : Heap) : Option AV → CR
  | some v => .panic v H
  | none => @Option.rec (List AV) (fun _ => CR) .fail (fun vs => .ret (oneOrTup vs) H) (res T H)
def afterDef (res : Tm → Heap → Option (List AV)) (T : Tm) : CR → CR
  | .ret _ H => retK res T H none
  | _ => .fail
def finK (dk : FuncId → Option CDef) (ev : Ev) (L : Nat) (res : Tm → Heap → Option (List AV)) : Fin := fun u T H D =>
  match D with
  | [] => retK res T H u
  | [d] => (match dk d.1 with | none => .fail | some g => afterDef res T (g ev L d.2 u H))
  | _ => .fail
def finD : Fin := fun u T H D =>
  match u, D with
  | none, [] => .ret undefA H
  | _, _ => .fail
def orNil : Option AV → AV
  | some v => v
  | none => .nili
def cRun (G : Glob) (dk : FuncId → Option CDef) (rf : RFunc) : CRun := fun ev L args H =>
  match rf.body with
  | none => .fail
  | some c => @Option.rec Tm (fun _ => CR) .fail (fun T => cCode G ev (finK dk ev L (cRess G rf.results)) L c (fun _ => kFail) (finK dk ev L (cRess G rf.results) none) T H []) (argsTm args)
def cDef (G : Glob) (rf : RFunc) : CDef := fun ev L args u H =>
  match rf.defer with
  | none => .fail
  | some d => @Option.rec Tm (fun _ => CR) .fail (fun T => cOpers G ev finD d.2.1 (cCode G ev finD L d.2.2 (fun _ => kFail) (finD none)) (cD d.1 (orNil u) T) H []) (argsTm args)
end
def okRes : RRes → Bool
  | .tmp t => Nat.blt t 256
  | .cell a _ _ => Nat.blt a 256
def okFunc (rf : RFunc) : Bool :=
  rf.results.all okRes && (match rf.body with | none => true | some c => okCode c) && (match rf.defer with | none => true | some d => okD d.1 && d.2.1.all okOper && okCode d.2.2)
section
variable {G : Glob} {ev : Ev} {L : Nat}
theorem cRess_ok {t : Tmps} {T : Tm} (hv : Vw t T) (H : Heap) : ∀ {l : List RRes}, l.all okRes = true → cRess G l T H = rresL G t H l
  | [], _ => rfl
  | .tmp k :: r, h => by
    simp only [List.all_cons, Bool.and_eq_true] at h
    simp only [cRess, rresL, rres, cRess_ok hv H h.2, Option.bind_some, hv k (Nat.le_of_ble_eq_true h.1)]
  | .cell a agg n :: r, h => by
    simp only [List.all_cons, Bool.and_eq_true] at h
    simp only [cRess, rresL, rres, cRess_ok hv H h.2, hv a (Nat.le_of_ble_eq_true h.1)]
theorem retK_ok {t : Tmps} {T : Tm} (hv : Vw t T) (H : Heap) {l : List RRes} (h : l.all okRes = true) (u : Option AV) : retK (cRess G l) T H u = rret G l t H u := by
  cases u with
  | some v => rfl
  | none =>
    simp only [retK, rret, cRess_ok hv H h]
    cases rresL G t H l <;> rfl
def finD' : Option AV → St → CR := fun u s => match u, s.D with | none, [] => .ret undefA s.H | _, _ => .fail
theorem finD_ok (u : Option AV) : Agree (finD u) (finD' u) := fun s T hv => .inr (by
  unfold finD finD'
  cases u <;> cases s.D <;> rfl)
theorem noneLeft_of {r : ES} {v : AV} {H : Heap} (h : outK (finD' none) (fun _ _ => .fail) finD' r = .ret v H) : noneLeft r = some (none, H) := by
  obtain ⟨e, s⟩ := r
  obtain ⟨T, H0, D⟩ := s
  cases e <;> simp only [outK, finD'] at h
  · cases D with
    | nil => injection h with h1 h2; subst h2; rfl
    | cons => cases h
  · cases h
  · cases D with
    | nil => injection h with h1 h2; subst h2; rfl
    | cons => cases h
  · cases h
  · cases h
theorem cDef_ok {F : FuncId → Option RFunc} {f : FuncId} {rf : RFunc} (hF : F f = some rf) (ho : okFunc rf = true) {args : List AV} {u : Option AV} {H : Heap} {v : AV} {H' : Heap}
    (h : cDef G rf ev L args u H = .ret v H') : rdefer F G ev L f args u H = some (none, H') := by
  simp only [okFunc, Bool.and_eq_true] at ho
  unfold cDef at h
  cases hd : rf.defer with
  | none => rw [hd] at h; cases h
  | some d =>
    have ho2 := ho.2
    rw [hd] at h ho2
    simp only [Bool.and_eq_true] at h ho2
    cases ha : argsTm args with
    | none => rw [ha] at h; cases h
    | some T =>
      rw [ha] at h
      simp only at h
      have hv := cD_ok ho2.1.1 (vw_argsTm ha) (orNil u)
      have hc := cOpers_ok (G := G) (ev := ev) (fin := finD) (fin' := finD') (ex' := fun _ _ => .fail) ho2.1.2
        (cCode_ok (G := G) (ev := ev) (L := L) (fin := finD) (fin' := finD') finD_ok d.2.2 ho2.2 (ex := fun _ => kFail) (ex' := fun _ _ => .fail) (fun i s T hv => .inl rfl) (finD_ok none)) finD_ok ⟨putA (argsT args 0 .lf) d.1 (orNil u), H, []⟩ _ hv
      simp only at hc
      rw [h] at hc
      rcases hc with hc | hc
      · cases hc
      · simp only [rdefer, hF, Option.bind_some, hd]
        rw [← outK_then] at hc
        have := noneLeft_of hc.symm
        cases u <;> exact this
end
section
variable {G : Glob} {ev : Ev} {L : Nat} {F : FuncId → Option RFunc}
structure Comp (G : Glob) (F : FuncId → Option RFunc) (fk : FuncId → Option CRun) (dk : FuncId → Option CDef) : Prop where
  run : ∀ f g, fk f = some g → ∃ rf, F f = some rf ∧ okFunc rf = true ∧ g = cRun G dk rf
  defer : ∀ f g, dk f = some g → ∃ rf, F f = some rf ∧ okFunc rf = true ∧ g = cDef G rf
theorem finK_ok {dk : FuncId → Option CDef} (hdk : ∀ f g, dk f = some g → ∃ rf, F f = some rf ∧ okFunc rf = true ∧ g = cDef G rf) {res : List RRes} (hr : res.all okRes = true) (u : Option AV) :
    Agree (finK dk ev L (cRess G res) u) fun s => rfin F G ev L res s u := by
  intro s T hv
  obtain ⟨t, H, D⟩ := s
  simp only at hv
  unfold finK rfin
  match D with
  | [] => exact .inr (retK_ok hv H hr u)
  | [d] =>
    simp only
    cases hd : dk d.1 with
    | none => exact .inl rfl
    | some g =>
      obtain ⟨rf, h1, h2, rfl⟩ := hdk _ _ hd
      simp only
      cases hc : cDef G rf ev L d.2 u H with
      | ret v H' =>
        rw [cDef_ok h1 h2 hc]
        exact .inr (retK_ok hv H' hr none)
      | panic v H' => exact .inl rfl
      | fail => exact .inl rfl
  | _ :: _ :: _ => exact .inl rfl
theorem cRun_ok {dk : FuncId → Option CDef} (hdk : ∀ f g, dk f = some g → ∃ rf, F f = some rf ∧ okFunc rf = true ∧ g = cDef G rf) {f : FuncId} {rf : RFunc} (hF : F f = some rf) (ho : okFunc rf = true) (args : List AV) (H : Heap) :
    Lq (cRun G dk rf ev L args H) (rbody F G ev L f args H) := by
  simp only [okFunc, Bool.and_eq_true] at ho
  unfold cRun rbody
  rw [hF]
  cases hb : rf.body with
  | none => exact .inl rfl
  | some c =>
    have ho2 := ho.1.2
    rw [hb] at ho2
    simp only
    cases ha : argsTm args with
    | none => exact .inl rfl
    | some T =>
      simp only
      have hfin := fun u => finK_ok (ev := ev) (L := L) hdk ho.1.1 u
      have := cCode_ok (G := G) (ev := ev) (L := L) hfin c ho2 (ex := fun _ => kFail) (ex' := fun _ _ => .fail) (fun i s T hv => .inl rfl) (hfin none) ⟨argsT args 0 .lf, H, []⟩ T (vw_argsTm ha)
      simp only at this
      refine this.to ?_
      rw [hb]
      simp only
      generalize rcode G ev L c ⟨argsT args 0 .lf, H, []⟩ = r
      obtain ⟨e, s⟩ := r
      cases e <;> rfl
noncomputable def bodyK (fk : FuncId → Option CRun) (L : Nat) (ev : Ev) : Ev := fun f args H => @Option.rec CRun (fun _ => CR) .fail (fun g => g ev L args H) (fk f)
noncomputable def callK (fk : FuncId → Option CRun) (L : Nat) (n : Nat) : Ev := @Nat.rec (fun _ => Ev) (fun _ _ _ => .fail) (fun _ ev => bodyK fk L ev) n
theorem bodyK_ok {fk : FuncId → Option CRun} {dk : FuncId → Option CDef} (h : Comp G F fk dk) (f : FuncId) (args : List AV) (H : Heap) : Lq (bodyK fk L ev f args H) (rbody F G ev L f args H) := by
  unfold bodyK
  cases hf : fk f with
  | none => exact .inl rfl
  | some g =>
    obtain ⟨rf, h1, h2, rfl⟩ := h.run _ _ hf
    exact cRun_ok h.defer h1 h2 args H
end
section
variable {C : Ctx} {Sch : FuncId → Nat → Option Sched} {F : FuncId → Option RFunc} {L : Nat} {fk : FuncId → Option CRun} {dk : FuncId → Option CDef}
theorem bodyK_sound (hm : C.P.follows .mixedOrders = true) (hg : ProgGood C.P Sch) (hF : Resolved C.P Sch F) (hc : Comp C.G F fk dk) {ev : Ev} (hev : EvOK C ev) : EvOK C (bodyK fk L ev) := by
  intro f args H
  rcases bodyK_ok (ev := ev) (L := L) hc f args H with h | h
  · rw [h]; trivial
  · rw [h]; exact rbody_sound hm hg hF hev f args H
theorem callK_sound (hm : C.P.follows .mixedOrders = true) (hg : ProgGood C.P Sch) (hF : Resolved C.P Sch F) (hc : Comp C.G F fk dk) : ∀ n, EvOK C (callK fk L n)
  | 0 => fun f args H => trivial
  | n + 1 => bodyK_sound hm hg hF hc (callK_sound hm hg hF hc n)
end
end Go.AM
namespace Go.AM
open Go
def KsOk (G : Glob) (F : FuncId → Option RFunc) (dk : FuncId → Option CDef) : List (Nat × CRun) → Prop
  | [] => True
  | x :: r => (∃ rf, F x.1 = some rf ∧ okFunc rf = true ∧ x.2 = cRun G dk rf) ∧ KsOk G F dk r
theorem ksOk_mem {G : Glob} {F : FuncId → Option RFunc} {dk : FuncId → Option CDef} : ∀ {l : List (Nat × CRun)}, KsOk G F dk l → ∀ x ∈ l, ∃ rf, F x.1 = some rf ∧ okFunc rf = true ∧ x.2 = cRun G dk rf
  | [], _, x, hx => by cases hx
  | y :: r, h, x, hx => by
    cases hx with
    | head => exact h.1
    | tail _ hx => exact ksOk_mem h.2 x hx
theorem comp_of {G : Glob} {F : FuncId → Option RFunc} {dk : FuncId → Option CDef} {tr : Tr CRun} {ks : List (Nat × CRun)} (e : tr = mkTr ks) (h : KsOk G F dk ks) (hd : ∀ f g, dk f = some g → ∃ rf, F f = some rf ∧ okFunc rf = true ∧ g = cDef G rf) : Comp G F (fun f => tr.get f) dk where
  run := fun f g hf => by
    rw [e] at hf
    exact ksOk_mem h _ (mkTr_get hf)
  defer := hd
theorem cond_of {α : Type} {f i : Nat} {a b : Option α} {g : α} {Q : Prop} (h : (bif Nat.beq f i then a else b) = some g) (h1 : f = i → a = some g → Q) (h2 : b = some g → Q) : Q := by
  cases hb : Nat.beq f i with
  | true => rw [hb] at h; exact h1 (Nat.eq_of_beq_eq_true hb) h
  | false => rw [hb] at h; exact h2 h
end Go.AM
namespace Go.AM
open Go Go.RowKit
mutual
def flat : AV → Bool
  | .bool _ | .int _ _ | .str _ | .nilp | .nils | .nilf | .nili | .nilm | .gptr _ _ => true
  | .agg cs => flatL cs
  | .tup cs => flatL cs
  | .iface _ v => flat v
  | .fn _ a b => flatL a && flatL b
  | _ => false
def flatL : List AV → Bool
  | [] => true
  | x :: r => flat x && flatL r
end
mutual
theorem flat_V {K K' : Know} {w w' : World} : ∀ {a : AV} {v : Value}, flat a = true → V K w a v → V K' w' a v
  | _, _, _, .bool b => .bool b
  | _, _, _, .int k n => .int k n
  | _, _, _, .str s => .str s
  | _, _, _, .nilp => .nilp
  | _, _, _, .gptr g o => .gptr g o
  | _, _, _, .nils => .nils
  | _, _, _, .nilf => .nilf
  | _, _, _, .nili => .nili
  | _, _, _, .nilm => .nilm
  | .iface t a, .iface _ v, h, .iface _ _ _ hv => .iface t a v (flat_V (by simpa only [flat] using h) hv)
  | .agg cs, .agg us, h, .agg _ _ hv => .agg cs us (flat_VL (by simpa only [flat] using h) hv)
  | .tup cs, .tuple us, h, .tup _ _ hv => .tup cs us (flat_VL (by simpa only [flat] using h) hv)
  | .fn f first caps, .func _ us vs, h, .fn _ _ _ _ _ hf hc => by
    simp only [flat, Bool.and_eq_true] at h
    exact .fn f first caps us vs (flat_VL h.1 hf) (flat_VL h.2 hc)
  | _, _, h, .ptr .. => by simp [flat] at h
  | _, _, h, .dptr .. => by simp [flat] at h
  | _, _, h, .sl .. => by simp [flat] at h
  | _, _, h, .ds .. => by simp [flat] at h
  | _, _, h, .mp .. => by simp [flat] at h
theorem flat_VL {K K' : Know} {w w' : World} : ∀ {a : List AV} {v : List Value}, flatL a = true → VL K w a v → VL K' w' a v
  | _, _, _, .nil => .nil
  | a :: as_, v :: vs, h, .cons _ _ _ _ hv ht => by
    simp only [flatL, Bool.and_eq_true] at h
    exact .cons a v as_ vs (flat_V h.1 hv) (flat_VL h.2 ht)
end
def allK (w : World) : Know := ⟨fun _ => none, fun b => b < w.heap.size⟩
def noR : Rows := fun _ => none
theorem rel_all {C : Ctx} (hG : ∀ g cs, C.G g = some cs → flatL cs = true) {K : Know} {R : Rows} {w : World} (h : Rel C K R w) : Rel C (allK w) noR w where
  below := h.below
  base := h.base
  low := fun b hb => Nat.lt_of_lt_of_le hb h.base
  there := fun b hb => hb
  glob := fun g cs e => by
    obtain ⟨h1, us, h2, h3⟩ := h.glob g cs e
    exact ⟨h.there _ h1, us, h2, flat_VL (hG g cs e) h3⟩
  row := fun r cs e => by cases e
  map := fun r es e => by cases e
  inj := fun r r' x x' b base base' e => by cases e
theorem flat_call {C : Ctx} (hG : ∀ g cs, C.G g = some cs → flatL cs = true) {f : FuncId} {args : List AV} {v : AV} {H0 : Heap} (ha : flatL args = true) (hv : flat v = true)
    (h : CallOK C f args ⟨0, .lf⟩ (.ret v H0)) (H : Heap) : CallOK C f args H (.ret v H) := by
  obtain ⟨_, hen, h⟩ := h
  refine ⟨Nat.le_refl _, hen, fun K R w vs hR hp hf hvs => ?_⟩
  refine (h (allK w) noR w vs (rel_all hG hR) (fun r x hx => by simp [Heap.get, Tr.get_lf] at hx) (fun r _ _ => rfl) (flat_VL ha hvs)).mono ?_
  intro e w' he
  cases e with
  | returned u =>
    obtain ⟨K', hadv, hu⟩ := he
    have kept : ∀ b, b < w.heap.size → w'.heap[b]? = w.heap[b]? := fun b hb => hadv.ext.kept b hb
    have hext : WExt K w w' := ⟨hadv.ext.size, fun b hb => kept b (hR.there b hb), hadv.ext.room⟩
    refine ⟨K, ⟨.refl H, .refl K, fun _ => .inl rfl, ?_, hext⟩, flat_V hv hu⟩
    rw [upd_refl hp]
    exact {
      below := hadv.rel.below
      base := hadv.rel.base
      low := hR.low
      there := fun b hb => Nat.lt_of_lt_of_le (hR.there b hb) hadv.ext.size
      glob := fun g cs e => by
        obtain ⟨h1, us, h2, h3⟩ := hR.glob g cs e
        exact ⟨h1, us, h2.ext hext h1, h3.mono (.refl K) hext⟩
      row := fun r cs e => by
        obtain ⟨b, base, c, el, fr, h1, h2, h3, h4, h5, h6, h7⟩ := hR.row r cs e
        have hlt : b < w.heap.size := (Array.getElem?_eq_some_iff.1 h4).1
        exact ⟨b, base, c, el, fr, h1, h2, h3, (kept b hlt).trans h4, h5, h6, h7.mono (.refl K) hext⟩
      map := fun r es e => by
        obtain ⟨b, base, xs, clock, h1, h2, h3, h4, h5, h6⟩ := hR.map r es e
        have hlt : b < w.heap.size := (Array.getElem?_eq_some_iff.1 h4).1
        exact ⟨b, base, xs, clock, h1, h2, h3, (kept b hlt).trans h4, h5.mono (.refl K) hext, h6.mono (.refl K) hext⟩
      inj := hR.inj }
  | _ => exact he.elim
noncomputable def withFlat (f0 : FuncId) (v0 : AV) (ev : Ev) : Ev := fun f args H =>
  @Bool.rec (fun _ => CR) (ev f args H) (@List.rec AV (fun _ => CR) (.ret v0 H) (fun _ _ _ => .fail) args) (Nat.beq f f0)
theorem withFlat_ok {C : Ctx} (hG : ∀ g cs, C.G g = some cs → flatL cs = true) {f0 : FuncId} {v0 : AV} {ev : Ev} {H0 : Heap} (hev : EvOK C ev) (hv : flat v0 = true) (h : CallOK C f0 [] ⟨0, .lf⟩ (.ret v0 H0)) : EvOK C (withFlat f0 v0 ev) := by
  intro f args H
  unfold withFlat
  cases hb : Nat.beq f f0 with
  | false => exact hev f args H
  | true =>
    cases args with
    | nil =>
      have := Nat.eq_of_beq_eq_true hb
      subst this
      exact flat_call hG (by simp [flatL]) hv h H
    | cons => trivial
def boolOf : CR → Option Bool
  | .ret (.bool b) _ => some b
  | _ => none
theorem boolOf_some {r : CR} {b : Bool} (h : boolOf r = some b) : ∃ H, r = .ret (.bool b) H := by
  unfold boolOf at h
  split at h
  · rename_i b' H; injection h with h; subst h; exact ⟨H, rfl⟩
  · cases h
theorem withBool_ok {C : Ctx} (hG : ∀ g cs, C.G g = some cs → flatL cs = true) {f0 : FuncId} {b : Bool} {ev : Ev} (hev : EvOK C ev) (h : boolOf (ev f0 [] ⟨0, .lf⟩) = some b) : EvOK C (withFlat f0 (.bool b) ev) := by
  obtain ⟨H0, h0⟩ := boolOf_some h
  have h1 := hev f0 [] ⟨0, .lf⟩
  rw [h0] at h1
  exact withFlat_ok hG hev (by simp [flat]) h1
theorem rel_start {P : Program} {W : World} : Rel ⟨P, fun _ => none, W.heap.size, W⟩ (allK W) noR W where
  below := Below.refl _ _
  base := Nat.le_refl _
  low := fun b hb => hb
  there := fun b hb => hb
  glob := fun g cs e => by cases e
  row := fun r cs e => by cases e
  map := fun r es e => by cases e
  inj := fun r r' x x' b base base' e => by cases e
theorem law_run {P : Program} {W : World} {f : FuncId} {args : List AV} {vs : Array Value} {ev : Ev} {b : Bool} (hev : EvOK ⟨P, fun _ => none, W.heap.size, W⟩ ev)
    (hr : boolOf (ev f args ⟨0, .lf⟩) = some b) (hvs : VL (allK W) W args vs.toList) : Calls P f vs W fun e w' => e = .returned (.bool b) ∧ Below W.heap.size W w' := by
  obtain ⟨H, hH⟩ := boolOf_some hr
  have := hev f args ⟨0, .lf⟩
  rw [hH] at this
  refine (this.2.2 (allK W) noR W vs rel_start (fun r x hx => by simp [Heap.get, Tr.get_lf] at hx) (fun r _ _ => rfl) hvs).mono ?_
  intro e w' he
  cases e with
  | returned u =>
    obtain ⟨K', hadv, hu⟩ := he
    cases hu
    exact ⟨rfl, hadv.rel.below⟩
  | _ => exact he.elim
end Go.AM
namespace Go.AM
open Go Go.RowKit Go.WideShapes Go.ChangeShapes
theorem post_kept {H : Type} {enc : TypeId × Value → H} {P : Program} {fn : Func} {s : ChangeSpec} {apart fresh handsOn again : Bool} {W W' : World} {args : Array Value} {v : Value} {ds gs : List (DataW H)} {at0 atA atV : List MemPlace}
    (hb : Below W.heap.size W W') (hW : DataW.Whole enc P fn.params.toList s.vars apart W args.toList ds gs at0) (hat : at0 = atA ++ atV)
    (hr : ∀ (b : Nat) (sp : Nat → Bool) (hd : Bool), DataW.TrodAll enc P W' b sp hd fn.resultTypes.toList (v.resultList fn.resultTypes.size) (s.fn H (ds ++ gs)).results [])
    (ha : ∀ sp : Nat → Bool, (∀ p ∈ at0, sp p.block = true) → DataW.TrodAll enc P W' 0 sp true fn.params.toList args.toList (s.fn H (ds ++ gs)).args atA)
    (hv : ∀ sp : Nat → Bool, (∀ p ∈ at0, sp p.block = true) → DataW.TrodVars enc P W' sp s.vars (s.fn H (ds ++ gs)).vars atV)
    (hok : ∀ (j : Nat) (t : TypeId) (r : Value), fn.resultTypes[j]? = some t → (v.resultList fn.resultTypes.size)[j]? = some r → Value.okWide P W' .any 0 t r) :
    s.post enc P fn apart fresh handsOn again W args v W' := by
  have old : ∀ p ∈ at0, p.block < W.heap.size := fun p hp => hW.lt p hp
  have oldB : ∀ p ∈ at0, (fun b => decide (b < W.heap.size)) p.block = true := fun p hp => by simpa using old p hp
  have hin : ∀ p, p ∈ at0 ↔ p ∈ atA ∨ p ∈ atV := fun p => by rw [hat, List.mem_append]
  refine ⟨ds, gs, at0, [], atA, atV, hW, hr _ _ _, ha _ oldB, hv _ oldB, World.keptBut_mono (fun p hp => ⟨hp, Or.inr ((hin p).1 hp)⟩) (hb.frame (· ∈ at0)), fun _ => ?_⟩
  obtain ⟨_, _, _, _, _, hz, hn⟩ := hW
  have hz' : ∀ b off, MemPlace.cell b off ∈ at0 → W'.frozen? ⟨b, off, none⟩ = W.frozen? ⟨b, off, none⟩ := fun b off hp => hb.frozen (old _ hp)
  refine ⟨hok, _, _, ([] ++ atA) ++ atV, ⟨[] ++ atA, atV, trodAll_append (ha _ (fun _ _ => rfl)) (hr _ _ _), hv _ (fun _ _ => rfl), rfl, fun b off hp => ?_, fun hap => ?_⟩, fun p hp _ => ?_⟩
  · have hi : MemPlace.cell b off ∈ at0 := (hin _).2 (by simpa using hp)
    rw [hz' b off hi]
    exact hz b off hi
  · have := hn hap
    rw [hat] at this
    simpa using this
  · exact (hin p).2 (by simpa using hp)
end Go.AM
namespace Go.AM
open Go
abbrev K0 := Tm → Heap → CR
noncomputable section
def ob {α : Type} (o : Option α) (k : α → CR) : CR := @Option.rec α (fun _ => CR) .fail k o
def obR (o : Res) (k : AV → Heap → CR) : CR := @Option.rec (AV × Heap) (fun _ => CR) .fail (fun p => k p.1 p.2) o
def ck (r : CR) (k : AV → Heap → CR) : CR := @CR.rec (fun _ => CR) k (fun v H => .panic v H) .fail r
def na (H : Heap) (cs : List AV) (k : AV → Heap → CR) : CR := k (.ptr H.next 0) (H.new (.row cs))
def nm (H : Heap) (k : AV → Heap → CR) : CR := k (.mp H.next) (H.new (.map []))
def thr (H : Heap) : AV → CR
  | .iface t v => .panic (.iface t v) H
  | _ => .fail
def sure (b : Bool) (k : CR) : CR := @Bool.rec (fun _ => CR) .fail k b
def gd (b : Bool) (n a : CR) : CR := @Bool.rec (fun _ => CR) n a b
def rt (o : Option (List AV)) (H : Heap) : CR := @Option.rec (List AV) (fun _ => CR) .fail (fun vs => .ret (oneOrTup vs) H) o
def pV (x : Tm → AV) (d : Set1) (n : K0) : K0 := fun T H => n (d (x T) T) H
def pP (x : PF) (d : Set1) (n : K0) : K0 := fun T H => ob (x T H) fun v => n (d v T) H
def pR (x : Tm → Heap → Res) (d : Set1) (n : K0) : K0 := fun T H => obR (x T H) fun v H' => n (d v T) H'
def pN (x : Tm → List AV) (d : Set1) (n : K0) : K0 := fun T H => na H (x T) fun v H' => n (d v T) H'
def pW (d : Set1) (n : K0) : K0 := fun T H => nm H fun v H' => n (d v T) H'
def pM (x : Tm → Heap → Option Heap) (d : Set1) (n : K0) : K0 := fun T H => ob (x T H) fun H' => n (d undefA T) H'
def pC (ev : Ev) (f : Tm → AV) (a : Tm → List AV) (d : Set1) (n : K0) : K0 := fun T H => ob (asCall (a T) (f T)) fun fa => ck (ev fa.1 fa.2 H) fun v H' => n (d v T) H'
def pX (x : Tm → AV) : K0 := fun T H => thr H (x T)
def pG (g : Tm → AV) (want : Bool) (a : K0 → K0) (d : Set1) (n : K0) : K0 := fun T H => gd (isBool want (g T)) (n (d undefA T) H) (a n T H)
def pIf (c : Tm → AV) (a b : K0) : K0 := fun T H => ifK (a T H) (b T H) (c T)
def pLoop (body : K0 → K0) (L : Nat) : K0 := @Nat.rec (fun _ => K0) (fun _ _ => .fail) (fun _ r => body r) L
def pFail : K0 := fun _ _ => .fail
def dPure (x : Option PF) : Set1 → K0 → K0 :=
  match x with
  | some x => pP x
  | none => fun _ _ => pFail
def dOp (G : Glob) (ev : Ev) (r : ROp) : Set1 → K0 → K0 :=
  match r with
  | .mv x => pV (cX x)
  | .alloc z => pN (oCells z)
  | .box x => pN (oBox (cX x))
  | .lit false sz n cells ps => pR (oLit sz n cells (cQ ps))
  | .store n a x => pM (oStore n (cX a) (cX x))
  | .conv k x => pR (oConv k (cX x))
  | .iface t x => pV (oIface t (cX x))
  | .mkfn f first caps => pV (oFn f (cL first) (cL caps))
  | .mkmap none => pW
  | .mkmap (some r) => pR (oMap (cX r))
  | .mkslice sz z b l c => pR (oMkslice sz z b (cX l) (cX c))
  | .mapupd d m k v => pM (oMapupd d (cX m) (cX k) (cX v))
  | .panic x => fun _ _ => pX (cX x)
  | .defer f args => fun _ _ => pFail
  | .call f args => pC ev (cX f) (cL args)
  | .append sz bytes z byN s x => pR (oAppend sz bytes z byN (cX s) (cX x))
  | .clear sz z x => pR (oClear sz z (cX x))
  | r => dPure (pOp G r)
def dOper (G : Glob) (ev : Ev) (o : ROper) (n : K0) : K0 :=
  match o.guard with
  | none => dOp G ev o.op (cD o.dst) n
  | some g => pG (getS g.1) g.2 (dOp G ev o.op (cD o.dst)) (cD o.dst) n
def dOpers (G : Glob) (ev : Ev) : List ROper → K0 → K0
  | [], n => n
  | o :: r, n => dOper G ev o (dOpers G ev r n)
def againV (x : Option AV) (d : AV) : Bool := @Option.rec AV (fun _ => Bool) false (fun v => eqAV v d) x
def eOp (x : Option PF) (d : Option Nat) : Tm → Heap → Bool :=
  match x, d with
  | some x, some d => fun T H => againV (x T H) (getS d T)
  | _, _ => fun _ _ => false
def tOp (G : Glob) (r : ROp) : Option PF :=
  match r with
  | .conv k x => some fun T H => (convR H (cX x T) k).map (·.1)
  | .iface t x => some fun T _ => some (.iface t (cX x T))
  | .mkfn f first caps => some fun T _ => some (.fn f (cL first T) (cL caps T))
  | r => pOp G r
def eOper (G : Glob) (o : ROper) : Tm → Heap → Bool :=
  match o.guard with
  | none => eOp (tOp G o.op) o.dst
  | some g => fun T H => bif isBool g.2 (getS g.1 T) then eOp (tOp G o.op) o.dst T H else true
def pQ (x : Tm → Heap → Bool) (n : K0) : K0 := fun T H => sure (x T H) (n T H)
def dAgain (G : Glob) : List ROper → K0 → K0
  | [], n => n
  | o :: r, n => pQ (eOper G o) (dAgain G r n)
def noPan : Ev → Ev := fun ev f args H => @CR.rec (fun _ => CR) (fun v H => .ret v H) (fun _ _ => .fail) .fail (ev f args H)
def isPanic : ROp → Bool
  | .panic _ => true
  | _ => false
def dDrawn (G : Glob) (ev : Ev) : List (ROper × List ROper) → K0 → K0
  | [], n => n
  | x :: r, n => bif isPanic x.1.op then pFail else dOper G (noPan ev) x.1 (dAgain G x.2 (dDrawn G ev r n))
def dCode (G : Glob) (ev : Ev) (fin : K0) (L : Nat) : RCode → (Nat → K0) → K0 → K0
  | .skip, ex, n => n
  | .region l, ex, n => dOpers G ev l n
  | .drawn l, ex, n => dDrawn G ev l n
  | .seq a b, ex, n => dCode G ev fin L a ex (dCode G ev fin L b ex n)
  | .cond c a b, ex, n => pIf (cX c) (dCode G ev fin L a ex n) (dCode G ev fin L b ex n)
  | .block id b, ex, n => dCode G ev fin L b (fun i => bif Nat.beq i id then n else ex i) n
  | .loop b, ex, n => pLoop (fun n' => dCode G ev fin L b ex n') L
  | .exit id, ex, n => ex id
  | .ret, ex, n => fin
def finR (G : Glob) (res : List RRes) : K0 := fun T H => rt (cRess G res T H) H
def dRun (G : Glob) (rf : RFunc) : CRun := fun ev L args H =>
  match rf.body with
  | none => .fail
  | some c => ob (argsTm args) fun T => dCode G ev (finR G rf.results) L c (fun _ => pFail) (finR G rf.results) T H
end
def Ag (n : K0) (nx : St → CR) : Prop := ∀ (s : St) (T : Tm), s.D = [] → Vw s.T T → Lq (n T s.H) (nx s)
section
variable {G : Glob} {ev : Ev} {T : Tm} {nx : St → CR} {ex' : Nat → St → CR} {fin' : Option AV → St → CR} {n : K0} {s : St} {d : Option Nat}
theorem Lq.ofEq {a b : CR} (e : a = b) : Lq a b := .inr e
theorem pP_ok {p : PF} (hD : s.D = []) (hd : okD d = true) (hv : Vw s.T T) (hn : Ag n nx) : Lq (pP p (cD d) n T s.H) (outK nx ex' fin' (afterA ev s d (.pure s.H (p T s.H)))) := by
  unfold pP ob
  cases hp : p T s.H with
  | none => exact .inl rfl
  | some v => simp only [OR.pure, afterA, outK]; exact hn (s.put d v s.H) _ hD (cD_ok hd hv v)
theorem pR_ok {p : Tm → Heap → Res} (hD : s.D = []) (hd : okD d = true) (hv : Vw s.T T) (hn : Ag n nx) : Lq (pR p (cD d) n T s.H) (outK nx ex' fin' (afterA ev s d (.of (p T s.H)))) := by
  unfold pR obR
  cases hp : p T s.H with
  | none => exact .inl rfl
  | some vH => obtain ⟨v, H'⟩ := vH; simp only [OR.of, afterA, outK]; exact hn (s.put d v H') _ hD (cD_ok hd hv v)
theorem pM_ok {p : Tm → Heap → Option Heap} (hD : s.D = []) (hd : okD d = true) (hv : Vw s.T T) (hn : Ag n nx) : Lq (pM p (cD d) n T s.H) (outK nx ex' fin' (afterA ev s d (.mem (p T s.H)))) := by
  unfold pM ob
  cases hp : p T s.H with
  | none => exact .inl rfl
  | some H' => simp only [OR.mem, afterA, outK]; exact hn (s.put d undefA H') _ hD (cD_ok hd hv undefA)
theorem pV_ok {x : Tm → AV} (hD : s.D = []) (hd : okD d = true) (hv : Vw s.T T) (hn : Ag n nx) : Lq (pV x (cD d) n T s.H) (outK nx ex' fin' (afterA ev s d (.val (x T) s.H))) := by
  simp only [pV, afterA, outK]; exact hn (s.put d (x T) s.H) _ hD (cD_ok hd hv _)
theorem pN_ok {x : Tm → List AV} (hD : s.D = []) (hd : okD d = true) (hv : Vw s.T T) (hn : Ag n nx) : Lq (pN x (cD d) n T s.H) (outK nx ex' fin' (afterA ev s d (.val (.ptr s.H.next 0) (s.H.new (.row (x T)))))) := by
  simp only [pN, na, afterA, outK]; exact hn (s.put d (.ptr s.H.next 0) (s.H.new (.row (x T)))) _ hD (cD_ok hd hv _)
theorem dOp_ok {r : ROp} (h : okOp r = true) (hD : s.D = []) (hd : okD d = true) (hv : Vw s.T T) (hn : Ag n nx) (hf : ∀ v (s : St), s.D = [] → fin' (some v) s = .panic v s.H) :
    Lq (dOp G ev r (cD d) n T s.H) (outK nx ex' fin' (afterA ev s d (ropA G s.T s.H r))) := by
  cases hp : pOp G r with
  | some p =>
    have e := pOp_ok hp h hv s.H
    rw [e]
    cases r
    case mv x =>
      injection hp with hp; subst hp
      simp only [dOp, oMv, OR.pure]
      exact pV_ok hD hd hv hn
    case lit drawn sz n cells ps =>
      cases drawn with
      | false => cases hp
      | true => simp only [dOp, hp, dPure]; exact pP_ok hD hd hv hn
    all_goals first
      | (cases hp; done)
      | (simp only [dOp, hp, dPure]; exact pP_ok hD hd hv hn)
  | none =>
    cases r
    case lit drawn sz n cells ps =>
      cases drawn with
      | true => cases hp
      | false =>
        simp only [okOp] at h
        simp only [dOp, ropA]
        refine Lq.to (pR_ok (ev := ev) (ex' := ex') (fin' := fin') hD hd hv hn) ?_
        simp only [oLit, cQ_ok hv h]
        cases fillR cells (evQ s.T ps) <;> rfl
    case mkmap r =>
      cases r with
      | none =>
        simp only [dOp, ropA, pW, nm, afterA, outK]
        exact hn (s.put d (.mp s.H.next) (s.H.new (.map []))) _ hD (cD_ok hd hv _)
      | some x =>
        simp only [okOp, okO] at h
        simp only [dOp, ropA]
        refine Lq.to (pR_ok (ev := ev) (ex' := ex') (fin' := fin') hD hd hv hn) ?_
        simp only [oMap, cX_ok h hv]
        cases RX.ev s.T x <;> rfl
    case panic x =>
      simp only [okOp] at h
      simp only [dOp, ropA, pX, cX_ok h hv]
      cases RX.ev s.T x <;> first | exact .inl rfl | exact .inr (hf _ s hD).symm
    case call f args =>
      simp only [okOp, Bool.and_eq_true] at h
      simp only [dOp, ropA, pC, cX_ok h.1 hv, cL_ok hv h.2]
      cases asCall (evR s.T args) (RX.ev s.T f) with
      | none => exact .inl rfl
      | some fa =>
        simp only [OR.toCall, afterA, ob, ck]
        cases ev fa.1 fa.2 s.H with
        | ret v H' => exact hn (s.put d v H') _ hD (cD_ok hd hv v)
        | panic v H' => exact .inr (hf v ⟨s.T, H', s.D⟩ hD).symm
        | fail => exact .inl rfl
    case defer f args => exact .inl rfl
    all_goals first
      | (cases hp; done)
      | (simp only [okOp, Bool.and_eq_true] at h; simp only [dOp, ropA])
    case alloc z => exact pN_ok hD hd hv hn
    case box x =>
      refine Lq.to (pN_ok (ev := ev) (ex' := ex') (fin' := fin') hD hd hv hn) ?_
      simp only [oBox, cX_ok h hv]
    case store m a x =>
      refine Lq.to (pM_ok (ev := ev) (ex' := ex') (fin' := fin') hD hd hv hn) ?_
      simp only [oStore, cX_ok h.1 hv, cX_ok h.2 hv]
    case conv k x =>
      refine Lq.to (pR_ok (ev := ev) (ex' := ex') (fin' := fin') hD hd hv hn) ?_
      simp only [oConv, cX_ok h hv]
    case iface t x =>
      refine Lq.to (pV_ok (ev := ev) (ex' := ex') (fin' := fin') hD hd hv hn) ?_
      simp only [oIface, cX_ok h hv]
    case mkfn f a b =>
      refine Lq.to (pV_ok (ev := ev) (ex' := ex') (fin' := fin') hD hd hv hn) ?_
      simp only [oFn, cL_ok hv h.1, cL_ok hv h.2]
    case mkslice sz z b l c =>
      refine Lq.to (pR_ok (ev := ev) (ex' := ex') (fin' := fin') hD hd hv hn) ?_
      simp only [oMkslice, cX_ok h.1 hv, cX_ok h.2 hv]
    case mapupd dk m k v =>
      refine Lq.to (pM_ok (ev := ev) (ex' := ex') (fin' := fin') hD hd hv hn) ?_
      simp only [oMapupd, cX_ok h.1.1 hv, cX_ok h.1.2 hv, cX_ok h.2 hv]
    case append sz b z byN x y =>
      refine Lq.to (pR_ok (ev := ev) (ex' := ex') (fin' := fin') hD hd hv hn) ?_
      simp only [oAppend, cX_ok h.1 hv, cX_ok h.2 hv]
    case clear sz z x =>
      refine Lq.to (pR_ok (ev := ev) (ex' := ex') (fin' := fin') hD hd hv hn) ?_
      simp only [oClear, cX_ok h hv]
theorem dOper_ok {o : ROper} (h : okOper o = true) (hD : s.D = []) (hv : Vw s.T T) (hn : Ag n nx) (hf : ∀ v (s : St), s.D = [] → fin' (some v) s = .panic v s.H) :
    Lq (dOper G ev o n T s.H) (outK nx ex' fin' (rstep G ev o s)) := by
  simp only [okOper, Bool.and_eq_true] at h
  unfold dOper rstep
  cases hg : o.guard with
  | none => simp only [guardR, cond_true]; exact dOp_ok h.1.1 hD h.1.2 hv hn hf
  | some g =>
    have hlt : g.1 < 256 := by have := h.2; rw [hg] at this; exact Nat.le_of_ble_eq_true this
    simp only [guardR, pG, gd, hv g.1 hlt]
    cases isBool g.2 (getS g.1 T) with
    | true => simp only [cond_true]; exact dOp_ok h.1.1 hD h.1.2 hv hn hf
    | false => simp only [cond_false, outK]; exact hn (s.put o.dst undefA s.H) _ hD (cD_ok h.1.2 hv _)
theorem dOpers_ok : ∀ {l : List ROper} (h : l.all okOper = true) {n : K0} {nx : St → CR} (hn : Ag n nx) (hf : ∀ v (s : St), s.D = [] → fin' (some v) s = .panic v s.H), Ag (dOpers G ev l n) fun s => outK nx ex' fin' (rops G ev l s)
  | [], _, n, nx, hn, hf => fun s T hD hv => hn s T hD hv
  | o :: l, h, n, nx, hn, hf => fun s T hD hv => by
    simp only [List.all_cons, Bool.and_eq_true] at h
    simp only [dOpers, rops, outK_then]
    exact dOper_ok h.1 hD hv (dOpers_ok h.2 hn hf) hf
end
section
variable {G : Glob} {ev : Ev} {T : Tm} {n : K0} {s : St}
theorem tOp_ok {t : Tmps} {r : ROp} {p : PF} (hp : tOp G r = some p) (h : okOp r = true) (hv : Vw t T) {H : Heap} {v : AV} (e : p T H = some v) : ∃ H', ropA G t H r = .val v H' := by
  unfold tOp at hp
  split at hp
  · rename_i k x
    injection hp with hp; subst hp
    simp only [okOp] at h
    simp only [cX_ok h hv, Option.map_eq_some_iff] at e
    obtain ⟨y, hy, rfl⟩ := e
    exact ⟨y.2, by simp only [ropA, hy, OR.of]⟩
  · injection hp with hp; subst hp
    simp only [okOp] at h
    simp only [cX_ok h hv, Option.some.injEq] at e
    subst e
    exact ⟨H, rfl⟩
  · injection hp with hp; subst hp
    simp only [okOp, Bool.and_eq_true] at h
    simp only [cL_ok hv h.1, cL_ok hv h.2, Option.some.injEq] at e
    subst e
    exact ⟨H, rfl⟩
  · exact ⟨H, by rw [pOp_ok hp h hv H, e]; rfl⟩
theorem eOper_ok {o : ROper} (h : okOper o = true) (hv : Vw s.T T) (hq : eOper G o T s.H = true) : ragain G s o = true := by
  simp only [okOper, Bool.and_eq_true] at h
  have key : eOp (tOp G o.op) o.dst T s.H = true → (match ropA G s.T s.H o.op with
    | .val v _ => (match o.dst with | some d => eqAV v (s.T.at d) | none => false)
    | _ => false) = true := by
    intro hq
    cases hp : tOp G o.op with
    | none => rw [hp] at hq; cases hq
    | some p =>
      rw [hp] at hq
      cases hd : o.dst with
      | none => rw [hd] at hq; cases hq
      | some d =>
        rw [hd] at hq
        have hlt : d < 256 := by have := h.1.2; rw [hd] at this; exact Nat.le_of_ble_eq_true this
        simp only [eOp, againV] at hq
        cases hpp : p T s.H with
        | none => rw [hpp] at hq; cases hq
        | some v =>
          obtain ⟨H', hr⟩ := tOp_ok hp h.1.1 hv hpp
          rw [hpp] at hq
          rw [hr]
          simp only [hv d hlt]
          exact hq
  unfold eOper at hq
  unfold ragain
  cases hg : o.guard with
  | none =>
    rw [hg] at hq
    simp only [guardR, cond_true] at hq ⊢
    exact key hq
  | some g =>
    rw [hg] at hq
    have hlt : g.1 < 256 := by have := h.2; rw [hg] at this; exact Nat.le_of_ble_eq_true this
    simp only [guardR, hv g.1 hlt] at hq ⊢
    cases hb : isBool g.2 (getS g.1 T) with
    | true => rw [hb] at hq; exact key hq
    | false => rfl
theorem dAgain_ok : ∀ {l : List ROper} (h : l.all okOper = true) (hv : Vw s.T T) (hq : dAgain G l n T s.H ≠ .fail), ragains G s l = true ∧ dAgain G l n T s.H = n T s.H
  | [], _, hv, hq => ⟨rfl, rfl⟩
  | o :: l, h, hv, hq => by
    simp only [List.all_cons, Bool.and_eq_true] at h
    simp only [dAgain, pQ] at hq ⊢
    cases he : eOper G o T s.H with
    | false => rw [he] at hq; exact absurd rfl hq
    | true =>
      rw [he] at hq
      simp only [sure] at hq ⊢
      obtain ⟨h3, h4⟩ := dAgain_ok h.2 hv hq
      exact ⟨by simp [ragains, eOper_ok h.1 hv he, h3], h4⟩
end
section
variable {G : Glob} {ev : Ev} {L : Nat} {fin' : Option AV → St → CR} {fin : K0}
theorem afterA_noPan {s : St} {d : Option Nat} {r : OR} (hr : ∀ v, r ≠ .panic v) {nx : St → CR} {ex' : Nat → St → CR} : Lq (outK nx ex' (fun _ _ => .fail) (afterA (noPan ev) s d r)) (outK nx ex' (fun _ _ => .fail) (afterA ev s d r)) := by
  cases r with
  | val v H => exact .inr rfl
  | call f args =>
    simp only [afterA, noPan]
    cases ev f args s.H with
    | ret v H => exact .inr rfl
    | panic v H => exact .inl rfl
    | fail => exact .inr rfl
  | defer f args => exact .inr rfl
  | panic v => exact absurd rfl (hr v)
  | fail => exact .inr rfl
theorem Lq.trans {a b c : CR} (h : Lq a b) (k : Lq b c) : Lq a c := by
  rcases h with h | h
  · exact .inl h
  · rw [h]; exact k
theorem rstep_noPan {o : ROper} {s : St} (ho : isPanic o.op = false) {nx : St → CR} {ex' : Nat → St → CR} : Lq (outK nx ex' (fun _ _ => .fail) (rstep G (noPan ev) o s)) (outK nx ex' (fun _ _ => .fail) (rstep G ev o s)) := by
  unfold rstep
  cases guardR s.T o.guard with
  | false => exact .inr rfl
  | true =>
    simp only [cond_true]
    by_cases hr : ∀ v, ropA G s.T s.H o.op ≠ .panic v
    · exact afterA_noPan hr
    · have : ∃ v, ropA G s.T s.H o.op = .panic v := by
        rcases Classical.em (∃ v, ropA G s.T s.H o.op = .panic v) with h | h
        · exact h
        · exact absurd (fun v e => h ⟨v, e⟩) hr
      obtain ⟨v, hv⟩ := this
      rw [hv]
      exact .inr rfl
theorem dDrawn_ok {n : K0} {nx : St → CR} {ex' : Nat → St → CR} (hn : Ag n nx) : ∀ {l : List (ROper × List ROper)} (h : (l.all fun x => okOper x.1 && x.2.all okOper) = true), Ag (dDrawn G ev l n) fun s => outK nx ex' (fun _ _ => .fail) (rdrawn G ev l s)
  | [], _ => fun s T hD hv => hn s T hD hv
  | x :: l, h => fun s T hD hv => by
    simp only [List.all_cons, Bool.and_eq_true] at h
    simp only [dDrawn, rdrawn, outK_then]
    cases ho : isPanic x.1.op with
    | true => exact .inl rfl
    | false =>
      simp only [cond_false]
      refine Lq.trans ?_ (rstep_noPan ho)
      have hagain : Ag (dAgain G x.2 (dDrawn G ev l n)) fun s => outK nx ex' (fun _ _ => .fail) (bif ragains G s x.2 then rdrawn G ev l s else ⟨.fail, s⟩) := by
        intro s1 T1 hD1 hv1
        by_cases hq : dAgain G x.2 (dDrawn G ev l n) T1 s1.H = .fail
        · exact .inl hq
        · obtain ⟨h1, h2⟩ := dAgain_ok h.1.2 hv1 hq
          simp only
          rw [h2, h1]
          exact dDrawn_ok hn h.2 s1 T1 hD1 hv1
      have := dOper_ok (G := G) (ev := noPan ev) (ex' := ex') (fin' := fun u (s : St) => match u with | some v => CR.panic v s.H | none => CR.fail) h.1.1 hD hv hagain (fun v s _ => rfl)
      refine this.to ?_
      -- no panic comes out of the step
      have hne : ∀ v, (rstep G (noPan ev) x.1 s).e ≠ .panic v := by
        intro v he
        unfold rstep at he
        cases hg : guardR s.T x.1.guard with
        | false => rw [hg] at he; cases he
        | true =>
          rw [hg] at he
          simp only [cond_true] at he
          cases hr : ropA G s.T s.H x.1.op with
          | val v H => rw [hr] at he; cases he
          | defer f a => rw [hr] at he; cases he
          | fail => rw [hr] at he; cases he
          | call f a =>
            rw [hr] at he
            simp only [afterA, noPan] at he
            cases hc : ev f a s.H <;> rw [hc] at he <;> cases he
          | panic v' =>
            cases hop : x.1.op <;> rw [hop] at hr ho <;> simp only [ropA, isPanic] at hr ho <;> first
              | (cases ho; done)
              | exact (pure_not_panic hr).elim
              | exact (of_not_panic hr).elim
              | exact (mem_not_panic hr).elim
              | (cases hr; done)
              | skip
            case pick c a b => split at hr <;> cases hr
            case lit dr sz m cs ps => cases dr <;> split at hr <;> cases hr
            case mkmap r =>
              cases r with
              | none => simp only [ropA] at hr; cases hr
              | some r => simp only [ropA] at hr; split at hr <;> cases hr
            case call f a => cases hc : asCall (evR s.T a) (RX.ev s.T f) <;> rw [hc] at hr <;> cases hr
            case defer f a => cases hc : asCall (evR s.T a) (RX.ev s.T f) <;> rw [hc] at hr <;> cases hr
      have hne2 := rstep_ne (G := G) (ev := noPan ev) (o := x.1) (s := s)
      generalize rstep G (noPan ev) x.1 s = r at hne hne2
      obtain ⟨e, s1⟩ := r
      cases e <;> first | rfl | exact absurd rfl hne2 | exact absurd rfl (hne _)
theorem dCode_ok (hf : ∀ v (s : St), s.D = [] → fin' (some v) s = .panic v s.H) (hf0 : Ag fin (fin' none)) : ∀ (c : RCode), okCode c = true → ∀ {ex : Nat → K0} {ex' : Nat → St → CR} {n : K0} {nx : St → CR}, (∀ i, Ag (ex i) (ex' i)) → Ag n nx →
    Ag (dCode G ev fin L c ex n) fun s => outK nx ex' fin' (rcode G ev L c s)
  | .skip, _, ex, ex', n, nx, he, hn => fun s T hD hv => hn s T hD hv
  | .region l, h, ex, ex', n, nx, he, hn => dOpers_ok h hn hf
  | .drawn l, h, ex, ex', n, nx, he, hn => fun s T hD hv => by
    simp only [dCode, rcode]
    rw [← outK_noPanic rdrawn_ne]
    exact dDrawn_ok hn h s T hD hv
  | .seq a b, h, ex, ex', n, nx, he, hn => fun s T hD hv => by
    simp only [okCode, Bool.and_eq_true] at h
    simp only [dCode, rcode, outK_then]
    exact dCode_ok hf hf0 a h.1 he (dCode_ok hf hf0 b h.2 he hn) s T hD hv
  | .cond c a b, h, ex, ex', n, nx, he, hn => fun s T hD hv => by
    simp only [okCode, Bool.and_eq_true] at h
    have ha := dCode_ok hf hf0 a h.1.2 he hn s T hD hv
    have hb := dCode_ok hf hf0 b h.2 he hn s T hD hv
    simp only [dCode, pIf, rcode, cX_ok h.1.1 hv]
    cases RX.ev s.T c <;> first | exact .inl rfl | skip
    rename_i q
    cases q
    · exact hb
    · exact ha
  | .block id b, h, ex, ex', n, nx, he, hn => fun s T hD hv => by
    simp only [okCode] at h
    simp only [dCode, rcode, outK_inBlock]
    refine dCode_ok hf hf0 b h ?_ hn s T hD hv
    intro i
    cases hb : Nat.beq i id with
    | true => intro s T hD hv; simp only [hb, cond_true]; exact hn s T hD hv
    | false => intro s T hD hv; simp only [hb, cond_false]; exact he i s T hD hv
  | .loop b, h, ex, ex', n, nx, he, hn => by
    simp only [okCode] at h
    simp only [dCode, rcode]
    have key : ∀ m, Ag (pLoop (fun n' => dCode G ev fin L b ex n') m) fun s => outK nx ex' fin' (loopA (rcode G ev L b) m s) := by
      intro m
      induction m with
      | zero => exact fun s T hD hv => .inl rfl
      | succ m ih =>
        intro s T hD hv
        simp only [loopA, outK_then]
        exact dCode_ok hf hf0 b h he ih s T hD hv
    exact key L
  | .exit id, _, ex, ex', n, nx, he, hn => fun s T hD hv => he id s T hD hv
  | .ret, _, ex, ex', n, nx, he, hn => fun s T hD hv => hf0 s T hD hv
end
theorem dRun_ok {G : Glob} {ev : Ev} {L : Nat} {F : FuncId → Option RFunc} {f : FuncId} {rf : RFunc} (hF : F f = some rf) (ho : okFunc rf = true) (args : List AV) (H : Heap) :
    Lq (dRun G rf ev L args H) (rbody F G ev L f args H) := by
  simp only [okFunc, Bool.and_eq_true] at ho
  unfold dRun rbody
  rw [hF]
  cases hb : rf.body with
  | none => exact .inl rfl
  | some c =>
    have ho2 := ho.1.2
    rw [hb] at ho2
    simp only
    cases ha : argsTm args with
    | none => exact .inl rfl
    | some T =>
      have hfin : Ag (finR G rf.results) fun s => rfin F G ev L rf.results s none := by
        intro s T hD hv
        obtain ⟨t, H, D⟩ := s
        simp only at hD hv
        subst hD
        refine .inr ?_
        simp only [finR, rfin, rret, rt, cRess_ok hv H ho.1.1]
        cases rresL G t H rf.results <;> rfl
      have := dCode_ok (G := G) (ev := ev) (L := L) (fin' := fun u s => rfin F G ev L rf.results s u) (fun v s hD => by simp only [rfin, hD, rret]) hfin c ho2 (ex := fun _ => pFail) (ex' := fun _ _ => .fail) (fun i s T hD hv => .inl rfl) hfin ⟨argsT args 0 .lf, H, []⟩ T rfl (vw_argsTm ha)
      simp only at this
      refine this.to ?_
      rw [hb]
      simp only
      generalize rcode G ev L c ⟨argsT args 0 .lf, H, []⟩ = r
      obtain ⟨e, s⟩ := r
      cases e <;> rfl
end Go.AM
namespace Go.AM
open Go
def RunOK (G : Glob) (F : FuncId → Option RFunc) (f : FuncId) (g : CRun) : Prop := ∀ ev L args H, Lq (g ev L args H) (rbody F G ev L f args H)
theorem runOK_d {G : Glob} {F : FuncId → Option RFunc} {f : FuncId} {rf : RFunc} {g : CRun} (hF : F f = some rf) (ho : okFunc rf = true) (h : ∀ ev L args H, Lq (g ev L args H) (dRun G rf ev L args H)) : RunOK G F f g :=
  fun ev L args H => (h ev L args H).trans (dRun_ok hF ho args H)
theorem runOK_c {G : Glob} {F : FuncId → Option RFunc} {dk : FuncId → Option CDef} (hdk : ∀ f g, dk f = some g → ∃ rf, F f = some rf ∧ okFunc rf = true ∧ g = cDef G rf) {f : FuncId} {rf : RFunc} {g : CRun} (hF : F f = some rf) (ho : okFunc rf = true) (h : g = cRun G dk rf) : RunOK G F f g :=
  fun ev L args H => by rw [h]; exact cRun_ok hdk hF ho args H
def RunsOK (G : Glob) (F : FuncId → Option RFunc) : List (Nat × CRun) → Prop
  | [] => True
  | x :: r => RunOK G F x.1 x.2 ∧ RunsOK G F r
theorem runsOK_mem {G : Glob} {F : FuncId → Option RFunc} : ∀ {l : List (Nat × CRun)}, RunsOK G F l → ∀ x ∈ l, RunOK G F x.1 x.2
  | [], _, x, hx => by cases hx
  | y :: r, h, x, hx => by
    cases hx with
    | head => exact h.1
    | tail _ hx => exact runsOK_mem h.2 x hx
theorem runsOK_of {G : Glob} {F : FuncId → Option RFunc} {tr : Tr CRun} {ks : List (Nat × CRun)} (e : tr = mkTr ks) (h : RunsOK G F ks) : ∀ f g, (fun f => tr.get f) f = some g → RunOK G F f g := by
  intro f g hf
  simp only at hf
  rw [e] at hf
  exact runsOK_mem h _ (mkTr_get hf)
section
variable {C : Ctx} {Sch : FuncId → Nat → Option Sched} {F : FuncId → Option RFunc} {L : Nat} {fk : FuncId → Option CRun}
theorem bodyF_sound (hm : C.P.follows .mixedOrders = true) (hg : ProgGood C.P Sch) (hF : Resolved C.P Sch F) (hc : ∀ f g, fk f = some g → RunOK C.G F f g) {ev : Ev} (hev : EvOK C ev) : EvOK C (bodyK fk L ev) := by
  intro f args H
  have : Lq (bodyK fk L ev f args H) (rbody F C.G ev L f args H) := by
    unfold bodyK
    cases hf : fk f with
    | none => exact .inl rfl
    | some g => exact hc f g hf ev L args H
  rcases this with h | h
  · rw [h]; trivial
  · rw [h]; exact rbody_sound hm hg hF hev f args H
theorem callF_sound (hm : C.P.follows .mixedOrders = true) (hg : ProgGood C.P Sch) (hF : Resolved C.P Sch F) (hc : ∀ f g, fk f = some g → RunOK C.G F f g) : ∀ n, EvOK C (callK fk L n)
  | 0 => fun f args H => trivial
  | n + 1 => bodyF_sound hm hg hF hc (callF_sound hm hg hF hc n)
end
end Go.AM
