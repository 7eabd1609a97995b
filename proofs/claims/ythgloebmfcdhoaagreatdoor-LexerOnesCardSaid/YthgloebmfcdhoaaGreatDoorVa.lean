import Derived.Below
import Derived.Laws.Tables
import Derived.Laws.Cells
import Derived.Laws.CopyRow
import Derived.Lib.FrozenHead
import Derived.Laws.StructEq
import Derived.Lib.AppendStr
set_option linter.unusedVariables false
set_option linter.unusedSimpArgs false
namespace Go.AM
open Go
noncomputable section
inductive AV where
  | bool (b : Bool) | int (k : IntKind) (n : Int) | str (s : ByteArray)
  | nilp | ptr (r o : Nat) | gptr (g o : Nat) | dptr (cs : List AV)
  | nils | sl (r o len esz : Nat) (cap : Option Nat) | ds (len : Nat) (cs : List AV) (cap : Option Nat)
  | fn (f : FuncId) (first caps : List AV) | nilf
  | iface (t : TypeId) (v : AV) | nili
  | agg (cs : List AV) | tup (vs : List AV)
  | nilm | mp (m : Nat)
  deriving Inhabited
def AV.cells : AV → List AV
  | .agg cs => cs
  | v => [v]
def undefA : AV := .tup []
mutual
def ofVal : Value → Option AV
  | .bool b => some (.bool b) | .int k n => some (.int k n) | .string s => some (.str s)
  | .pointer none => some .nilp | .slice none 0 0 => some .nils | .map none => some .nilm
  | .nilFunc => some .nilf | .nilIface => some .nili
  | .agg ⟨cs⟩ => (ofVals cs).map .agg
  | .tuple ⟨cs⟩ => (ofVals cs).map .tup
  | _ => none
def ofVals : List Value → Option (List AV)
  | [] => some []
  | v :: r => (ofVal v).bind fun a => (ofVals r).map fun b => a :: b
end
inductive Ob where
  | row (cs : List AV)
  | map (es : List (AV × AV))
  deriving Inhabited
inductive Tr (α : Type) where
  | lf
  | nd (v : Option α) (l r : Tr α)
  deriving Inhabited
def Tr.get {α : Type} (t : Tr α) : Nat → Option α :=
  @Tr.rec α (fun _ => Nat → Option α) (fun _ => none) (fun v _ _ gl gr n => @Nat.rec (fun _ => Option α) v (fun m _ => @Bool.rec (fun _ => Option α) (gr (m / 2)) (gl (m / 2)) (Nat.beq (m % 2) 0)) n) t
def Tr.setF {α : Type} (d : Nat) : Tr α → Nat → Option α → Tr α :=
  @Nat.rec (fun _ => Tr α → Nat → Option α → Tr α) (fun t _ _ => t) (fun _ ih t n x => @Tr.rec α (fun _ => Tr α)
    (@Nat.rec (fun _ => Tr α) (.nd x .lf .lf) (fun m _ => @Bool.rec (fun _ => Tr α) (.nd none .lf (ih .lf (m / 2) x)) (.nd none (ih .lf (m / 2) x) .lf) (Nat.beq (m % 2) 0)) n)
    (fun v l r _ _ => @Nat.rec (fun _ => Tr α) (.nd x l r) (fun m _ => @Bool.rec (fun _ => Tr α) (.nd v l (ih r (m / 2) x)) (.nd v (ih l (m / 2) x) r) (Nat.beq (m % 2) 0)) n) t) d
def Tr.set {α : Type} (t : Tr α) (n : Nat) (x : Option α) : Tr α := t.setF (n + 1) n x
theorem Tr.get_lf {α : Type} (n : Nat) : (Tr.lf : Tr α).get n = none := rfl
theorem Tr.get_z {α : Type} (v : Option α) (l r : Tr α) : (Tr.nd v l r).get 0 = v := rfl
theorem Tr.get_s {α : Type} (v : Option α) (l r : Tr α) (n : Nat) : (Tr.nd v l r).get (n + 1) = bif Nat.beq (n % 2) 0 then l.get (n / 2) else r.get (n / 2) := by
  cases h : Nat.beq (n % 2) 0 <;> simp only [Tr.get, h] <;> rfl
theorem Tr.setF_lz {α : Type} (d : Nat) (x : Option α) : (Tr.lf : Tr α).setF (d + 1) 0 x = .nd x .lf .lf := rfl
theorem Tr.setF_ls {α : Type} (d n : Nat) (x : Option α) : (Tr.lf : Tr α).setF (d + 1) (n + 1) x = bif Nat.beq (n % 2) 0 then .nd none (Tr.lf.setF d (n / 2) x) .lf else .nd none .lf (Tr.lf.setF d (n / 2) x) := by
  cases h : Nat.beq (n % 2) 0 <;> simp only [Tr.setF, h] <;> rfl
theorem Tr.setF_nz {α : Type} (d : Nat) (v : Option α) (l r : Tr α) (x : Option α) : (Tr.nd v l r).setF (d + 1) 0 x = .nd x l r := rfl
theorem Tr.setF_ns {α : Type} (d n : Nat) (v : Option α) (l r : Tr α) (x : Option α) : (Tr.nd v l r).setF (d + 1) (n + 1) x = bif Nat.beq (n % 2) 0 then .nd v (l.setF d (n / 2) x) r else .nd v l (r.setF d (n / 2) x) := by
  cases h : Nat.beq (n % 2) 0 <;> simp only [Tr.setF, h] <;> rfl
structure Heap where
  next : Nat
  tr : Tr Ob
  deriving Inhabited
def Heap.get (H : Heap) (r : Nat) : Option Ob := H.tr.get r
def Heap.put (H : Heap) (r : Nat) (x : Option Ob) : Heap := ⟨H.next, H.tr.set r x⟩
def Heap.new (H : Heap) (x : Ob) : Heap := ⟨H.next + 1, H.tr.set H.next (some x)⟩
def Heap.row (H : Heap) (r : Nat) : Option (List AV) := match H.get r with | some (.row cs) => some cs | _ => none
def takeN : Nat → List AV → Option (List AV)
  | 0, _ => some []
  | _ + 1, [] => none
  | n + 1, x :: xs => match takeN n xs with | some ys => some (x :: ys) | none => none
def dropN : Nat → List AV → List AV
  | 0, xs => xs
  | _ + 1, [] => []
  | n + 1, _ :: xs => dropN n xs
def window (cs : List AV) (o n : Nat) : Option (List AV) := takeN n (dropN o cs)
def over : List AV → List AV → Option (List AV)
  | cs, [] => some cs
  | [], _ :: _ => none
  | _ :: cs, x :: xs => match over cs xs with | some ys => some (x :: ys) | none => none
def setAll : List AV → Nat → List AV → Option (List AV)
  | cs, 0, xs => over cs xs
  | [], _ + 1, _ => none
  | c :: cs, n + 1, xs => match setAll cs n xs with | some ys => some (c :: ys) | none => none
def nth : List AV → Nat → Option AV
  | [], _ => none
  | x :: _, 0 => some x
  | _ :: xs, n + 1 => nth xs n
def aggD : TypeDesc → Bool
  | .struct _ | .array _ _ => true
  | _ => false
def isAggT (P : Program) (t : TypeId) : Option Bool := (P.underlying t).map aggD
def sizeT (P : Program) (t : TypeId) : Option Nat := (P.info? t).map (·.size)
def bytesT (P : Program) (t : TypeId) : Option Nat := (P.info? t).map (·.bytes)
def zeroT (P : Program) (t : TypeId) : Option (List AV) := (P.info? t).bind fun i => i.zero.bind fun z => (ofVal z).map AV.cells
def zeroV (P : Program) (t : TypeId) : Option AV := (P.info? t).bind fun i => i.zero.bind ofVal
abbrev Glob := Nat → Option (List AV)
abbrev Res := Option (AV × Heap)
def wrapVal (agg : Bool) (cs : List AV) : Option AV := bif agg then some (.agg cs) else match cs with | [x] => some x | _ => none
def cellsAt (G : Glob) (H : Heap) (n : Nat) : AV → Option (List AV)
  | .ptr r o => (H.row r).bind fun cs => window cs o n
  | .gptr g o => (G g).bind fun cs => window cs o n
  | .dptr cs => window cs 0 n
  | _ => none
def loadA (P : Program) (G : Glob) (H : Heap) (t : TypeId) (p : AV) : Option AV :=
  (isAggT P t).bind fun agg => (sizeT P t).bind fun n => (cellsAt G H n p).bind fun cs => wrapVal agg cs
def oneA : AV → Bool
  | .agg _ => false | .tup _ => false
  | _ => true
def allOne : List AV → Bool
  | [] => true
  | x :: r => oneA x && allOne r
def storeCellsA (H : Heap) (xs : List AV) : AV → Option Heap
  | .ptr r o => (H.row r).bind fun cs => (setAll cs o xs).map fun cs => H.put r (some (.row cs))
  | _ => none
def storeA (P : Program) (H : Heap) (t : TypeId) (p v : AV) : Option Heap :=
  (sizeT P t).bind fun n => bif Nat.beq v.cells.length n && allOne v.cells then storeCellsA H v.cells p else none
def fillA (place : Nat → Option (Nat × Nat)) (cells : List AV) : List (Nat × AV) → Option (List AV)
  | [] => some cells
  | (i, v) :: rest => (place i).bind fun os => bif Nat.beq v.cells.length os.2 then (setAll cells os.1 v.cells).bind fun cs => fillA place cs rest else none
def placesA (P : Program) : List Field → Option (List (Nat × Nat))
  | [] => some []
  | f :: r => (sizeT P f.type).bind fun s => (placesA P r).map fun l => (f.offset, s) :: l
def buildD (P : Program) (z : List AV) (parts : List (Nat × AV)) : TypeDesc → Option AV
  | .struct fs => (placesA P fs.toList).bind fun pl => (fillA (fun i => pl[i]?) z parts).map .agg
  | .array _ e => (sizeT P e).bind fun s => (fillA (fun i => some (i * s, s)) z parts).map .agg
  | _ => none
def buildA (P : Program) (t : TypeId) (parts : List (Nat × AV)) : Option AV :=
  (zeroT P t).bind fun z => (P.underlying t).bind fun d => buildD P z parts d
def repeatCells (z : List AV) : Nat → List AV
  | 0 => []
  | n + 1 => z ++ repeatCells z n
def elemT (P : Program) (t : TypeId) : Option TypeId := match P.underlying t with | some (.slice e) => some e | _ => none
def zsT (P : Program) (e : TypeId) : Option (Nat × List AV) := (sizeT P e).bind fun s => (zeroT P e).bind fun z => bif Nat.beq z.length s then some (s, z) else none
def sliceCells (P : Program) (e : TypeId) (len : Nat) (parts : List (Nat × AV)) : Option (Nat × List AV) :=
  (zsT P e).bind fun sz => bif Nat.ble (len * sz.1) 16777216 then
    (fillA (fun i => some (i * sz.1, sz.1)) (repeatCells sz.2 len) parts).map fun cs => (sz.1, cs)
    else none
def partA (P : Program) (t : TypeId) (cs : List AV) (off : Nat) : Option AV :=
  (isAggT P t).bind fun agg => bif agg then (sizeT P t).bind fun n => (window cs off n).map .agg else nth cs off
def wrapF (k : IntKind) (n : Int) : Int :=
  match k, n with
  | .i64, .ofNat m => bif Nat.ble m 9223372036854775807 then .ofNat m else k.wrap n
  | .i64, .negSucc m => bif Nat.ble m 9223372036854775807 then .negSucc m else k.wrap n
  | .i32, .ofNat m => bif Nat.ble m 2147483647 then .ofNat m else k.wrap n
  | .i32, .negSucc m => bif Nat.ble m 2147483647 then .negSucc m else k.wrap n
  | .u64, .ofNat m => bif Nat.ble m 18446744073709551615 then .ofNat m else k.wrap n
  | .u8, .ofNat m => bif Nat.ble m 255 then .ofNat m else k.wrap n
  | k, n => k.wrap n
def addF : Int → Int → Int
  | .ofNat a, .ofNat b => .ofNat (a + b)
  | a, b => a + b
def eqF : Int → Int → Bool
  | .ofNat a, .ofNat b => Nat.beq a b
  | .negSucc a, .negSucc b => Nat.beq a b
  | _, _ => false
def leF : Int → Int → Bool
  | .ofNat a, .ofNat b => Nat.ble a b
  | .negSucc a, .negSucc b => Nat.ble b a
  | .negSucc _, .ofNat _ => true
  | .ofNat _, .negSucc _ => false
def divA (k : IntKind) (x y : Int) : Option AV := bif eqF y 0 then none else some (.int k (wrapF k (x.tdiv y)))
def remA (k : IntKind) (x y : Int) : Option AV := bif eqF y 0 then none else some (.int k (x.tmod y))
def bitA (k : IntKind) (r : BitVec k.bits) : Option AV := some (.int k (wrapF k r.toNat))
def shlA (k : IntKind) (x y : Int) : Option AV := bif leF 0 y then some (.int k (k.wrap (x * 2 ^ (min y.toNat k.bits)))) else none
def shrA (k : IntKind) (x y : Int) : Option AV := bif leF 0 y then some (.int k (x.fdiv (2 ^ (min y.toNat k.bits)))) else none
def intOp (op : BinOp) (k : IntKind) (x y : Int) : Option AV :=
  match op with
  | .add => some (.int k (wrapF k (addF x y))) | .sub => some (.int k (wrapF k (x - y))) | .mul => some (.int k (wrapF k (x * y)))
  | .quo => divA k x y | .rem => remA k x y
  | .and => bitA k (BitVec.ofInt k.bits x &&& BitVec.ofInt k.bits y)
  | .or => bitA k (BitVec.ofInt k.bits x ||| BitVec.ofInt k.bits y)
  | .xor => bitA k (BitVec.ofInt k.bits x ^^^ BitVec.ofInt k.bits y)
  | .andNot => bitA k (BitVec.ofInt k.bits x &&& ~~~(BitVec.ofInt k.bits y))
  | .shl => shlA k x y | .shr => shrA k x y
  | .eql => some (.bool (eqF x y)) | .neq => some (.bool (!eqF x y)) | .lss => some (.bool (!leF y x)) | .leq => some (.bool (leF x y)) | .gtr => some (.bool (!leF x y)) | .geq => some (.bool (leF y x))
def kindEq (j k : IntKind) : Bool := decide (j = k)
def eqD : TypeDesc → AV → AV → Option Bool
  | .bool, .bool a, .bool b => some (a == b)
  | .pointer _, .nilp, .nilp => some true
  | .pointer _, .nilp, .ptr _ _ => some false
  | .pointer _, .ptr _ _, .nilp => some false
  | .interface ms, .nili, .nili => bif ms.isEmpty then some true else none
  | .interface _, .nili, .iface _ _ => some false
  | .interface _, .iface _ _, .nili => some false
  | .func _ _ _, .nilf, .nilf => some true
  | .func _ _ _, .nilf, .fn _ _ _ => some false
  | .func _ _ _, .fn _ _ _, .nilf => some false
  | .slice _, .nils, .nils => some true
  | .slice _, .nils, .sl _ _ _ _ _ => some false
  | .slice _, .sl _ _ _ _ _, .nils => some false
  | .slice _, .nils, .ds (_ + 1) _ _ => some false
  | .slice _, .ds (_ + 1) _ _, .nils => some false
  | _, _, _ => none
def eqKey : AV → AV → Option Bool
  | .int j a, .int k b => bif kindEq j k then some (eqF a b) else none
  | .bool a, .bool b => some (a == b)
  | .str a, .str b => some (a == b)
  | _, _ => none
def keyD : TypeDesc → Bool
  | .int _ => true | .bool => true | .string => true
  | _ => false
def keyFits : TypeDesc → AV → Bool
  | .int _, .int _ _ => true
  | .bool, .bool _ => true
  | .string, .str _ => true
  | _, _ => false
def keyTy (P : Program) (t : TypeId) : Option TypeDesc := (P.underlying t).bind fun d => bif keyD d then some d else none
def eqKeys : List TypeDesc → List AV → List AV → Option Bool
  | [], [], [] => some true
  | d :: ds, x :: xs, y :: ys => bif keyFits d x then (match eqKey x y with
    | some true => eqKeys ds xs ys
    | some false => some false
    | none => none) else none
  | _, _, _ => none
def flatDescs (P : Program) : Nat → List Field → Option (List TypeDesc)
  | _, [] => some []
  | i, f :: r => bif Nat.beq f.offset i && (f.name != "_") then (keyTy P f.type).bind fun d => (flatDescs P (i + 1) r).map fun ds => d :: ds else none
def flatStruct (P : Program) (t : TypeId) : Option (List TypeDesc) :=
  match P.underlying t with
  | some (.struct fs) => bif P.eqGuardType P.depth t || P.stoodInHeld t then none else flatDescs P 0 fs.toList
  | _ => none
def isShift : BinOp → Bool
  | .shl | .shr => true
  | _ => false
def eqOp (op : BinOp) (r : Option Bool) : Option AV :=
  match op with
  | .eql => r.map .bool
  | .neq => r.map fun b => .bool !b
  | _ => none
def strOp (op : BinOp) (a b : ByteArray) : Option AV :=
  match op with
  | .add => bif Nat.ble (a.size + b.size) 1099511627776 then some (.str (a ++ b)) else none
  | .eql => some (.bool (a.toList == b.toList)) | .neq => some (.bool !(a.toList == b.toList))
  | _ => none
def binA (P : Program) (t : TypeId) (op : BinOp) (x y : AV) : Option AV :=
  match x, y with
  | .int k a, .int k' b => bif isShift op || kindEq k k' then intOp op k a b else none
  | .str a, .str b => strOp op a b
  | .agg xs, .agg ys => (flatStruct P t).bind fun ds => eqOp op (eqKeys ds xs ys)
  | x, y => (P.underlying t).bind fun d => eqOp op (eqD d x y)
def unA (op : UnOp) (x : AV) : Option AV :=
  match op, x with
  | .neg, .int k n => intOp .sub k 0 n
  | .xor, .int k n => intOp .xor k (if k.signed then -1 else k.max) n
  | .not, .bool b => some (.bool !b)
  | _, _ => none
def natA : AV → Option Nat
  | .int _ (.ofNat n) => some n
  | _ => none
def lenA : AV → Option Nat
  | .nils => some 0 | .sl _ _ n _ _ => some n | .ds n _ _ => some n | .str s => some s.size
  | _ => none
def lenS : AV → Option Nat
  | .nils => some 0 | .sl _ _ n _ _ => some n | .ds n _ _ => some n
  | _ => none
def byteCells : List UInt8 → List AV
  | [] => []
  | c :: r => .int .u8 c.toNat :: byteCells r
def sliceRead (H : Heap) (s : Nat) : AV → Option (List AV)
  | .nils => some []
  | .sl r o n e _ => bif Nat.beq e s then (bif Nat.beq n 0 then some [] else (H.row r).bind fun cs => window cs o (n * s)) else none
  | .ds n cs _ => bif Nat.beq cs.length (n * s) then some cs else none
  | .str b => bif Nat.beq s 1 then some (byteCells b.data.toList) else none
  | _ => none
def growA (H : Heap) (sz n m : Nat) (old new : List AV) : AV → Res
  | .nils => some (.sl H.next 0 m sz none, H.new (.row new))
  | .ds _ _ (some c) => bif Nat.ble (n + m) c then none else some (.sl H.next 0 (n + m) sz none, H.new (.row (old ++ new)))
  | .sl r _ _ e _ => bif Nat.beq e sz then (H.row r).bind fun _ => some (.sl H.next 0 (n + m) sz none, (H.put r none).new (.row (old ++ new))) else none
  | _ => none
def appendN (P : Program) (H : Heap) (e : TypeId) (sz : Nat) (s : AV) (m : Nat) (new : List AV) : Res :=
  (lenS s).bind fun n => (sliceRead H sz s).bind fun old => (bytesT P e).bind fun bytes =>
    bif Nat.ble ((n + m) * bytes) 1099511627776 && Nat.ble (n + m) 1099511627776 && allOne new then (bif Nat.beq m 0 then some (s, H) else growA H sz n m old new s) else none
def isIntD : TypeDesc → Bool
  | .int _ => true
  | _ => false
def appendA (P : Program) (H : Heap) (t t2 : TypeId) (s x : AV) : Res :=
  (elemT P t).bind fun e => (zsT P e).bind fun z => (P.underlying t2).bind fun d2 =>
    bif isIntD d2 then (natA x).bind fun m => appendN P H e z.1 s m (repeatCells z.2 m)
    else (lenA x).bind fun m => (sliceRead H z.1 x).bind fun new => appendN P H e z.1 s m new
def natOr (d : Nat) : Option AV → Option Nat
  | none => some d
  | some v => natA v
def capOf : AV → Option Nat
  | .nils => some 0 | .sl _ _ _ _ c => c | .ds _ _ c => c
  | _ => none
def sliceStr (s : ByteArray) (i j : Nat) : Option AV := bif Nat.ble i j && Nat.ble j s.size then some (.str (s.extract i j)) else none
def cutSl (r o i j sz : Nat) : Option Nat → AV
  | some 0 => .sl r o (j - i) sz (some 0)
  | some (c + 1) => .sl r (o + i * sz) (j - i) sz (some (c + 1))
  | none => bif Nat.beq i 0 then .sl r o (j - i) sz none else bif Nat.ble j i then .ds 0 [] none else .sl r (o + i * sz) (j - i) sz none
def cutA (sz i j n : Nat) (cap' : Option Nat) : AV → Option AV
  | .nils => some .nils
  | .sl r o _ e _ => bif Nat.beq e sz then some (cutSl r o i j sz cap') else none
  | .ds _ cs _ => bif Nat.ble j n then (window cs (i * sz) ((j - i) * sz)).map fun cs => .ds (j - i) cs cap' else none
  | _ => none
def topOf (n : Nat) : Option Nat → Nat
  | some c => c | none => n
def sliceSl (sz : Nat) (x : AV) (i : Nat) (hi mx : Option AV) : Option AV :=
  (lenS x).bind fun n => (natOr n hi).bind fun j =>
    match mx with
    | none => bif Nat.ble i j && Nat.ble j (topOf n (capOf x)) then cutA sz i j n ((capOf x).map fun c => c - i) x else none
    | some v => (natA v).bind fun m => bif hi.isSome && Nat.ble i j && Nat.ble j m && Nat.ble m (topOf n (capOf x)) then cutA sz i j n (some (m - i)) x else none
def sliceArr (G : Glob) (H : Heap) (sz i j n : Nat) : AV → Option AV
  | .ptr r o => (H.row r).bind fun cs => bif Nat.ble (o + n * sz) cs.length then some (.sl r (bif Nat.beq i n then o else o + i * sz) (j - i) sz (some (n - i))) else none
  | .gptr g o => (G g).bind fun cs => (window cs (o + i * sz) ((j - i) * sz)).map fun cs => .ds (j - i) cs (some (n - i))
  | _ => none
def sliceD (P : Program) (G : Glob) (H : Heap) (x : AV) (i : Nat) (hi mx : Option AV) : TypeDesc → Option AV
  | .string => bif mx.isSome then none else match x with | .str s => (natOr s.size hi).bind fun j => sliceStr s i j | _ => none
  | .slice e => (sizeT P e).bind fun sz => sliceSl sz x i hi mx
  | .array n e => bif mx.isSome then none else (sizeT P e).bind fun sz => (natOr n hi).bind fun j => bif Nat.ble i j && Nat.ble j n then sliceArr G H sz i j n x else none
  | _ => none
def sliceA (P : Program) (G : Glob) (H : Heap) (t : TypeId) (x : AV) (lo hi mx : Option AV) : Option AV :=
  (natOr 0 lo).bind fun i => (P.underlying t).bind fun d => sliceD P G H x i hi mx d
def mapFind (k : AV) : List (AV × AV) → Option (Option AV)
  | [] => some none
  | e :: r => match eqKey k e.1 with
    | some true => some (some e.2)
    | some false => mapFind k r
    | none => none
def mapSet (k v : AV) : List (AV × AV) → List (AV × AV)
  | [] => [(k, v)]
  | e :: r => match eqKey k e.1 with
    | some true => (k, v) :: r
    | _ => e :: mapSet k v r
def bytesBack : List AV → Option (List UInt8)
  | [] => some []
  | .int .u8 (.ofNat n) :: r => bif Nat.ble n 255 then (bytesBack r).map fun l => UInt8.ofNat n :: l else none
  | _ => none
def isByteT (P : Program) (e : TypeId) : Bool := match P.underlying e with | some (.int .u8) => true | _ => false
def toSliceA (P : Program) (src dst e : TypeId) (x : AV) (H : Heap) : Res :=
  bif isByteT P e then (match x with
    | .str s => bif Nat.ble s.size 1073741824 then some (.ds s.size (byteCells s.data.toList) none, H) else none
    | .sl r o n z c => bif Nat.beq src dst then (H.row r).bind fun _ => some (.sl r o n z c, H) else none
    | _ => none) else none
def toStrA (P : Program) (x : AV) (H : Heap) : TypeDesc → Res
  | .string => match x with | .str s => some (.str s, H) | _ => none
  | .slice e => bif isByteT P e then (lenS x).bind fun _ => (sliceRead H 1 x).bind fun cs => (bytesBack cs).map fun l => (.str ⟨l.toArray⟩, H) else none
  | _ => none
def convA (P : Program) (H : Heap) (src dst : TypeId) (x : AV) : Res :=
  (P.underlying src).bind fun ds => (P.underlying dst).bind fun dd =>
    match dd with
    | .int k => (match x with | .int _ n => some (.int k (wrapF k n), H) | _ => none)
    | .string => toStrA P x H ds
    | .slice e => toSliceA P src dst e x H
    | _ => none
inductive OR where
  | val (v : AV) (H : Heap)
  | call (f : FuncId) (args : List AV)
  | defer (f : FuncId) (args : List AV)
  | panic (v : AV)
  | fail
  deriving Inhabited
def OR.of : Option (AV × Heap) → OR
  | some vH => .val vH.1 vH.2
  | none => .fail
def OR.pure (H : Heap) : Option AV → OR
  | some v => .val v H
  | none => .fail
def OR.mem : Option Heap → OR
  | some H => .val undefA H
  | none => .fail
abbrev Tmps := Tr AV
def Tmps.at (T : Tmps) (t : Nat) : AV := match T.get t with | some v => v | none => undefA
def evalA (T : Tmps) : Operand → Option AV
  | .tmp t => some (T.at t)
  | .const v => ofVal v
  | .global g => some (.gptr g 0)
  | .func f => some (.fn f [] [])
def evalL (T : Tmps) : List Operand → Option (List AV)
  | [] => some []
  | x :: r => (evalA T x).bind fun a => (evalL T r).map fun b => a :: b
def evalP (T : Tmps) : List (Nat × Operand) → Option (List (Nat × AV))
  | [] => some []
  | x :: r => (evalA T x.2).bind fun a => (evalP T r).map fun b => (x.1, a) :: b
def evalO (T : Tmps) : Option Operand → Option (Option AV)
  | none => some none
  | some x => (evalA T x).map some
def pickA (T : Tmps) (a b : Operand) : AV → Option AV
  | .bool true => evalA T a
  | .bool false => evalA T b
  | _ => none
def rowOf (H : Heap) (cs : List AV) : Res := some (.ptr H.next 0, H.new (.row cs))
def litA (P : Program) (drawn : Bool) (H : Heap) (t : TypeId) (n : Nat) (ps : List (Nat × AV)) : Res :=
  (elemT P t).bind fun e => (sliceCells P e n ps).bind fun sc =>
    bif drawn then some (.ds n sc.2 (some n), H) else some (.sl H.next 0 n sc.1 (some n), H.new (.row sc.2))
def nilCheckA : AV → Option AV
  | .ptr r o => some (.ptr r o) | .dptr cs => some (.dptr cs) | .gptr g o => some (.gptr g o) | .fn f a b => some (.fn f a b)
  | _ => none
def makeSliceA (P : Program) (H : Heap) (t : TypeId) (l c : AV) : Res :=
  (elemT P t).bind fun e => (natA l).bind fun n => (natA c).bind fun m => (zsT P e).bind fun sz => (bytesT P e).bind fun b =>
    bif Nat.ble n m && Nat.ble (m * b) 1099511627776 && Nat.ble m 1099511627776 then some (.sl H.next 0 n sz.1 (some m), H.new (.row (repeatCells sz.2 m))) else none
def moveP (off : Nat) : AV → Option AV
  | .ptr r o => some (.ptr r (o + off)) | .gptr g o => some (.gptr g (o + off)) | .dptr cs => some (.dptr (dropN off cs))
  | _ => none
def fieldAddrA (P : Program) (t : TypeId) (f : Nat) (x : AV) : Option AV :=
  match P.underlying t with
  | some (.struct fs) => (fs[f]?).bind fun fd => (sizeT P fd.type).bind fun s => bif Nat.beq s 0 then none else moveP fd.offset x
  | _ => none
def fieldA (P : Program) (t : TypeId) (f : Nat) (x : AV) : Option AV :=
  match P.underlying t with
  | some (.struct fs) => (fs[f]?).bind fun fd => match x with | .agg cs => partA P fd.type cs fd.offset | _ => none
  | _ => none
def elemPtr (i s : Nat) : AV → Option AV
  | .sl r o n e _ => bif Nat.beq e s && Nat.blt i n then some (.ptr r (o + i * s)) else none
  | .ds n (c :: cs) _ => bif Nat.blt i n then some (.dptr (dropN (i * s) (c :: cs))) else none
  | _ => none
def indexAddrA (P : Program) (t : TypeId) (x ix : AV) : Option AV :=
  (natA ix).bind fun i => match P.underlying t with
    | some (.slice e) => (sizeT P e).bind fun s => elemPtr i s x
    | some (.array n e) => (sizeT P e).bind fun s => bif Nat.blt i n then moveP (i * s) x else none
    | _ => none
def byteAt (s : ByteArray) (i : Nat) : Option AV := match s[i]? with | some b => some (.int .u8 b.toNat) | none => none
def indexA (P : Program) (t : TypeId) (x ix : AV) : Option AV :=
  (natA ix).bind fun i => match P.underlying t with
    | some .string => (match x with | .str s => byteAt s i | _ => none)
    | some (.array n e) => (match x with | .agg cs => (sizeT P e).bind fun s => bif Nat.blt i n then partA P e cs (i * s) else none | _ => none)
    | _ => none
def mapOf (H : Heap) : AV → Option (List (AV × AV))
  | .nilm => some []
  | .mp m => (match H.get m with | some (.map es) => some es | _ => none)
  | _ => none
def mapTy (P : Program) (t : TypeId) : Option (TypeDesc × TypeId) := match P.underlying t with | some (.map k e) => (keyTy P k).map fun d => (d, e) | _ => none
def orZero (z : AV) : Option AV → AV
  | some v => v | none => z
def lookupA (P : Program) (H : Heap) (t : TypeId) (x k : AV) (ok : Bool) : Option AV :=
  (mapTy P t).bind fun de => bif keyFits de.1 k then (mapOf H x).bind fun es => (mapFind k es).bind fun r => (zeroV P de.2).map fun z =>
    bif ok then .tup [orZero z r, .bool r.isSome] else orZero z r
    else none
def mapUpdateA (P : Program) (H : Heap) (t : TypeId) (k v : AV) : AV → Option Heap
  | .mp m => (mapTy P t).bind fun de => bif keyFits de.1 k then (match H.get m with | some (.map es) => (mapFind k es).map fun _ => H.put m (some (.map (mapSet k v es))) | _ => none) else none
  | _ => none
def notIface : TypeDesc → Bool
  | .interface _ => false
  | _ => true
def assertA (P : Program) (a : TypeId) (ok : Bool) (x : AV) : Option AV :=
  (P.underlying a).bind fun d => bif notIface d then (match x with
    | .iface t v => bif Nat.beq t a then some (bif ok then .tup [v, .bool true] else v) else bif ok then (zeroV P a).map fun z => .tup [z, .bool false] else none
    | .nili => bif ok then (zeroV P a).map fun z => .tup [z, .bool false] else none
    | _ => none) else none
def ifaceA (P : Program) (t : TypeId) (x : AV) : Option AV := (P.underlying t).bind fun d => bif notIface d then some (.iface t x) else none
def extractA (i : Nat) : AV → Option AV
  | .tup vs => nth vs i
  | _ => none
def panicA : AV → OR
  | .iface t v => .panic (.iface t v)
  | _ => .fail
def asCall (args : List AV) : AV → Option (FuncId × List AV)
  | .fn f first caps => some (f, first ++ args ++ caps)
  | _ => none
def callOf (T : Tmps) (f : Operand) (args : List Operand) : Option (FuncId × List AV) :=
  (evalA T f).bind fun f => (evalL T args).bind fun args => asCall args f
def lenD (H : Heap) (x : AV) : TypeDesc → Option AV
  | .array n _ => some (.int .i64 (.ofNat n))
  | .map _ _ => (mapOf H x).map fun es => .int .i64 (.ofNat es.length)
  | .string => (match x with | .str s => some (.int .i64 (.ofNat s.size)) | _ => none)
  | .slice _ => (lenS x).map fun n => .int .i64 (.ofNat n)
  | _ => none
def lenOfA (P : Program) (H : Heap) (t : TypeId) (x : AV) : Option AV := (P.underlying t).bind fun d => lenD H x d
def minA : AV → AV → Option AV
  | .int k a, .int _ b => some (.int k (bif leF a b then a else b))
  | _, _ => none
def maxA : AV → AV → Option AV
  | .int k a, .int _ b => some (.int k (bif leF b a then a else b))
  | _, _ => none
def overwrite (H : Heap) (sz k : Nat) (xs : List AV) : AV → Option Heap
  | .nils => some H
  | .sl r o _ e _ => bif Nat.beq k 0 then some H else bif Nat.beq e sz && allOne xs then (H.row r).bind fun cs => (setAll cs o xs).map fun cs => H.put r (some (.row cs)) else none
  | _ => none
def clearA (P : Program) (H : Heap) (t : TypeId) (x : AV) : Res :=
  (elemT P t).bind fun e => (zsT P e).bind fun z => (lenS x).bind fun n => (overwrite H z.1 n (repeatCells z.2 n) x).map fun H => (.tup [], H)
def capA (P : Program) (t : TypeId) (x : AV) : Option AV := (elemT P t).bind fun _ => (capOf x).map fun c => .int .i64 (.ofNat c)
def builtinA (P : Program) (H : Heap) (b : Builtin) (ts : List TypeId) (args : List AV) : OR :=
  match b, ts, args with
  | .append, [t, t2], [s, x] => .of (appendA P H t t2 s x)
  | .len, [t], [x] => .pure H (lenOfA P H t x)
  | .cap, [t], [x] => .pure H (capA P t x)
  | .min, _, [x, y] => .pure H (minA x y)
  | .max, _, [x, y] => .pure H (maxA x y)
  | .clear, [t], [x] => .of (clearA P H t x)
  | _, _, _ => .fail
def OR.toCall : Option (FuncId × List AV) → OR
  | some fa => .call fa.1 fa.2
  | none => .fail
def OR.toDefer : Option (FuncId × List AV) → OR
  | some fa => .defer fa.1 fa.2
  | none => .fail
def calleeA (P : Program) (T : Tmps) (H : Heap) (c : Call) : Callee → OR
  | .value f => .toCall (callOf T f c.args.toList)
  | .invoke _ _ => .fail
  | .builtin b => match evalL T c.args.toList with | none => .fail | some args => builtinA P H b c.argTypes.toList args
def deferCallee (T : Tmps) (c : Call) : Callee → OR
  | .value f => .toDefer (callOf T f c.args.toList)
  | _ => .fail
def pickO (T : Tmps) (c a b : Operand) : Option AV := (evalA T c).bind fun c => pickA T a b c
def allocO (P : Program) (H : Heap) (e : TypeId) : Res := (zeroT P e).bind fun z => rowOf H z
def boxO (T : Tmps) (H : Heap) (x : Operand) : Res := (evalA T x).bind fun v => rowOf H v.cells
def buildO (P : Program) (T : Tmps) (t : TypeId) (ps : List (Nat × Operand)) : Option AV := (evalP T ps).bind fun ps => buildA P t ps
def litO (P : Program) (drawn : Bool) (T : Tmps) (H : Heap) (t : TypeId) (n : Nat) (ps : List (Nat × Operand)) : Res := (evalP T ps).bind fun ps => litA P drawn H t n ps
def loadO (P : Program) (G : Glob) (T : Tmps) (H : Heap) (t : TypeId) (a : Operand) : Option AV := (evalA T a).bind fun a => loadA P G H t a
def storeO (P : Program) (T : Tmps) (H : Heap) (t : TypeId) (a x : Operand) : Option Heap := (evalA T a).bind fun a => (evalA T x).bind fun x => storeA P H t a x
def binO (P : Program) (T : Tmps) (op : BinOp) (t : TypeId) (x y : Operand) : Option AV := (evalA T x).bind fun x => (evalA T y).bind fun y => binA P t op x y
def funcO (T : Tmps) (fn : Fn) (first caps : List Operand) : Option AV :=
  match fn with
  | .func f => (evalL T first).bind fun a => (evalL T caps).map fun b => .fn f a b
  | _ => none
def isMapT (P : Program) (t : TypeId) : Bool := match P.underlying t with | some (.map _ _) => true | _ => false
def mapO (P : Program) (T : Tmps) (H : Heap) (t : TypeId) : Option Operand → Res
  | none => some (.mp H.next, H.new (.map []))
  | some r => bif isMapT P t then (evalA T r).bind fun v => match v with | .int _ _ => some (.mp H.next, H.new (.map [])) | _ => none else none
def sliceO (P : Program) (G : Glob) (T : Tmps) (H : Heap) (t : TypeId) (x : Operand) (lo hi mx : Option Operand) : Option AV :=
  (evalA T x).bind fun x => (evalO T lo).bind fun lo => (evalO T hi).bind fun hi => (evalO T mx).bind fun mx => sliceA P G H t x lo hi mx
def makeSliceO (P : Program) (T : Tmps) (H : Heap) (t : TypeId) (l c : Operand) : Res := (evalA T l).bind fun l => (evalA T c).bind fun c => makeSliceA P H t l c
def idxAddrO (P : Program) (T : Tmps) (t : TypeId) (x ix : Operand) : Option AV := (evalA T x).bind fun x => (evalA T ix).bind fun ix => indexAddrA P t x ix
def idxO (P : Program) (T : Tmps) (t : TypeId) (x ix : Operand) : Option AV := (evalA T x).bind fun x => (evalA T ix).bind fun ix => indexA P t x ix
def lookupO (P : Program) (T : Tmps) (H : Heap) (t : TypeId) (x ix : Operand) (ok : Bool) : Option AV := (evalA T x).bind fun x => (evalA T ix).bind fun ix => lookupA P H t x ix ok
def mapUpdO (P : Program) (T : Tmps) (H : Heap) (t : TypeId) (m k v : Operand) : Option Heap := (evalA T m).bind fun m => (evalA T k).bind fun k => (evalA T v).bind fun v => mapUpdateA P H t k v m
def opA (P : Program) (G : Glob) (drawn : Bool) (T : Tmps) (H : Heap) : Op → OR
  | .move x => .pure H (evalA T x)
  | .assign x => .pure H (evalA T x)
  | .pick c a b => .pure H (pickO T c a b)
  | .alloc e => .of (allocO P H e)
  | .box _ x => .of (boxO T H x)
  | .build t ps => .pure H (buildO P T t ps.toList)
  | .buildSlice t n ps => .of (litO P drawn T H t n ps.toList)
  | .load t a => .pure H (loadO P G T H t a)
  | .store t a x => .mem (storeO P T H t a x)
  | .nilCheck x => .pure H ((evalA T x).bind nilCheckA)
  | .binOp op t x y _ => .pure H (binO P T op t x y)
  | .unOp op _ x => .pure H ((evalA T x).bind (unA op))
  | .convert a b x => .of ((evalA T x).bind (convA P H a b))
  | .makeInterface t x => .pure H ((evalA T x).bind (ifaceA P t))
  | .makeFunc fn first caps => .pure H (funcO T fn first.toList caps.toList)
  | .makeMap t r => .of (mapO P T H t r)
  | .makeSlice t l c => .of (makeSliceO P T H t l c)
  | .slice t x lo hi mx => .pure H (sliceO P G T H t x lo hi mx)
  | .fieldAddr t x f => .pure H ((evalA T x).bind (fieldAddrA P t f))
  | .field t x f => .pure H ((evalA T x).bind (fieldA P t f))
  | .indexAddr t x ix => .pure H (idxAddrO P T t x ix)
  | .index t x ix => .pure H (idxO P T t x ix)
  | .lookup t x ix ok => .pure H (lookupO P T H t x ix ok)
  | .mapUpdate t m k v => .mem (mapUpdO P T H t m k v)
  | .insert t m k v => .mem (mapUpdO P T H t m k v)
  | .typeAssert x _ a ok => .pure H ((evalA T x).bind (assertA P a ok))
  | .extract t i => .pure H ((evalA T t).bind (extractA i))
  | .panic x => (match evalA T x with | some v => panicA v | none => .fail)
  | .defer c => deferCallee T c c.callee
  | .call c => calleeA P T H c c.callee
  | _ => .fail
structure St where
  T : Tmps
  H : Heap
  D : List (FuncId × List AV)
  deriving Inhabited
inductive Ex where
  | normal | exit (id : Nat) | ret | panic (v : AV) | fail
  deriving Inhabited
structure ES where
  e : Ex
  s : St
  deriving Inhabited
inductive CR where
  | ret (v : AV) (H : Heap)
  | panic (v : AV) (H : Heap)
  | fail
  deriving Inhabited
def putA (T : Tmps) (d : Option Nat) (v : AV) : Tmps := match d with | some d => T.set d (some v) | none => T
def St.put (s : St) (d : Option Nat) (v : AV) (H : Heap) : St := ⟨putA s.T d v, H, s.D⟩
def isBool (want : Bool) : AV → Bool
  | .bool b => b == want
  | _ => false
def dstOf (ops : Array Oper) (j : Nat) : Option Nat := (ops[j]?).bind (·.dst)
def guardOk (ops : Array Oper) (T : Tmps) : Option (Nat × Bool) → Bool
  | none => true
  | some jw => match dstOf ops jw.1 with | some d => isBool jw.2 (T.at d) | none => false
abbrev Ev := FuncId → List AV → Heap → CR
def ES.then (r : ES) (k : St → ES) : ES := match r.e with | .normal => k r.s | _ => r
def afterA (ev : Ev) (s : St) (d : Option Nat) : OR → ES
  | .val v H => ⟨.normal, s.put d v H⟩
  | .call f args => (match ev f args s.H with
    | .ret v H => ⟨.normal, s.put d v H⟩
    | .panic v H => ⟨.panic v, ⟨s.T, H, s.D⟩⟩
    | .fail => ⟨.fail, s⟩)
  | .defer f args => ⟨.normal, ⟨putA s.T d undefA, s.H, (f, args) :: s.D⟩⟩
  | .panic v => ⟨.panic v, s⟩
  | .fail => ⟨.fail, s⟩
def stepA (P : Program) (G : Glob) (ev : Ev) (drawn : Bool) (all : Array Oper) (o : Oper) (s : St) : ES :=
  bif guardOk all s.T o.guard then afterA ev s o.dst (opA P G drawn s.T s.H o.op) else ⟨.normal, s.put o.dst undefA s.H⟩
def opsA (P : Program) (G : Glob) (ev : Ev) (all : Array Oper) : List Oper → St → ES
  | [], s => ⟨.normal, s⟩
  | o :: rest, s => (stepA P G ev false all o s).then (opsA P G ev all rest)
mutual
def eqAV : AV → AV → Bool
  | .bool a, .bool b => a == b
  | .int j a, .int k b => kindEq j k && eqF a b
  | .str a, .str b => decide (a = b)
  | .nilp, .nilp => true
  | .nils, .nils => true
  | .nilf, .nilf => true
  | .nili, .nili => true
  | .nilm, .nilm => true
  | .ptr r o, .ptr r' o' => Nat.beq r r' && Nat.beq o o'
  | .gptr r o, .gptr r' o' => Nat.beq r r' && Nat.beq o o'
  | .mp r, .mp r' => Nat.beq r r'
  | .sl r o l e c, .sl r' o' l' e' c' => Nat.beq r r' && Nat.beq o o' && Nat.beq l l' && Nat.beq e e' && decide (c = c')
  | .dptr a, .dptr b => eqAVs a b
  | .ds l a c, .ds l' a' c' => Nat.beq l l' && eqAVs a a' && decide (c = c')
  | .fn f a b, .fn g c d => Nat.beq f g && eqAVs a c && eqAVs b d
  | .iface t a, .iface u b => Nat.beq t u && eqAV a b
  | .agg a, .agg b => eqAVs a b
  | .tup a, .tup b => eqAVs a b
  | _, _ => false
def eqAVs : List AV → List AV → Bool
  | [], [] => true
  | x :: r, y :: s => eqAV x y && eqAVs r s
  | _, _ => false
end
abbrev Sched := List (Nat × List Nat)
def againA (P : Program) (G : Glob) (all : Array Oper) (s : St) (j : Nat) : Bool :=
  match all[j]? with
  | none => false
  | some o => bif guardOk all s.T o.guard then (match opA P G true s.T s.H o.op with
    | .val v _ => (match o.dst with | some d => eqAV v (s.T.at d) | none => false)
    | _ => false) else true
def allAgain (P : Program) (G : Glob) (all : Array Oper) (s : St) : List Nat → Bool
  | [] => true
  | j :: r => againA P G all s j && allAgain P G all s r
def drawnA (P : Program) (G : Glob) (ev : Ev) (all : Array Oper) : Sched → St → ES
  | [], s => ⟨.normal, s⟩
  | ir :: rest, s => match all[ir.1]? with
    | none => ⟨.fail, s⟩
    | some o => (stepA P G ev true all o s).then fun s => bif allAgain P G all s ir.2 then drawnA P G ev all rest s else ⟨.fail, s⟩
def ES.noPanic (r : ES) : ES := match r.e with | .panic _ => ⟨.fail, r.s⟩ | _ => r
def loopA (body : St → ES) : Nat → St → ES
  | 0, s => ⟨.fail, s⟩
  | n + 1, s => (body s).then (loopA body n)
def ES.inBlock (id : Nat) (r : ES) : ES := match r.e with | .exit i => (bif Nat.beq i id then ⟨.normal, r.s⟩ else r) | _ => r
def condA (v : Option AV) (s : St) (a b : St → ES) : ES := match v with | some (.bool true) => a s | some (.bool false) => b s | _ => ⟨.fail, s⟩
def lastA (P : Program) (G : Glob) (ev : Ev) (ops : Array Oper) (s : St) : ES :=
  match ops[ops.size - 1]? with
  | some o => stepA P G ev false ops o s
  | none => ⟨.fail, s⟩
def regionA (P : Program) (G : Glob) (ev : Ev) (sch : Nat → Option Sched) (id : Nat) (ops : Array Oper) (s : St) : Bool → ES
  | false => opsA P G ev ops ops.toList s
  | true => match sch id with
    | none => ⟨.fail, s⟩
    | some l => bif Nat.beq l.length ops.size then (drawnA P G ev ops l s).noPanic
      else bif Nat.beq (l.length + 1) ops.size then ((drawnA P G ev ops.pop l s).noPanic).then (lastA P G ev ops) else ⟨.fail, s⟩
def codeA (P : Program) (G : Glob) (ev : Ev) (sch : Nat → Option Sched) (L : Nat) : Code → St → ES
  | .skip, s => ⟨.normal, s⟩
  | .label _, s => ⟨.normal, s⟩
  | .region id ops drawn, s => regionA P G ev sch id ops s drawn
  | .seq a b, s => (codeA P G ev sch L a s).then (codeA P G ev sch L b)
  | .cond c a b, s => condA (evalA s.T c) s (codeA P G ev sch L a) (codeA P G ev sch L b)
  | .block id b, s => (codeA P G ev sch L b s).inBlock id
  | .loop b, s => loopA (codeA P G ev sch L b) L s
  | .exit id, s => ⟨.exit id, s⟩
  | .ret, s => ⟨.ret, s⟩
  | _, s => ⟨.fail, s⟩
def resultA (P : Program) (G : Glob) (T : Tmps) (H : Heap) : ResultVar → Option AV
  | .tmp t => some (T.at t)
  | .cell a t => loadA P G H t (T.at a)
def resultsL (P : Program) (G : Glob) (T : Tmps) (H : Heap) : List ResultVar → Option (List AV)
  | [] => some []
  | x :: r => (resultA P G T H x).bind fun a => (resultsL P G T H r).map fun b => a :: b
def oneOrTup : List AV → AV
  | [x] => x
  | vs => .tup vs
def resultsA (P : Program) (G : Glob) (fn : Func) (T : Tmps) (H : Heap) : Option AV := (resultsL P G T H fn.results.toList).map oneOrTup
def argsT : List AV → Nat → Tmps → Tmps
  | [], _, T => T
  | x :: r, i, T => argsT r (i + 1) (T.set i (some x))
def noneLeft (r : ES) : Option (Option AV × Heap) :=
  match r.e with
  | .normal | .ret => (match r.s.D with | [] => some (none, r.s.H) | _ => none)
  | _ => none
def isRecover : Op → Bool
  | .call c => (match c.callee with | .builtin .recover => true | _ => false)
  | _ => false
def deferBody (P : Program) (G : Glob) (ev : Ev) (sch : Nat → Option Sched) (L : Nat) (args : List AV) (u : Option AV) (H : Heap) : Code → Option (Option AV × Heap)
  | .seq (.region _ ops false) rest => (match ops.toList with
    | o :: os => bif isRecover o.op && o.guard.isNone then
        noneLeft ((opsA P G ev ops os ⟨putA (argsT args 0 .lf) o.dst (match u with | some v => v | none => .nili), H, []⟩).then (codeA P G ev sch L rest)) else none
    | [] => none)
  | _ => none
def deferA (P : Program) (G : Glob) (ev : Ev) (Sch : FuncId → Nat → Option Sched) (L : Nat) (f : FuncId) (args : List AV) (u : Option AV) (H : Heap) : Option (Option AV × Heap) :=
  (P.funcs[f]?).bind fun fn => fn.body.bind fun c => bif fn.results.isEmpty then deferBody P G ev (Sch f) L args u H c else none
def retA (P : Program) (G : Glob) (fn : Func) (T : Tmps) (H : Heap) : Option AV → CR
  | some v => .panic v H
  | none => match resultsA P G fn T H with | some v => .ret v H | none => .fail
def finA (P : Program) (G : Glob) (ev : Ev) (Sch : FuncId → Nat → Option Sched) (L : Nat) (fn : Func) (s : St) (u : Option AV) : CR :=
  match s.D with
  | [] => retA P G fn s.T s.H u
  | [d] => (match deferA P G ev Sch L d.1 d.2 u s.H with | some uH => retA P G fn s.T uH.2 uH.1 | none => .fail)
  | _ => .fail
def leaveA (P : Program) (G : Glob) (ev : Ev) (Sch : FuncId → Nat → Option Sched) (L : Nat) (fn : Func) (r : ES) : CR :=
  match r.e with
  | .normal | .ret => finA P G ev Sch L fn r.s none
  | .panic v => finA P G ev Sch L fn r.s (some v)
  | _ => .fail
def bodyA (P : Program) (G : Glob) (ev : Ev) (Sch : FuncId → Nat → Option Sched) (L : Nat) (f : FuncId) (args : List AV) (H : Heap) : CR :=
  match P.funcs[f]? with
  | none => .fail
  | some fn => match fn.body with
    | none => .fail
    | some c => leaveA P G ev Sch L fn (codeA P G ev (Sch f) L c ⟨argsT args 0 .lf, H, []⟩)
def callA (P : Program) (G : Glob) (Sch : FuncId → Nat → Option Sched) (L : Nat) : Nat → Ev
  | 0 => fun _ _ _ => .fail
  | n + 1 => bodyA P G (callA P G Sch L n) Sch L
end
end Go.AM
namespace Go.AM
open Go Go.RowKit
structure Know where
  β : Nat → Option (Nat × Nat)
  S : Nat → Prop
def Room (w : World) (b n : Nat) : Prop := ∃ cs e fr, w.heap[b]? = some (.cells cs e fr) ∧ n ≤ cs.size
def CellsFrom (w : World) (b o : Nat) (us : List Value) : Prop := ∀ j u, us[j]? = some u → w.cell? ⟨b, o + j, none⟩ = some u
mutual
inductive V (K : Know) (w : World) : AV → Value → Prop
  | bool (b : Bool) : V K w (.bool b) (.bool b)
  | int (k : IntKind) (n : Int) : V K w (.int k n) (.int k n)
  | str (s : ByteArray) : V K w (.str s) (.string s)
  | nilp : V K w .nilp (.pointer none)
  | ptr (r o b base : Nat) (h : K.β r = some (b, base)) : V K w (.ptr r o) (.pointer (some ⟨b, base + o, none⟩))
  | gptr (g o : Nat) : V K w (.gptr g o) (.pointer (some ⟨g, o, none⟩))
  | dptr (cs : List AV) (b o : Nat) (us : List Value) (hs : K.S b) (hc : CellsFrom w b o us) (hv : VL K w cs us) : V K w (.dptr cs) (.pointer (some ⟨b, o, none⟩))
  | nils : V K w .nils (.slice none 0 0)
  | sl (r o len esz : Nat) (cap : Option Nat) (b base c : Nat) (h : K.β r = some (b, base)) (hl : len ≤ c) (hc : ∀ k, cap = some k → c = k) (room : Room w b (base + o + c * esz)) :
      V K w (.sl r o len esz cap) (.slice (some ⟨b, base + o, none⟩) len c)
  | ds (len : Nat) (cs : List AV) (cap : Option Nat) (a : Option Addr) (us : List Value) (c : Nat) (hl : len ≤ c) (hc : ∀ k, cap = some k → c = k) (hn : 0 < len → a.isSome = true)
      (hr : us ≠ [] → ∃ b o, a = some ⟨b, o, none⟩ ∧ K.S b ∧ CellsFrom w b o us) (hv : VL K w cs us) : V K w (.ds len cs cap) (.slice a len c)
  | fn (f : FuncId) (first caps : List AV) (us vs : Array Value) (hf : VL K w first us.toList) (hc : VL K w caps vs.toList) : V K w (.fn f first caps) (.func (.func f) us vs)
  | nilf : V K w .nilf .nilFunc
  | iface (t : TypeId) (a : AV) (v : Value) (h : V K w a v) : V K w (.iface t a) (.iface t v)
  | nili : V K w .nili .nilIface
  | agg (cs : List AV) (us : Array Value) (h : VL K w cs us.toList) : V K w (.agg cs) (.agg us)
  | tup (cs : List AV) (us : Array Value) (h : VL K w cs us.toList) : V K w (.tup cs) (.tuple us)
  | nilm : V K w .nilm (.map none)
  | mp (m b base : Nat) (h : K.β m = some (b, base)) : V K w (.mp m) (.map (some b))
inductive VL (K : Know) (w : World) : List AV → List Value → Prop
  | nil : VL K w [] []
  | cons (a : AV) (v : Value) (as_ : List AV) (vs : List Value) (h : V K w a v) (t : VL K w as_ vs) : VL K w (a :: as_) (v :: vs)
end
structure Know.le (K K' : Know) : Prop where
  β : ∀ r x, K.β r = some x → K'.β r = some x
  S : ∀ b, K.S b → K'.S b
theorem Know.le.refl (K : Know) : K.le K := ⟨fun _ _ h => h, fun _ h => h⟩
theorem Know.le.trans {K K1 K2 : Know} (h : K.le K1) (h' : K1.le K2) : K.le K2 := ⟨fun r x e => h'.β r x (h.β r x e), fun b e => h'.S b (h.S b e)⟩
structure WExt (K : Know) (w w' : World) : Prop where
  size : w.heap.size ≤ w'.heap.size
  kept : ∀ b, K.S b → w'.heap[b]? = w.heap[b]?
  room : ∀ b n, Room w b n → Room w' b n
theorem WExt.refl (K : Know) (w : World) : WExt K w w := ⟨Nat.le_refl _, fun _ _ => rfl, fun _ _ h => h⟩
theorem WExt.trans {K K' : Know} {w w1 w2 : World} (hK : K.le K') (h : WExt K w w1) (h' : WExt K' w1 w2) : WExt K w w2 :=
  ⟨Nat.le_trans h.size h'.size, fun b hb => (h'.kept b (hK.S b hb)).trans (h.kept b hb), fun b n hr => h'.room b n (h.room b n hr)⟩
theorem CellsFrom.ext {K : Know} {w w' : World} (hw : WExt K w w') {b o : Nat} {us : List Value} (hs : K.S b) (h : CellsFrom w b o us) : CellsFrom w' b o us := by
  intro j u hu
  have := h j u hu
  simp only [World.cell?] at this ⊢
  rw [hw.kept b hs]; exact this
mutual
theorem V.mono {K K' : Know} {w w' : World} (hK : K.le K') (hw : WExt K w w') : ∀ {a : AV} {v : Value}, V K w a v → V K' w' a v
  | _, _, .bool b => .bool b
  | _, _, .int k n => .int k n
  | _, _, .str s => .str s
  | _, _, .nilp => .nilp
  | _, _, .ptr r o b base h => .ptr r o b base (hK.β _ _ h)
  | _, _, .gptr g o => .gptr g o
  | _, _, .dptr cs b o us hs hc hv => .dptr cs b o us (hK.S _ hs) (hc.ext hw hs) (VL.mono hK hw hv)
  | _, _, .nils => .nils
  | _, _, .sl r o len esz cap b base c h hl hc room => .sl r o len esz cap b base c (hK.β _ _ h) hl hc (hw.room _ _ room)
  | _, _, .ds len cs cap a us c hl hc hn hr hv => .ds len cs cap a us c hl hc hn (fun hu => by
      obtain ⟨b, o, e, hs, hcc⟩ := hr hu
      exact ⟨b, o, e, hK.S _ hs, hcc.ext hw hs⟩) (VL.mono hK hw hv)
  | _, _, .fn f first caps us vs hf hc => .fn f first caps us vs (VL.mono hK hw hf) (VL.mono hK hw hc)
  | _, _, .nilf => .nilf
  | _, _, .iface t a v h => .iface t a v (V.mono hK hw h)
  | _, _, .nili => .nili
  | _, _, .agg cs us h => .agg cs us (VL.mono hK hw h)
  | _, _, .tup cs us h => .tup cs us (VL.mono hK hw h)
  | _, _, .nilm => .nilm
  | _, _, .mp m b base h => .mp m b base (hK.β _ _ h)
theorem VL.mono {K K' : Know} {w w' : World} (hK : K.le K') (hw : WExt K w w') : ∀ {as_ : List AV} {vs : List Value}, VL K w as_ vs → VL K' w' as_ vs
  | _, _, .nil => .nil
  | _, _, .cons a v as_ vs h t => .cons a v as_ vs (V.mono hK hw h) (VL.mono hK hw t)
end
section
variable {K : Know} {w : World}
theorem VL.length : ∀ {as_ : List AV} {vs : List Value}, VL K w as_ vs → vs.length = as_.length
  | _, _, .nil => rfl
  | _, _, .cons _ _ _ _ _ t => by simp [VL.length t]
theorem VL.get : ∀ {as_ : List AV} {vs : List Value}, VL K w as_ vs → ∀ (j : Nat) (a : AV), as_[j]? = some a → ∃ v, vs[j]? = some v ∧ V K w a v
  | _, _, .nil, j, a, h => by simp at h
  | _, _, .cons a v as_ vs h t, 0, x, e => by simp at e; subst e; exact ⟨v, rfl, h⟩
  | _, _, .cons a v as_ vs h t, j + 1, x, e => by simpa using VL.get t j x (by simpa using e)
theorem VL.app : ∀ {as_ : List AV} {vs : List Value} {bs : List AV} {us : List Value}, VL K w as_ vs → VL K w bs us → VL K w (as_ ++ bs) (vs ++ us)
  | _, _, _, _, .nil, h => h
  | _, _, _, _, .cons a v as_ vs h t, h' => .cons a v _ _ h (VL.app t h')
theorem VL.one {a : AV} {v : Value} (h : V K w a v) : VL K w [a] [v] := .cons a v [] [] h .nil
theorem dropN_eq : ∀ (n : Nat) (xs : List AV), dropN n xs = xs.drop n
  | 0, xs => by simp [dropN]
  | n + 1, [] => by simp [dropN]
  | n + 1, x :: xs => by simp [dropN, dropN_eq n xs]
theorem takeN_eq : ∀ (n : Nat) (xs ys : List AV), takeN n xs = some ys → ys = xs.take n ∧ n ≤ xs.length
  | 0, xs, ys, h => by simp [takeN] at h; simp [h]
  | n + 1, [], ys, h => by simp [takeN] at h
  | n + 1, x :: xs, ys, h => by
    simp only [takeN] at h
    split at h
    · rename_i zs hz
      obtain ⟨e, hl⟩ := takeN_eq n xs zs hz
      injection h with h
      subst h e
      exact ⟨rfl, by simpa using hl⟩
    · cases h
theorem VL.drop : ∀ {as_ : List AV} {vs : List Value} (n : Nat), VL K w as_ vs → VL K w (as_.drop n) (vs.drop n)
  | _, _, 0, h => by simpa using h
  | _, _, n + 1, .nil => by simpa using VL.nil
  | _, _, n + 1, .cons a v as_ vs h t => by simpa using VL.drop n t
theorem VL.take : ∀ {as_ : List AV} {vs : List Value} (n : Nat), VL K w as_ vs → VL K w (as_.take n) (vs.take n)
  | _, _, 0, h => by simpa using VL.nil
  | _, _, n + 1, .nil => by simpa using VL.nil
  | _, _, n + 1, .cons a v as_ vs h t => by simpa using VL.cons a v _ _ h (VL.take n t)
theorem window_eq {cs xs : List AV} {o n : Nat} (h : window cs o n = some xs) : xs = (cs.drop o).take n ∧ n ≤ cs.length - o := by
  obtain ⟨e, hl⟩ := takeN_eq _ _ _ h
  rw [dropN_eq] at e hl
  exact ⟨e, by simpa using hl⟩
theorem VL.window {cs xs : List AV} {us : List Value} {o n : Nat} (hv : VL K w cs us) (h : Go.AM.window cs o n = some xs) : VL K w xs ((us.drop o).take n) := by
  obtain ⟨rfl, _⟩ := window_eq h
  exact (hv.drop o).take n
theorem over_eq : ∀ (cs xs ys : List AV), over cs xs = some ys → ys = xs ++ cs.drop xs.length ∧ xs.length ≤ cs.length
  | cs, [], ys, h => by cases cs <;> simp [over] at h <;> simp [h]
  | [], x :: xs, ys, h => by simp [over] at h
  | c :: cs, x :: xs, ys, h => by
    simp only [over] at h
    split at h
    · rename_i zs hz
      obtain ⟨e, hl⟩ := over_eq cs xs zs hz
      injection h with h
      subst h e
      exact ⟨by simp, by simpa using hl⟩
    · cases h
theorem setAll_eq : ∀ (cs : List AV) (o : Nat) (xs ys : List AV), setAll cs o xs = some ys → ys = cs.take o ++ xs ++ cs.drop (o + xs.length) ∧ o + xs.length ≤ cs.length
  | cs, 0, xs, ys, h => by
    have h' : over cs xs = some ys := by cases cs <;> simpa [setAll] using h
    obtain ⟨e, hl⟩ := over_eq _ _ _ h'
    exact ⟨by simpa using e, by simpa using hl⟩
  | [], o + 1, xs, ys, h => by simp [setAll] at h
  | c :: cs, o + 1, xs, ys, h => by
    simp only [setAll] at h
    split at h
    · rename_i zs hz
      obtain ⟨e, hl⟩ := setAll_eq cs o xs zs hz
      injection h with h
      subst h e
      refine ⟨?_, ?_⟩
      · simp [show o + 1 + xs.length = (o + xs.length) + 1 from by omega]
      · simp; omega
    · cases h
theorem VL.setAll {cs xs ys : List AV} {us vs : List Value} {o : Nat} (hc : VL K w cs us) (hx : VL K w xs vs) (h : Go.AM.setAll cs o xs = some ys) : VL K w ys (us.take o ++ vs ++ us.drop (o + vs.length)) := by
  obtain ⟨rfl, _⟩ := setAll_eq _ _ _ _ h
  rw [← hx.length]
  exact ((hc.take o).app hx).app (hc.drop _)
theorem setAll_length {cs xs ys : List AV} {o : Nat} (h : Go.AM.setAll cs o xs = some ys) : ys.length = cs.length := by
  obtain ⟨rfl, hl⟩ := setAll_eq _ _ _ _ h
  simp; omega
theorem nth_eq : ∀ (xs : List AV) (i : Nat), nth xs i = xs[i]?
  | [], i => by simp [nth]
  | x :: xs, 0 => by simp [nth]
  | x :: xs, i + 1 => by simp [nth, nth_eq xs i]
theorem VL.cells {a : AV} {v : Value} (h : V K w a v) : VL K w a.cells v.cells.toList := by
  cases h <;> first | exact ‹_› | exact VL.one (by constructor <;> assumption)
end
end Go.AM
namespace Go.AM
open Go Go.RowKit
theorem Tr.get_setF {α : Type} (x : Option α) : ∀ (d : Nat) (t : Tr α) (n m : Nat), n < d → (t.setF d n x).get m = if m = n then x else t.get m
  | 0, t, n, m, h => by omega
  | d + 1, .lf, 0, 0, _ => by simp [Tr.setF_lz, Tr.setF_ls, Tr.setF_nz, Tr.setF_ns, Tr.get_lf, Tr.get_z, Tr.get_s]
  | d + 1, .lf, 0, m + 1, _ => by
    simp only [Tr.setF_lz, Tr.setF_ls, Tr.setF_nz, Tr.setF_ns, Tr.get_lf, Tr.get_z, Tr.get_s]
    cases Nat.beq (m % 2) 0 <;> simp [Tr.get_lf, Tr.get_z, Tr.get_s]
  | d + 1, .lf, n + 1, 0, _ => by
    simp only [Tr.setF_lz, Tr.setF_ls, Tr.setF_nz, Tr.setF_ns]
    cases Nat.beq (n % 2) 0 <;> simp [Tr.get_lf, Tr.get_z, Tr.get_s]
  | d + 1, .lf, n + 1, m + 1, h => by
    have ih := Tr.get_setF x d (.lf : Tr α) (n / 2) (m / 2) (by omega)
    have hn : (Nat.beq (n % 2) 0) = decide (n % 2 = 0) := by rw [Bool.eq_iff_iff]; simp
    have hm : (Nat.beq (m % 2) 0) = decide (m % 2 = 0) := by rw [Bool.eq_iff_iff]; simp
    simp only [Tr.setF_lz, Tr.setF_ls, Tr.setF_nz, Tr.setF_ns, hn]
    by_cases h1 : n % 2 = 0 <;> by_cases h2 : m % 2 = 0 <;> simp [h1, h2, Tr.get_lf, Tr.get_z, Tr.get_s, hm, ih] <;> (try (split <;> split <;> (first | rfl | omega)))
    all_goals omega
  | d + 1, .nd v l r, 0, 0, _ => by simp [Tr.setF_lz, Tr.setF_ls, Tr.setF_nz, Tr.setF_ns, Tr.get_lf, Tr.get_z, Tr.get_s]
  | d + 1, .nd v l r, 0, m + 1, _ => by simp [Tr.setF_lz, Tr.setF_ls, Tr.setF_nz, Tr.setF_ns, Tr.get_lf, Tr.get_z, Tr.get_s]
  | d + 1, .nd v l r, n + 1, 0, _ => by
    simp only [Tr.setF_lz, Tr.setF_ls, Tr.setF_nz, Tr.setF_ns]
    cases Nat.beq (n % 2) 0 <;> simp [Tr.get_lf, Tr.get_z, Tr.get_s]
  | d + 1, .nd v l r, n + 1, m + 1, h => by
    have ihl := Tr.get_setF x d l (n / 2) (m / 2) (by omega)
    have ihr := Tr.get_setF x d r (n / 2) (m / 2) (by omega)
    have hn : (Nat.beq (n % 2) 0) = decide (n % 2 = 0) := by rw [Bool.eq_iff_iff]; simp
    have hm : (Nat.beq (m % 2) 0) = decide (m % 2 = 0) := by rw [Bool.eq_iff_iff]; simp
    simp only [Tr.setF_lz, Tr.setF_ls, Tr.setF_nz, Tr.setF_ns, hn]
    by_cases h1 : n % 2 = 0 <;> by_cases h2 : m % 2 = 0 <;> simp [h1, h2, Tr.get_lf, Tr.get_z, Tr.get_s, hm, ihl, ihr] <;> (try (split <;> split <;> (first | rfl | omega)))
    all_goals omega
theorem Tr.get_set {α : Type} (t : Tr α) (n m : Nat) (x : Option α) : (t.set n x).get m = if m = n then x else t.get m := Tr.get_setF x (n + 1) t n m (by omega)
theorem Heap.get_put (H : Heap) (r m : Nat) (x : Option Ob) : (H.put r x).get m = if m = r then x else H.get m := Tr.get_set ..
theorem Heap.get_new (H : Heap) (m : Nat) (x : Ob) : (H.new x).get m = if m = H.next then some x else H.get m := Tr.get_set ..
theorem Heap.next_put (H : Heap) (r : Nat) (x : Option Ob) : (H.put r x).next = H.next := rfl
theorem Heap.next_new (H : Heap) (x : Ob) : (H.new x).next = H.next + 1 := rfl
structure HStep (H H' : Heap) : Prop where
  next : H.next ≤ H'.next
  old : ∀ r, (H'.get r).isSome = true → (H.get r).isSome = true ∨ (H.next ≤ r ∧ r < H'.next)
theorem HStep.refl (H : Heap) : HStep H H := ⟨Nat.le_refl _, fun _ h => .inl h⟩
theorem HStep.trans {H H1 H2 : Heap} (h : HStep H H1) (k : HStep H1 H2) : HStep H H2 :=
  ⟨Nat.le_trans h.next k.next, fun r hr => by
    have a1 := h.next
    have a2 := k.next
    rcases k.old r hr with e | e
    · rcases h.old r e with e | e
      · exact .inl e
      · exact .inr ⟨e.1, by omega⟩
    · exact .inr ⟨by omega, e.2⟩⟩
theorem HStep.put (H : Heap) (r : Nat) (x : Option Ob) (hr : (H.get r).isSome = true) : HStep H (H.put r x) :=
  ⟨Nat.le_refl _, fun m hm => by
    rw [Heap.get_put] at hm
    split at hm
    · rename_i e; subst e; exact .inl hr
    · exact .inl hm⟩
theorem HStep.new (H : Heap) (x : Ob) : HStep H (H.new x) :=
  ⟨Nat.le_succ _, fun m hm => by
    rw [Heap.get_new] at hm
    split at hm
    · rename_i e; subst e; exact .inr ⟨Nat.le_refl _, Nat.lt_succ_self _⟩
    · exact .inl hm⟩
abbrev Rows := Nat → Option Ob
noncomputable def upd (H H' : Heap) (R : Rows) : Rows := fun r => if (H.get r).isSome = true ∨ (H.next ≤ r ∧ r < H'.next) then H'.get r else R r
def Part (H : Heap) (R : Rows) : Prop := ∀ r x, H.get r = some x → R r = some x
theorem upd_refl {H : Heap} {R : Rows} (h : Part H R) : upd H H R = R := by
  funext r
  unfold upd
  split
  · rename_i e
    rcases e with e | e
    · obtain ⟨x, hx⟩ := Option.isSome_iff_exists.1 e
      rw [hx, h r x hx]
    · omega
  · rfl
theorem upd_trans {H H1 H2 : Heap} {R : Rows} (h1 : HStep H H1) (h2 : HStep H1 H2) : upd H1 H2 (upd H H1 R) = upd H H2 R := by
  funext r
  have a1 := h1.next
  have a2 := h2.next
  have o1 := h1.old r
  have o2 := h2.old r
  unfold upd
  by_cases c1 : (H1.get r).isSome = true
  · rw [if_pos (.inl c1), if_pos]
    rcases o1 c1 with e | e
    · exact .inl e
    · exact .inr ⟨e.1, by omega⟩
  · by_cases c2 : H1.next ≤ r ∧ r < H2.next
    · rw [if_pos (.inr c2), if_pos (.inr ⟨by omega, c2.2⟩)]
    · rw [if_neg (by simp only [not_or]; exact ⟨c1, c2⟩)]
      have c1' : H1.get r = none := by cases hh : H1.get r <;> simp_all
      by_cases c3 : (H.get r).isSome = true ∨ (H.next ≤ r ∧ r < H1.next)
      · have c4 : (H.get r).isSome = true ∨ (H.next ≤ r ∧ r < H2.next) := c3.imp id (fun h => ⟨h.1, by omega⟩)
        rw [if_pos c3, if_pos c4, c1']
        have : ¬ (H2.get r).isSome = true := fun h => (o2 h).elim c1 c2
        cases hh : H2.get r <;> simp_all
      · have c4 : ¬ ((H.get r).isSome = true ∨ (H.next ≤ r ∧ r < H2.next)) := by
          simp only [not_or, not_and] at c3 c2 ⊢
          exact ⟨c3.1, fun h => by
            have := c3.2 h
            by_cases h5 : H1.next ≤ r
            · exact c2 h5
            · omega⟩
        rw [if_neg c3, if_neg c4]
theorem Part.upd {H H' : Heap} {R : Rows} (h : HStep H H') : Part H' (upd H H' R) := by
  intro r x hx
  have := h.old r (by rw [hx]; rfl)
  unfold AM.upd
  rw [if_pos this, hx]
def Fresh (H H' : Heap) (K : Know) : Prop := ∀ r, H.next ≤ r → r < H'.next → K.β r = none
structure Ctx where
  P : Program
  G : Glob
  B : Nat
  w0 : World
def Unfrozen (fr : Nat × Nat) (n : Nat) : Prop := fr = (0, 0) ∨ fr = (n, n + 1)
structure Rel (C : Ctx) (K : Know) (R : Rows) (w : World) : Prop where
  below : Below C.B C.w0 w
  base : C.B ≤ w.heap.size
  low : ∀ b, b < C.B → K.S b
  there : ∀ b, K.S b → b < w.heap.size
  glob : ∀ g cs, C.G g = some cs → K.S g ∧ ∃ us, CellsFrom w g 0 us ∧ VL K w cs us
  row : ∀ r cs, R r = some (.row cs) → ∃ b base c e fr, K.β r = some (b, base) ∧ C.B ≤ b ∧ ¬ K.S b ∧ w.heap[b]? = some (.cells c e fr) ∧ Unfrozen fr c.size ∧ base + cs.length ≤ c.size ∧
    VL K w cs ((c.toList.drop base).take cs.length)
  map : ∀ r es, R r = some (.map es) → ∃ b base xs clock, K.β r = some (b, base) ∧ C.B ≤ b ∧ ¬ K.S b ∧ w.heap[b]? = some (.map xs clock) ∧
    VL K w (es.map (·.1)) (xs.toList.map (·.key)) ∧ VL K w (es.map (·.2)) (xs.toList.map (·.val))
  inj : ∀ r r' x x' b base base', R r = some x → R r' = some x' → K.β r = some (b, base) → K.β r' = some (b, base') → r = r'
structure Adv (C : Ctx) (H H' : Heap) (K : Know) (R : Rows) (w : World) (K' : Know) (w' : World) : Prop where
  hstep : HStep H H'
  le : K.le K'
  only : ∀ r, K'.β r = K.β r ∨ (H.next ≤ r ∧ r < H'.next)
  rel : Rel C K' (upd H H' R) w'
  ext : WExt K w w'
theorem Adv.refl {C : Ctx} {H : Heap} {K : Know} {R : Rows} {w : World} (hp : Part H R) (h : Rel C K R w) : Adv C H H K R w K w :=
  ⟨.refl H, .refl K, fun _ => .inl rfl, by rw [upd_refl hp]; exact h, .refl K w⟩
theorem Adv.trans {C : Ctx} {H H1 H2 : Heap} {K K1 K2 : Know} {R : Rows} {w w1 w2 : World} (h : Adv C H H1 K R w K1 w1) (k : Adv C H1 H2 K1 (upd H H1 R) w1 K2 w2) : Adv C H H2 K R w K2 w2 :=
  ⟨h.hstep.trans k.hstep, h.le.trans k.le, fun r => by
    have a1 := h.hstep.next
    have a2 := k.hstep.next
    rcases k.only r with e | e
    · rcases h.only r with e' | e'
      · exact .inl (e.trans e')
      · exact .inr ⟨e'.1, by omega⟩
    · exact .inr ⟨by omega, e.2⟩, by
    have := k.rel
    rwa [upd_trans h.hstep k.hstep] at this, h.ext.trans h.le k.ext⟩
theorem Fresh.first {H H1 H2 : Heap} {K : Know} (h : Fresh H H2 K) (k : HStep H1 H2) : Fresh H H1 K := fun r a b => h r a (Nat.lt_of_lt_of_le b k.next)
theorem Fresh.second {C : Ctx} {H H1 H2 : Heap} {K K1 : Know} {R : Rows} {w w1 : World} (h : Fresh H H2 K) (k : Adv C H H1 K R w K1 w1) : Fresh H1 H2 K1 := fun r a b => by
  have := k.hstep.next
  rcases k.only r with e | e
  · rw [e]; exact h r (by omega) b
  · omega
end Go.AM
namespace Go.AM
open Go Go.RowKit
def Know.put (K : Know) (r : Nat) (x : Nat × Nat) : Know := ⟨fun m => if m = r then some x else K.β m, K.S⟩
def Know.shut (K : Know) (b : Nat) : Know := ⟨K.β, fun m => K.S m ∨ m = b⟩
theorem Know.le_put {K : Know} {r : Nat} {x : Nat × Nat} (h : K.β r = none) : K.le (K.put r x) :=
  ⟨fun m y hm => by
    show (if m = r then some x else K.β m) = some y
    rw [if_neg (by rintro rfl; rw [h] at hm; cases hm)]; exact hm, fun _ h => h⟩
theorem Know.le_shut (K : Know) (b : Nat) : K.le (K.shut b) := ⟨fun _ _ h => h, fun _ h => .inl h⟩
theorem Know.put_self (K : Know) (r : Nat) (x : Nat × Nat) : (K.put r x).β r = some x := by simp [Know.put]
theorem upd_put {H : Heap} {R : Rows} {r : Nat} (x : Option Ob) (hr : (H.get r).isSome = true) (hp : Part H R) : upd H (H.put r x) R = fun m => if m = r then x else R m := by
  funext m
  unfold upd
  rw [Heap.get_put, Heap.next_put]
  by_cases e : m = r
  · subst e; rw [if_pos (.inl hr), if_pos rfl, if_pos rfl]
  · rw [if_neg e, if_neg e]
    split
    · rename_i c
      rcases c with c | c
      · obtain ⟨y, hy⟩ := Option.isSome_iff_exists.1 c
        rw [hy, hp _ _ hy]
      · omega
    · rfl
theorem upd_new {H : Heap} {R : Rows} (x : Ob) (hp : Part H R) : upd H (H.new x) R = fun m => if m = H.next then some x else R m := by
  funext m
  unfold upd
  rw [Heap.get_new, Heap.next_new]
  by_cases e : m = H.next
  · rw [if_pos e, if_pos e, if_pos (.inr ⟨by omega, by omega⟩)]
  · rw [if_neg e, if_neg e]
    split
    · rename_i c
      rcases c with c | c
      · obtain ⟨y, hy⟩ := Option.isSome_iff_exists.1 c
        rw [hy, hp _ _ hy]
      · omega
    · rfl
section
variable {C : Ctx} {K : Know} {R : Rows} {w : World}
theorem Rel.drop {R' : Rows} (h : Rel C K R w) (hR : ∀ r x, R' r = some x → R r = some x) : Rel C K R' w :=
  ⟨h.below, h.base, h.low, h.there, h.glob, fun r cs e => h.row r cs (hR _ _ e), fun r es e => h.map r es (hR _ _ e), fun r r' x x' b base base' e e' => h.inj r r' x x' b base base' (hR _ _ e) (hR _ _ e')⟩
theorem Rel.world {w' : World} (h : Rel C K R w) (hb : Below C.B C.w0 w') (hx : WExt K w w')
    (hk : ∀ r x b base, R r = some x → K.β r = some (b, base) → w'.heap[b]? = w.heap[b]?) : Rel C K R w' :=
  ⟨hb, Nat.le_trans h.base hx.size, h.low, fun b hS => Nat.lt_of_lt_of_le (h.there b hS) hx.size,
    fun g cs e => by
      obtain ⟨hs, us, hc, hv⟩ := h.glob g cs e
      exact ⟨hs, us, hc.ext hx hs, hv.mono (.refl K) hx⟩,
    fun r cs e => by
      obtain ⟨b, base, c, el, fr, h1, h2, h3, h4, h5, h6, h7⟩ := h.row r cs e
      exact ⟨b, base, c, el, fr, h1, h2, h3, (hk r _ b base e h1).trans h4, h5, h6, h7.mono (.refl K) hx⟩,
    fun r es e => by
      obtain ⟨b, base, xs, clock, h1, h2, h3, h4, h5, h6⟩ := h.map r es e
      exact ⟨b, base, xs, clock, h1, h2, h3, (hk r _ b base e h1).trans h4, h5.mono (.refl K) hx, h6.mono (.refl K) hx⟩, h.inj⟩
theorem WExt.alloc (K : Know) (w : World) (hS : ∀ b, K.S b → b < w.heap.size) (o : Obj) : WExt K w (w.alloc o) :=
  ⟨by simp, fun b hb => Below.heap_alloc w o b (hS b hb), fun b n ⟨cs, e, fr, h, hn⟩ => ⟨cs, e, fr, by
    rw [Below.heap_alloc w o b (Array.getElem?_eq_some_iff.1 h).1]; exact h, hn⟩⟩
theorem WExt.drew (K : Know) (w : World) : WExt K w w.drew := ⟨Nat.le_refl _, fun _ _ => rfl, fun _ _ h => h⟩
theorem Rel.drew (h : Rel C K R w) : Rel C K R w.drew := h.world h.below.drew (.drew K w) fun _ _ _ _ _ _ => rfl
theorem Rel.lt (h : Rel C K R w) {r : Nat} {x : Ob} {b base : Nat} (e : R r = some x) (hb : K.β r = some (b, base)) : b < w.heap.size := by
  cases x with
  | row cs =>
    obtain ⟨b', base', c, el, fr, h1, _, _, h4, _⟩ := h.row r cs e
    rw [hb] at h1
    injection h1 with h1
    injection h1 with h1 _
    subst h1
    exact (Array.getElem?_eq_some_iff.1 h4).1
  | map es =>
    obtain ⟨b', base', xs, clock, h1, _, _, h4, _⟩ := h.map r es e
    rw [hb] at h1
    injection h1 with h1
    injection h1 with h1 _
    subst h1
    exact (Array.getElem?_eq_some_iff.1 h4).1
theorem Rel.has (h : Rel C K R w) {r : Nat} {x : Ob} (e : R r = some x) : ∃ b base, K.β r = some (b, base) ∧ C.B ≤ b ∧ ¬ K.S b := by
  cases x with
  | row cs => obtain ⟨b, base, c, el, fr, h1, h2, h3, _⟩ := h.row r cs e; exact ⟨b, base, h1, h2, h3⟩
  | map es => obtain ⟨b, base, xs, clock, h1, h2, h3, _⟩ := h.map r es e; exact ⟨b, base, h1, h2, h3⟩
theorem Rel.alloc (h : Rel C K R w) (o : Obj) : Rel C K R (w.alloc o) :=
  h.world (h.below.alloc h.base o) (.alloc K w h.there o) fun r x b base e hb => Below.heap_alloc w o b (h.lt e hb)
theorem WExt.setRow (K : Know) (w : World) (b : Nat) (c c' : Array Value) (el : TypeId) (fr : Nat × Nat) (hb : w.heap[b]? = some (.cells c el fr)) (hS : ¬ K.S b) (hn : c'.size = c.size) : WExt K w (w.setRow b c') :=
  ⟨by simp, fun k hk => setRow_other w b k c' (fun e => hS (e ▸ hk)), fun k n ⟨cs, e, f, h, hl⟩ => by
    by_cases hk : k = b
    · subst hk
      rw [hb] at h
      injection h with h
      injection h with h1 h2 h3
      subst h1
      exact ⟨c', el, fr, setRow_heap w k c c' el fr hb, by omega⟩
    · exact ⟨cs, e, f, by rw [setRow_other w b k c' hk]; exact h, hl⟩⟩
theorem Rel.setRow (h : Rel C K R w) (b : Nat) (c c' : Array Value) (el : TypeId) (fr : Nat × Nat) (hb : w.heap[b]? = some (.cells c el fr)) (hB : C.B ≤ b) (hS : ¬ K.S b) (hn : c'.size = c.size)
    (hno : ∀ r x base, R r = some x → K.β r ≠ some (b, base)) : Rel C K R (w.setRow b c') :=
  h.world (h.below.trans ⟨rfl, rfl, rfl, by simp, fun k hk => setRow_other w b k c' (by omega)⟩) (.setRow K w b c c' el fr hb hS hn) fun r x k base e hk => setRow_other w b k c' (fun e2 => hno r x base e (e2 ▸ hk))
theorem Rel.addRow (h : Rel C K R w) (r : Nat) (cs : List AV) (b base : Nat) (c : Array Value) (el : TypeId) (fr : Nat × Nat) (hr : K.β r = none) (hB : C.B ≤ b) (hS : ¬ K.S b)
    (hb : w.heap[b]? = some (.cells c el fr)) (hf : Unfrozen fr c.size) (hl : base + cs.length ≤ c.size) (hv : VL K w cs ((c.toList.drop base).take cs.length))
    (hno : ∀ r x base, R r = some x → K.β r ≠ some (b, base)) : Rel C (K.put r (b, base)) (fun m => if m = r then some (.row cs) else R m) w := by
  have hle : K.le (K.put r (b, base)) := Know.le_put hr
  have hx : WExt K w w := .refl K w
  have hne : ∀ m x, R m = some x → m ≠ r := by
    rintro m x hm rfl
    obtain ⟨b', base', hb', _⟩ := h.has hm
    rw [hr] at hb'; cases hb'
  refine ⟨h.below, h.base, h.low, h.there, ?_, ?_, ?_, ?_⟩
  · intro g cs' e
    obtain ⟨hs, us, hc, hv⟩ := h.glob g cs' e
    exact ⟨hs, us, hc, hv.mono hle hx⟩
  · intro m cs' e
    by_cases hm : m = r
    · subst hm
      simp only [if_pos] at e
      injection e with e
      injection e with e
      subst e
      exact ⟨b, base, c, el, fr, Know.put_self .., hB, hS, hb, hf, hl, hv.mono hle hx⟩
    · simp only [if_neg hm] at e
      obtain ⟨b', base', c', el', fr', h1, h2, h3, h4, h5, h6, h7⟩ := h.row m cs' e
      exact ⟨b', base', c', el', fr', hle.β _ _ h1, h2, h3, h4, h5, h6, h7.mono hle hx⟩
  · intro m es e
    by_cases hm : m = r
    · simp [hm] at e
    · simp only [if_neg hm] at e
      obtain ⟨b', base', xs, clock, h1, h2, h3, h4, h5, h6⟩ := h.map m es e
      exact ⟨b', base', xs, clock, hle.β _ _ h1, h2, h3, h4, h5.mono hle hx, h6.mono hle hx⟩
  · intro m m' x x' k s s' e e' hk hk'
    have key : ∀ n y t, (if n = r then some (Ob.row cs) else R n) = some y → (K.put r (b, base)).β n = some (k, t) → n ≠ r → R n = some y ∧ K.β n = some (k, t) := by
      intro n y t e1 e2 hn
      rw [if_neg hn] at e1
      simp only [Know.put, if_neg hn] at e2
      exact ⟨e1, e2⟩
    by_cases hm : m = r <;> by_cases hm' : m' = r
    · rw [hm, hm']
    · subst hm
      obtain ⟨a1, a2⟩ := key _ _ _ e' hk' hm'
      rw [Know.put_self] at hk
      injection hk with hk
      injection hk with hk _
      exact absurd a2 (hk ▸ hno m' x' s' a1)
    · subst hm'
      obtain ⟨a1, a2⟩ := key _ _ _ e hk hm
      rw [Know.put_self] at hk'
      injection hk' with hk'
      injection hk' with hk' _
      exact absurd a2 (hk' ▸ hno m x s a1)
    · obtain ⟨a1, a2⟩ := key _ _ _ e hk hm
      obtain ⟨b1, b2⟩ := key _ _ _ e' hk' hm'
      exact h.inj m m' x x' k s s' a1 b1 a2 b2
theorem Rel.backRow (h : Rel C K R w) (r : Nat) (cs : List AV) (b base : Nat) (c : Array Value) (el : TypeId) (fr : Nat × Nat) (hr : K.β r = some (b, base)) (hB : C.B ≤ b) (hS : ¬ K.S b)
    (hb : w.heap[b]? = some (.cells c el fr)) (hf : Unfrozen fr c.size) (hl : base + cs.length ≤ c.size) (hv : VL K w cs ((c.toList.drop base).take cs.length))
    (hno : ∀ m x base, m ≠ r → R m = some x → K.β m ≠ some (b, base)) : Rel C K (fun m => if m = r then some (.row cs) else R m) w := by
  refine ⟨h.below, h.base, h.low, h.there, h.glob, ?_, ?_, ?_⟩
  · intro m cs' e
    by_cases hm : m = r
    · subst hm
      simp only [if_pos] at e
      injection e with e
      injection e with e
      subst e
      exact ⟨b, base, c, el, fr, hr, hB, hS, hb, hf, hl, hv⟩
    · simp only [if_neg hm] at e
      exact h.row m cs' e
  · intro m es e
    by_cases hm : m = r
    · simp [hm] at e
    · simp only [if_neg hm] at e
      exact h.map m es e
  · intro m m' x x' k s s' e e' hk hk'
    by_cases hm : m = r <;> by_cases hm' : m' = r
    · rw [hm, hm']
    · subst hm
      simp only [if_neg hm'] at e'
      rw [hr] at hk
      injection hk with hk
      injection hk with hk _
      exact absurd hk' (hk ▸ hno m' x' s' hm' e')
    · subst hm'
      simp only [if_neg hm] at e
      rw [hr] at hk'
      injection hk' with hk'
      injection hk' with hk' _
      exact absurd hk (hk' ▸ hno m x s hm e)
    · simp only [if_neg hm] at e
      simp only [if_neg hm'] at e'
      exact h.inj m m' x x' k s s' e e' hk hk'
theorem Rel.addMap (h : Rel C K R w) (r : Nat) (es : List (AV × AV)) (b : Nat) (xs : Array MapEntry) (clock : Nat) (hr : K.β r = none) (hB : C.B ≤ b) (hS : ¬ K.S b)
    (hb : w.heap[b]? = some (.map xs clock)) (h1 : VL K w (es.map (·.1)) (xs.toList.map (·.key))) (h2 : VL K w (es.map (·.2)) (xs.toList.map (·.val)))
    (hno : ∀ r x base, R r = some x → K.β r ≠ some (b, base)) : Rel C (K.put r (b, 0)) (fun m => if m = r then some (.map es) else R m) w := by
  have hle : K.le (K.put r (b, 0)) := Know.le_put hr
  have hx : WExt K w w := .refl K w
  have hne : ∀ m x, R m = some x → m ≠ r := by
    rintro m x hm rfl
    obtain ⟨b', base', hb', _⟩ := h.has hm
    rw [hr] at hb'; cases hb'
  refine ⟨h.below, h.base, h.low, h.there, ?_, ?_, ?_, ?_⟩
  · intro g cs' e
    obtain ⟨hs, us, hc, hv⟩ := h.glob g cs' e
    exact ⟨hs, us, hc, hv.mono hle hx⟩
  · intro m cs' e
    by_cases hm : m = r
    · simp [hm] at e
    · simp only [if_neg hm] at e
      obtain ⟨b', base', c', el', fr', h1, h2, h3, h4, h5, h6, h7⟩ := h.row m cs' e
      exact ⟨b', base', c', el', fr', hle.β _ _ h1, h2, h3, h4, h5, h6, h7.mono hle hx⟩
  · intro m es' e
    by_cases hm : m = r
    · subst hm
      simp only [if_pos] at e
      injection e with e
      injection e with e
      subst e
      exact ⟨b, 0, xs, clock, Know.put_self .., hB, hS, hb, h1.mono hle hx, h2.mono hle hx⟩
    · simp only [if_neg hm] at e
      obtain ⟨b', base', xs', clock', g1, g2, g3, g4, g5, g6⟩ := h.map m es' e
      exact ⟨b', base', xs', clock', hle.β _ _ g1, g2, g3, g4, g5.mono hle hx, g6.mono hle hx⟩
  · intro m m' x x' k s s' e e' hk hk'
    have key : ∀ n y t, (if n = r then some (Ob.map es) else R n) = some y → (K.put r (b, 0)).β n = some (k, t) → n ≠ r → R n = some y ∧ K.β n = some (k, t) := by
      intro n y t e1 e2 hn
      rw [if_neg hn] at e1
      simp only [Know.put, if_neg hn] at e2
      exact ⟨e1, e2⟩
    by_cases hm : m = r <;> by_cases hm' : m' = r
    · rw [hm, hm']
    · subst hm
      obtain ⟨a1, a2⟩ := key _ _ _ e' hk' hm'
      rw [Know.put_self] at hk
      injection hk with hk
      injection hk with hk _
      exact absurd a2 (hk ▸ hno m' x' s' a1)
    · subst hm'
      obtain ⟨a1, a2⟩ := key _ _ _ e hk hm
      rw [Know.put_self] at hk'
      injection hk' with hk'
      injection hk' with hk' _
      exact absurd a2 (hk' ▸ hno m x s a1)
    · obtain ⟨a1, a2⟩ := key _ _ _ e hk hm
      obtain ⟨b1, b2⟩ := key _ _ _ e' hk' hm'
      exact h.inj m m' x x' k s s' a1 b1 a2 b2
theorem Rel.shut (h : Rel C K R w) (b : Nat) (hb : b < w.heap.size) (hno : ∀ r x base, R r = some x → K.β r ≠ some (b, base)) : Rel C (K.shut b) R w := by
  have hle := Know.le_shut K b
  have hx : WExt K w w := .refl K w
  refine ⟨h.below, h.base, fun k hk => .inl (h.low k hk), fun k hk => hk.elim (h.there k) (fun e => e ▸ hb), ?_, ?_, ?_, h.inj⟩
  · intro g cs' e
    obtain ⟨hs, us, hc, hv⟩ := h.glob g cs' e
    exact ⟨.inl hs, us, hc, hv.mono hle hx⟩
  · intro m cs' e
    obtain ⟨b', base', c', el', fr', h1, h2, h3, h4, h5, h6, h7⟩ := h.row m cs' e
    exact ⟨b', base', c', el', fr', h1, h2, fun hk => hk.elim h3 (fun e2 => hno m _ base' e (e2 ▸ h1)), h4, h5, h6, h7.mono hle hx⟩
  · intro m es e
    obtain ⟨b', base', xs, clock, h1, h2, h3, h4, h5, h6⟩ := h.map m es e
    exact ⟨b', base', xs, clock, h1, h2, fun hk => hk.elim h3 (fun e2 => hno m _ base' e (e2 ▸ h1)), h4, h5.mono hle hx, h6.mono hle hx⟩
theorem Rel.fresh (h : Rel C K R w) : ∀ r x base, R r = some x → K.β r ≠ some (w.heap.size, base) := fun r x base e hb => by
  have := h.lt e hb; omega
theorem Rel.freshS (h : Rel C K R w) : ¬ K.S w.heap.size := fun e => by have := h.there _ e; omega
end
section
variable {C : Ctx} {K : Know} {R : Rows} {w : World} {H : Heap}
theorem Adv.newRow (h : Rel C K R w) (hp : Part H R) (hf : K.β H.next = none) (cs : List AV) (c : Array Value) (el : TypeId) (hl : cs.length ≤ c.size) (hv : VL K w cs (c.toList.take cs.length)) :
    Adv C H (H.new (.row cs)) K R w (K.put H.next (w.heap.size, 0)) (w.alloc (.cells c el)) := by
  have hx := WExt.alloc K w h.there (.cells c el)
  have hle : K.le (K.put H.next (w.heap.size, 0)) := Know.le_put hf
  refine ⟨.new _ _, hle, fun r => ?_, ?_, hx⟩
  · by_cases e : r = H.next
    · exact .inr ⟨by omega, by rw [Heap.next_new]; omega⟩
    · exact .inl (by simp [Know.put, e])
  · rw [upd_new _ hp]
    have h1 := h.alloc (.cells c el)
    exact h1.addRow H.next cs w.heap.size 0 c el (0, 0) hf h.base h.freshS (heap_alloc_new w _) (.inl rfl) (by omega) (by simpa using hv.mono (.refl K) hx) h.fresh
theorem Adv.setRow (h : Rel C K R w) (hp : Part H R) {r : Nat} {cs cs' : List AV} (hr : H.get r = some (.row cs)) {b base : Nat} {c c' : Array Value} {el : TypeId} {fr : Nat × Nat} (hb : K.β r = some (b, base)) (hB : C.B ≤ b) (hS : ¬ K.S b)
    (hh : w.heap[b]? = some (.cells c el fr)) (hf : Unfrozen fr c.size) (hn : c'.size = c.size) (hl : base + cs'.length ≤ c.size) (hv : VL K w cs' ((c'.toList.drop base).take cs'.length)) :
    Adv C H (H.put r (some (.row cs'))) K R w K (w.setRow b c') := by
  have hR := hp r _ hr
  have hx := WExt.setRow K w b c c' el fr hh hS hn
  refine ⟨.put _ _ _ (by rw [hr]; rfl), .refl K, fun _ => .inl rfl, ?_, hx⟩
  rw [upd_put _ (by rw [hr]; rfl) hp]
  have h0 : Rel C K (fun m => if m = r then none else R m) w := h.drop fun m x e => by
    by_cases hm : m = r
    · simp [hm] at e
    · simpa [hm] using e
  have hno : ∀ m x s, (if m = r then none else R m) = some x → K.β m ≠ some (b, s) := fun m x s e hm => by
    by_cases em : m = r
    · simp [em] at e
    · simp only [if_neg em] at e
      exact em (h.inj m r x _ b s base e hR hm hb)
  have h1 := h0.setRow b c c' el fr hh hB hS hn hno
  have h2 := h1.backRow r cs' b base c' el fr hb hB hS (setRow_heap w b c c' el fr hh) (hn ▸ hf) (by omega) (hv.mono (.refl K) hx) (fun m x s _ e => hno m x s e)
  refine h2.drop fun m x e => ?_
  by_cases hm : m = r
  · simpa [hm] using e
  · simpa [hm] using e
theorem Adv.moveRow (h : Rel C K R w) (hp : Part H R) (hfr : K.β H.next = none) {r : Nat} {cs cs' : List AV} (hr : H.get r = some (.row cs)) {b base base' : Nat} {c c' : Array Value} {el : TypeId} {fr : Nat × Nat} (hb : K.β r = some (b, base)) (hB : C.B ≤ b) (hS : ¬ K.S b)
    (hh : w.heap[b]? = some (.cells c el fr)) (hf : Unfrozen fr c.size) (hn : c'.size = c.size) (hl : base' + cs'.length ≤ c.size) (hv : VL K w cs' ((c'.toList.drop base').take cs'.length)) :
    Adv C H ((H.put r none).new (.row cs')) K R w (K.put H.next (b, base')) (w.setRow b c') := by
  have hR := hp r _ hr
  have hx := WExt.setRow K w b c c' el fr hh hS hn
  have hle : K.le (K.put H.next (b, base')) := Know.le_put hfr
  have hs1 : HStep H (H.put r none) := .put _ _ _ (by rw [hr]; rfl)
  refine ⟨hs1.trans (.new _ _), hle, fun m => ?_, ?_, hx⟩
  · by_cases e : m = H.next
    · exact .inr ⟨by omega, by rw [Heap.next_new, Heap.next_put]; omega⟩
    · exact .inl (by simp [Know.put, e])
  · rw [← upd_trans hs1 (.new _ _), upd_put _ (by rw [hr]; rfl) hp]
    have hp1 : Part (H.put r none) (fun m => if m = r then none else R m) := fun m x e => by
      rw [Heap.get_put] at e
      by_cases hm : m = r
      · simp [hm] at e
      · simp only [if_neg hm] at e ⊢
        exact hp _ _ e
    rw [upd_new _ hp1]
    have h0 : Rel C K (fun m => if m = r then none else R m) w := h.drop fun m x e => by
      by_cases hm : m = r
      · simp [hm] at e
      · simpa [hm] using e
    have hno : ∀ m x s, (if m = r then none else R m) = some x → K.β m ≠ some (b, s) := fun m x s e hm => by
      by_cases em : m = r
      · simp [em] at e
      · simp only [if_neg em] at e
        exact em (h.inj m r x _ b s base e hR hm hb)
    have h1 := h0.setRow b c c' el fr hh hB hS hn hno
    exact h1.addRow H.next cs' b base' c' el fr hfr hB hS (setRow_heap w b c c' el fr hh) (hn ▸ hf) (by omega) (hv.mono (.refl K) hx) hno
theorem Adv.moveNew (h : Rel C K R w) (hp : Part H R) (hfr : K.β H.next = none) {r : Nat} {cs cs' : List AV} (hr : H.get r = some (.row cs)) (c : Array Value) (el : TypeId) (hl : cs'.length ≤ c.size) (hv : VL K w cs' (c.toList.take cs'.length)) :
    Adv C H ((H.put r none).new (.row cs')) K R w (K.put H.next (w.heap.size, 0)) (w.alloc (.cells c el)) := by
  have hs1 : HStep H (H.put r none) := .put _ _ _ (by rw [hr]; rfl)
  have a1 : Adv C H (H.put r none) K R w K w := by
    refine ⟨hs1, .refl K, fun _ => .inl rfl, ?_, .refl K w⟩
    rw [upd_put _ (by rw [hr]; rfl) hp]
    exact h.drop fun m x e => by
      by_cases hm : m = r
      · simp [hm] at e
      · simpa [hm] using e
  exact a1.trans (Adv.newRow (H := H.put r none) a1.rel (.upd hs1) hfr cs' c el hl hv)
theorem Adv.newMap (h : Rel C K R w) (hp : Part H R) (hf : K.β H.next = none) : Adv C H (H.new (.map [])) K R w (K.put H.next (w.heap.size, 0)) (w.alloc (.map #[] 0)) := by
  have hx := WExt.alloc K w h.there (.map #[] 0)
  have hle : K.le (K.put H.next (w.heap.size, 0)) := Know.le_put hf
  refine ⟨.new _ _, hle, fun r => ?_, ?_, hx⟩
  · by_cases e : r = H.next
    · exact .inr ⟨by omega, by rw [Heap.next_new]; omega⟩
    · exact .inl (by simp [Know.put, e])
  · rw [upd_new _ hp]
    exact (h.alloc (.map #[] 0)).addMap H.next [] w.heap.size #[] 0 hf h.base h.freshS (heap_alloc_new w _) .nil .nil h.fresh
theorem Adv.drew (h : Rel C K R w) (hp : Part H R) : Adv C H H K R w K w.drew :=
  ⟨.refl H, .refl K, fun _ => .inl rfl, by rw [upd_refl hp]; exact h.drew, .drew K w⟩
end
end Go.AM
namespace Go.AM
open Go Go.RowKit
def TRel (K : Know) (w : World) (T : Tmps) (tmps : Array Value) : Prop := ∀ t, V K w (T.at t) (tmps.getD t undef)
theorem TRel.mono {K K' : Know} {w w' : World} {T : Tmps} {tmps : Array Value} (hK : K.le K') (hw : WExt K w w') (h : TRel K w T tmps) : TRel K' w' T tmps := fun t => (h t).mono hK hw
theorem V.undef (K : Know) (w : World) : V K w undefA Go.undef := .tup [] #[] .nil
theorem Tmps.at_set (T : Tmps) (d t : Nat) (v : AV) : Tmps.at (T.set d (some v)) t = if t = d then v else T.at t := by
  unfold Tmps.at
  rw [Tr.get_set]
  by_cases e : t = d
  · rw [if_pos e, if_pos e]
  · rw [if_neg e, if_neg e]
theorem TRel.put {K : Know} {w : World} {T : Tmps} {a : Act} {d : Option Nat} {v : AV} {u : Value} (h : TRel K w T a.tmps) (hd : ∀ n, d = some n → n < a.tmps.size) (hv : V K w v u) : TRel K w (putA T d v) (a.put d u).tmps := by
  cases d with
  | none => exact h
  | some n =>
    intro t
    have hn := hd n rfl
    show V K w (Tmps.at (T.set n (some v)) t) ((a.tmps.setIfInBounds n u).getD t Go.undef)
    rw [Tmps.at_set]
    by_cases e : t = n
    · subst e
      rw [if_pos rfl]
      have : (a.tmps.setIfInBounds t u).getD t Go.undef = u := by simp [hn]
      rw [this]; exact hv
    · rw [if_neg e]
      have : (a.tmps.setIfInBounds n u).getD t Go.undef = a.tmps.getD t Go.undef := by
        simp only [Array.getD_eq_getD_getElem?]
        rw [Array.getElem?_setIfInBounds_ne (by omega)]
      rw [this]; exact h t
mutual
theorem ofVal_sound {K : Know} {w : World} : ∀ (v : Value) (a : AV), ofVal v = some a → V K w a v
  | .bool b, a, h => by simp [ofVal] at h; subst h; exact .bool b
  | .int k n, a, h => by simp [ofVal] at h; subst h; exact .int k n
  | .string s, a, h => by simp [ofVal] at h; subst h; exact .str s
  | .float _ _, a, h => by simp [ofVal] at h
  | .complex _ _ _, a, h => by simp [ofVal] at h
  | .pointer none, a, h => by simp [ofVal] at h; subst h; exact .nilp
  | .pointer (some _), a, h => by simp [ofVal] at h
  | .slice none 0 0, a, h => by simp [ofVal] at h; subst h; exact .nils
  | .slice none 0 (_ + 1), a, h => by simp [ofVal] at h
  | .slice none (_ + 1) _, a, h => by simp [ofVal] at h
  | .slice (some _) _ _, a, h => by simp [ofVal] at h
  | .map none, a, h => by simp [ofVal] at h; subst h; exact .nilm
  | .map (some _), a, h => by simp [ofVal] at h
  | .chan _, a, h => by simp [ofVal] at h
  | .func _ _ _, a, h => by simp [ofVal] at h
  | .nilFunc, a, h => by simp [ofVal] at h; subst h; exact .nilf
  | .iface _ _, a, h => by simp [ofVal] at h
  | .nilIface, a, h => by simp [ofVal] at h; subst h; exact .nili
  | .agg ⟨cs⟩, a, h => by
    simp only [ofVal, Option.map_eq_some_iff] at h
    obtain ⟨xs, hx, rfl⟩ := h
    exact .agg xs ⟨cs⟩ (ofVals_sound cs xs hx)
  | .tuple ⟨cs⟩, a, h => by
    simp only [ofVal, Option.map_eq_some_iff] at h
    obtain ⟨xs, hx, rfl⟩ := h
    exact .tup xs ⟨cs⟩ (ofVals_sound cs xs hx)
theorem ofVals_sound {K : Know} {w : World} : ∀ (vs : List Value) (as_ : List AV), ofVals vs = some as_ → VL K w as_ vs
  | [], as_, h => by simp [ofVals] at h; subst h; exact .nil
  | v :: r, as_, h => by
    simp only [ofVals, Option.bind_eq_some_iff, Option.map_eq_some_iff] at h
    obtain ⟨a, ha, b, hb, rfl⟩ := h
    exact .cons a v b r (ofVal_sound v a ha) (ofVals_sound r b hb)
end
section
variable {K : Know} {w : World} {T : Tmps} {a : Act}
theorem evalA_sound (h : TRel K w T a.tmps) {x : Operand} {v : AV} (e : evalA T x = some v) : V K w v (a.eval x) := by
  cases x with
  | tmp t => simp [evalA] at e; subst e; exact h t
  | const c => exact ofVal_sound c v e
  | global g => simp [evalA] at e; subst e; exact .gptr g 0
  | func f => simp [evalA] at e; subst e; exact .fn f [] [] #[] #[] .nil .nil
theorem evalL_sound (h : TRel K w T a.tmps) : ∀ {xs : List Operand} {vs : List AV}, evalL T xs = some vs → VL K w vs (xs.map a.eval)
  | [], vs, e => by simp [evalL] at e; subst e; exact .nil
  | x :: r, vs, e => by
    simp only [evalL, Option.bind_eq_some_iff, Option.map_eq_some_iff] at e
    obtain ⟨v, hv, us, hu, rfl⟩ := e
    exact .cons v _ us _ (evalA_sound h hv) (evalL_sound h hu)
inductive VP (K : Know) (w : World) : List (Nat × AV) → List (Nat × Value) → Prop
  | nil : VP K w [] []
  | cons (i : Nat) (v : AV) (u : Value) (r : List (Nat × AV)) (s : List (Nat × Value)) (h : V K w v u) (t : VP K w r s) : VP K w ((i, v) :: r) ((i, u) :: s)
theorem evalP_sound (h : TRel K w T a.tmps) : ∀ {xs : List (Nat × Operand)} {vs : List (Nat × AV)}, evalP T xs = some vs → VP K w vs (xs.map fun x => (x.1, a.eval x.2))
  | [], vs, e => by simp [evalP] at e; subst e; exact .nil
  | x :: r, vs, e => by
    simp only [evalP, Option.bind_eq_some_iff, Option.map_eq_some_iff] at e
    obtain ⟨v, hv, us, hu, rfl⟩ := e
    exact .cons x.1 v _ us _ (evalA_sound h hv) (evalP_sound h hu)
end
def Yields (P : Program) (o : Oper) (a : Act) (w : World) (u : Value) (w' : World) : Prop :=
  (execOp a.eval o).run P w = .ok (.value u) w' ∨ ((execOp a.eval o).run P w = .ok .skip w' ∧ u = undef)
def Does (C : Ctx) (H H' : Heap) (K : Know) (R : Rows) (w : World) (a : Act) (o : Oper) (v : AV) : Prop :=
  ∃ u K' w', Yields C.P o a w u w' ∧ Adv C H H' K R w K' w' ∧ V K' w' v u
section
variable {C : Ctx} {H H' : Heap} {K : Know} {R : Rows} {w : World} {a : Act} {o : Oper} {T : Tmps} {v : AV}
theorem Does.still (hp : Part H R) (hR : Rel C K R w) {u : Value} (hr : (execOp a.eval o).run C.P w = .ok (.value u) w) (hv : V K w v u) : Does C H H K R w a o v :=
  ⟨u, K, w, .inl hr, .refl hp hR, hv⟩
theorem run_underlying' {P : Program} {t : TypeId} {d : TypeDesc} (h : P.underlying t = some d) (w : World) : (underlying t).run P w = .ok d w := run_underlying h w
theorem sizeT_run {P : Program} {t : TypeId} {n : Nat} (h : sizeT P t = some n) (w : World) : (sizeOf t).run P w = .ok n w := by
  simp only [sizeT, Option.map_eq_some_iff] at h
  obtain ⟨i, hi, rfl⟩ := h
  simp [sizeOf, typeInfo, program, Sem.run, hi]
theorem isAggT_run {P : Program} {t : TypeId} {b : Bool} (h : isAggT P t = some b) (w : World) : (isAgg t).run P w = .ok b w := by
  simp only [isAggT, Option.map_eq_some_iff] at h
  obtain ⟨d, hd, rfl⟩ := h
  simp only [isAgg, Sem.run_bind, run_underlying hd, Result.andThen_ok]
  cases d <;> simp [aggD]
theorem zeroV_run {P : Program} {t : TypeId} {z : AV} (h : zeroV P t = some z) : ∃ u, (∀ w, (zeroValue t).run P w = .ok u w) ∧ ∀ K w, V K w z u := by
  simp only [zeroV, Option.bind_eq_some_iff] at h
  obtain ⟨i, hi, u, hu, hz⟩ := h
  exact ⟨u, fun w => by simp [zeroValue, typeInfo, program, Sem.run, hi, hu], fun K w => ofVal_sound u z hz⟩
theorem zeroT_run {P : Program} {t : TypeId} {z : List AV} (h : zeroT P t = some z) : ∃ u, (∀ w, (zeroValue t).run P w = .ok u w) ∧ ∀ K w, VL K w z u.cells.toList := by
  simp only [zeroT, Option.bind_eq_some_iff, Option.map_eq_some_iff] at h
  obtain ⟨i, hi, u, hu, x, hx, rfl⟩ := h
  exact ⟨u, fun w => by simp [zeroValue, typeInfo, program, Sem.run, hi, hu], fun K w => VL.cells (ofVal_sound u x hx)⟩
end
end Go.AM
namespace Go.AM
open Go Go.RowKit
theorem OR.pure_val {H H' : Heap} {x : Option AV} {v : AV} (h : OR.pure H x = .val v H') : x = some v ∧ H' = H := by
  cases x with
  | none => cases h
  | some y => injection h with h1 h2; subst h1; subst h2; exact ⟨rfl, rfl⟩
theorem OR.of_val {H' : Heap} {x : Res} {v : AV} (h : OR.of x = .val v H') : x = some (v, H') := by
  cases x with
  | none => cases h
  | some y => injection h with h1 h2; subst h1; subst h2; rfl
theorem OR.mem_val {H' : Heap} {x : Option Heap} {v : AV} (h : OR.mem x = .val v H') : x = some H' ∧ v = undefA := by
  cases x with
  | none => cases h
  | some y => injection h with h1 h2; subst h1; subst h2; exact ⟨rfl, rfl⟩
section
variable {C : Ctx} {H H' : Heap} {K : Know} {R : Rows} {w : World} {a : Act} {o : Oper} {T : Tmps} {v : AV}
theorem does_move {x : Operand} (ho : o.op = .move x ∨ o.op = .assign x) (hp : Part H R) (hR : Rel C K R w) (hT : TRel K w T a.tmps) (e : evalA T x = some v) : Does C H H K R w a o v := by
  refine .still hp hR ?_ (evalA_sound hT e)
  rcases ho with ho | ho <;> simp [execOp, ho]
theorem does_pick {c x y : Operand} (ho : o.op = .pick c x y) (hp : Part H R) (hR : Rel C K R w) (hT : TRel K w T a.tmps) (e : pickO T c x y = some v) : Does C H H K R w a o v := by
  simp only [pickO, Option.bind_eq_some_iff] at e
  obtain ⟨b, hb, e⟩ := e
  have hc := evalA_sound hT hb
  cases b <;> simp only [pickA] at e <;> try (cases e)
  rename_i b
  generalize hu : a.eval c = u at hc
  cases hc
  cases b with
  | true => exact .still hp hR (u := a.eval x) (by simp [execOp, ho, hu, asBool]) (evalA_sound hT e)
  | false => exact .still hp hR (u := a.eval y) (by simp [execOp, ho, hu, asBool]) (evalA_sound hT e)
theorem does_alloc {t : TypeId} (ho : o.op = .alloc t) (hp : Part H R) (hR : Rel C K R w) (hf : Fresh H H' K) (e : allocO C.P H t = some (v, H')) : Does C H H' K R w a o v := by
  simp only [allocO, Option.bind_eq_some_iff] at e
  obtain ⟨z, hz, e⟩ := e
  injection e with e
  injection e with e1 e2
  subst e1; subst e2
  obtain ⟨u, hu, hv⟩ := zeroT_run hz
  have hvl := hv K w
  have hl : z.length ≤ u.cells.size := by have := hvl.length; simp at this; omega
  refine ⟨.pointer (some ⟨w.heap.size, 0, none⟩), _, _, .inl ?_, Adv.newRow hR hp (hf _ (Nat.le_refl _) (Nat.lt_succ_self _)) z u.cells t hl (by rw [List.take_of_length_le (by have := hvl.length; simp at this ⊢; omega)]; exact hvl), ?_⟩
  · simp [execOp, ho, Instr.alloc, hu, newVar, newRow]
  · exact .ptr _ 0 _ 0 (Know.put_self ..)
theorem does_box {t : TypeId} {x : Operand} (ho : o.op = .box t x) (hp : Part H R) (hR : Rel C K R w) (hf : Fresh H H' K) (hT : TRel K w T a.tmps) (e : boxO T H x = some (v, H')) : Does C H H' K R w a o v := by
  simp only [boxO, Option.bind_eq_some_iff] at e
  obtain ⟨z, hz, e⟩ := e
  injection e with e
  injection e with e1 e2
  subst e1; subst e2
  have hvl := VL.cells (evalA_sound hT hz)
  have hl : z.cells.length ≤ (a.eval x).cells.size := by have := hvl.length; simp at this; omega
  refine ⟨.pointer (some ⟨w.heap.size, 0, none⟩), _, _, .inl ?_, Adv.newRow hR hp (hf _ (Nat.le_refl _) (Nat.lt_succ_self _)) z.cells (a.eval x).cells t hl (by rw [List.take_of_length_le (by have := hvl.length; simp at this ⊢; omega)]; exact hvl), ?_⟩
  · simp [execOp, ho, Instr.box, newVar, newRow]
  · exact .ptr _ 0 _ 0 (Know.put_self ..)
theorem does_nilCheck {x : Operand} (ho : o.op = .nilCheck x) (hp : Part H R) (hR : Rel C K R w) (hT : TRel K w T a.tmps) (e : (evalA T x).bind nilCheckA = some v) : Does C H H K R w a o v := by
  simp only [Option.bind_eq_some_iff] at e
  obtain ⟨z, hz, e⟩ := e
  have hv := evalA_sound hT hz
  generalize hu : a.eval x = u at hv
  cases hv <;> simp only [nilCheckA] at e <;> first
    | (cases e; done)
    | (injection e with e; subst e
       refine .still hp hR (u := _) ?_ (by first | exact .ptr _ _ _ _ ‹_› | exact .gptr _ _ | exact .dptr _ _ _ _ ‹_› ‹_› ‹_› | exact .fn _ _ _ _ _ ‹_› ‹_›)
       simp [execOp, ho, hu])
theorem does_makeInterface {t : TypeId} {x : Operand} (ho : o.op = .makeInterface t x) (hp : Part H R) (hR : Rel C K R w) (hT : TRel K w T a.tmps) (e : (evalA T x).bind (ifaceA C.P t) = some v) : Does C H H K R w a o v := by
  simp only [Option.bind_eq_some_iff, ifaceA] at e
  obtain ⟨z, hz, d, hd, e⟩ := e
  have hv := evalA_sound hT hz
  cases hn : notIface d <;> simp only [hn, cond_true, cond_false] at e
  · cases e
  injection e with e
  subst e
  refine .still hp hR (u := .iface t (a.eval x)) ?_ (.iface t _ _ hv)
  simp only [execOp, ho, Instr.makeInterface, Sem.run_bind, run_underlying hd, Result.andThen_ok]
  cases d <;> simp [notIface] at hn <;> simp
theorem does_makeFunc {fn : Fn} {first caps : Array Operand} (ho : o.op = .makeFunc fn first caps) (hp : Part H R) (hR : Rel C K R w) (hT : TRel K w T a.tmps) (e : funcO T fn first.toList caps.toList = some v) : Does C H H K R w a o v := by
  cases fn <;> simp only [funcO] at e <;> try (cases e)
  rename_i f
  simp only [Option.bind_eq_some_iff, Option.map_eq_some_iff] at e
  obtain ⟨x, hx, y, hy, rfl⟩ := e
  refine .still hp hR (u := .func (.func f) (first.map a.eval) (caps.map a.eval)) ?_ (.fn f x y _ _ (by simpa using evalL_sound hT hx) (by simpa using evalL_sound hT hy))
  simp [execOp, ho, Instr.makeFunc]
theorem does_extract {x : Operand} {i : Nat} (ho : o.op = .extract x i) (hp : Part H R) (hR : Rel C K R w) (hT : TRel K w T a.tmps) (e : (evalA T x).bind (extractA i) = some v) : Does C H H K R w a o v := by
  simp only [Option.bind_eq_some_iff] at e
  obtain ⟨z, hz, e⟩ := e
  have hv := evalA_sound hT hz
  generalize hu : a.eval x = u at hv
  cases hv <;> simp only [extractA] at e <;> try (cases e)
  rename_i cs us h
  rw [nth_eq] at e
  obtain ⟨y, hy, hvy⟩ := h.get i v e
  refine .still hp hR (u := y) ?_ hvy
  have hy' : us[i]? = some y := by simpa using hy
  simp [execOp, ho, hu, Instr.extract, hy']
theorem does_makeMap {t : TypeId} {r : Option Operand} (ho : o.op = .makeMap t r) (hp : Part H R) (hR : Rel C K R w) (hf : Fresh H H' K) (hT : TRel K w T a.tmps) (e : mapO C.P T H t r = some (v, H')) : Does C H H' K R w a o v := by
  cases r with
  | none =>
    simp only [mapO] at e
    injection e with e
    injection e with e1 e2
    subst e1; subst e2
    refine ⟨.map (some w.heap.size), _, _, .inl ?_, Adv.newMap hR hp (hf _ (Nat.le_refl _) (Nat.lt_succ_self _)), .mp _ _ 0 (Know.put_self ..)⟩
    simp [execOp, ho, Instr.makeMap]
  | some q =>
    simp only [mapO, Bool.cond_eq_ite] at e
    split at e
    · rename_i hm
      have hu : ∃ k el, C.P.underlying t = some (.map k el) := by
        unfold isMapT at hm
        split at hm
        · exact ⟨_, _, ‹_›⟩
        · cases hm
      obtain ⟨k, el, hu⟩ := hu
      simp only [Option.bind_eq_some_iff] at e
      obtain ⟨y, hy, e⟩ := e
      have hv := evalA_sound hT hy
      split at e
      · injection e with e
        injection e with e1 e2
        subst e1; subst e2
        generalize hq : a.eval q = uq at hv
        cases hv
        refine ⟨.map (some w.heap.size), _, _, .inl ?_, Adv.newMap hR hp (hf _ (Nat.le_refl _) (Nat.lt_succ_self _)), .mp _ _ 0 (Know.put_self ..)⟩
        simp [execOp, ho, Instr.makeMap, hq, run_underlying hu, asInt, asIntOf]
      · cases e
    · cases e
end
end Go.AM
namespace Go.AM
open Go Go.RowKit
theorem addF_eq (a b : Int) : addF a b = a + b := by cases a <;> cases b <;> rfl
theorem eqF_eq (a b : Int) : eqF a b = (a == b) := by
  cases a <;> cases b <;> simp only [eqF] <;> rw [Bool.eq_iff_iff] <;> simp <;> omega
theorem leF_eq (a b : Int) : leF a b = decide (a ≤ b) := by
  rw [Bool.eq_iff_iff, decide_eq_true_eq]
  cases a <;> cases b <;> simp only [leF, Nat.ble_eq, Int.negSucc_eq, Int.ofNat_eq_natCast, Bool.false_eq_true, true_iff, false_iff] <;> omega
theorem wrap_i64 (n : Int) (h : -9223372036854775808 ≤ n) (h' : n ≤ 9223372036854775807) : IntKind.i64.wrap n = n := by
  simp [IntKind.wrap, IntKind.bits, IntKind.signed]; omega
theorem wrap_i32 (n : Int) (h : -2147483648 ≤ n) (h' : n ≤ 2147483647) : IntKind.i32.wrap n = n := by
  simp [IntKind.wrap, IntKind.bits, IntKind.signed]; omega
theorem wrap_u64 (n : Int) (h : 0 ≤ n) (h' : n ≤ 18446744073709551615) : IntKind.u64.wrap n = n := by
  simp [IntKind.wrap, IntKind.bits, IntKind.signed]; omega
theorem wrap_u8 (n : Int) (h : 0 ≤ n) (h' : n ≤ 255) : IntKind.u8.wrap n = n := by
  simp [IntKind.wrap, IntKind.bits, IntKind.signed]; omega
theorem wrapF_eq (k : IntKind) (n : Int) : wrapF k n = k.wrap n := by
  unfold wrapF
  split
  case h_7 => rfl
  case h_1 =>
    rename_i m
    rw [Bool.cond_eq_ite]
    split
    · rename_i hb
      rw [Nat.ble_eq] at hb
      exact (wrap_i64 _ (by simp only [Int.negSucc_eq, Int.ofNat_eq_natCast]; omega) (by simp only [Int.negSucc_eq, Int.ofNat_eq_natCast]; omega)).symm
    · rfl
  case h_2 =>
    rename_i m
    rw [Bool.cond_eq_ite]
    split
    · rename_i hb
      rw [Nat.ble_eq] at hb
      exact (wrap_i64 _ (by simp only [Int.negSucc_eq, Int.ofNat_eq_natCast]; omega) (by simp only [Int.negSucc_eq, Int.ofNat_eq_natCast]; omega)).symm
    · rfl
  case h_3 =>
    rename_i m
    rw [Bool.cond_eq_ite]
    split
    · rename_i hb
      rw [Nat.ble_eq] at hb
      exact (wrap_i32 _ (by simp only [Int.negSucc_eq, Int.ofNat_eq_natCast]; omega) (by simp only [Int.negSucc_eq, Int.ofNat_eq_natCast]; omega)).symm
    · rfl
  case h_4 =>
    rename_i m
    rw [Bool.cond_eq_ite]
    split
    · rename_i hb
      rw [Nat.ble_eq] at hb
      exact (wrap_i32 _ (by simp only [Int.negSucc_eq, Int.ofNat_eq_natCast]; omega) (by simp only [Int.negSucc_eq, Int.ofNat_eq_natCast]; omega)).symm
    · rfl
  case h_5 =>
    rename_i m
    rw [Bool.cond_eq_ite]
    split
    · rename_i hb
      rw [Nat.ble_eq] at hb
      exact (wrap_u64 _ (by simp only [Int.negSucc_eq, Int.ofNat_eq_natCast]; omega) (by simp only [Int.negSucc_eq, Int.ofNat_eq_natCast]; omega)).symm
    · rfl
  case h_6 =>
    rename_i m
    rw [Bool.cond_eq_ite]
    split
    · rename_i hb
      rw [Nat.ble_eq] at hb
      exact (wrap_u8 _ (by simp only [Int.negSucc_eq, Int.ofNat_eq_natCast]; omega) (by simp only [Int.negSucc_eq, Int.ofNat_eq_natCast]; omega)).symm
    · rfl
theorem kindEq_eq (j k : IntKind) : kindEq j k = true ↔ j = k := by simp [kindEq]
theorem eqGuard_run (P : Program) (op : BinOp) (t : TypeId) (x y : Operand) (u v : Value) (w : World) (h1 : ¬ (u = .nilIface ∧ v = .nilIface)) (h2 : ¬ ((∃ c, u = .agg c) ∧ ∃ c, v = .agg c)) : (eqGuard op t x y u v).run P w = .ok () w := by
  unfold eqGuard
  cases op <;> first
    | rfl
    | (cases u <;> cases v <;> first | rfl | exact absurd ⟨rfl, rfl⟩ h1 | exact absurd ⟨⟨_, rfl⟩, ⟨_, rfl⟩⟩ h2)
theorem intOp_run {P : Program} {op : BinOp} {k k' : IntKind} {x y : Int} {v : AV} {t : TypeId} {w : World} (h : intOp op k x y = some v) (hk : isShift op = true ∨ k = k') :
    ∃ u, (binOp op t (.int k x) (.int k' y)).run P w = .ok u w ∧ ∀ K w, V K w v u := by
  cases op <;> simp only [intOp, divA, remA, bitA, shlA, shrA, eqF_eq, leF_eq, wrapF_eq, addF_eq, Bool.cond_eq_ite, isShift, Bool.false_eq_true, false_or, true_or] at h hk
  case shl | shr =>
    split at h
    · rename_i hy
      have hy' : ¬ y < 0 := by simpa using hy
      injection h with h; subst h
      exact ⟨_, by simp [binOp, Op.shift, hy'], fun _ _ => .int ..⟩
    · cases h
  case quo | rem =>
    subst hk
    split at h
    · cases h
    · rename_i hy
      have hy' : ¬ y = 0 := by simpa using hy
      injection h with h; subst h
      exact ⟨_, by simp [binOp, Op.intDiv, hy'], fun _ _ => .int ..⟩
  case add | sub | mul =>
    subst hk
    injection h with h
    subst h
    exact ⟨_, by simp only [binOp, ne_eq, not_true_eq_false, if_false, Op.intArith]; rfl, fun _ _ => .int ..⟩
  case and | or | xor | andNot =>
    subst hk
    injection h with h
    subst h
    exact ⟨_, by simp only [binOp, ne_eq, not_true_eq_false, if_false, Op.intBits]; rfl, fun _ _ => .int ..⟩
  case eql | neq =>
    subst hk
    injection h with h
    subst h
    exact ⟨_, by simp only [binOp, ne_eq, not_true_eq_false, if_false, Op.intCmp]; rfl, fun _ _ => .bool _⟩
  case lss | leq | gtr | geq =>
    subst hk
    injection h with h
    subst h
    refine ⟨_, by simp only [binOp, ne_eq, not_true_eq_false, if_false, Op.intCmp]; rfl, fun K w => ?_⟩
    first
      | exact .bool _
      | (rw [show (!decide (y ≤ x)) = decide (x < y) from by rw [Bool.eq_iff_iff]; simp]; exact .bool _)
      | (rw [show (!decide (x ≤ y)) = decide (x > y) from by rw [Bool.eq_iff_iff]; simp]; exact .bool _)
theorem strOp_run {P : Program} {op : BinOp} {x y : ByteArray} {v : AV} {t : TypeId} {w : World} (h : strOp op x y = some v) : ∃ u, (binOp op t (.string x) (.string y)).run P w = .ok u w ∧ ∀ K w, V K w v u := by
  cases op <;> simp only [strOp, Bool.cond_eq_ite] at h <;> try (cases h)
  case add =>
    split at h
    · rename_i hs
      have hs' := Nat.le_of_ble_eq_true hs
      injection h with h; subst h
      refine ⟨_, ?_, fun _ _ => .str _⟩
      have : ¬ (((x.size + y.size : Nat) : Int) > IntKind.i64.max) := by
        simp only [IntKind.max, IntKind.signed, IntKind.bits]
        simp
        omega
      simp only [binOp, Op.stringOp, Sem.run_ite, if_neg this, Sem.run_pure]
    · cases h
  all_goals exact ⟨_, by simp [binOp, Op.stringOp], fun _ _ => .bool _⟩
theorem eqOp_some {op : BinOp} {r : Option Bool} {v : AV} (h : eqOp op r = some v) : ∃ b, r = some b ∧ ((op = .eql ∧ v = .bool b) ∨ (op = .neq ∧ v = .bool !b)) := by
  cases op <;> simp only [eqOp, Option.map_eq_some_iff] at h <;> try (cases h)
  · rename_i b hb; exact ⟨b, hb.1, .inl ⟨rfl, hb.2.symm⟩⟩
  · rename_i b hb; exact ⟨b, hb.1, .inr ⟨rfl, hb.2.symm⟩⟩
def plainPair : Value → Value → Bool
  | .int _ _, .int _ _ => false
  | .float _ _, .float _ _ => false
  | .complex _ _ _, .complex _ _ _ => false
  | .string _, .string _ => false
  | _, _ => true
theorem binOp_eq_run {P : Program} {op : BinOp} {t : TypeId} {x y : Value} {b : Bool} {v : AV} {w : World} (hpl : plainPair x y = true) (he : (Op.equal t x y).run P w = .ok b w) (ho : (op = .eql ∧ v = .bool b) ∨ (op = .neq ∧ v = .bool !b)) :
    ∃ u, (binOp op t x y).run P w = .ok u w ∧ ∀ K w, V K w v u := by
  rcases ho with ⟨rfl, rfl⟩ | ⟨rfl, rfl⟩
  · refine ⟨.bool b, ?_, fun _ _ => .bool b⟩
    cases x <;> cases y <;> first | (simp [plainPair] at hpl; done) | simp [binOp, he]
  · refine ⟨.bool !b, ?_, fun _ _ => .bool _⟩
    cases x <;> cases y <;> first | (simp [plainPair] at hpl; done) | simp [binOp, he]
theorem equal_unfold (t : TypeId) (x y : Value) : Op.equal t x y = Op.equalIn (9999 + 1) t x y := rfl
theorem eqD_run {P : Program} {t : TypeId} {d : TypeDesc} {K : Know} {w : World} {x y : AV} {u v : Value} {b : Bool} (hd : P.underlying t = some d) (hx : V K w x u) (hy : V K w y v) (h : eqD d x y = some b) :
    (Op.equal t u v).run P w = .ok b w ∧ plainPair u v = true ∧ ¬ ((∃ c, u = .agg c) ∧ ∃ c, v = .agg c) ∧ (u = .nilIface → v = .nilIface → ∃ ms, d = .interface ms ∧ ms.isEmpty = true) := by
  unfold eqD at h
  split at h <;> (try (cases h; done)) <;> cases hx <;> cases hy <;> (try (injection h with h; subst h))
  all_goals (try simp only [Bool.cond_eq_ite] at h)
  all_goals (try (split at h <;> (try (cases h; done)) <;> injection h with h <;> subst h))
  all_goals
    refine ⟨?_, rfl, (by rintro ⟨⟨_, h⟩, _⟩; cases h), ?_⟩
    · rw [equal_unfold]
      generalize 9999 = n
      first
        | (simp [Op.equalIn, run_underlying hd]; done)
        | (rename_i hn _ _
           have hs := hn (Nat.succ_pos _)
           obtain ⟨q, rfl⟩ := Option.isSome_iff_exists.1 hs
           simp [Op.equalIn, run_underlying hd])
    · intro h1 h2
      first | (cases h1; done) | (cases h2; done) | exact ⟨_, rfl, ‹_›⟩
end Go.AM
namespace Go.AM
open Go Go.RowKit
theorem keyTy_some {P : Program} {t : TypeId} {d : TypeDesc} (h : keyTy P t = some d) : P.underlying t = some d ∧ keyD d = true := by
  simp only [keyTy, Option.bind_eq_some_iff, Bool.cond_eq_ite] at h
  obtain ⟨x, hx, h⟩ := h
  split at h
  · injection h with h; subst h; exact ⟨hx, ‹_›⟩
  · cases h
theorem eqKey_ok {P : Program} {t : TypeId} {d : TypeDesc} {K : Know} {w : World} {x y : AV} {u v : Value} {b : Bool} (n : Nat) (hd : P.underlying t = some d) (hk : keyFits d x = true) (hx : V K w x u) (hy : V K w y v) (h : eqKey x y = some b) (W : World) :
    (Op.equalIn (n + 1) t u v).run P W = .ok b W := by
  unfold eqKey at h
  split at h <;> (try (cases h; done)) <;> cases hx <;> cases hy
  · rw [Bool.cond_eq_ite] at h
    split at h
    · rename_i hj
      rw [kindEq_eq] at hj
      subst hj
      injection h with h
      subst h
      rw [eqF_eq]
      cases d <;> simp [keyFits] at hk
      simp [Op.equalIn, run_underlying hd]
    · cases h
  · injection h with h
    subst h
    cases d <;> simp [keyFits] at hk
    simp [Op.equalIn, run_underlying hd]
  · injection h with h
    subst h
    cases d <;> simp [keyFits] at hk
    simp [Op.equalIn, run_underlying hd]
theorem keyFits_one {d : TypeDesc} {x : AV} (h : keyFits d x = true) : x.cells = [x] := by cases x <;> cases d <;> first | rfl | (simp [keyFits] at h; done)
theorem part_key {P : Program} {t : TypeId} {d : TypeDesc} (hd : P.underlying t = some d) (hk : keyD d = true) (xs : Array Value) (i : Nat) (u : Value) (h : xs[i]? = some u) (W : World) : (part t xs i).run P W = .ok u W := by
  have ha : (isAgg t).run P W = .ok false W := isAggT_run (by simp [isAggT, hd]; cases d <;> simp [keyD] at hk <;> rfl) W
  simp only [part, Sem.run_bind, ha, Result.andThen_ok, Bool.false_eq_true, if_false, h, Sem.run_pure]
theorem eqFields_ok {P : Program} {K : Know} {w : World} (n : Nat) (xs ys : Array Value) : ∀ (fs : List Field) (i : Nat) (ds : List TypeDesc) (as_ bs : List AV) (b : Bool),
    flatDescs P i fs = some ds → VL K w as_ (xs.toList.drop i) → VL K w bs (ys.toList.drop i) → eqKeys ds as_ bs = some b → ∀ W, (Op.eqFields (n + 1) xs ys fs).run P W = .ok b W
  | [], i, ds, as_, bs, b, hd, hx, hy, he, W => by
    simp only [flatDescs] at hd
    injection hd with hd
    subst hd
    cases as_ <;> cases bs <;> simp [eqKeys] at he
    subst he
    simp [Op.eqFields]
  | f :: fs, i, ds, as_, bs, b, hd, hx, hy, he, W => by
    simp only [flatDescs, Bool.cond_eq_ite] at hd
    split at hd
    · rename_i hf
      simp only [Bool.and_eq_true, bne_iff_ne, ne_eq] at hf
      obtain ⟨hi, hname⟩ := hf
      have hi : f.offset = i := Nat.eq_of_beq_eq_true hi
      simp only [Option.bind_eq_some_iff, Option.map_eq_some_iff] at hd
      obtain ⟨d, hkt, ds', hds, rfl⟩ := hd
      obtain ⟨hu, hkd⟩ := keyTy_some hkt
      cases as_ with
      | nil => simp [eqKeys] at he
      | cons x as_ =>
      cases bs with
      | nil => simp [eqKeys] at he
      | cons y bs =>
      simp only [eqKeys, Bool.cond_eq_ite] at he
      split at he
      · rename_i hfit
        obtain ⟨u, hu0, hvu⟩ := hx.get 0 x rfl
        obtain ⟨v, hv0, hvv⟩ := hy.get 0 y rfl
        have hux : xs[i]? = some u := by simpa using hu0
        have hvy : ys[i]? = some v := by simpa using hv0
        have ha := part_key hu hkd xs i u hux W
        have hb := part_key hu hkd ys i v hvy W
        simp only [Op.eqFields, hname, ne_eq, not_false_eq_true, if_true, Sem.run_bind, hi, ha, hb, Result.andThen_ok]
        have hx1 : VL K w as_ (xs.toList.drop (i + 1)) := by have := hx.drop 1; simpa [List.drop_drop] using this
        have hy1 : VL K w bs (ys.toList.drop (i + 1)) := by have := hy.drop 1; simpa [List.drop_drop] using this
        split at he
        · rename_i hk
          rw [eqKey_ok n hu hfit hvu hvv hk W]
          simp only [Result.andThen_ok, Bool.not_true, Bool.false_eq_true, if_false]
          exact eqFields_ok n xs ys fs (i + 1) ds' as_ bs b hds hx1 hy1 he W
        · rename_i hk
          rw [eqKey_ok n hu hfit hvu hvv hk W]
          injection he with he
          subst he
          simp
        · cases he
      · cases he
    · cases hd
theorem flatStruct_some {P : Program} {t : TypeId} {ds : List TypeDesc} (h : flatStruct P t = some ds) :
    P.underlying t = some (.struct (P.fieldsOf t)) ∧ P.eqGuardType P.depth t = false ∧ P.stoodInHeld t = false ∧ flatDescs P 0 (P.fieldsOf t).toList = some ds := by
  unfold flatStruct at h
  split at h
  · rename_i fs hu
    have hfs : P.fieldsOf t = fs := by simp [Program.fieldsOf, hu]
    rw [hfs]
    rw [Bool.cond_eq_ite] at h
    split at h
    · cases h
    · rename_i hc
      simp only [Bool.or_eq_true, not_or, Bool.not_eq_true] at hc
      exact ⟨hu, hc.1, hc.2, h⟩
  · cases h
section
variable {C : Ctx} {H H' : Heap} {K : Know} {R : Rows} {w : World} {a : Act} {o : Oper} {T : Tmps} {v : AV}
theorem does_binOp {op : BinOp} {t t2 : TypeId} {x y : Operand} (ho : o.op = .binOp op t x y t2) (hp : Part H R) (hR : Rel C K R w) (hT : TRel K w T a.tmps) (e : binO C.P T op t x y = some v) : Does C H H K R w a o v := by
  simp only [binO, Option.bind_eq_some_iff] at e
  obtain ⟨p, hpx, q, hqy, e⟩ := e
  have hx := evalA_sound hT hpx
  have hy := evalA_sound hT hqy
  have done : ∀ u, (eqGuard op t x y (a.eval x) (a.eval y)).run C.P w = .ok () w → (binOp op t (a.eval x) (a.eval y)).run C.P w = .ok u w → (∀ K w, V K w v u) → Does C H H K R w a o v := by
    intro u h1 h2 h3
    refine .still hp hR (u := u) ?_ (h3 K w)
    simp [execOp, ho, h1, h2]
  generalize hu : a.eval x = u at hx done
  generalize hw : a.eval y = z at hy done
  unfold binA at e
  split at e
  · cases hx; cases hy
    rw [Bool.cond_eq_ite] at e
    split at e
    · rename_i hc
      obtain ⟨r, hr, hv⟩ := intOp_run (P := C.P) (t := t) (w := w) e (by simpa [kindEq_eq] using hc)
      exact done r (eqGuard_run _ _ _ _ _ _ _ _ (by rintro ⟨h, _⟩; cases h) (by rintro ⟨⟨_, h⟩, _⟩; cases h)) hr hv
    · cases e
  · cases hx; cases hy
    obtain ⟨r, hr, hv⟩ := strOp_run (P := C.P) (t := t) (w := w) e
    exact done r (eqGuard_run _ _ _ _ _ _ _ _ (by rintro ⟨h, _⟩; cases h) (by rintro ⟨⟨_, h⟩, _⟩; cases h)) hr hv
  · cases hx; cases hy
    simp only [Option.bind_eq_some_iff] at e
    obtain ⟨ds, hds, e⟩ := e
    obtain ⟨b, hb, hop⟩ := eqOp_some e
    obtain ⟨hun, hg, hsi, hfl⟩ := flatStruct_some hds
    rename_i xs ys us hx vs hy
    have heq : (Op.equal t (.agg us) (.agg vs)).run C.P w = .ok b w := by
      rw [equal_unfold, run_equalIn_struct _ _ _ _ _ hun hsi]
      exact eqFields_ok 9998 us vs _ 0 ds xs ys b hfl (by simpa using hx) (by simpa using hy) hb w
    obtain ⟨r, hr, hv⟩ := binOp_eq_run (x := .agg us) (y := .agg vs) rfl heq hop
    exact done r (run_eqGuard_agg w op t x y us vs hg) hr hv
  · simp only [Option.bind_eq_some_iff] at e
    obtain ⟨d, hd, e⟩ := e
    obtain ⟨b, hb, hop⟩ := eqOp_some e
    obtain ⟨h1, h2, h3, h4⟩ := eqD_run hd hx hy hb
    obtain ⟨r, hr, hv⟩ := binOp_eq_run h2 h1 hop
    refine done r ?_ hr hv
    by_cases hnn : u = .nilIface ∧ z = .nilIface
    · obtain ⟨rfl, rfl⟩ := hnn
      obtain ⟨ms, rfl, hms⟩ := h4 rfl rfl
      have hin : (Op.eqGuardIn Op.maxDepth t .nilIface .nilIface).run C.P w = .ok false w := by
        show (Op.eqGuardIn (9999 + 1) t .nilIface .nilIface).run C.P w = .ok false w
        generalize 9999 = n
        simp [Op.eqGuardIn, run_underlying hd, hms]
      rcases hop with ⟨rfl, _⟩ | ⟨rfl, _⟩ <;> simp [eqGuard, hin]
    · exact eqGuard_run _ _ _ _ _ _ _ _ hnn h3
theorem does_unOp {op : UnOp} {t : TypeId} {x : Operand} (ho : o.op = .unOp op t x) (hp : Part H R) (hR : Rel C K R w) (hT : TRel K w T a.tmps) (e : (evalA T x).bind (unA op) = some v) : Does C H H K R w a o v := by
  simp only [Option.bind_eq_some_iff] at e
  obtain ⟨p, hpx, e⟩ := e
  have hx := evalA_sound hT hpx
  generalize hu : a.eval x = u at hx
  unfold unA at e
  split at e <;> (try (cases e; done)) <;> cases hx
  · simp only [intOp, wrapF_eq] at e
    injection e with e; subst e
    exact .still hp hR (u := _) (by simp only [execOp, ho, hu, Op.unary, Op.intArith]; rfl) (.int _ _)
  · simp only [intOp, bitA, wrapF_eq] at e
    injection e with e; subst e
    exact .still hp hR (u := _) (by simp only [execOp, ho, hu, Op.unary, Op.intBits]; rfl) (.int _ _)
  · injection e with e; subst e
    exact .still hp hR (u := _) (by simp only [execOp, ho, hu, Op.unary]; rfl) (.bool _)
end
end Go.AM
namespace Go.AM
open Go Go.RowKit
theorem addr_add (b o j : Nat) : (⟨b, o, none⟩ : Addr).add j = ⟨b, o + j, none⟩ := by unfold Addr.add; split <;> simp_all
theorem cells_of_heap {w : World} {b base o n L : Nat} {c : Array Value} {el : TypeId} {fr : Nat × Nat} (hh : w.heap[b]? = some (.cells c el fr)) : CellsFrom w b (base + o) ((((c.toList.drop base).take L).drop o).take n) := by
  intro j u hu
  simp only [List.getElem?_take, List.getElem?_drop] at hu
  split at hu
  · split at hu
    · have hu' : c[base + (o + j)]? = some u := by simpa using hu
      simp only [World.cell?, hh]
      rw [show base + o + j = base + (o + j) by omega]
      simpa using hu'
    · cases hu
  · cases hu
theorem row_some {H : Heap} {r : Nat} {cs : List AV} (h : H.row r = some cs) : H.get r = some (.row cs) := by
  unfold Heap.row at h
  split at h
  · injection h with h; subst h; assumption
  · cases h
section
variable {C : Ctx} {H H' : Heap} {K : Know} {R : Rows} {w : World} {a : Act} {o : Oper} {T : Tmps} {v : AV}
theorem cellsAt_sound (hp : Part H R) (hR : Rel C K R w) {n : Nat} {p : AV} {u : Value} {cs : List AV} (h : cellsAt C.G H n p = some cs) (hv : V K w p u) :
    ∃ b o us, u = .pointer (some ⟨b, o, none⟩) ∧ CellsFrom w b o us ∧ us.length = n ∧ VL K w cs us := by
  cases hv <;> simp only [cellsAt] at h <;> try (cases h; done)
  · rename_i r o b base hb
    simp only [Option.bind_eq_some_iff] at h
    obtain ⟨row, hrow, hwin⟩ := h
    obtain ⟨b', base', c, el, fr, h1, h2, h3, h4, h5, h6, h7⟩ := hR.row r row (hp _ _ (row_some hrow))
    rw [hb] at h1
    injection h1 with h1
    injection h1 with h1 h1'
    subst h1; subst h1'
    have hl := (window_eq hwin).2
    refine ⟨b, base + o, _, rfl, cells_of_heap (L := row.length) (n := n) h4, ?_, h7.window hwin⟩
    simp only [List.length_take, List.length_drop, Array.length_toList]
    omega
  · rename_i g o
    simp only [Option.bind_eq_some_iff] at h
    obtain ⟨row, hrow, hwin⟩ := h
    obtain ⟨hs, us, hc, hv⟩ := hR.glob g row hrow
    have hl := (window_eq hwin).2
    refine ⟨g, o, (us.drop o).take n, rfl, ?_, ?_, hv.window hwin⟩
    · intro j x hx
      simp only [List.getElem?_take, List.getElem?_drop] at hx
      split at hx
      · have := hc (o + j) x hx
        rwa [Nat.zero_add] at this
      · cases hx
    · simp only [List.length_take, List.length_drop, hv.length]; omega
  · rename_i cs' b o us hs hc hv
    have hl := (window_eq h).2
    refine ⟨b, o, us.take n, rfl, ?_, ?_, by simpa using hv.window h⟩
    · intro j x hx
      simp only [List.getElem?_take] at hx
      split at hx
      · exact hc j x hx
      · cases hx
    · simp only [List.length_take, hv.length]; omega
theorem loadA_sound (hp : Part H R) (hR : Rel C K R w) {t : TypeId} {p : AV} {u : Value} (h : loadA C.P C.G H t p = some v) (hv : V K w p u) :
    ∃ b o x, u = .pointer (some ⟨b, o, none⟩) ∧ (loadVar t ⟨b, o, none⟩).run C.P w = .ok x w ∧ V K w v x := by
  simp only [loadA, Option.bind_eq_some_iff] at h
  obtain ⟨ag, hag, n, hn, cs, hcs, h⟩ := h
  obtain ⟨b, off, us, rfl, hc, hl, hvl⟩ := cellsAt_sound hp hR hcs hv
  have hld := run_loadCells_list (P := C.P) w ⟨b, off, none⟩ us (fun j x hx => by rw [addr_add]; exact hc j x hx)
  rw [hl] at hld
  cases ag with
  | true =>
    simp only [wrapVal, cond_true] at h
    injection h with h
    subst h
    refine ⟨b, off, .agg us.toArray, rfl, ?_, .agg cs _ (by simpa using hvl)⟩
    simp only [loadVar, Sem.run_bind, isAggT_run hag, sizeT_run hn, Result.andThen_ok, if_true, hld, Sem.run_pure]
  | false =>
    simp only [wrapVal, cond_false] at h
    split at h
    · injection h with h
      subst h
      rename_i x
      obtain ⟨y, hy, hvy⟩ := hvl.get 0 x rfl
      refine ⟨b, off, y, rfl, ?_, hvy⟩
      have := hc 0 y hy
      rw [Nat.add_zero] at this
      simp only [loadVar, Sem.run_bind, isAggT_run hag, Result.andThen_ok, Bool.false_eq_true, if_false, run_load, this]
    · cases h
theorem does_load {t : TypeId} {x : Operand} (ho : o.op = .load t x) (hp : Part H R) (hR : Rel C K R w) (hT : TRel K w T a.tmps) (e : loadO C.P C.G T H t x = some v) : Does C H H K R w a o v := by
  simp only [loadO, Option.bind_eq_some_iff] at e
  obtain ⟨p, hpx, e⟩ := e
  obtain ⟨b, off, y, hu, hrun, hv⟩ := loadA_sound hp hR e (evalA_sound hT hpx)
  exact .still hp hR (u := y) (by simp [execOp, ho, hu, Instr.loadAt, Instr.sureAddr, hrun]) hv
theorem moveP_sound {K : Know} {w : World} {off : Nat} {p : AV} {u : Value} (h : moveP off p = some v) (hv : V K w p u) : ∃ b o, u = .pointer (some ⟨b, o, none⟩) ∧ V K w v (.pointer (some ⟨b, o + off, none⟩)) := by
  cases hv <;> simp only [moveP] at h <;> try (cases h; done)
  · injection h with h; subst h
    rename_i r o b base hb
    exact ⟨b, base + o, rfl, by rw [Nat.add_assoc]; exact .ptr r (o + off) b base hb⟩
  · injection h with h; subst h
    exact ⟨_, _, rfl, .gptr _ _⟩
  · injection h with h; subst h
    rename_i cs b o us hs hc hv
    refine ⟨b, o, rfl, ?_⟩
    rw [dropN_eq]
    refine .dptr _ b (o + off) (us.drop off) hs (fun j x hx => ?_) (hv.drop off)
    have := hc (off + j) x (by simpa using hx)
    rwa [← Nat.add_assoc] at this
theorem does_fieldAddr {t : TypeId} {x : Operand} {f : Nat} (ho : o.op = .fieldAddr t x f) (hp : Part H R) (hR : Rel C K R w) (hT : TRel K w T a.tmps) (e : (evalA T x).bind (fieldAddrA C.P t f) = some v) : Does C H H K R w a o v := by
  simp only [Option.bind_eq_some_iff] at e
  obtain ⟨p, hpx, e⟩ := e
  unfold fieldAddrA at e
  split at e
  · rename_i fs hu
    simp only [Option.bind_eq_some_iff, Bool.cond_eq_ite] at e
    obtain ⟨fd, hfd, s, hs, e⟩ := e
    split at e
    · cases e
    · rename_i hne
      have hne' : ¬ s = 0 := fun h => hne (by rw [h]; rfl)
      obtain ⟨b, off, hu2, hv⟩ := moveP_sound e (evalA_sound hT hpx)
      exact .still hp hR (u := .pointer (some ⟨b, off + fd.offset, none⟩)) (by simp [execOp, ho, hu2, Instr.fieldAt, run_underlying hu, hfd, Instr.sureAddr, fieldPlace, sizeT_run hs, hne', addr_add]) hv
  · cases e
theorem partA_sound {K : Know} {t : TypeId} {cs : List AV} {us : Array Value} {off : Nat} (h : partA C.P t cs off = some v) (hv : VL K w cs us.toList) : ∃ x, (part t us off).run C.P w = .ok x w ∧ V K w v x := by
  simp only [partA, Option.bind_eq_some_iff, Bool.cond_eq_ite] at h
  obtain ⟨ag, hag, h⟩ := h
  cases ag with
  | true =>
    simp only [if_true, Option.bind_eq_some_iff, Option.map_eq_some_iff] at h
    obtain ⟨n, hn, xs, hxs, rfl⟩ := h
    refine ⟨.agg (us.extract off (off + n)), ?_, .agg xs _ ?_⟩
    · simp only [part, Sem.run_bind, isAggT_run hag, sizeT_run hn, Result.andThen_ok, if_true, Sem.run_pure]
    · have := hv.window hxs
      rw [Array.toList_extract]
      rw [List.extract_eq_take_drop]
      simpa using this
  | false =>
    simp only [Bool.false_eq_true, if_false, nth_eq] at h
    obtain ⟨y, hy, hvy⟩ := hv.get off v h
    have hy' : us[off]? = some y := by simpa using hy
    exact ⟨y, by simp only [part, Sem.run_bind, isAggT_run hag, Result.andThen_ok, Bool.false_eq_true, if_false, hy', Sem.run_pure], hvy⟩
theorem does_field {t : TypeId} {x : Operand} {f : Nat} (ho : o.op = .field t x f) (hp : Part H R) (hR : Rel C K R w) (hT : TRel K w T a.tmps) (e : (evalA T x).bind (fieldA C.P t f) = some v) : Does C H H K R w a o v := by
  simp only [Option.bind_eq_some_iff] at e
  obtain ⟨p, hpx, e⟩ := e
  have hx := evalA_sound hT hpx
  generalize hu2 : a.eval x = u at hx
  unfold fieldA at e
  split at e
  · rename_i fs hu
    simp only [Option.bind_eq_some_iff] at e
    obtain ⟨fd, hfd, e⟩ := e
    cases hx <;> simp only at e <;> try (cases e; done)
    rename_i cs us hv
    obtain ⟨y, hy, hvy⟩ := partA_sound e hv
    exact .still hp hR (u := y) (by simp [execOp, ho, hu2, Instr.field, run_underlying hu, hfd, asAgg, hy]) hvy
  · cases e
theorem natA_some {x : AV} {n : Nat} (h : natA x = some n) : ∃ k, x = .int k (.ofNat n) := by
  cases x <;> simp only [natA] at h <;> try (cases h; done)
  rename_i k i
  cases i <;> simp only at h
  · injection h with h; subst h; exact ⟨k, rfl⟩
  · cases h
theorem natA_value {K : Know} {x : AV} {n : Nat} {u : Value} (h : natA x = some n) (hv : V K w x u) : ∃ k, u = .int k (n : Int) := by
  obtain ⟨k, rfl⟩ := natA_some h
  cases hv
  exact ⟨k, rfl⟩
theorem V.ds_inv {K : Know} {len : Nat} {cs : List AV} {cap : Option Nat} {u : Value} (h : V K w (.ds len cs cap) u) : ∃ ad us c, u = .slice ad len c ∧ len ≤ c ∧ (∀ k, cap = some k → c = k) ∧ (0 < len → ad.isSome = true) ∧
    (us ≠ [] → ∃ b o, ad = some ⟨b, o, none⟩ ∧ K.S b ∧ CellsFrom w b o us) ∧ VL K w cs us := by
  cases h with
  | ds _ _ _ ad us c hl hc hn hr hv => exact ⟨ad, us, c, rfl, hl, hc, hn, hr, hv⟩
theorem V.sl_inv {K : Know} {r o len esz : Nat} {cap : Option Nat} {u : Value} (h : V K w (.sl r o len esz cap) u) : ∃ b base c, u = .slice (some ⟨b, base + o, none⟩) len c ∧ K.β r = some (b, base) ∧ len ≤ c ∧ (∀ k, cap = some k → c = k) ∧ Room w b (base + o + c * esz) := by
  cases h with
  | sl _ _ _ _ _ b base c h hl hc room => exact ⟨b, base, c, rfl, h, hl, hc, room⟩
theorem elemPtr_sound {K : Know} {i s : Nat} {p : AV} {u : Value} (h : elemPtr i s p = some v) (hv : V K w p u) : ∃ b o len c, u = .slice (some ⟨b, o, none⟩) len c ∧ i < len ∧ V K w v (.pointer (some ⟨b, o + i * s, none⟩)) := by
  unfold elemPtr at h
  split at h <;> (try (cases h; done))
  · rename_i r off n e cap
    obtain ⟨b, base, c, rfl, hb, hl, hc, room⟩ := hv.sl_inv
    rw [Bool.cond_eq_ite] at h
    split at h
    · rename_i hi
      simp only [Bool.and_eq_true, Nat.blt_eq] at hi
      injection h with h; subst h
      exact ⟨b, base + off, n, c, rfl, hi.2, by rw [Nat.add_assoc]; exact .ptr r (off + i * s) b base hb⟩
    · cases h
  · rename_i n x cs cap
    obtain ⟨ad, us, c, rfl, hl, hc, hn, hr, hvl⟩ := hv.ds_inv
    rw [Bool.cond_eq_ite] at h
    split at h
    · rename_i hi
      rw [Nat.blt_eq] at hi
      injection h with h; subst h
      have hne : us ≠ [] := by
        intro he
        subst he
        cases hvl
      obtain ⟨b, off, rfl, hs, hcc⟩ := hr hne
      refine ⟨b, off, n, c, rfl, hi, ?_⟩
      rw [dropN_eq]
      refine .dptr _ b _ (us.drop (i * s)) hs (fun j x hx => ?_) (hvl.drop _)
      have := hcc (i * s + j) x (by simpa using hx)
      rwa [← Nat.add_assoc] at this
    · cases h
theorem does_indexAddr {t : TypeId} {x ix : Operand} (ho : o.op = .indexAddr t x ix) (hp : Part H R) (hR : Rel C K R w) (hT : TRel K w T a.tmps) (e : idxAddrO C.P T t x ix = some v) : Does C H H K R w a o v := by
  simp only [idxAddrO, indexAddrA, Option.bind_eq_some_iff] at e
  obtain ⟨p, hpx, q, hqx, i, hi, e⟩ := e
  obtain ⟨k, hui⟩ := natA_value hi (evalA_sound hT hqx)
  have hx := evalA_sound hT hpx
  split at e
  · rename_i el hu
    simp only [Option.bind_eq_some_iff] at e
    obtain ⟨s, hs, e⟩ := e
    obtain ⟨b, off, len, c, hu2, hlt, hv⟩ := elemPtr_sound e hx
    refine .still hp hR (u := .pointer (some ⟨b, off + i * s, none⟩)) ?_ hv
    have h1 : (0 : Int) ≤ (i : Int) ∧ (i : Int) < (len : Int) := by omega
    simp [execOp, ho, hu2, hui, Instr.indexAt, asIntOf, run_underlying hu, h1, sizeT_run hs, addr_add, hlt]
  · rename_i n el hu
    simp only [Option.bind_eq_some_iff, Bool.cond_eq_ite] at e
    obtain ⟨s, hs, e⟩ := e
    split at e
    · rename_i hlt
      rw [Nat.blt_eq] at hlt
      obtain ⟨b, off, hu2, hv⟩ := moveP_sound e hx
      refine .still hp hR (u := .pointer (some ⟨b, off + i * s, none⟩)) ?_ hv
      simp [execOp, ho, hu2, hui, Instr.indexAt, asIntOf, run_underlying hu, sizeT_run hs, addr_add, hlt, Instr.sureAddr]
    · cases e
  · cases e
theorem does_index {t : TypeId} {x ix : Operand} (ho : o.op = .index t x ix) (hp : Part H R) (hR : Rel C K R w) (hT : TRel K w T a.tmps) (e : idxO C.P T t x ix = some v) : Does C H H K R w a o v := by
  simp only [idxO, indexA, Option.bind_eq_some_iff] at e
  obtain ⟨p, hpx, q, hqx, i, hi, e⟩ := e
  obtain ⟨k, hui⟩ := natA_value hi (evalA_sound hT hqx)
  have hx := evalA_sound hT hpx
  generalize hu2 : a.eval x = u at hx
  split at e
  · rename_i hu
    split at e
    · cases hx
      rename_i s
      unfold byteAt at e
      split at e
      · rename_i bt hbt
        injection e with e
        subst e
        exact .still hp hR (u := .int .u8 bt.toNat) (by simp [execOp, ho, hu2, hui, Instr.index, asIntOf, run_underlying hu, hbt]) (.int _ _)
      · cases e
    · cases e
  · rename_i n el hu
    split at e
    · simp only [Option.bind_eq_some_iff, Bool.cond_eq_ite] at e
      obtain ⟨s, hs, e⟩ := e
      split at e
      · rename_i hlt
        rw [Nat.blt_eq] at hlt
        cases hx
        rename_i cs us hv
        obtain ⟨y, hy, hvy⟩ := partA_sound e hv
        exact .still hp hR (u := y) (by simp [execOp, ho, hu2, hui, Instr.index, asIntOf, run_underlying hu, hlt, sizeT_run hs, hy]) hvy
      · cases e
    · cases e
  · cases e
end
end Go.AM
namespace Go.AM
open Go Go.RowKit
theorem Unfrozen.not {fr : Nat × Nat} {n i : Nat} (h : Unfrozen fr n) (hi : i < n) : ¬ (fr.1 ≤ i ∧ i < fr.2) := by
  rcases h with rfl | rfl <;> simp <;> omega
theorem run_storeCells_U (P : Program) (g o : Nat) (t : TypeId) (fz : Nat × Nat) : ∀ (vs : List Value) (i : Nat) (cur : Array Value) (w : World), w.heap[g]? = some (.cells cur t fz) → Unfrozen fz cur.size → o + i + vs.length ≤ cur.size → (∀ v ∈ vs, v.oneCell' = true) →
    (storeCells ⟨g, o, none⟩ vs i).run P w = .ok () (w.setRow g (cur.toList.take (o + i) ++ vs ++ cur.toList.drop (o + i + vs.length)).toArray)
  | [], i, cur, w, hg, _, _, _ => by
    simp only [storeCells, List.append_nil, List.length_nil, Nat.add_zero, List.take_append_drop, Array.toArray_toList]
    rw [setRow_self w g cur t fz hg]
    rfl
  | v :: rest, i, cur, w, hg, hfz, hl, h1 => by
    have hi : o + i < cur.size := by simp at hl; omega
    have hcell : w.cell? ⟨g, o + i, none⟩ = some cur[o + i] := by simp [World.cell?, hg, hi]
    have hfro : w.frozen? ⟨g, o + i, none⟩ = false := by
      have := hfz.not hi
      obtain ⟨lo, hi'⟩ := fz
      simp only [World.frozen?, hg, Bool.and_eq_false_iff, decide_eq_false_iff_not]
      simp only at this
      omega
    have hst : (store ((⟨g, o, none⟩ : Addr).add i) v).run P w = .ok () (w.setRow g (cur.setIfInBounds (o + i) v)) := by
      rw [addr_add, run_store P w _ v _ (h1 v (by simp)), hcell]
      simp [hfro, setCell_eq_setRow w g (o + i) cur t fz v hg]
    have ih := run_storeCells_U P g o t fz rest (i + 1) (cur.setIfInBounds (o + i) v) (w.setRow g (cur.setIfInBounds (o + i) v)) (setRow_heap w g cur _ t _ hg) (by simpa using hfz) (by simp at hl ⊢; omega) (fun x hx => h1 x (by simp [hx]))
    simp only [storeCells, Sem.run_bind, hst, Result.andThen_ok, ih, setRow_setRow]
    congr 3
    have e := list_seg_step cur.toList (o + i) v rest (by simp at hl ⊢; omega)
    simpa [Array.toList_setIfInBounds, Nat.add_assoc] using e
theorem seg_part {α : Type} (c vs : List α) (base L o : Nat) (hL : base + L ≤ c.length) (ho : o + vs.length ≤ L) :
    ((c.take (base + o) ++ vs ++ c.drop (base + o + vs.length)).drop base).take L = ((c.drop base).take L).take o ++ vs ++ ((c.drop base).take L).drop (o + vs.length) := by
  have h1 : (c.take (base + o) ++ vs ++ c.drop (base + o + vs.length)).drop base = (c.drop base).take o ++ vs ++ c.drop (base + o + vs.length) := by
    rw [List.append_assoc, List.drop_append_of_le_length (by simp; omega), List.drop_take]
    simp [List.append_assoc]
  rw [h1, List.append_assoc, List.take_append, List.take_append]
  have h2 : ((c.drop base).take o).length = o := by simp; omega
  rw [h2, List.take_of_length_le (l := (c.drop base).take o) (by omega), List.take_of_length_le (l := vs) (by omega), List.take_take, Nat.min_eq_left (by omega), List.append_assoc]
  congr 2
  rw [List.drop_take, List.drop_drop, Nat.add_assoc]
  congr 1
  omega
theorem allOne_sound {K : Know} {w : World} : ∀ {xs : List AV} {us : List Value}, VL K w xs us → allOne xs = true → ∀ u ∈ us, u.oneCell' = true
  | _, _, .nil, _, u, hu => by simp at hu
  | _, _, .cons x v xs us h t, ha, u, hu => by
    simp only [allOne, Bool.and_eq_true] at ha
    rcases List.mem_cons.1 hu with rfl | hu
    · cases h <;> first | rfl | (simp [oneA] at ha; done)
    · exact allOne_sound t ha.2 u hu
section
variable {C : Ctx} {H H' : Heap} {K : Know} {R : Rows} {w : World} {a : Act} {o : Oper} {T : Tmps} {v : AV}
theorem store_step (hp : Part H R) (hR : Rel C K R w) {r off : Nat} {b base : Nat} {cs cs' xs : List AV} {us : List Value} (hr : H.row r = some cs) (hb : K.β r = some (b, base)) (hs : setAll cs off xs = some cs') (hone : allOne xs = true) (hv : VL K w xs us) :
    ∃ w', (storeCells ⟨b, base + off, none⟩ us).run C.P w = .ok () w' ∧ Adv C H (H.put r (some (.row cs'))) K R w K w' := by
  obtain ⟨b', base', c, el, fr, h1, h2, h3, h4, h5, h6, h7⟩ := hR.row r cs (hp _ _ (row_some hr))
  rw [hb] at h1
  injection h1 with h1
  injection h1 with h1 h1'
  subst h1; subst h1'
  have hl := hv.length
  have hlen := setAll_length hs
  have hbd := (setAll_eq _ _ _ _ hs).2
  have hrun := run_storeCells_U C.P b (base + off) el fr us 0 c w h4 h5 (by omega) (allOne_sound hv hone)
  refine ⟨_, hrun, ?_⟩
  have hcl : (c.toList.take (base + off + 0) ++ us ++ c.toList.drop (base + off + 0 + us.length)).toArray.size = c.size := by
    simp; omega
  refine Adv.setRow hR hp (row_some hr) hb h2 h3 h4 h5 hcl (by rw [hlen]; omega) ?_
  have hseg := seg_part c.toList us base cs.length off (by simpa using h6) (by omega)
  rw [hlen]
  simp only [Nat.add_zero]
  rw [hseg]
  exact h7.setAll hv hs
theorem does_store {t : TypeId} {x y : Operand} (ho : o.op = .store t x y) (hp : Part H R) (hR : Rel C K R w) (hT : TRel K w T a.tmps) (e : storeO C.P T H t x y = some H') : Does C H H' K R w a o undefA := by
  simp only [storeO, storeA, Option.bind_eq_some_iff, Bool.cond_eq_ite] at e
  obtain ⟨p, hpx, q, hqy, n, hn, e⟩ := e
  split at e
  · rename_i hc
    simp only [Bool.and_eq_true] at hc
    obtain ⟨hlen, hone⟩ := hc
    have hlen := Nat.eq_of_beq_eq_true hlen
    have hx := evalA_sound hT hpx
    have hy := VL.cells (evalA_sound hT hqy)
    generalize hu : a.eval x = u at hx
    cases hx <;> simp only [storeCellsA] at e <;> try (cases e; done)
    rename_i r off b base hb
    simp only [Option.bind_eq_some_iff, Option.map_eq_some_iff] at e
    obtain ⟨cs, hr, cs', hs, rfl⟩ := e
    obtain ⟨w', hrun, hadv⟩ := store_step hp hR hr hb hs hone hy
    have hsz : (a.eval y).cells.size = n := by have := hy.length; simp at this; omega
    refine ⟨undef, K, w', .inr ⟨?_, rfl⟩, hadv, .undef _ _⟩
    simp [execOp, ho, hu, Instr.storeAt, Instr.sureAddr, storeVar, hsz, sizeT_run hn, hrun]
  · cases e
theorem fold_set (n off : Nat) : ∀ (vs : List Value) (k : Nat) (cells : Array Value), off + k + vs.length ≤ cells.size →
    ((vs.zipIdx k).foldl (fun cs (p : Value × Nat) => cs.setIfInBounds (off + p.2) p.1) cells).toList = cells.toList.take (off + k) ++ vs ++ cells.toList.drop (off + k + vs.length)
  | [], k, cells, h => by simp
  | v :: vs, k, cells, h => by
    simp only [List.length_cons] at h
    simp only [List.zipIdx_cons, List.foldl_cons]
    rw [fold_set n off vs (k + 1) _ (by simp; omega)]
    have e := list_seg_step cells.toList (off + k) v vs (by simp; omega)
    simpa [Array.toList_setIfInBounds, Nat.add_assoc] using e
theorem fill_sound {K : Know} {w : World} {pl : Nat → Option (Nat × Nat)} : ∀ {ps : List (Nat × AV)} {qs : List (Nat × Value)} {cs cs' : List AV} {us : Array Value}, VP K w ps qs → VL K w cs us.toList → fillA pl cs ps = some cs' →
    ∃ us', Instr.fill pl us qs = some us' ∧ VL K w cs' us'.toList
  | _, _, cs, cs', us, .nil, hc, h => by
    simp only [fillA] at h
    injection h with h; subst h
    exact ⟨us, rfl, hc⟩
  | _, _, cs, cs', us, .cons i x y ps qs hx ht, hc, h => by
    simp only [fillA, Option.bind_eq_some_iff, Bool.cond_eq_ite] at h
    obtain ⟨os, hos, h⟩ := h
    split at h
    · rename_i hl
      have hl := Nat.eq_of_beq_eq_true hl
      simp only [Option.bind_eq_some_iff] at h
      obtain ⟨cs1, hs, h⟩ := h
      have hxc := VL.cells hx
      have hlx := hxc.length
      have hlc := hc.length
      simp only [Array.length_toList] at hlx hlc
      have hbd := (setAll_eq _ _ _ _ hs).2
      have hfold := fold_set 0 os.1 y.cells.toList 0 us (by simp; omega)
      have hv1 : VL K w cs1 ((y.cells.toList.zipIdx 0).foldl (fun cs (p : Value × Nat) => cs.setIfInBounds (os.1 + p.2) p.1) us).toList := by
        rw [hfold]
        simpa using hc.setAll hxc hs
      obtain ⟨us', h1, h2⟩ := fill_sound ht hv1 h
      refine ⟨us', ?_, h2⟩
      simp only [Instr.fill, hos]
      have c1 : ¬ (y.cells.size ≠ os.2 ∨ os.1 + y.cells.size > us.size) := by omega
      simp only [Bool.or_eq_true, decide_eq_true_eq, if_neg c1]
      rw [← Array.foldl_toList, Array.toList_zipIdx]
      exact h1
    · cases h
end
end Go.AM
namespace Go.AM
open Go Go.RowKit
theorem places_run {P : Program} : ∀ {fs : List Field} {pl : List (Nat × Nat)}, placesA P fs = some pl → ∀ w, (fs.mapM (m := Sem) fun f => do pure (f.offset, ← sizeOf f.type)).run P w = .ok pl w
  | [], pl, h, w => by simp [placesA] at h; subst h; simp
  | f :: r, pl, h, w => by
    simp only [placesA, Option.bind_eq_some_iff, Option.map_eq_some_iff] at h
    obtain ⟨s, hs, l, hl, rfl⟩ := h
    have ih := places_run hl w
    simp only [List.mapM_cons, Sem.run_bind, sizeT_run hs, Result.andThen_ok, Sem.run_pure, ih]
def repeatV (z : List Value) : Nat → List Value
  | 0 => []
  | n + 1 => z ++ repeatV z n
theorem repeat_sound {K : Know} {w : World} {z : List AV} {u : List Value} (h : VL K w z u) : ∀ n, VL K w (repeatCells z n) (repeatV u n)
  | 0 => .nil
  | n + 1 => h.app (repeat_sound h n)
theorem range_repeat (z : Array Value) : ∀ n, ((List.range (n * z.size)).map fun i => z[i % z.size]!) = repeatV z.toList n
  | 0 => by simp [repeatV]
  | n + 1 => by
    rw [show (n + 1) * z.size = z.size + n * z.size by rw [Nat.add_mul, Nat.one_mul, Nat.add_comm], List.range_add, List.map_append, List.map_map]
    have h1 : (List.range z.size).map (fun i => z[i % z.size]!) = z.toList := by
      apply List.ext_getElem
      · simp
      · intro i h1 h2
        simp only [List.length_map, List.length_range] at h1
        simp [Nat.mod_eq_of_lt h1, h1]
    have h2 : (List.range (n * z.size)).map ((fun i => z[i % z.size]!) ∘ fun x => z.size + x) = (List.range (n * z.size)).map fun i => z[i % z.size]! := by
      apply List.map_congr_left
      intro i _
      simp
    rw [h1, h2, range_repeat z n]
    rfl
theorem zeroCells_eq (z : Array Value) (n : Nat) : (Builtin.zeroCells z n).toList = repeatV z.toList n := by
  simp only [Builtin.zeroCells, Array.toList_map, Array.toList_range]
  exact range_repeat z n
theorem repeatV_nil (n : Nat) : repeatV [] n = [] := by induction n with
  | zero => rfl
  | succ n ih => simp [repeatV, ih]
section
variable {C : Ctx} {H H' : Heap} {K : Know} {R : Rows} {w : World} {a : Act} {o : Oper} {T : Tmps} {v : AV}
theorem does_build {t : TypeId} {ps : Array (Nat × Operand)} (ho : o.op = .build t ps) (hp : Part H R) (hR : Rel C K R w) (hT : TRel K w T a.tmps) (e : buildO C.P T t ps.toList = some v) : Does C H H K R w a o v := by
  simp only [buildO, buildA, Option.bind_eq_some_iff] at e
  obtain ⟨qs, hq, z, hz, d, hd, e⟩ := e
  have hP := evalP_sound hT hq
  obtain ⟨u, hu, hv⟩ := zeroT_run hz
  have hargs : (ps.map fun x => (x.1, a.eval x.2)).toList = ps.toList.map fun x => (x.1, a.eval x.2) := by simp
  cases d <;> simp only [buildD] at e <;> try (cases e; done)
  · rename_i n el
    simp only [Option.bind_eq_some_iff, Option.map_eq_some_iff] at e
    obtain ⟨s, hs, cs, hf, rfl⟩ := e
    obtain ⟨us, h1, h2⟩ := fill_sound hP (hv K w) hf
    refine .still hp hR (u := .agg us) ?_ (.agg cs us h2)
    simp only [execOp, ho, Instr.build, Sem.run_bind, hu, Result.andThen_ok, run_underlying hd, sizeT_run hs]
    have : (ps.map fun x => match x with | (i, x) => (i, a.eval x)).toList = ps.toList.map fun x => (x.1, a.eval x.2) := by simp
    simp only [this, h1, Sem.run_pure, Result.andThen_ok]
  · rename_i fs
    simp only [Option.bind_eq_some_iff, Option.map_eq_some_iff] at e
    obtain ⟨pl, hpl, cs, hf, rfl⟩ := e
    obtain ⟨us, h1, h2⟩ := fill_sound hP (hv K w) hf
    refine .still hp hR (u := .agg us) ?_ (.agg cs us h2)
    have hpr := places_run hpl w
    have hm : (fs.mapM (m := Sem) fun f => do pure (f.offset, ← sizeOf f.type)).run C.P w = .ok pl.toArray w := by
      rw [Array.mapM_eq_mapM_toList]
      simp only [Sem.run_map, hpr, Result.andThen_ok]
    simp only [execOp, ho, Instr.build, Sem.run_bind, hu, Result.andThen_ok, run_underlying hd, hm]
    have : (ps.map fun x => match x with | (i, x) => (i, a.eval x)).toList = ps.toList.map fun x => (x.1, a.eval x.2) := by simp
    have h1' : Instr.fill (fun x => pl.toArray[x]?) u.cells (ps.toList.map fun x => (x.1, a.eval x.2)) = some us := by simpa using h1
    simp only [this, h1', Sem.run_pure, Result.andThen_ok]
theorem elemT_some {P : Program} {t e : TypeId} (h : elemT P t = some e) : P.underlying t = some (.slice e) := by
  unfold elemT at h
  split at h
  · injection h with h; subst h; assumption
  · cases h
theorem zsT_some {P : Program} {e : TypeId} {sz : Nat × List AV} (h : zsT P e = some sz) : sizeT P e = some sz.1 ∧ zeroT P e = some sz.2 ∧ sz.2.length = sz.1 := by
  simp only [zsT, Option.bind_eq_some_iff, Bool.cond_eq_ite] at h
  obtain ⟨s, hs, z, hz, h⟩ := h
  split at h
  · injection h with h; subst h; exact ⟨hs, hz, Nat.eq_of_beq_eq_true ‹_›⟩
  · cases h
theorem repeatCells_length (z : List AV) : ∀ n, (repeatCells z n).length = n * z.length
  | 0 => by simp [repeatCells]
  | n + 1 => by simp [repeatCells, repeatCells_length z n, Nat.add_mul, Nat.add_comm]
theorem fillA_length {pl : Nat → Option (Nat × Nat)} : ∀ {ps : List (Nat × AV)} {cs cs' : List AV}, fillA pl cs ps = some cs' → cs'.length = cs.length
  | [], cs, cs', h => by simp only [fillA] at h; injection h with h; subst h; rfl
  | (i, x) :: ps, cs, cs', h => by
    simp only [fillA, Option.bind_eq_some_iff, Bool.cond_eq_ite] at h
    obtain ⟨os, hos, h⟩ := h
    split at h
    · simp only [Option.bind_eq_some_iff] at h
      obtain ⟨cs1, hs, h⟩ := h
      exact (fillA_length h).trans (setAll_length hs)
    · cases h
theorem zeros_run {P : Program} {e : TypeId} {sz : Nat × List AV} (h : zsT P e = some sz) (n : Nat) : ∃ u : Array Value, ((n * sz.1 = 0 ∧ u = #[]) ∨ (¬ n * sz.1 = 0 ∧ ∃ z, (∀ w, (zeroValue e).run P w = .ok z w) ∧ u = z.cells)) ∧
    ∀ K w, VL K w (repeatCells sz.2 n) (((Array.range (n * sz.1)).map fun i => u[i % u.size]!).toList) := by
  obtain ⟨hs, hz, hl⟩ := zsT_some h
  by_cases h0 : n * sz.1 = 0
  · refine ⟨#[], .inl ⟨h0, rfl⟩, fun K w => ?_⟩
    have : repeatCells sz.2 n = [] := List.eq_nil_of_length_eq_zero (by rw [repeatCells_length, hl]; exact h0)
    rw [this, h0]
    simpa using VL.nil
  · obtain ⟨u, hu, hv⟩ := zeroT_run hz
    refine ⟨u.cells, .inr ⟨h0, u, hu, rfl⟩, fun K w => ?_⟩
    have hsz : u.cells.size = sz.1 := by
      have := (hv K w).length
      simp only [Array.length_toList] at this
      omega
    rw [Array.toList_map, Array.toList_range, ← hsz, range_repeat]
    exact repeat_sound (hv K w) n
theorem sliceCells_sound {K : Know} {P : Program} {w : World} {t e : TypeId} {n : Nat} {ps : List (Nat × AV)} {qs : Array (Nat × Value)} {sc : Nat × List AV} (ht : P.underlying t = some (.slice e)) (h : sliceCells P e n ps = some sc) (hP : VP K w ps qs.toList) :
    ∃ us : Array Value, (Instr.buildSlice t n qs).run P w = .ok (.slice (some ⟨w.heap.size, 0, none⟩) n n) (w.alloc (.cells us e)) ∧ VL K w sc.2 us.toList ∧ us.size = n * sc.1 := by
  simp only [sliceCells, Option.bind_eq_some_iff, Bool.cond_eq_ite] at h
  obtain ⟨sz, hsz, h⟩ := h
  split at h
  · rename_i hle
    rw [Nat.ble_eq] at hle
    simp only [Option.map_eq_some_iff] at h
    obtain ⟨cs, hf, rfl⟩ := h
    obtain ⟨hs, hz, hl⟩ := zsT_some hsz
    obtain ⟨u, hu, hv⟩ := zeros_run hsz n
    obtain ⟨us, h1, h2⟩ := fill_sound hP (hv K w) hf
    have hlen := h2.length
    have hfl := fillA_length hf
    rw [repeatCells_length, hl] at hfl
    simp only [Array.length_toList] at hlen
    refine ⟨us, ?_, h2, by rw [hlen, hfl]⟩
    have hle' : ¬ n * sz.1 > 2 ^ 24 := by omega
    rcases hu with ⟨h0, rfl⟩ | ⟨h0, z, hzv, rfl⟩
    · simp only [Instr.buildSlice, Sem.run_bind, run_underlying ht, sizeT_run hs, Result.andThen_ok, Sem.run_ite, if_neg hle', Sem.run_pure, if_pos h0, h1, newRow, run_newObj, World.alloc_eq]
    · simp only [Instr.buildSlice, Sem.run_bind, run_underlying ht, sizeT_run hs, Result.andThen_ok, Sem.run_ite, if_neg hle', Sem.run_pure, if_neg h0, hzv, h1, newRow, run_newObj, World.alloc_eq]
  · cases h
theorem does_lit {t : TypeId} {n : Nat} {ps : Array (Nat × Operand)} {drawn : Bool} (ho : o.op = .buildSlice t n ps) (hp : Part H R) (hR : Rel C K R w) (hf : Fresh H H' K) (hT : TRel K w T a.tmps) (e : litO C.P drawn T H t n ps.toList = some (v, H')) : Does C H H' K R w a o v := by
  simp only [litO, litA, Option.bind_eq_some_iff, Bool.cond_eq_ite] at e
  obtain ⟨qs, hq, el, hel, sc, hsc, e⟩ := e
  have hP := evalP_sound hT hq
  have hq' : (ps.map fun x => match x with | (i, x) => (i, a.eval x)).toList = ps.toList.map fun x => (x.1, a.eval x.2) := by simp
  obtain ⟨us, hrun, hv, hus⟩ := sliceCells_sound (qs := ps.map fun x => match x with | (i, x) => (i, a.eval x)) (elemT_some hel) hsc (by rw [hq']; exact hP)
  have hl := hv.length
  simp only [Array.length_toList] at hl
  have hop : (execOp a.eval o).run C.P w = .ok (.value (.slice (some ⟨w.heap.size, 0, none⟩) n n)) (w.alloc (.cells us el)) := by
    simp only [execOp, ho, Sem.run_bind, hrun, Result.andThen_ok, Sem.run_pure]
  split at e
  · injection e with e
    injection e with e1 e2
    subst e1; subst e2
    have hx := WExt.alloc K w hR.there (.cells us el)
    have hadv : Adv C H H K R w (K.shut w.heap.size) (w.alloc (.cells us el)) :=
      ⟨.refl H, Know.le_shut K _, fun _ => .inl rfl, by
        rw [upd_refl hp]
        exact (hR.alloc (.cells us el)).shut w.heap.size (by simp) hR.fresh, hx⟩
    refine ⟨_, _, _, .inl hop, hadv, ?_⟩
    refine .ds n sc.2 (some n) _ us.toList n (Nat.le_refl _) (fun k hk => by injection hk) (fun _ => rfl) (fun _ => ⟨w.heap.size, 0, rfl, .inr rfl, ?_⟩) (hv.mono hadv.le hx)
    intro j x hj
    have hj' : us[j]? = some x := by simpa using hj
    simp [hj']
  · injection e with e
    injection e with e1 e2
    subst e1; subst e2
    refine ⟨_, _, _, .inl hop, Adv.newRow hR hp (hf _ (Nat.le_refl _) (Nat.lt_succ_self _)) sc.2 us el (by omega) (by rw [List.take_of_length_le (by simp; omega)]; exact hv), ?_⟩
    exact .sl _ 0 n sc.1 (some n) w.heap.size 0 n (Know.put_self ..) (Nat.le_refl _) (fun k hk => by injection hk) ⟨us, el, (0, 0), heap_alloc_new w _, by omega⟩
theorem bytesT_info {P : Program} {t : TypeId} {n : Nat} (h : bytesT P t = some n) (w : World) : ∃ i, (typeInfo t).run P w = .ok i w ∧ i.bytes = n := by
  simp only [bytesT, Option.map_eq_some_iff] at h
  obtain ⟨i, hi, rfl⟩ := h
  exact ⟨i, by simp [typeInfo, program, Sem.run, hi], rfl⟩
theorem does_makeSlice {t : TypeId} {x y : Operand} (ho : o.op = .makeSlice t x y) (hp : Part H R) (hR : Rel C K R w) (hf : Fresh H H' K) (hT : TRel K w T a.tmps) (e : makeSliceO C.P T H t x y = some (v, H')) : Does C H H' K R w a o v := by
  simp only [makeSliceO, makeSliceA, Option.bind_eq_some_iff, Bool.cond_eq_ite] at e
  obtain ⟨p, hpx, q, hqy, el, hel, n, hn, m, hm, sz, hsz, b, hb, e⟩ := e
  split at e
  · rename_i hc
    simp only [Bool.and_eq_true, Nat.ble_eq] at hc
    obtain ⟨⟨hnm, hmb⟩, hm40⟩ := hc
    injection e with e
    injection e with e1 e2
    subst e1; subst e2
    obtain ⟨k1, hu1⟩ := natA_value hn (evalA_sound hT hpx)
    obtain ⟨k2, hu2⟩ := natA_value hm (evalA_sound hT hqy)
    obtain ⟨hs, hz, hl⟩ := zsT_some hsz
    obtain ⟨u, hu, hv⟩ := zeros_run hsz m
    obtain ⟨i, hi, hib⟩ := bytesT_info hb w
    have hw1 : IntKind.i64.wrap (n : Int) = n := wrap_i64 _ (by omega) (by omega)
    have hw2 : IntKind.i64.wrap (m : Int) = m := wrap_i64 _ (by omega) (by omega)
    have hbm : ¬ ((i.bytes : Int) * (m : Int) > 281474976710656) := by
      rw [hib, ← Int.natCast_mul, Nat.mul_comm b m]
      omega
    have hrun : (Instr.makeSlice t (a.eval x) (a.eval y)).run C.P w = .ok (.slice (some ⟨w.heap.size, 0, none⟩) n m) (w.alloc (.cells ((Array.range (m * sz.1)).map fun i => u[i % u.size]!) el)) := by
      have c1 : ¬ (((decide ((m : Int) < 0) || decide ((i.bytes : Int) * (m : Int) > 2 ^ 48)) || decide ((n : Int) < 0) || decide ((n : Int) > (m : Int))) = true) := by
        simp only [Bool.or_eq_true, decide_eq_true_eq]
        omega
      rcases hu with ⟨h0, rfl⟩ | ⟨h0, z, hzv, rfl⟩
      · simp only [Instr.makeSlice, hu1, hu2, asInt, asIntOf, Sem.run_bind, run_underlying (elemT_some hel), Result.andThen_ok, Sem.run_pure, hi, hw1, hw2, Sem.run_ite, if_neg c1, run_askRoom, sizeT_run hs, Int.toNat_natCast, if_pos h0, newRow, run_newObj, World.alloc_eq]
      · simp only [Instr.makeSlice, hu1, hu2, asInt, asIntOf, Sem.run_bind, run_underlying (elemT_some hel), Result.andThen_ok, Sem.run_pure, hi, hw1, hw2, Sem.run_ite, if_neg c1, run_askRoom, sizeT_run hs, Int.toNat_natCast, if_neg h0, hzv, newRow, run_newObj, World.alloc_eq]
    have hv' := hv K w
    have hlen := hv'.length
    simp only [Array.length_toList] at hlen
    have hsize : ((Array.range (m * sz.1)).map fun i => u[i % u.size]!).size = m * sz.1 := by simp
    refine ⟨.slice (some ⟨w.heap.size, 0, none⟩) n m, _, _, .inl ?_, Adv.newRow hR hp (hf _ (Nat.le_refl _) (Nat.lt_succ_self _)) (repeatCells sz.2 m) ((Array.range (m * sz.1)).map fun i => u[i % u.size]!) el (by rw [hsize]; omega) (by rw [List.take_of_length_le (by simp; omega)]; exact hv'), ?_⟩
    · simp only [execOp, ho, Sem.run_bind, hrun, Result.andThen_ok, Sem.run_pure]
    · exact .sl _ 0 n sz.1 (some m) w.heap.size 0 m (Know.put_self ..) hnm (fun k hk => by injection hk) ⟨_, el, (0, 0), heap_alloc_new w _, by omega⟩
  · cases e
end
end Go.AM
namespace Go.AM
open Go Go.RowKit
def Firsts (P : Program) (w : World) (s n : Nat) (u : Value) (us : Array Value) : Prop := ∀ W : World, W.heap = w.heap → (Builtin.firstCells s n u).run P W = .ok us W
theorem cell_heap {w W : World} (h : W.heap = w.heap) (p : Addr) : W.cell? p = w.cell? p := by simp only [World.cell?, h]
theorem byteCells_eq : ∀ (l : List UInt8) {K : Know} {w : World}, VL K w (byteCells l) (l.map fun b => Value.int .u8 b.toNat)
  | [], _, _ => .nil
  | b :: r, _, _ => .cons _ _ _ _ (.int .u8 _) (byteCells_eq r)
section
variable {C : Ctx} {H H' : Heap} {K : Know} {R : Rows} {w : World} {a : Act} {o : Oper} {T : Tmps} {v : AV}
theorem lenA_sound {P : Program} {x : AV} {u : Value} {n : Nat} (h : lenA x = some n) (hv : V K w x u) (W : World) : (Builtin.lenOf u).run P W = .ok n W := by
  cases hv <;> simp only [lenA] at h <;> try (cases h; done)
  all_goals (injection h with h; subst h; rfl)
theorem sliceRead_sound (hp : Part H R) (hR : Rel C K R w) {s n : Nat} {x : AV} {u : Value} {cs : List AV} (h : sliceRead H s x = some cs) (hn : lenA x = some n) (hv : V K w x u) :
    ∃ us : Array Value, Firsts C.P w s n u us ∧ VL K w cs us.toList ∧ us.size = n * s := by
  cases x <;> simp only [sliceRead, lenA] at h hn <;> try (cases h; done)
  · -- str
    cases hv
    rename_i b
    injection hn with hn
    subst hn
    rw [Bool.cond_eq_ite] at h
    split at h
    · rename_i h1
      have h1 := Nat.eq_of_beq_eq_true h1
      subst h1
      injection h with h
      subst h
      refine ⟨(Lib.strCells b).toArray, fun W _ => Lib.run_firstCells_string W 1 b, ?_, ?_⟩
      · have := byteCells_eq b.data.toList (K := K) (w := w)
        simpa [Lib.strCells] using this
      · simp [Lib.strCells_length]
    · cases h
  · -- nils
    cases hv
    injection h with h
    injection hn with hn
    subst h; subst hn
    exact ⟨#[], fun W _ => run_firstCells_none W s 0 0 0, .nil, by simp⟩
  · -- sl
    rename_i r off len esz cap
    obtain ⟨b, base, c, rfl, hb, hl, hc, room⟩ := hv.sl_inv
    injection hn with hn
    subst hn
    rw [Bool.cond_eq_ite, Bool.cond_eq_ite] at h
    split at h
    · rename_i he
      have he := Nat.eq_of_beq_eq_true he
      split at h
      · rename_i h0
        have h0 := Nat.eq_of_beq_eq_true h0
        subst h0
        injection h with h
        subst h
        refine ⟨#[], fun W _ => ?_, .nil, by simp⟩
        simp [Builtin.firstCells, loadCells, loadCellsFrom]
      · simp only [Option.bind_eq_some_iff] at h
        obtain ⟨row, hrow, hwin⟩ := h
        obtain ⟨b', base', cc, el, fr, h1, h2, h3, h4, h5, h6, h7⟩ := hR.row r row (hp _ _ (row_some hrow))
        rw [hb] at h1
        injection h1 with h1
        injection h1 with h1 h1'
        subst h1; subst h1'
        have hlw := (window_eq hwin).2
        have hcf := cells_of_heap (base := base) (o := off) (L := row.length) (n := len * s) h4
        have hlen : ((((cc.toList.drop base).take row.length).drop off).take (len * s)).length = len * s := by
          simp only [List.length_take, List.length_drop, Array.length_toList]
          omega
        refine ⟨_, fun W hW => run_firstCells_some W s len _ len c _ hlen (fun j x hx => ?_), by simpa using h7.window hwin, by simpa using hlen⟩
        rw [addr_add, cell_heap hW]
        exact hcf j x hx
    · cases h
  · -- ds
    rename_i len cs' cap
    obtain ⟨ad, us, c, rfl, hl, hc, hnn, hr, hvl⟩ := hv.ds_inv
    injection hn with hn
    subst hn
    rw [Bool.cond_eq_ite] at h
    split at h
    · rename_i he
      have he := Nat.eq_of_beq_eq_true he
      injection h with h
      subst h
      have hul := hvl.length
      refine ⟨us.toArray, fun W hW => ?_, by simpa using hvl, by simp; omega⟩
      by_cases hu : us = []
      · subst hu
        have h0 : len * s = 0 := by simp at hul; omega
        cases ad with
        | none => exact run_firstCells_none W s len len c
        | some p => simp [Builtin.firstCells, h0, loadCells, loadCellsFrom]
      · obtain ⟨b, off, rfl, hs, hcc⟩ := hr hu
        refine run_firstCells_some W s len _ len c us (by omega) (fun j x hx => ?_)
        rw [addr_add, cell_heap hW]
        exact hcc j x hx
    · cases h
def Brings (P : Program) (w : World) (e : TypeId) (d2 : TypeDesc) (x : Value) (n : Nat) (new : Array Value) : Prop :=
  (isIntD d2 = false ∧ (∀ W, (Builtin.lenOf x).run P W = .ok n W) ∧ ∃ s, sizeT P e = some s ∧ Firsts P w s n x new) ∨
  (isIntD d2 = true ∧ (∃ k, x = .int k (n : Int)) ∧ ∃ s z, sizeT P e = some s ∧ (∀ W, (zeroValue e).run P W = .ok z W) ∧ z.cells.size = s ∧ new = Builtin.zeroCells z.cells n)
theorem isIntD_match (d : TypeDesc) : (match d with | .int _ => true | _ => false) = isIntD d := by cases d <;> rfl
theorem append_grow {P : Program} {t t2 ty e : TypeId} {d2 : TypeDesc} {s b : Nat} {x : Value} {n sLen sCap : Nat} {base : Option Addr} {old new : Array Value} {z : Value} (ht : P.underlying t = some (.slice e)) (ht2 : P.underlying t2 = some d2) (hs : sizeT P e = some s) (hb : bytesT P e = some b)
    (hz : ∀ W, (zeroValue e).run P W = .ok z W) (hB : Brings P w e d2 x n new) (ho : Firsts P w s sLen (.slice base sLen sCap) old) (hg : sCap < sLen + n) (h40 : (sLen + n) * b ≤ 1099511627776) (h41 : sLen + n ≤ 1099511627776) :
    ∃ c', (Builtin.append_ #[t, t2] ty #[.slice base sLen sCap, x]).run P w = .ok (.slice (some ⟨w.heap.size, 0, none⟩) (sLen + n) c') (w.drew.alloc (.cells (old ++ new ++ Builtin.zeroCells z.cells (c' - (sLen + n))) e)) ∧ sLen + n ≤ c' := by
  obtain ⟨i, hi, hib⟩ := bytesT_info hb w
  have hinf : ∀ W : World, (typeInfo e).run P W = .ok i W := fun W => by
    obtain ⟨i', hi', hib'⟩ := bytesT_info hb W
    have : i' = i := by
      simp only [typeInfo, Sem.run_bind, run_program, Result.andThen_ok] at hi hi'
      cases hq : P.info? e with
      | none => simp [hq] at hi
      | some q => simp [hq] at hi hi'; rw [← hi, ← hi']
    rw [← this]; exact hi'
  have hn : ¬ (sLen + n ≤ sCap) := by omega
  have hfit := growslice_fits (need := sLen + n) (old := sCap) (bytes := b) hg (by omega)
  have h48 : ¬ (Builtin.nextslicecap (sLen + n) sCap * i.bytes > 2 ^ 48) := by rw [hib]; omega
  have h63 : ¬ (((sLen + n : Nat) : Int) > IntKind.i64.max) := by
    simp only [IntKind.max, IntKind.signed, IntKind.bits]
    simp
    omega
  have hcap : sLen + n ≤ grownCap w (sLen + n) sCap e := by
    simp only [grownCap, Question.cut]; omega
  refine ⟨grownCap w (sLen + n) sCap e, ?_, hcap⟩
  have hod := ho w.drew rfl
  rcases hB with ⟨hd, hlen, s', hs', hf⟩ | ⟨hd, ⟨k, rfl⟩, s', z', hs', hz', hzs, rfl⟩
  · rw [hs] at hs'
    injection hs' with hs'
    subst hs'
    have hfd := hf w.drew rfl
    have hcase : ∀ d, P.underlying t2 = some d → isIntD d = false → (Builtin.append_ #[t, t2] ty #[.slice base sLen sCap, x]).run P w = .ok (.slice (some ⟨w.heap.size, 0, none⟩) (sLen + n) (grownCap w (sLen + n) sCap e)) (w.drew.alloc (.cells (old ++ new ++ Builtin.zeroCells z.cells (grownCap w (sLen + n) sCap e - (sLen + n))) e)) := by
      intro d hd2 hdi
      unfold Builtin.append_
      simp only [List.getElem?_toArray, List.getElem?_cons_zero, List.getElem?_cons_succ, Sem.run_bind, run_underlying ht, run_underlying hd2, Result.andThen_ok, sizeT_run hs, Sem.run_pure]
      cases d <;> simp only [isIntD, Bool.true_eq_false] at hdi <;>
      simp only [Bool.false_eq_true, if_false, Sem.run_bind, hlen, Result.andThen_ok, Sem.run_ite, if_neg hn, hinf, h63, false_and, if_neg h48, run_choose, Question.forced, run_askRoom, Bool.not_false, if_true] <;>
      (first
        | (simp only [show ({ w with drawn := w.drawn + 1 } : World) = w.drew from rfl, hod, hfd, hz, Result.andThen_ok, newRow, Sem.run_bind, run_newObj, Sem.run_pure, World.alloc_eq]; rfl)
        | trace_state)
    exact hcase d2 ht2 hd
  · rw [hs] at hs'
    injection hs' with hs'
    subst hs'
    have hw1 : IntKind.i64.wrap (n : Int) = n := wrap_i64 _ (by omega) (by omega)
    have hneg : ¬ ((n : Int) < 0) := by omega
    have hnb : n * b ≤ (sLen + n) * b := Nat.mul_le_mul_right _ (by omega)
    have hbig : ¬ ((n : Int) * (i.bytes : Int) > 2 ^ 48) := by
      rw [hib, ← Int.natCast_mul]
      omega
    have happ : ∀ W : World, (if n * s = 0 then (pure #[] : Sem (Array Value)) else do pure (Builtin.zeroCells (← zeroValue e).cells n)).run P W = .ok (Builtin.zeroCells z'.cells n) W := by
      intro W
      by_cases h0 : n * s = 0
      · rw [if_pos h0]
        have : Builtin.zeroCells z'.cells n = #[] := by
          apply Array.eq_empty_of_size_eq_zero
          simp [Builtin.zeroCells, hzs, h0]
        rw [this]; rfl
      · rw [if_neg h0]
        simp only [Sem.run_bind, hz', Result.andThen_ok, Sem.run_pure]
    have hzz : z' = z := by
      have h1 := hz w
      rw [hz' w] at h1
      injection h1
    subst hzz
    cases d2 <;> simp only [isIntD, Bool.false_eq_true] at hd
    unfold Builtin.append_
    have happ' := happ w.drew
    simp only [Sem.run_ite, Sem.run_pure, Sem.run_bind, hz', Result.andThen_ok] at happ'
    simp only [List.getElem?_toArray, List.getElem?_cons_zero, List.getElem?_cons_succ, Sem.run_bind, run_underlying ht, run_underlying ht2, Result.andThen_ok, sizeT_run hs, Sem.run_pure, if_true, asInt, asIntOf, hw1, Sem.run_ite, if_neg hneg, hinf, if_neg hbig, Int.toNat_natCast, if_neg hn, h63, false_and, if_neg h48, run_choose, Question.forced, Bool.false_eq_true, if_false, run_askRoom, Bool.not_true,
      show ({ w with drawn := w.drawn + 1 } : World) = w.drew from rfl, hod, hz']
    by_cases h0 : n * s = 0
    · simp only [if_pos h0] at happ' ⊢
      injection happ' with happ' _
      simp only [newRow, Sem.run_bind, run_newObj, Result.andThen_ok, Sem.run_pure, World.alloc_eq, ← happ']; rfl
    · simp only [if_neg h0] at happ' ⊢
      simp only [newRow, Sem.run_bind, run_newObj, Result.andThen_ok, Sem.run_pure, World.alloc_eq]; rfl
theorem append_room {P : Program} {t t2 ty e : TypeId} {d2 : TypeDesc} {s b : Nat} {x : Value} {n sLen sCap : Nat} {bl off : Nat} {new : Array Value} {w' : World} (ht : P.underlying t = some (.slice e)) (ht2 : P.underlying t2 = some d2) (hs : sizeT P e = some s) (hb : bytesT P e = some b)
    (hB : Brings P w e d2 x n new) (hg : sLen + n ≤ sCap) (h40 : (sLen + n) * b ≤ 1099511627776) (h41 : sLen + n ≤ 1099511627776)
    (hst : (storeCells ⟨bl, off + sLen * s, none⟩ new.toList).run P w = .ok () w') :
    (Builtin.append_ #[t, t2] ty #[.slice (some ⟨bl, off, none⟩) sLen sCap, x]).run P w = .ok (.slice (some ⟨bl, off, none⟩) (sLen + n) sCap) w' := by
  obtain ⟨i, hi, hib⟩ := bytesT_info hb w
  rcases hB with ⟨hd, hlen, s', hs', hf⟩ | ⟨hd, ⟨k, rfl⟩, s', z', hs', hz', hzs, rfl⟩
  · rw [hs] at hs'
    injection hs' with hs'
    subst hs'
    have hfd := hf w rfl
    unfold Builtin.append_
    simp only [List.getElem?_toArray, List.getElem?_cons_zero, List.getElem?_cons_succ, Sem.run_bind, run_underlying ht, run_underlying ht2, Result.andThen_ok, sizeT_run hs, Sem.run_pure]
    cases d2 <;> simp only [isIntD, Bool.true_eq_false] at hd <;>
      (simp only [Bool.false_eq_true, if_false, Sem.run_bind, hlen, Result.andThen_ok, Sem.run_ite, if_pos hg, Bool.not_false, if_true, hfd, addr_add, hst, Sem.run_pure]; done)
  · rw [hs] at hs'
    injection hs' with hs'
    subst hs'
    have hw1 : IntKind.i64.wrap (n : Int) = n := wrap_i64 _ (by omega) (by omega)
    have hneg : ¬ ((n : Int) < 0) := by omega
    have hnb : n * b ≤ (sLen + n) * b := Nat.mul_le_mul_right _ (by omega)
    have hbig : ¬ ((n : Int) * (i.bytes : Int) > 2 ^ 48) := by
      rw [hib, ← Int.natCast_mul]
      omega
    cases d2 <;> simp only [isIntD, Bool.false_eq_true] at hd
    unfold Builtin.append_
    simp only [List.getElem?_toArray, List.getElem?_cons_zero, List.getElem?_cons_succ, Sem.run_bind, run_underlying ht, run_underlying ht2, Result.andThen_ok, sizeT_run hs, Sem.run_pure, if_true, asInt, asIntOf, hw1, Sem.run_ite, if_neg hneg, hi, if_neg hbig, Int.toNat_natCast, if_pos hg, Bool.not_true, Bool.false_eq_true, if_false, hz']
    by_cases h0 : n * s = 0
    · have : Builtin.zeroCells z'.cells n = #[] := by
        apply Array.eq_empty_of_size_eq_zero
        simp [Builtin.zeroCells, hzs, h0]
      rw [this] at hst
      simp only [if_pos h0, addr_add, hst, Result.andThen_ok]
    · simp only [if_neg h0, addr_add, hst, Result.andThen_ok]
end
end Go.AM
