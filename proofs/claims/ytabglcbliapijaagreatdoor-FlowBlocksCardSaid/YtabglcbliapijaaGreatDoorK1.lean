/- Part 1 of the proof: a compiled form, its executor, what it computes. -/
import GoSem.Step
import Derived.Laws.Sem
import Derived.RangeFuncIn
import Derived.Laws.BytesString
import Derived.RangeFuncRecord
import Derived.OrdersIn
set_option linter.all false
set_option maxRecDepth 8000
set_option maxHeartbeats 8000000
/- Den, part A: the abstract executor: an intermediate code, an abstract heap, and the executor itself. -/
namespace Go.Den
inductive T (α : Type) where
 | leaf
 | node (v : Option α) (l r : T α)
namespace T
variable {α : Type}
def get : T α → Nat → Option α
 | .leaf,_ => none
 | .node v l r,k => bif k == 0 then v else bif k % 2 == 1 then l.get (k / 2) else r.get (k / 2 - 1)
def single : Nat → Nat → α → T α
 | 0,_,_ => .leaf
 | f + 1,k,x => bif k == 0 then .node (some x) .leaf .leaf else bif k % 2 == 1 then .node none (single f (k / 2) x) .leaf else .node none .leaf (single f (k / 2 - 1) x)
def set : T α → Nat → α → T α
 | .leaf,k,x => single (k + 1) k x
 | .node v l r,k,x => bif k == 0 then .node (some x) l r else bif k % 2 == 1 then .node v (l.set (k / 2) x) r else .node v l (r.set (k / 2 - 1) x)
def ofFrom (i : Nat) : List α → T α
 | [] => .leaf
 | x :: xs => (ofFrom (i + 1) xs).set i x
end T
abbrev Env := T Value
inductive Arg where
 | tmp (t : Nat)
 | val (v : Value)
inductive KeyK where
 | int | str | bool
inductive NilK where
 | slice | map | func | ptr
inductive IOp where
 | mov (x : Arg)
 | pick (c a b : Arg)
 | box (t : TypeId) (x : Arg)
 | build (zero : List Value) (parts : List (Nat × Nat × Arg))
 | buildSlice (t : TypeId) (len : Nat) (zero : List Value) (parts : List (Nat × Nat × Arg))
 | load (agg : Option Nat) (a : Arg)
 | store (n : Nat) (a v : Arg)
 | nilCheck (x : Arg)
 | arith (op : BinOp) (x y : Arg)
 | eqBool (neg : Bool) (x y : Arg)
 | eqNil (k : NilK) (neg : Bool) (x y : Arg)
 | eqPtr (neg : Bool) (x y : Arg)
 | eqFlat (neg : Bool) (x y : Arg)
 | un (op : UnOp) (x : Arg)
 | toInt (k : IntKind) (x : Arg)
 | iface (t : TypeId) (x : Arg)
 | func (fn : FuncId) (first captured : List Arg)
 | makeSlice (t : TypeId) (bytes : Nat) (zero : List Value) (l c : Arg)
 | makeMap
 | slice (t : TypeId) (size : Nat) (x : Arg) (lo hi mx : Option Arg)
 | sliceStr (x : Arg) (lo hi : Option Arg)
 | sliceArr (n size : Nat) (x : Arg) (lo hi mx : Option Arg)
 | fieldAddr (off : Nat) (x : Arg)
 | field (off : Nat) (agg : Option Nat) (x : Arg)
 | indexAddr (size : Nat) (x i : Arg)
 | indexAddrArr (len size : Nat) (x i : Arg)
 | indexStr (x i : Arg)
 | indexArr (len size : Nat) (agg : Option Nat) (x i : Arg)
 | extract (x : Arg) (i : Nat)
 | lookup (kk : KeyK) (zero : Value) (ok : Bool) (m k : Arg)
 | mapUpdate (kk : KeyK) (m k v : Arg)
 | rangeStr (x : Arg)
 | nextStr (x : Arg)
 | toBytes (t : TypeId) (x : Arg)
 | ofBytes (x : Arg)
 | assertTo (t : TypeId) (zero : Value) (ok : Bool) (x : Arg)
 | call (f : Arg) (args : List Arg)
 | lenStr (x : Arg)
 | lenSl (x : Arg)
 | lenMap (x : Arg)
 | lenArr (n : Nat)
 | append (t : TypeId) (size bytes : Nat) (s x : Arg)
 | copy (size : Nat) (d s : Arg)
 | clear (zero : List Value) (x : Arg)
 | clearMap (x : Arg)
 | delete (kk : KeyK) (m k : Arg)
 | minMax (max : Bool) (x y : Arg)
 | panic (x : Arg)
 | bad (why : String)
structure Ins where
 dst : Option Nat
 guard : Option (Nat × Bool)
 op : IOp
inductive ICode where
 | skip
 | ops (l : List Ins)
 | draw (quiet tail : List Ins)
 | seq (a b : ICode)
 | cond (c : Arg) (thn els : ICode)
 | block (id : Nat) (body : ICode)
 | loop (body : ICode)
 | rangeFunc (f : Arg) (params : List Nat) (assign body : ICode)
 | exit (id : Nat)
 | ret
 | bad (why : String)
inductive IRes where
 | tmp (t : Nat)
 | cell (a : Nat) (agg : Option Nat)
structure IFunc where
 ntmps : Nat
 results : List IRes
 body : ICode
inductive Ex where
 | norm
 | exit (id : Nat)
 | ret
 | pan (v : Value)
inductive AObj where
 | cells (cs : List Value) (t : TypeId) (ro ex : Bool) (root thr tip : Nat)
 | map (es : List MapEntry) (clock : Nat)
 | iter (s : ByteArray) (pos : Nat)
 | loop (env : Env) (params : List Nat) (assign body : ICode) (st : Nat) (pend : Option Ex)
 | gone
structure AH where
 objs : T AObj
 next : Nat
 low : Nat
namespace AH
def get (H : AH) (k : Nat) : Option AObj := H.objs.get k
def push (H : AH) (o : AObj) : AH := ⟨H.objs.set H.next o,H.next + 1,H.low⟩
def put (H : AH) (k : Nat) (o : AObj) : AH := ⟨H.objs.set k o,H.next,bif Nat.ble H.low k then H.low else k⟩
def put' (H : AH) (k : Nat) (o : AObj) : AH := ⟨H.objs.set k o,H.next,H.low⟩
def newRow (H : AH) (t : TypeId) (cs : List Value) : AH := H.push (.cells cs t false true H.next H.next H.next)
def fam (H : AH) (root : Nat) : Option (Nat × Nat) :=
 match H.get root with
 | some (.cells _ _ _ _ _ thr tip) => some (thr,tip)
 | _ => none
def alive (H : AH) (k root : Nat) : Bool :=
 match H.fam root with
 | some (thr,_) => Nat.ble thr k
 | none => false
def row (H : AH) (k : Nat) : Option (List Value) :=
 match H.get k with
 | some (.cells cs _ _ _ root _ _) => bif H.alive k root then some cs else none
 | _ => none
def write (H : AH) (k : Nat) (cs' : List Value) : Option AH :=
 match H.get k with
 | some (.cells _ t false ex root thr tip) =>
  bif Nat.beq root k then (bif Nat.ble thr k && Nat.beq tip k then some (H.put k (.cells cs' t false ex root k k)) else none)
  else match H.get root with
   | some (.cells rcs rt rro rex rroot rthr rtip) =>
    bif Nat.ble rthr k && Nat.beq rtip k then some ((H.put root (.cells rcs rt rro rex rroot k k)).put' k (.cells cs' t false ex root thr tip)) else none
   | _ => none
 | _ => none
def tyOk (H : AH) (k : Nat) (t : TypeId) : Bool :=
 match H.get k with
 | some (.cells _ t' _ ex _ _ _) => ex || Nat.beq t t'
 | _ => false
def grow (H : AH) (i : Nat) (atEnd : Bool) (t : TypeId) (cs : List Value) : Option AH :=
 match H.get i with
 | some (.cells _ t' _ true root _ _) => bif H.alive i root && Nat.beq t t' then some (H.push (.cells cs t false false H.next H.next H.next)) else none
 | some (.cells ics t' ro false root thr tip) =>
  bif Nat.beq t t' && !ro then
   bif Nat.beq root i then
    bif Nat.ble thr i then
     bif Nat.beq tip i && atEnd then some ((H.put' i (.cells ics t' ro false root thr H.next)).push (.cells cs t false false root 0 0))
     else some ((H.put i (.cells ics t' ro false root H.next H.next)).push (.cells cs t false false root 0 0))
    else none
   else match H.get root with
    | some (.cells rcs rt rro rex rroot rthr rtip) =>
     bif Nat.ble rthr i then
      bif Nat.beq rtip i && atEnd then some ((H.put' root (.cells rcs rt rro rex rroot rthr H.next)).push (.cells cs t false false root 0 0))
      else some ((H.put root (.cells rcs rt rro rex rroot H.next H.next)).push (.cells cs t false false root 0 0))
     else none
    | _ => none
  else none
 | _ => none
end AH
def vcl : Value → List Value
 | .agg cs => cs.toList
 | v => [v]
def one : Value → Bool
 | .agg _ | .tuple _ => false
 | _ => true
def splice (cs : List Value) (off : Nat) (vs : List Value) : List Value := cs.take off ++ vs ++ cs.drop (off + vs.length)
def fillL (cs : List Value) : List (Nat × Nat × Value) → Option (List Value)
 | [] => some cs
 | (off,size,v) :: rest =>
  let vs := vcl v
  bif Nat.beq vs.length size && Nat.ble (off + size) cs.length then fillL (splice cs off vs) rest else none
def repl (zero : List Value) : Nat → List Value
 | 0 => []
 | n + 1 => zero ++ repl zero n
def bits (k : IntKind) (f : BitVec k.bits → BitVec k.bits → BitVec k.bits) (x y : Int) : Value :=
 .int k (k.wrap (f (BitVec.ofInt k.bits x) (BitVec.ofInt k.bits y)).toNat)
def arithInt (op : BinOp) (k : IntKind) (a b : Int) : Option Value :=
 match op with
 | .add => some (.int k (k.wrap (a + b)))
 | .sub => some (.int k (k.wrap (a - b)))
 | .mul => some (.int k (k.wrap (a * b)))
 | .quo => if b = 0 then none else some (.int k (k.wrap (a.tdiv b)))
 | .rem => if b = 0 then none else some (.int k (a.tmod b))
 | .and => some (bits k (· &&& ·) a b)
 | .or => some (bits k (· ||| ·) a b)
 | .xor => some (bits k (· ^^^ ·) a b)
 | .andNot => some (bits k (fun x y => x &&& ~~~y) a b)
 | .eql => some (.bool (a == b))
 | .neq => some (.bool (a != b))
 | .lss => some (.bool (a < b))
 | .leq => some (.bool (a ≤ b))
 | .gtr => some (.bool (a > b))
 | .geq => some (.bool (a ≥ b))
 | _ => none
def arithShift (op : BinOp) (k : IntKind) (a b : Int) : Option Value :=
 if b < 0 then none else
 match op with
 | .shl => some (.int k (k.wrap (a * 2 ^ (min b.toNat k.bits))))
 | .shr => some (.int k (a.fdiv (2 ^ (min b.toNat k.bits))))
 | _ => none
def arS (op : BinOp) (a b : ByteArray) : Option Value :=
 match op with
 | .add => if ((a.size + b.size : Nat) : Int) > IntKind.i64.max then none else some (.string (a ++ b))
 | .eql => some (.bool (a.toList == b.toList))
 | .neq => some (.bool !(a.toList == b.toList))
 | .lss => some (.bool (Op.bytesLess a.toList b.toList))
 | .leq => some (.bool (Op.bytesLess a.toList b.toList || a.toList == b.toList))
 | .gtr => some (.bool !(Op.bytesLess a.toList b.toList || a.toList == b.toList))
 | .geq => some (.bool !(Op.bytesLess a.toList b.toList))
 | _ => none
def arithV (op : BinOp) : Value → Value → Option Value
 | .int k a,.int k' b =>
  match op with
  | .shl | .shr => arithShift op k a b
  | _ => if k = k' then arithInt op k a b else none
 | .string a,.string b => arS op a b
 | _,_ => none
def eqNilV : NilK → Value → Value → Option Bool
 | .slice,.slice none _ _,.slice b _ _ => some b.isNone
 | .slice,.slice (some _) _ _,.slice none _ _ => some false
 | .map,.map none,.map b => some b.isNone
 | .map,.map (some _),.map none => some false
 | .func,.nilFunc,.nilFunc => some true
 | .func,.nilFunc,.func _ _ _ => some false
 | .func,.func _ _ _,.nilFunc => some false
 | .ptr,.pointer none,.pointer b => some b.isNone
 | .ptr,.pointer (some _),.pointer none => some false
 | _,_,_ => none
def eqAtom : Value → Value → Option Bool
 | .int k a,.int k' b => if k = k' then some (a == b) else none
 | .bool a,.bool b => some (a == b)
 | .string a,.string b => some (a.toList == b.toList)
 | _,_ => none
def eqList : List Value → List Value → Option Bool
 | [],[] => some true
 | x :: xs,y :: ys =>
  match eqAtom x y with
  | some true => eqList xs ys
  | some false => bif (x :: xs).length == (y :: ys).length then some false else none
  | none => none
 | _,_ => none
def unV (op : UnOp) : Value → Option Value
 | .int k n => match op with
  | .neg => some (.int k (k.wrap (0 - n)))
  | .xor => some (bits k (· ^^^ ·) (if k.signed then -1 else k.max) n)
  | _ => none
 | .bool b => match op with
  | .not => some (.bool !b)
  | _ => none
 | _ => none
def boundV (x : Value) (y : Nat) : Option Nat :=
 match x with
 | .int _ i => if 0 ≤ i ∧ i ≤ (y : Int) then some i.toNat else none
 | _ => none
def boundsV (len cap : Nat) (lo hi mx : Option Value) : Option (Nat × Nat × Nat) :=
 match (match mx with | some v => boundV v cap | none => some cap) with
 | none => none
 | some m =>
  match (match hi with | some v => boundV v m | none => match mx with | some _ => none | none => some len) with
  | none => none
  | some h =>
   match (match lo with | some v => boundV v h | none => some 0) with
   | none => none
   | some l => some (l,h,m)
def keyOk : KeyK → Value → Bool
 | .int,.int _ _ => true
 | .str,.string _ => true
 | .bool,.bool _ => true
 | _,_ => false
def keyEq : KeyK → Value → Value → Option Bool
 | .int,.int k a,.int k' b => if k = k' then some (a == b) else none
 | .str,.string a,.string b => some (a == b)
 | .bool,.bool a,.bool b => some (a == b)
 | _,_,_ => none
def findKeyL (kk : KeyK) (k : Value) : List MapEntry → Nat → Option (Option (Nat × Value))
 | [],_ => some none
 | e :: es,i =>
  match keyEq kk k e.key with
  | some true => some (some (i,e.val))
  | some false => findKeyL kk k es (i + 1)
  | none => none
inductive Out where
 | ret (v : Value)
 | pan (v : Value)
def undefV : Value := .tuple #[]
abbrev Inv := Value → List Value → AH → Option (Out × AH)
def ea (e : Env) : Arg → Option Value
 | .tmp t => e.get t
 | .val v => some v
def eas (e : Env) : List Arg → Option (List Value)
 | [] => some []
 | a :: as => match ea e a,eas e as with
  | some v,some vs => some (v :: vs)
  | _,_ => none
def eap (e : Env) : List (Nat × Nat × Arg) → Option (List (Nat × Nat × Value))
 | [] => some []
 | (o,n,a) :: as => match ea e a,eap e as with
  | some v,some vs => some ((o,n,v) :: vs)
  | _,_ => none
def eao (e : Env) : Option Arg → Option (Option Value)
 | none => some none
 | some a => (ea e a).map some
def ok1 (v : Value) (H : AH) : Option (Out × AH) := some (.ret v,H)
def isU8 : Value → Bool
 | .int .u8 _ => true
 | _ => false
def byteV : Value → UInt8
 | .int _ n => UInt8.ofNat n.toNat
 | _ => 0
def okO (v : Option Value) (H : AH) : Option (Out × AH) := match v with | some v => some (.ret v,H) | none => none
def mkInt (n : Int) : Value := .int .i64 n
def srC (H : AH) (size : Nat) : Value → Option (List Value × Nat)
 | .slice none n _ => bif n == 0 then some ([],0) else none
 | .slice (some a) n _ =>
  bif a.spot.isSome && n == 0 then some ([],0) else
  match H.row a.block with
  | some cs => bif a.spot.isNone && Nat.ble (a.off + n * size) cs.length then some (((cs.drop a.off).take (n * size)),n) else none
  | none => none
 | .string s => bif size == 1 then some (s.data.toList.map fun b => .int .u8 b.toNat,s.size) else none
 | _ => none
def appendV (H : AH) (t : TypeId) (size bytes : Nat) (s x : Value) : Option (Out × AH) :=
 match srC H size x with
 | none => none
 | some (new,m) =>
  match s with
  | .slice base len cap =>
   bif Nat.ble (len + m) cap then
    match base with
    | none => bif m == 0 then ok1 (.slice none (len + m) cap) H else none
    | some a => bif m == 0 then ok1 (.slice (some a) (len + m) cap) H else
     match H.row a.block with
     | some cs => bif a.spot.isNone && Nat.ble (a.off + len * size + new.length) cs.length && new.all one then
       match H.write a.block (splice cs (a.off + len * size) new) with
       | some H' => ok1 (.slice (some a) (len + m) cap) H'
       | none => none
      else none
     | none => none
   else bif Nat.ble ((2 * (len + m) + 1000) * (bytes + 1)) 281474976710656 then
    match base with
    | none => bif len == 0 && Nat.ble 1 size then some (.ret (.slice (some ⟨H.next,0,none⟩) (len + m) (len + m)),H.push (.cells new t false false H.next H.next H.next)) else none
    | some a =>
     match H.row a.block with
     | some cs => bif a.spot.isNone && Nat.ble (a.off + len * size) cs.length && Nat.ble 1 size && new.all one then
       match H.grow a.block (Nat.beq (a.off + len * size) cs.length && Nat.beq len cap) t ((cs.drop a.off).take (len * size) ++ new) with
       | some H' => ok1 (.slice (some ⟨H.next,0,none⟩) (len + m) (len + m)) H'
       | none => none
      else none
     | none => none
   else none
  | _ => none
def loadV (H : AH) (agg : Option Nat) : Value → Option Value
 | .pointer (some a) =>
  match H.row a.block with
  | some cs => match agg with
   | none => bif a.spot.isNone then cs[a.off]? else none
   | some n => bif a.spot.isNone && Nat.ble (a.off + n) cs.length then some (.agg ((cs.drop a.off).take n).toArray) else none
  | none => none
 | _ => none
def storeV (H : AH) (n : Nat) (p v : Value) : Option AH :=
 match p with
 | .pointer (some a) =>
  match H.row a.block with
  | some cs => bif a.spot.isNone && Nat.beq (vcl v).length n && Nat.ble (a.off + n) cs.length && (vcl v).all one then H.write a.block (splice cs a.off (vcl v)) else none
  | none => none
 | _ => none
def mapOf (H : AH) : Value → Option (List MapEntry)
 | .map none => some []
 | .map (some r) => match H.get r with
  | some (.map es _) => some es
  | _ => none
 | _ => none
def addrV (o : Nat) : Value → Option Value
 | .pointer (some a) => bif a.spot.isNone then some (.pointer (some ⟨a.block,a.off + o,none⟩)) else none
 | _ => none
def ev (inv : Inv) (e : Env) (H : AH) : IOp → Option (Out × AH)
 | .mov x => okO (ea e x) H
 | .pick c a b => match ea e c with
  | some (.bool t) => bif t then okO (ea e a) H else okO (ea e b) H
  | _ => none
 | .box t x => match ea e x with
  | some v => some (.ret (.pointer (some ⟨H.next,0,none⟩)),H.newRow t (vcl v))
  | none => none
 | .build zero parts => match eap e parts with
  | some ps => match fillL zero ps with
   | some cs => ok1 (.agg cs.toArray) H
   | none => none
  | none => none
 | .buildSlice t len zero parts => match eap e parts with
  | some ps => match fillL zero ps with
   | some cs => some (.ret (.slice (some ⟨H.next,0,none⟩) len len),H.newRow t cs)
   | none => none
  | none => none
 | .load agg a => match ea e a with
  | some p => okO (loadV H agg p) H
  | none => none
 | .store n a v => match ea e a,ea e v with
  | some p,some v => match storeV H n p v with
   | some H' => ok1 undefV H'
   | none => none
  | _,_ => none
 | .nilCheck x => match ea e x with
  | some (.pointer (some a)) => ok1 (.pointer (some a)) H
  | some (.func (.func f) a b) => ok1 (.func (.func f) a b) H
  | _ => none
 | .arith op x y => match ea e x,ea e y with
  | some a,some b => okO (arithV op a b) H
  | _,_ => none
 | .eqBool neg x y => match ea e x,ea e y with
  | some (.bool a),some (.bool b) => ok1 (.bool ((a == b) != neg)) H
  | _,_ => none
 | .eqNil k neg x y => match ea e x,ea e y with
  | some a,some b => match eqNilV k a b with
   | some r => ok1 (.bool (r != neg)) H
   | none => none
  | _,_ => none
 | .eqPtr neg x y => match ea e x,ea e y with
  | some (.pointer (some a)),some (.pointer (some b)) => bif Nat.beq a.block b.block then ok1 (.bool ((a == b) != neg)) H else none
  | some a,some b => match eqNilV .ptr a b with
   | some r => ok1 (.bool (r != neg)) H
   | none => none
  | _,_ => none
 | .eqFlat neg x y => match ea e x,ea e y with
  | some (.agg a),some (.agg b) => match eqList a.toList b.toList with
   | some r => ok1 (.bool (r != neg)) H
   | none => none
  | _,_ => none
 | .un op x => match ea e x with
  | some a => okO (unV op a) H
  | none => none
 | .toInt k x => match ea e x with
  | some (.int _ n) => ok1 (.int k (k.wrap n)) H
  | _ => none
 | .iface t x => match ea e x with
  | some v => ok1 (.iface t v) H
  | none => none
 | .func fn first captured => match eas e first,eas e captured with
  | some a,some b => ok1 (.func (.func fn) a.toArray b.toArray) H
  | _,_ => none
 | .makeSlice t bytes zero l c => match ea e l,ea e c with
  | some (.int _ l),some (.int _ c) =>
   if 0 ≤ l ∧ l ≤ c ∧ c ≤ 9223372036854775807 ∧ (bytes : Int) * c ≤ 281474976710656 then
    some (.ret (.slice (some ⟨H.next,0,none⟩) l.toNat c.toNat),H.newRow t (repl zero c.toNat)) else none
  | _,_ => none
 | .makeMap => some (.ret (.map (some H.next)),H.push (.map [] 0))
 | .slice t size x lo hi mx => match ea e x,eao e lo,eao e hi,eao e mx with
  | some (.slice a len cap),some lo,some hi,some mx => match boundsV len cap lo hi mx with
   | some (l,h,m) => match a with
    | none => ok1 (.slice none (h - l) (m - l)) H
    | some a => bif a.spot.isSome && m == 0 then ok1 (.slice (some a) 0 0) H else bif a.spot.isNone && (Nat.beq l 0 || H.tyOk a.block t) then ok1 (.slice (some ⟨a.block,a.off + l * size,none⟩) (h - l) (m - l)) H else none
   | none => none
  | _,_,_,_ => none
 | .sliceStr x lo hi => match ea e x,eao e lo,eao e hi with
  | some (.string s),some lo,some hi => match boundsV s.size s.size lo hi none with
   | some (l,h,_) => ok1 (.string (s.extract l h)) H
   | none => none
  | _,_,_ => none
 | .sliceArr n size x lo hi mx => match ea e x,eao e lo,eao e hi,eao e mx with
  | some (.pointer (some a)),some lo,some hi,some mx => match boundsV n n lo hi mx with
   | some (l,h,m) => bif a.spot.isNone then ok1 (.slice (some ⟨a.block,a.off + l * size,none⟩) (h - l) (m - l)) H else none
   | none => none
  | _,_,_,_ => none
 | .fieldAddr off x => match ea e x with
  | some p => okO (addrV off p) H
  | none => none
 | .field off agg x => match ea e x with
  | some (.agg cs) => okO (match agg with
   | none => cs.toList[off]?
   | some n => some (.agg ((cs.toList.drop off).take n).toArray)) H
  | _ => none
 | .indexAddr size x i => match ea e x,ea e i with
  | some (.slice (some a) len _),some (.int _ i) => if 0 ≤ i ∧ i < (len : Int) then (bif a.spot.isNone then ok1 (.pointer (some ⟨a.block,a.off + i.toNat * size,none⟩)) H else none) else none
  | _,_ => none
 | .indexAddrArr len size x i => match ea e x,ea e i with
  | some (.pointer (some a)),some (.int _ i) => if 0 ≤ i ∧ i < (len : Int) then (bif a.spot.isNone then ok1 (.pointer (some ⟨a.block,a.off + i.toNat * size,none⟩)) H else none) else none
  | _,_ => none
 | .indexStr x i => match ea e x,ea e i with
  | some (.string s),some (.int _ i) => if 0 ≤ i then (match s[i.toNat]? with | some b => ok1 (.int .u8 b.toNat) H | none => none) else none
  | _,_ => none
 | .indexArr len size agg x i => match ea e x,ea e i with
  | some (.agg cs),some (.int _ i) => if 0 ≤ i ∧ i < (len : Int) then okO (match agg with
   | none => cs.toList[i.toNat * size]?
   | some n => some (.agg ((cs.toList.drop (i.toNat * size)).take n).toArray)) H else none
  | _,_ => none
 | .extract x i => match ea e x with
  | some (.tuple vs) => okO vs.toList[i]? H
  | _ => none
 | .lookup kk zero ok m k => match ea e m,ea e k with
  | some m,some k => match mapOf H m with
   | some es => bif keyOk kk k then
     match findKeyL kk k es 0 with
     | some (some (_,v)) => ok1 (bif ok then .tuple #[v,.bool true] else v) H
     | some none => ok1 (bif ok then .tuple #[zero,.bool false] else zero) H
     | none => none
    else none
   | none => none
  | _,_ => none
 | .mapUpdate kk m k v => match ea e m,ea e k,ea e v with
  | some (.map (some r)),some k,some v => match H.get r with
   | some (.map es clock) => bif keyOk kk k then
     match findKeyL kk k es 0 with
     | some (some (i,_)) => ok1 undefV (H.put r (.map (es.modify i fun e => { e with key := k,val := v }) clock))
     | some none => ok1 undefV (H.put r (.map (es ++ [{ key := k,val := v,born := clock }]) (clock + 1)))
     | none => none
    else none
   | _ => none
  | _,_,_ => none
 | .rangeStr x => match ea e x with
  | some (.string s) => some (.ret (.pointer (some ⟨H.next,0,none⟩)),H.push (.iter s 0))
  | _ => none
 | .nextStr x => match ea e x with
  | some (.pointer (some ⟨r,0,none⟩)) => match H.get r with
   | some (.iter s pos) => bif Nat.ble (pos + 1) s.size then
     let d := Utf8.decode s pos
     ok1 (.tuple #[.bool true,mkInt pos,.int .i32 d.1]) (H.put r (.iter s (pos + d.2)))
    else ok1 (.tuple #[.bool false]) H
   | _ => none
  | _ => none
 | .toBytes t x => match ea e x with
  | some (.string s) => some (.ret (.slice (some ⟨H.next,0,none⟩) s.size s.size),H.push (.cells (s.data.toList.map fun b => .int .u8 b.toNat) t false false H.next H.next H.next))
  | _ => none
 | .ofBytes x => match ea e x with
  | some (.string _) => none
  | some v => match srC H 1 v with
   | some (cs,_) => bif cs.all isU8 then ok1 (.string ⟨(cs.map byteV).toArray⟩) H else none
   | none => none
  | none => none
 | .assertTo t zero ok x => match ea e x with
  | some (.iface t' v) => bif Nat.beq t t' then ok1 (bif ok then .tuple #[v,.bool true] else v) H else bif ok then ok1 (.tuple #[zero,.bool false]) H else none
  | some .nilIface => bif ok then ok1 (.tuple #[zero,.bool false]) H else none
  | _ => none
 | .call f args => match ea e f,eas e args with
  | some f,some vs => inv f vs H
  | _,_ => none
 | .lenStr x => match ea e x with
  | some (.string s) => ok1 (mkInt s.size) H
  | _ => none
 | .lenSl x => match ea e x with
  | some (.slice _ n _) => ok1 (mkInt n) H
  | _ => none
 | .lenMap x => match ea e x with
  | some m => match mapOf H m with
   | some es => ok1 (mkInt es.length) H
   | none => none
  | none => none
 | .lenArr n => ok1 (mkInt n) H
 | .append t size bytes s x => match ea e s,ea e x with
  | some s,some x => appendV H t size bytes s x
  | _,_ => none
 | .copy size d s => match ea e d,ea e s with
  | some (.slice base len _),some s => match srC H size s with
   | some (cs,m) =>
    let n := min m len
    bif n * size == 0 then ok1 (mkInt n) H else match base with
    | none => none
    | some a => match H.row a.block with
     | some row => bif a.spot.isNone && Nat.ble (a.off + n * size) row.length && cs.all one then
       match H.write a.block (splice row a.off (cs.take (n * size))) with
       | some H' => ok1 (mkInt n) H'
       | none => none
      else none
     | none => none
   | none => none
  | _,_ => none
 | .clear zero x => match ea e x with
  | some (.slice base len _) => bif len == 0 then ok1 (.tuple #[]) H else match base with
   | none => ok1 (.tuple #[]) H
   | some a => match H.row a.block with
    | some row => bif a.spot.isNone && Nat.ble (a.off + len * zero.length) row.length && zero.all one then
      match H.write a.block (splice row a.off (repl zero len)) with
      | some H' => ok1 (.tuple #[]) H'
      | none => none
     else none
    | none => none
  | _ => none
 | .clearMap x => match ea e x with
  | some (.map (some r)) => match H.get r with
   | some (.map _ clock) => ok1 (.tuple #[]) (H.put r (.map [] clock))
   | _ => none
  | _ => none
 | .delete kk m k => match ea e m,ea e k with
  | some (.map (some r)),some k => match H.get r with
   | some (.map es clock) => bif keyOk kk k then
     match findKeyL kk k es 0 with
     | some (some (i,_)) => ok1 (.tuple #[]) (H.put r (.map (es.eraseIdx i) clock))
     | some none => ok1 (.tuple #[]) H
     | none => none
    else none
   | _ => none
  | _,_ => none
 | .minMax mx x y => match ea e x,ea e y with
  | some (.int k a),some (.int k' b) => if k = k' then ok1 (.int k (bif mx then (if b > a then b else a) else (if b < a then b else a))) H else none
  | _,_ => none
 | .panic x => match ea e x with
  | some (.iface t v) => some (.pan (.iface t v),H)
  | _ => none
 | .bad _ => none
def setD (e : Env) (d : Option Nat) (v : Value) : Env := match d with | some t => e.set t v | none => e
def wtI (e : Env) : Option (Nat × Bool) → Option Bool
 | none => some true
 | some (t,b) => match e.get t with
  | some (.bool c) => some (c == b)
  | some _ => some false
  | none => none
def evs (inv : Inv) : List Ins → Env → AH → Option (Ex × Env × AH)
 | [],e,H => some (.norm,e,H)
 | i :: rest,e,H =>
  match wtI e i.guard with
  | none => none
  | some false => evs inv rest (setD e i.dst undefV) H
  | some true => match ev inv e H i.op with
   | some (.ret v,H') => evs inv rest (setD e i.dst v) H'
   | some (.pan v,H') => some (.pan v,e,H')
   | none => none
def evq (inv : Inv) : List Ins → Env → AH → Option (Env × AH)
 | [],e,H => some (e,H)
 | i :: rest,e,H =>
  match wtI e i.guard with
  | none => none
  | some false => evq inv rest (setD e i.dst undefV) H
  | some true => match ev inv e ⟨H.objs,H.next,H.next⟩ i.op with
   | some (.ret v,H') => bif Nat.ble H.next H'.low then evq inv rest (setD e i.dst v) ⟨H'.objs,H'.next,H.low⟩ else none
   | _ => none
def iter (body : Env → AH → Option (Ex × Env × AH)) : Nat → Env → AH → Option (Ex × Env × AH)
 | 0,_,_ => none
 | n + 1,e,H => match body e H with
  | some (.norm,e',H') => iter body n e' H'
  | r => r
def run (inv : Inv) (n : Nat) : ICode → Env → AH → Option (Ex × Env × AH)
 | .skip,e,H => some (.norm,e,H)
 | .ops l,e,H => evs inv l e H
 | .draw q t,e,H => match evq inv q e H with
  | some (e1,H1) => match evs inv t e1 H1 with
   | some (.norm,e',H') => some (.norm,e',H')
   | _ => none
  | none => none
 | .seq a b,e,H => match run inv n a e H with
  | some (.norm,e',H') => run inv n b e' H'
  | r => r
 | .cond c a b,e,H => match ea e c with
  | some (.bool t) => bif t then run inv n a e H else run inv n b e H
  | _ => none
 | .block id c,e,H => match run inv n c e H with
  | some (.exit j,e',H') => bif Nat.beq j id then some (.norm,e',H') else some (.exit j,e',H')
  | r => r
 | .loop c,e,H => iter (run inv n c) n e H
 | .rangeFunc f params assign body,e,H => match ea e f with
  | some (.func (.func fn) b c) =>
   match inv (.func (.func fn) b c) [.func (.yield H.next) #[] #[]] (H.push (.loop e params assign body 0 none)) with
   | some (.ret _,H') => match H'.get H.next with
    | some (.loop e' ps' a' b' st pend) =>
     bif Nat.beq st 1 then none else
     some (pend.getD .norm,e,H'.put H.next (.loop e' ps' a' b' 3 pend))
    | _ => none
   | _ => none
  | _ => none
 | .exit id,e,H => some (.exit id,e,H)
 | .ret,e,H => some (.ret,e,H)
 | .bad _,_,_ => none
def resV (e : Env) (H : AH) : IRes → Option Value
 | .tmp t => e.get t
 | .cell a agg => match e.get a with
  | some p => loadV H agg p
  | none => none
def resVs (e : Env) (H : AH) : List IRes → Option (List Value)
 | [] => some []
 | r :: rs => match resV e H r,resVs e H rs with
  | some v,some vs => some (v :: vs)
  | _,_ => none
def resOut (e : Env) (H : AH) (rs : List IRes) : Option Value :=
 match resVs e H rs with
 | some [v] => some v
 | some vs => some (.tuple vs.toArray)
 | none => none
def setAll (e : Env) : List Nat → List Value → Option Env
 | [],[] => some e
 | t :: ts,v :: vs => setAll (e.set t v) ts vs
 | _,_ => none
abbrev Ext := FuncId → Option (List Value → AH → Option (Out × AH))
def isYield : Value → Bool
 | .func (.yield _) _ _ => true
 | _ => false
def den (F : FuncId → Option IFunc) (E X : Ext) : Nat → Inv
 | 0,_,_,_ => none
 | n + 1,fv,args,H =>
  match fv with
  | .func (.func f) first captured =>
   let all := first.toList ++ args ++ captured.toList
   match E f with
   | some g => g all H
   | none => match X f with
   | some g => bif args.any isYield then none else g all H
   | none => match F f with
    | none => none
    | some fn => match run (den F E X n) n fn.body (T.ofFrom 0 all) H with
     | some (.norm,e,H') | some (.ret,e,H') => match resOut e H' fn.results with
      | some v => some (.ret v,H')
      | none => none
     | some (.pan v,_,H') => some (.pan v,H')
     | _ => none
  | .func (.yield l) first _ =>
   match H.get l with
   | some (.loop e params assign body st _) =>
    bif Nat.beq st 0 && first.size == 0 then
     match setAll e params args with
     | none => none
     | some e1 => match run (den F E X n) n assign e1 H with
      | some (.norm,e2,H2) => match H2.get l with
       | some (.loop e' ps' a' b' 0 pend') =>
        match run (den F E X n) n body e2 (H2.put l (.loop e' ps' a' b' 1 pend')) with
        | some (.norm,_,H3) => match H3.get l with
         | some (.loop e' ps' a' b' _ _) => some (.ret (.bool true),H3.put l (.loop e' ps' a' b' 0 none))
         | _ => none
        | some (.pan _,_,_) => none
        | some (x,_,H3) => match H3.get l with
         | some (.loop e' ps' a' b' _ _) => some (.ret (.bool false),H3.put l (.loop e' ps' a' b' 2 (some x)))
         | _ => none
        | none => none
       | _ => none
      | _ => none
    else none
   | _ => none
  | _ => none
end Go.Den
/- Den, part B: from the model's code to the intermediate code. -/
namespace Go.Den
def cArg : Operand → Arg
 | .tmp t => .tmp t
 | .const v => .val v
 | .global g => .val (.pointer (some ⟨g,0,none⟩))
 | .func f => .val (.func (.func f) #[] #[])
def cArgs (xs : Array Operand) : List Arg := xs.toList.map cArg
def szOf (P : Program) (t : TypeId) : Option Nat := (P.info? t).map (·.size)
def bytesOf' (P : Program) (t : TypeId) : Option Nat := (P.info? t).map (·.bytes)
def zeroOf (P : Program) (t : TypeId) : Option Value := (P.info? t).bind (·.zero)
def aggOf (P : Program) (t : TypeId) : Option (Option Nat) :=
 match P.underlying t with
 | none => none
 | some (.struct _) | some (.array _ _) => (szOf P t).map some
 | some _ => some none
def keyK (P : Program) (t : TypeId) : Option KeyK :=
 match P.underlying t with
 | some (.int _) => some .int
 | some .string => some .str
 | some .bool => some .bool
 | _ => none
def cParts (P : Program) (place : Nat → Option (Nat × Nat)) : List (Nat × Operand) → Option (List (Nat × Nat × Arg))
 | [] => some []
 | (i,x) :: rest => match place i,cParts P place rest with
  | some (o,n),some r => some ((o,n,cArg x) :: r)
  | _,_ => none
def fieldPlaces (P : Program) (fs : Array Field) (i : Nat) : Option (Nat × Nat) :=
 match fs[i]? with
 | some f => (szOf P f.type).map fun n => (f.offset,n)
 | none => none
def cBin (P : Program) (op : BinOp) (t : TypeId) (x y : Arg) : IOp :=
 match P.underlying t with
 | some (.int _) | some .string => .arith op x y
 | some .bool => match op with
  | .eql => .eqBool false x y
  | .neq => .eqBool true x y
  | _ => .bad "binop on bool"
 | some (.slice _) => match op with
  | .eql => .eqNil .slice false x y
  | .neq => .eqNil .slice true x y
  | _ => .bad "binop on slice"
 | some (.map _ _) => match op with
  | .eql => .eqNil .map false x y
  | .neq => .eqNil .map true x y
  | _ => .bad "binop on map"
 | some (.func _ _ _) => match op with
  | .eql => .eqNil .func false x y
  | .neq => .eqNil .func true x y
  | _ => .bad "binop on func"
 | some (.pointer el) => match szOf P el with
  | some (_ + 1) => match op with
   | .eql => .bad "x"
   | .neq => .bad "x"
   | _ => .bad "binop on pointer"
  | _ => .bad "binop on pointer"
 | _ => .bad "binop"
def cBuiltin (P : Program) (b : Builtin) (ts : List TypeId) (xs : List Operand) : IOp :=
 match b,ts,xs with
 | .len,t :: _,[x] => match P.underlying t with
  | some .string => .lenStr (cArg x)
  | some (.slice _) => .lenSl (cArg x)
  | some (.map _ _) => .lenMap (cArg x)
  | some (.array n _) => .lenArr n
  | _ => .bad "len"
 | .append,[t,u],[s,x] => match P.underlying t,P.underlying u with
  | some (.slice e),some d => match szOf P e,bytesOf' P e,zeroOf P e with
   | some n, some by_, some z => if n = (vcl z).length then (match d with | .slice _ | .string => .append e n by_ (cArg s) (cArg x) | _ => .bad "append zeros") else .bad "append"
   | _, _, _ => .bad "append"
  | _, _ => .bad "append"
 | .copy,t :: _,[d,s] => match P.underlying t with
  | some (.slice e) => match szOf P e with
   | some n => .bad "x"
   | none => .bad "copy"
  | _ => .bad "copy"
 | .clear,t :: _,[x] => match P.underlying t with
  | some (.slice e) => match zeroOf P e with
   | some z => if (vcl z).length ≠ 0 then .bad "x" else .bad "clear"
   | none => .bad "clear"
  | _ => .bad "clear"
 | .min,_,[x,y] => .minMax false (cArg x) (cArg y)
 | .max,_,[x,y] => .minMax true (cArg x) (cArg y)
 | .panic,_,[x] => .panic (cArg x)
 | _, _, _ => .bad "builtin"
def cConv (P : Program) (src dst : TypeId) (x : Arg) : IOp :=
 match P.underlying src,P.underlying dst with
 | some (.int _),some (.int k) => .toInt k x
 | some .string,some .string => .sliceStr x none none
 | some (.slice e),some .string => match P.underlying e with
  | some (.int .u8) => .ofBytes x
  | _ => .bad "convert"
 | _, _ => .bad "convert"
def cOp (P : Program) : Op → IOp
 | .move x | .assign x => .mov (cArg x)
 | .pick c a b => .pick (cArg c) (cArg a) (cArg b)
 | .alloc t => match zeroOf P t with
  | some z => .box t (.val z)
  | none => .bad "alloc"
 | .box t x => .box t (cArg x)
 | .build t ps => match zeroOf P t,P.underlying t with
  | some z,some (.struct fs) => if fs.toList.all (fun f => (szOf P f.type).isSome) then match cParts P (fieldPlaces P fs) ps.toList with
    | some l => .build (vcl z) l
    | none => .bad "build"
   else .bad "build"
  | some z,some (.array _ e) => match szOf P e with
   | some n => match cParts P (fun i => some (i * n,n)) ps.toList with
    | some l => .build (vcl z) l
    | none => .bad "build"
   | none => .bad "build"
  | _, _ => .bad "build"
 | .buildSlice t len ps => match P.underlying t with
  | some (.slice e) => match szOf P e,zeroOf P e with
   | some n,some z => if len * n ≤ 16777216 ∧ n = (vcl z).length ∧ n ≠ 0 then match cParts P (fun i => some (i * n,n)) ps.toList with
     | some l => .buildSlice e len (repl (vcl z) len) l
     | none => .bad "buildSlice"
    else .bad "buildSlice"
   | _, _ => .bad "buildSlice"
  | _ => .bad "buildSlice"
 | .insert t m k v | .mapUpdate t m k v => match P.underlying t with
  | some (.map kt _) => match keyK P kt with
   | some kk => .mapUpdate kk (cArg m) (cArg k) (cArg v)
   | none => .bad "mapUpdate"
  | _ => .bad "mapUpdate"
 | .load t a => match aggOf P t with
  | some g => .load g (cArg a)
  | none => .bad "load"
 | .store t a v => match szOf P t with
  | some n => .store n (cArg a) (cArg v)
  | none => .bad "store"
 | .nilCheck x => .nilCheck (cArg x)
 | .binOp op t x y _ => cBin P op t (cArg x) (cArg y)
 | .unOp op _ x => .un op (cArg x)
 | .convert s d x => cConv P s d (cArg x)
 | .makeInterface t x => match P.underlying t with
  | some (.interface _) | none => .bad "makeInterface"
  | _ => .iface t (cArg x)
 | .makeFunc (.func f) a b => .func f (cArgs a) (cArgs b)
 | .makeMap _ none => .makeMap
 | .makeMap t (some (.const (.int _ _))) => match P.underlying t with
  | some (.map _ _) => .makeMap
  | _ => .bad "makeMap"
 | .makeSlice t l c => match P.underlying t with
  | some (.slice e) => match bytesOf' P e,zeroOf P e,szOf P e with
   | some by_, some z, some n => if n = (vcl z).length ∧ n ≠ 0 then .makeSlice e by_ (vcl z) (cArg l) (cArg c) else .bad "makeSlice"
   | _, _, _ => .bad "makeSlice"
  | _ => .bad "makeSlice"
 | .slice t x lo hi mx => match P.underlying t with
  | some .string => match mx with
   | none => .sliceStr (cArg x) (lo.map cArg) (hi.map cArg)
   | some _ => .bad "slice"
  | some (.slice e) => match szOf P e with
   | some n => .slice e n (cArg x) (lo.map cArg) (hi.map cArg) (mx.map cArg)
   | none => .bad "slice"
  | some (.array k e) => match szOf P e with
   | some n => .sliceArr k n (cArg x) (lo.map cArg) (hi.map cArg) (mx.map cArg)
   | none => .bad "slice"
  | _ => .bad "slice"
 | .fieldAddr t x i => match P.underlying t with
  | some (.struct fs) => match fieldPlaces P fs i with
   | some (o, n) => if n = 0 then .bad "fieldAddr" else .fieldAddr o (cArg x)
   | none => .bad "fieldAddr"
  | _ => .bad "fieldAddr"
 | .field t x i => match P.underlying t with
  | some (.struct fs) => match fs[i]? with
   | some f => match aggOf P f.type with
    | some g => .field f.offset g (cArg x)
    | none => .bad "field"
   | none => .bad "field"
  | _ => .bad "field"
 | .indexAddr t x i => match P.underlying t with
  | some (.slice e) => match szOf P e with
   | some n => .indexAddr n (cArg x) (cArg i)
   | none => .bad "indexAddr"
  | some (.array k e) => match szOf P e with
   | some n => .indexAddrArr k n (cArg x) (cArg i)
   | none => .bad "indexAddr"
  | _ => .bad "indexAddr"
 | .index t x i => match P.underlying t with
  | some .string => .indexStr (cArg x) (cArg i)
  | some (.array k e) => match szOf P e,aggOf P e with
   | some n,some g => .indexArr k n g (cArg x) (cArg i)
   | _, _ => .bad "index"
  | _ => .bad "index"
 | .lookup t x i ok => match P.underlying t with
  | some (.map k e) => match zeroOf P e with
   | some z => match keyK P k with
    | some kk => .lookup kk z ok (cArg x) (cArg i)
    | none => .bad "lookup"
   | none => .bad "lookup"
  | _ => .bad "lookup"
 | .range t x => match P.underlying t with
  | some .string => .rangeStr (cArg x)
  | _ => .bad "range"
 | .next it true => .nextStr (cArg it)
 | .typeAssert x _ t ok => match P.underlying t,zeroOf P t with
  | some (.interface _), _ => .bad "typeAssert"
  | some _, some z => .bad "x"
  | _, _ => .bad "typeAssert"
 | .extract x i => .extract (cArg x) i
 | .call c => match c.callee with
  | .value f => .call (cArg f) (cArgs c.args)
  | .builtin b => cBuiltin P b c.argTypes.toList c.args.toList
  | .invoke _ _ => .bad "invoke"
 | .panic x => .panic (cArg x)
 | _ => .bad "op"
def cIns (P : Program) (ops : Array Oper) (o : Oper) : Ins :=
 match o.guard with
 | none => ⟨o.dst,none,cOp P o.op⟩
 | some (j,b) => match (ops[j]?).bind (·.dst) with
  | some t => ⟨o.dst,some (t,b),cOp P o.op⟩
  | none => ⟨o.dst, none, .bad "guard"⟩
def IOp.args : IOp → List Arg
 | .mov x | .box _ x | .load _ x | .nilCheck x | .un _ x | .toInt _ x | .iface _ x | .fieldAddr _ x | .field _ _ x | .extract x _ | .rangeStr x | .nextStr x | .toBytes _ x | .ofBytes x | .assertTo _ _ _ x | .lenStr x | .lenSl x | .lenMap x | .clearMap x | .clear _ x | .panic x => [x]
 | .pick a b c | .mapUpdate _ a b c => [a,b,c]
 | .build _ ps | .buildSlice _ _ _ ps => ps.map (·.2.2)
 | .store _ a b | .arith _ a b | .eqBool _ a b | .eqNil _ _ a b | .eqPtr _ a b | .eqFlat _ a b | .makeSlice _ _ _ a b | .indexAddr _ a b | .indexAddrArr _ _ a b | .indexStr a b | .indexArr _ _ _ a b | .lookup _ _ _ a b | .append _ _ _ a b | .copy _ a b | .delete _ a b | .minMax _ a b => [a,b]
 | .func _ a b => a ++ b
 | .makeMap | .lenArr _ | .bad _ => []
 | .slice _ _ x a b c | .sliceArr _ _ x a b c => x :: (a.toList ++ b.toList ++ c.toList)
 | .sliceStr x a b => x :: (a.toList ++ b.toList)
 | .call f as => f :: as
def tailOf (before : Array Nat) : Nat → Nat
 | 0 => 0
 | i + 1 => if before.getD i 0 % 2 ^ i == 2 ^ i - 1 then tailOf before i else i + 1
def quietOp : IOp → Bool
 | .store .. | .mapUpdate .. | .nextStr .. | .copy .. | .clear .. | .clearMap .. | .delete .. | .panic .. | .bad .. => false
 | _ => true
def abO : Op → Bool
 | .store .. | .mapUpdate .. | .insert .. | .next .. => false
 | .call c => match c.callee with
  | .builtin .len | .builtin .min | .builtin .max => true
  | _ => false
 | _ => true
def argT : Arg → List Nat
 | .tmp t => [t]
 | .val _ => []
def readsI (i : Ins) : List Nat := i.op.args.flatMap argT ++ (match i.guard with | some (t,_) => [t] | none => [])
def quietOk (ops : Array Oper) (ins : List Ins) (before : Array Nat) (q : Nat) : Bool :=
 (List.range q).all fun i =>
  let o := ops.getD i default
  let x := ins.getD i ⟨none, none, .bad ""⟩
  quietOp x.op &&
  (List.range q).all fun j =>
   let o' := ops.getD j default
   let x' := ins.getD j ⟨none, none, .bad ""⟩
   (i == j || (match o.dst with
    | none => true
    | some d => o'.dst != some d && (!((readsI x').contains d) || (i < j && (before.getD j 0).testBit i)))) &&
   (match o.dst with | some d => !(readsI x).contains d | none => true) &&
   (!(i < j) || abO o.op || abO o'.op || (before.getD j 0).testBit i)
def backOk (ops : Array Oper) : Bool := (List.range ops.size).all fun i => (ops.getD i default).after.all fun e => !Region.binds .any e || Nat.blt e.on i
def freeOp : IOp → Bool
 | .mov _ | .extract _ _ | .pick _ _ _ | .arith _ _ _ | .un _ _ | .toInt _ _ => true
 | _ => false
def freeOk (ops : Array Oper) (ins : List Ins) (before : Array Nat) (q : Nat) : Bool :=
 (List.range ops.size).all fun k => Nat.blt k q || (List.range k).all fun j =>
  (before.getD k 0).testBit j || (Nat.blt j q &&
   (let o := ops.getD j default
    let x := ins.getD j ⟨none, none, .bad ""⟩
    let o' := ops.getD k default
    let x' := ins.getD k ⟨none, none, .bad ""⟩
    o.guard.isNone && freeOp x.op && (match o.dst with | some d => o'.dst != some d && !(readsI x').contains d | none => false) && (readsI x).all fun t => o'.dst != some t))
def cutQ (ops : Array Oper) (ins : List Ins) (before : Array Nat) : Nat :=
 let q := tailOf before ops.size
 if quietOk ops ins before q then q else (ins.takeWhile fun x => quietOp x.op).length
def cCode (P : Program) : Code → ICode
 | .skip => .skip
 | .region _ ops draw =>
  let ins := ops.toList.map (cIns P ops)
  if draw then
   let b := Region.before ops
   let q := cutQ ops ins b
   if quietOk ops ins b q && backOk ops && freeOk ops ins b q then .draw (ins.take q) (ins.drop q) else .bad "draw"
  else .ops ins
 | .seq a b => .seq (cCode P a) (cCode P b)
 | .cond c a b => .cond (cArg c) (cCode P a) (cCode P b)
 | .block id c => .block id (cCode P c)
 | .loop c => .loop (cCode P c)
 | .rangeFunc f ps a b => .rangeFunc (cArg f) ps.toList (cCode P a) (cCode P b)
 | .exit id => .exit id
 | .scope c => cCode P c
 | .label _ => .skip
 | .goto _ => .bad "goto"
 | .ret => .ret
 | .refuse w => .bad w
def cRes (P : Program) : ResultVar → Option IRes
 | .tmp t => some (.tmp t)
 | .cell a t => (aggOf P t).map fun g => .cell a g
def cRess (P : Program) : List ResultVar → Option (List IRes)
 | [] => some []
 | r :: rs => match cRes P r,cRess P rs with
  | some x,some xs => some (x :: xs)
  | _,_ => none
def cFunc (P : Program) (fn : Func) : Option IFunc :=
 match fn.body,cRess P fn.results.toList with
 | some c,some rs => some ⟨fn.ntmps,rs,cCode P c⟩
 | _,_ => none
def IOp.zeros : IOp → List Value
 | .build z _ | .buildSlice _ _ z _ | .makeSlice _ _ z _ _ | .clear z _ => z
 | .lookup _ z _ _ _ | .assertTo _ z _ _ => [z]
 | _ => []
def closedV : Nat → Value → Bool
 | 0,_ => false
 | n + 1,v => match v with
  | .bool _ | .int _ _ | .float _ _ | .string _ | .nilFunc | .nilIface | .pointer none | .slice none 0 0 | .map none | .chan none => true
  | .iface _ v => closedV n v
  | .agg cs | .tuple cs => cs.toList.all (closedV n)
  | .func (.func _) a b => a.toList.all (closedV n) && b.toList.all (closedV n)
  | _ => false
def argOk (gl : Nat → Bool) : Arg → Bool
 | .tmp _ => true
 | .val (.pointer (some ⟨g,o,s⟩)) => gl g && Nat.beq o 0 && s.isNone
 | .val v => closedV 7 v
def IOp.ok (gl : Nat → Bool) (io : IOp) : Bool := io.args.all (argOk gl) && io.zeros.all (closedV 7)
def guardOk (N : Nat) (d : Option Nat) : Bool := match d with | some t => Nat.blt t N | none => true
def Ins.ok (gl : Nat → Bool) (N : Nat) (i : Ins) : Bool := guardOk N i.dst && i.op.ok gl
def ICode.ok (gl : Nat → Bool) (N : Nat) : ICode → Bool
 | .ops l => l.all (Ins.ok gl N)
 | .draw q t => q.all (Ins.ok gl N) && t.all (Ins.ok gl N)
 | .seq a b => a.ok gl N && b.ok gl N
 | .cond c a b => argOk gl c && a.ok gl N && b.ok gl N
 | .block _ c => c.ok gl N
 | .loop c => c.ok gl N
 | .rangeFunc f ps a b => argOk gl f && (ps.all fun t => Nat.blt t N) && a.ok gl N && b.ok gl N
 | _ => true
end Go.Den
/- Den, part C: lists and maps that are related part by part; when an abstract value and a value of the machine are the same. -/
namespace Go.Den
namespace T
variable {α : Type}
theorem get_single : ∀ (f k : Nat) (x : α) (j : Nat),k < f → (single f k x).get j = if j = k then some x else none
 | 0,k,x,j,h => by omega
 | f + 1,k,x,j,h => by
  unfold single
  by_cases hk : k = 0
  ·subst hk
   by_cases hj : j = 0
   ·subst hj; simp [get]
   ·have hj' : (j == 0) = false := by simpa using hj
    simp [get,hj,hj']
  ·have hk' : (k == 0) = false := by simpa using hk
   simp only [hk',cond_false]
   by_cases hp : k % 2 = 1
   ·have hp' : (k % 2 == 1) = true := by simpa using hp
    simp only [hp',cond_true,get]
    have ih := get_single f (k / 2) x (j / 2) (by omega)
    by_cases hj : j = 0
    ·subst hj; simp; omega
    ·have hj' : (j == 0) = false := by simpa using hj
     simp only [hj',cond_false]
     by_cases hjp : j % 2 = 1
     ·have hjp' : (j % 2 == 1) = true := by simpa using hjp
      simp only [hjp',cond_true,ih]
      by_cases e : j = k
      ·subst e; simp
      ·rw [if_neg e,if_neg (by omega)]
     ·have hjp' : (j % 2 == 1) = false := by simpa using hjp
      simp only [hjp',cond_false]
      rw [if_neg (by omega)]
   ·have hp' : (k % 2 == 1) = false := by simpa using hp
    simp only [hp',cond_false,get]
    have ih := get_single f (k / 2 - 1) x (j / 2 - 1) (by omega)
    by_cases hj : j = 0
    ·subst hj; simp; omega
    ·have hj' : (j == 0) = false := by simpa using hj
     simp only [hj',cond_false]
     by_cases hjp : j % 2 = 1
     ·have hjp' : (j % 2 == 1) = true := by simpa using hjp
      simp only [hjp',cond_true]
      rw [if_neg (by omega)]
     ·have hjp' : (j % 2 == 1) = false := by simpa using hjp
      simp only [hjp',cond_false,ih]
      by_cases e : j = k
      ·subst e; simp
      ·rw [if_neg e,if_neg (by omega)]
theorem get_set (t : T α) : ∀ (k : Nat) (x : α) (j : Nat),(t.set k x).get j = if j = k then some x else t.get j := by
 induction t with
 | leaf => intro k x j; simp only [set,get]; exact get_single _ _ _ _ (by omega)
 | node v l r ihl ihr =>
  intro k x j
  unfold set
  by_cases hk : k = 0
  ·subst hk
   by_cases hj : j = 0
   ·subst hj; simp [get]
   ·have hj' : (j == 0) = false := by simpa using hj
    simp [get,hj,hj']
  ·have hk' : (k == 0) = false := by simpa using hk
   simp only [hk',cond_false]
   by_cases hp : k % 2 = 1
   ·have hp' : (k % 2 == 1) = true := by simpa using hp
    simp only [hp',cond_true,get]
    by_cases hj : j = 0
    ·subst hj; rw [if_neg (by omega)]; simp
    ·have hj' : (j == 0) = false := by simpa using hj
     simp only [hj',cond_false]
     by_cases hjp : j % 2 = 1
     ·have hjp' : (j % 2 == 1) = true := by simpa using hjp
      simp only [hjp',cond_true,ihl]
      by_cases e : j = k
      ·subst e; simp
      ·rw [if_neg e,if_neg (by omega)]
     ·have hjp' : (j % 2 == 1) = false := by simpa using hjp
      simp only [hjp',cond_false]
      rw [if_neg (by omega)]
   ·have hp' : (k % 2 == 1) = false := by simpa using hp
    simp only [hp',cond_false,get]
    by_cases hj : j = 0
    ·subst hj; rw [if_neg (by omega)]; simp
    ·have hj' : (j == 0) = false := by simpa using hj
     simp only [hj',cond_false]
     by_cases hjp : j % 2 = 1
     ·have hjp' : (j % 2 == 1) = true := by simpa using hjp
      simp only [hjp',cond_true]
      rw [if_neg (by omega)]
     ·have hjp' : (j % 2 == 1) = false := by simpa using hjp
      simp only [hjp',cond_false,ihr]
      by_cases e : j = k
      ·subst e; simp
      ·rw [if_neg e,if_neg (by omega)]
theorem get_ofFrom (l : List α) : ∀ (i j : Nat),(ofFrom i l).get j = if i ≤ j then l[j - i]? else none := by
 induction l with
 | nil => intro i j; simp [ofFrom,get]
 | cons x xs ih =>
  intro i j
  simp only [ofFrom,get_set,ih]
  by_cases e : j = i
  ·subst e; simp
  ·rw [if_neg e]
   by_cases h : i + 1 ≤ j
   ·rw [if_pos h,if_pos (by omega),show j - i = (j - (i + 1)) + 1 by omega]; rfl
   ·rw [if_neg h,if_neg (by omega)]
end T
inductive F2 {α β : Type} (R : α → β → Prop) : List α → List β → Prop
 | nil : F2 R [] []
 | cons {a : α} {b : β} {as : List α} {bs : List β} : R a b → F2 R as bs → F2 R (a :: as) (b :: bs)
namespace F2
variable {α β : Type} {R S : α → β → Prop}
theorem length {as : List α} {bs : List β} (h : F2 R as bs) : as.length = bs.length := by
 induction h with
 | nil => rfl
 | cons _ _ ih => simp [ih]
theorem mono (hr : ∀ a b,R a b → S a b) {as : List α} {bs : List β} (h : F2 R as bs) : F2 S as bs := by
 induction h with
 | nil => exact .nil
 | cons x _ ih => exact .cons (hr _ _ x) ih
theorem append {as as' : List α} {bs bs' : List β} (h : F2 R as bs) (h' : F2 R as' bs') : F2 R (as ++ as') (bs ++ bs') := by
 induction h with
 | nil => exact h'
 | cons x _ ih => exact .cons x ih
theorem take (n : Nat) {as : List α} {bs : List β} (h : F2 R as bs) : F2 R (as.take n) (bs.take n) := by
 induction h generalizing n with
 | nil => simp; exact .nil
 | cons x _ ih =>
  cases n with
  | zero => simp; exact .nil
  | succ n => simp; exact .cons x (ih n)
theorem drop (n : Nat) {as : List α} {bs : List β} (h : F2 R as bs) : F2 R (as.drop n) (bs.drop n) := by
 induction h generalizing n with
 | nil => simp; exact .nil
 | cons x h ih =>
  cases n with
  | zero => simp; exact .cons x h
  | succ n => simp; exact ih n
theorem get {as : List α} {bs : List β} (h : F2 R as bs) {i : Nat} {a : α} (ha : as[i]? = some a) : ∃ b,bs[i]? = some b ∧ R a b := by
 induction h generalizing i with
 | nil => simp at ha
 | cons x _ ih =>
  cases i with
  | zero => simp at ha; subst ha; exact ⟨_,rfl,x⟩
  | succ i => simp at ha; simpa using ih ha
theorem of_get {as : List α} {bs : List β} (hl : as.length = bs.length) (h : ∀ (i : Nat) (a : α) (b : β),as[i]? = some a → bs[i]? = some b → R a b) : F2 R as bs := by
 induction as generalizing bs with
 | nil => cases bs with
  | nil => exact .nil
  | cons _ _ => simp at hl
 | cons a as ih => cases bs with
  | nil => simp at hl
  | cons b bs =>
   exact .cons (h 0 a b rfl rfl) (ih (by simpa using hl) fun i x y hx hy => h (i + 1) x y (by simpa using hx) (by simpa using hy))
theorem nil_left {bs : List β} (h : F2 R [] bs) : bs = [] := by cases h; rfl
end F2
structure Place where
 b : Nat
 base : Nat
 room : Nat
 esz : Nat
abbrev Ren := Nat → Option Place
def Ren.Le (σ σ' : Ren) : Prop := ∀ k p,σ k = some p → σ' k = some p
theorem Ren.Le.refl (σ : Ren) : σ.Le σ := fun _ _ h => h
theorem Ren.Le.trans {a b c : Ren} (h : a.Le b) (h' : b.Le c) : a.Le c := fun k p x => h' k p (h k p x)
inductive FR (σ : Ren) : Fn → Fn → Prop
 | func (f : FuncId) : FR σ (.func f) (.func f)
 | yield {l : Nat} {p : Place} : σ l = some p → FR σ (.yield l) (.yield p.b)
inductive VR (σ : Ren) : Value → Value → Prop
 | bool (b : Bool) : VR σ (.bool b) (.bool b)
 | int (k : IntKind) (n : Int) : VR σ (.int k n) (.int k n)
 | float (k : FloatKind) (n : Nat) : VR σ (.float k n) (.float k n)
 | string (s : ByteArray) : VR σ (.string s) (.string s)
 | ptrNil : VR σ (.pointer none) (.pointer none)
 | ptr {k o : Nat} {p : Place} : σ k = some p → VR σ (.pointer (some ⟨k,o,none⟩)) (.pointer (some ⟨p.b,p.base + o,none⟩))
 | sliceNil : VR σ (.slice none 0 0) (.slice none 0 0)
 | slice {k o len capa capc x : Nat} {p : Place} : σ k = some p → (x = p.base + o ∨ capc = 0) → (capc = capa ∨ (0 < p.esz ∧ capa ≤ capc ∧ x + capc * p.esz ≤ p.room)) → len ≤ capa →
   VR σ (.slice (some ⟨k,o,none⟩) len capa) (.slice (some ⟨p.b,x,none⟩) len capc)
 | sliceE {ad a : Addr} : ad.spot.isSome = true → VR σ (.slice (some ad) 0 0) (.slice (some a) 0 0)
 | mapNil : VR σ (.map none) (.map none)
 | map {k : Nat} {p : Place} : σ k = some p → VR σ (.map (some k)) (.map (some p.b))
 | chanNil : VR σ (.chan none) (.chan none)
 | func {fn fn' : Fn} {a a' c c' : Array Value} : FR σ fn fn' → a.size = a'.size → (∀ i (h : i < a.size) (h' : i < a'.size),VR σ a[i] a'[i]) →
   c.size = c'.size → (∀ i (h : i < c.size) (h' : i < c'.size),VR σ c[i] c'[i]) → VR σ (.func fn a c) (.func fn' a' c')
 | nilFunc : VR σ .nilFunc .nilFunc
 | iface {t : TypeId} {v v' : Value} : VR σ v v' → VR σ (.iface t v) (.iface t v')
 | nilIface : VR σ .nilIface .nilIface
 | agg {a a' : Array Value} : a.size = a'.size → (∀ i (h : i < a.size) (h' : i < a'.size),VR σ a[i] a'[i]) → VR σ (.agg a) (.agg a')
 | tuple {a a' : Array Value} : a.size = a'.size → (∀ i (h : i < a.size) (h' : i < a'.size),VR σ a[i] a'[i]) → VR σ (.tuple a) (.tuple a')
abbrev VL (σ : Ren) := F2 (VR σ)
theorem VL.of_arr {σ : Ren} {a a' : Array Value} (h : a.size = a'.size) (hh : ∀ i (h : i < a.size) (h' : i < a'.size),VR σ a[i] a'[i]) : VL σ a.toList a'.toList :=
 F2.of_get (by simpa using h) fun i x y hx hy => by
  simp only [Array.getElem?_toList] at hx hy
  obtain ⟨h1,rfl⟩ := Array.getElem?_eq_some_iff.1 hx
  obtain ⟨h2,rfl⟩ := Array.getElem?_eq_some_iff.1 hy
  exact hh i h1 h2
theorem VL.to_arr {σ : Ren} {a a' : Array Value} (h : VL σ a.toList a'.toList) : a.size = a'.size ∧ ∀ i (h : i < a.size) (h' : i < a'.size),VR σ a[i] a'[i] := by
 refine ⟨by simpa using h.length,fun i h1 h2 => ?_⟩
 obtain ⟨b,hb,hr⟩ := F2.get (i := i) (a := a[i]) h (by simp [h1])
 simp [h2] at hb
 exact hb ▸ hr
theorem VR.agg_iff {σ : Ren} {a : Array Value} {c : Value} : VR σ (.agg a) c ↔ ∃ a',c = .agg a' ∧ VL σ a.toList a'.toList := by
 constructor
 ·intro h; cases h with | agg h hh => exact ⟨_,rfl,VL.of_arr h hh⟩
 ·rintro ⟨a',rfl,h⟩; exact .agg h.to_arr.1 h.to_arr.2
theorem VR.tuple_iff {σ : Ren} {a : Array Value} {c : Value} : VR σ (.tuple a) c ↔ ∃ a',c = .tuple a' ∧ VL σ a.toList a'.toList := by
 constructor
 ·intro h; cases h with | tuple h hh => exact ⟨_,rfl,VL.of_arr h hh⟩
 ·rintro ⟨a',rfl,h⟩; exact .tuple h.to_arr.1 h.to_arr.2
theorem VR.func_iff {σ : Ren} {fn : Fn} {a b : Array Value} {c : Value} : VR σ (.func fn a b) c ↔ ∃ fn' a' b',c = .func fn' a' b' ∧ FR σ fn fn' ∧ VL σ a.toList a'.toList ∧ VL σ b.toList b'.toList := by
 constructor
 ·intro h; cases h with | func hf h1 h2 h3 h4 => exact ⟨_,_,_,rfl,hf,VL.of_arr h1 h2,VL.of_arr h3 h4⟩
 ·rintro ⟨fn',a',b',rfl,hf,h,h'⟩; exact .func hf h.to_arr.1 h.to_arr.2 h'.to_arr.1 h'.to_arr.2
theorem FR.mono {σ σ' : Ren} (hs : σ.Le σ') {f g : Fn} (h : FR σ f g) : FR σ' f g := by
 cases h with
 | func f => exact .func f
 | yield h => exact .yield (hs _ _ h)
theorem VR.mono {σ σ' : Ren} (hs : σ.Le σ') {v c : Value} (h : VR σ v c) : VR σ' v c := by
 induction h with
 | bool b => exact .bool b
 | int k n => exact .int k n
 | float k n => exact .float k n
 | string s => exact .string s
 | ptrNil => exact .ptrNil
 | ptr h => exact .ptr (hs _ _ h)
 | sliceNil => exact .sliceNil
 | slice h h1 h2 h3 => exact .slice (hs _ _ h) h1 h2 h3
 | sliceE h => exact .sliceE h
 | mapNil => exact .mapNil
 | map h => exact .map (hs _ _ h)
 | chanNil => exact .chanNil
 | func hf h1 _ h3 _ ih1 ih2 => exact .func (hf.mono hs) h1 ih1 h3 ih2
 | nilFunc => exact .nilFunc
 | iface _ ih => exact .iface ih
 | nilIface => exact .nilIface
 | agg h _ ih => exact .agg h ih
 | tuple h _ ih => exact .tuple h ih
theorem VL.mono {σ σ' : Ren} (hs : σ.Le σ') {v c : List Value} (h : VL σ v c) : VL σ' v c := F2.mono (fun _ _ => VR.mono hs) h
theorem VR.undef (σ : Ren) : VR σ undefV Go.undef := VR.tuple_iff.2 ⟨#[],rfl,.nil⟩
theorem VR.int_inv {σ : Ren} {k : IntKind} {n : Int} {c : Value} (h : VR σ (.int k n) c) : c = .int k n := by cases h; rfl
theorem VR.bool_inv {σ : Ren} {b : Bool} {c : Value} (h : VR σ (.bool b) c) : c = .bool b := by cases h; rfl
theorem VR.string_inv {σ : Ren} {s : ByteArray} {c : Value} (h : VR σ (.string s) c) : c = .string s := by cases h; rfl
theorem VR.ptr_inv {σ : Ren} {ad : Addr} {c : Value} (h : VR σ (.pointer (some ad)) c) : ∃ k o p,ad = ⟨k,o,none⟩ ∧ σ k = some p ∧ c = .pointer (some ⟨p.b,p.base + o,none⟩) := by
 cases h with | ptr h => exact ⟨_,_,_,rfl,h,rfl⟩
theorem VR.slice_inv {σ : Ren} {ad : Addr} {len capa : Nat} {c : Value} (h : VR σ (.slice (some ad) len capa) c) : (∃ k o p x capc,ad = ⟨k,o,none⟩ ∧ σ k = some p ∧ c = .slice (some ⟨p.b,x,none⟩) len capc ∧
  (x = p.base + o ∨ capc = 0) ∧ (capc = capa ∨ (0 < p.esz ∧ capa ≤ capc ∧ x + capc * p.esz ≤ p.room)) ∧ len ≤ capa) ∨ (len = 0 ∧ capa = 0 ∧ ad.spot.isSome = true ∧ ∃ a,c = .slice (some a) 0 0) := by
 cases h with
 | slice h h1 h2 h3 => exact .inl ⟨_,_,_,_,_,rfl,h,rfl,h1,h2,h3⟩
 | sliceE h => exact .inr ⟨rfl,rfl,h,_,rfl⟩
theorem VR.sliceNil_inv {σ : Ren} {len capa : Nat} {c : Value} (h : VR σ (.slice none len capa) c) : len = 0 ∧ capa = 0 ∧ c = .slice none 0 0 := by cases h; exact ⟨rfl,rfl,rfl⟩
theorem VR.one {σ : Ren} {v c : Value} (h : VR σ v c) : c.oneCell' = Den.one v := by cases h <;> rfl
theorem vcells_toList (v : Value) : vcl v = v.cells.toList := by cases v <;> rfl
theorem VR.cells {σ : Ren} {v c : Value} (h : VR σ v c) : VL σ (vcl v) c.cells.toList := by
 cases h with
 | agg h hh => exact VL.of_arr h hh
 | bool b => exact .cons (.bool b) .nil
 | int k n => exact .cons (.int k n) .nil
 | float k n => exact .cons (.float k n) .nil
 | string s => exact .cons (.string s) .nil
 | ptrNil => exact .cons .ptrNil .nil
 | ptr h => exact .cons (.ptr h) .nil
 | sliceNil => exact .cons .sliceNil .nil
 | slice h h1 h2 h3 => exact .cons (.slice h h1 h2 h3) .nil
 | sliceE h => exact .cons (.sliceE h) .nil
 | mapNil => exact .cons .mapNil .nil
 | map h => exact .cons (.map h) .nil
 | chanNil => exact .cons .chanNil .nil
 | func hf h1 h2 h3 h4 => exact .cons (.func hf h1 h2 h3 h4) .nil
 | nilFunc => exact .cons .nilFunc .nil
 | iface h => exact .cons (.iface h) .nil
 | nilIface => exact .cons .nilIface .nil
 | tuple h hh => exact .cons (.tuple h hh) .nil
def atom : Value → Bool
 | .int _ _ | .bool _ | .string _ | .float _ _ => true
 | _ => false
theorem VR.atom_eq {σ : Ren} {v c : Value} (h : VR σ v c) (ha : atom v = true) : c = v := by cases h <;> first | rfl | (simp [atom] at ha)
end Go.Den
/- Den, part D: when an abstract heap and a heap of the machine are the same; what keeps that. -/
namespace Go.Den
def EnvR (σ : Ren) (e : Env) (tmps : Array Value) : Prop := ∀ t v,e.get t = some v → VR σ v (tmps.getD t Go.undef)
theorem EnvR.mono {σ σ' : Ren} (hs : σ.Le σ') {e : Env} {tmps : Array Value} (h : EnvR σ e tmps) : EnvR σ' e tmps := fun t v hv => (h t v hv).mono hs
theorem EnvR.set {σ : Ren} {e : Env} {tmps : Array Value} (h : EnvR σ e tmps) {d : Nat} (hd : d < tmps.size) {v c : Value} (hv : VR σ v c) : EnvR σ (e.set d v) (tmps.setIfInBounds d c) := by
 intro t x hx
 rw [T.get_set] at hx
 by_cases e1 : t = d
 ·subst e1; rw [if_pos rfl] at hx; injection hx with hx; subst hx
  simpa [Array.getD_eq_getD_getElem?,hd] using hv
 ·rw [if_neg e1] at hx
  have := h t x hx
  simpa [Array.getD_eq_getD_getElem?,Array.getElem?_setIfInBounds_ne (Ne.symm e1)] using this
def stOf : LoopState → Nat
 | .ready => 0 | .busy => 1 | .done => 2 | .exhausted => 3
def jumpOf : Ex → Option Code
 | .ret => some .ret
 | .exit id => some (.exit id)
 | _ => none
def PendOk : Option Ex → Option Code → Prop
 | none,p => p = none
 | some x,p => ∃ c,jumpOf x = some c ∧ p = some c
structure LoopOk (gl : Nat → Bool) (P : Program) (σ : Ren) (e : Env) (ps : List Nat) (as bd : ICode) (st : Nat) (pend : Option Ex) (r : Loop) : Prop where
 env : EnvR σ e r.tmps
 params : r.params.toList = ps
 assign : cCode P r.assign = as
 body : cCode P r.body = bd
 boundA : as.ok gl r.tmps.size = true
 boundB : bd.ok gl r.tmps.size = true
 boundP : (ps.all fun t => Nat.blt t r.tmps.size) = true
 st : stOf r.state = st
 pend : PendOk pend r.pending
structure ER (σ : Ren) (x y : MapEntry) : Prop where
 key : VR σ x.key y.key
 val : VR σ x.val y.val
 born : x.born = y.born
structure CellsAt (σ : Ren) (p : Place) (cs : List Value) (ro : Bool) (ccs : Array Value) (lo hi : Nat) : Prop where
 room : p.room = ccs.size
 fits : p.base + cs.length ≤ ccs.size
 vals : VL σ cs ((ccs.toList.drop p.base).take cs.length)
 free : ro = false → lo < hi → ccs.size ≤ lo
def CellsOk (σ : Ren) (hp : Array Obj) (p : Place) (cs : List Value) (ro : Bool) : Prop :=
 ∃ ccs t lo hi,hp[p.b]? = some (.cells ccs t (lo,hi)) ∧ CellsAt σ p cs ro ccs lo hi
def ExOk (hp : Array Obj) (p : Place) (n : Nat) (t : TypeId) (ex : Bool) : Prop :=
 ∃ ccs lh,hp[p.b]? = some (.cells ccs t lh) ∧ (ex = true → p.base = 0 ∧ ccs.size = n)
theorem ExOk.mono {hp hp' : Array Obj} {p : Place} {n : Nat} {t : TypeId} {ex : Bool} (h : ExOk hp p n t ex) (hb : hp'[p.b]? = hp[p.b]?) : ExOk hp' p n t ex := by
 obtain ⟨ccs,lh,b,c⟩ := h
 exact ⟨ccs,lh,hb.trans b,c⟩
def AH.live (H : AH) (k : Nat) : Prop :=
 match H.get k with
 | some (.cells _ _ _ _ root _ _) => H.alive k root = true
 | some .gone | none => False
 | _ => True
def AH.famOf (H : AH) (k : Nat) : Option Nat :=
 match H.get k with
 | some (.cells _ _ _ _ root _ _) => some root
 | _ => none
def AH.lenOf (H : AH) (k : Nat) : Nat :=
 match H.get k with
 | some (.cells cs _ _ _ _ _ _) => cs.length
 | _ => 0
def AH.roOf (H : AH) (k : Nat) : Prop :=
 match H.get k with
 | some (.cells _ _ ro _ _ _ _) => ro = true
 | _ => False
def ObjOk (gl : Nat → Bool) (P : Program) (σ : Ren) (H : AH) (hp : Array Obj) (k : Nat) (p : Place) : Prop :=
 match H.get k with
 | some (.cells cs t ro ex root _ _) => H.alive k root = true → CellsOk σ hp p cs ro ∧ (ex = true → p.esz = 0) ∧ (ex = false → 0 < p.esz ∧ szOf P t = some p.esz) ∧ (ro = false → ExOk hp p cs.length t ex)
 | some (.map es clock) => ∃ ces,hp[p.b]? = some (.map ces clock) ∧ F2 (ER σ) es ces.toList
 | some (.iter s pos) => p.base = 0 ∧ hp[p.b]? = some (.stringIter s pos)
 | some (.loop e ps as bd st pend) => ∃ r,hp[p.b]? = some (.loop r) ∧ LoopOk gl P σ e ps as bd st pend r
 | _ => True
structure HR (gl : Nat → Bool) (P : Program) (σ : Ren) (H : AH) (hp : Array Obj) : Prop where
 lt : ∀ k o,H.get k = some o → k < H.next
 fam : ∀ k cs t ro ex root thr tip,H.get k = some (.cells cs t ro ex root thr tip) → root ≤ k ∧ (ex = true → root = k) ∧
  ∃ rcs rt rro rex rthr rtip,H.get root = some (.cells rcs rt rro rex root rthr rtip) ∧ k ≤ rtip ∧ (rex = true → root = k) ∧ rtip ≤ H.next
 sig : ∀ k p,σ k = some p → k < H.next ∧ p.b < hp.size
 obj : ∀ k p,σ k = some p → ObjOk gl P σ H hp k p
 typ : ∀ k p cs t ro ex root thr tip,σ k = some p → H.get k = some (.cells cs t ro ex root thr tip) → (ex = true → p.esz = 0) ∧ (ex = false → 0 < p.esz ∧ szOf P t = some p.esz)
 dis : ∀ k l pk pl,σ k = some pk → σ l = some pl → k < l → H.live k → H.live l → pk.b = pl.b →
  (∃ r,H.famOf k = some r ∧ H.famOf l = some r) ∧ pk.base + H.lenOf k ≤ pl.base + H.lenOf l
def Prot (σ : Ren) (H : AH) (b : Nat) : Prop := ∀ k p,σ k = some p → p.b = b → ¬ H.live k ∨ H.roOf k
structure Fr (σ : Ren) (H : AH) (hp : Array Obj) (σ' : Ren) (H' : AH) (hp' : Array Obj) : Prop where
 le : σ.Le σ'
 next : H.next ≤ H'.next
 old : ∀ k,k < H.next → σ' k = σ k
 size : hp.size ≤ hp'.size
 prot : ∀ b,b < hp.size → Prot σ H b → hp'[b]? = hp[b]? ∧ Prot σ' H' b
 loops : ∀ (b : Nat) (l : Loop),hp[b]? = some (Obj.loop l) → ∃ l',hp'[b]? = some (Obj.loop l')
theorem Fr.refl (σ : Ren) (H : AH) (hp : Array Obj) : Fr σ H hp σ H hp :=
 ⟨.refl σ,Nat.le_refl _,fun _ _ => rfl,Nat.le_refl _,fun _ _ h => ⟨rfl,h⟩,fun _ l h => ⟨l,h⟩⟩
theorem Fr.trans {σ σ1 σ2 : Ren} {H H1 H2 : AH} {hp hp1 hp2 : Array Obj} (h : Fr σ H hp σ1 H1 hp1) (h' : Fr σ1 H1 hp1 σ2 H2 hp2) : Fr σ H hp σ2 H2 hp2 where
 le := h.le.trans h'.le
 next := Nat.le_trans h.next h'.next
 old k hk := (h'.old k (Nat.lt_of_lt_of_le hk h.next)).trans (h.old k hk)
 size := Nat.le_trans h.size h'.size
 prot b hb hp := by
  obtain ⟨h1,h2⟩ := h.prot b hb hp
  obtain ⟨h3,h4⟩ := h'.prot b (Nat.lt_of_lt_of_le hb h.size) h2
  exact ⟨h3.trans h1,h4⟩
 loops b l hl := by
  obtain ⟨l1,h1⟩ := h.loops b l hl
  exact h'.loops b l1 h1
theorem AH.gpu (H : AH) (o : AObj) (k : Nat) : (H.push o).get k = if k = H.next then some o else H.get k := T.get_set _ _ _ _
theorem AH.gpt (H : AH) (i : Nat) (o : AObj) (k : Nat) : (H.put i o).get k = if k = i then some o else H.get k := T.get_set _ _ _ _
theorem AH.gtp (H : AH) (i : Nat) (o : AObj) (k : Nat) : (H.put' i o).get k = if k = i then some o else H.get k := T.get_set _ _ _ _
@[simp] theorem AH.next_push (H : AH) (o : AObj) : (H.push o).next = H.next + 1 := rfl
@[simp] theorem AH.next_put (H : AH) (i : Nat) (o : AObj) : (H.put i o).next = H.next := rfl
@[simp] theorem AH.next_put' (H : AH) (i : Nat) (o : AObj) : (H.put' i o).next = H.next := rfl
theorem AH.alive_iff {H : AH} {k root : Nat} : H.alive k root = true ↔ ∃ cs t ro ex r thr tip,H.get root = some (.cells cs t ro ex r thr tip) ∧ thr ≤ k := by
 unfold AH.alive AH.fam
 cases h : H.get root with
 | none => simp
 | some o =>
  cases o with
  | cells cs t ro ex r thr tip =>
   simp only [Nat.ble_eq]
   constructor
   ·intro hh; exact ⟨cs,t,ro,ex,r,thr,tip,rfl,hh⟩
   ·rintro ⟨cs,t,ro,ex,r,thr,tip,e,hh⟩; cases e; exact hh
  | _ => simp
theorem HR.none_next {gl : Nat → Bool} {P : Program} {σ : Ren} {H : AH} {hp : Array Obj} (h : HR gl P σ H hp) : H.get H.next = none := by
 cases hg : H.get H.next with
 | none => rfl
 | some o => exact absurd (h.lt _ _ hg) (Nat.lt_irrefl _)
theorem HR.congr {gl : Nat → Bool} {P : Program} {σ : Ren} {H H' : AH} {hp : Array Obj} (h : HR gl P σ H hp) (hg : ∀ k,H'.get k = H.get k) (hn : H'.next = H.next) : HR gl P σ H' hp := by
 have ha : ∀ k r,H'.alive k r = H.alive k r := fun k r => by unfold AH.alive AH.fam; rw [hg]
 have hl : ∀ k,H'.live k ↔ H.live k := fun k => by unfold AH.live; rw [hg]; cases H.get k with
  | none => rfl
  | some o => cases o <;> simp [ha]
 refine ⟨fun k o hk => hn ▸ h.lt k o (hg k ▸ hk),fun k cs t ro ex root thr tip hk => ?_,fun k p hk => hn ▸ h.sig k p hk,fun k p hk => ?_,fun k p cs t ro ex root thr tip h1 h2 => h.typ k p cs t ro ex root thr tip h1 (hg k ▸ h2),fun k l pk pl hk hl' hlt h1 h2 hb => ?_⟩
 ·obtain ⟨a,b,rcs,rt,rro,rex,rthr,rtip,c,d⟩ := h.fam k cs t ro ex root thr tip (hg k ▸ hk)
  exact ⟨a,b,rcs,rt,rro,rex,rthr,rtip,(hg root).trans c,hn ▸ d⟩
 ·have := h.obj k p hk
  unfold ObjOk at *
  rw [hg]
  cases hgk : H.get k with
  | none => simp
  | some o => rw [hgk] at this; cases o <;> simp_all
 ·have := h.dis k l pk pl hk hl' hlt ((hl k).1 h1) ((hl l).1 h2) hb
  unfold AH.famOf AH.lenOf at *
  rw [hg,hg]; exact this
theorem Prot.congr {σ : Ren} {H H' : AH} {b : Nat} (h : Prot σ H b) (hg : ∀ k,H'.get k = H.get k) : Prot σ H' b := by
 have ha : ∀ k r,H'.alive k r = H.alive k r := fun k r => by unfold AH.alive AH.fam; rw [hg]
 have hl : ∀ k,H'.live k ↔ H.live k := fun k => by unfold AH.live; rw [hg]; cases H.get k with
  | none => rfl
  | some o => cases o <;> simp [ha]
 intro k p hk hb
 rcases h k p hk hb with h1 | h1
 ·exact .inl fun h2 => h1 ((hl k).1 h2)
 ·refine .inr ?_; unfold AH.roOf at *; rw [hg]; exact h1
theorem alive_push {H : AH} {o : AObj} (hn : H.get H.next = none) {k r : Nat} (hr : H.alive k r = true) : (H.push o).alive k r = true := by
 rw [AH.alive_iff] at *
 obtain ⟨cs,t,ro,ex,r',thr,tip,hg,hle⟩ := hr
 refine ⟨cs,t,ro,ex,r',thr,tip, ?_,hle⟩
 rw [AH.gpu,if_neg,hg]
 rintro rfl; rw [hn] at hg; cases hg
theorem alive_of_push {H : AH} {o : AObj} {k r : Nat} (hr : (H.push o).alive k r = true) (hne : r ≠ H.next) : H.alive k r = true := by
 rw [AH.alive_iff] at *
 obtain ⟨cs,t,ro,ex,r',thr,tip,hg,hle⟩ := hr
 rw [AH.gpu,if_neg hne] at hg
 exact ⟨cs,t,ro,ex,r',thr,tip,hg,hle⟩
def Ren.add (σ : Ren) (k : Nat) (p : Place) : Ren := fun j => if j = k then some p else σ j
theorem Ren.add_self (σ : Ren) (k : Nat) (p : Place) : σ.add k p k = some p := if_pos rfl
theorem Ren.add_ne (σ : Ren) {k : Nat} (p : Place) {j : Nat} (h : j ≠ k) : σ.add k p j = σ j := if_neg h
section push
variable {gl : Nat → Bool} {P : Program} {σ : Ren} {H : AH} {hp : Array Obj}
theorem HR.sig_none (h : HR gl P σ H hp) : σ H.next = none := by
 cases hs : σ H.next with
 | none => rfl
 | some p => exact absurd (h.sig _ _ hs).1 (Nat.lt_irrefl _)
theorem HR.add_le (h : HR gl P σ H hp) (p : Place) : σ.Le (σ.add H.next p) := by
 intro k q hk
 rw [Ren.add_ne]; exact hk
 rintro rfl; rw [h.sig_none] at hk; cases hk
theorem live_push (h : HR gl P σ H hp) {o : AObj} {k : Nat} (hk : k < H.next) : (H.push o).live k ↔ H.live k := by
 have hne : k ≠ H.next := by omega
 unfold AH.live
 rw [AH.gpu,if_neg hne]
 cases hg : H.get k with
 | none => rfl
 | some x =>
  cases x with
  | cells cs t ro ex root thr tip =>
   obtain ⟨hr,_⟩ := h.fam _ _ _ _ _ _ _ _ hg
   exact ⟨fun x => alive_of_push x (by omega),fun x => alive_push h.none_next x⟩
  | _ => rfl
theorem ObjOk.mono {σ' : Ren} (hs : σ.Le σ') {hp' : Array Obj} {k : Nat} {p : Place} (h : ObjOk gl P σ H hp k p) (hb : hp'[p.b]? = hp[p.b]?) : ObjOk gl P σ' H hp' k p := by
 unfold ObjOk at *
 cases hg : H.get k with
 | none => simp
 | some o =>
  rw [hg] at h
  cases o with
  | cells cs t ro ex root thr tip =>
   intro ha
   obtain ⟨⟨ccs,t',lo,hi,h1,h2⟩,h3⟩ := h ha
   exact ⟨⟨ccs,t',lo,hi,hb.trans h1,⟨h2.room,h2.fits,h2.vals.mono hs,h2.free⟩⟩,h3.1,h3.2.1,fun a => (h3.2.2 a).mono hb⟩
  | map es clock =>
   obtain ⟨ces,h1,h2⟩ := h
   exact ⟨ces,hb.trans h1,h2.mono fun a b x => ⟨x.key.mono hs,x.val.mono hs,x.born⟩⟩
  | iter s pos => exact ⟨h.1,hb.trans h.2⟩
  | loop e ps as bd st pend =>
   obtain ⟨r,h1,h2⟩ := h
   exact ⟨r,hb.trans h1,⟨h2.env.mono hs,h2.params,h2.assign,h2.body,h2.boundA,h2.boundB,h2.boundP,h2.st,h2.pend⟩⟩
  | gone => trivial
theorem HR.pushAt (h : HR gl P σ H hp) {o : AObj} {p : Place} {hp' : Array Obj}
  (hold : ∀ k q,σ k = some q → H.live k → ObjOk gl P σ H hp' k q)
  (hsz : hp.size ≤ hp'.size) (hpb : p.b < hp'.size)
  (hfam : ∀ cs t ro ex root thr tip,o = .cells cs t ro ex root thr tip → root ≤ H.next ∧ (ex = true → root = H.next) ∧
   ∃ rcs rt rro rex rthr rtip,(H.push o).get root = some (.cells rcs rt rro rex root rthr rtip) ∧ H.next ≤ rtip ∧ (rex = true → root = H.next) ∧ rtip ≤ H.next + 1)
  (htyp : ∀ cs t ro ex root thr tip,o = .cells cs t ro ex root thr tip → (ex = true → p.esz = 0) ∧ (ex = false → 0 < p.esz ∧ szOf P t = some p.esz))
  (hobj : ObjOk gl P (σ.add H.next p) (H.push o) hp' H.next p)
  (hdis : ∀ k q,σ k = some q → H.live k → (H.push o).live H.next → q.b = p.b → (∃ r,H.famOf k = some r ∧ (H.push o).famOf H.next = some r) ∧ q.base + H.lenOf k ≤ p.base + (H.push o).lenOf H.next) :
  HR gl P (σ.add H.next p) (H.push o) hp' := by
 have hle := h.add_le p
 refine ⟨fun k x hk => ?_,fun k cs t ro ex root thr tip hk => ?_,fun k q hk => ?_,fun k q hk => ?_,fun k q cs t ro ex root thr tip h1 h2 => ?_,fun k l pk pl hk hl hlt h1 h2 hb => ?_⟩
 ·rw [AH.gpu] at hk
  by_cases e : k = H.next
  ·simp [e]
  ·rw [if_neg e] at hk; have := h.lt _ _ hk; simp; omega
 ·by_cases e : k = H.next
  ·subst e; rw [AH.gpu,if_pos rfl] at hk; injection hk with hk
   exact hfam _ _ _ _ _ _ _ hk
  ·rw [AH.gpu,if_neg e] at hk
   obtain ⟨a,b,rcs,rt,rro,rex,rthr,rtip,c,d⟩ := h.fam _ _ _ _ _ _ _ _ hk
   refine ⟨a,b,rcs,rt,rro,rex,rthr,rtip, ?_,d.1,d.2.1,Nat.le_succ_of_le d.2.2⟩
   rw [AH.gpu,if_neg,c]
   rintro rfl; rw [h.none_next] at c; cases c
 ·by_cases e : k = H.next
  ·subst e; rw [Ren.add_self] at hk; injection hk with hk; subst hk; exact ⟨by simp,hpb⟩
  ·rw [Ren.add_ne _ _ e] at hk; have := h.sig _ _ hk; exact ⟨by simp; omega,by omega⟩
 ·by_cases e : k = H.next
  ·subst e; rw [Ren.add_self] at hk; injection hk with hk; subst hk; exact hobj
  ·rw [Ren.add_ne _ _ e] at hk
   have hkl := (h.sig _ _ hk).1
   by_cases hlive : H.live k
   ·have := (hold k q hk hlive).mono hle (hp' := hp') rfl
    unfold ObjOk at *
    rw [AH.gpu,if_neg e]
    cases hg : H.get k with
    | none => trivial
    | some x =>
     rw [hg] at this
     cases x with
     | cells cs t ro ex root thr tip =>
      intro ha
      obtain ⟨hr,_⟩ := h.fam _ _ _ _ _ _ _ _ hg
      exact this (alive_of_push ha (by omega))
     | _ => exact this
   ·unfold ObjOk
    rw [AH.gpu,if_neg e]
    unfold AH.live at hlive
    cases hg : H.get k with
    | none => trivial
    | some x =>
     rw [hg] at hlive
     cases x with
     | cells cs t ro ex root thr tip =>
      intro ha
      obtain ⟨hr,_⟩ := h.fam _ _ _ _ _ _ _ _ hg
      exact absurd (alive_of_push ha (by omega)) hlive
     | gone => trivial
     | _ => exact absurd trivial hlive
 ·by_cases e : k = H.next
  ·subst e; rw [Ren.add_self] at h1; injection h1 with h1; subst h1
   rw [AH.gpu,if_pos rfl] at h2; injection h2 with h2
   exact htyp _ _ _ _ _ _ _ h2
  ·rw [Ren.add_ne _ _ e] at h1; rw [AH.gpu,if_neg e] at h2
   exact h.typ _ _ _ _ _ _ _ _ _ h1 h2
 ·have hln : l ≤ H.next := by
   by_cases e : l = H.next
   ·omega
   ·rw [Ren.add_ne _ _ e] at hl; have := (h.sig _ _ hl).1; omega
  have ek : k ≠ H.next := by omega
  rw [Ren.add_ne _ _ ek] at hk
  have hkl := (h.sig _ _ hk).1
  have hk1 := (live_push h hkl).1 h1
  have efk : (H.push o).famOf k = H.famOf k := by unfold AH.famOf; rw [AH.gpu,if_neg ek]
  have elk : (H.push o).lenOf k = H.lenOf k := by unfold AH.lenOf; rw [AH.gpu,if_neg ek]
  rw [efk,elk]
  by_cases e : l = H.next
  ·subst e; rw [Ren.add_self] at hl; injection hl with hl; subst hl
   exact hdis k pk hk hk1 h2 hb
  ·rw [Ren.add_ne _ _ e] at hl
   have efl : (H.push o).famOf l = H.famOf l := by unfold AH.famOf; rw [AH.gpu,if_neg e]
   have ell : (H.push o).lenOf l = H.lenOf l := by unfold AH.lenOf; rw [AH.gpu,if_neg e]
   rw [efl,ell]
   exact h.dis k l pk pl hk hl hlt hk1 ((live_push h (h.sig _ _ hl).1).1 h2) hb
theorem Prot.push (h : HR gl P σ H hp) {o : AObj} {p : Place} {b : Nat} (hpr : Prot σ H b) (hb : p.b = b → (H.push o).roOf H.next ∨ ¬ (H.push o).live H.next) : Prot (σ.add H.next p) (H.push o) b := by
 intro k q hk hq
 by_cases e : k = H.next
 ·subst e; rw [Ren.add_self] at hk; injection hk with hk; subst hk
  exact (hb hq).symm
 ·rw [Ren.add_ne _ _ e] at hk
  rcases hpr k q hk hq with h1 | h1
  ·exact .inl fun x => h1 ((live_push h (h.sig _ _ hk).1).1 x)
  ·refine .inr ?_
   unfold AH.roOf at *
   rw [AH.gpu,if_neg e]; exact h1
theorem gpl {hp : Array Obj} {o : Obj} {b : Nat} (h : b < hp.size) : (hp.push o)[b]? = hp[b]? := by
 rw [Array.getElem?_push,if_neg (by omega)]
theorem HR.alloc (h : HR gl P σ H hp) {o : AObj} {co : Obj} {room esz : Nat} (hc : ∀ l,co ≠ .loop l ∨ True)
  (hfam : ∀ cs t ro ex root thr tip,o = .cells cs t ro ex root thr tip → root ≤ H.next ∧ (ex = true → root = H.next) ∧
   ∃ rcs rt rro rex rthr rtip,(H.push o).get root = some (.cells rcs rt rro rex root rthr rtip) ∧ H.next ≤ rtip ∧ (rex = true → root = H.next) ∧ rtip ≤ H.next + 1)
  (htyp : ∀ cs t ro ex root thr tip,o = .cells cs t ro ex root thr tip → (ex = true → esz = 0) ∧ (ex = false → 0 < esz ∧ szOf P t = some esz))
  (hobj : ∀ σ',σ.Le σ' → ObjOk gl P σ' (H.push o) (hp.push co) H.next ⟨hp.size,0,room,esz⟩) :
  HR gl P (σ.add H.next ⟨hp.size,0,room,esz⟩) (H.push o) (hp.push co) ∧ Fr σ H hp (σ.add H.next ⟨hp.size,0,room,esz⟩) (H.push o) (hp.push co) := by
 constructor
 ·refine h.pushAt (fun k q hk _ => ?_) (by simp) (by simp) hfam htyp (hobj _ (h.add_le _)) (fun k q hk _ _ hq => ?_)
  ·exact (h.obj k q hk).mono (.refl σ) (gpl (h.sig _ _ hk).2)
  ·have := (h.sig _ _ hk).2; simp at hq; omega
 ·refine ⟨h.add_le _,by simp,fun k hk => Ren.add_ne _ _ (by omega),by simp,fun b hb hpr => ⟨gpl hb,Prot.push h hpr fun e => ?_⟩,fun b l hl => ?_⟩
  ·simp at e; omega
  ·have hb : b < hp.size := by
    rcases Nat.lt_or_ge b hp.size with x | x
    ·exact x
    ·rw [Array.getElem?_eq_none x] at hl; cases hl
   exact ⟨l,(gpl hb).trans hl⟩
theorem HR.newRow (h : HR gl P σ H hp) {t : TypeId} {cs : List Value} {ccs : Array Value} (hv : VL σ cs ccs.toList) :
  HR gl P (σ.add H.next ⟨hp.size,0,ccs.size,0⟩) (H.newRow t cs) (hp.push (.cells ccs t)) ∧ Fr σ H hp (σ.add H.next ⟨hp.size,0,ccs.size,0⟩) (H.newRow t cs) (hp.push (.cells ccs t)) := by
 refine h.alloc (fun _ => .inr trivial) (fun cs' t'' ro ex root thr tip e => ?_) (fun cs' t'' ro ex root thr tip e => by cases e; exact ⟨fun _ => rfl,fun h => by cases h⟩) (fun σ' hs => ?_)
 ·cases e
  exact ⟨Nat.le_refl _,fun _ => rfl,cs,t,false,true,H.next,H.next,by rw [AH.gpu,if_pos rfl],Nat.le_refl _,fun _ => rfl,Nat.le_succ _⟩
 ·unfold ObjOk
  rw [AH.gpu,if_pos rfl]
  intro _
  have hl := hv.length
  refine ⟨⟨ccs,t,0,0,by simp,⟨rfl,by simp at hl ⊢; omega, ?_,fun _ h => by omega⟩⟩,fun _ => rfl,(fun e => by cases e),fun _ => ⟨ccs,(0,0),by simp,fun _ => ⟨rfl,by simpa using hl.symm⟩⟩⟩
  simp only [List.drop_zero]
  rw [List.take_of_length_le (by omega)]
  exact hv.mono hs
end push
end Go.Den
/- Den, part E: writes, and rows that grow. -/
namespace Go.Den
variable {gl : Nat → Bool} {P : Program} {σ : Ren} {H : AH} {hp : Array Obj}
section retag
variable {root : Nat} {rcs : List Value} {rt : TypeId} {rro rex : Bool} {thr tip thr' tip' : Nat}
theorem alive_retag (hg : H.get root = some (.cells rcs rt rro rex root thr tip)) (h1 : thr ≤ thr') {k r : Nat}
  (ha : (H.put' root (.cells rcs rt rro rex root thr' tip')).alive k r = true) : H.alive k r = true := by
 rw [AH.alive_iff] at *
 obtain ⟨cs,t,ro,ex,r',th,ti,hr,hle⟩ := ha
 rw [AH.gtp] at hr
 by_cases e : r = root
 ·subst e; rw [if_pos rfl] at hr; injection hr with hr; injection hr with _ _ _ _ _ e1 _; subst e1
  exact ⟨_,_,_,_,_,_,_,hg,by omega⟩
 ·rw [if_neg e] at hr; exact ⟨_,_,_,_,_,_,_,hr,hle⟩
theorem alive_of_retag (hg : H.get root = some (.cells rcs rt rro rex root thr tip)) {k r : Nat} (ha : H.alive k r = true) (hk : r = root → thr' ≤ k) :
  (H.put' root (.cells rcs rt rro rex root thr' tip')).alive k r = true := by
 rw [AH.alive_iff] at *
 obtain ⟨cs,t,ro,ex,r',th,ti,hr,hle⟩ := ha
 by_cases e : r = root
 ·subst e; exact ⟨rcs,rt,rro,rex,r,thr',tip',by rw [AH.gtp,if_pos rfl],hk rfl⟩
 ·exact ⟨cs,t,ro,ex,r',th,ti,by rw [AH.gtp,if_neg e]; exact hr,hle⟩
def Like (o o' : Option AObj) : Prop :=
 match o,o' with
 | some (.cells cs t ro ex r _ _),some (.cells cs' t' ro' ex' r' _ _) => cs = cs' ∧ t = t' ∧ ro = ro' ∧ ex = ex' ∧ r = r'
 | a,b => a = b
theorem like_retag (hg : H.get root = some (.cells rcs rt rro rex root thr tip)) (k : Nat) : Like (H.get k) ((H.put' root (.cells rcs rt rro rex root thr' tip')).get k) := by
 rw [AH.gtp]
 by_cases e : k = root
 ·subst e; rw [if_pos rfl,hg]; exact ⟨rfl,rfl,rfl,rfl,rfl⟩
 ·rw [if_neg e]; cases H.get k with
  | none => rfl
  | some o => cases o <;> simp [Like]
theorem Like.cells {o : Option AObj} {cs : List Value} {t : TypeId} {ro ex : Bool} {r a b : Nat} (h : Like o (some (.cells cs t ro ex r a b))) : ∃ a' b',o = some (.cells cs t ro ex r a' b') := by
 cases o with
 | none => simp [Like] at h
 | some o => cases o with
  | cells => obtain ⟨rfl,rfl,rfl,rfl,rfl⟩ := h; exact ⟨_,_,rfl⟩
  | _ => simp [Like] at h
theorem Like.cells' {o : Option AObj} {cs : List Value} {t : TypeId} {ro ex : Bool} {r a b : Nat} (h : Like (some (.cells cs t ro ex r a b)) o) : ∃ a' b',o = some (.cells cs t ro ex r a' b') := by
 cases o with
 | none => simp [Like] at h
 | some o => cases o with
  | cells => obtain ⟨rfl,rfl,rfl,rfl,rfl⟩ := h; exact ⟨_,_,rfl⟩
  | _ => simp [Like] at h
theorem Like.eq_of {o o' : Option AObj} (h : Like o o') (hc : ∀ cs t ro ex r a b,o ≠ some (.cells cs t ro ex r a b)) : o' = o := by
 cases o with
 | none => cases o' <;> simp [Like] at h ⊢
 | some o => cases o with
  | cells => exact absurd rfl (hc _ _ _ _ _ _ _)
  | _ => cases o' <;> simp [Like] at h <;> simp [h]
theorem famOf_retag (hg : H.get root = some (.cells rcs rt rro rex root thr tip)) (k : Nat) : (H.put' root (.cells rcs rt rro rex root thr' tip')).famOf k = H.famOf k := by
 unfold AH.famOf; rw [AH.gtp]; by_cases e : k = root
 ·subst e; simp [hg]
 ·rw [if_neg e]
theorem lenOf_retag (hg : H.get root = some (.cells rcs rt rro rex root thr tip)) (k : Nat) : (H.put' root (.cells rcs rt rro rex root thr' tip')).lenOf k = H.lenOf k := by
 unfold AH.lenOf; rw [AH.gtp]; by_cases e : k = root
 ·subst e; simp [hg]
 ·rw [if_neg e]
theorem roOf_retag (hg : H.get root = some (.cells rcs rt rro rex root thr tip)) (k : Nat) : (H.put' root (.cells rcs rt rro rex root thr' tip')).roOf k ↔ H.roOf k := by
 unfold AH.roOf; rw [AH.gtp]; by_cases e : k = root
 ·subst e; simp [hg]
 ·rw [if_neg e]
theorem live_retag (hg : H.get root = some (.cells rcs rt rro rex root thr tip)) (h1 : thr ≤ thr') {k : Nat} (hl : (H.put' root (.cells rcs rt rro rex root thr' tip')).live k) : H.live k := by
 have hlk := like_retag (thr' := thr') (tip' := tip') hg k
 unfold AH.live at *
 cases hk : H.get k with
 | none => rw [hk] at hlk; rw [hlk.eq_of (by simp)] at hl; exact hl
 | some o =>
  rw [hk] at hlk
  cases o with
  | cells cs t ro ex r a b =>
   obtain ⟨a',b',e⟩ := hlk.cells'
   rw [e] at hl
   exact alive_retag hg h1 hl
  | _ => rw [hlk.eq_of (by simp)] at hl; exact hl
theorem HR.retag (h : HR gl P σ H hp) (hg : H.get root = some (.cells rcs rt rro rex root thr tip)) (h1 : thr ≤ thr') (h2 : tip ≤ tip') (h3 : tip' ≤ H.next) :
  HR gl P σ (H.put' root (.cells rcs rt rro rex root thr' tip')) hp := by
 refine ⟨fun k o hk => ?_,fun k cs t ro ex r th ti hk => ?_,h.sig,fun k p hk => ?_,fun k p cs t ro ex r th ti h1 h2 => ?_,fun k l pk pl hk hl hlt a b hb => ?_⟩
 ·have hlk := like_retag (thr' := thr') (tip' := tip') hg k
  rw [AH.gtp] at hk
  by_cases e : k = root
  ·subst e; exact h.lt _ _ hg
  ·rw [if_neg e] at hk; exact h.lt _ _ hk
 ·have hlk := like_retag (thr' := thr') (tip' := tip') hg k
  rw [hk] at hlk
  obtain ⟨a',b',e⟩ := hlk.cells
  obtain ⟨x,y,cs1,t1,ro1,ex1,th1,ti1,z,u,v⟩ := h.fam _ _ _ _ _ _ _ _ e
  refine ⟨x,y, ?_⟩
  by_cases er : r = root
  ·subst er
   rw [hg] at z; cases z
   exact ⟨_,_,_,_,_,_,by rw [AH.gtp,if_pos rfl],by omega,v.1,h3⟩
  ·exact ⟨cs1,t1,ro1,ex1,th1,ti1,by rw [AH.gtp,if_neg er]; exact z,u,v⟩
 ·have hlk := like_retag (thr' := thr') (tip' := tip') hg k
  have ho := h.obj k p hk
  unfold ObjOk at *
  cases hgk : H.get k with
  | none => rw [hgk] at hlk; rw [hlk.eq_of (by simp)]; trivial
  | some o =>
   rw [hgk] at hlk ho
   cases o with
   | cells cs t ro ex r a b =>
    obtain ⟨a',b',e⟩ := hlk.cells'
    rw [e]
    exact fun x => ho (alive_retag hg h1 x)
   | _ => rw [hlk.eq_of (by simp)]; exact ho
 ·have hlk := like_retag (thr' := thr') (tip' := tip') hg k
  rw [h2] at hlk
  obtain ⟨a',b',e⟩ := hlk.cells
  exact h.typ _ _ _ _ _ _ _ _ _ h1 e
 ·rw [famOf_retag hg,famOf_retag hg,lenOf_retag hg,lenOf_retag hg]
  exact h.dis k l pk pl hk hl hlt (live_retag hg h1 a) (live_retag hg h1 b) hb
theorem Prot.retag (hg : H.get root = some (.cells rcs rt rro rex root thr tip)) (h1 : thr ≤ thr') {b : Nat} (hpr : Prot σ H b) :
  Prot σ (H.put' root (.cells rcs rt rro rex root thr' tip')) b := by
 intro k p hk hb
 rcases hpr k p hk hb with x | x
 ·exact .inl fun y => x (live_retag hg h1 y)
 ·exact .inr ((roOf_retag hg k).2 x)
theorem Fr.retag (hg : H.get root = some (.cells rcs rt rro rex root thr tip)) (h1 : thr ≤ thr') : Fr σ H hp σ (H.put' root (.cells rcs rt rro rex root thr' tip')) hp :=
 ⟨.refl σ,Nat.le_refl _,fun _ _ => rfl,Nat.le_refl _,fun _ _ hp => ⟨rfl,hp.retag hg h1⟩,fun _ l h => ⟨l,h⟩⟩
end retag
theorem Fr.congrR {σ' : Ren} {H1 H1' : AH} {hp' : Array Obj} (h : Fr σ H hp σ' H1 hp') (hg : ∀ k,H1'.get k = H1.get k) (hn : H1'.next = H1.next) : Fr σ H hp σ' H1' hp' :=
 ⟨h.le,hn ▸ h.next,h.old,h.size,fun b hb hpr => let ⟨x,y⟩ := h.prot b hb hpr; ⟨x,y.congr hg⟩,h.loops⟩
theorem HR.setCells (h : HR gl P σ H hp) {k : Nat} {p : Place} {cs cs' : List Value} {t t' : TypeId} {ro ex : Bool} {root thr tip lo hi : Nat} {ccs ccs' : Array Value}
  (hk : σ k = some p) (hg : H.get k = some (.cells cs t ro ex root thr tip)) (hro : ro = false) (hlive : H.live k)
  (halone : ∀ l q,σ l = some q → l ≠ k → H.live l → q.b ≠ p.b)
  (hc : hp[p.b]? = some (.cells ccs t' (lo,hi))) (hlen : cs'.length = cs.length)
  (hat : CellsAt σ p cs' false ccs' lo hi) :
  HR gl P σ (H.put' k (.cells cs' t ro ex root thr tip)) (hp.setIfInBounds p.b (.cells ccs' t' (lo,hi))) ∧
  Fr σ H hp σ (H.put' k (.cells cs' t ro ex root thr tip)) (hp.setIfInBounds p.b (.cells ccs' t' (lo,hi))) := by
 subst hro
 have hpb : p.b < hp.size := (h.sig _ _ hk).2
 have hal : ∀ j r,(H.put' k (.cells cs' t false ex root thr tip)).alive j r = H.alive j r := by
  intro j r
  rw [Bool.eq_iff_iff,AH.alive_iff,AH.alive_iff]
  by_cases e : r = k
  ·subst e
   rw [AH.gtp,if_pos rfl,hg]
   constructor <;> (rintro ⟨_,_,_,_,_,_,_,e,hle⟩; cases e; exact ⟨_,_,_,_,_,_,_,rfl,hle⟩)
  ·rw [AH.gtp,if_neg e]
 have hlv : ∀ j,(H.put' k (.cells cs' t false ex root thr tip)).live j ↔ H.live j := by
  intro j
  unfold AH.live
  by_cases e : j = k
  ·subst e; rw [AH.gtp,if_pos rfl,hg]; simp only [hal]
  ·rw [AH.gtp,if_neg e]; cases H.get j with
   | none => rfl
   | some o => cases o <;> simp [hal]
 have hblk : ∀ b,b ≠ p.b → (hp.setIfInBounds p.b (.cells ccs' t' (lo,hi)))[b]? = hp[b]? := fun b hb => Array.getElem?_setIfInBounds_ne (Ne.symm hb)
 constructor
 ·refine ⟨fun j o hj => ?_,fun j cs1 t1 ro1 ex1 r1 th1 ti1 hj => ?_,fun j q hj => by simpa using h.sig j q hj,fun j q hj => ?_,fun j q cs1 t1 ro1 ex1 r1 th1 ti1 g1 g2 => ?_,fun j l pj pl hj hl hlt a b hb => ?_⟩
  ·rw [AH.gtp] at hj
   by_cases e : j = k
   ·subst e; exact h.lt _ _ hg
   ·rw [if_neg e] at hj; exact h.lt _ _ hj
  ·have hroot : ∀ r cs0 t0 ro0 ex0 th0 ti0,H.get r = some (.cells cs0 t0 ro0 ex0 r th0 ti0) → ∃ cs2,(H.put' k (.cells cs' t false ex root thr tip)).get r = some (.cells cs2 t0 ro0 ex0 r th0 ti0) := by
    intro r cs0 t0 ro0 ex0 th0 ti0 hr
    by_cases e : r = k
    ·subst e; rw [hg] at hr; cases hr; exact ⟨cs',by rw [AH.gtp,if_pos rfl]⟩
    ·exact ⟨cs0,by rw [AH.gtp,if_neg e]; exact hr⟩
   rw [AH.gtp] at hj
   by_cases e : j = k
   ·subst e; rw [if_pos rfl] at hj; cases hj
    obtain ⟨x,y,cs2,t2,ro2,ex2,th2,ti2,z,u,v⟩ := h.fam _ _ _ _ _ _ _ _ hg
    obtain ⟨cs3,z'⟩ := hroot _ _ _ _ _ _ _ z
    exact ⟨x,y,cs3,t2,ro2,ex2,th2,ti2,z',u,v⟩
   ·rw [if_neg e] at hj
    obtain ⟨x,y,cs2,t2,ro2,ex2,th2,ti2,z,u,v⟩ := h.fam _ _ _ _ _ _ _ _ hj
    obtain ⟨cs3,z'⟩ := hroot _ _ _ _ _ _ _ z
    exact ⟨x,y,cs3,t2,ro2,ex2,th2,ti2,z',u,v⟩
  ·by_cases e : j = k
   ·subst e
    rw [hk] at hj; cases hj
    have ho := h.obj _ _ hk
    unfold ObjOk at *
    rw [AH.gtp,if_pos rfl]
    rw [hg] at ho
    intro ha
    rw [hal] at ha
    obtain ⟨y1,y2,y3,y4⟩ := ho ha
    refine ⟨⟨ccs',t',lo,hi,by simp [hpb],hat⟩,y2,y3,fun e2 => ?_⟩
    obtain ⟨cc,lh,z2,z1⟩ := y4 e2
    obtain ⟨c1,t1,l1,g1,w1,w2⟩ := y1
    rw [hc] at z2 w1
    cases z2; cases w1
    refine ⟨ccs',(lo,hi),by simp [hpb],fun e1 => ⟨(z1 e1).1, ?_⟩⟩
    rw [hlen,← (z1 e1).2,← w2.room,hat.room]
   ·have ho := h.obj _ _ hj
    by_cases hjl : H.live j
    ·have := ho.mono (.refl σ) (hblk q.b (halone j q hj e hjl))
     unfold ObjOk at *
     rw [AH.gtp,if_neg e]
     cases hgj : H.get j with
     | none => trivial
     | some o => rw [hgj] at this; cases o with
      | cells => simp only [hal]; exact this
      | _ => exact this
    ·have hjl' : ¬ (H.put' k (.cells cs' t false ex root thr tip)).live j := fun x => hjl ((hlv j).1 x)
     unfold ObjOk AH.live at *
     rw [AH.gtp,if_neg e] at *
     cases hgj : H.get j with
     | none => trivial
     | some o => rw [hgj] at hjl'; cases o with
      | cells => exact fun x => absurd x hjl'
      | gone => trivial
      | _ => exact absurd trivial hjl'
  ·rw [AH.gtp] at g2
   by_cases e : j = k
   ·subst e; rw [if_pos rfl] at g2; cases g2
    exact h.typ _ _ _ _ _ _ _ _ _ g1 hg
   ·rw [if_neg e] at g2
    exact h.typ _ _ _ _ _ _ _ _ _ g1 g2
  ·have hf : ∀ j,(H.put' k (.cells cs' t false ex root thr tip)).famOf j = H.famOf j := by
    intro j; unfold AH.famOf; rw [AH.gtp]; by_cases e : j = k
    ·subst e; simp [hg]
    ·rw [if_neg e]
   have hln : ∀ j,(H.put' k (.cells cs' t false ex root thr tip)).lenOf j = H.lenOf j := by
    intro j; unfold AH.lenOf; rw [AH.gtp]; by_cases e : j = k
    ·subst e; simp [hg,hlen]
    ·rw [if_neg e]
   rw [hf,hf,hln,hln]
   exact h.dis j l pj pl hj hl hlt ((hlv j).1 a) ((hlv l).1 b) hb
 ·refine ⟨.refl σ,Nat.le_refl _,fun _ _ => rfl,by simp,fun b hb hpr => ?_,fun b l hl => ?_⟩
  ·have hbne : b ≠ p.b := by
    rintro rfl
    rcases hpr k p hk rfl with x | x
    ·exact x hlive
    ·unfold AH.roOf at x; rw [hg] at x; cases x
   refine ⟨hblk b hbne,fun j q hj hq => ?_⟩
   rcases hpr j q hj hq with x | x
   ·exact .inl fun y => x ((hlv j).1 y)
   ·refine .inr ?_
    unfold AH.roOf at *
    rw [AH.gtp]; by_cases e : j = k
    ·subst e; rw [hg] at x; cases x
    ·rw [if_neg e]; exact x
  ·by_cases e : b = p.b
   ·subst e; rw [hc] at hl; cases hl
   ·exact ⟨l,(hblk b e).trans hl⟩
theorem AH.row_some {H : AH} {k : Nat} {cs : List Value} (h : H.row k = some cs) : ∃ t ro ex root thr tip,H.get k = some (.cells cs t ro ex root thr tip) ∧ H.alive k root = true ∧ H.live k := by
 unfold AH.row at h
 cases hg : H.get k with
 | none => rw [hg] at h; cases h
 | some o => rw [hg] at h; cases o with
  | cells cs' t ro ex root thr tip =>
   simp only at h
   cases ha : H.alive k root with
   | false => rw [ha] at h; cases h
   | true => rw [ha] at h; cases h; exact ⟨t,ro,ex,root,thr,tip,rfl,ha,by unfold AH.live; rw [hg]; exact ha⟩
  | _ => cases h
theorem HR.row (h : HR gl P σ H hp) {k : Nat} {p : Place} {cs : List Value} (hk : σ k = some p) (hr : H.row k = some cs) :
  ∃ t ro ex root thr tip,H.get k = some (.cells cs t ro ex root thr tip) ∧ H.live k ∧ CellsOk σ hp p cs ro ∧ (ex = true → p.esz = 0) ∧ (ex = false → 0 < p.esz ∧ szOf P t = some p.esz) ∧ (ro = false → ExOk hp p cs.length t ex) := by
 obtain ⟨t,ro,ex,root,thr,tip,hg,ha,hl⟩ := AH.row_some hr
 have := h.obj k p hk
 unfold ObjOk at this
 rw [hg] at this
 exact ⟨t,ro,ex,root,thr,tip,hg,hl,(this ha).1,(this ha).2⟩
theorem live_cells {H : AH} {k : Nat} {cs : List Value} {t : TypeId} {ro ex : Bool} {root thr tip : Nat} (hg : H.get k = some (.cells cs t ro ex root thr tip)) : H.live k ↔ H.alive k root = true := by
 unfold AH.live; rw [hg]
theorem HR.alone (h : HR gl P σ H hp) {k root thr tip : Nat} {p : Place} {rcs cs : List Value} {rt t : TypeId} {rro rex ro ex : Bool} {a b : Nat}
  (hk : σ k = some p) (hgk : H.get k = some (.cells cs t ro ex root a b)) (hlive : H.live k) (hg : H.get root = some (.cells rcs rt rro rex root thr tip)) (ht : thr = k) (htip : tip ≤ k) :
  ∀ l q,σ l = some q → l ≠ k → H.live l → q.b ≠ p.b := by
 intro l q hl hne hll hb
 have hfk : H.famOf k = some root := by unfold AH.famOf; rw [hgk]
 have hfl : H.famOf l = some root := by
  rcases Nat.lt_or_gt_of_ne hne with x | x
  ·obtain ⟨⟨r,h1,h2⟩,_⟩ := h.dis l k q p hl hk x hll hlive hb
   rw [hfk] at h2; cases h2; exact h1
  ·obtain ⟨⟨r,h1,h2⟩,_⟩ := h.dis k l p q hk hl x hlive hll hb.symm
   rw [hfk] at h1; cases h1; exact h2
 unfold AH.famOf at hfl
 cases hgl : H.get l with
 | none => rw [hgl] at hfl; cases hfl
 | some o => rw [hgl] at hfl; cases o with
  | cells cs2 t2 ro2 ex2 r2 a2 b2 =>
   simp only at hfl; cases hfl
   obtain ⟨_,_,cs3,t3,ro3,ex3,th3,ti3,z,u,_⟩ := h.fam _ _ _ _ _ _ _ _ hgl
   rw [hg] at z; cases z
   have hal := (live_cells hgl).1 hll
   rw [AH.alive_iff] at hal
   obtain ⟨_,_,_,_,_,th4,_,z4,hle⟩ := hal
   rw [hg] at z4; cases z4
   omega
  | _ => cases hfl
theorem HR.write (h : HR gl P σ H hp) {H' : AH} {k : Nat} {p : Place} {cs cs' : List Value} {t' : TypeId} {lo hi : Nat} {ccs ccs' : Array Value}
  (hk : σ k = some p) (hr : H.row k = some cs) (hw : H.write k cs' = some H') (hc : hp[p.b]? = some (.cells ccs t' (lo,hi))) (hlen : cs'.length = cs.length)
  (hat : CellsAt σ p cs' false ccs' lo hi) :
  HR gl P σ H' (hp.setIfInBounds p.b (.cells ccs' t' (lo,hi))) ∧ Fr σ H hp σ H' (hp.setIfInBounds p.b (.cells ccs' t' (lo,hi))) := by
 obtain ⟨t,ro,ex,root,thr,tip,hg,ha,hl⟩ := AH.row_some hr
 have hfam := h.fam _ _ _ _ _ _ _ _ hg
 unfold AH.write at hw
 rw [hg] at hw
 cases ro with
 | true => cases hw
 | false =>
  simp only at hw
  by_cases hrk : root = k
  ·subst hrk
   rw [show Nat.beq root root = true from Nat.beq_refl root] at hw
   simp only [cond_true] at hw
   cases hcnd : (Nat.ble thr root && Nat.beq tip root) with
   | false => rw [hcnd] at hw; cases hw
   | true =>
    rw [hcnd] at hw
    simp only [cond_true,Option.some.injEq] at hw
    subst hw
    simp only [Bool.and_eq_true,Nat.ble_eq] at hcnd
    obtain ⟨h1,h2⟩ := hcnd
    have h2 := Nat.eq_of_beq_eq_true h2
    have hR := h.retag (thr' := root) (tip' := root) hg h1 (by omega) (Nat.le_of_lt (h.lt _ _ hg))
    have hF : Fr σ H hp σ _ hp := Fr.retag (thr' := root) (tip' := root) hg h1
    have hg1 : (H.put' root (.cells cs t false ex root root root)).get root = some (.cells cs t false ex root root root) := by rw [AH.gtp,if_pos rfl]
    have hl1 : (H.put' root (.cells cs t false ex root root root)).live root := (live_cells hg1).2 (alive_of_retag hg ha (fun _ => Nat.le_refl _))
    obtain ⟨hA,hB⟩ := hR.setCells hk hg1 rfl hl1 (hR.alone hk hg1 hl1 hg1 rfl (Nat.le_refl _)) hc hlen hat
    have hget : ∀ j,(H.put root (.cells cs' t false ex root root root)).get j = ((H.put' root (.cells cs t false ex root root root)).put' root (.cells cs' t false ex root root root)).get j := by
     intro j; simp only [AH.gpt,AH.gtp]; split <;> rfl
    exact ⟨hA.congr hget rfl,(hF.trans hB).congrR hget rfl⟩
  ·have hb : Nat.beq root k = false := by rw [Bool.eq_false_iff]; simpa using hrk
   rw [hb] at hw
   simp only [cond_false] at hw
   obtain ⟨hrle,_,rcs,rt,rro,rex,rthr,rtip,hgr,hkt,_⟩ := hfam
   rw [hgr] at hw
   simp only at hw
   cases hcnd : (Nat.ble rthr k && Nat.beq rtip k) with
   | false => rw [hcnd] at hw; cases hw
   | true =>
    rw [hcnd] at hw
    simp only [cond_true,Option.some.injEq] at hw
    subst hw
    simp only [Bool.and_eq_true,Nat.ble_eq] at hcnd
    obtain ⟨h1,h2⟩ := hcnd
    have h2 := Nat.eq_of_beq_eq_true h2
    have hR := h.retag (thr' := k) (tip' := k) hgr h1 (by omega) (Nat.le_of_lt (h.lt _ _ hg))
    have hF : Fr σ H hp σ _ hp := Fr.retag (thr' := k) (tip' := k) hgr h1
    have hg1 : (H.put' root (.cells rcs rt rro rex root k k)).get k = some (.cells cs t false ex root thr tip) := by rw [AH.gtp,if_neg (Ne.symm hrk)]; exact hg
    have hgr1 : (H.put' root (.cells rcs rt rro rex root k k)).get root = some (.cells rcs rt rro rex root k k) := by rw [AH.gtp,if_pos rfl]
    have hl1 : (H.put' root (.cells rcs rt rro rex root k k)).live k := (live_cells hg1).2 (alive_of_retag hgr ha (fun _ => Nat.le_refl _))
    obtain ⟨hA,hB⟩ := hR.setCells hk hg1 rfl hl1 (hR.alone hk hg1 hl1 hgr1 rfl (Nat.le_refl _)) hc hlen hat
    have hget : ∀ j,((H.put root (.cells rcs rt rro rex root k k)).put' k (.cells cs' t false ex root thr tip)).get j = ((H.put' root (.cells rcs rt rro rex root k k)).put' k (.cells cs' t false ex root thr tip)).get j := by
     intro j; simp only [AH.gpt,AH.gtp]
    exact ⟨hA.congr hget rfl,(hF.trans hB).congrR hget rfl⟩
end Go.Den
/- Den, part F: growth; the machine's loads and stores of several cells. -/
namespace Go.Den
variable {gl : Nat → Bool} {P : Program} {σ : Ren} {H : AH} {hp : Array Obj}
theorem HR.spare (h : HR gl P σ H hp) {b off : Nat} {t' : TypeId} {lo hi : Nat} {ccs ccs' : Array Value}
  (hc : hp[b]? = some (.cells ccs t' (lo,hi))) (hsz : ccs'.size = ccs.size) (heq : ∀ i,i < off → ccs'[i]? = ccs[i]?)
  (hends : ∀ l q,σ l = some q → H.live l → q.b = b → q.base + H.lenOf l ≤ off) :
  HR gl P σ H (hp.setIfInBounds b (.cells ccs' t' (lo,hi))) := by
 have hpb : b < hp.size := by
  rcases Nat.lt_or_ge b hp.size with x | x
  ·exact x
  ·rw [Array.getElem?_eq_none x] at hc; cases hc
 refine ⟨h.lt,h.fam,fun k p hk => by simpa using h.sig k p hk,fun k p hk => ?_,h.typ,h.dis⟩
 have ho := h.obj k p hk
 by_cases e : p.b = b
 ·subst e
  unfold ObjOk at *
  cases hg : H.get k with
  | none => trivial
  | some o =>
   rw [hg] at ho
   cases o with
   | cells cs t ro ex root thr tip =>
    intro ha
    obtain ⟨⟨ccs0,t0,lo0,hi0,h1,h2⟩,h3⟩ := ho ha
    rw [hc] at h1; cases h1
    refine ⟨⟨ccs',t',lo,hi,by simp [hpb],⟨h2.room.trans hsz.symm,by rw [hsz]; exact h2.fits, ?_,fun x y => by rw [hsz]; exact h2.free x y⟩⟩,h3.1,h3.2.1,fun e2 => by
     obtain ⟨cc,lh,z2,z3⟩ := h3.2.2 e2
     rw [hc] at z2; cases z2
     exact ⟨ccs',(lo,hi),by simp [hpb],fun e1 => ⟨(z3 e1).1,hsz.trans (z3 e1).2⟩⟩⟩
    have hend := hends k p hk ((live_cells hg).2 ha) rfl
    have hlen : H.lenOf k = cs.length := by unfold AH.lenOf; rw [hg]
    rw [hlen] at hend
    have : (ccs'.toList.drop p.base).take cs.length = (ccs.toList.drop p.base).take cs.length := by
     apply List.ext_getElem?
     intro i
     rw [List.getElem?_take,List.getElem?_take]
     split
     ·rw [List.getElem?_drop,List.getElem?_drop,Array.getElem?_toList,Array.getElem?_toList]
      exact heq _ (by omega)
     ·rfl
    rw [this]; exact h2.vals
   | map es clock => obtain ⟨ces,h1,_⟩ := ho; rw [hc] at h1; cases h1
   | iter s pos => rw [hc] at ho; obtain ⟨_,h1⟩ := ho; cases h1
   | loop e ps as bd st pend => obtain ⟨r,h1,_⟩ := ho; rw [hc] at h1; cases h1
   | gone => trivial
 ·exact ho.mono (.refl σ) (Array.getElem?_setIfInBounds_ne (Ne.symm e))
theorem HR.pushRoot (h : HR gl P σ H hp) {t : TypeId} {cs : List Value} {ccs : Array Value} {esz lo hi : Nat} (hv : VL σ cs (ccs.toList.take cs.length)) (hl : cs.length ≤ ccs.size)
  (he : 0 < esz) (hsz : szOf P t = some esz) (hfr : lo < hi → ccs.size ≤ lo) :
  HR gl P (σ.add H.next ⟨hp.size,0,ccs.size,esz⟩) (H.push (.cells cs t false false H.next H.next H.next)) (hp.push (.cells ccs t (lo,hi))) ∧
  Fr σ H hp (σ.add H.next ⟨hp.size,0,ccs.size,esz⟩) (H.push (.cells cs t false false H.next H.next H.next)) (hp.push (.cells ccs t (lo,hi))) := by
 refine h.alloc (fun _ => .inr trivial) (fun cs' t'' ro ex root thr tip e => ?_) (fun cs' t'' ro ex root thr tip e => by cases e; exact ⟨fun h => (by cases h),fun _ => ⟨he,hsz⟩⟩) (fun σ' hs => ?_)
 ·cases e
  exact ⟨Nat.le_refl _,fun _ => rfl,cs,t,false,false,H.next,H.next,by rw [AH.gpu,if_pos rfl],Nat.le_refl _,fun _ => rfl,Nat.le_succ _⟩
 ·unfold ObjOk
  rw [AH.gpu,if_pos rfl]
  intro _
  refine ⟨⟨ccs,t,lo,hi,by simp,⟨rfl,by simpa using hl, ?_,fun _ => hfr⟩⟩,(fun e => by cases e),(fun _ => ⟨he,hsz⟩),fun _ => ⟨ccs,(lo,hi),by simp,fun e => by cases e⟩⟩
  simpa using hv.mono hs
theorem AH.grow_cases {H H' : AH} {i : Nat} {atEnd : Bool} {t : TypeId} {cs : List Value} (hw : H.grow i atEnd t cs = some H')
  (hfam : ∀ cs t ro ex root thr tip,H.get i = some (.cells cs t ro ex root thr tip) → root ≤ i ∧ (ex = true → root = i) ∧
  ∃ rcs rt rro rex rthr rtip,H.get root = some (.cells rcs rt rro rex root rthr rtip) ∧ i ≤ rtip ∧ (rex = true → root = i) ∧ rtip ≤ H.next) :
  ∃ ics ro ex root thr tip,H.get i = some (.cells ics t ro ex root thr tip) ∧ H.alive i root = true ∧
   ((ex = true ∧ H' = H.push (.cells cs t false false H.next H.next H.next)) ∨
    (ex = false ∧ ro = false ∧ ∃ rcs rt rro rthr rtip thr',H.get root = some (.cells rcs rt rro false root rthr rtip) ∧ rthr ≤ i ∧ i ≤ rtip ∧ rtip ≤ H.next ∧
     ((thr' = rthr ∧ rtip = i ∧ atEnd = true) ∨ thr' = H.next) ∧
     (∀ k,H'.get k = ((H.put' root (.cells rcs rt rro false root thr' H.next)).push (.cells cs t false false root 0 0)).get k) ∧ H'.next = H.next + 1)) := by
 unfold AH.grow at hw
 cases hg : H.get i with
 | none => rw [hg] at hw; cases hw
 | some o =>
  rw [hg] at hw
  cases o with
  | cells ics t' ro ex root thr tip =>
   obtain ⟨hri,hexr,rcs,rt,rro,rex,rthr,rtip,hgr,hit,hrex,hrn⟩ := hfam _ _ _ _ _ _ _ hg
   cases ex with
   | true =>
    simp only at hw
    cases hcnd : (H.alive i root && Nat.beq t t') with
    | false => rw [hcnd] at hw; cases hw
    | true =>
     rw [hcnd] at hw; simp only [cond_true,Option.some.injEq] at hw
     simp only [Bool.and_eq_true] at hcnd
     have := Nat.eq_of_beq_eq_true hcnd.2; subst this
     exact ⟨ics,ro,true,root,thr,tip,rfl,hcnd.1,.inl ⟨rfl,hw.symm⟩⟩
   | false =>
    simp only at hw
    cases hcnd : (Nat.beq t t' && !ro) with
    | false => rw [hcnd] at hw; cases hw
    | true =>
     rw [hcnd] at hw; simp only [cond_true] at hw
     simp only [Bool.and_eq_true,Bool.not_eq_true'] at hcnd
     have := Nat.eq_of_beq_eq_true hcnd.1; subst this
     obtain ⟨_,hro⟩ := hcnd
     subst hro
     have hrex' : rex = false := by
      cases rex with
      | false => rfl
      | true =>
       have := hrex rfl; subst this
       rw [hg] at hgr; cases hgr
     subst hrex'
     by_cases hrk : root = i
     ·subst hrk
      rw [hg] at hgr; cases hgr
      rw [show Nat.beq root root = true from Nat.beq_refl root] at hw
      simp only [cond_true] at hw
      cases hth : Nat.ble thr root with
      | false => rw [hth] at hw; cases hw
      | true =>
       rw [hth] at hw; simp only [cond_true] at hw
       rw [Nat.ble_eq] at hth
       refine ⟨ics,false,false,root,thr,tip,rfl,AH.alive_iff.2 ⟨_,_,_,_,_,_,_,hg,hth⟩,.inr ⟨rfl,rfl,ics,t,false,thr,tip, ?_⟩⟩
       cases hcnd : (Nat.beq tip root && atEnd) with
       | true =>
        rw [hcnd] at hw; simp only [cond_true,Option.some.injEq] at hw; subst hw
        simp only [Bool.and_eq_true] at hcnd
        exact ⟨thr,hg,hth,hit,hrn,.inl ⟨rfl,Nat.eq_of_beq_eq_true hcnd.1,hcnd.2⟩,fun _ => rfl,rfl⟩
       | false =>
        rw [hcnd] at hw; simp only [cond_false,Option.some.injEq] at hw; subst hw
        exact ⟨H.next,hg,hth,hit,hrn,.inr rfl,fun k => by simp only [AH.gpu,AH.gpt,AH.gtp,AH.next_put,AH.next_put'],rfl⟩
     ·have hb : Nat.beq root i = false := by rw [Bool.eq_false_iff]; simpa using hrk
      rw [hb] at hw; simp only [cond_false] at hw
      rw [hgr] at hw
      simp only at hw
      cases hth : Nat.ble rthr i with
      | false => rw [hth] at hw; cases hw
      | true =>
       rw [hth] at hw; simp only [cond_true] at hw
       rw [Nat.ble_eq] at hth
       refine ⟨ics,false,false,root,thr,tip,rfl,AH.alive_iff.2 ⟨_,_,_,_,_,_,_,hgr,hth⟩,.inr ⟨rfl,rfl,rcs,rt,rro,rthr,rtip, ?_⟩⟩
       cases hcnd : (Nat.beq rtip i && atEnd) with
       | true =>
        rw [hcnd] at hw; simp only [cond_true,Option.some.injEq] at hw; subst hw
        simp only [Bool.and_eq_true] at hcnd
        exact ⟨rthr,hgr,hth,hit,hrn,.inl ⟨rfl,Nat.eq_of_beq_eq_true hcnd.1,hcnd.2⟩,fun _ => rfl,rfl⟩
       | false =>
        rw [hcnd] at hw; simp only [cond_false,Option.some.injEq] at hw; subst hw
        exact ⟨H.next,hgr,hth,hit,hrn,.inr rfl,fun k => by simp only [AH.gpu,AH.gpt,AH.gtp,AH.next_put,AH.next_put'],rfl⟩
  | _ => cases hw
theorem HR.pushMember (h : HR gl P σ H hp) {rcs cs : List Value} {rt t : TypeId} {rro : Bool} {root thr : Nat} {ccs : Array Value} {esz lo hi : Nat}
  (hgr : H.get root = some (.cells rcs rt rro false root thr H.next)) (hv : VL σ cs (ccs.toList.take cs.length)) (hl : cs.length ≤ ccs.size)
  (he : 0 < esz) (hsz : szOf P t = some esz) (hfr : lo < hi → ccs.size ≤ lo) :
  HR gl P (σ.add H.next ⟨hp.size,0,ccs.size,esz⟩) (H.push (.cells cs t false false root 0 0)) (hp.push (.cells ccs t (lo,hi))) ∧
  Fr σ H hp (σ.add H.next ⟨hp.size,0,ccs.size,esz⟩) (H.push (.cells cs t false false root 0 0)) (hp.push (.cells ccs t (lo,hi))) := by
 have hrl := h.lt _ _ hgr
 refine h.alloc (fun _ => .inr trivial) (fun cs' t'' ro ex root' thr tip e => ?_) (fun cs' t'' ro ex root thr tip e => by cases e; exact ⟨fun h => (by cases h),fun _ => ⟨he,hsz⟩⟩) (fun σ' hs => ?_)
 ·cases e
  exact ⟨Nat.le_of_lt hrl,(fun e => by cases e),rcs,rt,rro,false,_,H.next,by rw [AH.gpu,if_neg (by omega)]; exact hgr,Nat.le_refl _,(fun e => by cases e),Nat.le_succ _⟩
 ·unfold ObjOk
  rw [AH.gpu,if_pos rfl]
  intro _
  refine ⟨⟨ccs,t,lo,hi,by simp,⟨rfl,by simpa using hl, ?_,fun _ => hfr⟩⟩,(fun e => by cases e),(fun _ => ⟨he,hsz⟩),fun _ => ⟨ccs,(lo,hi),by simp,fun e => by cases e⟩⟩
  simpa using hv.mono hs
theorem HR.growAlloc (h : HR gl P σ H hp) {H' : AH} {i : Nat} {atEnd : Bool} {t : TypeId} {cs : List Value} {ccs : Array Value} {esz lo hi : Nat}
  (hw : H.grow i atEnd t cs = some H') (hv : VL σ cs (ccs.toList.take cs.length)) (hl : cs.length ≤ ccs.size)
  (he : 0 < esz) (hsz : szOf P t = some esz) (hfr : lo < hi → ccs.size ≤ lo) :
  HR gl P (σ.add H.next ⟨hp.size,0,ccs.size,esz⟩) H' (hp.push (.cells ccs t (lo,hi))) ∧
  Fr σ H hp (σ.add H.next ⟨hp.size,0,ccs.size,esz⟩) H' (hp.push (.cells ccs t (lo,hi))) := by
 obtain ⟨ics,ro,ex,root,thr,tip,hg,ha,hcase⟩ := AH.grow_cases hw (fun _ _ _ _ _ _ _ hx => h.fam _ _ _ _ _ _ _ _ hx)
 rcases hcase with ⟨_,rfl⟩ | ⟨_,_,rcs,rt,rro,rthr,rtip,thr',hgr,hti,hit,hrn,hth,hget,hnext⟩
 ·exact h.pushRoot hv hl he hsz hfr
 ·have hin : i < H.next := h.lt _ _ hg
  have hthr : rthr ≤ thr' := by rcases hth with ⟨e,_⟩ | e <;> omega
  have hR := h.retag (thr' := thr') (tip' := H.next) hgr hthr hrn (Nat.le_refl _)
  have hF : Fr σ H hp σ _ hp := Fr.retag (thr' := thr') (tip' := H.next) hgr hthr
  obtain ⟨hA,hB⟩ := hR.pushMember (cs := cs) (ccs := ccs) (lo := lo) (hi := hi) (AH.gtp _ _ _ _ |>.trans (if_pos rfl)) hv hl he hsz hfr
  exact ⟨hA.congr hget hnext,(hF.trans hB).congrR hget hnext⟩
theorem HR.growHere (h : HR gl P σ H hp) {H' : AH} {i off : Nat} {atEnd : Bool} {t t' : TypeId} {cs : List Value} {ccs ccs' : Array Value} {pi : Place} {x lo hi : Nat}
  (hi' : σ i = some pi) (hrow : ∃ r,H.row i = some r ∧ (atEnd = true → pi.base + r.length = off))
  (hw : H.grow i atEnd t cs = some H') (hesz : 0 < pi.esz)
  (hc : hp[pi.b]? = some (.cells ccs t' (lo,hi))) (hsz : ccs'.size = ccs.size) (heq : ∀ j,j < off → ccs'[j]? = ccs[j]?) (hfr : lo < hi → ccs.size ≤ lo)
  (hroom : pi.room = ccs.size) (hv : VL σ cs ((ccs'.toList.drop x).take cs.length)) (hl : x + cs.length ≤ ccs.size) (hoff : off ≤ x + cs.length) :
  HR gl P (σ.add H.next ⟨pi.b,x,pi.room,pi.esz⟩) H' (hp.setIfInBounds pi.b (.cells ccs' t' (lo,hi))) ∧
  Fr σ H hp (σ.add H.next ⟨pi.b,x,pi.room,pi.esz⟩) H' (hp.setIfInBounds pi.b (.cells ccs' t' (lo,hi))) := by
 obtain ⟨ics,ro,ex,root,thr,tip,hg,ha,hcase⟩ := AH.grow_cases hw (fun _ _ _ _ _ _ _ hx => h.fam _ _ _ _ _ _ _ _ hx)
 have hli : H.live i := (live_cells hg).2 ha
 have hob := h.obj i pi hi'
 unfold ObjOk at hob
 rw [hg] at hob
 obtain ⟨_,hexz,hexs,hext⟩ := hob ha
 have hpb : pi.b < hp.size := (h.sig _ _ hi').2
 rcases hcase with ⟨rfl,_⟩ | ⟨rfl,rfl,rcs,rt,rro,rthr,rtip,thr',hgr,hti,hit,hrn,hth,hget,hnext⟩
 ·have := hexz rfl; omega
 ·have hin : i < H.next := h.lt _ _ hg
  have hthr : rthr ≤ thr' := by rcases hth with ⟨e,_⟩ | e <;> omega
  have hR := h.retag (thr' := thr') (tip' := H.next) hgr hthr hrn (Nat.le_refl _)
  have hF : Fr σ H hp σ _ hp := Fr.retag (thr' := thr') (tip' := H.next) hgr hthr
  -- whatever is live in that block ends ahead of off
  have hfi : H.famOf i = some root := by unfold AH.famOf; rw [hg]
  have hends : ∀ l q,σ l = some q → (H.put' root (.cells rcs rt rro false root thr' H.next)).live l → q.b = pi.b → H.famOf l = some root ∧ q.base + H.lenOf l ≤ off := by
   intro l q hl hll hb
   have hll0 := live_retag hgr hthr hll
   have hfl : H.famOf l = some root := by
    rcases Nat.lt_trichotomy l i with y | y | y
    ·obtain ⟨⟨r,h1,h2⟩,_⟩ := h.dis l i q pi hl hi' y hll0 hli hb
     rw [hfi] at h2; cases h2; exact h1
    ·subst y; exact hfi
    ·obtain ⟨⟨r,h1,h2⟩,_⟩ := h.dis i l pi q hi' hl y hli hll0 hb.symm
     rw [hfi] at h1; cases h1; exact h2
   refine ⟨hfl, ?_⟩
   have hgl : ∃ cs2 t2 ro2 ex2 a2 b2,H.get l = some (.cells cs2 t2 ro2 ex2 root a2 b2) := by
    unfold AH.famOf at hfl
    cases hgl : H.get l with
    | none => rw [hgl] at hfl; cases hfl
    | some o => rw [hgl] at hfl; cases o with
     | cells cs2 t2 ro2 ex2 r2 a2 b2 => simp only at hfl; cases hfl; exact ⟨_,_,_,_,_,_,rfl⟩
     | _ => cases hfl
   obtain ⟨cs2,t2,ro2,ex2,a2,b2,hgl⟩ := hgl
   have hll1 : H.next > l := h.lt _ _ hgl
   rcases hth with ⟨e1,e2,e3⟩ | e1
   ·obtain ⟨_,_,cs3,t3,ro3,ex3,th3,ti3,z,u,_⟩ := h.fam _ _ _ _ _ _ _ _ hgl
    rw [hgr] at z; cases z
    obtain ⟨r,hr1,hr2⟩ := hrow
    have hri : r = ics := by
     obtain ⟨t9,ro9,ex9,root9,thr9,tip9,hg9,_,_⟩ := AH.row_some hr1
     rw [hg] at hg9; cases hg9; rfl
    have hend := hr2 e3
    have hlen : H.lenOf i = ics.length := by unfold AH.lenOf; rw [hg]
    rcases Nat.lt_or_ge l i with y | y
    ·have := (h.dis l i q pi hl hi' y hll0 hli hb).2
     rw [hlen,← hri] at this; omega
    ·have : l = i := by omega
     subst this
     rw [hi'] at hl; cases hl
     rw [hlen,← hri]; omega
   ·exfalso
    have hlk := like_retag (thr' := thr') (tip' := H.next) hgr l
    rw [hgl] at hlk
    obtain ⟨a',b',e⟩ := hlk.cells'
    have := (live_cells e).1 hll
    rw [AH.alive_iff] at this
    obtain ⟨_,_,_,_,_,th4,_,z4,hle⟩ := this
    rw [AH.gtp,if_pos rfl] at z4; cases z4
    omega
  have hS := hR.spare hc hsz heq (fun l q hl hll hb => by rw [lenOf_retag hgr]; exact (hends l q hl hll hb).2)
  have hrl : root < H.next := h.lt _ _ hgr
  have hA := hS.pushAt (o := .cells cs t false false root 0 0) (p := ⟨pi.b,x,pi.room,pi.esz⟩) (hp' := hp.setIfInBounds pi.b (.cells ccs' t' (lo,hi)))
   (fun k q hk _ => hS.obj k q hk) (Nat.le_refl _) (by simpa using hpb)
   (fun cs' t'' ro ex root' thr tip e => by
    cases e
    exact ⟨Nat.le_of_lt hrl,(fun e => by cases e),rcs,rt,rro,false,_,H.next,by rw [AH.gpu,if_neg (by simp; omega),AH.gtp,if_pos rfl],Nat.le_refl _,(fun e => by cases e),Nat.le_succ _⟩)
   (fun cs' t'' ro ex root' thr tip e => by cases e; exact ⟨fun h => (by cases h),fun _ => hexs rfl⟩)
   (by
    unfold ObjOk
    rw [AH.gpu,if_pos rfl]
    intro _
    refine ⟨⟨ccs',t',lo,hi,by simp [hpb],⟨by simp [hroom,hsz],by simp; omega,hv.mono (hS.add_le _),fun _ y => by rw [hsz]; exact hfr y⟩⟩,(fun e => by cases e),(fun _ => hexs rfl),fun _ => ?_⟩
    obtain ⟨cc,lh,z2,_⟩ := hext rfl
    rw [hc] at z2; cases z2
    exact ⟨ccs',(lo,hi),by simp [hpb],fun e => by cases e⟩)
   (fun k q hk hkl _ hb => by
    obtain ⟨h1,h2⟩ := hends k q hk hkl hb
    refine ⟨⟨root,by rw [famOf_retag hgr]; exact h1,by unfold AH.famOf; rw [AH.gpu,if_pos rfl]⟩, ?_⟩
    rw [lenOf_retag hgr]
    have : AH.lenOf (AH.push (H.put' root (.cells rcs rt rro false root thr' H.next)) (.cells cs t false false root 0 0)) (H.put' root (.cells rcs rt rro false root thr' H.next)).next = cs.length := by
     unfold AH.lenOf; rw [AH.gpu,if_pos rfl]
    rw [this]
    simp only
    omega)
  refine ⟨hA.congr hget hnext, ?_⟩
  refine Fr.congrR ?_ hget hnext
  refine ⟨h.add_le _,by simp,fun k hk => Ren.add_ne _ _ (by omega),by simp,fun b hb hpr => ?_,fun b l hl => ?_⟩
  ·have hbne : b ≠ pi.b := by
    rintro rfl
    rcases hpr i pi hi' rfl with y | y
    ·exact y hli
    ·unfold AH.roOf at y; rw [hg] at y; cases y
   refine ⟨Array.getElem?_setIfInBounds_ne (Ne.symm hbne),Prot.push hS (hpr.retag hgr hthr) fun e => absurd e.symm hbne⟩
  ·by_cases e : b = pi.b
   ·subst e; rw [hc] at hl; cases hl
   ·exact ⟨l,(Array.getElem?_setIfInBounds_ne (Ne.symm e)).trans hl⟩
end Go.Den
/- Den, part G: the machine's steps: loads, stores, arithmetic, addresses. -/
namespace Go.Den
variable {gl : Nat → Bool} {P : Program} {σ : Ren} {H : AH}
theorem cell_at {w : World} {b o : Nat} {ccs : Array Value} {t : TypeId} {fr : Nat × Nat} (h : w.heap[b]? = some (.cells ccs t fr)) : w.cell? ⟨b,o,none⟩ = ccs[o]? := by
 simp [World.cell?,h]
theorem frozen_at {w : World} {b o : Nat} {ccs : Array Value} {t : TypeId} {lo hi : Nat} (h : w.heap[b]? = some (.cells ccs t (lo,hi))) : w.frozen? ⟨b,o,none⟩ = (decide (lo ≤ o) && decide (o < hi)) := by
 simp [World.frozen?,h]
theorem add_addr (b o n : Nat) : (Addr.add ⟨b,o,none⟩ n) = ⟨b,o + n,none⟩ := by
 unfold Addr.add; split
 ·subst_vars; rfl
 ·rfl
theorem run_loadCellsFrom {w : World} {b o : Nat} {ccs : Array Value} {t : TypeId} {fr : Nat × Nat} (h : w.heap[b]? = some (.cells ccs t fr)) :
  ∀ (n i : Nat) (acc : Array Value),o + i + n ≤ ccs.size → (loadCellsFrom ⟨b,o,none⟩ i n acc).run P w = .ok (acc ++ ((ccs.toList.drop (o + i)).take n).toArray) w := by
 intro n
 induction n with
 | zero => intro i acc _; simp [loadCellsFrom]
 | succ n ih =>
  intro i acc hle
  have hlt : o + i < ccs.size := by omega
  simp only [loadCellsFrom,Sem.run_bind,run_load,add_addr,cell_at h,Array.getElem?_eq_getElem hlt,Result.andThen_ok]
  rw [ih (i + 1) _ (by omega)]
  congr 1
  apply Array.toList_inj.1
  simp only [Array.toList_append,Array.toList_push]
  rw [List.drop_eq_getElem_cons (l := ccs.toList) (i := o + i) (by simpa using hlt)]
  simp [show o + i + 1 = o + (i + 1) by omega]
theorem run_loadCells {w : World} {b o n : Nat} {ccs : Array Value} {t : TypeId} {fr : Nat × Nat} (h : w.heap[b]? = some (.cells ccs t fr)) (hle : o + n ≤ ccs.size) :
  (loadCells ⟨b,o,none⟩ n).run P w = .ok ((ccs.toList.drop o).take n).toArray w := by
 unfold loadCells
 rw [run_loadCellsFrom h n 0 #[] (by omega)]
 simp
theorem modify_cells {hp : Array Obj} {b : Nat} {o : Obj} (f : Obj → Obj) (h : hp[b]? = some o) : hp.modify b f = hp.setIfInBounds b (f o) := by
 apply Array.ext_getElem?
 intro i
 rw [Array.getElem?_modify]
 by_cases e : b = i
 ·subst e
  have hb : b < hp.size := by
   rcases Nat.lt_or_ge b hp.size with x | x
   ·exact x
   ·rw [Array.getElem?_eq_none x] at h; cases h
  rw [Array.getElem?_eq_getElem hb] at h
  injection h with h
  simp [h,hb]
 ·simp [e,Array.getElem?_setIfInBounds_ne e]
theorem setCell_heap {w : World} {b o : Nat} {ccs : Array Value} {t : TypeId} {fr : Nat × Nat} (h : w.heap[b]? = some (.cells ccs t fr)) (v : Value) :
  w.setCell ⟨b,o,none⟩ v = { w with heap := w.heap.setIfInBounds b (.cells (ccs.setIfInBounds o v) t fr) } := by
 unfold World.setCell
 simp only
 rw [modify_cells _ h]
 simp
theorem splice_nil (cs : List Value) (o : Nat) : splice cs o [] = cs := by simp [splice]
theorem splice_length (cs vs : List Value) (o : Nat) (h : o + vs.length ≤ cs.length) : (splice cs o vs).length = cs.length := by
 simp [splice]; omega
theorem splice_cons (cs vs : List Value) (o : Nat) (v : Value) (h : o + vs.length + 1 ≤ cs.length) : splice (cs.set o v) (o + 1) vs = splice cs o (v :: vs) := by
 unfold splice
 have h1 : (cs.set o v).take (o + 1) = cs.take o ++ [v] := by
  rw [List.take_set,List.take_succ_eq_append_getElem (by omega),List.set_append_right _ _ (by simp; omega)]
  simp [Nat.min_eq_left (show o ≤ cs.length by omega)]
 have h2 : (cs.set o v).drop (o + 1 + vs.length) = cs.drop (o + (v :: vs).length) := by
  rw [List.drop_set_of_lt (by omega)]
  congr 1; simp; omega
 rw [h1,h2]; simp
theorem run_storeCells {b o : Nat} {t : TypeId} {lo hi : Nat} (vs : List Value) : ∀ (w : World) (i : Nat) (ccs : Array Value),w.heap[b]? = some (.cells ccs t (lo,hi)) →
  o + i + vs.length ≤ ccs.size → (lo < hi → ccs.size ≤ lo) → (∀ v ∈ vs,v.oneCell' = true) →
  ∃ ccs' : Array Value,(storeCells ⟨b,o,none⟩ vs i).run P w = .ok () { w with heap := w.heap.setIfInBounds b (.cells ccs' t (lo,hi)) } ∧ ccs'.toList = splice ccs.toList (o + i) vs := by
 induction vs with
 | nil =>
  intro w i ccs h _ _ _
  refine ⟨ccs, ?_,by simp [splice_nil]⟩
  have : w.heap.setIfInBounds b (.cells ccs t (lo,hi)) = w.heap := by
   apply Array.ext_getElem?
   intro j
   by_cases e : b = j
   ·subst e
    have hb : b < w.heap.size := by
     rcases Nat.lt_or_ge b w.heap.size with x | x
     ·exact x
     ·rw [Array.getElem?_eq_none x] at h; cases h
    rw [Array.getElem?_eq_getElem hb] at h
    injection h with h
    simp [hb,h]
   ·rw [Array.getElem?_setIfInBounds_ne e]
  simp [storeCells,this]
 | cons v vs ih =>
  intro w i ccs h hle hfr hone
  have hlt : o + i < ccs.size := by simp at hle; omega
  have hb : b < w.heap.size := by
   rcases Nat.lt_or_ge b w.heap.size with x | x
   ·exact x
   ·rw [Array.getElem?_eq_none x] at h; cases h
  have hnf : w.frozen? ⟨b,o + i,none⟩ = false := by
   rw [frozen_at h]
   by_cases hx : lo < hi
   ·have := hfr hx
    have : ¬ lo ≤ o + i := by omega
    simp [this]
   ·have : ¬ (lo ≤ o + i ∧ o + i < hi) := by omega
    simp only [Bool.and_eq_false_iff,decide_eq_false_iff_not]
    by_cases hy : lo ≤ o + i
    ·exact .inr (by omega)
    ·exact .inl hy
  simp only [storeCells,Sem.run_bind,add_addr,run_store P w _ v _ (hone v (by simp)),cell_at h,Array.getElem?_eq_getElem hlt,hnf,Bool.false_eq_true,if_false,Result.andThen_ok]
  rw [setCell_heap h]
  have h' : ({ w with heap := w.heap.setIfInBounds b (.cells (ccs.setIfInBounds (o + i) v) t (lo,hi)) } : World).heap[b]? = some (.cells (ccs.setIfInBounds (o + i) v) t (lo,hi)) := by simp [hb]
  obtain ⟨ccs',h1,h2⟩ := ih _ (i + 1) (ccs.setIfInBounds (o + i) v) h' (by simp at hle ⊢; omega) (by simpa using hfr) (fun x hx => hone x (by simp [hx]))
  refine ⟨ccs', ?_, ?_⟩
  ·rw [h1]; simp [Array.setIfInBounds_setIfInBounds]
  ·rw [h2,show o + (i + 1) = o + i + 1 by omega,Array.toList_setIfInBounds]
   exact splice_cons _ _ _ _ (by simp at hle ⊢; omega)
def GlR (gl : Nat → Bool) (σ : Ren) : Prop := ∀ g,gl g = true → ∃ p,σ g = some p ∧ p.b = g ∧ p.base = 0
theorem GlR.mono {σ' : Ren} (hs : σ.Le σ') (h : GlR gl σ) : GlR gl σ' := fun g hg => let ⟨p,h1,h2⟩ := h g hg; ⟨p,hs _ _ h1,h2⟩
theorem closed_list {n : Nat} (ih : ∀ v,closedV n v = true → VR σ v v) (l : List Value) (h : l.all (closedV n) = true) : VL σ l l := by
 induction l with
 | nil => exact .nil
 | cons x xs ihl => simp only [List.all_cons,Bool.and_eq_true] at h; exact .cons (ih x h.1) (ihl h.2)
theorem VR.closed : ∀ (n : Nat) (v : Value),closedV n v = true → VR σ v v := by
 intro n
 induction n with
 | zero => intro v h; simp [closedV] at h
 | succ n ih =>
  intro v h
  cases v with
  | bool b => exact .bool b
  | int k x => exact .int k x
  | float k x => exact .float k x
  | complex k a b => simp [closedV] at h
  | string s => exact .string s
  | pointer a => cases a with
   | none => exact .ptrNil
   | some a => simp [closedV] at h
  | slice a l c => cases a with
   | none =>
    cases l with
    | zero => cases c with
     | zero => exact .sliceNil
     | succ c => simp [closedV] at h
    | succ l => simp [closedV] at h
   | some a => simp [closedV] at h
  | map r => cases r with
   | none => exact .mapNil
   | some r => simp [closedV] at h
  | chan r => cases r with
   | none => exact .chanNil
   | some r => simp [closedV] at h
  | func fn a b =>
   cases fn with
   | func f =>
    simp only [closedV,Bool.and_eq_true] at h
    exact VR.func_iff.2 ⟨_,_,_,rfl,.func f,closed_list ih _ h.1,closed_list ih _ h.2⟩
   | _ => simp [closedV] at h
  | nilFunc => exact .nilFunc
  | iface t v => exact .iface (ih v (by simpa [closedV] using h))
  | nilIface => exact .nilIface
  | agg cs => exact VR.agg_iff.2 ⟨_,rfl,closed_list ih _ (by simpa [closedV] using h)⟩
  | tuple cs => exact VR.tuple_iff.2 ⟨_,rfl,closed_list ih _ (by simpa [closedV] using h)⟩
theorem ea_ok {e : Env} {a : Act} (hgl : GlR gl σ) (he : EnvR σ e a.tmps) {x : Operand} {v : Value} (hok : argOk gl (cArg x) = true) (h : ea e (cArg x) = some v) : VR σ v (a.eval x) := by
 cases x with
 | tmp t => exact he t v h
 | const c =>
  simp only [cArg,ea,Option.some.injEq] at h
  subst h
  simp only [Act.eval]
  by_cases hp : ∃ ad,c = .pointer (some ad)
  ·obtain ⟨⟨g,o,s⟩,rfl⟩ := hp
   simp only [cArg,argOk,Bool.and_eq_true] at hok
   obtain ⟨⟨h1,h2⟩,h3⟩ := hok
   have h2 := Nat.eq_of_beq_eq_true h2; subst h2
   cases s with
   | some s => simp at h3
   | none =>
    obtain ⟨p,hp1,hp2,hp3⟩ := hgl g h1
    have := VR.ptr (o := 0) hp1
    rw [hp2,hp3] at this; exact this
  ·have : argOk gl (cArg (.const c)) = closedV 7 c := by
    cases c with
    | pointer ad => cases ad with
     | none => rfl
     | some ad => exact absurd ⟨ad,rfl⟩ hp
    | _ => rfl
   rw [this] at hok
   exact VR.closed 7 c hok
 | global g =>
  simp only [cArg,ea,Option.some.injEq] at h
  subst h
  simp only [cArg,argOk,Bool.and_eq_true] at hok
  obtain ⟨p,hp1,hp2,hp3⟩ := hgl g hok.1.1
  have := VR.ptr (o := 0) hp1
  rw [hp2,hp3] at this; exact this
 | func f =>
  simp only [cArg,ea,Option.some.injEq] at h
  subst h
  exact VR.func_iff.2 ⟨_,_,_,rfl,.func f,.nil,.nil⟩
def Stb (σ : Ren) (w : World) (σ' : Ren) (w' : World) : Prop := (∀ b,b < w.heap.size → w'.heap[b]? = w.heap[b]?) ∧ ∀ k p,σ k = none → σ' k = some p → w.heap.size ≤ p.b
theorem Stb.refl {w w' : World} (h : w'.heap = w.heap) : Stb σ w σ w' := ⟨fun b _ => by rw [h],fun k p h1 h2 => by rw [h1] at h2; cases h2⟩
theorem Stb.push {w w' : World} {k : Nat} {x y z : Nat} {o : Obj} (h : w'.heap = w.heap.push o) : Stb σ w (σ.add k ⟨w.heap.size,x,y,z⟩) w' := by
 refine ⟨fun b hb => by rw [h]; exact gpl hb,fun j p h1 h2 => ?_⟩
 by_cases e : j = k
 ·subst e; rw [Ren.add_self] at h2; cases h2; exact Nat.le_refl _
 ·rw [Ren.add_ne _ _ e,h1] at h2; cases h2
structure FrW (σ : Ren) (H : AH) (w : World) (σ' : Ren) (H' : AH) (w' : World) : Prop where
 fr : Fr σ H w.heap σ' H' w'.heap
 os : w'.os = w.os
 out : w'.output = w.output
theorem FrW.refl (σ : Ren) (H : AH) (w : World) : FrW σ H w σ H w := ⟨.refl _ _ _,rfl,rfl⟩
theorem FrW.of {σ σ' : Ren} {H H' : AH} {w w' : World} (h : Fr σ H w.heap σ' H' w'.heap) (ho : w'.os = w.os := by rfl) (hu : w'.output = w.output := by rfl) : FrW σ H w σ' H' w' := ⟨h,ho,hu⟩
theorem FrW.trans {σ σ1 σ2 : Ren} {H H1 H2 : AH} {w w1 w2 : World} (h : FrW σ H w σ1 H1 w1) (h' : FrW σ1 H1 w1 σ2 H2 w2) : FrW σ H w σ2 H2 w2 :=
 ⟨h.fr.trans h'.fr,h'.os.trans h.os,h'.out.trans h.out⟩
theorem FrW.le {σ σ' : Ren} {H H' : AH} {w w' : World} (h : FrW σ H w σ' H' w') : σ.Le σ' := h.fr.le
theorem FrW.next {σ σ' : Ren} {H H' : AH} {w w' : World} (h : FrW σ H w σ' H' w') : H.next ≤ H'.next := h.fr.next
theorem FrW.old {σ σ' : Ren} {H H' : AH} {w w' : World} (h : FrW σ H w σ' H' w') : ∀ k,k < H.next → σ' k = σ k := h.fr.old
theorem FrW.size {σ σ' : Ren} {H H' : AH} {w w' : World} (h : FrW σ H w σ' H' w') : w.heap.size ≤ w'.heap.size := h.fr.size
theorem FrW.prot {σ σ' : Ren} {H H' : AH} {w w' : World} (h : FrW σ H w σ' H' w') : ∀ b,b < w.heap.size → Prot σ H b → w'.heap[b]? = w.heap[b]? ∧ Prot σ' H' b := h.fr.prot
theorem FrW.loops {σ σ' : Ren} {H H' : AH} {w w' : World} (h : FrW σ H w σ' H' w') : ∀ (b : Nat) (l : Loop),w.heap[b]? = some (Obj.loop l) → ∃ l',w'.heap[b]? = some (Obj.loop l') := h.fr.loops
def OpOk (gl : Nat → Bool) (P : Program) (σ : Ren) (H : AH) (w : World) (r : Result Next) (v : Value) (H' : AH) (q : Bool) : Prop :=
 ∃ σ' c w',(r = .ok (.value c) w' ∨ (r = .ok .skip w' ∧ c = Go.undef)) ∧ VR σ' v c ∧ HR gl P σ' H' w'.heap ∧ FrW σ H w σ' H' w' ∧ (q = true → Stb σ w σ' w')
theorem OpOk.quiet {w : World} {r : Result Next} {v c : Value} {q : Bool} (h : HR gl P σ H w.heap) (hr : r = .ok (.value c) w) (hv : VR σ v c) : OpOk gl P σ H w r v H q :=
 ⟨σ,c,w,.inl hr,hv,h,.refl _ _ _,fun _ => .refl rfl⟩
theorem abO_no {q : Bool} {op : Op} (hq : q = true → abO op = true) (h : abO op = false) {X : Prop} : q = true → X := fun e => by rw [hq e] at h; cases h
theorem exec_v {ρ : Operand → Value} {o : Oper} {s : Sem Value} {w w' : World} {c : Value} (he : execOp ρ o = (do pure (Next.value (← s)))) (hs : s.run P w = .ok c w') :
  (execOp ρ o).run P w = .ok (.value c) w' := by rw [he]; simp [hs]
theorem exec_u {ρ : Operand → Value} {o : Oper} {s : Sem Unit} {w w' : World} (he : execOp ρ o = (do s; pure Next.skip)) (hs : s.run P w = .ok () w') :
  (execOp ρ o).run P w = .ok .skip w' := by rw [he]; simp [hs]
theorem ruX {t : TypeId} {d : TypeDesc} (h : P.underlying t = some d) (w : World) : (underlying t).run P w = .ok d w := by
 unfold underlying; simp [h]
theorem run_typeInfo' {t : TypeId} {i : TypeInfo} (h : P.info? t = some i) (w : World) : (typeInfo t).run P w = .ok i w := by
 unfold typeInfo; simp [h]
theorem szOf_some {t : TypeId} {n : Nat} (h : szOf P t = some n) : ∃ i,P.info? t = some i ∧ i.size = n := by
 unfold szOf at h; cases hi : P.info? t with
 | none => rw [hi] at h; cases h
 | some i => rw [hi] at h; exact ⟨i,rfl,by simpa using h⟩
theorem rsX {t : TypeId} {n : Nat} (h : szOf P t = some n) (w : World) : (sizeOf t).run P w = .ok n w := by
 obtain ⟨i,hi,rfl⟩ := szOf_some h
 unfold sizeOf; simp [run_typeInfo' hi]
theorem run_zeroValue' {t : TypeId} {z : Value} (h : zeroOf P t = some z) (w : World) : (zeroValue t).run P w = .ok z w := by
 unfold zeroOf at h
 cases hi : P.info? t with
 | none => rw [hi] at h; cases h
 | some i =>
  rw [hi] at h
  unfold zeroValue; simp only [Sem.run_bind,run_typeInfo' hi,Result.andThen_ok]
  simp only [Option.bind_some] at h
  rw [h]; rfl
theorem aggOf_none {t : TypeId} (h : aggOf P t = some none) (w : World) : (isAgg t).run P w = .ok false w := by
 unfold aggOf at h
 cases hu : P.underlying t with
 | none => rw [hu] at h; cases h
 | some d =>
  rw [hu] at h
  unfold isAgg; simp only [Sem.run_bind,ruX hu,Result.andThen_ok]
  cases d <;> simp_all
theorem aggOf_some {t : TypeId} {n : Nat} (h : aggOf P t = some (some n)) (w : World) : (isAgg t).run P w = .ok true w ∧ szOf P t = some n := by
 unfold aggOf at h
 cases hu : P.underlying t with
 | none => rw [hu] at h; cases h
 | some d =>
  rw [hu] at h
  unfold isAgg; simp only [Sem.run_bind,ruX hu,Result.andThen_ok]
  cases d <;> simp_all
theorem run_loadVar {w : World} {t : TypeId} {g : Option Nat} {p c : Value} {v : Value} (h : HR gl P σ H w.heap) (hg : aggOf P t = some g) (hp : VR σ p c) (hl : loadV H g p = some v) :
  ∃ x,(Instr.loadAt t c).run P w = .ok x w ∧ VR σ v x := by
 cases hp with
 | ptr hk =>
  rename_i k o pl
  unfold loadV at hl
  simp only at hl
  cases hr : H.row k with
  | none => rw [hr] at hl; cases hl
  | some cs =>
   rw [hr] at hl
   obtain ⟨t',ro,ex,root,thr,tip,hgk,hlive,⟨ccs,t2,lo,hi,hc,hat⟩,_⟩ := h.row hk hr
   simp only at hl
   cases g with
   | none =>
    simp only [Option.isNone_none,cond_true] at hl
    obtain ⟨x,hx1,hx2⟩ := hat.vals.get hl
    have hoc : o < cs.length := by
     rcases Nat.lt_or_ge o cs.length with y | y
     ·exact y
     ·rw [List.getElem?_eq_none y] at hl; cases hl
    rw [List.getElem?_take,if_pos hoc,List.getElem?_drop,Array.getElem?_toList] at hx1
    refine ⟨x, ?_,hx2⟩
    unfold Instr.loadAt Instr.sureAddr loadVar
    simp only [Sem.run_bind,Sem.run_pure,Result.andThen_ok,aggOf_none hg,Bool.false_eq_true,if_false,run_load,cell_at hc,hx1]
   | some n =>
    obtain ⟨ha1,ha2⟩ := aggOf_some hg w
    simp only [Option.isNone_none,Bool.true_and] at hl
    cases hb : Nat.ble (o + n) cs.length with
    | false => rw [hb] at hl; cases hl
    | true =>
     rw [hb] at hl; simp only [cond_true,Option.some.injEq] at hl; subst hl
     rw [Nat.ble_eq] at hb
     have hfit := hat.fits
     refine ⟨.agg ((ccs.toList.drop (pl.base + o)).take n).toArray, ?_,VR.agg_iff.2 ⟨_,rfl, ?_⟩⟩
     ·unfold Instr.loadAt Instr.sureAddr loadVar
      simp only [Sem.run_bind,Sem.run_pure,Result.andThen_ok,ha1,if_true,rsX ha2]
      rw [run_loadCells hc (by omega)]; rfl
     ·have := (hat.vals.drop o).take n
      simp only [List.drop_take,List.take_take,List.drop_drop] at this
      rw [Nat.min_eq_left (by omega)] at this
      exact this
 | _ => simp [loadV] at hl
theorem List.drop_splice (cs vs : List Value) (b o n : Nat) (h : o + vs.length ≤ n) (hn : b + n ≤ cs.length) :
  (((splice cs (b + o) vs).drop b).take n) = splice ((cs.drop b).take n) o vs := by
 unfold splice
 apply List.ext_getElem?
 intro i
 simp only [List.getElem?_take,List.getElem?_drop,List.getElem?_append,List.length_append,List.length_take,List.length_drop]
 rw [Nat.min_eq_left (show b + o ≤ cs.length by omega),Nat.min_eq_left (show n ≤ cs.length - b by omega),Nat.min_eq_left (show o ≤ n by omega)]
 by_cases h1 : i < n
 ·rw [if_pos h1]
  by_cases h2 : i < o
  ·simp [h2,show i < o + vs.length by omega,show b + i < b + o by omega,show b + i < b + o + vs.length by omega,h1]
  ·by_cases h3 : i < o + vs.length
   ·rw [if_pos (by omega),if_neg (by omega),if_pos h3,if_neg h2]
    congr 1; omega
   ·rw [if_neg (by omega),if_neg h3,if_pos (by omega)]
    congr 1; omega
 ·rw [if_neg h1]
  rw [if_neg (by omega),if_neg (by omega)]
theorem F2.splice {R : Value → Value → Prop} {as bs vs cs : List Value} (h : F2 R as bs) (h' : F2 R vs cs) (o : Nat) : F2 R (Den.splice as o vs) (Den.splice bs o cs) := by
 unfold Den.splice; rw [h'.length]; exact ((h.take o).append h').append (h.drop _)
theorem run_write {w : World} {H' : AH} {k o : Nat} {p : Place} {cs vs cvs : List Value} (h : HR gl P σ H w.heap) (hk : σ k = some p) (hr : H.row k = some cs)
  (hfit : o + vs.length ≤ cs.length) (hw : H.write k (splice cs o vs) = some H') (hv : VL σ vs cvs) (hone : vs.all one = true) :
  ∃ w',(storeCells ⟨p.b,p.base + o,none⟩ cvs).run P w = .ok () w' ∧ HR gl P σ H' w'.heap ∧ FrW σ H w σ H' w' := by
 obtain ⟨t',ro,ex,root,thr,tip,hgk,hlive,⟨ccs,t2,lo,hi,hc,hat⟩,_⟩ := h.row hk hr
 have hro : ro = false := by
  unfold AH.write at hw; rw [hgk] at hw; cases ro with
  | false => rfl
  | true => cases hw
 subst hro
 have hl := hv.length
 have hfits := hat.fits
 obtain ⟨ccs',h1,h2⟩ := run_storeCells (P := P) (o := p.base + o) cvs w 0 ccs hc (by omega) (hat.free rfl) (fun v hv' => by
  obtain ⟨i,hi,rfl⟩ := List.getElem_of_mem hv'
  have hi2 : i < vs.length := by omega
  obtain ⟨x,hx1,hx2⟩ := hv.get (i := i) (a := vs[i]) (by simp [hi2])
  rw [List.getElem?_eq_getElem hi] at hx1; cases hx1
  rw [hx2.one]
  exact List.all_eq_true.1 hone _ (List.getElem_mem hi2))
 have hsz : ccs'.size = ccs.size := by
  have := congrArg List.length h2
  simp only [Array.length_toList,Nat.add_zero] at this
  rw [this,splice_length _ _ _ (by simp; omega)]; simp
 obtain ⟨hA,hB⟩ := h.write hk hr hw hc (splice_length _ _ _ hfit) (ccs' := ccs')
  ⟨hat.room.trans hsz.symm,by rw [splice_length _ _ _ hfit,hsz]; exact hfits,by
   rw [splice_length _ _ _ hfit,h2,Nat.add_zero,List.drop_splice _ _ _ _ _ (by omega) (by simp; omega)]
   exact hat.vals.splice hv o,fun _ x => by rw [hsz]; exact hat.free rfl x⟩
 exact ⟨_,h1,hA,.of hB⟩
theorem run_storeVar' {w : World} {H' : AH} {t : TypeId} {n : Nat} {p c v x : Value} (h : HR gl P σ H w.heap) (hn : szOf P t = some n) (hp : VR σ p c) (hv : VR σ v x) (hs : storeV H n p v = some H') :
  ∃ w',(Instr.storeAt t c x).run P w = .ok () w' ∧ HR gl P σ H' w'.heap ∧ FrW σ H w σ H' w' := by
 cases hp with
 | ptr hk =>
  rename_i k o pl
  unfold storeV at hs
  simp only at hs
  cases hr : H.row k with
  | none => rw [hr] at hs; cases hs
  | some cs =>
   rw [hr] at hs
   simp only [Option.isNone_none,Bool.true_and] at hs
   cases hcnd : (Nat.beq (vcl v).length n && Nat.ble (o + n) cs.length && (vcl v).all one) with
   | false => rw [hcnd] at hs; cases hs
   | true =>
    rw [hcnd] at hs; simp only [cond_true] at hs
    simp only [Bool.and_eq_true,Nat.ble_eq] at hcnd
    obtain ⟨⟨h1,h2⟩,h3⟩ := hcnd
    have h1 := Nat.eq_of_beq_eq_true h1
    obtain ⟨w',hw1,hw2,hw3⟩ := run_write (P := P) h hk hr (by omega) hs hv.cells h3
    refine ⟨w', ?_,hw2,hw3⟩
    unfold Instr.storeAt Instr.sureAddr storeVar
    have hxl : x.cells.size = n := by
     have := hv.cells.length; simp at this; omega
    simp only [Sem.run_bind,Sem.run_pure,Result.andThen_ok,rsX hn,hxl,ne_eq,not_true_eq_false,if_false]
    exact hw1
 | _ => simp [storeV] at hs
end Go.Den
/- Den, part H: the operations that only compute. -/
namespace Go.Den
variable {gl : Nat → Bool} {P : Program} {σ : Ren} {H H' : AH} {w : World} {inv : Inv} {e : Env} {a : Act} {o : Oper} {v : Value} {q : Bool}
theorem okO_some {x : Option Value} (h : okO x H = some (.ret v,H')) : x = some v ∧ H' = H := by
 cases x with
 | none => cases h
 | some y => cases h; exact ⟨rfl,rfl⟩
theorem o1s {x : Value} (h : ok1 x H = some (.ret v,H')) : x = v ∧ H' = H := by cases h; exact ⟨rfl,rfl⟩
theorem agk {io : IOp} (h : io.ok gl = true) {x : Arg} (hx : x ∈ io.args) : argOk gl x = true := by
 simp only [IOp.ok,Bool.and_eq_true] at h
 exact List.all_eq_true.1 h.1 x hx
theorem zero_ok {io : IOp} (h : io.ok gl = true) {x : Value} (hx : x ∈ io.zeros) : VR σ x x := by
 simp only [IOp.ok,Bool.and_eq_true] at h
 exact VR.closed 7 x (List.all_eq_true.1 h.2 x hx)
theorem zeros_ok {io : IOp} (h : io.ok gl = true) : VL σ io.zeros io.zeros := by
 simp only [IOp.ok,Bool.and_eq_true] at h
 exact closed_list (VR.closed 7) _ h.2
structure Cx (gl : Nat → Bool) (P : Program) (σ : Ren) (H : AH) (w : World) (e : Env) (a : Act) : Prop where
 hr : HR gl P σ H w.heap
 hgl : GlR gl σ
 he : EnvR σ e a.tmps
theorem Cx.ea (cx : Cx gl P σ H w e a) {x : Operand} {v : Value} (hok : argOk gl (cArg x) = true) (h : ea e (cArg x) = some v) : VR σ v (a.eval x) := ea_ok cx.hgl cx.he hok h
theorem ok_mov (cx : Cx gl P σ H w e a) {x : Operand} (hop : o.op = .move x ∨ o.op = .assign x) (hok : (IOp.mov (cArg x)).ok gl = true) (hev : ev inv e H (.mov (cArg x)) = some (.ret v,H')) :
  OpOk gl P σ H w ((execOp a.eval o).run P w) v H' q := by
 obtain ⟨h1,rfl⟩ := okO_some hev
 refine OpOk.quiet cx.hr (c := a.eval x) ?_ (cx.ea (agk hok (by simp [IOp.args])) h1)
 rcases hop with h | h <;> simp [execOp,h]
theorem ok_pick (cx : Cx gl P σ H w e a) {c x y : Operand} (hop : o.op = .pick c x y) (hok : (IOp.pick (cArg c) (cArg x) (cArg y)).ok gl = true) (hev : ev inv e H (.pick (cArg c) (cArg x) (cArg y)) = some (.ret v,H')) :
  OpOk gl P σ H w ((execOp a.eval o).run P w) v H' q := by
 simp only [ev] at hev
 cases hc : Den.ea e (cArg c) with
 | none => rw [hc] at hev; cases hev
 | some cv =>
  rw [hc] at hev
  have hcr := cx.ea (agk hok (by simp [IOp.args])) hc
  cases cv with
  | bool t =>
   have hcv := hcr.bool_inv
   cases t with
   | true =>
    obtain ⟨h1,rfl⟩ := okO_some hev
    exact OpOk.quiet cx.hr (c := a.eval x) (by simp [execOp,hop,hcv,asBool]) (cx.ea (agk hok (by simp [IOp.args])) h1)
   | false =>
    obtain ⟨h1,rfl⟩ := okO_some hev
    exact OpOk.quiet cx.hr (c := a.eval y) (by simp [execOp,hop,hcv,asBool]) (cx.ea (agk hok (by simp [IOp.args])) h1)
  | _ => cases hev
theorem ok_load (cx : Cx gl P σ H w e a) {t : TypeId} {x : Operand} {g : Option Nat} (hop : o.op = .load t x) (hg : aggOf P t = some g) (hok : (IOp.load g (cArg x)).ok gl = true) (hev : ev inv e H (.load g (cArg x)) = some (.ret v,H')) :
  OpOk gl P σ H w ((execOp a.eval o).run P w) v H' q := by
 simp only [ev] at hev
 cases hx : Den.ea e (cArg x) with
 | none => rw [hx] at hev; cases hev
 | some p =>
  rw [hx] at hev
  obtain ⟨h1,rfl⟩ := okO_some hev
  obtain ⟨c,h2,h3⟩ := run_loadVar (P := P) cx.hr hg (cx.ea (agk hok (by simp [IOp.args])) hx) h1
  exact OpOk.quiet cx.hr (exec_v (by simp [execOp,hop]) h2) h3
theorem ok_store (cx : Cx gl P σ H w e a) {t : TypeId} {n : Nat} {x y : Operand} (hop : o.op = .store t x y) (hn : szOf P t = some n) (hok : (IOp.store n (cArg x) (cArg y)).ok gl = true) (hev : ev inv e H (.store n (cArg x) (cArg y)) = some (.ret v,H')) (hq : q = true → abO o.op = true) :
  OpOk gl P σ H w ((execOp a.eval o).run P w) v H' q := by
 simp only [ev] at hev
 cases hx : Den.ea e (cArg x) with
 | none => rw [hx] at hev; cases hev
 | some p =>
  rw [hx] at hev
  cases hy : Den.ea e (cArg y) with
  | none => rw [hy] at hev; cases hev
  | some u =>
   rw [hy] at hev
   simp only at hev
   cases hs : storeV H n p u with
   | none => rw [hs] at hev; cases hev
   | some H1 =>
    rw [hs] at hev
    obtain ⟨rfl,rfl⟩ := o1s hev
    obtain ⟨w',h1,h2,h3⟩ := run_storeVar' (P := P) cx.hr hn (cx.ea (agk hok (by simp [IOp.args])) hx) (cx.ea (agk hok (by simp [IOp.args])) hy) hs
    exact ⟨σ,Go.undef,w',.inr ⟨exec_u (by simp [execOp,hop]) h1,rfl⟩,VR.undef σ,h2,h3,abO_no hq (by rw [hop]; rfl)⟩
theorem ok_nilCheck (cx : Cx gl P σ H w e a) {x : Operand} (hop : o.op = .nilCheck x) (hok : (IOp.nilCheck (cArg x)).ok gl = true) (hev : ev inv e H (.nilCheck (cArg x)) = some (.ret v,H')) :
  OpOk gl P σ H w ((execOp a.eval o).run P w) v H' q := by
 simp only [ev] at hev
 cases hx : Den.ea e (cArg x) with
 | none => rw [hx] at hev; cases hev
 | some p =>
  rw [hx] at hev
  have hr := cx.ea (agk hok (by simp [IOp.args])) hx
  cases p with
  | pointer ad => cases ad with
   | none => cases hev
   | some ad =>
    obtain ⟨rfl,rfl⟩ := o1s hev
    refine OpOk.quiet cx.hr (c := a.eval x) ?_ hr
    cases hr' : a.eval x with
    | pointer ad' => cases ad' with
     | none => rw [hr'] at hr; cases hr
     | some q => simp [execOp,hop,hr']
    | _ => rw [hr'] at hr; cases hr
  | func fn b c => cases fn with
   | func f =>
    obtain ⟨rfl,rfl⟩ := o1s hev
    refine OpOk.quiet cx.hr (c := a.eval x) ?_ hr
    obtain ⟨fn',b',c',hr',hf,_⟩ := VR.func_iff.1 hr
    cases hf
    simp [execOp,hop,hr']
   | _ => cases hev
  | _ => cases hev
theorem run_arithV {op : BinOp} {t : TypeId} {x y r : Value} (h : arithV op x y = some r) (px py : Operand) (w : World) :
  (do eqGuard op t px py x y; binOp op t x y : Sem Value).run P w = .ok r w ∧ atom r = true := by
 cases x with
 | int k m =>
  cases y with
  | int k' n =>
   have hg : ∀ w,(eqGuard op t px py (.int k m) (.int k' n)).run P w = .ok () w := by
    intro w; unfold eqGuard; split <;> simp
   simp only [Sem.run_bind,hg,Result.andThen_ok]
   cases op with
   | shl =>
    simp only [arithV,arithShift] at h
    split at h
    ·cases h
    ·rename_i h0; cases h; simp [binOp,Op.shift,h0,atom]
   | shr =>
    simp only [arithV,arithShift] at h
    split at h
    ·cases h
    ·rename_i h0; cases h; simp [binOp,Op.shift,h0,atom]
   | quo =>
    simp only [arithV,arithInt] at h
    split at h
    ·split at h
     ·cases h
     ·rename_i hk h0; cases h; simp [binOp,hk,Op.intDiv,h0,atom]
    ·cases h
   | rem =>
    simp only [arithV,arithInt] at h
    split at h
    ·split at h
     ·cases h
     ·rename_i hk h0; cases h; simp [binOp,hk,Op.intDiv,h0,atom]
    ·cases h
   | _ =>
    simp only [arithV,arithInt] at h
    split at h
    ·rename_i hk; cases h; simp [binOp,hk,Op.intArith,Op.intBits,Op.intCmp,bits,atom]
    ·cases h
  | _ => simp [arithV] at h
 | string s =>
  cases y with
  | string u =>
   have hg : ∀ w,(eqGuard op t px py (.string s) (.string u)).run P w = .ok () w := by
    intro w; unfold eqGuard; split <;> simp
   simp only [Sem.run_bind,hg,Result.andThen_ok]
   cases op with
   | add =>
    simp only [arithV,arS] at h
    split at h
    ·cases h
    ·rename_i h0; cases h
     constructor
     ·unfold binOp Op.stringOp
      simp only
      rw [if_neg h0]; rfl
     ·rfl
   | eql => simp only [arithV,arS,Option.some.injEq] at h; subst h; exact ⟨by simp [binOp,Op.stringOp],rfl⟩
   | neq => simp only [arithV,arS,Option.some.injEq] at h; subst h; exact ⟨by simp [binOp,Op.stringOp],rfl⟩
   | lss => simp only [arithV,arS,Option.some.injEq] at h; subst h; exact ⟨by simp [binOp,Op.stringOp],rfl⟩
   | leq => simp only [arithV,arS,Option.some.injEq] at h; subst h; exact ⟨by simp [binOp,Op.stringOp],rfl⟩
   | gtr => simp only [arithV,arS,Option.some.injEq] at h; subst h; exact ⟨by simp [binOp,Op.stringOp],rfl⟩
   | geq => simp only [arithV,arS,Option.some.injEq] at h; subst h; exact ⟨by simp [binOp,Op.stringOp],rfl⟩
   | _ => simp [arithV,arS] at h
  | _ => simp [arithV] at h
 | _ => simp [arithV] at h
theorem VR.atom_self {r : Value} (h : atom r = true) : VR σ r r := by cases r <;> first | (simp [atom] at h; done) | exact .bool _ | exact .int _ _ | exact .string _ | exact .float _ _
theorem VR.arith {op : BinOp} {x y r cx cy : Value} (hx : VR σ x cx) (hy : VR σ y cy) (h : arithV op x y = some r) : cx = x ∧ cy = y := by
 cases x <;> cases y <;> first | (simp [arithV] at h; done) | exact ⟨hx.int_inv,hy.int_inv⟩ | exact ⟨hx.string_inv,hy.string_inv⟩
theorem ok_arith (cx : Cx gl P σ H w e a) {op : BinOp} {t t' : TypeId} {x y : Operand} (hop : o.op = .binOp op t x y t') (hok : (IOp.arith op (cArg x) (cArg y)).ok gl = true) (hev : ev inv e H (.arith op (cArg x) (cArg y)) = some (.ret v,H')) :
  OpOk gl P σ H w ((execOp a.eval o).run P w) v H' q := by
 simp only [ev] at hev
 cases hx : Den.ea e (cArg x) with
 | none => rw [hx] at hev; cases hev
 | some p =>
  rw [hx] at hev
  cases hy : Den.ea e (cArg y) with
  | none => rw [hy] at hev; cases hev
  | some u =>
   rw [hy] at hev
   obtain ⟨h1,rfl⟩ := okO_some hev
   obtain ⟨e1,e2⟩ := VR.arith (cx.ea (agk hok (by simp [IOp.args])) hx) (cx.ea (agk hok (by simp [IOp.args])) hy) h1
   obtain ⟨h2,h3⟩ := run_arithV (P := P) (t := t) h1 x y w
   exact OpOk.quiet cx.hr (c := v) (exec_v (s := do eqGuard op t x y p u; binOp op t p u) (by simp [execOp,hop,e1,e2]) h2) (VR.atom_self h3)
theorem run_equalIn_bool2 {t : TypeId} (ht : P.underlying t = some .bool) (a b : Bool) (w : World) (d : Nat) : (Op.equalIn (d + 1) t (.bool a) (.bool b)).run P w = .ok (a == b) w := by
 simp [Op.equalIn,ruX ht]
theorem run_equal_bool {t : TypeId} (ht : P.underlying t = some .bool) (a b : Bool) (w : World) : (Op.equal t (.bool a) (.bool b)).run P w = .ok (a == b) w :=
 run_equalIn_bool2 ht a b w 9999
theorem ok_eqBool (cx : Cx gl P σ H w e a) {neg : Bool} {t t' : TypeId} {x y : Operand} (hop : o.op = .binOp (bif neg then .neq else .eql) t x y t') (ht : P.underlying t = some .bool) (hok : (IOp.eqBool neg (cArg x) (cArg y)).ok gl = true)
  (hev : ev inv e H (.eqBool neg (cArg x) (cArg y)) = some (.ret v,H')) : OpOk gl P σ H w ((execOp a.eval o).run P w) v H' q := by
 simp only [ev] at hev
 cases hx : Den.ea e (cArg x) with
 | none => rw [hx] at hev; cases hev
 | some p =>
  rw [hx] at hev
  cases hy : Den.ea e (cArg y) with
  | none => rw [hy] at hev; cases p <;> cases hev
  | some u =>
   rw [hy] at hev
   have h1 := cx.ea (agk hok (by simp [IOp.args])) hx
   have h2 := cx.ea (agk hok (by simp [IOp.args])) hy
   cases p with
   | bool p => cases u with
    | bool u =>
     obtain ⟨rfl,rfl⟩ := o1s hev
     have hg : ∀ op w,(eqGuard op t x y (.bool p) (.bool u)).run P w = .ok () w := by
      intro op w; unfold eqGuard; split <;> simp
     refine OpOk.quiet cx.hr (c := .bool ((p == u) != neg)) ?_ (.bool _)
     cases neg <;> simp [execOp,hop,h1.bool_inv,h2.bool_inv,hg,binOp,run_equal_bool ht]
    | _ => cases hev
   | _ => cases hev
def nilT : NilK → TypeDesc → Prop
 | .slice,.slice _ | .map,.map _ _ | .func,.func _ _ _ | .ptr,.pointer _ => True
 | _,_ => False
theorem run_equalIn_nil {t : TypeId} {d : TypeDesc} {k : NilK} (ht : P.underlying t = some d) (hk : nilT k d) {x y cx cy : Value} {r : Bool} (hx : VR σ x cx) (hy : VR σ y cy) (h : eqNilV k x y = some r) (w : World) (n : Nat) :
  (Op.equalIn (n + 1) t cx cy).run P w = .ok r w := by
 unfold eqNilV at h
 split at h <;> first | (cases h; done) | skip
 all_goals (cases d <;> simp only [nilT] at hk)
 all_goals (cases hx <;> cases hy <;> simp only [Option.isNone_none,Option.isNone_some,Option.some.injEq] at h <;> subst h <;> simp [Op.equalIn,ruX ht])
theorem binOp_eq {k : NilK} {x y cx cy : Value} {r : Bool} (hx : VR σ x cx) (hy : VR σ y cy) (h : eqNilV k x y = some r) (t : TypeId) :
  binOp .eql t cx cy = (do pure (.bool (← Op.equal t cx cy))) ∧ binOp .neq t cx cy = (do pure (.bool (!(← Op.equal t cx cy)))) ∧
  ∀ op px py w,(eqGuard op t px py cx cy).run P w = .ok () w := by
 unfold eqNilV at h
 split at h <;> first | (cases h; done) | skip
 all_goals (cases hx <;> cases hy <;> refine ⟨rfl,rfl,fun op px py w => ?_⟩ <;> unfold eqGuard <;> split <;> simp)
theorem ok_eqNil (cx : Cx gl P σ H w e a) {neg : Bool} {k : NilK} {t t' : TypeId} {d : TypeDesc} {x y : Operand} (hop : o.op = .binOp (bif neg then .neq else .eql) t x y t') (ht : P.underlying t = some d) (hk : nilT k d)
  (hok : (IOp.eqNil k neg (cArg x) (cArg y)).ok gl = true) (hev : ev inv e H (.eqNil k neg (cArg x) (cArg y)) = some (.ret v,H')) : OpOk gl P σ H w ((execOp a.eval o).run P w) v H' q := by
 simp only [ev] at hev
 cases hx : Den.ea e (cArg x) with
 | none => rw [hx] at hev; cases hev
 | some p =>
  rw [hx] at hev
  cases hy : Den.ea e (cArg y) with
  | none => rw [hy] at hev; cases hev
  | some u =>
   rw [hy] at hev
   simp only at hev
   cases hr : eqNilV k p u with
   | none => rw [hr] at hev; cases hev
   | some r =>
    rw [hr] at hev
    obtain ⟨rfl,rfl⟩ := o1s hev
    have h1 := cx.ea (agk hok (by simp [IOp.args])) hx
    have h2 := cx.ea (agk hok (by simp [IOp.args])) hy
    have h3 : (Op.equal t (a.eval x) (a.eval y)).run P w = .ok r w := run_equalIn_nil ht hk h1 h2 hr w 9999
    obtain ⟨b1,b2,b3⟩ := binOp_eq (P := P) h1 h2 hr t
    refine OpOk.quiet cx.hr (c := .bool (r != neg)) ?_ (.bool _)
    cases neg <;> simp [execOp,hop,b1,b2,b3,h3]
theorem ok_un (cx : Cx gl P σ H w e a) {op : UnOp} {t : TypeId} {x : Operand} (hop : o.op = .unOp op t x) (hok : (IOp.un op (cArg x)).ok gl = true) (hev : ev inv e H (.un op (cArg x)) = some (.ret v,H')) :
  OpOk gl P σ H w ((execOp a.eval o).run P w) v H' q := by
 simp only [ev] at hev
 cases hx : Den.ea e (cArg x) with
 | none => rw [hx] at hev; cases hev
 | some p =>
  rw [hx] at hev
  obtain ⟨h1,rfl⟩ := okO_some hev
  have hr := cx.ea (agk hok (by simp [IOp.args])) hx
  cases p with
  | int k n =>
   cases op with
   | neg => simp only [unV,Option.some.injEq] at h1; subst h1; exact OpOk.quiet cx.hr (by simp [execOp,hop,hr.int_inv,Op.unary,Op.intArith]) (.int _ _)
   | xor => simp only [unV,Option.some.injEq] at h1; subst h1; exact OpOk.quiet cx.hr (by simp [execOp,hop,hr.int_inv,Op.unary,Op.intBits,bits]) (.int _ _)
   | _ => simp [unV] at h1
  | bool b =>
   cases op with
   | not => simp only [unV,Option.some.injEq] at h1; subst h1; exact OpOk.quiet cx.hr (by simp [execOp,hop,hr.bool_inv,Op.unary]) (.bool _)
   | _ => simp [unV] at h1
  | _ => simp [unV] at h1
theorem ok_toInt (cx : Cx gl P σ H w e a) {s d : TypeId} {k : IntKind} {ds : TypeDesc} {x : Operand} (hop : o.op = .convert s d x) (hs : P.underlying s = some ds) (hd : P.underlying d = some (.int k)) (hok : (IOp.toInt k (cArg x)).ok gl = true)
  (hev : ev inv e H (.toInt k (cArg x)) = some (.ret v,H')) : OpOk gl P σ H w ((execOp a.eval o).run P w) v H' q := by
 simp only [ev] at hev
 cases hx : Den.ea e (cArg x) with
 | none => rw [hx] at hev; cases hev
 | some p =>
  rw [hx] at hev
  have hr := cx.ea (agk hok (by simp [IOp.args])) hx
  cases p with
  | int k' n =>
   obtain ⟨rfl,rfl⟩ := o1s hev
   refine OpOk.quiet cx.hr (c := .int k (k.wrap n)) ?_ (.int _ _)
   simp [execOp,hop,hr.int_inv,convert,ruX hs,ruX hd,Conv.intToInt]
  | _ => cases hev
theorem ok_iface (cx : Cx gl P σ H w e a) {t : TypeId} {d : TypeDesc} {x : Operand} (hop : o.op = .makeInterface t x) (ht : P.underlying t = some d) (hd : ∀ m,d ≠ .interface m) (hok : (IOp.iface t (cArg x)).ok gl = true)
  (hev : ev inv e H (.iface t (cArg x)) = some (.ret v,H')) : OpOk gl P σ H w ((execOp a.eval o).run P w) v H' q := by
 simp only [ev] at hev
 cases hx : Den.ea e (cArg x) with
 | none => rw [hx] at hev; cases hev
 | some p =>
  rw [hx] at hev
  obtain ⟨rfl,rfl⟩ := o1s hev
  refine OpOk.quiet cx.hr (c := .iface t (a.eval x)) (exec_v (s := Instr.makeInterface t (a.eval x)) (by simp [execOp,hop]) ?_) (.iface (cx.ea (agk hok (by simp [IOp.args])) hx))
  unfold Instr.makeInterface
  simp only [Sem.run_bind,ruX ht,Result.andThen_ok]
  cases d <;> first | rfl | exact absurd rfl (hd _)
theorem eas_ok (cx : Cx gl P σ H w e a) : ∀ (xs : List Operand) {vs : List Value},(∀ x ∈ xs,argOk gl (cArg x) = true) → eas e (xs.map cArg) = some vs → VL σ vs (xs.map a.eval) := by
 intro xs
 induction xs with
 | nil => intro vs _ h; simp [eas] at h; subst h; exact .nil
 | cons x xs ih =>
  intro vs hok h
  simp only [List.map_cons,eas] at h
  cases hx : Den.ea e (cArg x) with
  | none => rw [hx] at h; cases h
  | some v =>
   rw [hx] at h
   cases hxs : eas e (xs.map cArg) with
   | none => rw [hxs] at h; cases h
   | some us =>
    rw [hxs] at h
    simp only [Option.some.injEq] at h
    subst h
    exact .cons (cx.ea (hok x (by simp)) hx) (ih (fun y hy => hok y (by simp [hy])) hxs)
theorem ok_func (cx : Cx gl P σ H w e a) {f : FuncId} {xs ys : Array Operand} (hop : o.op = .makeFunc (.func f) xs ys) (hok : (IOp.func f (cArgs xs) (cArgs ys)).ok gl = true)
  (hev : ev inv e H (.func f (cArgs xs) (cArgs ys)) = some (.ret v,H')) : OpOk gl P σ H w ((execOp a.eval o).run P w) v H' q := by
 simp only [ev] at hev
 cases hx : eas e (cArgs xs) with
 | none => rw [hx] at hev; cases hev
 | some p =>
  rw [hx] at hev
  cases hy : eas e (cArgs ys) with
  | none => rw [hy] at hev; cases hev
  | some u =>
   rw [hy] at hev
   obtain ⟨rfl,rfl⟩ := o1s hev
   have h1 := eas_ok cx xs.toList (fun x hx => agk hok (by simp only [IOp.args,List.mem_append]; exact .inl (List.mem_map_of_mem hx))) hx
   have h2 := eas_ok cx ys.toList (fun x hx => agk hok (by simp only [IOp.args,List.mem_append]; exact .inr (List.mem_map_of_mem hx))) hy
   refine OpOk.quiet cx.hr (c := .func (.func f) (xs.map a.eval) (ys.map a.eval)) (exec_v (s := Instr.makeFunc (.func f) (xs.map a.eval) (ys.map a.eval)) (by simp [execOp,hop]) rfl) (VR.func_iff.2 ⟨_,_,_,rfl,.func f, ?_, ?_⟩)
   ·simpa using h1
   ·simpa using h2
theorem ok_extract (cx : Cx gl P σ H w e a) {x : Operand} {i : Nat} (hop : o.op = .extract x i) (hok : (IOp.extract (cArg x) i).ok gl = true) (hev : ev inv e H (.extract (cArg x) i) = some (.ret v,H')) :
  OpOk gl P σ H w ((execOp a.eval o).run P w) v H' q := by
 simp only [ev] at hev
 cases hx : Den.ea e (cArg x) with
 | none => rw [hx] at hev; cases hev
 | some p =>
  rw [hx] at hev
  have hr := cx.ea (agk hok (by simp [IOp.args])) hx
  cases p with
  | tuple vs =>
   obtain ⟨h1,rfl⟩ := okO_some hev
   obtain ⟨cs,hcs,hvl⟩ := VR.tuple_iff.1 hr
   obtain ⟨c,hc1,hc2⟩ := hvl.get h1
   rw [Array.getElem?_toList] at hc1
   refine OpOk.quiet cx.hr (c := c) ?_ hc2
   simp [execOp,hop,hcs,Instr.extract,hc1]
  | _ => cases hev
end Go.Den
/- Den, part I: new memory, parts of values, addresses. -/
namespace Go.Den
variable {gl : Nat → Bool} {P : Program} {σ : Ren} {H H' : AH} {w : World} {inv : Inv} {e : Env} {a : Act} {o : Oper} {v : Value} {q : Bool}
theorem run_newVar' {t : TypeId} {c : Value} (w : World) : (newVar t c).run P w = .ok ⟨w.heap.size,0,none⟩ { w with heap := w.heap.push (.cells c.cells t) } := by
 simp [newVar,newRow]
theorem VR.newPtr (h : HR gl P σ H w.heap) {room esz : Nat} : VR (σ.add H.next ⟨w.heap.size,0,room,esz⟩) (.pointer (some ⟨H.next,0,none⟩)) (.pointer (some ⟨w.heap.size,0,none⟩)) :=
 VR.ptr (p := ⟨w.heap.size,0,room,esz⟩) (Ren.add_self _ _ _)
theorem ok_box (cx : Cx gl P σ H w e a) {t : TypeId} {x : Operand} (hop : o.op = .box t x) (hok : (IOp.box t (cArg x)).ok gl = true) (hev : ev inv e H (.box t (cArg x)) = some (.ret v,H')) :
  OpOk gl P σ H w ((execOp a.eval o).run P w) v H' q := by
 simp only [ev] at hev
 cases hx : Den.ea e (cArg x) with
 | none => rw [hx] at hev; cases hev
 | some p =>
  rw [hx] at hev
  cases hev
  have hr := cx.ea (agk hok (by simp [IOp.args])) hx
  obtain ⟨hA,hB⟩ := cx.hr.newRow (t := t) hr.cells
  refine ⟨_,_,{ w with heap := w.heap.push (.cells (a.eval x).cells t) },.inl (exec_v (s := Instr.box t (a.eval x)) (by simp [execOp,hop]) ?_),VR.newPtr cx.hr,hA,.of hB,fun _ => .push rfl⟩
  unfold Instr.box
  simp only [Sem.run_bind,run_newVar',Result.andThen_ok]; rfl
theorem ok_alloc (cx : Cx gl P σ H w e a) {t : TypeId} {z : Value} (hop : o.op = .alloc t) (hz : zeroOf P t = some z) (hok : (IOp.box t (.val z)).ok gl = true) (hev : ev inv e H (.box t (.val z)) = some (.ret v,H')) :
  OpOk gl P σ H w ((execOp a.eval o).run P w) v H' q := by
 simp only [ev,Den.ea] at hev
 cases hev
 have hr : VR σ z z := by
  have := agk (x := .val z) hok (by simp [IOp.args])
  have h2 : argOk gl (cArg (.const z)) = true := this
  exact cx.ea (x := .const z) h2 rfl
 obtain ⟨hA,hB⟩ := cx.hr.newRow (t := t) hr.cells
 refine ⟨_,_,{ w with heap := w.heap.push (.cells z.cells t) },.inl (exec_v (s := Instr.alloc t true (.tuple #[])) (by simp [execOp,hop]) ?_),VR.newPtr cx.hr,hA,.of hB,fun _ => .push rfl⟩
 unfold Instr.alloc
 simp only [Sem.run_bind,run_zeroValue' hz,Result.andThen_ok,run_newVar']; rfl
theorem fill_splice (cells : Array Value) (vs : List Value) (off : Nat) (h : off + vs.length ≤ cells.size) :
  (vs.zipIdx.foldl (fun cs (c,j) => cs.setIfInBounds (off + j) c) cells).toList = splice cells.toList off vs := by
 have key : ∀ (vs : List Value) (k : Nat) (cells : Array Value),off + k + vs.length ≤ cells.size →
   ((vs.zipIdx k).foldl (fun cs (c,j) => cs.setIfInBounds (off + j) c) cells).toList = splice cells.toList (off + k) vs := by
  intro vs
  induction vs with
  | nil => intro k cells _; simp [splice_nil]
  | cons v vs ih =>
   intro k cells h
   simp only [List.zipIdx_cons,List.foldl_cons]
   rw [ih (k + 1) _ (by simp at h ⊢; omega),Array.toList_setIfInBounds,show off + (k + 1) = off + k + 1 by omega]
   exact splice_cons _ _ _ _ (by simp at h ⊢; omega)
 simpa using key vs 0 cells (by omega)
theorem zipIdx_foldl_arr (vs cells : Array Value) (off : Nat) : vs.zipIdx.foldl (fun cs (c,j) => cs.setIfInBounds (off + j) c) cells = vs.toList.zipIdx.foldl (fun cs (c,j) => cs.setIfInBounds (off + j) c) cells := by
 rw [← Array.foldl_toList]; simp
theorem fill_ok {place : Nat → Option (Nat × Nat)} (cx : Cx gl P σ H w e a) : ∀ (ps : List (Nat × Operand)) {ips : List (Nat × Nat × Arg)} {vs : List (Nat × Nat × Value)} {cs cs' : List Value} {ccs : Array Value},
  cParts P place ps = some ips → (∀ x ∈ ips,argOk gl x.2.2 = true) → eap e ips = some vs → VL σ cs ccs.toList → fillL cs vs = some cs' →
  ∃ ccs' : Array Value,Instr.fill place ccs (ps.map fun (i,x) => (i,a.eval x)) = some ccs' ∧ VL σ cs' ccs'.toList ∧ cs'.length = cs.length := by
 intro ps
 induction ps with
 | nil =>
  intro ips vs cs cs' ccs h1 _ h3 h4 h5
  simp [cParts] at h1; subst h1
  simp [eap] at h3; subst h3
  simp [fillL] at h5; subst h5
  exact ⟨ccs,by simp [Instr.fill],h4,rfl⟩
 | cons p ps ih =>
  obtain ⟨i,x⟩ := p
  intro ips vs cs cs' ccs h1 h2 h3 h4 h5
  simp only [cParts] at h1
  cases hp : place i with
  | none => rw [hp] at h1; cases h1
  | some on =>
   obtain ⟨off,n⟩ := on
   rw [hp] at h1
   cases hr : cParts P place ps with
   | none => rw [hr] at h1; cases h1
   | some r =>
    rw [hr] at h1
    simp only [Option.some.injEq] at h1; subst h1
    simp only [eap] at h3
    cases hx : Den.ea e (cArg x) with
    | none => rw [hx] at h3; cases h3
    | some v =>
     rw [hx] at h3
     cases hq : eap e r with
     | none => rw [hq] at h3; cases h3
     | some us =>
      rw [hq] at h3
      simp only [Option.some.injEq] at h3; subst h3
      have hv := cx.ea (h2 (off,n,cArg x) (by simp)) hx
      simp only [fillL] at h5
      cases hc : (Nat.beq (vcl v).length n && Nat.ble (off + n) cs.length) with
      | false => rw [hc] at h5; cases h5
      | true =>
       rw [hc] at h5; simp only [cond_true] at h5
       simp only [Bool.and_eq_true,Nat.ble_eq] at hc
       have hc1 := Nat.eq_of_beq_eq_true hc.1
       have hl := hv.cells.length
       have hl4 := h4.length
       have hsz : (a.eval x).cells.size = n := by simp at hl; omega
       have hfit : off + (a.eval x).cells.toList.length ≤ ccs.size := by simp at hl4 ⊢; omega
       obtain ⟨ccs',q1,q2,q3⟩ := ih (ips := r) (vs := us) (cs := splice cs off (vcl v)) (cs' := cs')
        (ccs := (a.eval x).cells.zipIdx.foldl (fun cs (c,j) => cs.setIfInBounds (off + j) c) ccs) hr (fun y hy => h2 y (by simp [hy])) hq
        (by rw [zipIdx_foldl_arr,fill_splice _ _ _ hfit]; exact F2.splice h4 hv.cells off) h5
       refine ⟨ccs', ?_,q2,by rw [q3,splice_length _ _ _ (by omega)]⟩
       simp only [List.map_cons,Instr.fill,hp,hsz]
       simp only [ne_eq,not_true_eq_false,decide_false,Bool.false_or,decide_eq_true_eq]
       rw [if_neg (by simp at hl4; omega)]
       exact q1
theorem run_places (fs : List Field) (h : ∀ f ∈ fs,(szOf P f.type).isSome) (w : World) :
  (fs.toArray.mapM (fun f => do pure (f.offset,← sizeOf f.type) : Field → Sem (Nat × Nat))).run P w = .ok (fs.map fun f => (f.offset,(szOf P f.type).getD 0)).toArray w := by
 rw [Array.mapM_eq_mapM_toList]
 simp only [Sem.run_map]
 suffices h2 : ∀ (fs : List Field),(∀ f ∈ fs,(szOf P f.type).isSome) → (fs.mapM (fun f => do pure (f.offset,← sizeOf f.type) : Field → Sem (Nat × Nat))).run P w = .ok (fs.map fun f => (f.offset,(szOf P f.type).getD 0)) w by
  rw [h2 fs h]; rfl
 intro fs
 induction fs with
 | nil => intro _; simp
 | cons f fs ih =>
  intro h
  have hf := h f (by simp)
  cases hs : szOf P f.type with
  | none => rw [hs] at hf; cases hf
  | some n =>
   simp only [List.mapM_cons,Sem.run_bind,rsX hs,Result.andThen_ok,Sem.run_pure,ih (fun g hg => h g (by simp [hg])),List.map_cons,hs,Option.getD_some]
theorem ok_buildStruct (cx : Cx gl P σ H w e a) {t : TypeId} {fs : Array Field} {z : Value} {ps : Array (Nat × Operand)} {l : List (Nat × Nat × Arg)} (hop : o.op = .build t ps) (hz : zeroOf P t = some z) (ht : P.underlying t = some (.struct fs))
  (hall : ∀ f ∈ fs.toList,(szOf P f.type).isSome) (hl : cParts P (fieldPlaces P fs) ps.toList = some l) (hok : (IOp.build (vcl z) l).ok gl = true) (hev : ev inv e H (.build (vcl z) l) = some (.ret v,H')) :
  OpOk gl P σ H w ((execOp a.eval o).run P w) v H' q := by
 simp only [ev] at hev
 cases hp : eap e l with
 | none => rw [hp] at hev; cases hev
 | some vs =>
  rw [hp] at hev
  simp only at hev
  cases hf : fillL (vcl z) vs with
  | none => rw [hf] at hev; cases hev
  | some cs =>
   rw [hf] at hev
   obtain ⟨rfl,rfl⟩ := o1s hev
   have hzr : VL σ (vcl z) z.cells.toList := by rw [← vcells_toList]; exact zeros_ok hok
   obtain ⟨ccs',q1,q2,_⟩ := fill_ok (P := P) (place := fieldPlaces P fs) cx ps.toList hl (fun x hx => agk hok (by simp only [IOp.args]; exact List.mem_map.2 ⟨x,hx,rfl⟩)) hp hzr hf
   refine OpOk.quiet cx.hr (c := .agg ccs') (exec_v (s := Instr.build t (ps.map fun (i,x) => (i,a.eval x))) (by simp [execOp,hop]) ?_) (VR.agg_iff.2 ⟨_,rfl,by simpa using q2⟩)
   unfold Instr.build
   have hpl : (fun i => (fs.toList.map fun f => (f.offset,(szOf P f.type).getD 0)).toArray[i]?) = fieldPlaces P fs := by
    funext i
    unfold fieldPlaces
    simp only [List.getElem?_toArray,List.getElem?_map,Array.getElem?_toList]
    cases hfi : fs[i]? with
    | none => rfl
    | some f =>
     have hm : f ∈ fs.toList := by
      have := Array.mem_of_getElem? hfi
      exact Array.mem_toList_iff.2 this
     have := hall f hm
     cases hs : szOf P f.type with
     | none => rw [hs] at this; cases this
     | some n => simp [hs]
   have hrp := run_places (P := P) fs.toList hall w
   simp only [Array.toArray_toList] at hrp
   simp only [Sem.run_bind,run_zeroValue' hz,Result.andThen_ok,ruX ht,hrp]
   rw [hpl,Array.toList_map,q1]
   rfl
theorem ok_buildArr (cx : Cx gl P σ H w e a) {t el : TypeId} {k n : Nat} {z : Value} {ps : Array (Nat × Operand)} {l : List (Nat × Nat × Arg)} (hop : o.op = .build t ps) (hz : zeroOf P t = some z) (ht : P.underlying t = some (.array k el)) (hn : szOf P el = some n)
  (hl : cParts P (fun i => some (i * n,n)) ps.toList = some l) (hok : (IOp.build (vcl z) l).ok gl = true) (hev : ev inv e H (.build (vcl z) l) = some (.ret v,H')) :
  OpOk gl P σ H w ((execOp a.eval o).run P w) v H' q := by
 simp only [ev] at hev
 cases hp : eap e l with
 | none => rw [hp] at hev; cases hev
 | some vs =>
  rw [hp] at hev
  simp only at hev
  cases hf : fillL (vcl z) vs with
  | none => rw [hf] at hev; cases hev
  | some cs =>
   rw [hf] at hev
   obtain ⟨rfl,rfl⟩ := o1s hev
   have hzr : VL σ (vcl z) z.cells.toList := by rw [← vcells_toList]; exact zeros_ok hok
   obtain ⟨ccs',q1,q2,_⟩ := fill_ok (P := P) cx ps.toList hl (fun x hx => agk hok (by simp only [IOp.args]; exact List.mem_map.2 ⟨x,hx,rfl⟩)) hp hzr hf
   refine OpOk.quiet cx.hr (c := .agg ccs') (exec_v (s := Instr.build t (ps.map fun (i,x) => (i,a.eval x))) (by simp [execOp,hop]) ?_) (VR.agg_iff.2 ⟨_,rfl,by simpa using q2⟩)
   unfold Instr.build
   simp only [Sem.run_bind,run_zeroValue' hz,Result.andThen_ok,ruX ht,rsX hn]
   rw [Array.toList_map,q1]
   rfl
end Go.Den
/- Den, part J: slices made, addresses, elements, slice expressions. -/
namespace Go.Den
variable {gl : Nat → Bool} {P : Program} {σ : Ren} {H H' : AH} {w : World} {inv : Inv} {e : Env} {a : Act} {o : Oper} {v : Value} {q : Bool}
theorem repl_length (z : List Value) (n : Nat) : (repl z n).length = n * z.length := by
 induction n with
 | zero => simp [repl]
 | succ n ih => simp [repl,ih,Nat.add_mul]; omega
theorem repl_get (z : List Value) (hz : 0 < z.length) : ∀ (n i : Nat),i < n * z.length → (repl z n)[i]? = z[i % z.length]? := by
 intro n
 induction n with
 | zero => intro i h; simp at h
 | succ n ih =>
  intro i h
  simp only [repl]
  by_cases hi : i < z.length
  ·rw [List.getElem?_append_left hi,Nat.mod_eq_of_lt hi]
  ·rw [List.getElem?_append_right (by omega),ih _ (by rw [Nat.add_mul] at h; omega)]
   congr 1
   rw [Nat.mod_eq_sub_mod (by omega : i ≥ z.length)]
theorem repl_range (z : Array Value) (hz : z.size ≠ 0) (n : Nat) : ((Array.range (n * z.size)).map (fun i => z[i % z.size]!)).toList = repl z.toList n := by
 apply List.ext_getElem?
 intro i
 by_cases hi : i < n * z.size
 ·rw [repl_get _ (by simp; omega) _ _ (by simpa using hi)]
  simp [hi]
  have : i % z.size < z.size := Nat.mod_lt _ (by omega)
  simp [this]
 ·rw [List.getElem?_eq_none (by simpa using hi),List.getElem?_eq_none (by rw [repl_length]; simpa using hi)]
theorem VL.repl {z cz : List Value} (h : VL σ z cz) (n : Nat) : VL σ (Den.repl z n) (Den.repl cz n) := by
 induction n with
 | zero => exact .nil
 | succ n ih => exact h.append ih
theorem VR.newSlice {room : Nat} (n c : Nat) (hnc : n ≤ c) : VR (σ.add H.next ⟨w.heap.size,0,room,0⟩) (.slice (some ⟨H.next,0,none⟩) n c) (.slice (some ⟨w.heap.size,0,none⟩) n c) :=
 VR.slice (p := ⟨w.heap.size,0,room,0⟩) (Ren.add_self _ _ _) (.inl rfl) (.inl rfl) hnc
theorem ok_buildSlice (cx : Cx gl P σ H w e a) {t el : TypeId} {len n : Nat} {z : Value} {ps : Array (Nat × Operand)} {l : List (Nat × Nat × Arg)} (hop : o.op = .buildSlice t len ps) (ht : P.underlying t = some (.slice el)) (hn : szOf P el = some n) (hz : zeroOf P el = some z)
  (hle : len * n ≤ 16777216) (hnz : n = (vcl z).length) (hn0 : n ≠ 0) (hl : cParts P (fun i => some (i * n,n)) ps.toList = some l) (hok : (IOp.buildSlice el len (repl (vcl z) len) l).ok gl = true) (hev : ev inv e H (.buildSlice el len (repl (vcl z) len) l) = some (.ret v,H')) :
  OpOk gl P σ H w ((execOp a.eval o).run P w) v H' q := by
 simp only [ev] at hev
 cases hp : eap e l with
 | none => rw [hp] at hev; cases hev
 | some vs =>
  rw [hp] at hev
  simp only at hev
  cases hf : fillL (repl (vcl z) len) vs with
  | none => rw [hf] at hev; cases hev
  | some cs =>
   rw [hf] at hev
   cases hev
   have hzs : z.cells.size = n := by rw [vcells_toList] at hnz; simpa using hnz.symm
   have hzr : VL σ (repl (vcl z) len) ((if len * n = 0 then #[] else (Array.range (len * n)).map (fun i => z.cells[i % z.cells.size]!)) : Array Value).toList := by
    split
    ·rename_i h0
     have : len = 0 := by rcases Nat.mul_eq_zero.1 h0 with h | h; exact h; exact absurd h hn0
     subst this; exact .nil
    ·rw [← hzs,repl_range _ (by omega),← vcells_toList]
     exact zeros_ok hok
   obtain ⟨ccs',q1,q2,_⟩ := fill_ok (P := P) cx ps.toList hl (fun x hx => agk hok (by simp only [IOp.args]; exact List.mem_map.2 ⟨x,hx,rfl⟩)) hp hzr hf
   obtain ⟨hA,hB⟩ := cx.hr.newRow (t := el) q2
   refine ⟨_,_,{ w with heap := w.heap.push (.cells ccs' el) },.inl (exec_v (s := Instr.buildSlice t len (ps.map fun (i,x) => (i,a.eval x))) (by simp [execOp,hop]) ?_),VR.newSlice len len (Nat.le_refl _),hA,.of hB,fun _ => .push rfl⟩
   unfold Instr.buildSlice
   simp only [Sem.run_bind,ruX ht,Result.andThen_ok,rsX hn]
   rw [if_neg (by omega)]
   by_cases h0 : len * n = 0
   ·simp only [h0,if_true] at q1
    simp only [h0,if_true,Sem.run_pure,Result.andThen_ok,Sem.run_bind]
    have : (Array.range 0).map (fun i => (#[] : Array Value)[i % (#[] : Array Value).size]!) = #[] := by simp
    rw [this,Array.toList_map,q1]
    simp [newRow]
   ·simp only [h0,if_false] at q1
    simp only [h0,if_false,Sem.run_bind,run_zeroValue' hz,Sem.run_pure,Result.andThen_ok]
    rw [Array.toList_map,q1]
    simp [newRow]
theorem ok_makeMap (cx : Cx gl P σ H w e a) {t : TypeId} {r : Option Operand} (hop : o.op = .makeMap t r) (hr : r = none ∨ (∃ k n d e',r = some (.const (.int k n)) ∧ P.underlying t = some (.map d e')))
  (hev : ev inv e H .makeMap = some (.ret v,H')) : OpOk gl P σ H w ((execOp a.eval o).run P w) v H' q := by
 simp only [ev] at hev
 cases hev
 obtain ⟨hA,hB⟩ := cx.hr.alloc (o := .map [] 0) (co := .map #[] 0) (room := 0) (esz := 0) (fun _ => .inr trivial) (fun _ _ _ _ _ _ _ h => by cases h) (fun _ _ _ _ _ _ _ h => by cases h) (fun σ' hs => by
  unfold ObjOk; rw [AH.gpu,if_pos rfl]; exact ⟨#[],by simp,.nil⟩)
 refine ⟨_,.map (some w.heap.size),{ w with heap := w.heap.push (.map #[] 0) },.inl (exec_v (s := Instr.makeMap t (r.map a.eval)) (by simp [execOp,hop]) ?_),VR.map (p := ⟨w.heap.size,0,0,0⟩) (Ren.add_self _ _ _),hA,.of hB,fun _ => .push rfl⟩
 rcases hr with rfl | ⟨k,n,d,e',rfl,hu⟩
 ·simp [Instr.makeMap]
 ·simp [Instr.makeMap,Act.eval,ruX hu,asInt,asIntOf]
theorem wrap_id {n : Int} (h0 : -9223372036854775808 ≤ n) (h1 : n ≤ 9223372036854775807) : IntKind.i64.wrap n = n := by
 simp only [IntKind.wrap,IntKind.signed,IntKind.bits]
 simp
 omega
theorem ok_makeSlice (cx : Cx gl P σ H w e a) {t el : TypeId} {n : Nat} {by_ : Nat} {z : Value} {x y : Operand} (hop : o.op = .makeSlice t x y) (ht : P.underlying t = some (.slice el)) (hb : bytesOf' P el = some by_) (hz : zeroOf P el = some z) (hn : szOf P el = some n)
  (hnz : n = (vcl z).length) (hn0 : n ≠ 0) (hok : (IOp.makeSlice el by_ (vcl z) (cArg x) (cArg y)).ok gl = true) (hev : ev inv e H (.makeSlice el by_ (vcl z) (cArg x) (cArg y)) = some (.ret v,H')) :
  OpOk gl P σ H w ((execOp a.eval o).run P w) v H' q := by
 simp only [ev] at hev
 cases hx : Den.ea e (cArg x) with
 | none => rw [hx] at hev; cases hev
 | some p =>
  rw [hx] at hev
  cases hy : Den.ea e (cArg y) with
  | none => rw [hy] at hev; split at hev <;> simp_all
  | some u =>
   rw [hy] at hev
   have h1 := cx.ea (agk hok (by simp [IOp.args])) hx
   have h2 := cx.ea (agk hok (by simp [IOp.args])) hy
   cases p with
   | int k1 l => cases u with
    | int k2 c =>
     simp only at hev
     split at hev
     ·rename_i hc
      obtain ⟨c1,c2,c3,c4⟩ := hc
      cases hev
      have hzs : z.cells.size = n := by rw [vcells_toList] at hnz; simpa using hnz.symm
      have hzr : VL σ (repl (vcl z) c.toNat) (repl z.cells.toList c.toNat) := by
       rw [← vcells_toList]
       exact (zeros_ok (io := .makeSlice el by_ (vcl z) (cArg x) (cArg y)) hok).repl _
      have hrr : ∃ ccs : Array Value,(if c.toNat * n = 0 then #[] else (Array.range (c.toNat * n)).map (fun i => z.cells[i % z.cells.size]!)) = ccs ∧ ccs.toList = repl z.cells.toList c.toNat := by
       refine ⟨_,rfl, ?_⟩
       split
       ·rename_i h0
        have : c.toNat = 0 := by rcases Nat.mul_eq_zero.1 h0 with h | h; exact h; exact absurd h hn0
        rw [this]; rfl
       ·rw [← hzs,repl_range _ (by omega)]
      obtain ⟨ccs,hc1,hc2⟩ := hrr
      rw [← hc2] at hzr
      obtain ⟨hA,hB⟩ := cx.hr.newRow (t := el) hzr
      obtain ⟨i,hi⟩ : ∃ i,P.info? el = some i ∧ i.bytes = by_ := by
       unfold bytesOf' at hb
       cases hii : P.info? el with
       | none => rw [hii] at hb; cases hb
       | some i => rw [hii] at hb; exact ⟨i,rfl,by simpa using hb⟩
      refine ⟨_,_,{ w with heap := w.heap.push (.cells ccs el) },.inl (exec_v (s := Instr.makeSlice t (a.eval x) (a.eval y)) (by simp [execOp,hop]) ?_),VR.newSlice l.toNat c.toNat (by omega),hA,.of hB,fun _ => .push rfl⟩
      rw [h1.int_inv,h2.int_inv]
      unfold Instr.makeSlice
      simp only [Sem.run_bind,ruX ht,Result.andThen_ok,asInt,asIntOf,Sem.run_pure,run_typeInfo' hi.1,hi.2,wrap_id (show -9223372036854775808 ≤ l by omega) (by omega),wrap_id (show -9223372036854775808 ≤ c by omega) c3]
      have e1 : decide (c < 0) = false := by simp; omega
      have e2 : decide ((by_ : Int) * c > 2 ^ 48) = false := by simp; omega
      have e3 : decide (l < 0) = false := by simp; omega
      have e4 : decide (l > c) = false := by simp; omega
      simp only [e1,e2,e3,e4,Bool.or_self,Bool.false_eq_true,if_false,Sem.run_bind,run_askRoom,Result.andThen_ok,rsX hn,Sem.run_pure]
      by_cases h0 : c.toNat * n = 0
      ·simp only [h0,if_true] at hc1
       simp only [h0,if_true,Sem.run_pure,Result.andThen_ok]
       have hcc : ccs = #[] := hc1.symm
       subst hcc
       have hr0 : Array.range 0 = #[] := rfl
       simp [newRow,hr0]
      ·simp only [h0,if_false] at hc1
       simp only [h0,if_false,Sem.run_bind,run_zeroValue' hz,Sem.run_pure,Result.andThen_ok]
       rw [hc1]
       simp [newRow]
     ·cases hev
    | _ => cases hev
   | _ => cases hev
theorem ok_fieldAddr (cx : Cx gl P σ H w e a) {t : TypeId} {fs : Array Field} {f : Field} {i n : Nat} {x : Operand} (hop : o.op = .fieldAddr t x i) (ht : P.underlying t = some (.struct fs)) (hf : fs[i]? = some f) (hn : szOf P f.type = some n) (hn0 : n ≠ 0)
  (hok : (IOp.fieldAddr f.offset (cArg x)).ok gl = true) (hev : ev inv e H (.fieldAddr f.offset (cArg x)) = some (.ret v,H')) : OpOk gl P σ H w ((execOp a.eval o).run P w) v H' q := by
 simp only [ev] at hev
 cases hx : Den.ea e (cArg x) with
 | none => rw [hx] at hev; cases hev
 | some p =>
  rw [hx] at hev
  obtain ⟨h1,rfl⟩ := okO_some hev
  have hr := cx.ea (agk hok (by simp [IOp.args])) hx
  cases p with
  | pointer ad => cases ad with
   | none => simp [addrV] at h1
   | some ad =>
    obtain ⟨k,of,pl,rfl,hk,hc⟩ := hr.ptr_inv
    simp only [addrV,Option.isNone_none,cond_true,Option.some.injEq] at h1
    subst h1
    refine OpOk.quiet cx.hr (c := .pointer (some ⟨pl.b,pl.base + (of + f.offset),none⟩)) (exec_v (s := Instr.fieldAt t (a.eval x) i) (by simp [execOp,hop]) ?_) (VR.ptr hk)
    unfold Instr.fieldAt
    simp [ruX ht,hf,hc,Instr.sureAddr,fieldPlace,rsX hn,hn0,add_addr,Nat.add_assoc]
  | _ => simp [addrV] at h1
theorem ok_field (cx : Cx gl P σ H w e a) {t : TypeId} {fs : Array Field} {f : Field} {i : Nat} {g : Option Nat} {x : Operand} (hop : o.op = .field t x i) (ht : P.underlying t = some (.struct fs)) (hf : fs[i]? = some f) (hg : aggOf P f.type = some g)
  (hok : (IOp.field f.offset g (cArg x)).ok gl = true) (hev : ev inv e H (.field f.offset g (cArg x)) = some (.ret v,H')) : OpOk gl P σ H w ((execOp a.eval o).run P w) v H' q := by
 simp only [ev] at hev
 cases hx : Den.ea e (cArg x) with
 | none => rw [hx] at hev; cases hev
 | some p =>
  rw [hx] at hev
  have hr := cx.ea (agk hok (by simp [IOp.args])) hx
  cases p with
  | agg cs =>
   obtain ⟨h1,rfl⟩ := okO_some hev
   obtain ⟨ccs,hcc,hvl⟩ := VR.agg_iff.1 hr
   cases g with
   | none =>
    obtain ⟨c,hc1,hc2⟩ := hvl.get h1
    rw [Array.getElem?_toList] at hc1
    refine OpOk.quiet cx.hr (c := c) (exec_v (s := Instr.field t (a.eval x) i) (by simp [execOp,hop]) ?_) hc2
    unfold Instr.field part
    simp [ruX ht,hf,hcc,asAgg,aggOf_none hg,hc1]
   | some n =>
    simp only [Option.some.injEq] at h1; subst h1
    obtain ⟨ha1,ha2⟩ := aggOf_some hg w
    refine OpOk.quiet cx.hr (c := .agg (ccs.extract f.offset (f.offset + n))) (exec_v (s := Instr.field t (a.eval x) i) (by simp [execOp,hop]) ?_) (VR.agg_iff.2 ⟨_,rfl, ?_⟩)
    ·unfold Instr.field part
     simp [ruX ht,hf,hcc,asAgg,ha1,rsX ha2]
    ·have := (hvl.drop f.offset).take n
     have e : (ccs.extract f.offset (f.offset + n)).toList = (ccs.toList.drop f.offset).take n := by
      rw [Array.toList_extract,List.extract_eq_take_drop,Nat.add_sub_cancel_left]
     rw [e]; exact this
  | _ => cases hev
theorem ok_indexAddr (cx : Cx gl P σ H w e a) {t el : TypeId} {n : Nat} {x y : Operand} (hop : o.op = .indexAddr t x y) (ht : P.underlying t = some (.slice el)) (hn : szOf P el = some n)
  (hok : (IOp.indexAddr n (cArg x) (cArg y)).ok gl = true) (hev : ev inv e H (.indexAddr n (cArg x) (cArg y)) = some (.ret v,H')) : OpOk gl P σ H w ((execOp a.eval o).run P w) v H' q := by
 simp only [ev] at hev
 cases hx : Den.ea e (cArg x) with
 | none => rw [hx] at hev; cases hev
 | some p =>
  rw [hx] at hev
  cases hy : Den.ea e (cArg y) with
  | none => rw [hy] at hev; split at hev <;> simp_all
  | some u =>
   rw [hy] at hev
   have h1 := cx.ea (agk hok (by simp [IOp.args])) hx
   have h2 := cx.ea (agk hok (by simp [IOp.args])) hy
   cases p with
   | slice ad len cap => cases ad with
    | none => cases u <;> cases hev
    | some ad => cases u with
     | int ki i =>
      simp only at hev
      split at hev
      ·rename_i hi
       rcases h1.slice_inv with ⟨k,of,pl,xx,capc,rfl,hk,hc,hd1,hd2,hd3⟩ | ⟨rfl,_,_,_⟩
       case inr => omega
       simp only [Option.isNone_none,cond_true] at hev
       obtain ⟨rfl,rfl⟩ := o1s hev
       have hcap : capc ≠ 0 := by rcases hd2 with h | h <;> omega
       have hxx : xx = pl.base + of := hd1.resolve_right hcap
       subst hxx
       refine OpOk.quiet cx.hr (c := .pointer (some ⟨pl.b,pl.base + (of + i.toNat * n),none⟩)) (exec_v (s := Instr.indexAt t (a.eval x) (a.eval y)) (by simp [execOp,hop]) ?_) (VR.ptr hk)
       unfold Instr.indexAt
       rw [hc,h2.int_inv]
       simp [asIntOf,ruX ht,hi,rsX hn,add_addr,Nat.add_assoc]
      ·cases hev
     | _ => cases hev
   | _ => cases u <;> cases hev
theorem ok_indexAddrArr (cx : Cx gl P σ H w e a) {t el : TypeId} {n len : Nat} {x y : Operand} (hop : o.op = .indexAddr t x y) (ht : P.underlying t = some (.array len el)) (hn : szOf P el = some n)
  (hok : (IOp.indexAddrArr len n (cArg x) (cArg y)).ok gl = true) (hev : ev inv e H (.indexAddrArr len n (cArg x) (cArg y)) = some (.ret v,H')) : OpOk gl P σ H w ((execOp a.eval o).run P w) v H' q := by
 simp only [ev] at hev
 cases hx : Den.ea e (cArg x) with
 | none => rw [hx] at hev; cases hev
 | some p =>
  rw [hx] at hev
  cases hy : Den.ea e (cArg y) with
  | none => rw [hy] at hev; split at hev <;> simp_all
  | some u =>
   rw [hy] at hev
   have h1 := cx.ea (agk hok (by simp [IOp.args])) hx
   have h2 := cx.ea (agk hok (by simp [IOp.args])) hy
   cases p with
   | pointer ad => cases ad with
    | none => cases u <;> cases hev
    | some ad => cases u with
     | int ki i =>
      simp only at hev
      split at hev
      ·rename_i hi
       obtain ⟨k,of,pl,rfl,hk,hc⟩ := h1.ptr_inv
       simp only [Option.isNone_none,cond_true] at hev
       obtain ⟨rfl,rfl⟩ := o1s hev
       refine OpOk.quiet cx.hr (c := .pointer (some ⟨pl.b,pl.base + (of + i.toNat * n),none⟩)) (exec_v (s := Instr.indexAt t (a.eval x) (a.eval y)) (by simp [execOp,hop]) ?_) (VR.ptr hk)
       unfold Instr.indexAt
       rw [hc,h2.int_inv]
       simp [asIntOf,ruX ht,hi,rsX hn,add_addr,Nat.add_assoc,Instr.sureAddr]
      ·cases hev
     | _ => cases hev
   | _ => cases u <;> cases hev
theorem ok_indexStr (cx : Cx gl P σ H w e a) {t : TypeId} {x y : Operand} (hop : o.op = .index t x y) (ht : P.underlying t = some .string)
  (hok : (IOp.indexStr (cArg x) (cArg y)).ok gl = true) (hev : ev inv e H (.indexStr (cArg x) (cArg y)) = some (.ret v,H')) : OpOk gl P σ H w ((execOp a.eval o).run P w) v H' q := by
 simp only [ev] at hev
 cases hx : Den.ea e (cArg x) with
 | none => rw [hx] at hev; cases hev
 | some p =>
  rw [hx] at hev
  cases hy : Den.ea e (cArg y) with
  | none => rw [hy] at hev; split at hev <;> simp_all
  | some u =>
   rw [hy] at hev
   have h1 := cx.ea (agk hok (by simp [IOp.args])) hx
   have h2 := cx.ea (agk hok (by simp [IOp.args])) hy
   cases p with
   | string s => cases u with
    | int ki i =>
     simp only at hev
     split at hev
     ·rename_i hi
      cases hb : s[i.toNat]? with
      | none => rw [hb] at hev; cases hev
      | some b =>
       rw [hb] at hev
       obtain ⟨rfl,rfl⟩ := o1s hev
       refine OpOk.quiet cx.hr (c := .int .u8 b.toNat) (exec_v (s := Instr.index t (a.eval x) (a.eval y)) (by simp [execOp,hop]) ?_) (.int _ _)
       unfold Instr.index
       rw [h1.string_inv,h2.int_inv]
       simp [asIntOf,ruX ht,hi,hb]
     ·cases hev
    | _ => cases hev
   | _ => cases u <;> cases hev
theorem ok_indexArr (cx : Cx gl P σ H w e a) {t el : TypeId} {len n : Nat} {g : Option Nat} {x y : Operand} (hop : o.op = .index t x y) (ht : P.underlying t = some (.array len el)) (hn : szOf P el = some n) (hg : aggOf P el = some g)
  (hok : (IOp.indexArr len n g (cArg x) (cArg y)).ok gl = true) (hev : ev inv e H (.indexArr len n g (cArg x) (cArg y)) = some (.ret v,H')) : OpOk gl P σ H w ((execOp a.eval o).run P w) v H' q := by
 simp only [ev] at hev
 cases hx : Den.ea e (cArg x) with
 | none => rw [hx] at hev; cases hev
 | some p =>
  rw [hx] at hev
  cases hy : Den.ea e (cArg y) with
  | none => rw [hy] at hev; split at hev <;> simp_all
  | some u =>
   rw [hy] at hev
   have h1 := cx.ea (agk hok (by simp [IOp.args])) hx
   have h2 := cx.ea (agk hok (by simp [IOp.args])) hy
   cases p with
   | agg cs => cases u with
    | int ki i =>
     simp only at hev
     split at hev
     ·rename_i hi
      obtain ⟨h3,rfl⟩ := okO_some hev
      obtain ⟨ccs,hcc,hvl⟩ := VR.agg_iff.1 h1
      cases g with
      | none =>
       obtain ⟨c,hc1,hc2⟩ := hvl.get h3
       rw [Array.getElem?_toList] at hc1
       refine OpOk.quiet cx.hr (c := c) (exec_v (s := Instr.index t (a.eval x) (a.eval y)) (by simp [execOp,hop]) ?_) hc2
       unfold Instr.index part
       rw [hcc,h2.int_inv]
       simp [asIntOf,ruX ht,hi,rsX hn,aggOf_none hg,hc1]
      | some m =>
       simp only [Option.some.injEq] at h3; subst h3
       obtain ⟨ha1,ha2⟩ := aggOf_some hg w
       have : n = m := by rw [hn] at ha2; exact Option.some.inj ha2
       subst this
       refine OpOk.quiet cx.hr (c := .agg (ccs.extract (i.toNat * n) (i.toNat * n + n))) (exec_v (s := Instr.index t (a.eval x) (a.eval y)) (by simp [execOp,hop]) ?_) (VR.agg_iff.2 ⟨_,rfl, ?_⟩)
       ·unfold Instr.index part
        rw [hcc,h2.int_inv]
        simp [asIntOf,ruX ht,hi,rsX hn,ha1]
       ·have := (hvl.drop (i.toNat * n)).take n
        have e : (ccs.extract (i.toNat * n) (i.toNat * n + n)).toList = (ccs.toList.drop (i.toNat * n)).take n := by
         rw [Array.toList_extract,List.extract_eq_take_drop,Nat.add_sub_cancel_left]
        rw [e]; exact this
     ·cases hev
    | _ => cases hev
   | _ => cases u <;> cases hev
end Go.Den
/- Den, part K: slice expressions, strings, bytes, interfaces, the smaller builtins. -/
namespace Go.Den
variable {gl : Nat → Bool} {P : Program} {σ : Ren} {H H' : AH} {w : World} {inv : Inv} {e : Env} {a : Act} {o : Oper} {v : Value} {q : Bool}
inductive OptR (σ : Ren) : Option Value → Option Value → Prop
 | none : OptR σ none none
 | some {v c : Value} : VR σ v c → OptR σ (some v) (some c)
theorem eao_ok (cx : Cx gl P σ H w e a) {x : Option Operand} {v : Option Value} (hok : ∀ y ∈ (x.map cArg).toList,argOk gl y = true) (h : eao e (x.map cArg) = some v) : OptR σ v (x.map a.eval) := by
 cases x with
 | none => simp [eao] at h; subst h; exact .none
 | some x =>
  simp only [Option.map_some,eao,Option.map_eq_some_iff] at h
  obtain ⟨u,hu,rfl⟩ := h
  exact .some (cx.ea (hok _ (by simp)) hu)
theorem boundV_ok {x c : Value} {y y' n : Nat} (hx : VR σ x c) (h : boundV x y = some n) (hy : y ≤ y') (code : BoundsCode) (w : World) : (Instr.sliceBound c y' code).run P w = .ok n w ∧ n ≤ y := by
 cases x with
 | int k i =>
  simp only [boundV] at h
  split at h
  ·rename_i hi
   simp only [Option.some.injEq] at h; subst h
   rw [hx.int_inv]
   refine ⟨?_,by omega⟩
   unfold Instr.sliceBound
   simp only [asIntOf,Sem.run_bind,Sem.run_pure,Result.andThen_ok]
   rw [if_pos (by omega)]; rfl
  ·cases h
 | _ => simp [boundV] at h
theorem bounds_ok {lo hi mx clo chi cmx : Option Value} {len cap capc l h m : Nat} (isS : Bool) (h1 : OptR σ lo clo) (h2 : OptR σ hi chi) (h3 : OptR σ mx cmx) (hb : boundsV len cap lo hi mx = some (l,h,m)) (hlen : len ≤ cap) (hcap : cap ≤ capc) (w : World) :
  ∃ m',(Instr.sliceBounds isS len capc clo chi cmx).run P w = .ok (l,h,m') w ∧ l ≤ h ∧ h ≤ m ∧ m ≤ cap ∧ m' ≤ capc ∧ ((mx = none ∧ m = cap ∧ m' = capc) ∨ m' = m) := by
 unfold boundsV at hb
 cases h3 with
 | none =>
  simp only at hb
  cases h2 with
  | none =>
   simp only at hb
   cases h1 with
   | none =>
    simp only [Option.some.injEq,Prod.mk.injEq] at hb
    obtain ⟨rfl,rfl,rfl⟩ := hb
    exact ⟨capc,by simp [Instr.sliceBounds],by omega,hlen,Nat.le_refl _,Nat.le_refl _,.inl ⟨rfl,rfl,rfl⟩⟩
   | some hv =>
    simp only at hb
    split at hb
    ·cases hb
    ·rename_i ll hll
     simp only [Option.some.injEq,Prod.mk.injEq] at hb
     obtain ⟨rfl,rfl,rfl⟩ := hb
     obtain ⟨q1,q2⟩ := boundV_ok (P := P) (y' := len) hv hll (Nat.le_refl _) .sliceB w
     exact ⟨capc,by simp [Instr.sliceBounds,q1],q2,hlen,Nat.le_refl _,Nat.le_refl _,.inl ⟨rfl,rfl,rfl⟩⟩
  | some hhi =>
   simp only at hb
   split at hb
   ·cases hb
   ·rename_i hh hhh
    cases h1 with
    | none =>
     simp only [Option.some.injEq,Prod.mk.injEq] at hb
     obtain ⟨rfl,rfl,rfl⟩ := hb
     obtain ⟨q1,q2⟩ := boundV_ok (P := P) (y' := capc) hhi hhh hcap (if isS then .sliceAcap else .sliceAlen) w
     exact ⟨capc,by simp [Instr.sliceBounds,q1],by omega,q2,Nat.le_refl _,Nat.le_refl _,.inl ⟨rfl,rfl,rfl⟩⟩
    | some hv =>
     simp only at hb
     split at hb
     ·cases hb
     ·rename_i ll hll
      simp only [Option.some.injEq,Prod.mk.injEq] at hb
      obtain ⟨rfl,rfl,rfl⟩ := hb
      obtain ⟨q1,q2⟩ := boundV_ok (P := P) (y' := capc) hhi hhh hcap (if isS then .sliceAcap else .sliceAlen) w
      obtain ⟨q3,q4⟩ := boundV_ok (P := P) (y' := hh) hv hll (Nat.le_refl _) .sliceB w
      exact ⟨capc,by simp [Instr.sliceBounds,q1,q3],q4,q2,Nat.le_refl _,Nat.le_refl _,.inl ⟨rfl,rfl,rfl⟩⟩
 | some hmx =>
  simp only at hb
  split at hb
  ·cases hb
  ·rename_i mm hmm
   obtain ⟨q5,q6⟩ := boundV_ok (P := P) (y' := capc) hmx hmm hcap (if isS then .slice3Acap else .slice3Alen) w
   cases h2 with
   | none => simp at hb
   | some hhi =>
    simp only at hb
    split at hb
    ·cases hb
    ·rename_i hh hhh
     cases h1 with
     | none =>
      simp only [Option.some.injEq,Prod.mk.injEq] at hb
      obtain ⟨rfl,rfl,rfl⟩ := hb
      obtain ⟨q1,q2⟩ := boundV_ok (P := P) (y' := mm) hhi hhh (Nat.le_refl _) .slice3B w
      exact ⟨mm,by simp [Instr.sliceBounds,q5,q1],by omega,q2,q6,by omega,.inr rfl⟩
     | some hv =>
      simp only at hb
      split at hb
      ·cases hb
      ·rename_i ll hll
       simp only [Option.some.injEq,Prod.mk.injEq] at hb
       obtain ⟨rfl,rfl,rfl⟩ := hb
       obtain ⟨q1,q2⟩ := boundV_ok (P := P) (y' := mm) hhi hhh (Nat.le_refl _) .slice3B w
       obtain ⟨q3,q4⟩ := boundV_ok (P := P) (y' := hh) hv hll (Nat.le_refl _) .slice3C w
       exact ⟨mm,by simp [Instr.sliceBounds,q5,q1,q3],q4,q2,q6,by omega,.inr rfl⟩
theorem ok_slice (cx : Cx gl P σ H w e a) {t el : TypeId} {n : Nat} {x : Operand} {lo hi mx : Option Operand} (hop : o.op = .slice t x lo hi mx) (ht : P.underlying t = some (.slice el)) (hn : szOf P el = some n)
  (hok : (IOp.slice el n (cArg x) (lo.map cArg) (hi.map cArg) (mx.map cArg)).ok gl = true) (hev : ev inv e H (.slice el n (cArg x) (lo.map cArg) (hi.map cArg) (mx.map cArg)) = some (.ret v,H')) :
  OpOk gl P σ H w ((execOp a.eval o).run P w) v H' q := by
 have hlo := fun v h => eao_ok (x := lo) (v := v) cx (fun y hy => agk hok (by simp only [IOp.args,List.mem_cons,List.mem_append]; exact .inr (.inl (.inl hy)))) h
 have hhi := fun v h => eao_ok (x := hi) (v := v) cx (fun y hy => agk hok (by simp only [IOp.args,List.mem_cons,List.mem_append]; exact .inr (.inl (.inr hy)))) h
 have hmx := fun v h => eao_ok (x := mx) (v := v) cx (fun y hy => agk hok (by simp only [IOp.args,List.mem_cons,List.mem_append]; exact .inr (.inr hy))) h
 have hxo := fun v h => cx.ea (x := x) (v := v) (agk hok (by simp [IOp.args])) h
 simp only [ev] at hev
 split at hev
 ·rename_i ad len cap vlo vhi vmx e1 e2 e3 e4
  have hr := hxo _ e1
  have hl := hlo _ e2
  have hh := hhi _ e3
  have hm := hmx _ e4
  cases hb : boundsV len cap vlo vhi vmx with
  | none => rw [hb] at hev; cases hev
  | some lhm =>
   obtain ⟨l,h,m⟩ := lhm
   rw [hb] at hev
   simp only at hev
   cases ad with
   | none =>
    obtain ⟨rfl,rfl⟩ := o1s hev
    obtain ⟨rfl,rfl,hc⟩ := hr.sliceNil_inv
    obtain ⟨m',q1,q2,q3,q4,q5,q6⟩ := bounds_ok (P := P) true hl hh hm hb (Nat.le_refl 0) (Nat.le_refl 0) w
    have e1 : l = 0 := by omega
    have e2 : h = 0 := by omega
    have e3 : m = 0 := by omega
    have e4 : m' = 0 := by omega
    subst e1; subst e2; subst e3; subst e4
    refine OpOk.quiet cx.hr (c := .slice none 0 0) (exec_v (s := Instr.sliceAt t (a.eval x) (lo.map a.eval) (hi.map a.eval) (mx.map a.eval)) (by simp [execOp,hop]) ?_) .sliceNil
    unfold Instr.sliceAt Instr.slice
    simp only [Sem.run_bind,ruX ht,Result.andThen_ok,hc,q1,rsX hn,Option.map_none,ite_self,Sem.run_pure]
   | some ad =>
    rcases hr.slice_inv with ⟨k,of,pl,xx,capc,rfl,hk,hc,hd1,hd2,hd3⟩ | ⟨rfl,rfl,hsp,ad',hc⟩
    case inr =>
     obtain ⟨m',q1,q2,q3,q4,q5,q6⟩ := bounds_ok (P := P) true hl hh hm hb (Nat.le_refl 0) (Nat.le_refl 0) w
     have e1 : l = 0 := by omega
     have e2 : h = 0 := by omega
     have e3 : m = 0 := by omega
     have e4 : m' = 0 := by omega
     subst e1; subst e2; subst e3; subst e4
     simp only [hsp,beq_self_eq_true,Bool.and_self,cond_true] at hev
     obtain ⟨rfl,rfl⟩ := o1s hev
     refine OpOk.quiet cx.hr (c := .slice (some ad') 0 0) (exec_v (s := Instr.sliceAt t (a.eval x) (lo.map a.eval) (hi.map a.eval) (mx.map a.eval)) (by simp [execOp,hop]) ?_) (.sliceE hsp)
     unfold Instr.sliceAt Instr.slice
     simp only [Sem.run_bind,ruX ht,Result.andThen_ok,hc,q1,rsX hn,Option.map_some,ite_self,Sem.run_pure]
     rfl
    simp only [Option.isSome_none,Bool.false_and,cond_false,Option.isNone_none,Bool.true_and] at hev
    cases hty : (Nat.beq l 0 || H.tyOk k el) with
    | false => rw [hty] at hev; cases hev
    | true =>
     rw [hty] at hev
     obtain ⟨rfl,rfl⟩ := o1s hev
     have hcap : cap ≤ capc := by rcases hd2 with h | h <;> omega
     obtain ⟨m',q1,q2,q3,q4,q5,q6⟩ := bounds_ok (P := P) true hl hh hm hb hd3 hcap w
     refine OpOk.quiet cx.hr (c := .slice (some ⟨pl.b,if m' = l then xx else xx + l * n,none⟩) (h - l) (m' - l)) (exec_v (s := Instr.sliceAt t (a.eval x) (lo.map a.eval) (hi.map a.eval) (mx.map a.eval)) (by simp [execOp,hop]) ?_) ?_
     ·unfold Instr.sliceAt Instr.slice
      simp only [Sem.run_bind,ruX ht,Result.andThen_ok,hc,q1,rsX hn,Option.map_some,add_addr,Sem.run_pure]
      split <;> rfl
     ·refine VR.slice hk ?_ ?_ (by omega)
      ·by_cases hml : m' = l
       ·exact .inr (by omega)
       ·rw [if_neg hml]
        rcases hd1 with h | h
        ·exact .inl (by omega)
        ·omega
      ·rcases q6 with ⟨_,h1,h2⟩ | h1
       ·subst h1; subst h2
        rcases hd2 with h | ⟨g1,g2,g3⟩
        ·exact .inl (by omega)
        ·refine .inr ⟨g1,by omega, ?_⟩
         by_cases hml : m' = l
         ·rw [if_pos hml,hml]
          simp only [Nat.sub_self,Nat.zero_mul,Nat.add_zero]
          exact Nat.le_trans (Nat.le_add_right _ _) g3
         ·rw [if_neg hml]
          by_cases hl0 : l = 0
          ·subst hl0; simpa using g3
          ·have hty2 : AH.tyOk H' k el = true := by
            have : Nat.beq l 0 = false := by rw [Bool.eq_false_iff]; simpa using hl0
            rw [this] at hty; simpa using hty
           unfold AH.tyOk at hty2
           cases hg : AH.get H' k with
           | none => rw [hg] at hty2; cases hty2
           | some ob => rw [hg] at hty2; cases ob with
            | cells cs t' ro ex root thr tip =>
             obtain ⟨y1,y2⟩ := cx.hr.typ _ _ _ _ _ _ _ _ _ hk hg
             cases ex with
             | true => have := y1 rfl; omega
             | false =>
              simp only [Bool.false_or] at hty2
              have := Nat.eq_of_beq_eq_true hty2; subst this
              have := (y2 rfl).2
              rw [hn] at this; injection this with this
              rw [this,Nat.add_assoc,← Nat.add_mul]
              rw [show l + (m' - l) = m' by omega]
              exact g3
            | _ => cases hty2
       ·subst h1; exact .inl rfl
 ·cases hev
end Go.Den
/- Den, part L: strings, bytes, interfaces, lengths; objects that are no rows. -/
namespace Go.Den
variable {gl : Nat → Bool} {P : Program} {σ : Ren} {H H' : AH} {w : World} {inv : Inv} {e : Env} {a : Act} {o : Oper} {v : Value} {q : Bool}
theorem ok_sliceStr (cx : Cx gl P σ H w e a) {t : TypeId} {x : Operand} {lo hi : Option Operand} (hop : o.op = .slice t x lo hi none) (ht : P.underlying t = some .string)
  (hok : (IOp.sliceStr (cArg x) (lo.map cArg) (hi.map cArg)).ok gl = true) (hev : ev inv e H (.sliceStr (cArg x) (lo.map cArg) (hi.map cArg)) = some (.ret v,H')) :
  OpOk gl P σ H w ((execOp a.eval o).run P w) v H' q := by
 have hlo := fun v h => eao_ok (x := lo) (v := v) cx (fun y hy => agk hok (by simp only [IOp.args,List.mem_cons,List.mem_append]; exact .inr (.inl hy))) h
 have hhi := fun v h => eao_ok (x := hi) (v := v) cx (fun y hy => agk hok (by simp only [IOp.args,List.mem_cons,List.mem_append]; exact .inr (.inr hy))) h
 have hxo := fun v h => cx.ea (x := x) (v := v) (agk hok (by simp [IOp.args])) h
 simp only [ev] at hev
 split at hev
 ·rename_i s vlo vhi e1 e2 e3
  have hc := (hxo _ e1).string_inv
  have hl := hlo _ e2
  have hh := hhi _ e3
  cases hb : boundsV s.size s.size vlo vhi none with
  | none => rw [hb] at hev; cases hev
  | some lhm =>
   obtain ⟨l,h,m⟩ := lhm
   rw [hb] at hev
   obtain ⟨rfl,rfl⟩ := o1s hev
   obtain ⟨m',q1,_⟩ := bounds_ok (P := P) false hl hh .none hb (Nat.le_refl _) (Nat.le_refl _) w
   refine OpOk.quiet cx.hr (c := .string (s.extract l h)) (exec_v (s := Instr.sliceAt t (a.eval x) (lo.map a.eval) (hi.map a.eval) none) (by simp [execOp,hop]) ?_) (.string _)
   unfold Instr.sliceAt Instr.slice
   simp only [Sem.run_bind,ruX ht,Result.andThen_ok,hc,q1,Option.isSome_none,Bool.false_eq_true,if_false,Sem.run_pure]
 ·cases hev
theorem ok_sliceArr (cx : Cx gl P σ H w e a) {t el : TypeId} {k n : Nat} {x : Operand} {lo hi mx : Option Operand} (hop : o.op = .slice t x lo hi mx) (ht : P.underlying t = some (.array k el)) (hn : szOf P el = some n)
  (hok : (IOp.sliceArr k n (cArg x) (lo.map cArg) (hi.map cArg) (mx.map cArg)).ok gl = true) (hev : ev inv e H (.sliceArr k n (cArg x) (lo.map cArg) (hi.map cArg) (mx.map cArg)) = some (.ret v,H')) :
  OpOk gl P σ H w ((execOp a.eval o).run P w) v H' q := by
 have hlo := fun v h => eao_ok (x := lo) (v := v) cx (fun y hy => agk hok (by simp only [IOp.args,List.mem_cons,List.mem_append]; exact .inr (.inl (.inl hy)))) h
 have hhi := fun v h => eao_ok (x := hi) (v := v) cx (fun y hy => agk hok (by simp only [IOp.args,List.mem_cons,List.mem_append]; exact .inr (.inl (.inr hy)))) h
 have hmx := fun v h => eao_ok (x := mx) (v := v) cx (fun y hy => agk hok (by simp only [IOp.args,List.mem_cons,List.mem_append]; exact .inr (.inr hy))) h
 have hxo := fun v h => cx.ea (x := x) (v := v) (agk hok (by simp [IOp.args])) h
 simp only [ev] at hev
 split at hev
 ·rename_i ad vlo vhi vmx e1 e2 e3 e4
  obtain ⟨kk,of,pl,rfl,hk,hc⟩ := (hxo _ e1).ptr_inv
  cases hb : boundsV k k vlo vhi vmx with
  | none => rw [hb] at hev; cases hev
  | some lhm =>
   obtain ⟨l,h,m⟩ := lhm
   rw [hb] at hev
   simp only [Option.isNone_none,cond_true] at hev
   obtain ⟨rfl,rfl⟩ := o1s hev
   obtain ⟨m',q1,q2,q3,q4,q5,q6⟩ := bounds_ok (P := P) false (hlo _ e2) (hhi _ e3) (hmx _ e4) hb (Nat.le_refl _) (Nat.le_refl _) w
   have hmm : m' = m := by rcases q6 with ⟨_,h1,h2⟩ | h <;> omega
   subst hmm
   refine OpOk.quiet cx.hr (c := .slice (some ⟨pl.b,if m' = l then pl.base + of else pl.base + of + l * n,none⟩) (h - l) (m' - l)) (exec_v (s := Instr.sliceAt t (a.eval x) (lo.map a.eval) (hi.map a.eval) (mx.map a.eval)) (by simp [execOp,hop]) ?_)
    (VR.slice hk ?_ (.inl rfl) (by omega))
   ·unfold Instr.sliceAt
    simp only [Sem.run_bind,ruX ht,Result.andThen_ok,hc,q1,rsX hn,add_addr,Sem.run_pure,Instr.sureAddr]
    split <;> rfl
   ·by_cases hml : m' = l
    ·exact .inr (by omega)
    ·rw [if_neg hml]; exact .inl (by omega)
 ·cases hev
theorem exec_builtin {b : Builtin} {ts : Array TypeId} {xs : Array Operand} (hop : o.op = .call ⟨.builtin b,xs,ts⟩) :
  ∃ cs,execOp a.eval o = builtin b ts o.type cs (xs.map a.eval) := by
 have h : execOp a.eval o = builtin b ts o.type (xs.map fun x => match x with | .const _ => true | _ => false) (xs.map a.eval) := by
  simp only [execOp,hop,resolve,invoke]
  rfl
 exact ⟨_,h⟩
theorem ok_lenStr (cx : Cx gl P σ H w e a) {t : TypeId} {ts : Array TypeId} {x : Operand} (hop : o.op = .call ⟨.builtin .len,#[x],ts⟩) (h0 : ts[0]? = some t) (ht : P.underlying t = some .string)
  (hok : (IOp.lenStr (cArg x)).ok gl = true) (hev : ev inv e H (.lenStr (cArg x)) = some (.ret v,H')) : OpOk gl P σ H w ((execOp a.eval o).run P w) v H' q := by
 simp only [ev] at hev
 cases hx : Den.ea e (cArg x) with
 | none => rw [hx] at hev; cases hev
 | some p =>
  rw [hx] at hev
  have hr := cx.ea (agk hok (by simp [IOp.args])) hx
  cases p with
  | string s =>
   obtain ⟨rfl,rfl⟩ := o1s hev
   refine OpOk.quiet cx.hr (c := goInt s.size) ?_ (.int _ _)
   obtain ⟨cons,hcons⟩ := exec_builtin (a := a) hop
   rw [hcons]
   simp [builtin,Builtin.len_,h0,ruX ht,hr.string_inv]
  | _ => cases hev
theorem ok_lenSl (cx : Cx gl P σ H w e a) {t el : TypeId} {ts : Array TypeId} {x : Operand} (hop : o.op = .call ⟨.builtin .len,#[x],ts⟩) (h0 : ts[0]? = some t) (ht : P.underlying t = some (.slice el))
  (hok : (IOp.lenSl (cArg x)).ok gl = true) (hev : ev inv e H (.lenSl (cArg x)) = some (.ret v,H')) : OpOk gl P σ H w ((execOp a.eval o).run P w) v H' q := by
 simp only [ev] at hev
 cases hx : Den.ea e (cArg x) with
 | none => rw [hx] at hev; cases hev
 | some p =>
  rw [hx] at hev
  have hr := cx.ea (agk hok (by simp [IOp.args])) hx
  cases p with
  | slice ad n c =>
   obtain ⟨rfl,rfl⟩ := o1s hev
   refine OpOk.quiet cx.hr (c := goInt n) ?_ (.int _ _)
   obtain ⟨cons,hcons⟩ := exec_builtin (a := a) hop
   rw [hcons]
   cases ad with
   | none => obtain ⟨rfl,rfl,hc⟩ := hr.sliceNil_inv; simp [builtin,Builtin.len_,h0,ruX ht,hc]
   | some ad => rcases hr.slice_inv with ⟨k,of,pl,xx,capc,rfl,hk,hc,_⟩ | ⟨rfl,_,_,a9,hc⟩ <;> simp [builtin,Builtin.len_,h0,ruX ht,hc]
  | _ => cases hev
theorem ok_lenArr (cx : Cx gl P σ H w e a) {t el : TypeId} {n : Nat} {ts : Array TypeId} {x : Operand} (hop : o.op = .call ⟨.builtin .len,#[x],ts⟩) (h0 : ts[0]? = some t) (ht : P.underlying t = some (.array n el))
  (hev : ev inv e H (.lenArr n) = some (.ret v,H')) : OpOk gl P σ H w ((execOp a.eval o).run P w) v H' q := by
 obtain ⟨rfl,rfl⟩ := o1s hev
 refine OpOk.quiet cx.hr (c := goInt n) ?_ (.int _ _)
 obtain ⟨cons,hcons⟩ := exec_builtin (a := a) hop
 rw [hcons]
 simp [builtin,Builtin.len_,h0,ruX ht]
theorem mapOf_ok (h : HR gl P σ H w.heap) {m c : Value} {es : List MapEntry} (hr : VR σ m c) (hm : mapOf H m = some es) :
  (m = .map none ∧ c = .map none ∧ es = []) ∨ ∃ k p clock ces,m = .map (some k) ∧ σ k = some p ∧ c = .map (some p.b) ∧ H.get k = some (.map es clock) ∧ w.heap[p.b]? = some (.map ces clock) ∧ F2 (ER σ) es ces.toList := by
 cases hr with
 | mapNil => simp [mapOf] at hm; exact .inl ⟨rfl,rfl,hm⟩
 | map hk =>
  rename_i k p
  simp only [mapOf] at hm
  cases hg : H.get k with
  | none => rw [hg] at hm; cases hm
  | some ob => rw [hg] at hm; cases ob with
   | map es' clock =>
    simp only [Option.some.injEq] at hm; subst hm
    have := h.obj k p hk
    unfold ObjOk at this
    rw [hg] at this
    obtain ⟨ces,h1,h2⟩ := this
    exact .inr ⟨k,p,clock,ces,rfl,hk,rfl,hg,h1,h2⟩
   | _ => cases hm
 | _ => simp [mapOf] at hm
theorem ok_lenMap (cx : Cx gl P σ H w e a) {t k el : TypeId} {ts : Array TypeId} {x : Operand} (hop : o.op = .call ⟨.builtin .len,#[x],ts⟩) (h0 : ts[0]? = some t) (ht : P.underlying t = some (.map k el))
  (hok : (IOp.lenMap (cArg x)).ok gl = true) (hev : ev inv e H (.lenMap (cArg x)) = some (.ret v,H')) : OpOk gl P σ H w ((execOp a.eval o).run P w) v H' q := by
 simp only [ev] at hev
 cases hx : Den.ea e (cArg x) with
 | none => rw [hx] at hev; cases hev
 | some p =>
  rw [hx] at hev
  have hr := cx.ea (agk hok (by simp [IOp.args])) hx
  simp only at hev
  cases hm : mapOf H p with
  | none => rw [hm] at hev; cases hev
  | some es =>
   rw [hm] at hev
   obtain ⟨rfl,rfl⟩ := o1s hev
   refine OpOk.quiet cx.hr (c := goInt es.length) ?_ (.int _ _)
   obtain ⟨cons,hcons⟩ := exec_builtin (a := a) hop
   rw [hcons]
   rcases mapOf_ok cx.hr hr hm with ⟨_,hc,rfl⟩ | ⟨k,p,clock,ces,_,hk,hc,hg,h1,h2⟩
   ·simp [builtin,Builtin.len_,h0,ruX ht,hc]
   ·have hl := h2.length
    have hgo : (getObj p.b).run P w = .ok (.map ces clock) w := by simp [getObj,Sem.run,h1]
    have hl' : ces.size = es.length := by simpa using hl.symm
    simp [builtin,Builtin.len_,h0,ruX ht,hc,hgo,hl']
theorem ok_minMax (cx : Cx gl P σ H w e a) {mx : Bool} {ts : Array TypeId} {x y : Operand} (hop : o.op = .call ⟨.builtin (bif mx then .max else .min),#[x,y],ts⟩)
  (hok : (IOp.minMax mx (cArg x) (cArg y)).ok gl = true) (hev : ev inv e H (.minMax mx (cArg x) (cArg y)) = some (.ret v,H')) : OpOk gl P σ H w ((execOp a.eval o).run P w) v H' q := by
 have hxo := fun v h => cx.ea (x := x) (v := v) (agk hok (by simp [IOp.args])) h
 have hyo := fun v h => cx.ea (x := y) (v := v) (agk hok (by simp [IOp.args])) h
 simp only [ev] at hev
 split at hev
 ·rename_i k m k' n e1 e2
  have h1 := (hxo _ e1).int_inv
  have h2 := (hyo _ e2).int_inv
  split at hev
  ·rename_i hk; subst hk
   obtain ⟨rfl,rfl⟩ := o1s hev
   refine OpOk.quiet cx.hr (c := .int k (bif mx then (if n > m then n else m) else (if n < m then n else m))) ?_ (.int _ _)
   obtain ⟨cons,hcons⟩ := exec_builtin (a := a) hop
   rw [hcons]
   cases mx <;> simp [builtin,Builtin.min_,Builtin.max_,Builtin.min2,Builtin.max2,h1,h2]
  ·cases hev
 ·cases hev
theorem HR.setObj {hp : Array Obj} (h : HR gl P σ H hp) {k : Nat} {p : Place} {ob ob' : AObj} {co co' : Obj} (hk : σ k = some p) (hg : H.get k = some ob) (hnc : ∀ cs t ro ex root thr tip,ob ≠ .cells cs t ro ex root thr tip) (hng : ob ≠ .gone)
  (hnc' : ∀ cs t ro ex root thr tip,ob' ≠ .cells cs t ro ex root thr tip) (hc : hp[p.b]? = some co) (hloop : ∀ l,co = .loop l → ∃ l',co' = .loop l')
  (hobj : ObjOk gl P σ (H.put k ob') (hp.setIfInBounds p.b co') k p) :
  HR gl P σ (H.put k ob') (hp.setIfInBounds p.b co') ∧ Fr σ H hp σ (H.put k ob') (hp.setIfInBounds p.b co') := by
 have hpb : p.b < hp.size := (h.sig _ _ hk).2
 have hal : ∀ j r,(H.put k ob').alive j r = H.alive j r := by
  intro j r
  rw [Bool.eq_iff_iff,AH.alive_iff,AH.alive_iff]
  by_cases e : r = k
  ·subst e
   rw [AH.gpt,if_pos rfl,hg]
   constructor
   ·rintro ⟨_,_,_,_,_,_,_,e,_⟩; injection e with e; exact absurd e (hnc' _ _ _ _ _ _ _)
   ·rintro ⟨_,_,_,_,_,_,_,e,_⟩; injection e with e; exact absurd e (hnc _ _ _ _ _ _ _)
  ·rw [AH.gpt,if_neg e]
 have hlive : H.live k := by
  unfold AH.live; rw [hg]
  cases ob with
  | cells => exact absurd rfl (hnc _ _ _ _ _ _ _)
  | gone => exact absurd rfl hng
  | _ => trivial
 have hlv : ∀ j,(H.put k ob').live j → H.live j := by
  intro j
  by_cases e : j = k
  ·subst e; exact fun _ => hlive
  ·unfold AH.live
   rw [AH.gpt,if_neg e]; cases H.get j with
   | none => exact id
   | some o => cases o <;> simp [hal]
 have hlv2 : ∀ j,j ≠ k → H.live j → (H.put k ob').live j := by
  intro j e
  unfold AH.live
  rw [AH.gpt,if_neg e]; cases H.get j with
  | none => exact id
  | some o => cases o <;> simp [hal]
 have hblk : ∀ b,b ≠ p.b → (hp.setIfInBounds p.b co')[b]? = hp[b]? := fun b hb => Array.getElem?_setIfInBounds_ne (Ne.symm hb)
 have hfk : H.famOf k = none := by
  unfold AH.famOf; rw [hg]
  cases ob with
  | cells => exact absurd rfl (hnc _ _ _ _ _ _ _)
  | _ => rfl
 have halone : ∀ l q,σ l = some q → l ≠ k → H.live l → q.b ≠ p.b := by
  intro l q hl hne hll hb
  rcases Nat.lt_or_gt_of_ne hne with x | x
  ·obtain ⟨⟨r,h1,h2⟩,_⟩ := h.dis l k q p hl hk x hll hlive hb
   rw [hfk] at h2; cases h2
  ·obtain ⟨⟨r,h1,h2⟩,_⟩ := h.dis k l p q hk hl x hlive hll hb.symm
   rw [hfk] at h1; cases h1
 constructor
 ·refine ⟨fun j o hj => ?_,fun j cs1 t1 ro1 ex1 r1 th1 ti1 hj => ?_,fun j q hj => by simpa using h.sig j q hj,fun j q hj => ?_,fun j q cs1 t1 ro1 ex1 r1 th1 ti1 g1 g2 => ?_,fun j l pj pl hj hl hlt a b hb => ?_⟩
  ·rw [AH.gpt] at hj
   by_cases e : j = k
   ·subst e; exact h.lt _ _ hg
   ·rw [if_neg e] at hj; exact h.lt _ _ hj
  ·rw [AH.gpt] at hj
   by_cases e : j = k
   ·subst e; rw [if_pos rfl] at hj; injection hj with hj; exact absurd hj (hnc' _ _ _ _ _ _ _)
   ·rw [if_neg e] at hj
    obtain ⟨x,y,cs2,t2,ro2,ex2,th2,ti2,z,u⟩ := h.fam _ _ _ _ _ _ _ _ hj
    refine ⟨x,y,cs2,t2,ro2,ex2,th2,ti2, ?_,u⟩
    rw [AH.gpt,if_neg]; exact z
    rintro rfl; rw [hg] at z; injection z with z; exact absurd z (hnc _ _ _ _ _ _ _)
  ·by_cases e : j = k
   ·subst e; rw [hk] at hj; cases hj; exact hobj
   ·by_cases hjl : H.live j
    ·have := (h.obj _ _ hj).mono (.refl σ) (hblk q.b (halone j q hj e hjl))
     unfold ObjOk at *
     rw [AH.gpt,if_neg e]
     cases hgj : H.get j with
     | none => trivial
     | some o => rw [hgj] at this; cases o with
      | cells => simp only [hal]; exact this
      | _ => exact this
    ·have hjl' : ¬ (H.put k ob').live j := fun x => hjl (hlv j x)
     unfold ObjOk AH.live at *
     rw [AH.gpt,if_neg e] at *
     cases hgj : H.get j with
     | none => trivial
     | some o => rw [hgj] at hjl'; cases o with
      | cells => exact fun x => absurd x hjl'
      | gone => trivial
      | _ => exact absurd trivial hjl'
  ·rw [AH.gpt] at g2
   by_cases e : j = k
   ·subst e; rw [if_pos rfl] at g2; injection g2 with g2; exact absurd g2 (hnc' _ _ _ _ _ _ _)
   ·rw [if_neg e] at g2; exact h.typ _ _ _ _ _ _ _ _ _ g1 g2
  ·have hjk : j ≠ k := by
    rintro rfl
    exact halone l pl hl (by omega) (hlv l b) (by rw [hk] at hj; cases hj; exact hb.symm)
   have hlk : l ≠ k := by
    rintro rfl
    exact halone j pj hj (by omega) (hlv j a) (by rw [hk] at hl; cases hl; exact hb)
   have hf : ∀ j,j ≠ k → (H.put k ob').famOf j = H.famOf j := by
    intro j e; unfold AH.famOf; rw [AH.gpt,if_neg e]
   have hln : ∀ j,j ≠ k → (H.put k ob').lenOf j = H.lenOf j := by
    intro j e; unfold AH.lenOf; rw [AH.gpt,if_neg e]
   rw [hf j hjk,hf l hlk,hln j hjk,hln l hlk]
   exact h.dis j l pj pl hj hl hlt (hlv j a) (hlv l b) hb
 ·refine ⟨.refl σ,Nat.le_refl _,fun _ _ => rfl,by simp,fun b hb hpr => ?_,fun b l hl => ?_⟩
  ·have hbne : b ≠ p.b := by
    rintro rfl
    rcases hpr k p hk rfl with x | x
    ·exact x hlive
    ·unfold AH.roOf at x; rw [hg] at x
     cases ob with
     | cells => exact hnc _ _ _ _ _ _ _ rfl
     | _ => exact x
   refine ⟨hblk b hbne,fun j q hj hq => ?_⟩
   rcases hpr j q hj hq with x | x
   ·exact .inl fun y => x (hlv j y)
   ·refine .inr ?_
    unfold AH.roOf at *
    rw [AH.gpt]; by_cases e : j = k
    ·subst e; rw [hk] at hj; cases hj; exact absurd hq.symm hbne
    ·rw [if_neg e]; exact x
  ·by_cases e : b = p.b
   ·subst e; rw [hc] at hl; cases hl
    obtain ⟨l',rfl⟩ := hloop l rfl
    exact ⟨l',by simp [hpb]⟩
   ·exact ⟨l,(hblk b e).trans hl⟩
theorem run_setObj {r : Nat} {ob ob' : Obj} (h : w.heap[r]? = some ob) (hnc : ∀ c t f,ob ≠ .cells c t f) : (setObj r ob').run P w = .ok () { w with heap := w.heap.setIfInBounds r ob' } := by
 simp only [setObj,Sem.run,h]
theorem run_getObj {r : Nat} {ob : Obj} (h : w.heap[r]? = some ob) (hnc : ∀ c t f,ob ≠ .cells c t f) : (getObj r).run P w = .ok ob w := by
 simp only [getObj,Sem.run,h]
theorem ok_rangeStr (cx : Cx gl P σ H w e a) {t : TypeId} {x : Operand} (hop : o.op = .range t x) (ht : P.underlying t = some .string) (hok : (IOp.rangeStr (cArg x)).ok gl = true) (hev : ev inv e H (.rangeStr (cArg x)) = some (.ret v,H')) :
  OpOk gl P σ H w ((execOp a.eval o).run P w) v H' q := by
 simp only [ev] at hev
 cases hx : Den.ea e (cArg x) with
 | none => rw [hx] at hev; cases hev
 | some p =>
  rw [hx] at hev
  have hr := cx.ea (agk hok (by simp [IOp.args])) hx
  cases p with
  | string s =>
   cases hev
   obtain ⟨hA,hB⟩ := cx.hr.alloc (o := .iter s 0) (co := .stringIter s 0) (room := 0) (esz := 0) (fun _ => .inr trivial) (fun _ _ _ _ _ _ _ h => by cases h) (fun _ _ _ _ _ _ _ h => by cases h) (fun σ' hs => by
    unfold ObjOk; rw [AH.gpu,if_pos rfl]; exact ⟨rfl,by simp⟩)
   refine ⟨_,_,{ w with heap := w.heap.push (.stringIter s 0) },.inl (exec_v (s := Instr.range t (a.eval x)) (by simp [execOp,hop]) ?_),VR.newPtr cx.hr,hA,.of hB,fun _ => .push rfl⟩
   simp [Instr.range,ruX ht,hr.string_inv]
  | _ => cases hev
theorem ok_nextStr (cx : Cx gl P σ H w e a) {x : Operand} (hop : o.op = .next x true) (hok : (IOp.nextStr (cArg x)).ok gl = true) (hev : ev inv e H (.nextStr (cArg x)) = some (.ret v,H')) (hq : q = true → abO o.op = true) :
  OpOk gl P σ H w ((execOp a.eval o).run P w) v H' q := by
 have hxo := fun v h => cx.ea (x := x) (v := v) (agk hok (by simp [IOp.args])) h
 simp only [ev] at hev
 split at hev
 ·rename_i r e1
  obtain ⟨k,of,pl,he,hk,hc⟩ := (hxo _ e1).ptr_inv
  cases he
  cases hg : H.get r with
  | none => rw [hg] at hev; cases hev
  | some ob =>
   rw [hg] at hev
   cases ob with
   | iter s pos =>
    have hob := cx.hr.obj _ _ hk
    unfold ObjOk at hob
    rw [hg] at hob
    obtain ⟨hb0,hblk⟩ := hob
    rw [hb0] at hc
    simp only at hev
    cases hb : Nat.ble (pos + 1) s.size with
    | true =>
     rw [hb] at hev
     rw [Nat.ble_eq] at hb
     obtain ⟨rfl,rfl⟩ := o1s hev
     obtain ⟨hA,hB⟩ := cx.hr.setObj (ob' := .iter s (pos + (Utf8.decode s pos).2)) (co' := .stringIter s (pos + (Utf8.decode s pos).2)) hk hg (fun _ _ _ _ _ _ _ h => by cases h) (fun h => by cases h) (fun _ _ _ _ _ _ _ h => by cases h) hblk (fun _ h => by cases h) (by
      unfold ObjOk; rw [AH.gpt,if_pos rfl]; exact ⟨hb0,by simp [(cx.hr.sig _ _ hk).2]⟩)
     refine ⟨σ,.tuple #[.bool true,goInt pos,.int .i32 (Utf8.decode s pos).1],{ w with heap := w.heap.setIfInBounds pl.b (.stringIter s (pos + (Utf8.decode s pos).2)) },.inl (exec_v (s := Instr.next (a.eval x) true o.type) (by simp [execOp,hop]) ?_),VR.tuple_iff.2 ⟨_,rfl,.cons (.bool _) (.cons (.int _ _) (.cons (.int _ _) .nil))⟩,hA,.of hB,abO_no hq (by rw [hop]; rfl)⟩
     rw [hc]
     unfold Instr.next
     simp only [Nat.add_zero,Sem.run_bind,run_getObj hblk (fun _ _ _ h => by cases h),Result.andThen_ok]
     rw [if_pos (by omega)]
     simp [run_setObj hblk (fun _ _ _ h => by cases h)]
    | false =>
     rw [hb] at hev
     obtain ⟨rfl,rfl⟩ := o1s hev
     refine OpOk.quiet cx.hr (c := .tuple #[.bool false]) (exec_v (s := Instr.next (a.eval x) true o.type) (by simp [execOp,hop]) ?_) (VR.tuple_iff.2 ⟨_,rfl,.cons (.bool _) .nil⟩)
     rw [hc]
     unfold Instr.next
     simp only [Nat.add_zero,Sem.run_bind,run_getObj hblk (fun _ _ _ h => by cases h),Result.andThen_ok]
     have hnb : ¬ (pos + 1 ≤ s.size) := by rw [← Nat.ble_eq,hb]; simp
     rw [if_neg (by omega)]
     simp
   | _ => cases hev
 ·cases hev
end Go.Den
/- Den, part M: append, copy, clear, bytes, maps. -/
namespace Go.Den
variable {gl : Nat → Bool} {P : Program} {σ : Ren} {H H' : AH} {w : World} {inv : Inv} {e : Env} {a : Act} {o : Oper} {v : Value} {q : Bool}
theorem extract_full (s : ByteArray) : s.extract 0 s.size = s := by
 apply ByteArray.ext
 simp [ByteArray.extract,ByteArray.copySlice]
theorem src_ok (h : HR gl P σ H w.heap) {x c : Value} {size m : Nat} {new : List Value} (hr : VR σ x c) (hs : srC H size x = some (new,m)) :
  (∀ w' : World,(Builtin.lenOf c).run P w' = .ok m w') ∧ new.length = m * size ∧ ∃ cn : Array Value,VL σ new cn.toList ∧ ∀ w' : World,w'.heap = w.heap → (Builtin.firstCells size m c).run P w' = .ok cn w' := by
 unfold srC at hs
 cases x with
 | slice ad n cap =>
  cases ad with
  | none =>
   obtain ⟨rfl,rfl,rfl⟩ := hr.sliceNil_inv
   simp at hs
   obtain ⟨rfl,rfl⟩ := hs
   exact ⟨fun _ => rfl,by simp,#[],.nil,fun _ _ => by simp [Builtin.firstCells]⟩
  | some ad =>
   rcases hr.slice_inv with ⟨k,of,pl,xx,capc,rfl,hk,rfl,hd1,hd2,hd3⟩ | ⟨rfl,rfl,hsp,a9,rfl⟩
   case inr =>
    simp only [hsp,beq_self_eq_true,Bool.and_self,cond_true,Option.some.injEq,Prod.mk.injEq] at hs
    obtain ⟨rfl,rfl⟩ := hs
    exact ⟨fun _ => rfl,by simp,#[],.nil,fun _ _ => by simp [Builtin.firstCells,loadCells,loadCellsFrom]⟩
   simp only [Option.isSome_none,Bool.false_and,cond_false] at hs
   cases hrow : H.row k with
   | none => rw [hrow] at hs; cases hs
   | some cs =>
    rw [hrow] at hs
    simp only [Option.isNone_none,Bool.true_and] at hs
    cases hb : Nat.ble (of + n * size) cs.length with
    | false => rw [hb] at hs; cases hs
    | true =>
     rw [hb] at hs
     simp only [cond_true,Option.some.injEq,Prod.mk.injEq] at hs
     obtain ⟨rfl,rfl⟩ := hs
     rw [Nat.ble_eq] at hb
     obtain ⟨t,ro,ex,root,thr,tip,hg,hlive,⟨ccs,t2,lo,hi,hc,hat⟩,_⟩ := h.row hk hrow
     have hfit := hat.fits
     refine ⟨fun _ => rfl,by simp; omega, ?_⟩
     by_cases hx : xx = pl.base + of
     ·subst hx
      refine ⟨((ccs.toList.drop (pl.base + of)).take (n * size)).toArray, ?_,fun w' hw => by unfold Builtin.firstCells; exact run_loadCells (hw ▸ hc) (by omega)⟩
      have := (hat.vals.drop of).take (n * size)
      simp only [List.drop_take,List.take_take,List.drop_drop] at this
      rw [Nat.min_eq_left (by omega)] at this
      exact this
     ·have hcz := hd1.resolve_left hx
      have hn0 : n = 0 := by rcases hd2 with h | h <;> omega
      subst hn0
      refine ⟨#[], ?_,fun w' _ => by simp [Builtin.firstCells,loadCells,loadCellsFrom]⟩
      simp; exact .nil
 | string s =>
  rw [hr.string_inv]
  simp only at hs
  cases hb : (size == 1) with
  | false => rw [hb] at hs; cases hs
  | true =>
   rw [hb] at hs
   simp only [cond_true,Option.some.injEq,Prod.mk.injEq] at hs
   obtain ⟨rfl,rfl⟩ := hs
   have hb : size = 1 := by simpa using hb
   subst hb
   refine ⟨fun _ => rfl,by rw [List.length_map,Array.length_toList,Nat.mul_one]; rfl,(s.extract 0 s.size).data.map fun b => .int .u8 b.toNat, ?_,fun _ _ => rfl⟩
   rw [extract_full]
   simp only [Array.toList_map]
   refine F2.of_get (by simp) fun i x y hx hy => ?_
   rw [hx] at hy; cases hy
   simp only [List.getElem?_map,Option.map_eq_some_iff] at hx
   obtain ⟨b,_,rfl⟩ := hx
   exact .int _ _
 | _ => simp at hs
theorem nextcap_le (need cap : Nat) (h : cap < need) : Builtin.nextslicecap need cap ≤ 2 * need + 1000 := by
 have hgrow : ∀ (r c : Nat),c ≤ 2 * need + 1000 → Builtin.growBy need r c ≤ 2 * need + 1000 := by
  intro r
  induction r with
  | zero => intro c hc; simpa [Builtin.growBy] using hc
  | succ r ih =>
   intro c hc
   simp only [Builtin.growBy]
   split
   ·exact hc
   ·rename_i hlt
    exact ih _ (by omega)
 unfold Builtin.nextslicecap
 split
 ·omega
 ·split
  ·omega
  ·exact hgrow 4 cap (by omega)
theorem zeroCells_size (z : Array Value) (n : Nat) : (Builtin.zeroCells z n).size = n * z.size := by simp [Builtin.zeroCells]
theorem run_append_room' {t u el ty : TypeId} {du : TypeDesc} {n m len sCap : Nat} {base : Option Addr} {c : Value} {cn : Array Value} (ht : P.underlying t = some (.slice el)) (hu : P.underlying u = some du) (hdu : (∃ e',du = .slice e') ∨ du = .string) (hn : szOf P el = some n)
  (hlen : ∀ w : World,(Builtin.lenOf c).run P w = .ok m w) (hc : (Builtin.firstCells n m c).run P w = .ok cn w) (hroom : len + m ≤ sCap) :
  (Builtin.append_ #[t,u] ty #[.slice base len sCap,c]).run P w = (match base with
   | none => .ok (.slice base (len + m) sCap) w
   | some ad => ((storeCells (ad.add (len * n)) cn.toList).run P w).andThen fun _ w' => .ok (.slice base (len + m) sCap) w') := by
 rcases hdu with ⟨e',rfl⟩ | rfl <;> cases base <;>
  simp [Builtin.append_,ruX ht,ruX hu,rsX hn,hlen,hroom,hc]
theorem run_append_grow' {t u el ty : TypeId} {du : TypeDesc} {i : TypeInfo} {z : Value} {n m len sCap : Nat} {base : Option Addr} {c : Value} {co cn : Array Value} (ht : P.underlying t = some (.slice el)) (hu : P.underlying u = some du) (hdu : (∃ e',du = .slice e') ∨ du = .string) (hn : szOf P el = some n)
  (hi : P.info? el = some i) (hz : zeroOf P el = some z) (hlen : ∀ w : World,(Builtin.lenOf c).run P w = .ok m w)
  (ho : ∀ w' : World,w'.heap = w.heap → (Builtin.firstCells n len (.slice base len sCap)).run P w' = .ok co w') (hc : ∀ w' : World,w'.heap = w.heap → (Builtin.firstCells n m c).run P w' = .ok cn w')
  (hroom : ¬ (len + m ≤ sCap)) (h63 : ((len + m : Nat) : Int) ≤ 9223372036854775807) (hfit : Builtin.nextslicecap (len + m) sCap * i.bytes ≤ 281474976710656) :
  ∃ newCap w',len + m ≤ newCap ∧ w'.heap = w.heap.push (.cells (co ++ cn ++ Builtin.zeroCells z.cells (newCap - (len + m))) el) ∧
   (Builtin.append_ #[t,u] ty #[.slice base len sCap,c]).run P w = .ok (.slice (some ⟨w.heap.size,0,none⟩) (len + m) newCap) w' ∧ w'.os = w.os ∧ w'.output = w.output := by
 have h63' : ¬ (9223372036854775807 < ((len : Int) + (m : Int))) := by omega
 have h48' : ¬ (281474976710656 < Builtin.nextslicecap (len + m) sCap * i.bytes) := by omega
 have ho1 := ho w.drew rfl
 have hc1 := hc w.drew rfl
 refine ⟨Question.cut (.appendCap (len + m) sCap el) (w.tape w.drawn (.appendCap (len + m) sCap el)),w.drew.alloc (.cells (co ++ cn ++ Builtin.zeroCells z.cells (Question.cut (.appendCap (len + m) sCap el) (w.tape w.drawn (.appendCap (len + m) sCap el)) - (len + m))) el),by simp [Question.cut],rfl, ?_,rfl,rfl⟩
 rcases hdu with ⟨e',rfl⟩ | rfl <;>
  simp [Builtin.append_,ruX ht,ruX hu,rsX hn,hlen,hroom,h63',h48',run_typeInfo' hi,Question.forced,ho1,hc1,run_zeroValue' hz,newRow]
theorem ok_append (cx : Cx gl P σ H w e a) {t el u : TypeId} {du : TypeDesc} {n by_ : Nat} {z : Value} {x y : Operand} (hop : o.op = .call ⟨.builtin .append,#[x,y],#[t,u]⟩)
  (ht : P.underlying t = some (.slice el)) (hu : P.underlying u = some du) (hdu : (∃ e',du = .slice e') ∨ du = .string) (hn : szOf P el = some n) (hb : bytesOf' P el = some by_) (hz : zeroOf P el = some z) (hnz : n = (vcl z).length)
  (hok : (IOp.append el n by_ (cArg x) (cArg y)).ok gl = true) (hev : ev inv e H (.append el n by_ (cArg x) (cArg y)) = some (.ret v,H')) (hq : q = true → abO o.op = true) : OpOk gl P σ H w ((execOp a.eval o).run P w) v H' q := by
 have hxo := fun v h => cx.ea (x := x) (v := v) (agk hok (by simp [IOp.args])) h
 have hyo := fun v h => cx.ea (x := y) (v := v) (agk hok (by simp [IOp.args])) h
 obtain ⟨i,hi,hib⟩ : ∃ i,P.info? el = some i ∧ i.bytes = by_ := by
  unfold bytesOf' at hb
  cases hii : P.info? el with
  | none => rw [hii] at hb; cases hb
  | some i => rw [hii] at hb; exact ⟨i,rfl,by simpa using hb⟩
 have hzs : z.cells.size = n := by rw [vcells_toList] at hnz; simpa using hnz.symm
 obtain ⟨cons,hcons⟩ := exec_builtin (a := a) hop
 have hexec : ∀ c w',(Builtin.append_ #[t,u] o.type #[a.eval x,a.eval y]).run P w = .ok c w' → (execOp a.eval o).run P w = .ok (.value c) w' := by
  intro c w' h
  rw [hcons]; simp [builtin,h]
 simp only [ev] at hev
 split at hev
 ·rename_i sv xv e1 e2
  have hs := hxo _ e1
  have hx := hyo _ e2
  unfold appendV at hev
  cases hsrc : srC H n xv with
  | none => rw [hsrc] at hev; cases hev
  | some nm =>
   obtain ⟨new,m⟩ := nm
   rw [hsrc] at hev
   simp only at hev
   obtain ⟨hlen,hnl,cn,hvn,hcw⟩ := src_ok (P := P) cx.hr hx hsrc
   have hcn := hcw w rfl
   cases sv with
   | slice base len cap =>
    simp only at hev
    cases hcap : Nat.ble (len + m) cap with
    | true =>
     rw [hcap] at hev
     rw [Nat.ble_eq] at hcap
     simp only [cond_true] at hev
     cases base with
     | none =>
      obtain ⟨rfl,rfl,hc⟩ := hs.sliceNil_inv
      have hm0 : m = 0 := by omega
      subst hm0
      simp only [beq_self_eq_true,cond_true] at hev
      obtain ⟨rfl,rfl⟩ := o1s hev
      refine OpOk.quiet cx.hr (c := .slice none 0 0) (hexec _ _ ?_) .sliceNil
      rw [hc,run_append_room' ht hu hdu hn hlen hcn (by omega)]
     | some ad =>
      rcases hs.slice_inv with ⟨k,of,pl,xx,capc,rfl,hk,hc,hd1,hd2,hd3⟩ | ⟨rfl,rfl,hsp,a9,hc⟩
      case inr =>
       have hm0 : m = 0 := by omega
       subst hm0
       simp only [beq_self_eq_true,cond_true] at hev
       obtain ⟨rfl,rfl⟩ := o1s hev
       have hcn0 : cn.toList = [] := by
        have := hvn.length; rw [hnl] at this; simpa using this.symm
       refine OpOk.quiet cx.hr (c := .slice (some a9) (0 + 0) 0) (hexec _ _ ?_) (.sliceE hsp)
       rw [hc,run_append_room' ht hu hdu hn hlen hcn (by omega)]
       simp [hcn0,storeCells]
      have hcc : cap ≤ capc := by rcases hd2 with h | h <;> omega
      simp only at hev
      by_cases hm0 : m = 0
      ·subst hm0
       simp only [beq_self_eq_true,cond_true] at hev
       obtain ⟨rfl,rfl⟩ := o1s hev
       have hcn0 : cn.toList = [] := by
        have := hvn.length; rw [hnl] at this; simpa using this.symm
       refine OpOk.quiet cx.hr (c := .slice (some ⟨pl.b,xx,none⟩) (len + 0) capc) (hexec _ _ ?_) (VR.slice hk hd1 hd2 (by omega))
       rw [hc,run_append_room' ht hu hdu hn hlen hcn (by omega)]
       simp [hcn0,storeCells]
      ·have hmb : (m == 0) = false := by simpa using hm0
       rw [hmb] at hev
       simp only [cond_false] at hev
       cases hrow : H.row k with
       | none => rw [hrow] at hev; cases hev
       | some cs =>
        rw [hrow] at hev
        simp only [Option.isNone_none,Bool.true_and] at hev
        cases hcnd : (Nat.ble (of + len * n + new.length) cs.length && new.all one) with
        | false => rw [hcnd] at hev; cases hev
        | true =>
         rw [hcnd] at hev
         simp only [Bool.and_eq_true,Nat.ble_eq] at hcnd
         simp only [cond_true] at hev
         cases hw : H.write k (splice cs (of + len * n) new) with
         | none => rw [hw] at hev; cases hev
         | some H1 =>
          rw [hw] at hev
          obtain ⟨rfl,rfl⟩ := o1s hev
          have hxx : xx = pl.base + of := hd1.resolve_right (by omega)
          subst hxx
          obtain ⟨w',q1,q2,q3⟩ := run_write (P := P) cx.hr hk hrow hcnd.1 hw hvn hcnd.2
          refine ⟨σ,.slice (some ⟨pl.b,pl.base + of,none⟩) (len + m) capc,w',.inl (hexec _ _ ?_),VR.slice hk hd1 hd2 (by omega),q2,q3,abO_no hq (by rw [hop]; rfl)⟩
          rw [hc,run_append_room' ht hu hdu hn hlen hcn (by omega)]
          simp only [add_addr]
          rw [Nat.add_assoc,q1]; rfl
    | false =>
     rw [hcap] at hev
     have hcap' : ¬ (len + m ≤ cap) := by rw [← Nat.ble_eq,hcap]; simp
     simp only [cond_false] at hev
     cases hsz : Nat.ble ((2 * (len + m) + 1000) * (by_ + 1)) 281474976710656 with
     | false => rw [hsz] at hev; cases hev
     | true =>
      rw [hsz] at hev
      rw [Nat.ble_eq] at hsz
      simp only [cond_true] at hev
      have hsz2 : (2 * (len + m) + 1000) * by_ ≤ 281474976710656 := Nat.le_trans (Nat.mul_le_mul_left _ (by omega)) hsz
      have hsz3 : 2 * (len + m) + 1000 ≤ 281474976710656 := Nat.le_trans (Nat.le_mul_of_pos_right _ (by omega)) hsz
      have hfit : ∀ sCap,sCap < len + m → Builtin.nextslicecap (len + m) sCap * i.bytes ≤ 281474976710656 := fun sCap hlt => by
       rw [hib]; exact Nat.le_trans (Nat.mul_le_mul_right _ (nextcap_le _ _ hlt)) hsz2
      -- a new block
      have halloc : ∀ (base : Option Addr) (sCap : Nat) (old : List Value) (co : Array Value),a.eval x = .slice base len sCap → sCap < len + m → 1 ≤ n → old.length = len * n → VL σ old co.toList →
        (∀ w' : World,w'.heap = w.heap → (Builtin.firstCells n len (.slice base len sCap)).run P w' = .ok co w') →
        ∃ newCap w' ccs,len + m ≤ newCap ∧ w'.heap = w.heap.push (.cells ccs el (0,0)) ∧ (execOp a.eval o).run P w = .ok (.value (.slice (some ⟨w.heap.size,0,none⟩) (len + m) newCap)) w' ∧
         VL σ (old ++ new) (ccs.toList.take (old ++ new).length) ∧ (old ++ new).length ≤ ccs.size ∧ newCap * n ≤ ccs.size ∧ w'.os = w.os ∧ w'.output = w.output := by
       intro base sCap old co hxe hlt hn1 hol hvo hof
       obtain ⟨newCap,w',g1,g2,g3,g8,g9⟩ := run_append_grow' (P := P) (ty := o.type) (w := w) ht hu hdu hn hi hz hlen hof hcw (by omega) (by omega) (hfit _ hlt)
       have hco := hvo.length
       have hcnl := hvn.length
       have hzc : (Builtin.zeroCells z.cells (newCap - (len + m))).size = (newCap - (len + m)) * n := by rw [zeroCells_size,hzs]
       have hol' : co.size = len * n := by simp at hco; omega
       have hcn' : cn.size = m * n := by simp at hcnl; omega
       refine ⟨newCap,w',_,g1,g2,hexec _ _ (by rw [hxe]; exact g3), ?_, ?_, ?_,g8,g9⟩
       ·have : (co ++ cn ++ Builtin.zeroCells z.cells (newCap - (len + m))).toList.take (old ++ new).length = (co ++ cn).toList := by
         rw [Array.toList_append,List.take_append_of_le_length (by simp; omega),List.take_of_length_le (by simp; omega)]
        rw [this,Array.toList_append]
        exact hvo.append hvn
       ·simp; omega
       ·simp only [Array.size_append,hzc,hol',hcn',← Nat.add_mul]
        exact Nat.mul_le_mul_right _ (by omega)
      cases base with
      | none =>
       obtain ⟨rfl,rfl,hc⟩ := hs.sliceNil_inv
       simp only at hev
       cases hcn1 : ((0 : Nat) == 0 && Nat.ble 1 n) with
       | false => rw [hcn1] at hev; cases hev
       | true =>
        rw [hcn1] at hev
        simp only [cond_true,Option.some.injEq,Prod.mk.injEq,Out.ret.injEq] at hev
        obtain ⟨rfl,rfl⟩ := hev
        simp only [Bool.and_eq_true,Nat.ble_eq] at hcn1
        obtain ⟨newCap,w',ccs,g1,g2,g3,g4,g5,g6,g8,g9⟩ := halloc none 0 [] #[] hc (by omega) hcn1.2 (by simp) .nil (fun w' _ => by simp [Builtin.firstCells])
        simp only [List.nil_append] at g4 g5
        obtain ⟨hA,hB⟩ := cx.hr.pushRoot (t := el) (lo := 0) (hi := 0) (esz := n) g4 g5 hcn1.2 hn (by omega)
        refine ⟨_,_,w',.inl g3, ?_,g2 ▸ hA,⟨g2 ▸ hB,g8,g9⟩,abO_no hq (by rw [hop]; rfl)⟩
        exact VR.slice (p := ⟨w.heap.size,0,ccs.size,n⟩) (Ren.add_self _ _ _) (.inl rfl) (.inr ⟨hcn1.2,g1,by simpa using g6⟩) (Nat.le_refl _)
      | some ad =>
       rcases hs.slice_inv with ⟨k,of,pl,xx,capc,rfl,hk,hc,hd1,hd2,hd3⟩ | ⟨rfl,rfl,hsp,a9,hc⟩
       case inr =>
        have hsn : ad.spot.isNone = false := by cases h : ad.spot <;> simp [h] at hsp ⊢
        simp only [hsn,Bool.false_and,cond_false] at hev
        cases hrow : H.row ad.block <;> rw [hrow] at hev <;> cases hev
       simp only at hev
       cases hrow : H.row k with
       | none => rw [hrow] at hev; cases hev
       | some cs =>
        rw [hrow] at hev
        simp only [Option.isNone_none,Bool.true_and] at hev
        cases hcnd : (Nat.ble (of + len * n) cs.length && Nat.ble 1 n && new.all one) with
        | false => rw [hcnd] at hev; cases hev
        | true =>
         rw [hcnd] at hev
         simp only [Bool.and_eq_true,Nat.ble_eq] at hcnd
         obtain ⟨hcnd,hone⟩ := hcnd
         simp only [cond_true] at hev
         cases hw : H.grow k (Nat.beq (of + len * n) cs.length && Nat.beq len cap) el ((cs.drop of).take (len * n) ++ new) with
         | none => rw [hw] at hev; cases hev
         | some H1 =>
          rw [hw] at hev
          obtain ⟨rfl,rfl⟩ := o1s hev
          obtain ⟨t9,ro,ex,root,thr,tip,hg,hlive,⟨ccs0,t2,lo,hi9,hcc,hat⟩,_⟩ := cx.hr.row hk hrow
          have hfits := hat.fits
          have hold : srC H n (.slice (some ⟨k,of,none⟩) len cap) = some ((cs.drop of).take (len * n),len) := by
           unfold srC
           simp only [hrow,Option.isNone_none,Bool.true_and,Option.isSome_none,Bool.false_and,cond_false]
           rw [show Nat.ble (of + len * n) cs.length = true by rw [Nat.ble_eq]; exact hcnd.1]; rfl
          obtain ⟨_,hol,co,hvo,hof⟩ := src_ok (P := P) cx.hr hs hold
          rw [hc] at hof
          by_cases hroom : len + m ≤ capc
          ·-- in place
           have hesz : 0 < pl.esz ∧ cap ≤ capc ∧ xx + capc * pl.esz ≤ pl.room := by
            rcases hd2 with h | h
            ·omega
            ·exact h
           have hxx : xx = pl.base + of := hd1.resolve_right (by omega)
           subst hxx
           have hoe : ro = false ∧ pl.esz = n := by
            obtain ⟨ics,ro',ex',root',thr',tip',hg',ha',hcase⟩ := AH.grow_cases hw (fun _ _ _ _ _ _ _ hx => cx.hr.fam _ _ _ _ _ _ _ _ hx)
            rw [hg] at hg'; cases hg'
            obtain ⟨y1,y2⟩ := cx.hr.typ _ _ _ _ _ _ _ _ _ hk hg
            rcases hcase with ⟨rfl,_⟩ | ⟨rfl,rfl,_⟩
            ·have := y1 rfl; omega
            ·have := (y2 rfl).2; rw [hn] at this; injection this with this; exact ⟨rfl,this.symm⟩
           obtain ⟨rfl,hesn⟩ := hoe
           rw [hesn] at hesz
           have hroom2 : pl.room = ccs0.size := hat.room
           have hmul : (len + m) * n ≤ capc * n := Nat.mul_le_mul_right _ hroom
           rw [Nat.add_mul] at hmul
           have hcnl := hvn.length
           obtain ⟨ccs',s1,s2⟩ := run_storeCells (P := P) (o := pl.base + of + len * n) cn.toList w 0 ccs0 hcc (by simp at hcnl ⊢; omega) (hat.free rfl) (fun v hv' => by
            obtain ⟨j,hj,rfl⟩ := List.getElem_of_mem hv'
            have hj2 : j < new.length := by omega
            obtain ⟨u1,hu1,hu2⟩ := hvn.get (i := j) (a := new[j]) (by simp [hj2])
            rw [List.getElem?_eq_getElem hj] at hu1; cases hu1
            rw [hu2.one]
            exact List.all_eq_true.1 hone _ (List.getElem_mem hj2))
           rw [Nat.add_zero] at s2
           have hsz' : ccs'.size = ccs0.size := by
            have := congrArg List.length s2
            rw [splice_length _ _ _ (by simp at hcnl ⊢; omega)] at this
            simpa using this
           have hdt : ((ccs'.toList.drop (pl.base + of)).take ((cs.drop of).take (len * n) ++ new).length) = (ccs0.toList.drop (pl.base + of)).take (len * n) ++ cn.toList := by
            rw [s2]
            unfold splice
            rw [List.append_assoc,List.drop_append_of_le_length (by simp; omega),List.drop_take,show pl.base + of + len * n - (pl.base + of) = len * n by omega]
            have hl1 : ((ccs0.toList.drop (pl.base + of)).take (len * n)).length = len * n := by simp; omega
            have hl2 : ((cs.drop of).take (len * n) ++ new).length = len * n + cn.toList.length := by
             rw [List.length_append,hol,hcnl]
            rw [hl2,List.take_append,hl1,List.take_of_length_le (by omega),Nat.add_sub_cancel_left,List.take_append_of_le_length (Nat.le_refl _),List.take_of_length_le (Nat.le_refl _)]
           have hvall : VL σ ((cs.drop of).take (len * n) ++ new) ((ccs'.toList.drop (pl.base + of)).take ((cs.drop of).take (len * n) ++ new).length) := by
            rw [hdt]
            refine F2.append ?_ hvn
            have := (hat.vals.drop of).take (len * n)
            simp only [List.drop_take,List.take_take,List.drop_drop] at this
            rw [Nat.min_eq_left (by omega)] at this
            exact this
           have hll : ((cs.drop of).take (len * n) ++ new).length = len * n + m * n := by rw [List.length_append,hol,hnl]
           obtain ⟨hA,hB⟩ := cx.hr.growHere (t' := t2) (lo := lo) (hi := hi9) (off := pl.base + of + len * n) (x := pl.base + of) (ccs := ccs0) (ccs' := ccs') hk ⟨cs,hrow,fun h => by
            simp only [Bool.and_eq_true] at h
            have := Nat.eq_of_beq_eq_true h.1; omega⟩ hw (by omega) hcc hsz' (fun j hj => by
            rw [← Array.getElem?_toList,s2,← Array.getElem?_toList]
            unfold splice
            rw [List.append_assoc,List.getElem?_append_left (by simp; omega),List.getElem?_take,if_pos hj]) (hat.free rfl) hroom2 hvall (by rw [hll]; omega) (by rw [hll]; omega)
           refine ⟨_,.slice (some ⟨pl.b,pl.base + of,none⟩) (len + m) capc,{ w with heap := w.heap.setIfInBounds pl.b (.cells ccs' t2 (lo,hi9)) },.inl (hexec _ _ ?_), ?_,hA,.of hB,abO_no hq (by rw [hop]; rfl)⟩
           ·rw [hc,run_append_room' ht hu hdu hn hlen hcn hroom]
            simp only [add_addr]
            rw [s1]; rfl
           ·exact VR.slice (p := ⟨pl.b,pl.base + of,pl.room,pl.esz⟩) (Ren.add_self _ _ _) (.inl rfl) (.inr ⟨by simp only [hesn]; omega,hroom,by simp only [hesn]; exact hesz.2.2⟩) (Nat.le_refl _)
          ·obtain ⟨newCap,w',ccs,g1,g2,g3,g4,g5,g6,g8,g9⟩ := halloc _ capc _ co hc (by omega) hcnd.2 hol hvo hof
           obtain ⟨hA,hB⟩ := cx.hr.growAlloc (t := el) (lo := 0) (hi := 0) (esz := n) hw g4 g5 hcnd.2 hn (by omega)
           refine ⟨_,_,w',.inl g3, ?_,g2 ▸ hA,⟨g2 ▸ hB,g8,g9⟩,abO_no hq (by rw [hop]; rfl)⟩
           exact VR.slice (p := ⟨w.heap.size,0,ccs.size,n⟩) (Ren.add_self _ _ _) (.inl rfl) (.inr ⟨hcnd.2,g1,by simpa using g6⟩) (Nat.le_refl _)
   | _ => cases hev
 ·cases hev
end Go.Den
/- Den, part N: copy, clear, bytes, maps. -/
namespace Go.Den
variable {gl : Nat → Bool} {P : Program} {σ : Ren} {H H' : AH} {w : World} {inv : Inv} {e : Env} {a : Act} {o : Oper} {v : Value} {q : Bool}
theorem keyOk_eq {kk : KeyK} {k c : Value} (hr : VR σ k c) (h : keyOk kk k = true) : c = k := by
 cases kk <;> cases k <;> simp [keyOk] at h
 ·exact hr.int_inv
 ·exact hr.string_inv
 ·exact hr.bool_inv
def kkT : KeyK → TypeDesc → Prop
 | .int,.int _ | .str,.string | .bool,.bool => True
 | _,_ => False
theorem sameNow_of {kk : KeyK} {d : TypeDesc} (hd : kkT kk d) {x y : Value} {r : Bool} (h : keyEq kk x y = some r) : Instr.sameNow d x y = some r := by
 cases kk <;> cases d <;> simp only [kkT] at hd <;> cases x <;> cases y <;> simp [keyEq] at h <;> simp [Instr.sameNow,h]
theorem keyEq_atom {kk : KeyK} {x y cy : Value} {r : Bool} (h : keyEq kk x y = some r) (hr : VR σ y cy) : cy = y := by
 cases kk <;> cases x <;> cases y <;> simp [keyEq] at h
 ·exact hr.int_inv
 ·exact hr.string_inv
 ·exact hr.bool_inv
theorem findNow_of {kk : KeyK} {d : TypeDesc} (hd : kkT kk d) {k : Value} : ∀ {es ces : List MapEntry} {i : Nat} {r : Option (Nat × Value)},F2 (ER σ) es ces → findKeyL kk k es i = some r →
  ∃ cr,Instr.findNow d k ces i = some cr ∧ ((r = none ∧ cr = none) ∨ ∃ j v c,r = some (j,v) ∧ cr = some (j,c) ∧ VR σ v c ∧ i ≤ j ∧ j < i + es.length ∧ ∃ e,es[j - i]? = some e ∧ keyEq kk k e.key = some true) := by
 intro es ces i r h
 induction h generalizing i with
 | nil => intro hf; simp [findKeyL] at hf; subst hf; exact ⟨none,rfl,.inl ⟨rfl,rfl⟩⟩
 | cons he _ ih =>
  rename_i x y xs ys _
  intro hf
  simp only [findKeyL] at hf
  cases hk : keyEq kk k x.key with
  | none => rw [hk] at hf; cases hf
  | some b =>
   rw [hk] at hf
   have hkey := keyEq_atom hk he.key
   have hs := sameNow_of hd hk
   cases b with
   | true =>
    simp only [Option.some.injEq] at hf; subst hf
    exact ⟨some (i,y.val),by simp [Instr.findNow,hkey,hs],.inr ⟨i,x.val,y.val,rfl,rfl,he.val,Nat.le_refl _,by simp,x,by simp,hk⟩⟩
   | false =>
    obtain ⟨cr,h1,h2⟩ := ih hf
    refine ⟨cr,by simp [Instr.findNow,hkey,hs,h1], ?_⟩
    rcases h2 with h2 | ⟨j,v,c,e1,e2,e3,e4,e5,e6,e7,e8⟩
    ·exact .inl h2
    ·refine .inr ⟨j,v,c,e1,e2,e3,by omega,by simp; omega,e6, ?_,e8⟩
     rw [show j - i = (j - (i + 1)) + 1 by omega]; simpa using e7
theorem run_checkKey' {kk : KeyK} {d : TypeDesc} {kt : TypeId} (hk : P.underlying kt = some d) (hd : kkT kk d) (em : Bool) (k : Value) (w : World) (n : Nat) : (Instr.checkKey em (n + 1) kt k).run P w = .ok () w := by
 cases kk <;> cases d <;> simp only [kkT] at hd <;> simp [Instr.checkKey,ruX hk]
theorem run_findKey' {d : TypeDesc} {kt : TypeId} {k : Value} {ces : List MapEntry} {r : Option (Nat × Value)} (hk : P.underlying kt = some d) (h : Instr.findNow d k ces 0 = some r) (w : World) : (Instr.findKey kt k ces).run P w = .ok r w := by
 simp [Instr.findKey,ruX hk,h]
theorem ok_lookup (cx : Cx gl P σ H w e a) {t kt el : TypeId} {d : TypeDesc} {kk : KeyK} {z : Value} {ok : Bool} {x y : Operand} (hop : o.op = .lookup t x y ok) (ht : P.underlying t = some (.map kt el)) (hk : P.underlying kt = some d) (hd : kkT kk d) (hz : zeroOf P el = some z)
  (hok : (IOp.lookup kk z ok (cArg x) (cArg y)).ok gl = true) (hev : ev inv e H (.lookup kk z ok (cArg x) (cArg y)) = some (.ret v,H')) : OpOk gl P σ H w ((execOp a.eval o).run P w) v H' q := by
 have hxo := fun v h => cx.ea (x := x) (v := v) (agk hok (by simp [IOp.args])) h
 have hyo := fun v h => cx.ea (x := y) (v := v) (agk hok (by simp [IOp.args])) h
 have hzr : VR σ z z := zero_ok hok (by simp [IOp.zeros])
 simp only [ev] at hev
 split at hev
 ·rename_i m k e1 e2
  have hm := hxo _ e1
  have hkr := hyo _ e2
  cases hmo : mapOf H m with
  | none => rw [hmo] at hev; cases hev
  | some es =>
   rw [hmo] at hev
   simp only at hev
   cases hko : keyOk kk k with
   | false => rw [hko] at hev; cases hev
   | true =>
    rw [hko] at hev
    simp only [cond_true] at hev
    have hke := keyOk_eq hkr hko
    cases hf : findKeyL kk k es 0 with
    | none => rw [hf] at hev; cases hev
    | some r =>
     rw [hf] at hev
     have hck : ∀ em,(Instr.checkKey em 10000 kt k).run P w = .ok () w := fun em => run_checkKey' hk hd em k w 9999
     -- the machine's lookup finds the same
     have hres : ∃ cr,((r = none ∧ cr = none) ∨ ∃ j v c,r = some (j,v) ∧ cr = some (j,c) ∧ VR σ v c) ∧
       (Instr.lookup t (a.eval x) (a.eval y) ok).run P w = (match cr with
        | some (_,c) => .ok (if ok then .tuple #[c,.bool true] else c) w
        | none => .ok (if ok then .tuple #[z,.bool false] else z) w) := by
      rcases mapOf_ok cx.hr hm hmo with ⟨_,hc,rfl⟩ | ⟨kb,p,clock,ces,_,hkb,hc,hg,h1,h2⟩
      ·simp [findKeyL] at hf; subst hf
       refine ⟨none,.inl ⟨rfl,rfl⟩, ?_⟩
       have hfk : (Instr.findKey kt k []).run P w = .ok none w := run_findKey' hk (by simp [Instr.findNow]) w
       cases ok <;> simp [Instr.lookup,ruX ht,hc,hke,hck,hfk,run_zeroValue' hz]
      ·obtain ⟨cr,q1,q2⟩ := findNow_of hd h2 hf
       have hgo : (getObj p.b).run P w = .ok (.map ces clock) w := run_getObj h1 (fun _ _ _ h => by cases h)
       have hfk := run_findKey' (P := P) hk q1 w
       rcases q2 with ⟨rfl,rfl⟩ | ⟨j,v',c,rfl,rfl,e3,_⟩
       ·refine ⟨none,.inl ⟨rfl,rfl⟩, ?_⟩
        cases ok <;> simp [Instr.lookup,ruX ht,hc,hke,hck,hgo,hfk,run_zeroValue' hz]
       ·refine ⟨some (j,c),.inr ⟨j,v',c,rfl,rfl,e3⟩, ?_⟩
        cases ok <;> simp [Instr.lookup,ruX ht,hc,hke,hck,hgo,hfk]
     obtain ⟨cr,q2,q3⟩ := hres
     have hex : ∀ c,(Instr.lookup t (a.eval x) (a.eval y) ok).run P w = .ok c w → (execOp a.eval o).run P w = .ok (.value c) w := fun c h => exec_v (by simp [execOp,hop]) h
     rcases q2 with ⟨rfl,rfl⟩ | ⟨j,v',c,rfl,rfl,e3⟩
     ·obtain ⟨rfl,rfl⟩ := o1s hev
      cases ok with
      | true => exact OpOk.quiet cx.hr (hex _ q3) (VR.tuple_iff.2 ⟨_,rfl,.cons hzr (.cons (.bool _) .nil)⟩)
      | false => exact OpOk.quiet cx.hr (hex _ q3) hzr
     ·obtain ⟨rfl,rfl⟩ := o1s hev
      cases ok with
      | true => exact OpOk.quiet cx.hr (hex _ q3) (VR.tuple_iff.2 ⟨_,rfl,.cons e3 (.cons (.bool _) .nil)⟩)
      | false => exact OpOk.quiet cx.hr (hex _ q3) e3
 ·cases hev
theorem F2.modify' {R : MapEntry → MapEntry → Prop} {as bs : List MapEntry} (h : F2 R as bs) {f g : MapEntry → MapEntry} (i : Nat) (hfg : ∀ x y,as[i]? = some x → bs[i]? = some y → R x y → R (f x) (g y)) : F2 R (as.modify i f) (bs.modify i g) := by
 induction h generalizing i with
 | nil => cases i <;> exact .nil
 | cons hab hs ih =>
  cases i with
  | zero => simp only [List.modify_zero_cons]; exact .cons (hfg _ _ rfl rfl hab) hs
  | succ i => simp only [List.modify_succ_cons]; exact .cons hab (ih i fun x y hx hy => hfg x y (by simpa using hx) (by simpa using hy))
theorem ba_beq {a b : ByteArray} (h : (a == b) = true) : a = b := by
 have h1 : (a.data == b.data) = true := h
 exact ByteArray.ext (by simpa using h1)
theorem ba_beq_self (a : ByteArray) : (a == a) = true := by
 show (a.data == a.data) = true
 simp
theorem sameBits_atom {kk : KeyK} {x y : Value} (h : keyEq kk x y = some true) : Instr.sameBits 10000 y x = true := by
 cases kk <;> cases x <;> cases y <;> simp [keyEq] at h
 ·obtain ⟨rfl,rfl⟩ := h; simp [Instr.sameBits]
 ·have := ba_beq h; subst this; simp [Instr.sameBits,ba_beq_self]
 ·subst h; simp [Instr.sameBits]
theorem ok_mapUpdate (cx : Cx gl P σ H w e a) {t kt el : TypeId} {d : TypeDesc} {kk : KeyK} {x y u : Operand} (hop : o.op = .mapUpdate t x y u ∨ o.op = .insert t x y u) (ht : P.underlying t = some (.map kt el)) (hk : P.underlying kt = some d) (hd : kkT kk d)
  (hok : (IOp.mapUpdate kk (cArg x) (cArg y) (cArg u)).ok gl = true) (hev : ev inv e H (.mapUpdate kk (cArg x) (cArg y) (cArg u)) = some (.ret v,H')) (hq : q = true → abO o.op = true) : OpOk gl P σ H w ((execOp a.eval o).run P w) v H' q := by
 have hxo := fun v h => cx.ea (x := x) (v := v) (agk hok (by simp [IOp.args])) h
 have hyo := fun v h => cx.ea (x := y) (v := v) (agk hok (by simp [IOp.args])) h
 have huo := fun v h => cx.ea (x := u) (v := v) (agk hok (by simp [IOp.args])) h
 have hex : ∀ w',(Instr.mapUpdate t (a.eval x) (a.eval y) (a.eval u)).run P w = .ok () w' → (execOp a.eval o).run P w = .ok .skip w' := by
  intro w' h
  rcases hop with h' | h' <;> exact exec_u (by simp [execOp,h']) h
 simp only [ev] at hev
 split at hev
 ·rename_i r k uv e1 e2 e3
  have hm := hxo _ e1
  have hkr := hyo _ e2
  have hur := huo _ e3
  cases hg : H.get r with
  | none => rw [hg] at hev; cases hev
  | some ob =>
   rw [hg] at hev
   cases ob with
   | map es clock =>
    simp only at hev
    have hmo : mapOf H (.map (some r)) = some es := by simp [mapOf,hg]
    rcases mapOf_ok cx.hr hm hmo with ⟨hh,_⟩ | ⟨kb,p,clock',ces,hh,hkb,hc,hg',h1,h2⟩
    ·cases hh
    cases hh
    rw [hg] at hg'; cases hg'
    cases hko : keyOk kk k with
    | false => rw [hko] at hev; cases hev
    | true =>
     rw [hko] at hev
     simp only [cond_true] at hev
     have hke := keyOk_eq hkr hko
     have hkv : VR σ k k := by rw [hke] at hkr; exact hkr
     cases hf : findKeyL kk k es 0 with
     | none => rw [hf] at hev; cases hev
     | some fr =>
      rw [hf] at hev
      have hck : ∀ em,(Instr.checkKey em 10000 kt k).run P w = .ok () w := fun em => run_checkKey' hk hd em k w 9999
      obtain ⟨cr,q1,q2⟩ := findNow_of hd h2 hf
      have hgo : (getObj p.b).run P w = .ok (.map ces clock) w := run_getObj h1 (fun _ _ _ h => by cases h)
      have hfk := run_findKey' (P := P) hk q1 w
      have hpb := (cx.hr.sig _ _ hkb).2
      rcases q2 with ⟨rfl,rfl⟩ | ⟨j,v',c,rfl,rfl,e3',_,hj,en,hen,hkeq⟩
      ·obtain ⟨rfl,rfl⟩ := o1s hev
       obtain ⟨hA,hB⟩ := cx.hr.setObj (ob' := .map (es ++ [{ key := k,val := uv,born := clock }]) (clock + 1)) (co' := .map (ces.push { key := k,val := a.eval u,born := clock }) (clock + 1)) hkb hg (fun _ _ _ _ _ _ _ h => by cases h) (fun h => by cases h) (fun _ _ _ _ _ _ _ h => by cases h) h1 (fun _ h => by cases h) (by
        unfold ObjOk; rw [AH.gpt,if_pos rfl]
        exact ⟨ces.push { key := k,val := a.eval u,born := clock },by simp [hpb],by rw [Array.toList_push]; exact h2.append (.cons ⟨hkv,hur,rfl⟩ .nil)⟩)
       refine ⟨σ,Go.undef,{ w with heap := w.heap.setIfInBounds p.b (.map (ces.push { key := k,val := a.eval u,born := clock }) (clock + 1)) },.inr ⟨hex _ ?_,rfl⟩,VR.undef σ,hA,.of hB,abO_no hq (by rcases hop with h | h <;> rw [h] <;> rfl)⟩
       simp [Instr.mapUpdate,ruX ht,hc,hke,hck,hgo,hfk,run_setObj h1 (fun _ _ _ h => by cases h)]
      ·obtain ⟨rfl,rfl⟩ := o1s hev
       simp only [Nat.zero_add,Nat.sub_zero] at hj hen
       have hces : ∃ cen,ces[j]? = some cen ∧ ER σ en cen := by
        obtain ⟨b,hb1,hb2⟩ := h2.get hen
        rw [Array.getElem?_toList] at hb1; exact ⟨b,hb1,hb2⟩
       obtain ⟨cen,hcen,hcer⟩ := hces
       have hck2 : cen.key = en.key := keyEq_atom hkeq hcer.key
       have hsb : Instr.sameBits 10000 cen.key k = true := by rw [hck2]; exact sameBits_atom hkeq
       obtain ⟨hA,hB⟩ := cx.hr.setObj (ob' := .map (es.modify j fun e => { e with key := k,val := uv }) clock) (co' := .map (ces.modify j fun e => { e with key := k,val := a.eval u }) clock) hkb hg (fun _ _ _ _ _ _ _ h => by cases h) (fun h => by cases h) (fun _ _ _ _ _ _ _ h => by cases h) h1 (fun _ h => by cases h) (by
        unfold ObjOk; rw [AH.gpt,if_pos rfl]
        exact ⟨ces.modify j fun e => { e with key := k,val := a.eval u },by simp [hpb],by rw [Array.toList_modify]; exact F2.modify' h2 j fun x y _ _ hxy => ⟨hkv,hur,hxy.born⟩⟩)
       refine ⟨σ,Go.undef,{ w with heap := w.heap.setIfInBounds p.b (.map (ces.modify j fun e => { e with key := k,val := a.eval u }) clock) },.inr ⟨hex _ ?_,rfl⟩,VR.undef σ,hA,.of hB,abO_no hq (by rcases hop with h | h <;> rw [h] <;> rfl)⟩
       simp [Instr.mapUpdate,ruX ht,hc,hke,hck,hgo,hfk,hcen,Instr.keyThatStays,hsb,run_setObj h1 (fun _ _ _ h => by cases h)]
   | _ => cases hev
 ·cases hev
end Go.Den
/- Den, part O: each operation that is no call. -/
namespace Go.Den
variable {gl : Nat → Bool} {P : Program} {σ : Ren} {H H' : AH} {w : World} {inv : Inv} {e : Env} {a : Act} {o : Oper} {v : Value} {q : Bool}
theorem evb {s : String} {x : Out × AH} (h : ev inv e H (.bad s) = some x) : False := by simp [ev] at h
theorem ok_convStr' (cx : Cx gl P σ H w e a) {s d : TypeId} {x : Operand} (hop : o.op = .convert s d x) (hs : P.underlying s = some .string) (hd : P.underlying d = some .string) (hok : (IOp.sliceStr (cArg x) none none).ok gl = true)
  (hev : ev inv e H (.sliceStr (cArg x) none none) = some (.ret v,H')) : OpOk gl P σ H w ((execOp a.eval o).run P w) v H' q := by
 have hxo := fun v h => cx.ea (x := x) (v := v) (agk hok (by simp [IOp.args])) h
 simp only [ev,eao] at hev
 split at hev
 ·rename_i st lo hi e1 e2 e3
  cases e2; cases e3
  simp only [boundsV] at hev
  obtain ⟨rfl,rfl⟩ := o1s hev
  rw [extract_full]
  refine OpOk.quiet cx.hr (c := .string st) ?_ (.string _)
  simp [execOp,hop,(hxo _ e1).string_inv,convert,ruX hs,ruX hd]
 ·cases hev
theorem ok_bin (cx : Cx gl P σ H w e a) {op : BinOp} {t t' : TypeId} {x y : Operand} (hop : o.op = .binOp op t x y t') (hok : (cBin P op t (cArg x) (cArg y)).ok gl = true) (hev : ev inv e H (cBin P op t (cArg x) (cArg y)) = some (.ret v,H')) :
  OpOk gl P σ H w ((execOp a.eval o).run P w) v H' q := by
 unfold cBin at hok hev
 cases ht : P.underlying t with
 | none => rw [ht] at hev; exact (evb hev).elim
 | some d =>
  rw [ht] at hok hev
  cases d with
  | int k => exact ok_arith (inv := inv) cx hop hok hev
  | string => exact ok_arith (inv := inv) cx hop hok hev
  | bool => cases op <;> first | exact (evb hev).elim | exact ok_eqBool (inv := inv) (neg := false) cx hop ht hok hev | exact ok_eqBool (inv := inv) (neg := true) cx hop ht hok hev
  | slice el => cases op <;> first | exact (evb hev).elim | exact ok_eqNil (inv := inv) (neg := false) (k := .slice) cx hop ht trivial hok hev | exact ok_eqNil (inv := inv) (neg := true) (k := .slice) cx hop ht trivial hok hev
  | map k el => cases op <;> first | exact (evb hev).elim | exact ok_eqNil (inv := inv) (neg := false) (k := .map) cx hop ht trivial hok hev | exact ok_eqNil (inv := inv) (neg := true) (k := .map) cx hop ht trivial hok hev
  | func ps rs vr => cases op <;> first | exact (evb hev).elim | exact ok_eqNil (inv := inv) (neg := false) (k := .func) cx hop ht trivial hok hev | exact ok_eqNil (inv := inv) (neg := true) (k := .func) cx hop ht trivial hok hev
  | pointer el =>
   simp only at hok hev
   cases hs : szOf P el with
   | none => rw [hs] at hev; exact (evb hev).elim
   | some n =>
    rw [hs] at hok hev
    cases n with
    | zero => exact (evb hev).elim
    | succ n => cases op <;> exact (evb hev).elim
  | _ => exact (evb hev).elim
theorem VL.u8 {vs cs : List Value} (h : VL σ vs cs) (hu : vs.all isU8 = true) : cs = vs := by
 induction h with
 | nil => rfl
 | cons h1 h2 ih =>
  simp only [List.all_cons,Bool.and_eq_true] at hu
  rw [ih hu.2]
  congr 1
  rename_i v c _ _
  cases v with
  | int k n => exact h1.int_inv
  | _ => simp [isU8] at hu
theorem run_pushBytes {f : Value → ByteArray → Sem (ForInStep ByteArray)} (hf : ∀ n s,f (.int .u8 n) s = pure (.yield (s.push (UInt8.ofNat n.toNat)))) : ∀ (l : List Value) (s : ByteArray) (w : World),l.all isU8 = true →
  (forIn (m := Sem) l s f).run P w = .ok ⟨s.data ++ (l.map byteV).toArray⟩ w := by
 intro l
 induction l with
 | nil => intro s w _; simp
 | cons c l ih =>
  intro s w h
  simp only [List.all_cons,Bool.and_eq_true] at h
  cases c with
  | int k n =>
   cases k with
   | u8 =>
    simp only [List.forIn_cons,hf,Sem.run_bind,Sem.run_pure,Result.andThen_ok]
    rw [ih _ _ h.2]
    simp [ByteArray.push,byteV]
   | _ => simp [isU8] at h
  | _ => simp [isU8] at h
theorem ok_ofBytes (cx : Cx gl P σ H w e a) {s d el : TypeId} {x : Operand} (hop : o.op = .convert s d x) (hs : P.underlying s = some (.slice el)) (hel : P.underlying el = some (.int .u8)) (hd : P.underlying d = some .string) (hok : (IOp.ofBytes (cArg x)).ok gl = true)
  (hev : ev inv e H (.ofBytes (cArg x)) = some (.ret v,H')) : OpOk gl P σ H w ((execOp a.eval o).run P w) v H' q := by
 simp only [ev] at hev
 cases hx : Den.ea e (cArg x) with
 | none => rw [hx] at hev; cases hev
 | some p =>
  rw [hx] at hev
  have hr := cx.ea (agk hok (by simp [IOp.args])) hx
  cases p with
  | string s => cases hev
  | slice ad n cap =>
   simp only at hev
   cases hsr : srC H 1 (.slice ad n cap) with
   | none => rw [hsr] at hev; cases hev
   | some r =>
    obtain ⟨cs,m⟩ := r
    obtain ⟨h1,h2,cn,h3,h4⟩ := src_ok cx.hr hr hsr
    rw [hsr] at hev
    simp only at hev
    cases hb : cs.all isU8 with
    | false => rw [hb] at hev; cases hev
    | true =>
     rw [hb] at hev
     obtain ⟨rfl,rfl⟩ := o1s hev
     have hcn := h3.u8 hb
     refine OpOk.quiet cx.hr (c := .string ⟨(cs.map byteV).toArray⟩) ?_ (.string _)
     have hl := h1 w
     have h5 := h4 w rfl
     cases ad with
     | none =>
      obtain ⟨hn,_,hc⟩ := hr.sliceNil_inv
      subst hn
      simp [srC] at hsr
      obtain ⟨rfl,rfl⟩ := hsr
      simp [execOp,hop,hc,convert,ruX hs,ruX hd,ruX hel,Conv.bytesToString]
      rfl
     | some ad =>
      obtain ⟨ad',cap',hc⟩ : ∃ ad' cap',a.eval x = .slice (some ad') n cap' := by
       rcases hr.slice_inv with ⟨k,of,pl,xx,capc,_,hk,h8,hd1,hd2,hd3⟩ | ⟨e1,_,hsp,a9,h8⟩
       ·exact ⟨_,_,h8⟩
       ·exact ⟨a9,0,by rw [h8,e1]⟩
      rw [hc] at hl h5
      have hmn : m = n := by
       simp [Builtin.lenOf] at hl
       omega
      subst hmn
      have h6 : (loadCells ad' m).run P w = .ok cn w := by
       unfold Builtin.firstCells at h5
       simpa using h5
      simp [execOp,hop,hc,convert,ruX hs,ruX hd,ruX hel,Conv.bytesToString,h6]
      rw [← Array.forIn_toList,hcn]
      rw [run_pushBytes (fun _ _ => rfl) _ _ _ hb]
      simp
  | _ => simp [srC] at hev
theorem ok_conv (cx : Cx gl P σ H w e a) {s d : TypeId} {x : Operand} (hop : o.op = .convert s d x) (hok : (cConv P s d (cArg x)).ok gl = true) (hev : ev inv e H (cConv P s d (cArg x)) = some (.ret v,H')) :
  OpOk gl P σ H w ((execOp a.eval o).run P w) v H' q := by
 unfold cConv at hok hev
 split at hev
 ·rename_i k1 k2 h1 h2
  rw [h1,h2] at hok
  exact ok_toInt (inv := inv) cx hop h1 h2 hok hev
 ·rename_i h1 h2
  rw [h1,h2] at hok
  exact ok_convStr' (inv := inv) cx hop h1 h2 hok hev
 ·rename_i el h1 h2
  rw [h1,h2] at hok
  simp only at hok hev
  split at hev
  ·rename_i h3
   rw [h3] at hok
   exact ok_ofBytes (inv := inv) cx hop h1 h3 h2 hok hev
  ·exact (evb hev).elim
 ·exact (evb hev).elim
theorem ok_builtin (cx : Cx gl P σ H w e a) {b : Builtin} {ts : Array TypeId} {xs : Array Operand} (hop : o.op = .call ⟨.builtin b,xs,ts⟩) (hok : (cBuiltin P b ts.toList xs.toList).ok gl = true) (hev : ev inv e H (cBuiltin P b ts.toList xs.toList) = some (.ret v,H')) (hq : q = true → abO o.op = true) :
  OpOk gl P σ H w ((execOp a.eval o).run P w) v H' q := by
 obtain ⟨xs⟩ := xs
 obtain ⟨ts⟩ := ts
 simp only at hok hev
 unfold cBuiltin at hok hev
 split at hev
 ·-- len
  rename_i t tr x
  simp only at hok
  cases ht : P.underlying t with
  | none => rw [ht] at hev; exact (evb hev).elim
  | some d =>
   rw [ht] at hok hev
   cases d with
   | string => exact ok_lenStr (inv := inv) cx hop rfl ht hok hev
   | slice el => exact ok_lenSl (inv := inv) cx hop rfl ht hok hev
   | map k el => exact ok_lenMap (inv := inv) cx hop rfl ht hok hev
   | array n el => exact ok_lenArr (inv := inv) cx hop rfl ht hev
   | _ => exact (evb hev).elim
 ·-- append
  rename_i t u x y
  simp only at hok
  cases ht : P.underlying t with
  | none => rw [ht] at hev; exact (evb hev).elim
  | some d =>
   cases hu : P.underlying u with
   | none => rw [ht,hu] at hev; cases d <;> exact (evb hev).elim
   | some du =>
    rw [ht,hu] at hok hev
    cases d with
    | slice el =>
     simp only at hok hev
     cases hn : szOf P el with
     | none => rw [hn] at hev; exact (evb hev).elim
     | some n =>
      cases hb : bytesOf' P el with
      | none => rw [hn,hb] at hev; exact (evb hev).elim
      | some by_ =>
       cases hz : zeroOf P el with
       | none => rw [hn,hb,hz] at hev; exact (evb hev).elim
       | some z =>
        rw [hn,hb,hz] at hok hev
        simp only at hok hev
        by_cases hnz : n = (vcl z).length
        ·rw [if_pos hnz] at hok hev
         cases du with
         | slice e' => exact ok_append (inv := inv) cx hop ht hu (.inl ⟨e',rfl⟩) hn hb hz hnz hok hev hq
         | string => exact ok_append (inv := inv) cx hop ht hu (.inr rfl) hn hb hz hnz hok hev hq
         | _ => exact (evb hev).elim
        ·rw [if_neg hnz] at hev; exact (evb hev).elim
    | _ => exact (evb hev).elim
 ·-- copy
  rename_i t tr x y
  simp only at hok
  cases ht : P.underlying t with
  | none => rw [ht] at hev; exact (evb hev).elim
  | some d =>
   rw [ht] at hok hev
   cases d with
   | slice el =>
    simp only at hok hev
    cases hn : szOf P el with
    | none => rw [hn] at hev; exact (evb hev).elim
    | some n => rw [hn] at hok hev; exact (evb hev).elim
   | _ => exact (evb hev).elim
 ·-- clear
  rename_i t tr x
  simp only at hok
  cases ht : P.underlying t with
  | none => rw [ht] at hev; exact (evb hev).elim
  | some d =>
   rw [ht] at hok hev
   cases d with
   | slice el =>
    simp only at hok hev
    cases hz : zeroOf P el with
    | none => rw [hz] at hev; exact (evb hev).elim
    | some z =>
     rw [hz] at hok hev
     simp only at hok hev
     by_cases hnz : (vcl z).length ≠ 0
     ·rw [if_pos hnz] at hok hev; exact (evb hev).elim
     ·rw [if_neg hnz] at hev; exact (evb hev).elim
   | _ => exact (evb hev).elim
 ·exact ok_minMax (inv := inv) (mx := false) cx hop hok hev
 ·exact ok_minMax (inv := inv) (mx := true) cx hop hok hev
 ·-- panic
  simp only [ev] at hev
  split at hev <;> cases hev
 ·exact (evb hev).elim
theorem op_ok (cx : Cx gl P σ H w e a) (hok : (cOp P o.op).ok gl = true) (hnc : ∀ f as,cOp P o.op ≠ .call f as) (hev : ev inv e H (cOp P o.op) = some (.ret v,H')) (hq : q = true → abO o.op = true) :
  OpOk gl P σ H w ((execOp a.eval o).run P w) v H' q := by
 cases hop : o.op with
 | move x => rw [hop] at hok hev; exact ok_mov (inv := inv) cx (.inl hop) hok hev
 | assign x => rw [hop] at hok hev; exact ok_mov (inv := inv) cx (.inr hop) hok hev
 | pick c x y => rw [hop] at hok hev; exact ok_pick (inv := inv) cx hop hok hev
 | alloc t =>
  rw [hop] at hok hev
  simp only [cOp] at hok hev
  cases hz : zeroOf P t with
  | none => rw [hz] at hev; exact (evb hev).elim
  | some z => rw [hz] at hok hev; exact ok_alloc (inv := inv) cx hop hz hok hev
 | box t x => rw [hop] at hok hev; exact ok_box (inv := inv) cx hop hok hev
 | build t ps =>
  rw [hop] at hok hev
  simp only [cOp] at hok hev
  cases hz : zeroOf P t with
  | none => rw [hz] at hev; exact (evb hev).elim
  | some z =>
   cases ht : P.underlying t with
   | none => rw [hz,ht] at hev; exact (evb hev).elim
   | some d =>
    rw [hz,ht] at hok hev
    cases d with
    | struct fs =>
     simp only at hok hev
     by_cases hall : fs.toList.all (fun f => (szOf P f.type).isSome) = true
     ·rw [if_pos hall] at hok hev
      cases hl : cParts P (fieldPlaces P fs) ps.toList with
      | none => rw [hl] at hev; exact (evb hev).elim
      | some l => rw [hl] at hok hev; exact ok_buildStruct (inv := inv) cx hop hz ht (fun f hf => List.all_eq_true.1 hall f hf) hl hok hev
     ·rw [if_neg hall] at hev; exact (evb hev).elim
    | array k el =>
     simp only at hok hev
     cases hn : szOf P el with
     | none => rw [hn] at hev; exact (evb hev).elim
     | some n =>
      rw [hn] at hok hev
      simp only at hok hev
      cases hl : cParts P (fun i => some (i * n,n)) ps.toList with
      | none => rw [hl] at hev; exact (evb hev).elim
      | some l => rw [hl] at hok hev; exact ok_buildArr (inv := inv) cx hop hz ht hn hl hok hev
    | _ => exact (evb hev).elim
 | buildSlice t len ps =>
  rw [hop] at hok hev
  simp only [cOp] at hok hev
  cases ht : P.underlying t with
  | none => rw [ht] at hev; exact (evb hev).elim
  | some d =>
   rw [ht] at hok hev
   cases d with
   | slice el =>
    simp only at hok hev
    cases hn : szOf P el with
    | none => rw [hn] at hev; exact (evb hev).elim
    | some n =>
     cases hz : zeroOf P el with
     | none => rw [hn,hz] at hev; exact (evb hev).elim
     | some z =>
      rw [hn,hz] at hok hev
      simp only at hok hev
      by_cases hc : len * n ≤ 16777216 ∧ n = (vcl z).length ∧ n ≠ 0
      ·rw [if_pos hc] at hok hev
       cases hl : cParts P (fun i => some (i * n,n)) ps.toList with
       | none => rw [hl] at hev; exact (evb hev).elim
       | some l => rw [hl] at hok hev; exact ok_buildSlice (inv := inv) cx hop ht hn hz hc.1 hc.2.1 hc.2.2 hl hok hev
      ·rw [if_neg hc] at hev; exact (evb hev).elim
   | _ => exact (evb hev).elim
 | insert t m k u =>
  rw [hop] at hok hev
  simp only [cOp] at hok hev
  cases ht : P.underlying t with
  | none => rw [ht] at hev; exact (evb hev).elim
  | some d =>
   rw [ht] at hok hev
   cases d with
   | map kt el =>
    simp only at hok hev
    cases hk : P.underlying kt with
    | none => simp only [keyK,hk] at hev; exact (evb hev).elim
    | some dk =>
     simp only [keyK,hk] at hok hev
     cases dk with
     | int q => exact ok_mapUpdate (inv := inv) (kk := .int) cx (.inr hop) ht hk trivial hok hev hq
     | string => exact ok_mapUpdate (inv := inv) (kk := .str) cx (.inr hop) ht hk trivial hok hev hq
     | bool => exact ok_mapUpdate (inv := inv) (kk := .bool) cx (.inr hop) ht hk trivial hok hev hq
     | _ => exact (evb hev).elim
   | _ => exact (evb hev).elim
 | mapUpdate t m k u =>
  rw [hop] at hok hev
  simp only [cOp] at hok hev
  cases ht : P.underlying t with
  | none => rw [ht] at hev; exact (evb hev).elim
  | some d =>
   rw [ht] at hok hev
   cases d with
   | map kt el =>
    simp only at hok hev
    cases hk : P.underlying kt with
    | none => simp only [keyK,hk] at hev; exact (evb hev).elim
    | some dk =>
     simp only [keyK,hk] at hok hev
     cases dk with
     | int q => exact ok_mapUpdate (inv := inv) (kk := .int) cx (.inl hop) ht hk trivial hok hev hq
     | string => exact ok_mapUpdate (inv := inv) (kk := .str) cx (.inl hop) ht hk trivial hok hev hq
     | bool => exact ok_mapUpdate (inv := inv) (kk := .bool) cx (.inl hop) ht hk trivial hok hev hq
     | _ => exact (evb hev).elim
   | _ => exact (evb hev).elim
 | load t x =>
  rw [hop] at hok hev
  simp only [cOp] at hok hev
  cases hg : aggOf P t with
  | none => rw [hg] at hev; exact (evb hev).elim
  | some g => rw [hg] at hok hev; exact ok_load (inv := inv) cx hop hg hok hev
 | store t x y =>
  rw [hop] at hok hev
  simp only [cOp] at hok hev
  cases hn : szOf P t with
  | none => rw [hn] at hev; exact (evb hev).elim
  | some n => rw [hn] at hok hev; exact ok_store (inv := inv) cx hop hn hok hev hq
 | nilCheck x => rw [hop] at hok hev; exact ok_nilCheck (inv := inv) cx hop hok hev
 | binOp op t x y t' => rw [hop] at hok hev; exact ok_bin (inv := inv) cx hop hok hev
 | unOp op t x => rw [hop] at hok hev; exact ok_un (inv := inv) cx hop hok hev
 | convert s d x => rw [hop] at hok hev; exact ok_conv (inv := inv) cx hop hok hev
 | makeInterface t x =>
  rw [hop] at hok hev
  simp only [cOp] at hok hev
  cases ht : P.underlying t with
  | none => rw [ht] at hev; exact (evb hev).elim
  | some d =>
   rw [ht] at hok hev
   cases d with
   | interface m => exact (evb hev).elim
   | _ => exact ok_iface (inv := inv) cx hop ht (fun _ h => by cases h) hok hev
 | makeFunc fn x y =>
  rw [hop] at hok hev
  cases fn with
  | func f => exact ok_func (inv := inv) cx hop hok hev
  | _ => exact (evb hev).elim
 | makeMap t r =>
  rw [hop] at hok hev
  cases r with
  | none => exact ok_makeMap (inv := inv) cx hop (.inl rfl) hev
  | some r =>
   cases r with
   | const c =>
    cases c with
    | int k n =>
     simp only [cOp] at hok hev
     cases ht : P.underlying t with
     | none => rw [ht] at hev; exact (evb hev).elim
     | some d =>
      rw [ht] at hev
      cases d with
      | map kt el => exact ok_makeMap (inv := inv) cx hop (.inr ⟨k,n,kt,el,rfl,ht⟩) hev
      | _ => exact (evb hev).elim
    | _ => exact (evb hev).elim
   | _ => exact (evb hev).elim
 | makeSlice t x y =>
  rw [hop] at hok hev
  simp only [cOp] at hok hev
  cases ht : P.underlying t with
  | none => rw [ht] at hev; exact (evb hev).elim
  | some d =>
   rw [ht] at hok hev
   cases d with
   | slice el =>
    simp only at hok hev
    cases hb : bytesOf' P el with
    | none => rw [hb] at hev; exact (evb hev).elim
    | some by_ =>
     cases hz : zeroOf P el with
     | none => rw [hb,hz] at hev; exact (evb hev).elim
     | some z =>
      cases hn : szOf P el with
      | none => rw [hb,hz,hn] at hev; exact (evb hev).elim
      | some n =>
       rw [hb,hz,hn] at hok hev
       simp only at hok hev
       by_cases hc : n = (vcl z).length ∧ n ≠ 0
       ·rw [if_pos hc] at hok hev; exact ok_makeSlice (inv := inv) cx hop ht hb hz hn hc.1 hc.2 hok hev
       ·rw [if_neg hc] at hev; exact (evb hev).elim
   | _ => exact (evb hev).elim
 | slice t x lo hi mx =>
  rw [hop] at hok hev
  simp only [cOp] at hok hev
  cases ht : P.underlying t with
  | none => rw [ht] at hev; exact (evb hev).elim
  | some d =>
   rw [ht] at hok hev
   cases d with
   | string =>
    cases mx with
    | none => exact ok_sliceStr (inv := inv) cx hop ht hok hev
    | some m => exact (evb hev).elim
   | slice el =>
    simp only at hok hev
    cases hn : szOf P el with
    | none => rw [hn] at hev; exact (evb hev).elim
    | some n => rw [hn] at hok hev; exact ok_slice (inv := inv) cx hop ht hn hok hev
   | array k el =>
    simp only at hok hev
    cases hn : szOf P el with
    | none => rw [hn] at hev; exact (evb hev).elim
    | some n => rw [hn] at hok hev; exact ok_sliceArr (inv := inv) cx hop ht hn hok hev
   | _ => exact (evb hev).elim
 | fieldAddr t x i =>
  rw [hop] at hok hev
  simp only [cOp] at hok hev
  cases ht : P.underlying t with
  | none => rw [ht] at hev; exact (evb hev).elim
  | some d =>
   rw [ht] at hok hev
   cases d with
   | struct fs =>
    simp only [fieldPlaces] at hok hev
    cases hf : fs[i]? with
    | none => rw [hf] at hev; exact (evb hev).elim
    | some f =>
     rw [hf] at hok hev
     simp only at hok hev
     cases hn : szOf P f.type with
     | none => rw [hn] at hev; exact (evb hev).elim
     | some n =>
      rw [hn] at hok hev
      simp only [Option.map_some] at hok hev
      by_cases hn0 : n = 0
      ·rw [if_pos hn0] at hev; exact (evb hev).elim
      ·rw [if_neg hn0] at hok hev; exact ok_fieldAddr (inv := inv) cx hop ht hf hn hn0 hok hev
   | _ => exact (evb hev).elim
 | field t x i =>
  rw [hop] at hok hev
  simp only [cOp] at hok hev
  cases ht : P.underlying t with
  | none => rw [ht] at hev; exact (evb hev).elim
  | some d =>
   rw [ht] at hok hev
   cases d with
   | struct fs =>
    simp only at hok hev
    cases hf : fs[i]? with
    | none => rw [hf] at hev; exact (evb hev).elim
    | some f =>
     rw [hf] at hok hev
     simp only at hok hev
     cases hg : aggOf P f.type with
     | none => rw [hg] at hev; exact (evb hev).elim
     | some g => rw [hg] at hok hev; exact ok_field (inv := inv) cx hop ht hf hg hok hev
   | _ => exact (evb hev).elim
 | indexAddr t x i =>
  rw [hop] at hok hev
  simp only [cOp] at hok hev
  cases ht : P.underlying t with
  | none => rw [ht] at hev; exact (evb hev).elim
  | some d =>
   rw [ht] at hok hev
   cases d with
   | slice el =>
    simp only at hok hev
    cases hn : szOf P el with
    | none => rw [hn] at hev; exact (evb hev).elim
    | some n => rw [hn] at hok hev; exact ok_indexAddr (inv := inv) cx hop ht hn hok hev
   | array k el =>
    simp only at hok hev
    cases hn : szOf P el with
    | none => rw [hn] at hev; exact (evb hev).elim
    | some n => rw [hn] at hok hev; exact ok_indexAddrArr (inv := inv) cx hop ht hn hok hev
   | _ => exact (evb hev).elim
 | index t x i =>
  rw [hop] at hok hev
  simp only [cOp] at hok hev
  cases ht : P.underlying t with
  | none => rw [ht] at hev; exact (evb hev).elim
  | some d =>
   rw [ht] at hok hev
   cases d with
   | string => exact ok_indexStr (inv := inv) cx hop ht hok hev
   | array k el =>
    simp only at hok hev
    cases hn : szOf P el with
    | none => rw [hn] at hev; exact (evb hev).elim
    | some n =>
     cases hg : aggOf P el with
     | none => rw [hn,hg] at hev; exact (evb hev).elim
     | some g => rw [hn,hg] at hok hev; exact ok_indexArr (inv := inv) cx hop ht hn hg hok hev
   | _ => exact (evb hev).elim
 | lookup t x i ok =>
  rw [hop] at hok hev
  simp only [cOp] at hok hev
  cases ht : P.underlying t with
  | none => rw [ht] at hev; exact (evb hev).elim
  | some d =>
   rw [ht] at hok hev
   cases d with
   | map kt el =>
    simp only at hok hev
    cases hz : zeroOf P el with
    | none => rw [hz] at hev; exact (evb hev).elim
    | some z =>
     rw [hz] at hok hev
     simp only at hok hev
     cases hk : P.underlying kt with
     | none => simp only [keyK,hk] at hev; exact (evb hev).elim
     | some dk =>
      simp only [keyK,hk] at hok hev
      cases dk with
      | int q => exact ok_lookup (inv := inv) (kk := .int) cx hop ht hk trivial hz hok hev
      | string => exact ok_lookup (inv := inv) (kk := .str) cx hop ht hk trivial hz hok hev
      | bool => exact ok_lookup (inv := inv) (kk := .bool) cx hop ht hk trivial hz hok hev
      | _ => exact (evb hev).elim
   | _ => exact (evb hev).elim
 | range t x =>
  rw [hop] at hok hev
  simp only [cOp] at hok hev
  cases ht : P.underlying t with
  | none => rw [ht] at hev; exact (evb hev).elim
  | some d =>
   rw [ht] at hok hev
   cases d with
   | string => exact ok_rangeStr (inv := inv) cx hop ht hok hev
   | _ => exact (evb hev).elim
 | next it s =>
  rw [hop] at hok hev
  cases s with
  | true => exact ok_nextStr (inv := inv) cx hop hok hev hq
  | false => exact (evb hev).elim
 | typeAssert x xt t ok =>
  rw [hop] at hok hev
  simp only [cOp] at hok hev
  cases ht : P.underlying t with
  | none => rw [ht] at hev; exact (evb hev).elim
  | some d =>
   cases hz : zeroOf P t with
   | none => rw [ht,hz] at hev; cases d <;> exact (evb hev).elim
   | some z =>
    rw [ht,hz] at hok hev
    cases d with
    | interface m => exact (evb hev).elim
    | _ => exact (evb hev).elim
 | extract x i => rw [hop] at hok hev; exact ok_extract (inv := inv) cx hop hok hev
 | call c =>
  rw [hop] at hok hev hnc
  obtain ⟨callee,args,ts⟩ := c
  cases callee with
  | value f => exact absurd rfl (hnc _ _)
  | builtin b => exact ok_builtin (inv := inv) cx hop hok hev hq
  | invoke r m => exact (evb hev).elim
 | panic x =>
  rw [hop] at hev
  simp only [cOp,ev] at hev
  split at hev <;> cases hev
 | _ => rw [hop] at hev; exact (evb hev).elim
end Go.Den
/- Den, part P: calls; operations in a row. -/
namespace Go.Den
variable {gl : Nat → Bool} {P : Program} {σ : Ren} {H H' : AH} {w : World} {inv : Inv} {e : Env} {a : Act} {o : Oper} {v : Value} {q : Bool}
abbrev Fw (ro : Option Nat) : Fence := { Fence.wide with round := ro }
def mark (r : Nat) : Deferred := { target := .collected r,args := #[] }
def DefOk (n0 : Nat) (ds : List Deferred) (w : World) : Prop := ∃ rs : List Nat,ds = rs.map mark ∧ rs.Nodup ∧ ∀ r ∈ rs,n0 ≤ r ∧ w.heap[r]? = some (.deferred (some []))
theorem HR.prot_deferred {hp : Array Obj} (h : HR gl P σ H hp) {b : Nat} {x : Option (List Deferred)} (hb : hp[b]? = some (.deferred x)) : Prot σ H b := by
 intro k p hk hp'
 refine .inl fun hl => ?_
 subst hp'
 have := h.obj k p hk
 unfold ObjOk at this
 unfold AH.live at hl
 cases hg : H.get k with
 | none => rw [hg] at hl; exact hl
 | some ob =>
  rw [hg] at hl this
  cases ob with
  | cells cs t ro ex root thr tip => obtain ⟨⟨ccs,t',lo,hi,h1,_⟩,_⟩ := this hl; rw [hb] at h1; cases h1
  | map es clock => obtain ⟨ces,h1,_⟩ := this; rw [hb] at h1; cases h1
  | iter s pos => have h1 := this.2; rw [hb] at h1; cases h1
  | loop => obtain ⟨r,h1,_⟩ := this; rw [hb] at h1; cases h1
  | gone => exact hl
theorem lt_of_some {hp : Array Obj} {b : Nat} {ob : Obj} (h : hp[b]? = some ob) : b < hp.size := by
 rcases Nat.lt_or_ge b hp.size with x | x
 ·exact x
 ·rw [Array.getElem?_eq_none x] at h; cases h
theorem DefOk.step {n0 : Nat} {ds : List Deferred} {w' : World} {σ' : Ren} (h : DefOk n0 ds w) (hr : HR gl P σ H w.heap) (hf : FrW σ H w σ' H' w') : DefOk n0 ds w' := by
 obtain ⟨rs,h1,h2,h3⟩ := h
 refine ⟨rs,h1,h2,fun r hr' => ?_⟩
 obtain ⟨h4,h5⟩ := h3 r hr'
 exact ⟨h4,(hf.prot r (lt_of_some h5) (hr.prot_deferred h5)).1.trans h5⟩
structure St (gl : Nat → Bool) (P : Program) (σ : Ren) (H : AH) (w : World) (e : Env) (a : Act) (N n0 : Nat) : Prop where
 cx : Cx gl P σ H w e a
 size : a.tmps.size = N
 defs : DefOk n0 a.defers w
 base : n0 ≤ w.heap.size
theorem put_defers (a : Act) (d : Option Nat) (c : Value) : (a.put d c).defers = a.defers := by cases d <;> rfl
theorem put_size (a : Act) (d : Option Nat) (c : Value) : (a.put d c).tmps.size = a.tmps.size := by cases d <;> simp [Act.put]
theorem EnvR.put {σ : Ren} {e : Env} {a : Act} (h : EnvR σ e a.tmps) {d : Option Nat} (hd : guardOk a.tmps.size d = true) {v c : Value} (hv : VR σ v c) : EnvR σ (setD e d v) (a.put d c).tmps := by
 cases d with
 | none => exact h
 | some d => exact h.set (by simpa [guardOk] using hd) hv
theorem St.step {N n0 : Nat} (h : St gl P σ H w e a N n0) {σ' : Ren} {w' : World} (hr : HR gl P σ' H' w'.heap) (hf : FrW σ H w σ' H' w') : St gl P σ' H' w' e a N n0 :=
 ⟨⟨hr,h.cx.hgl.mono hf.le,h.cx.he.mono hf.le⟩,h.size,h.defs.step h.cx.hr hf,Nat.le_trans h.base hf.size⟩
theorem St.put {N n0 : Nat} (h : St gl P σ H w e a N n0) {d : Option Nat} (hd : guardOk N d = true) {v c : Value} (hv : VR σ v c) : St gl P σ H w (setD e d v) (a.put d c) N n0 :=
 ⟨⟨h.cx.hr,h.cx.hgl,h.cx.he.put (by rw [h.size]; exact hd) hv⟩,(put_size _ _ _).trans h.size,by rw [put_defers]; exact h.defs,h.base⟩
def EndP (gl : Nat → Bool) (P : Program) (σ : Ren) (H : AH) (w : World) (out : Out) (H' : AH) : Ending → World → Prop
 | .returned c,w' => ∃ v σ',out = .ret v ∧ VR σ' v c ∧ HR gl P σ' H' w'.heap ∧ FrW σ H w σ' H' w'
 | .panicked chain,w' => ∃ v c σ',out = .pan v ∧ chain = [{ v := c,recovered := false }] ∧ VR σ' v c ∧ HR gl P σ' H' w'.heap ∧ FrW σ H w σ' H' w'
 | .outgrown,_ => False
def CallOk (gl : Nat → Bool) (P : Program) (σ : Ren) (H : AH) (w : World) (y : Bool) (s : Sem Next) (out : Out) (H' : AH) : Prop :=
 (∃ f as,s.run P w = .ok (.enter f as) w ∧ Calls P f as w (EndP gl P σ H w out H')) ∨
 (y = false ∧ ∃ c w',s.run P w = .ok (.value c) w' ∧ EndP gl P σ H w out H' (.returned c) w')
structure InvOk (gl : Nat → Bool) (P : Program) (inv : Inv) : Prop where
 func : ∀ f b c args H out H' σ w cf cb cc (cargs : Array Value),inv (.func (.func f) b c) args H = some (out,H') → HR gl P σ H w.heap → GlR gl σ → VR σ (.func (.func f) b c) (.func cf cb cc) → VL σ args cargs.toList →
  CallOk gl P σ H w (args.any isYield) (do let d ← Deferred.ofValue (.func cf cb cc) cargs; invoke d.target d.args) out H'
 yield : ∀ l b c args H out H' σ w cf cb cc (cargs : Array Value),inv (.func (.yield l) b c) args H = some (out,H') → HR gl P σ H w.heap → GlR gl σ → VR σ (.func (.yield l) b c) (.func cf cb cc) → VL σ args cargs.toList →
  ∃ l' f tmps as bd,(do let d ← Deferred.ofValue (.func cf cb cc) cargs; invoke d.target d.args : Sem Next).run P w = .ok (.round l' f tmps as bd) w ∧ ∀ ro,RoundIn (Fw ro) 0 P l' f tmps as bd w (EndP gl P σ H w out H')
 other : ∀ fv args H,(∀ f b c,fv ≠ .func (.func f) b c) → (∀ l b c,fv ≠ .func (.yield l) b c) → inv fv args H = none
def ExR (σ : Ren) : Ex → Exit → Prop
 | .norm,.normal => True
 | .exit i,.exit j => i = j
 | .ret,.ret => True
 | .pan v,.panic chain => ∃ c,chain = [{ v := c,recovered := false }] ∧ VR σ v c
 | _,_ => False
def PostC (gl : Nat → Bool) (P : Program) (σ : Ren) (H : AH) (w : World) (N n0 : Nat) (x : Ex) (e' : Env) (H' : AH) (ex : Exit) (a' : Act) (w' : World) : Prop :=
 ∃ σ',ExR σ' x ex ∧ St gl P σ' H' w' e' a' N n0 ∧ FrW σ H w σ' H' w'
theorem PostC.trans {N n0 : Nat} {x : Ex} {e' : Env} {H1 H2 : AH} {w1 : World} {σ1 : Ren} {ex : Exit} {a' : Act} {w' : World} (hf : FrW σ H w σ1 H1 w1) (h : PostC gl P σ1 H1 w1 N n0 x e' H2 ex a' w') : PostC gl P σ H w N n0 x e' H2 ex a' w' := by
 obtain ⟨σ',h1,h2,h3⟩ := h; exact ⟨σ',h1,h2,hf.trans h3⟩
theorem about_wide {ro : Option Nat} : ∀ f,o.about P w a.eval = some f → (Fw ro).fn f := fun _ _ => trivial
theorem call_fv {f : Operand} {xs : Array Operand} {ts : Array TypeId} (hop : o.op = .call ⟨.value f,xs,ts⟩) : execOp a.eval o = (do let d ← Deferred.ofValue (a.eval f) (xs.map a.eval); invoke d.target d.args) := by
 simp [execOp,hop,resolve]
theorem semAt_call {ro : Option Nat} {ρ : Operand → Value} (h : ∀ c,o.op ≠ .defer c) : o.semAt ro ρ = execOp ρ o := Oper.semAt_eq ro ρ o h
theorem cOp_defer (c : Call) : cOp P (.defer c) = .bad "op" := rfl
theorem appendV_ret {t : TypeId} {n b : Nat} {s x : Value} (h : appendV H t n b s x = some (.pan v,H')) : False := by
 unfold appendV ok1 at h
 repeat' (split at h)
 all_goals first
  | cases h
  | skip
 all_goals (simp only [cond_eq_ite] at h)
 all_goals (repeat' (split at h))
 all_goals first | cases h | skip
theorem ev_pan {io : IOp} (h : ev inv e H io = some (.pan v,H')) : (∃ x,io = .panic x) ∨ ∃ f as,io = .call f as := by
 cases io with
 | panic x => exact .inl ⟨x,rfl⟩
 | call f as => exact .inr ⟨f,as,rfl⟩
 | append t n b s x =>
  simp only [ev] at h
  split at h
  ·exact (appendV_ret h).elim
  ·cases h
 | _ =>
  exfalso
  simp only [ev,okO,ok1,cond_eq_ite] at h
  repeat' (split at h)
  all_goals first | cases h | skip
theorem panic_ok (cx : Cx gl P σ H w e a) {x : Operand} (hop : o.op = .panic x ∨ ∃ ts,o.op = .call ⟨.builtin .panic,#[x],ts⟩) (hok : (IOp.panic (cArg x)).ok gl = true) (hev : ev inv e H (.panic (cArg x)) = some (.pan v,H')) :
  H' = H ∧ ∃ c,(execOp a.eval o).run P w = .halt (.panic c) w ∧ VR σ v c := by
 have hxo := fun v h => cx.ea (x := x) (v := v) (agk hok (by simp [IOp.args])) h
 simp only [ev] at hev
 split at hev
 ·rename_i t u e1
  cases hev
  have hr := hxo _ e1
  cases hcx : a.eval x <;> rw [hcx] at hr <;> cases hr
  rename_i cu hu
  refine ⟨rfl,.iface t cu, ?_,.iface hu⟩
  rcases hop with h | ⟨ts,h⟩
  ·simp [execOp,h,hcx,Instr.panic]
  ·obtain ⟨cons,hcons⟩ := exec_builtin (a := a) h
   rw [hcons]; simp [builtin,hcx,Instr.panic]
 ·cases hev
theorem cBuiltin_call {b : Builtin} {ts : List TypeId} {xs : List Operand} {f : Arg} {as : List Arg} (h : cBuiltin P b ts xs = .call f as) : False := by
 unfold cBuiltin at h
 repeat' (split at h)
 all_goals first | cases h | skip
theorem cBuiltin_panic {b : Builtin} {ts : List TypeId} {xs : List Operand} {y : Arg} (h : cBuiltin P b ts xs = .panic y) : ∃ x,b = .panic ∧ xs = [x] ∧ y = cArg x := by
 unfold cBuiltin at h
 repeat' (split at h)
 all_goals first | cases h | skip
 exact ⟨_,rfl,rfl,rfl⟩
theorem cOp_call {op : Op} {f : Arg} {as : List Arg} (h : cOp P op = .call f as) : ∃ g xs ts,op = .call ⟨.value g,xs,ts⟩ ∧ f = cArg g ∧ as = cArgs xs := by
 unfold cOp cBin cConv at h
 repeat' (split at h)
 all_goals first | cases h | skip
 all_goals first
  | exact (cBuiltin_call h).elim
  | (rename_i c _ g hc; obtain ⟨callee,xs,ts⟩ := c; simp only at hc; subst hc; exact ⟨g,xs,ts,rfl,rfl,rfl⟩)
theorem cOp_panic {op : Op} {y : Arg} (h : cOp P op = .panic y) : ∃ x,y = cArg x ∧ (op = .panic x ∨ ∃ ts,op = .call ⟨.builtin .panic,#[x],ts⟩) := by
 unfold cOp cBin cConv at h
 repeat' (split at h)
 all_goals first | cases h | skip
 all_goals first
  | (rename_i c _ b hc; obtain ⟨callee,xs,ts⟩ := c; simp only at hc; subst hc; obtain ⟨x,rfl,hx,rfl⟩ := cBuiltin_panic h; refine ⟨x,rfl,.inr ⟨ts, ?_⟩⟩; obtain ⟨xs⟩ := xs; simp only at hx; rw [hx])
  | exact ⟨_,rfl,.inl rfl⟩
theorem cOp_notDefer {out : Out × AH} (h : ev inv e H (cOp P o.op) = some out) : ∀ c,o.op ≠ .defer c := by
 intro c hc
 rw [hc,cOp_defer] at h
 exact evb h
theorem oper_ok {ro : Option Nat} {N n0 : Nat} {out : Out} {Q : Exit → Act → World → Prop} {K : Act → World → Prop} (hinv : InvOk gl P inv) (cx : Cx gl P σ H w e a) (hok : (cOp P o.op).ok gl = true) (hev : ev inv e H (cOp P o.op) = some (out,H'))
  (hret : ∀ v c σ' w',out = .ret v → VR σ' v c → HR gl P σ' H' w'.heap → FrW σ H w σ' H' w' → (abO o.op = true → Stb σ w σ' w') → K (a.put o.dst c) w')
  (hpan : ∀ v c σ' w',out = .pan v → VR σ' v c → HR gl P σ' H' w'.heap → FrW σ H w σ' H' w' → Q (.panic [{ v := c,recovered := false }]) a w') :
  o.wpIn (Fw ro) 0 P a w K Q := by
 refine ⟨about_wide, ?_⟩
 rw [semAt_call (cOp_notDefer hev)]
 by_cases hcall : ∃ f as,cOp P o.op = .call f as
 ·obtain ⟨f,as,hcall⟩ := hcall
  obtain ⟨g,xs,ts,hop,rfl,rfl⟩ := cOp_call hcall
  rw [hcall] at hok hev
  rw [call_fv hop]
  simp only [ev] at hev
  cases hf : Den.ea e (cArg g) with
  | none => rw [hf] at hev; cases hev
  | some fv =>
   cases has : eas e (cArgs xs) with
   | none => rw [hf,has] at hev; cases hev
   | some args =>
    rw [hf,has] at hev
    simp only at hev
    have hfr := cx.ea (agk hok (by simp [IOp.args])) hf
    have har := eas_ok cx xs.toList (fun x hx => agk hok (by simp only [IOp.args,List.mem_cons]; exact .inr (List.mem_map_of_mem hx))) has
    have har' : VL σ args (xs.map a.eval).toList := by simpa using har
    have hend : ∀ ee ww,EndP gl P σ H w out H' ee ww → (match ee with
     | .returned v => K (a.put o.dst v) ww
     | .panicked chain => Q (.panic chain) a ww
     | .outgrown => LetsOut Q) := by
     intro ee ww he
     cases ee with
     | returned c => obtain ⟨v,σ',h1,h2,h3,h4⟩ := he; exact hret v c σ' ww h1 h2 h3 h4 (fun hab => by rw [hop] at hab; cases hab)
     | panicked chain => obtain ⟨v,c,σ',h1,h2,h3,h4,h5⟩ := he; subst h2; exact hpan v c σ' ww h1 h3 h4 h5
     | outgrown => exact he.elim
    by_cases hfn : ∃ f b c,fv = .func (.func f) b c
    ·obtain ⟨f,b,c,rfl⟩ := hfn
     obtain ⟨cf,cb,cc,hce,_⟩ := VR.func_iff.1 hfr
     rw [hce] at hfr ⊢
     rcases hinv.func f b c args H out H' σ w cf cb cc (xs.map a.eval) hev cx.hr cx.hgl hfr har' with ⟨f',as',h1,h2⟩ | ⟨_,c',w',h1,h2⟩
     ·rw [h1]
      refine ⟨fun h => by simp [Fence.wide] at h,callsIn_wide.2 (h2.mono fun ee ww he => ?_)⟩
      have := hend ee ww he
      cases ee <;> exact this
     ·rw [h1]
      exact hend _ _ h2
    ·by_cases hfy : ∃ l b c,fv = .func (.yield l) b c
     ·obtain ⟨l,b,c,rfl⟩ := hfy
      obtain ⟨cf,cb,cc,hce,_⟩ := VR.func_iff.1 hfr
      rw [hce] at hfr ⊢
      obtain ⟨l',f',tmps,as',bd,h1,h2⟩ := hinv.yield l b c args H out H' σ w cf cb cc (xs.map a.eval) hev cx.hr cx.hgl hfr har'
      rw [h1]
      refine ⟨fun h => by simp [Fence.wide] at h,(h2 ro).mono fun ee ww he => ?_⟩
      have := hend ee ww he
      cases ee <;> exact this
     ·rw [hinv.other fv args H (fun f b c h => hfn ⟨f,b,c,h⟩) (fun l b c h => hfy ⟨l,b,c,h⟩)] at hev; cases hev
 ·cases out with
  | ret v =>
   obtain ⟨σ',c,w',h1,h2,h3,h4,h5⟩ := op_ok (q := abO o.op) (inv := inv) cx hok (fun f as h => hcall ⟨f,as,h⟩) hev (fun h => h)
   rcases h1 with h1 | ⟨h1,rfl⟩
   ·rw [h1]; exact hret v c σ' w' rfl h2 h3 h4 h5
   ·rw [h1]; exact hret v _ σ' w' rfl h2 h3 h4 h5
  | pan v =>
   rcases ev_pan hev with ⟨y,hy⟩ | h
   ·obtain ⟨x,rfl,hop⟩ := cOp_panic hy
    rw [hy] at hok hev
    obtain ⟨rfl,c,h1,h2⟩ := panic_ok (inv := inv) cx hop hok hev
    rw [h1]
    exact hpan v c σ w rfl h2 cx.hr (.refl _ _ _)
   ·exact absurd h hcall
end Go.Den
