/- A machine of abstract values and a typed machine above it, both proved sound for any program: part 1. -/
import Derived.Calls
import Derived.Deep.MidRow
import Derived.RowKit3
import Derived.Laws.StructEq
import Derived.Laws.Slices
import Derived.Laws.Strings2
import Derived.Laws.BytesArg
import Derived.ChangeKeysEq
import Derived.Orders
import Derived.Great.BuildSlice
import Derived.Laws.BytesString
import Derived.Laws.MakeOwn
import Derived.Lib.ConvBytes
set_option linter.unusedVariables false
/- The value machine: abstract values, states, the reading monad, the operations, the interpreter. -/
namespace Go.Vm

abbrev Slot := Nat

inductive AV where
  | any
  | anyc
  | int (k : IntKind) (n : Int)
  | bool (b : Bool)
  | str (s : List UInt8)
  | nilp
  | nil
  | emp
  | sl (e : Nat) (xs : List AV)
  | fresh (e : Nat) (xs : List AV)
  | agg (cs : List AV)
  | ro (cs : List AV)
  | inout (cs : List AV)
  | ref (d : Slot) (st i off : Nat)
  | sref (d : Slot) (st lo len : Nat)
  | spare (d : Slot) (st lo len : Nat)
  | fn (g : Nat) (first caps : List AV)
  | tuple (vs : List AV)
  deriving Inhabited

def AV.cells : AV → List AV
  | .agg cs => cs
  | x => [x]

/-- The value of one cell. -/
def AV.one : AV → Bool
  | .any | .agg _ | .tuple _ | .fresh _ _ | .inout _ => false
  | _ => true

def AV.solid : AV → Bool
  | .any => false
  | _ => true

def AV.plain : AV → Bool
  | .agg _ => false
  | _ => true

structure Obj where
  e : Nat
  xs : List AV
  var : Bool
  cap : Nat
  deriving Inhabited

structure SlotSt where
  st : Nat
  obj : Option Obj
  deriving Inhabited

def look (d : Slot) : List (Slot × SlotSt) → SlotSt
  | [] => ⟨0, none⟩
  | (d', s) :: r => if d' == d then s else look d r

def putO (d : Slot) (s : SlotSt) : List (Slot × SlotSt) → List (Slot × SlotSt)
  | [] => [(d, s)]
  | (d', s') :: r => if d' == d then (d, s) :: r else (d', s') :: putO d s r

def setF (d : Slot) (b : Bool) (l : List Slot) : List Slot :=
  let l' := l.filter (fun x => !(x == d))
  if b then d :: l' else l'

structure State where
  tm : List AV
  ob : List (Slot × SlotSt)
  fl : List Slot

def State.getT (σ : State) (n : Nat) : AV := σ.tm.getD n .any
def State.getO (σ : State) (d : Slot) : SlotSt := look d σ.ob
def State.getF (σ : State) (d : Slot) : Bool := σ.fl.contains d

inductive W where
  | t (n : Nat) (v : AV)
  | o (d : Slot) (s : SlotSt)
  | f (d : Slot) (b : Bool)

def W.apply (σ : State) : W → State
  | .t n v => { σ with tm := σ.tm.set n v }
  | .o d s => { σ with ob := putO d s σ.ob }
  | .f d b => { σ with fl := setF d b σ.fl }

def State.applyAll (σ : State) (ws : List W) : State := ws.foldl W.apply σ

inductive Key where
  | t (n : Nat)
  | o (d : Slot)
  | f (d : Slot)
  deriving DecidableEq

def W.key : W → Key
  | .t n _ => .t n
  | .o d _ => .o d
  | .f d _ => .f d

/-- Reading programs. -/
inductive R (α : Type) where
  | ret (a : α)
  | fail
  | getT (n : Nat) (k : AV → R α)
  | getO (d : Slot) (k : SlotSt → R α)
  | getF (d : Slot) (k : Bool → R α)

def R.bind {α β : Type} : R α → (α → R β) → R β
  | .ret a, f => f a
  | .fail, _ => .fail
  | .getT n k, f => .getT n fun v => (k v).bind f
  | .getO d k, f => .getO d fun v => (k v).bind f
  | .getF d k, f => .getF d fun v => (k v).bind f

instance : Monad R where
  pure := R.ret
  bind := R.bind

def R.run {α : Type} : R α → State → Option α
  | .ret a, _ => some a
  | .fail, _ => none
  | .getT n k, σ => (k (σ.getT n)).run σ
  | .getO d k, σ => (k (σ.getO d)).run σ
  | .getF d k, σ => (k (σ.getF d)).run σ

def R.foot {α : Type} : R α → State → List Key
  | .ret _, _ => []
  | .fail, _ => []
  | .getT n k, σ => .t n :: (k (σ.getT n)).foot σ
  | .getO d k, σ => .o d :: (k (σ.getO d)).foot σ
  | .getF d k, σ => .f d :: (k (σ.getF d)).foot σ

def R.ofOpt {α : Type} : Option α → R α
  | some a => .ret a
  | none => .fail

def R.guard (b : Bool) : R Unit := if b then .ret () else .fail

inductive Opnd where
  | t (n : Nat)
  | c (a : AV)
  deriving Inhabited

def Opnd.get : Opnd → R AV
  | .t n => .getT n .ret
  | .c a => .ret a

def theObj (d st : Nat) : R Obj := .getO d fun s => if s.st == st then R.ofOpt s.obj else .fail

def frz (d : Slot) : R Bool := .getF d .ret

abbrev Shape := List (Option Nat)

/-- A nil slice, where its elements' size is known, by value. -/
def nz1 : Option Nat → AV → AV
  | some e, .nil => .sl e []
  | some e, .emp => .sl e []
  | _, a => a
def nzL : Shape → List AV → List AV
  | h :: hs, a :: as => nz1 h a :: nzL hs as
  | _, as => as
def nz (sh : Shape) : AV → AV
  | .agg cs => .agg (nzL sh cs)
  | a => nz1 (sh.headD none) a
/-- .. owned and empty. -/
def nf1 : Option Nat → AV → AV
  | some e, .nil => if e = 0 then .nil else .fresh e []
  | some e, .emp => .sl e []
  | _, a => a
def nfL : Shape → List AV → List AV
  | h :: hs, a :: as => nf1 h a :: nfL hs as
  | _, as => as
def nf (sh : Shape) : AV → AV
  | .agg cs => .agg (nfL sh cs)
  | a => nf1 (sh.headD none) a

def mapV (g : AV → R (AV × List Slot)) : List AV → R (List AV × List Slot)
  | [] => .ret ([], [])
  | x :: xs => (g x).bind fun r => (mapV g xs).bind fun q => .ret (r.1 :: q.1, r.2 ++ q.2)

/-- By value: the value without references, and the slots that it was read from. -/
def valR : Nat → AV → R (AV × List Slot)
  | 0, _ => .fail
  | f + 1, a =>
    match a with
    | .any | .fresh _ _ | .inout _ | .spare _ _ _ _ | .tuple _ => .fail
    | .sref d st lo len => (theObj d st).bind fun o =>
      if !o.var && decide (lo + len ≤ o.xs.length) then .ret (.sl o.e ((o.xs.drop lo).take len), [d]) else .fail
    | .ref d st i off => (theObj d st).bind fun o =>
      match o.xs[i]? with
      | some x => (mapV (valR f) (x.cells.drop off)).bind fun q => .ret (.ro q.1, d :: q.2)
      | none => .fail
    | .agg cs => (mapV (valR f) cs).bind fun q => .ret (.agg q.1, q.2)
    | .fn g a c => (mapV (valR f) a).bind fun p => (mapV (valR f) c).bind fun q => .ret (.fn g p.1 q.1, p.2 ++ q.2)
    | a => .ret (a, [])

def mapE (g : AV → R (AV × List Slot × List Slot)) : List AV → R (List AV × List Slot × List Slot)
  | [] => .ret ([], [], [])
  | x :: xs => (g x).bind fun r => (mapE g xs).bind fun q => .ret (r.1 :: q.1, r.2.1 ++ q.2.1, r.2.2 ++ q.2.2)

/-- Handed out: what is owned goes as owned. The value, the slots that go with it, the slots that were read. -/
def expR : Nat → AV → R (AV × List Slot × List Slot)
  | 0, _ => .fail
  | f + 1, a =>
    match a with
    | .any | .fresh _ _ | .inout _ | .spare _ _ _ _ => .fail
    | .sref d st lo len => (theObj d st).bind fun o => (frz d).bind fun z =>
      if !o.var && decide (lo + len ≤ o.xs.length) then
        (if z then .ret (.sl o.e ((o.xs.drop lo).take len), [], [d]) else .ret (.fresh o.e ((o.xs.drop lo).take len), [d], []))
      else .fail
    | .ref d st i off => (theObj d st).bind fun o => (frz d).bind fun z =>
      match o.xs, i, off with
      | [x], 0, 0 => if o.var && !z then (mapE (expR f) x.cells).bind fun q => .ret (.inout q.1, d :: q.2.1, q.2.2) else .fail
      | _, _, _ => .fail
    | .agg cs => (mapE (expR f) cs).bind fun q => .ret (.agg q.1, q.2)
    | .tuple cs => (mapE (expR f) cs).bind fun q => .ret (.tuple q.1, q.2)
    | .fn g a c => (valR f (.fn g a c)).bind fun q => .ret (q.1, [], q.2)
    | a => .ret (a, [], [])

def mapI (g : Nat → AV → R (AV × List W × Nat)) : Nat → List AV → R (List AV × List W × Nat)
  | k, [] => .ret ([], [], k)
  | k, x :: xs => (g k x).bind fun r => (mapI g r.2.2 xs).bind fun q => .ret (r.1 :: q.1, r.2.1 ++ q.2.1, q.2.2)

/-- Taken in: at the slots 64 t + k, .. -/
def impR (t : Nat) : Nat → Nat → AV → R (AV × List W × Nat)
  | 0, _, _ => .fail
  | f + 1, k, a =>
    match a with
    | .any | .ref _ _ _ _ | .sref _ _ _ _ | .spare _ _ _ _ => .fail
    | .fresh e xs => .getO (64 * t + k) fun s =>
      .ret (.sref (64 * t + k) (s.st + 1) 0 xs.length, [.o (64 * t + k) ⟨s.st + 1, some ⟨e, xs, false, xs.length⟩⟩, .f (64 * t + k) false], k + 1)
    | .inout cs => .getO (64 * t + k) fun s => (mapI (impR t f) (k + 1) cs).bind fun q =>
      .ret (.ref (64 * t + k) (s.st + 1) 0 0, .o (64 * t + k) ⟨s.st + 1, some ⟨q.1.length, [.agg q.1], true, 1⟩⟩ :: .f (64 * t + k) false :: q.2.1, q.2.2)
    | .agg cs => (mapI (impR t f) k cs).bind fun q => .ret (.agg q.1, q.2)
    | .tuple cs => (mapI (impR t f) k cs).bind fun q => .ret (.tuple q.1, q.2)
    -- slices take a slot each, whether or not they bring memory
    | .sl e xs => .ret (.sl e xs, [], k + 1)
    | .nil => .ret (.nil, [], k + 1)
    | .emp => .ret (.emp, [], k + 1)
    | a => .ret (a, [], k)

/-- Comes with memory of its own. -/
def AV.handed : AV → Bool
  | .fresh _ _ | .inout _ => true
  | _ => false

/-- Holds no address of memory that was handed in. -/
def AV.flat : AV → Bool
  | .int _ _ | .bool _ | .str _ | .nilp | .nil => true
  | .sl _ xs => xs.isEmpty
  | .fresh _ xs => flatL xs
  | .agg cs => flatL cs
  | .inout cs => flatL cs
  | .tuple cs => flatL cs
  | _ => false
  where flatL : List AV → Bool
  | [] => true
  | x :: xs => x.flat && flatL xs

def intBin (op : BinOp) (k : IntKind) (a b : Int) : Option AV :=
  match op with
  | .add => some (.int k (k.wrap (a + b)))
  | .sub => some (.int k (k.wrap (a - b)))
  | .mul => some (.int k (k.wrap (a * b)))
  | .quo => if b = 0 then none else some (.int k (k.wrap (a.tdiv b)))
  | .rem => if b = 0 then none else some (.int k (a.tmod b))
  | .and => some (.int k (k.wrap (BitVec.ofInt k.bits a &&& BitVec.ofInt k.bits b).toNat))
  | .or => some (.int k (k.wrap (BitVec.ofInt k.bits a ||| BitVec.ofInt k.bits b).toNat))
  | .xor => some (.int k (k.wrap (BitVec.ofInt k.bits a ^^^ BitVec.ofInt k.bits b).toNat))
  | .andNot => some (.int k (k.wrap (BitVec.ofInt k.bits a &&& ~~~BitVec.ofInt k.bits b).toNat))
  | .eql => some (.bool (a == b))
  | .neq => some (.bool (a != b))
  | .lss => some (.bool (a < b))
  | .leq => some (.bool (a ≤ b))
  | .gtr => some (.bool (a > b))
  | .geq => some (.bool (a ≥ b))
  | _ => none

def binV (op : BinOp) (x y : AV) : Option AV :=
  match x, y with
  | .int k a, .int k' b =>
    match op with
    | .shl => if b < 0 then none else some (.int k (k.wrap (a * 2 ^ (min b.toNat k.bits))))
    | .shr => if b < 0 then none else some (.int k (a.fdiv (2 ^ (min b.toNat k.bits))))
    | _ => if k = k' then intBin op k a b else none
  | .str a, .str b =>
    match op with
    | .add => if a.length + b.length ≤ 9223372036854775807 then some (.str (a ++ b)) else none
    | .eql => some (.bool (a == b))
    | .neq => some (.bool (!(a == b)))
    | .lss => some (.bool (Op.bytesLess a b))
    | .leq => some (.bool (Op.bytesLess a b || a == b))
    | .gtr => some (.bool (!(Op.bytesLess a b || a == b)))
    | .geq => some (.bool (!(Op.bytesLess a b)))
    | _ => none
  | .bool a, .bool b =>
    match op with
    | .eql => some (.bool (a == b))
    | .neq => some (.bool (!(a == b)))
    | _ => none
  | .nil, .nil => match op with
    | .eql => some (.bool true)
    | .neq => some (.bool false)
    | _ => none
  | .emp, .nil => match op with
    | .eql => some (.bool false)
    | .neq => some (.bool true)
    | _ => none
  | .sl _ (_ :: _), .nil => match op with
    | .eql => some (.bool false)
    | .neq => some (.bool true)
    | _ => none
  | _, _ => none

/-- The operands' type, roughly. -/
def binTag : Nat → AV → Bool
  | 0, .int _ _ => true
  | 0, .str _ => true
  | 1, .bool _ => true
  | 2, .nil => true
  | 2, .emp => true
  | 2, .sl _ _ => true
  | _, _ => false

def eqCell : Nat → AV → AV → Option Bool
  | 0, .int k a, .int k' b => if k = k' then some (a == b) else none
  | 1, .bool a, .bool b => some (a == b)
  | 2, .str a, .str b => some (a == b)
  | _, _, _ => none

def eqCells : List Nat → List AV → List AV → Option Bool
  | [], [], [] => some true
  | k :: ks, x :: xs, y :: ys => match eqCell k x y with
    | some b => (eqCells ks xs ys).map (b && ·)
    | none => none
  | _, _, _ => none

def unV (op : UnOp) (x : AV) : Option AV :=
  match op, x with
  | .not, .bool b => some (.bool (!b))
  | .neg, .int k n => intBin .sub k 0 n
  | .xor, .int k n => intBin .xor k (if k.signed then -1 else k.max) n
  | _, _ => none

def bytesOf : List AV → Option (List UInt8)
  | [] => some []
  | .int .u8 n :: r => (bytesOf r).map (UInt8.ofNat n.toNat :: ·)
  | _ => none

inductive Mode where
  | val
  | io (n : Nat)
  | own
  deriving Inhabited

structure CArg where
  x : Opnd
  mode : Mode
  sh : Shape

inductive ROp where
  | mv (x : Opnd) (rehome : Bool)
  | pick (c a b : Opnd)
  | alloc (zero : AV)
  | box (n : Nat) (x : Opnd)
  | build (zero : List AV) (parts : List (Nat × Nat × Opnd))
  | buildSl (e : Nat) (zero : AV) (sh : Shape) (len : Nat) (parts : List (Nat × Opnd))
  | load (n : Nat) (agg : Bool) (x : Opnd)
  | store (n : Nat) (sh : Shape) (x v : Opnd)
  | nilck (x : Opnd)
  | bin (c : Nat) (op : BinOp) (x y : Opnd)
  | eqAgg (neg : Bool) (ks : List Nat) (x y : Opnd)
  | un (op : UnOp) (x : Opnd)
  | conv (k : IntKind) (x : Opnd)
  | toStr (str : Bool) (x : Opnd)
  | toBytes (x : Opnd)
  | mkSl (e bytes : Nat) (zero : AV) (len cap : Opnd)
  | slice (e : Nat) (x : Opnd) (lo hi mx : Option Opnd)
  | sliceArr (n e : Nat) (agg : Bool) (x : Opnd) (lo hi : Option Opnd)
  | fld (off : Nat) (x : Opnd)
  | fldV (off n : Nat) (agg : Bool) (x : Opnd)
  | ixA (e : Nat) (x i : Opnd)
  | ixArr (n e : Nat) (x i : Opnd)
  | ixV (n e : Nat) (agg : Bool) (x i : Opnd)
  | ixS (x i : Opnd)
  | ext (x : Opnd) (i : Nat)
  | len (str : Bool) (x : Opnd)
  | app (e bytes : Nat) (x y : Opnd)
  | copy (e : Nat) (x y : Opnd)
  | clear (e : Nat) (x : Opnd)
  | mm (max : Bool) (x y : Opnd)
  | call (g : Nat) (args : List CArg)
  | callv (f : Opnd) (args : List CArg)
  | mkfn (g : Nat) (first caps : List Opnd)

structure Ins where
  dst : Option Nat
  guard : Option (Nat × Bool)
  op : ROp

inductive RCode where
  | skip
  | ret
  | exit (id : Nat)
  | seq (a b : RCode)
  | cond (c : Opnd) (a b : RCode)
  | block (id : Nat) (a : RCode)
  | loop (lv : Option (Nat × List Nat × List Slot)) (a : RCode)
  | region (ins : List Ins) (bef : Option (List Nat))
  deriving Inhabited

inductive Ex where
  | normal
  | exit (id : Nat)
  | ret
  deriving DecidableEq

structure Res where
  val : AV
  back : List (Option AV)

inductive Req where
  | call (g : Nat) (args : List AV)
  | loop (lv : Option (Nat × List Nat × List Slot)) (a : RCode) (σ : State)

inductive Out where
  | res (r : Res)
  | st (e : Ex) (σ : State)

abbrev Oracle := Req → Option Out

/-- What an argument that goes as owned was: a part of a variable, or a whole slice. -/
inductive Back where
  | no
  | part (d st i off n : Nat)
  | whole (d st : Nat)

structure Sent where
  a : AV
  moved : List Slot      -- go with it
  read : List Slot
  back : Back

def repl (cs : List AV) (off : Nat) : List AV → List AV
  | [] => cs
  | v :: vs => repl (cs.set off v) (off + 1) vs

/-- The element with cells replaced from off on. -/
def AV.upd (x : AV) (off : Nat) (vs : List AV) : AV :=
  match x with
  | .agg cs => .agg (repl cs off vs)
  | x => match vs with
    | v :: _ => if off == 0 then v else x
    | [] => x

def expL (f : Nat) : List AV → R (List AV × List Slot × List Slot) := mapE (expR f)

def depth : Nat := 6

def sendIo (d st i off n : Nat) : R Sent :=
  (theObj d st).bind fun o => (frz d).bind fun z =>
    match o.xs[i]? with
    | some x =>
      if o.var && !z && decide (0 < n ∧ off + n ≤ x.cells.length) then
        (expL depth ((x.cells.drop off).take n)).bind fun q => .ret ⟨.inout q.1, d :: q.2.1, q.2.2, .part d st i off n⟩
      else .fail
    | none => .fail

def sendR (c : CArg) : R Sent :=
  c.x.get.bind fun a =>
    match c.mode, a with
    | .io n, .ref d st i off => sendIo d st i off n
    | .own, .sref d st lo len => (theObj d st).bind fun o => (frz d).bind fun z =>
        if !o.var && !z && lo == 0 && len == o.xs.length then .ret ⟨.fresh o.e o.xs, [d], [], .whole d st⟩
        else (valR depth a).bind fun q => .ret ⟨nz c.sh q.1, [], q.2, .no⟩
    | .own, .nil => .ret ⟨nf c.sh a, [], [], .no⟩
    | .own, .agg cs => (expR depth (.agg cs)).bind fun q => .ret ⟨nf c.sh q.1, q.2.1, q.2.2, .no⟩
    | _, a => (valR depth a).bind fun q => .ret ⟨nz c.sh q.1, [], q.2, .no⟩

/-- A captured variable. -/
def sendCap (a : AV) : R Sent :=
  match a with
  | .ref d st i off => (theObj d st).bind fun o =>
    match o.xs[i]? with
    | some x => sendIo d st i off x.cells.length
    | none => .fail
  | a => (valR depth a).bind fun q => .ret ⟨q.1, [], q.2, .no⟩

def mapR {α β : Type} (f : α → R β) : List α → R (List β)
  | [] => .ret []
  | x :: xs => (f x).bind fun y => (mapR f xs).bind fun ys => .ret (y :: ys)

def nodup : List Nat → Bool
  | [] => true
  | x :: xs => !xs.contains x && nodup xs

/-- What comes back of the arguments that were owned. -/
def backR (t : Nat) : Nat → List Sent → List (Option AV) → R (List W)
  | _, [], [] => .ret []
  | k, s :: ss, b :: bs =>
    match s.back, b with
    | .no, none => backR t k ss bs
    | .part d st i off n, some (.inout cs) =>
      if cs.length == n then
        (impR t depth k (.agg cs)).bind fun q =>
          match q.1 with
          | .agg cs' => (theObj d st).bind fun o =>
            match o.xs[i]? with
            | some x => if !cs'.all AV.plain then .fail else (backR t q.2.2 ss bs).bind fun ws => .ret (.o d ⟨st, some { o with xs := o.xs.set i (x.upd off cs') }⟩ :: q.2.1 ++ ws)
            | none => .fail
          | _ => .fail
      else .fail
    | .whole d st, some (.fresh e xs) => (theObj d st).bind fun o =>
        if o.e == e && xs.length == o.xs.length then (backR t k ss bs).bind fun ws => .ret (.o d ⟨st, some ⟨e, xs, false, o.cap⟩⟩ :: ws) else .fail
    | .whole _ _, none => backR t k ss bs
    | _, _ => .fail
  | _, _, _ => .fail

def flatBacks : List (Option AV) → Bool
  | [] => true
  | none :: r => flatBacks r
  | some a :: r => a.flat && flatBacks r

def madeAt : List W → List Slot
  | [] => []
  | .o d s :: r => if s.obj.isSome then d :: madeAt r else madeAt r
  | _ :: r => madeAt r

def callR (o : Oracle) (t : Nat) (g : Nat) (ss : List Sent) : R (AV × List W) :=
  let moved := ss.flatMap (·.moved)
  let read := ss.flatMap (·.read)
  if nodup moved && read.all (fun d => !moved.contains d) then
    match o (.call g (ss.map (·.a))) with
    | some (.res r) =>
      (mapR (fun d => R.getO d .ret) moved).bind fun olds =>
      let gone := (moved.zip olds).map fun (d, s) => W.o d ⟨s.st, none⟩
      (impR t depth 0 r.val).bind fun q =>
      (backR t q.2.2 ss r.back).bind fun ws =>
      let fs := if read.isEmpty || (r.val.flat && flatBacks r.back) then [] else read.map (W.f · true)
      if nodup (madeAt (q.2.1 ++ ws)) then .ret (q.1, gone ++ q.2.1 ++ ws ++ fs) else .fail
    | _ => .fail
  else .fail

def slot (dst : Option Nat) : Slot := 64 * dst.getD 0

/-- A new object at the instruction's slot. -/
def mk (d : Slot) (o : Obj) (z : Bool) (v : Nat → AV) (more : List W) : R (AV × List W) :=
  .getO d fun s => .ret (v (s.st + 1), more ++ [.o d ⟨s.st + 1, some o⟩, .f d z])

def fillL (cs : List AV) : List (Nat × Nat × AV) → Option (List AV)
  | [] => some cs
  | (off, n, v) :: r => if v.cells.length == n && v.solid && decide (off + n ≤ cs.length) then fillL (repl cs off v.cells) r else none

def chunks (e : Nat) : Nat → List AV → List AV
  | 0, _ => []
  | n + 1, cs => .agg (cs.take e) :: chunks e n (cs.drop e)

def idx : AV → R Int
  | .int _ n => .ret n
  | _ => .fail

def bound (lim : Nat) (dflt : Nat) : Option Opnd → R Nat
  | none => .ret dflt
  | some x => x.get.bind fun a => (idx a).bind fun n => if 0 ≤ n ∧ n ≤ lim then .ret n.toNat else .fail

def elems (e : Nat) : AV → R (List AV)
  | .nil => .ret []
  | .emp => .ret []
  | .sl e' xs => if e' == e then .ret xs else .fail
  | .sref d st lo len => (theObj d st).bind fun o => if o.e == e && !o.var && decide (lo + len ≤ o.xs.length) then .ret ((o.xs.drop lo).take len) else .fail
  | .str s => if e == 1 then .ret (s.map fun b => .int .u8 b.toNat) else .fail
  | _ => .fail

def setFs (l : List Slot) : List W := l.map (W.f · true)

def ROp.sem (orc : Oracle) (dst : Option Nat) : ROp → R (AV × List W)
  | .mv x rh => x.get.bind fun a =>
    if rh then
      match a with
      | .sref d st lo ln => (theObj d st).bind fun o => (frz d).bind fun z =>
        if d == slot dst then .ret (a, []) else mk (slot dst) o z (fun s => .sref (slot dst) s lo ln) [.o d ⟨st, none⟩]
      | a => .ret (a, [])
    else .ret (a, [])
  | .pick c a b => c.get.bind fun c => a.get.bind fun a => b.get.bind fun b =>
    match c with
    | .bool true => .ret (a, [])
    | .bool false => .ret (b, [])
    | _ => .fail
  | .alloc zero => mk (slot dst) ⟨zero.cells.length, [zero], true, 1⟩ false (fun s => .ref (slot dst) s 0 0) []
  | .box n x => x.get.bind fun a => if a.cells.length == n && a.solid then mk (slot dst) ⟨n, [a], true, 1⟩ false (fun s => .ref (slot dst) s 0 0) [] else .fail
  | .build zero parts => (mapR (fun (p : Nat × Nat × Opnd) => p.2.2.get.bind fun a => .ret (p.1, p.2.1, a)) parts).bind fun ps =>
    match fillL zero ps with
    | some cs => .ret (.agg cs, [])
    | none => .fail
  | .buildSl e zero sh ln parts => (mapR (fun (p : Nat × Opnd) => p.2.get.bind fun a => (valR depth a).bind fun q => .ret (p.1, nz sh q.1, q.2)) parts).bind fun ps =>
    if ps.all (fun p => decide (p.1 < ln) && p.2.1.cells.length == e && p.2.1.cells.all AV.one) && (zero.cells.length == e && zero.cells.all AV.one) then
      mk (slot dst) ⟨e, ps.foldl (fun xs p => xs.set p.1 p.2.1) (List.replicate ln zero), false, ln⟩ false (fun s => .sref (slot dst) s 0 ln)
        (setFs (ps.flatMap (·.2.2)))
    else .fail
  | .load n agg x => x.get.bind fun a =>
    let take (cs : List AV) : R (AV × List W) :=
      if agg then (if n ≤ cs.length then .ret (.agg (cs.take n), []) else .fail)
      else match cs with
        | c :: _ => .ret (c, [])
        | [] => .fail
    match a with
    | .ro cs => take cs
    | .ref d st i off => (theObj d st).bind fun o =>
      match o.xs[i]? with
      | some x => take (x.cells.drop off)
      | none => .fail
    | _ => .fail
  | .store n sh x v => x.get.bind fun a => v.get.bind fun b =>
    match a with
    | .ref d st i off => (theObj d st).bind fun o => (frz d).bind fun z =>
      match o.xs[i]? with
      | some y =>
        if !z && b.cells.length == n && decide (off + n ≤ y.cells.length) && b.cells.all AV.one then
          if o.var then .ret (.any, [.o d ⟨st, some { o with xs := o.xs.set i (y.upd off b.cells) }⟩])
          else (valR depth b).bind fun q =>
            if q.2.contains d || !(nz sh q.1).cells.all AV.one || (nz sh q.1).cells.length != n then .fail else
            .ret (.any, setFs q.2 ++ [.o d ⟨st, some { o with xs := o.xs.set i (y.upd off (nz sh q.1).cells) }⟩])
        else .fail
      | none => .fail
    | _ => .fail
  | .nilck x => x.get.bind fun a =>
    match a with
    | .ro _ => .ret (a, [])
    | .fn _ _ _ => .ret (a, [])
    | .ref d st _ _ => (theObj d st).bind fun _ => .ret (a, [])
    | _ => .fail
  | .bin c op x y => x.get.bind fun a => y.get.bind fun b => if binTag c a then (R.ofOpt (binV op a b)).bind fun v => .ret (v, []) else .fail
  | .eqAgg neg ks x y => x.get.bind fun a => y.get.bind fun b =>
    match a, b with
    | .agg cs, .agg ds => (R.ofOpt (eqCells ks cs ds)).bind fun v => .ret (.bool (v != neg), [])
    | _, _ => .fail
  | .un op x => x.get.bind fun a => (R.ofOpt (unV op a)).bind fun v => .ret (v, [])
  | .conv k x => x.get.bind fun a =>
    match a with
    | .int _ n => .ret (.int k (k.wrap n), [])
    | _ => .fail
  | .toStr st x => x.get.bind fun a =>
    match st, a with
    | true, .str s => .ret (.str s, [])
    | true, _ => .fail
    | false, .str _ => .fail
    | false, a => (elems 1 a).bind fun xs => (R.ofOpt (bytesOf xs)).bind fun l => .ret (.str l, [])
  | .toBytes x => x.get.bind fun a =>
    match a with
    | .str s => mk (slot dst) ⟨1, s.map fun b => .int .u8 b.toNat, false, s.length⟩ false (fun n => .sref (slot dst) n 0 s.length) []
    | _ => .fail
  | .mkSl e bytes zero ln cap => ln.get.bind fun a => (idx a).bind fun n => cap.get.bind fun b => (idx b).bind fun c =>
    if 0 ≤ n ∧ n ≤ c ∧ bytes * c ≤ 140737488355328 ∧ c ≤ 9223372036854775807 ∧ zero.cells.length = e ∧ zero.cells.all AV.one = true then
      mk (slot dst) ⟨e, List.replicate n.toNat zero, false, c.toNat⟩ false (fun s => .sref (slot dst) s 0 n.toNat) []
    else .fail
  | .slice e x lo hi mx => x.get.bind fun a =>
    match a with
    | .str s => (bound s.length s.length hi).bind fun h => (bound h 0 lo).bind fun l =>
      if mx.isNone && e == 0 then .ret (.str ((s.drop l).take (h - l)), []) else .fail
    | .sl e' xs => (bound xs.length xs.length mx).bind fun m => (bound m xs.length hi).bind fun h => (bound h 0 lo).bind fun l =>
      if e' == e && e != 0 then .ret (.sl e ((xs.drop l).take (h - l)), []) else .fail
    | .nil => (bound 0 0 mx).bind fun m => (bound m 0 hi).bind fun h => (bound h 0 lo).bind fun _ => if e == 0 then .fail else .ret (.nil, [])
    | .sref d st l0 ln => (theObj d st).bind fun o =>
      if o.e == e && e != 0 && !o.var && decide (l0 + ln ≤ o.xs.length) then
        match mx with
        | some _ => (bound ln ln mx).bind fun m => (bound m ln hi).bind fun h => (bound h 0 lo).bind fun _ => .ret (.any, [])
        | none => (bound (o.cap - l0) ln hi).bind fun h => (bound h 0 lo).bind fun l =>
          if h ≤ ln then .ret (.sref d st (l0 + l) (h - l), [])
          else if o.xs.length ≤ l0 + l ∧ l < h then .ret (.spare d st (l0 + l) (h - l), [])
          else .fail
      else .fail
    | _ => .fail
  | .sliceArr n e agg x lo hi => x.get.bind fun a =>
    match a with
    | .ref d st 0 0 => (theObj d st).bind fun o => (frz d).bind fun z =>
      match o.xs with
      | [.agg cs] => (bound n n hi).bind fun h => (bound h 0 lo).bind fun l => (valR depth (.agg cs)).bind fun q =>
        if o.var && !z && cs.length == n * e && (agg || e == 1) && !(d == slot dst) && !q.2.contains d && q.1.cells.all AV.one && q.1.cells.length == n * e then
          mk (slot dst) ⟨e, if agg then chunks e n q.1.cells else q.1.cells, false, n⟩ false (fun s => .sref (slot dst) s l (h - l)) (.o d ⟨st, none⟩ :: setFs q.2)
        else .fail
      | _ => .fail
    | _ => .fail
  | .fld off x => x.get.bind fun a =>
    match a with
    | .ro cs => .ret (.ro (cs.drop off), [])
    | .ref d st i o => (theObj d st).bind fun _ => .ret (.ref d st i (o + off), [])
    | _ => .fail
  | .fldV off n agg x => x.get.bind fun a =>
    match a with
    | .agg cs => if agg then (if off + n ≤ cs.length then .ret (.agg ((cs.drop off).take n), []) else .fail) else (R.ofOpt cs[off]?).bind fun c => .ret (c, [])
    | _ => .fail
  | .ixA e x i => x.get.bind fun a => i.get.bind fun b => (idx b).bind fun n =>
    match a with
    | .sl e' xs => if e' == e && decide (0 ≤ n) then (match xs[n.toNat]? with | some y => .ret (.ro y.cells, []) | none => .fail) else .fail
    | .sref d st lo ln => (theObj d st).bind fun o => if o.e == e && decide (0 ≤ n ∧ n < ln) then .ret (.ref d st (lo + n.toNat) 0, []) else .fail
    | _ => .fail
  | .ixArr n e x i => x.get.bind fun a => i.get.bind fun b => (idx b).bind fun j =>
    if 0 ≤ j ∧ j < n then
      match a with
      | .ro cs => .ret (.ro (cs.drop (j.toNat * e)), [])
      | .ref d st k o => (theObj d st).bind fun _ => .ret (.ref d st k (o + j.toNat * e), [])
      | _ => .fail
    else .fail
  | .ixV n e agg x i => x.get.bind fun a => i.get.bind fun b => (idx b).bind fun j =>
    if 0 ≤ j ∧ j < n then
      match a with
      | .agg cs => if agg then (if j.toNat * e + e ≤ cs.length then .ret (.agg ((cs.drop (j.toNat * e)).take e), []) else .fail) else (R.ofOpt cs[j.toNat * e]?).bind fun c => .ret (c, [])
      | _ => .fail
    else .fail
  | .ixS x i => x.get.bind fun a => i.get.bind fun b => (idx b).bind fun j =>
    match a with
    | .str s => if 0 ≤ j then (match s[j.toNat]? with | some c => .ret (.int .u8 c.toNat, []) | none => .fail) else .fail
    | _ => .fail
  | .ext x i => x.get.bind fun a =>
    match a with
    | .tuple vs => (R.ofOpt vs[i]?).bind fun v => .ret (v, [])
    | _ => .fail
  | .len st x => x.get.bind fun a =>
    match st, a with
    | true, .str s => .ret (.int .i64 s.length, [])
    | false, .nil => .ret (.int .i64 0, [])
    | false, .emp => .ret (.int .i64 0, [])
    | false, .sl _ xs => .ret (.int .i64 xs.length, [])
    | false, .sref d st _ ln => (theObj d st).bind fun _ => .ret (.int .i64 ln, [])
    | _, _ => .fail
  | .app e bytes x y => x.get.bind fun a => y.get.bind fun b => (elems e b).bind fun ys =>
    match a with
    | .nil => if ys.length * bytes ≤ 140737488355328 then mk (slot dst) ⟨e, ys, false, ys.length⟩ false (fun s => .sref (slot dst) s 0 ys.length) [] else .fail
    | .sref d st lo ln => (theObj d st).bind fun o => (frz d).bind fun z =>
      if o.e == e && !o.var && decide (lo + ln ≤ o.xs.length) && (!z || lo + ln == o.xs.length) && decide ((ln + ys.length) * bytes ≤ 140737488355328) then
        mk (slot dst) ⟨e, (o.xs.drop lo).take ln ++ ys, false, max (ln + ys.length) (if lo + ln + ys.length ≤ o.cap then o.cap - lo else 0)⟩ z
          (fun s => .sref (slot dst) s 0 (ln + ys.length)) (if d == slot dst then [] else [.o d ⟨st, none⟩])
      else .fail
    | _ => .fail
  | .copy e x y => x.get.bind fun a => y.get.bind fun b => (elems e b).bind fun ys =>
    match a with
    | .sref d st lo ln => (theObj d st).bind fun o => (frz d).bind fun z =>
      if o.e == e && !o.var && !z && decide (lo + ln ≤ o.xs.length ∧ ys.length ≤ ln) then
        .ret (.int .i64 ys.length, [.o d ⟨st, some { o with xs := o.xs.take lo ++ ys ++ o.xs.drop (lo + ys.length) }⟩])
      else .fail
    | _ => .fail
  | .clear e x => x.get.bind fun a =>
    match a with
    | .spare d st lo _ => (theObj d st).bind fun o => (frz d).bind fun z => if o.e == e && !z && decide (o.xs.length ≤ lo) then .ret (.tuple [], []) else .fail
    | _ => .fail
  | .mm mx x y => x.get.bind fun a => y.get.bind fun b =>
    match a, b with
    | .int k m, .int k' n => if k = k' then .ret (.int k (if mx then (if n > m then n else m) else (if n < m then n else m)), []) else .fail
    | _, _ => .fail
  | .call g args => (mapR sendR args).bind fun ss => callR orc (dst.getD 0) g ss
  | .callv f args => f.get.bind fun a =>
    match a with
    | .fn g first caps => (mapR sendCap first).bind fun s1 => (mapR sendR args).bind fun s2 => (mapR sendCap caps).bind fun s3 => callR orc (dst.getD 0) g (s1 ++ s2 ++ s3)
    | _ => .fail
  | .mkfn g first caps => (mapR Opnd.get first).bind fun a => (mapR Opnd.get caps).bind fun c => .ret (.fn g a c, [])

def dstW (d : Option Nat) (v : AV) : List W :=
  match d with
  | some d => [.t d v]
  | none => []

def Ins.sem (orc : Oracle) (i : Ins) : R (List W) :=
  let main : R (List W) := (i.op.sem orc i.dst).bind fun q => .ret (q.2 ++ dstW i.dst q.1)
  match i.guard with
  | none => main
  | some (g, want) => .getT g fun v =>
    match v with
    | .bool b => if b == want then main else .ret (dstW i.dst (.tuple []))
    | .tuple [] => .ret (dstW i.dst (.tuple []))
    | _ => .fail

def runIns (orc : Oracle) : List Ins → State → Option State
  | [], σ => some σ
  | i :: is, σ => match (i.sem orc).run σ with
    | some ws => runIns orc is (σ.applyAll ws)
    | none => none

/-- .. with the keys that each one reads and writes. -/
def runFoot (orc : Oracle) : List Ins → State → List (List Key × List Key)
  | [], _ => []
  | i :: is, σ => match (i.sem orc).run σ with
    | some ws => ((i.sem orc).foot σ, ws.map W.key) :: runFoot orc is (σ.applyAll ws)
    | none => []

def disj (a b : List Key) : Bool := a.all fun x => !b.contains x

def pairOk (a b : List Key × List Key) : Bool := disj a.2 b.1 && disj a.2 b.2 && disj a.1 b.2

/-- 'bef': for each instruction the set of those that come before it in every order. -/
def drawOk : List Nat → List (List Key × List Key) → Bool
  | bef, fs => fs.zipIdx.all fun (b, j) => (fs.take j).zipIdx.all fun (a, i) => (bef.getD j 0).testBit i || pairOk a b

/-- Stamps told anew: 1 stays where the slot is of an argument. -/
def newSt (b : Nat) (d : Slot) (st : Nat) : Nat := if d < b && st == 1 then 1 else 2

def AV.clean (b : Nat) (live : List Slot) (ob : List (Slot × SlotSt)) : AV → AV
  | .ref d st i off => if live.contains d && (look d ob).st == st && (look d ob).obj.isSome then .ref d (newSt b d st) i off else .anyc
  | .sref d st lo len => if live.contains d && (look d ob).st == st && (look d ob).obj.isSome then .sref d (newSt b d st) lo len else .anyc
  | .spare _ _ _ _ => .anyc
  | .agg cs => .agg (cleanL b live ob cs)
  | .fn g a c => .fn g (cleanL b live ob a) (cleanL b live ob c)
  | .tuple _ => .any
  | a => a
  where cleanL (b : Nat) (live : List Slot) (ob : List (Slot × SlotSt)) : List AV → List AV
  | [] => []
  | x :: xs => x.clean b live ob :: cleanL b live ob xs

def cleanObj (b : Nat) (live : List Slot) (ob : List (Slot × SlotSt)) (o : Obj) : Obj :=
  if o.var then { o with xs := AV.clean.cleanL b live ob o.xs } else o

def keepT (live : List Nat) (f : AV → AV) : Nat → List AV → List AV
  | _, [] => []
  | n, a :: as => (if live.contains n then f a else .any) :: keepT live f (n + 1) as

def norm (lv : Option (Nat × List Nat × List Slot)) (σ : State) : State :=
  match lv with
  | none => σ
  | some (b, ts, ds) =>
    { tm := keepT ts (AV.clean b ds σ.ob) 0 σ.tm
      ob := (ds.map fun d => (d, ⟨newSt b d (look d σ.ob).st, (look d σ.ob).obj.map (cleanObj b ds σ.ob)⟩)) ++
        ((List.range (b / 64)).filter fun t => !ds.contains (64 * t)).map fun t => (64 * t, ⟨2, none⟩)
      fl := ds.filter fun d => σ.fl.contains d }

def Opnd.val (σ : State) : Opnd → AV
  | .t n => σ.getT n
  | .c a => a

def interp (orc : Oracle) : RCode → State → Option (Ex × State)
  | .skip, σ => some (.normal, σ)
  | .ret, σ => some (.ret, σ)
  | .exit id, σ => some (.exit id, σ)
  | .seq a b, σ => match interp orc a σ with
    | some (.normal, σ') => interp orc b σ'
    | r => r
  | .cond c a b, σ => match c.val σ with
    | .bool true => interp orc a σ
    | .bool false => interp orc b σ
    | _ => none
  | .block id a, σ => match interp orc a σ with
    | some (.exit id', σ') => if id' = id then some (.normal, σ') else some (.exit id', σ')
    | r => r
  | .loop lv a, σ => match orc (.loop lv a σ) with
    | some (.st e σ') => some (e, σ')
    | _ => none
  | .region ins bef, σ => match bef with
    | none => (runIns orc ins σ).map fun σ' => (.normal, σ')
    | some bs => match runIns orc ins σ with
      | some σ' => if drawOk bs (runFoot orc ins σ) then some (.normal, σ') else none
      | none => none

inductive RRes where
  | t (n : Nat)
  | cell (a n : Nat) (agg : Bool)

structure RFunc where
  np : Nat
  nt : Nat
  body : RCode
  res : List (RRes × Shape)
  deriving Inhabited

structure Sys where
  fn : Nat → Option RFunc
  prim : Nat → Option (List AV → Option Res)
  split : Nat → Bool

def obsOf : List W → List (Slot × SlotSt)
  | [] => []
  | .o d s :: r => (d, s) :: obsOf r
  | _ :: r => obsOf r

/-- The arguments, taken in. -/
def entryL : Nat → List AV → Option (List AV × List (Slot × SlotSt))
  | _, [] => some ([], [])
  | t, a :: as =>
    match (impR t depth 0 a).run ⟨[], [], []⟩ with
    | some (v, ws, k) => if 64 < k then none else
      match entryL (t + 1) as with
      | some r => some (v :: r.1, obsOf ws ++ r.2)
      | none => none
    | none => none

def entry (nt : Nat) (args : List AV) : Option State :=
  match entryL 0 args with
  | some r => some { tm := r.1 ++ List.replicate (nt - args.length) .any, ob := r.2, fl := [] }
  | none => none

def RRes.get : RRes → R AV
  | .t n => .getT n .ret
  | .cell a n agg => (ROp.load n agg (.t a)).sem (fun _ => none) none |>.bind fun q => .ret q.1

/-- What becomes of the arguments that came as owned: the values, the slots that go with them, the slots that were read. -/
def leaveR (taken : List Slot) : Nat → List AV → R (List (Option AV) × List Slot × List Slot)
  | _, [] => .ret ([], [], [])
  | t, a :: as =>
    match a with
    | .inout _ => .getO (64 * t) fun s =>
      match s.obj with
      | some _ => if s.st == 1 then
          (expR depth (.ref (64 * t) 1 0 0)).bind fun q => (leaveR taken (t + 1) as).bind fun r => .ret (some q.1 :: r.1, q.2.1 ++ r.2.1, q.2.2 ++ r.2.2)
        else .fail
      | none => .fail
    | .fresh _ xs => .getO (64 * t) fun s =>
      match s.obj with
      | some o =>
        if s.st == 1 && !taken.contains (64 * t) && o.xs.length == xs.length && !o.var then
          (frz (64 * t)).bind fun z => if z then .fail else (leaveR taken (t + 1) as).bind fun r => .ret (some (.fresh o.e o.xs) :: r.1, 64 * t :: r.2.1, r.2.2)
        else (leaveR taken (t + 1) as).bind fun r => .ret (none :: r.1, r.2)
      | none => (leaveR taken (t + 1) as).bind fun r => .ret (none :: r.1, r.2)
    | _ => (leaveR taken (t + 1) as).bind fun r => .ret (none :: r.1, r.2)

def shapes (sh : List Shape) : List AV → List AV
  | [] => []
  | a :: as => nf (sh.headD []) a :: shapes sh.tail as

def tupA : List AV → AV
  | [v] => v
  | vs => .tuple vs

def finish (f : RFunc) (args : List AV) : R Res :=
  (mapR (fun (r : RRes × Shape) => r.1.get) f.res).bind fun vs =>
  (expL depth vs).bind fun q =>
  (leaveR q.2.1 0 args).bind fun b =>
  let vals := shapes (f.res.map (·.2)) q.1
  if nodup (q.2.1 ++ b.2.1) && (q.2.2 ++ b.2.2).all (fun d => !(q.2.1 ++ b.2.1).contains d) then
    .ret ⟨tupA vals, b.1⟩
  else .fail

def callFn (orc : Oracle) (f : RFunc) (args : List AV) : Option Res :=
  if args.length = f.np ∧ f.np ≤ f.nt then
    match entry f.nt args with
    | some σ0 =>
      match interp orc f.body σ0 with
      | some (.normal, σ) | some (.ret, σ) => (finish f args).run σ
      | _ => none
    | none => none
  else none

def Sys.step (S : Sys) (orc : Oracle) : Req → Option Out
  | .loop lv a σ => match interp orc a (norm lv σ) with
    | some (.normal, σ') => orc (.loop lv a σ')
    | some (e, σ') => some (.st e σ')
    | none => none
  | .call g args =>
    match S.prim g with
    | some p => (p args).map .res
    | none => match S.fn g with
      | some f => (callFn orc f args).map .res
      | none => none

def Sys.runN (S : Sys) : Nat → Oracle
  | 0, _ => none
  | n + 1, q => S.step (S.runN n) q

end Go.Vm
/- From the program's own code to the value machine's. -/
namespace Go.Vm

structure Hints where
  loops : List (Nat × (List Nat × List Slot)) := []
  rehome : List Nat := []

structure Cx where
  P : Program
  φ : FuncId → Option Nat
  own : Nat → List Nat
  h : Hints

def toAV : Value → AV
  | .bool b => .bool b
  | .int k n => .int k n
  | .string s => .str s.data.toList
  | .pointer none => .nilp
  | .slice none 0 0 => .nil
  | .agg _ | .tuple _ => .any
  | _ => .anyc

/-- One of a whole type. -/
def zeroAV : Value → AV
  | .agg cs => .agg (cs.toList.map toAV)
  | v => toAV v

def isAggP (P : Program) (t : TypeId) : Bool :=
  match P.underlying t with
  | some (.struct _) | some (.array _ _) => true
  | _ => false

def opnd (C : Cx) : Operand → Option Opnd
  | .tmp t => some (.t t)
  | .const (.agg cs) => some (.c (.agg (cs.toList.map toAV)))
  | .const v => some (.c (toAV v))
  | .func f => (C.φ f).map fun g => .c (.fn g [] [])
  | .global _ => none

def shapeP (P : Program) : Nat → TypeId → Option Shape
  | 0, _ => none
  | d + 1, t =>
    match P.underlying t with
    | some (.slice e) => some [some (P.cellsOf e)]
    | some (.struct fs) => fs.toList.foldr (fun f acc => match shapeP P d f.type, acc with | some a, some b => some (a ++ b) | _, _ => none) (some [])
    | some (.array n e) => (shapeP P d e).map fun s => (List.replicate n s).flatten
    | some _ => some [none]
    | none => none

def sliceElem (P : Program) (t : TypeId) : Option TypeId :=
  match P.underlying t with
  | some (.slice e) => some e
  | _ => none

def zeroP (P : Program) (t : TypeId) : Option AV := ((P.info? t).bind (·.zero)).map zeroAV

def okSize (P : Program) (t : TypeId) : Bool := decide (0 < P.cellsOf t) && (P.underlying t).isSome

def eqKs (f : TypeId → Option (List Nat)) (P : Program) : List Field → Nat → Option (List Nat)
  | [], _ => some []
  | fd :: fs, acc =>
    if fd.name != "_" && fd.offset == acc && okSize P fd.type then
      match f fd.type with
      | some ks => if ks.length == P.cellsOf fd.type then (eqKs f P fs (acc + ks.length)).map (ks ++ ·) else none
      | none => none
    else none

/-- The kinds of the cells of a type whose values are compared cell by cell. -/
def eqK (P : Program) : Nat → TypeId → Option (List Nat)
  | 0, _ => none
  | d + 1, t =>
    match P.underlying t with
    | some .bool => some [1]
    | some (.int _) => some [0]
    | some .string => some [2]
    | some (.struct fs) => if P.stoodInHeld t then none else eqKs (eqK P d) P fs.toList 0
    | _ => none

def argP (C : Cx) (g : Option Nat) (x : Operand) (t : Option TypeId) (i : Nat) : Option CArg :=
  match opnd C x with
  | none => none
  | some x =>
    match t with
    | none => some ⟨x, .val, []⟩
    | some t =>
      match C.P.underlying t with
      | some (.pointer e) => some ⟨x, .io (C.P.cellsOf e), []⟩
      | _ => match shapeP C.P 8 t with
        | some sh => some ⟨x, if (g.map C.own).any (·.contains i) then .own else .val, sh⟩
        | none => some ⟨x, .val, []⟩

def optM {α β : Type} (f : α → Option β) : Option α → Option (Option β)
  | none => some none
  | some a => (f a).map some

def opP (C : Cx) (o : Oper) : Option ROp :=
  let P := C.P
  match o.op with
  | .move x => (opnd C x).map fun x => .mv x false
  | .assign x => (opnd C x).map fun x => .mv x (o.dst.any C.h.rehome.contains)
  | .pick c a b => do pure (.pick (← opnd C c) (← opnd C a) (← opnd C b))
  | .alloc t => do
    guard (okSize P t)
    let z ← zeroP P t
    guard (decide (0 < z.cells.length))
    pure (.alloc z)
  | .box t x => do
    guard (okSize P t)
    pure (.box (P.cellsOf t) (← opnd C x))
  | .build t parts => do
    let .agg z ← zeroP P t | none
    match P.underlying t with
    | some (.struct fs) =>
      guard (fs.toList.all fun f => (P.info? f.type).isSome)
      let ps ← parts.toList.mapM fun (i, x) => do
        let f ← fs[i]?
        pure (f.offset, P.cellsOf f.type, ← opnd C x)
      pure (.build z ps)
    | some (.array _ e) =>
      guard ((P.info? e).isSome)
      let ps ← parts.toList.mapM fun (i, x) => do pure (i * P.cellsOf e, P.cellsOf e, ← opnd C x)
      pure (.build z ps)
    | _ => none
  | .buildSlice t len parts => do
    let e ← sliceElem P t
    guard (okSize P e && decide (len * P.cellsOf e ≤ 16777216))
    let z ← zeroP P e
    let sh ← shapeP P 8 e
    let ps ← parts.toList.mapM fun (i, x) => do pure (i, ← opnd C x)
    pure (.buildSl (P.cellsOf e) (nz sh z) sh len ps)
  | .load t x => do
    guard (okSize P t)
    pure (.load (P.cellsOf t) (isAggP P t) (← opnd C x))
  | .store t x v => do
    guard (okSize P t)
    pure (.store (P.cellsOf t) (← shapeP P 8 t) (← opnd C x) (← opnd C v))
  | .nilCheck x => (opnd C x).map .nilck
  | .binOp op t x y _ =>
    match op, P.underlying t with
    | .eql, some (.struct _) => do
      guard (!P.eqGuardType P.depth t)
      pure (.eqAgg false (← eqK P 8 t) (← opnd C x) (← opnd C y))
    | .neq, some (.struct _) => do
      guard (!P.eqGuardType P.depth t)
      pure (.eqAgg true (← eqK P 8 t) (← opnd C x) (← opnd C y))
    | _, some (.int _) | _, some .string => do pure (.bin 0 op (← opnd C x) (← opnd C y))
    | _, some .bool => do pure (.bin 1 op (← opnd C x) (← opnd C y))
    | _, some (.slice _) => do pure (.bin 2 op (← opnd C x) (← opnd C y))
    | _, _ => none
  | .unOp op _ x => (opnd C x).map (.un op)
  | .convert src dst x => do
    let x ← opnd C x
    match P.underlying src, P.underlying dst with
    | some (.int _), some (.int k) => pure (.conv k x)
    | some .string, some .string => pure (.toStr true x)
    | some (.slice e), some .string => match P.underlying e with
      | some (.int .u8) => pure (.toStr false x)
      | _ => none
    | some .string, some (.slice e) => match P.underlying e with
      | some (.int .u8) => pure (.toBytes x)
      | _ => none
    | _, _ => none
  | .makeSlice t l c => do
    let e ← sliceElem P t
    guard (okSize P e)
    let sh ← shapeP P 8 e
    pure (.mkSl (P.cellsOf e) (P.bytesOf e) (nz sh (← zeroP P e)) (← opnd C l) (← opnd C c))
  | .slice t x lo hi mx => do
    let x ← opnd C x
    let lo ← optM (opnd C) lo
    let hi ← optM (opnd C) hi
    let mx ← optM (opnd C) mx
    guard (mx.isNone || hi.isSome)
    match P.underlying t with
    | some .string => pure (.slice 0 x lo hi mx)
    | some (.slice e) => do
      guard (okSize P e)
      pure (.slice (P.cellsOf e) x lo hi mx)
    | some (.array n e) => do
      guard (okSize P e && mx.isNone)
      pure (.sliceArr n (P.cellsOf e) (isAggP P e) x lo hi)
    | _ => none
  | .fieldAddr t x i => do
    let some (.struct fs) := P.underlying t | none
    let f ← fs[i]?
    guard (okSize P f.type)
    pure (.fld f.offset (← opnd C x))
  | .field t x i => do
    let some (.struct fs) := P.underlying t | none
    let f ← fs[i]?
    guard (okSize P f.type)
    pure (.fldV f.offset (P.cellsOf f.type) (isAggP P f.type) (← opnd C x))
  | .indexAddr t x i => do
    let x ← opnd C x
    let i ← opnd C i
    match P.underlying t with
    | some (.slice e) => do
      guard (okSize P e)
      pure (.ixA (P.cellsOf e) x i)
    | some (.array n e) => do
      guard (okSize P e)
      pure (.ixArr n (P.cellsOf e) x i)
    | _ => none
  | .index t x i => do
    let x ← opnd C x
    let i ← opnd C i
    match P.underlying t with
    | some .string => pure (.ixS x i)
    | some (.array n e) => do
      guard (okSize P e)
      pure (.ixV n (P.cellsOf e) (isAggP P e) x i)
    | _ => none
  | .extract x i => (opnd C x).map (.ext · i)
  | .makeFunc (.func f) first caps => do
    pure (.mkfn (← C.φ f) (← first.toList.mapM (opnd C)) (← caps.toList.mapM (opnd C)))
  | .call c =>
    match c.callee with
    | .builtin .len => match c.args.toList, c.argTypes.toList with
      | [x], [t] => do
        match P.underlying t with
        | some .string => pure (.len true (← opnd C x))
        | some (.slice _) => pure (.len false (← opnd C x))
        | some (.array n _) => pure (.mv (.c (.int .i64 n)) false)
        | _ => none
      | _, _ => none
    | .builtin .append => match c.args.toList, c.argTypes.toList with
      | [x, y], [t, u] => do
        let e ← sliceElem P t
        guard (okSize P e && decide (0 < P.bytesOf e))
        guard ((zeroP P e).any fun z => z.cells.length == P.cellsOf e)
        match P.underlying u with
        | some .string => do
          pure (.app (P.cellsOf e) (P.bytesOf e) (← opnd C x) (← opnd C y))
        | some (.slice _) => pure (.app (P.cellsOf e) (P.bytesOf e) (← opnd C x) (← opnd C y))
        | _ => none
      | _, _ => none
    | .builtin .copy => match c.args.toList, c.argTypes.toList with
      | [x, y], [t, _] => do
        let e ← sliceElem P t
        guard (okSize P e)
        pure (.copy (P.cellsOf e) (← opnd C x) (← opnd C y))
      | _, _ => none
    | .builtin .clear => match c.args.toList, c.argTypes.toList with
      | [x], [t] => do
        let e ← sliceElem P t
        guard (okSize P e)
        guard ((zeroP P e).any fun z => z.cells.length == P.cellsOf e && z.cells.all AV.one)
        pure (.clear (P.cellsOf e) (← opnd C x))
      | _, _ => none
    | .builtin .max => match c.args.toList with
      | [x, y] => do pure (.mm true (← opnd C x) (← opnd C y))
      | _ => none
    | .builtin .min => match c.args.toList with
      | [x, y] => do pure (.mm false (← opnd C x) (← opnd C y))
      | _ => none
    | .value (.func f) => do
      let g ← C.φ f
      let fn ← P.funcs[f]?
      guard (fn.body.isSome && fn.name != "runtime.NumGoroutine")
      let args ← c.args.toList.zipIdx.mapM fun (x, i) => argP C (some g) x fn.params[i]? i
      pure (.call g args)
    | .value f => do
      let f ← opnd C f
      let args ← c.args.toList.zipIdx.mapM fun (x, i) => argP C none x c.argTypes[i]? i
      pure (.callv f args)
    | _ => none
  | _ => none

def plainEdge (i : Nat) (e : Edge) : Bool := !Region.binds .any e || decide (e.on < i)

def insP (C : Cx) (ops : Array Oper) (o : Oper) : Option Ins := do
  let r ← opP C o
  match o.guard with
  | none => pure ⟨o.dst, none, r⟩
  | some (j, w) => do
    let g ← (ops[j]?).bind (·.dst)
    pure ⟨o.dst, some (g, w), r⟩

/-- Every order of the region lists all of it. -/
def drawn (ops : Array Oper) : Bool :=
  (ops.toList.zipIdx.all fun (o, i) => o.after.toList.all fun e => (Region.binds .gc e && !Region.binds .any e) || decide (e.on < i)) &&
  (!Region.departs ops || (Region.linearise .gc ops 0).length == ops.size)

def codeP (C : Cx) (b : Nat) (blk : Nat) : Code → Option RCode
  | .skip => some .skip
  | .ret => some .ret
  | .exit id => some (.exit id)
  | .seq a c => do pure (.seq (← codeP C b blk a) (← codeP C b blk c))
  | .cond x a c => do pure (.cond (← opnd C x) (← codeP C b blk a) (← codeP C b blk c))
  | .block id a => do pure (.block id (← codeP C b id a))
  | .loop a => do pure (.loop ((C.h.loops.lookup blk).map fun l => (b, l.1, l.2)) (← codeP C b blk a))
  | .region _ ops draw => do
    let is ← ops.toList.mapM (insP C ops)
    if draw then do
      guard (drawn ops)
      pure (.region is (some (Region.before ops).toList))
    else pure (.region is none)
  | _ => none

def resP (C : Cx) (r : ResultVar) (t : TypeId) : Option (RRes × Shape) := do
  let sh := (shapeP C.P 8 t).getD []
  match r with
  | .tmp t => pure (.t t, sh)
  | .cell a t => do
    guard (okSize C.P t)
    pure (.cell a (C.P.cellsOf t) (isAggP C.P t), sh)

def funcP (C : Cx) (f : Func) : Option RFunc := do
  let c ← f.body
  let b ← codeP C (64 * (f.params.size + f.nfree)) 0 c
  let rs ← (f.results.toList.zip f.resultTypes.toList).mapM fun (r, t) => resP C r t
  guard (f.results.size == f.resultTypes.size)
  pure ⟨f.params.size + f.nfree, f.ntmps, b, rs⟩

end Go.Vm
/- The relation between abstract values and the program's own. -/
namespace Go.Vm

abbrev Mem := Nat → Nat → Option Value
def Mem.Le (μ μ' : Mem) : Prop := ∀ b o v, μ b o = some v → μ' b o = some v
theorem Mem.Le.refl (μ : Mem) : μ.Le μ := fun _ _ _ h => h
theorem Mem.Le.trans {a b c : Mem} (h : a.Le b) (k : b.Le c) : a.Le c := fun _ _ _ x => k _ _ _ (h _ _ _ x)

abbrev Phi := FuncId → Option Nat

inductive RV (φ : Phi) (μ : Mem) : AV → Value → Prop
  | anyc (v : Value) : v.oneCell' = true → RV φ μ .anyc v
  | int (k : IntKind) (n : Int) : RV φ μ (.int k n) (.int k n)
  | bool (b : Bool) : RV φ μ (.bool b) (.bool b)
  | str (s : List UInt8) : RV φ μ (.str s) (.string ⟨s.toArray⟩)
  | nilp : RV φ μ .nilp (.pointer none)
  | nil : RV φ μ .nil (.slice none 0 0)
  | emp (a : Addr) (cap : Nat) : RV φ μ .emp (.slice (some a) 0 cap)
  | slE (e : Nat) (b : Option Addr) (cap : Nat) : (b = none → cap = 0) → RV φ μ (.sl e []) (.slice b 0 cap)
  | sl (e : Nat) (xs : List AV) (bl off cap : Nat) (f : Nat → Nat → Value) : xs.length ≤ cap →
      (∀ (i : Nat) (x : AV), xs[i]? = some x → x.cells.length = e ∧ x.cells.all AV.one = true) →
      (∀ (i j : Nat) (x c : AV), xs[i]? = some x → x.cells[j]? = some c → μ bl (off + i * e + j) = some (f i j)) →
      (∀ (i j : Nat) (x c : AV), xs[i]? = some x → x.cells[j]? = some c → RV φ μ c (f i j)) →
      RV φ μ (.sl e xs) (.slice (some ⟨bl, off, none⟩) xs.length cap)
  | agg (cs : List AV) (vs : Array Value) : vs.size = cs.length → (∀ (j : Nat) (c : AV) (v : Value), cs[j]? = some c → vs[j]? = some v → RV φ μ c v) → RV φ μ (.agg cs) (.agg vs)
  | ro (cs : List AV) (bl off : Nat) (f : Nat → Value) : (∀ (j : Nat) (c : AV), cs[j]? = some c → μ bl (off + j) = some (f j)) → (∀ (j : Nat) (c : AV), cs[j]? = some c → RV φ μ c (f j)) →
      RV φ μ (.ro cs) (.pointer (some ⟨bl, off, none⟩))
  | fn (g : Nat) (a c : List AV) (f : FuncId) (va vc : Array Value) : φ f = some g → va.size = a.length → vc.size = c.length →
      (∀ (j : Nat) (x : AV) (v : Value), a[j]? = some x → va[j]? = some v → RV φ μ x v) → (∀ (j : Nat) (x : AV) (v : Value), c[j]? = some x → vc[j]? = some v → RV φ μ x v) →
      RV φ μ (.fn g a c) (.func (.func f) va vc)

theorem RV.mono {φ : Phi} {μ μ' : Mem} (hm : μ.Le μ') {a : AV} {v : Value} (h : RV φ μ a v) : RV φ μ' a v := by
  induction h with
  | anyc v h => exact .anyc v h
  | int k n => exact .int k n
  | bool b => exact .bool b
  | str s => exact .str s
  | nilp => exact .nilp
  | nil => exact .nil
  | emp a c => exact .emp a c
  | slE e b c h => exact .slE e b c h
  | sl e xs bl off cap f h1 h2 h3 _ ih => exact .sl e xs bl off cap f h1 h2 (fun i j x c hx hc => hm _ _ _ (h3 i j x c hx hc)) ih
  | agg cs vs h1 _ ih => exact .agg cs vs h1 ih
  | ro cs bl off f h1 _ ih => exact .ro cs bl off f (fun j c hc => hm _ _ _ (h1 j c hc)) ih
  | fn g a c f va vc h1 h2 h3 _ _ i1 i2 => exact .fn g a c f va vc h1 h2 h3 i1 i2

structure Reg where
  bl : Nat
  off : Nat
  n : Nat
  e : Nat
  c : Nat

abbrev View := Slot → Nat × Option Reg

def Stale (V : View) (d : Slot) (st : Nat) : Prop := st < (V d).1 ∨ (st ≤ (V d).1 ∧ (V d).2 = none)

inductive Rep (φ : Phi) (μ : Mem) (V : View) : AV → Value → Prop
  | any (v : Value) : Rep φ μ V .any v
  | val {a : AV} {v : Value} : RV φ μ a v → Rep φ μ V a v
  | agg (cs : List AV) (vs : Array Value) : vs.size = cs.length → (∀ (j : Nat) (c : AV) (v : Value), cs[j]? = some c → vs[j]? = some v → Rep φ μ V c v) → Rep φ μ V (.agg cs) (.agg vs)
  | tuple (cs : List AV) (vs : Array Value) : vs.size = cs.length → (∀ (j : Nat) (c : AV) (v : Value), cs[j]? = some c → vs[j]? = some v → Rep φ μ V c v) → Rep φ μ V (.tuple cs) (.tuple vs)
  | fn (g : Nat) (a c : List AV) (f : FuncId) (va vc : Array Value) : φ f = some g → va.size = a.length → vc.size = c.length →
      (∀ (j : Nat) (x : AV) (v : Value), a[j]? = some x → va[j]? = some v → Rep φ μ V x v) → (∀ (j : Nat) (x : AV) (v : Value), c[j]? = some x → vc[j]? = some v → Rep φ μ V x v) →
      Rep φ μ V (.fn g a c) (.func (.func f) va vc)
  | ref (d : Slot) (st i off : Nat) (r : Reg) : V d = (st, some r) → Rep φ μ V (.ref d st i off) (.pointer (some ⟨r.bl, r.off + i * r.e + off, none⟩))
  | refX (d : Slot) (st i off : Nat) (v : Value) : Stale V d st → v.oneCell' = true → Rep φ μ V (.ref d st i off) v
  | sref (d : Slot) (st lo len : Nat) (r : Reg) (b : Option Addr) (cap : Nat) : V d = (st, some r) → len ≤ cap → (lo + cap) * r.e ≤ r.n → r.c ≤ lo + cap →
      (cap ≠ 0 → b = some ⟨r.bl, r.off + lo * r.e, none⟩) → Rep φ μ V (.sref d st lo len) (.slice b len cap)
  | srefX (d : Slot) (st lo len : Nat) (v : Value) : Stale V d st → v.oneCell' = true → Rep φ μ V (.sref d st lo len) v
  | spare (d : Slot) (st lo len : Nat) (r : Reg) (cap : Nat) : V d = (st, some r) → (lo + len) * r.e ≤ r.n →
      Rep φ μ V (.spare d st lo len) (.slice (some ⟨r.bl, r.off + lo * r.e, none⟩) len cap)
  | spareX (d : Slot) (st lo len : Nat) (v : Value) : Stale V d st → v.oneCell' = true → Rep φ μ V (.spare d st lo len) v

def VLe (V V' : View) : Prop := ∀ d, V' d = V d ∨ (V d).1 < (V' d).1 ∨ ((V' d).1 = (V d).1 ∧ (V' d).2 = none)
theorem VLe.refl (V : View) : VLe V V := fun _ => .inl rfl
theorem VLe.trans {A B C : View} (h : VLe A B) (k : VLe B C) : VLe A C := by
  intro d
  rcases h d with h1 | h1 | ⟨h1, h2⟩ <;> rcases k d with k1 | k1 | ⟨k1, k2⟩
  · exact .inl (k1.trans h1)
  · rw [h1] at k1; exact .inr (.inl k1)
  · rw [h1] at k1; exact .inr (.inr ⟨k1, k2⟩)
  · rw [k1]; exact .inr (.inl h1)
  · exact .inr (.inl (Nat.lt_trans h1 k1))
  · rw [k1.symm] at h1; exact .inr (.inl h1)
  · rw [k1]; exact .inr (.inr ⟨h1, h2⟩)
  · rw [h1] at k1; exact .inr (.inl k1)
  · exact .inr (.inr ⟨k1.trans h1, k2⟩)

theorem Stale.mono {V V' : View} (hv : VLe V V') {d : Slot} {st : Nat} (h : Stale V d st) : Stale V' d st := by
  rcases hv d with e | e | ⟨e1, e2⟩
  · unfold Stale; rw [e]; exact h
  · left
    rcases h with h | ⟨h, _⟩ <;> omega
  · right
    refine ⟨?_, e2⟩
    rcases h with h | ⟨h, _⟩ <;> omega

theorem live_or_stale {V V' : View} (hv : VLe V V') {d : Slot} {st : Nat} {r : Reg} (h : V d = (st, some r)) : V' d = (st, some r) ∨ Stale V' d st := by
  rcases hv d with e | e | ⟨e1, e2⟩
  · exact .inl (e.trans h)
  · right; left; rw [h] at e; exact e
  · right; right; rw [h] at e1; exact ⟨by simp at e1; omega, e2⟩

theorem Rep.mono {φ : Phi} {μ μ' : Mem} {V V' : View} (hm : μ.Le μ') (hv : VLe V V') {a : AV} {v : Value} (h : Rep φ μ V a v) : Rep φ μ' V' a v := by
  induction h with
  | any v => exact .any v
  | val h => exact .val (h.mono hm)
  | agg cs vs h1 _ ih => exact .agg cs vs h1 ih
  | tuple cs vs h1 _ ih => exact .tuple cs vs h1 ih
  | fn g a c f va vc h1 h2 h3 _ _ i1 i2 => exact .fn g a c f va vc h1 h2 h3 i1 i2
  | ref d st i off r h =>
    rcases live_or_stale hv h with h' | h'
    · exact .ref d st i off r h'
    · exact .refX d st i off _ h' rfl
  | refX d st i off v h h1 => exact .refX d st i off v (h.mono hv) h1
  | sref d st lo len r b cap h h1 h2 h3 h4 =>
    rcases live_or_stale hv h with h' | h'
    · exact .sref d st lo len r b cap h' h1 h2 h3 h4
    · exact .srefX d st lo len _ h' rfl
  | srefX d st lo len v h h1 => exact .srefX d st lo len v (h.mono hv) h1
  | spare d st lo len r cap h h1 =>
    rcases live_or_stale hv h with h' | h'
    · exact .spare d st lo len r cap h' h1
    · exact .spareX d st lo len _ h' rfl
  | spareX d st lo len v h h1 => exact .spareX d st lo len v (h.mono hv) h1

section inversion
variable {φ : Phi} {μ : Mem} {V : View} {v : Value}
theorem Rep.int_inv {k : IntKind} {n : Int} (h : Rep φ μ V (.int k n) v) : v = .int k n := by
  cases h with | val h => cases h; rfl
theorem Rep.bool_inv {b : Bool} (h : Rep φ μ V (.bool b) v) : v = .bool b := by
  cases h with | val h => cases h; rfl
theorem Rep.str_inv {s : List UInt8} (h : Rep φ μ V (.str s) v) : v = .string ⟨s.toArray⟩ := by
  cases h with | val h => cases h; rfl
theorem Rep.nil_inv (h : Rep φ μ V .nil v) : v = .slice none 0 0 := by
  cases h with | val h => cases h; rfl
theorem Rep.emp_inv (h : Rep φ μ V .emp v) : ∃ a c, v = .slice (some a) 0 c := by
  cases h with | val h => cases h; exact ⟨_, _, rfl⟩
theorem Rep.agg_inv {cs : List AV} (h : Rep φ μ V (.agg cs) v) : ∃ vs, v = .agg vs ∧ vs.size = cs.length ∧ ∀ (j : Nat) (c : AV) (u : Value), cs[j]? = some c → vs[j]? = some u → Rep φ μ V c u := by
  cases h with
  | val h => cases h with | agg _ vs h1 h2 => exact ⟨vs, rfl, h1, fun j c u hc hu => .val (h2 j c u hc hu)⟩
  | agg _ vs h1 h2 => exact ⟨vs, rfl, h1, h2⟩
theorem Rep.tuple_inv {cs : List AV} (h : Rep φ μ V (.tuple cs) v) : ∃ vs, v = .tuple vs ∧ vs.size = cs.length ∧ ∀ (j : Nat) (c : AV) (u : Value), cs[j]? = some c → vs[j]? = some u → Rep φ μ V c u := by
  cases h with
  | val h => cases h
  | tuple _ vs h1 h2 => exact ⟨vs, rfl, h1, h2⟩
theorem Rep.ro_inv {cs : List AV} (h : Rep φ μ V (.ro cs) v) : RV φ μ (.ro cs) v := by
  cases h with | val h => exact h
theorem Rep.sl_inv {e : Nat} {xs : List AV} (h : Rep φ μ V (.sl e xs) v) : RV φ μ (.sl e xs) v := by
  cases h with | val h => exact h
theorem Rep.fn_inv {g : Nat} {a c : List AV} (h : Rep φ μ V (.fn g a c) v) : ∃ f va vc, v = .func (.func f) va vc ∧ φ f = some g ∧ va.size = a.length ∧ vc.size = c.length ∧
    (∀ (j : Nat) (x : AV) (u : Value), a[j]? = some x → va[j]? = some u → Rep φ μ V x u) ∧ (∀ (j : Nat) (x : AV) (u : Value), c[j]? = some x → vc[j]? = some u → Rep φ μ V x u) := by
  cases h with
  | val h => cases h with | fn _ _ _ f va vc h1 h2 h3 h4 h5 => exact ⟨f, va, vc, rfl, h1, h2, h3, fun j x u hx hu => .val (h4 j x u hx hu), fun j x u hx hu => .val (h5 j x u hx hu)⟩
  | fn _ _ _ f va vc h1 h2 h3 h4 h5 => exact ⟨f, va, vc, rfl, h1, h2, h3, h4, h5⟩
theorem Stale.not_live {d : Slot} {st : Nat} (h : Stale V d st) {r : Reg} (hl : V d = (st, some r)) : False := by
  rcases h with h | ⟨_, h⟩
  · rw [hl] at h; simp at h
  · rw [hl] at h; simp at h
theorem Rep.ref_inv {d : Slot} {st i off : Nat} {r : Reg} (h : Rep φ μ V (.ref d st i off) v) (hl : V d = (st, some r)) : v = .pointer (some ⟨r.bl, r.off + i * r.e + off, none⟩) := by
  cases h with
  | val h => cases h
  | ref _ _ _ _ r' h => rw [hl] at h; cases h; rfl
  | refX _ _ _ _ _ h _ => exact (h.not_live hl).elim
theorem Rep.sref_inv {d : Slot} {st lo len : Nat} {r : Reg} (h : Rep φ μ V (.sref d st lo len) v) (hl : V d = (st, some r)) :
    ∃ b cap, v = .slice b len cap ∧ len ≤ cap ∧ (lo + cap) * r.e ≤ r.n ∧ r.c ≤ lo + cap ∧ (cap ≠ 0 → b = some ⟨r.bl, r.off + lo * r.e, none⟩) := by
  cases h with
  | val h => cases h
  | sref _ _ _ _ r' b cap h h1 h2 h3 h4 => rw [hl] at h; cases h; exact ⟨b, cap, rfl, h1, h2, h3, h4⟩
  | srefX _ _ _ _ _ h _ => exact (h.not_live hl).elim
theorem Rep.spare_inv {d : Slot} {st lo len : Nat} {r : Reg} (h : Rep φ μ V (.spare d st lo len) v) (hl : V d = (st, some r)) :
    ∃ cap, v = .slice (some ⟨r.bl, r.off + lo * r.e, none⟩) len cap ∧ (lo + len) * r.e ≤ r.n := by
  cases h with
  | val h => cases h
  | spare _ _ _ _ r' cap h h1 => rw [hl] at h; cases h; exact ⟨cap, rfl, h1⟩
  | spareX _ _ _ _ _ h _ => exact (h.not_live hl).elim
end inversion

theorem RV.one {φ : Phi} {μ : Mem} {a : AV} {v : Value} (h : RV φ μ a v) (h1 : a.one = true) : v.oneCell' = true := by
  cases h <;> first | assumption | rfl | simp [AV.one] at h1
theorem Rep.one {φ : Phi} {μ : Mem} {V : View} {a : AV} {v : Value} (h : Rep φ μ V a v) (h1 : a.one = true) : v.oneCell' = true := by
  cases h with
  | val h => exact h.one h1
  | _ => first | assumption | rfl | simp [AV.one] at h1

theorem Value.cells_one {v : Value} (h : ∀ vs, v ≠ .agg vs) : v.cells = #[v] := by
  cases v <;> first | rfl | exact absurd rfl (h _)

theorem RV.notAgg {φ : Phi} {μ : Mem} {a : AV} {v : Value} (h : RV φ μ a v) (ha : ∀ cs, a ≠ .agg cs) : ∀ vs, v ≠ .agg vs := by
  intro vs e
  subst e
  cases h with
  | anyc _ h => simp [Value.oneCell'] at h
  | agg cs _ _ _ => exact ha cs rfl

theorem Rep.notAgg {φ : Phi} {μ : Mem} {V : View} {a : AV} {v : Value} (h : Rep φ μ V a v) (ha : ∀ cs, a ≠ .agg cs) (hs : a.solid = true) : ∀ vs, v ≠ .agg vs := by
  intro vs e
  subst e
  cases h with
  | any => simp [AV.solid] at hs
  | val h => exact h.notAgg ha vs rfl
  | agg cs _ _ _ => exact ha cs rfl
  | refX _ _ _ _ _ _ h => simp [Value.oneCell'] at h
  | srefX _ _ _ _ _ _ h => simp [Value.oneCell'] at h
  | spareX _ _ _ _ _ _ h => simp [Value.oneCell'] at h

theorem AV.cells_one {a : AV} (h : ∀ cs, a ≠ .agg cs) : a.cells = [a] := by
  cases a <;> first | rfl | exact absurd rfl (h _)

theorem AV.agg_or (a : AV) : (∃ cs, a = .agg cs) ∨ ∀ cs, a ≠ .agg cs := by
  cases a <;> first | exact .inl ⟨_, rfl⟩ | (right; intro cs h; cases h)

theorem Rep.cells {φ : Phi} {μ : Mem} {V : View} {a : AV} {v : Value} (h : Rep φ μ V a v) (hs : a.solid = true) :
    v.cells.size = a.cells.length ∧ ∀ (j : Nat) (c : AV) (u : Value), a.cells[j]? = some c → v.cells[j]? = some u → Rep φ μ V c u := by
  rcases a.agg_or with ⟨cs, rfl⟩ | ha
  · obtain ⟨vs, rfl, h1, h2⟩ := h.agg_inv
    exact ⟨h1, h2⟩
  · rw [AV.cells_one ha, Value.cells_one (h.notAgg ha hs)]
    refine ⟨rfl, fun j c u hc hu => ?_⟩
    cases j with
    | zero => simp at hc hu; subst hc; subst hu; exact h
    | succ j => simp at hc

theorem RV.cells {φ : Phi} {μ : Mem} {a : AV} {v : Value} (h : RV φ μ a v) :
    v.cells.size = a.cells.length ∧ ∀ (j : Nat) (c : AV) (u : Value), a.cells[j]? = some c → v.cells[j]? = some u → RV φ μ c u := by
  rcases a.agg_or with ⟨cs, rfl⟩ | ha
  · cases h with | agg _ vs h1 h2 => exact ⟨h1, h2⟩
  · rw [AV.cells_one ha, Value.cells_one (h.notAgg ha)]
    refine ⟨rfl, fun j c u hc hu => ?_⟩
    cases j with
    | zero => simp at hc hu; subst hc; subst hu; exact h
    | succ j => simp at hc

/-- What lies in the world where an object is. -/
structure ObjOK (φ : Phi) (μ : Mem) (V : View) (w : World) (r : Reg) (z : Bool) (o : Obj) : Prop where
  e : r.e = o.e
  pos : 0 < o.e
  cap : r.c = o.cap
  fit : o.xs.length ≤ o.cap
  room : o.cap * o.e ≤ r.n
  size : ∀ (i : Nat) (x : AV), o.xs[i]? = some x → x.cells.length = o.e
  one : o.var = false → ∀ (i : Nat) (x : AV), o.xs[i]? = some x → x.cells.all AV.one = true
  cell : ∀ (i j : Nat) (x c : AV), o.xs[i]? = some x → x.cells[j]? = some c → ∃ v, w.cell? ⟨r.bl, r.off + i * o.e + j, none⟩ = some v ∧
    Rep φ μ V c v ∧ (o.var = false → RV φ μ c v) ∧ (z = true → μ r.bl (r.off + i * o.e + j) = some v)
  there : ∀ k, k < r.n → (w.cell? ⟨r.bl, r.off + k, none⟩).isSome = true
  soft : ∀ k, k < r.n → w.frozen? ⟨r.bl, r.off + k, none⟩ = false
  free : ∀ k, k < r.n → (z = false ∨ o.xs.length * o.e ≤ k) → μ r.bl (r.off + k) = none

def viewOf (σ : State) (θ : Slot → Reg) : View := fun d => ((σ.getO d).st, (σ.getO d).obj.map fun _ => θ d)

def Reg.Has (r : Reg) (b o : Nat) : Prop := r.bl = b ∧ r.off ≤ o ∧ o < r.off + r.n
def Reg.Apart (r s : Reg) : Prop := ∀ b o, r.Has b o → ¬s.Has b o

/-- The frame of an activation: the world in which it began, the cells that it was handed to write. -/
structure Fr where
  w0 : World
  μ0 : Mem
  ext : Nat → Nat → Prop
  /-- Where the arguments' own memory lies. -/
  gh : List (Slot × Reg)

def GhOK (l : List (Slot × Reg)) (V : View) : Prop := ∀ p ∈ l, V p.1 = (1, some p.2) ∨ Stale V p.1 1
theorem GhOK.mono {l : List (Slot × Reg)} {V V' : View} (h : GhOK l V) (hv : VLe V V') : GhOK l V' := by
  intro p hp
  rcases h p hp with h | h
  · exact live_or_stale hv h
  · exact .inr (h.mono hv)

def Fr.Mine (C : Fr) (b o : Nat) : Prop := C.w0.heap.size ≤ b ∨ C.ext b o

structure Framed (w0 : World) (ext : Nat → Nat → Prop) (w : World) : Prop where
  os : w.os = w0.os
  tape : w.tape = w0.tape
  output : w.output = w0.output
  size : w0.heap.size ≤ w.heap.size
  same : ∀ b, b < w0.heap.size → w.heap[b]? = w0.heap[b]? ∨
    ∃ c c' e fz, w0.heap[b]? = some (.cells c e fz) ∧ w.heap[b]? = some (.cells c' e fz) ∧ c'.size = c.size ∧ ∀ o, ¬ext b o → c'[o]? = c[o]?

structure Inv (φ : Phi) (C : Fr) (θ : Slot → Reg) (μ : Mem) (σ : State) (a : Act) (w : World) : Prop where
  len : a.tmps.size = σ.tm.length
  defers : a.defers = []
  tmp : ∀ n, Rep φ μ (viewOf σ θ) (σ.getT n) (a.tmps.getD n undef)
  gh : GhOK C.gh (viewOf σ θ)
  obj : ∀ d o, (σ.getO d).obj = some o → ObjOK φ μ (viewOf σ θ) w (θ d) (σ.getF d) o
  apart : ∀ d d' o o', d ≠ d' → (σ.getO d).obj = some o → (σ.getO d').obj = some o' → (θ d).Apart (θ d')
  mine : ∀ d o, (σ.getO d).obj = some o → ∀ b k, (θ d).Has b k → C.Mine b k
  sub : ∀ b o v, μ b o = some v → w.cell? ⟨b, o, none⟩ = some v
  le : C.μ0.Le μ
  new : ∀ b o v, μ b o = some v → C.μ0 b o = some v ∨ C.Mine b o
  frame : Framed C.w0 C.ext w

def HasInv (φ : Phi) (C : Fr) (σ : State) (a : Act) (w : World) : Prop := ∃ θ μ, Inv φ C θ μ σ a w

/-- Two states that answer alike. -/
structure State.Like (σ σ' : State) : Prop where
  len : σ'.tm.length = σ.tm.length
  t : ∀ n, σ'.getT n = σ.getT n
  o : ∀ d, σ'.getO d = σ.getO d
  f : ∀ d, σ'.getF d = σ.getF d

theorem State.Like.view {σ σ' : State} (h : σ.Like σ') (θ : Slot → Reg) : viewOf σ' θ = viewOf σ θ := by
  funext d; simp [viewOf, h.o d]

theorem Inv.like {φ : Phi} {C : Fr} {θ : Slot → Reg} {μ : Mem} {σ σ' : State} {a : Act} {w : World} (h : Inv φ C θ μ σ a w) (k : σ.Like σ') : Inv φ C θ μ σ' a w where
  len := by rw [k.len]; exact h.len
  defers := h.defers
  tmp n := by rw [k.t, k.view]; exact h.tmp n
  gh := by rw [k.view]; exact h.gh
  obj d o ho := by rw [k.view, k.f]; rw [k.o] at ho; exact h.obj d o ho
  apart d d' o o' hd ho ho' := by rw [k.o] at ho ho'; exact h.apart d d' o o' hd ho ho'
  mine d o ho := by rw [k.o] at ho; exact h.mine d o ho
  sub := h.sub
  le := h.le
  new := h.new
  frame := h.frame

/-! ### States -/
theorem look_putO (d d' : Slot) (s : SlotSt) (l : List (Slot × SlotSt)) : look d (putO d' s l) = if d = d' then s else look d l := by
  induction l with
  | nil =>
    by_cases h : d' == d
    · have h' : d' = d := by simpa using h
      subst h'
      simp [putO, look]
    · have h' : ¬ d = d' := fun e => h (by simp [e])
      simp [putO, look, h, h']
  | cons x r ih =>
    obtain ⟨d1, s1⟩ := x
    by_cases h1 : d1 == d'
    · have h1' : d1 = d' := by simpa using h1
      subst h1'
      by_cases h : d1 == d
      · have h' : d1 = d := by simpa using h
        subst h'
        simp [putO, look]
      · have h' : ¬ d = d1 := fun e => h (by simp [e])
        simp [putO, look, h, h']
    · simp only [putO, h1, look]
      by_cases h : d1 == d
      · have h' : d1 = d := by simpa using h
        subst h'
        have h2 : ¬ d1 = d' := by simpa using h1
        simp [look, h2]
      · simp [look, h, ih]

theorem contains_setF (d d' : Slot) (b : Bool) (l : List Slot) : (setF d' b l).contains d = if d = d' then b else l.contains d := by
  rw [Bool.eq_iff_iff]
  by_cases h : d = d'
  · subst h
    cases b <;> simp [setF]
  · cases b <;> simp [setF, h]

theorem getT_t (σ : State) (m n : Nat) (v : AV) : ((W.t m v).apply σ).getT n = if n = m ∧ m < σ.tm.length then v else σ.getT n := by
  simp only [W.apply, State.getT, List.getD_eq_getElem?_getD, List.getElem?_set]
  by_cases h : m = n
  · subst h
    by_cases hl : m < σ.tm.length
    · simp [hl]
    · simp [hl]
  · have : ¬ n = m := fun e => h e.symm
    simp [h, this]
theorem getT_o (σ : State) (d : Slot) (s : SlotSt) (n : Nat) : ((W.o d s).apply σ).getT n = σ.getT n := rfl
theorem getT_f (σ : State) (d : Slot) (b : Bool) (n : Nat) : ((W.f d b).apply σ).getT n = σ.getT n := rfl
theorem getO_t (σ : State) (m : Nat) (v : AV) (d : Slot) : ((W.t m v).apply σ).getO d = σ.getO d := rfl
theorem getO_o (σ : State) (d' : Slot) (s : SlotSt) (d : Slot) : ((W.o d' s).apply σ).getO d = if d = d' then s else σ.getO d := look_putO d d' s σ.ob
theorem getO_f (σ : State) (d' : Slot) (b : Bool) (d : Slot) : ((W.f d' b).apply σ).getO d = σ.getO d := rfl
theorem getF_t (σ : State) (m : Nat) (v : AV) (d : Slot) : ((W.t m v).apply σ).getF d = σ.getF d := rfl
theorem getF_o (σ : State) (d' : Slot) (s : SlotSt) (d : Slot) : ((W.o d' s).apply σ).getF d = σ.getF d := rfl
theorem getF_f (σ : State) (d' : Slot) (b : Bool) (d : Slot) : ((W.f d' b).apply σ).getF d = if d = d' then b else σ.getF d := contains_setF d d' b σ.fl
theorem len_apply (σ : State) (x : W) : (x.apply σ).tm.length = σ.tm.length := by cases x <;> simp [W.apply]
theorem len_applyAll (σ : State) (ws : List W) : (σ.applyAll ws).tm.length = σ.tm.length := by
  unfold State.applyAll
  induction ws generalizing σ with
  | nil => rfl
  | cons x r ih => simp only [List.foldl_cons]; rw [ih, len_apply]
theorem applyAll_nil (σ : State) : σ.applyAll [] = σ := rfl
theorem applyAll_cons (σ : State) (x : W) (ws : List W) : σ.applyAll (x :: ws) = (x.apply σ).applyAll ws := rfl
theorem applyAll_append (σ : State) (a b : List W) : σ.applyAll (a ++ b) = (σ.applyAll a).applyAll b := by simp [State.applyAll, List.foldl_append]

end Go.Vm
/- Each operation that writes no memory: what it yields. -/
namespace Go.Vm

theorem R.run_bind {α β : Type} (m : R α) (f : α → R β) (σ : State) : (m.bind f).run σ = (m.run σ).bind fun a => (f a).run σ := by
  induction m with
  | ret a => rfl
  | fail => rfl
  | getT n k ih => exact ih _
  | getO d k ih => exact ih _
  | getF d k ih => exact ih _

theorem R.run_ret {α : Type} (a : α) (σ : State) : (R.ret a).run σ = some a := rfl
theorem R.run_fail {α : Type} (σ : State) : (R.fail : R α).run σ = none := rfl
theorem R.run_ofOpt {α : Type} (x : Option α) (σ : State) : (R.ofOpt x).run σ = x := by cases x <;> rfl
theorem Opnd.run_get (x : Opnd) (σ : State) : x.get.run σ = some (x.val σ) := by cases x <;> rfl
theorem run_frz (d : Slot) (σ : State) : (frz d).run σ = some (σ.getF d) := rfl
theorem run_getO {α : Type} (d : Slot) (k : SlotSt → R α) (σ : State) : (R.getO d k).run σ = (k (σ.getO d)).run σ := rfl
theorem run_theObj {d st : Nat} {σ : State} {o : Obj} : (theObj d st).run σ = some o ↔ σ.getO d = ⟨st, some o⟩ := by
  unfold theObj
  rw [run_getO]
  cases h : σ.getO d with
  | mk s ob =>
    by_cases hs : s == st
    · have hs' : s = st := by simpa using hs
      subst hs'
      simp [R.run_ofOpt]
    · have : s ≠ st := by simpa using hs
      simp [hs, R.run_fail, this]

theorem viewOf_live {σ : State} {θ : Slot → Reg} {d st : Nat} {o : Obj} (h : σ.getO d = ⟨st, some o⟩) : viewOf σ θ d = (st, some (θ d)) := by
  simp [viewOf, h]

section
variable {φ : Phi} {C : Fr} {θ : Slot → Reg} {μ : Mem} {σ : State} {a : Act} {w : World}

theorem applyAll_dst (σ : State) (ws : List W) (d : Option Nat) (v : AV) : σ.applyAll (ws ++ dstW d v) = (σ.applyAll ws).applyAll (dstW d v) := applyAll_append σ ws _

theorem Inv.put (h : Inv φ C θ μ σ a w) {v : AV} {cv : Value} (d : Option Nat) (hv : Rep φ μ (viewOf σ θ) v cv) : Inv φ C θ μ (σ.applyAll (dstW d v)) (a.put d cv) w := by
  cases d with
  | none => exact h
  | some n =>
    have hview : viewOf (σ.applyAll (dstW (some n) v)) θ = viewOf σ θ := rfl
    refine ⟨?_, h.defers, ?_, by rw [hview]; exact h.gh, ?_, ?_, ?_, h.sub, h.le, h.new, h.frame⟩
    · simp only [len_applyAll, Act.put]; rw [Array.size_setIfInBounds]; exact h.len
    · intro m
      rw [hview]
      show Rep φ μ (viewOf σ θ) (((W.t n v).apply σ).getT m) _
      rw [getT_t]
      simp only [Act.put]
      by_cases hm : m = n
      · subst hm
        by_cases hl : m < σ.tm.length
        · have hl' : m < a.tmps.size := by rw [h.len]; exact hl
          simp only [true_and, hl, if_true]
          rw [Array.getD_eq_getD_getElem?, Array.getElem?_setIfInBounds_self_of_lt hl']
          exact hv
        · have hl' : ¬ m < a.tmps.size := by rw [h.len]; exact hl
          simp only [true_and, hl, if_false]
          have e : a.tmps.setIfInBounds m cv = a.tmps := by
            unfold Array.setIfInBounds
            rw [dif_neg hl']
          rw [e]
          exact h.tmp m
      · simp only [hm, false_and, if_false]
        have hne : ¬ n = m := fun e => hm e.symm
        rw [Array.getD_eq_getD_getElem?, Array.getElem?_setIfInBounds_ne hne, ← Array.getD_eq_getD_getElem?]
        exact h.tmp m
    · intro d o ho; rw [hview]; exact h.obj d o ho
    · exact h.apart
    · exact h.mine

theorem Inv.ev (h : Inv φ C θ μ σ a w) {X : Cx} (hX : X.φ = φ) {x : Operand} {y : Opnd} (hy : opnd X x = some y) : Rep φ μ (viewOf σ θ) (y.val σ) (a.eval x) := by
  have hav : ∀ v : Value, Rep φ μ (viewOf σ θ) (toAV v) v := by
    intro v
    unfold toAV
    split <;> first
      | exact .val (.bool _) | exact .val (.int _ _) | exact .val .nilp | exact .val .nil | exact .any _
      | (rename_i s; have e : s = ⟨s.data.toList.toArray⟩ := by simp
         conv => rhs; rw [e]
         exact .val (.str _))
      | skip
    rename_i h1 h2 h3 h4 h5 h6 h7
    refine .val (.anyc _ ?_)
    cases v <;> first | rfl | exact absurd rfl (h6 _) | exact absurd rfl (h7 _)
  cases x with
  | tmp t =>
    simp only [opnd, Option.some.injEq] at hy
    subst hy
    have := h.tmp t
    simpa [Opnd.val, Act.eval] using this
  | const v =>
    cases v with
    | agg cs =>
      simp only [opnd, Option.some.injEq] at hy
      subst hy
      refine .agg _ _ (by simp) ?_
      intro j c u hc hu
      simp only [List.getElem?_map, Option.map_eq_some_iff] at hc
      obtain ⟨u', hu', rfl⟩ := hc
      have : u' = u := by
        have h1 : cs[j]? = some u' := by simpa using hu'
        rw [h1] at hu
        exact Option.some.inj hu
      subst this
      exact hav u'
    | _ =>
      simp only [opnd, Option.some.injEq] at hy
      subst hy
      simp only [Opnd.val, Act.eval]
      exact hav _
  | global g => simp [opnd] at hy
  | func f =>
    simp only [opnd, Option.map_eq_some_iff] at hy
    obtain ⟨g, hg, rfl⟩ := hy
    rw [hX] at hg
    exact .val (.fn g [] [] f #[] #[] hg rfl rfl (by simp) (by simp))
end

/-- An operation does what its counterpart says. -/
def Sim (X : Cx) (C : Fr) (o : Oper) (r : ROp) : Prop :=
  ∀ (orc : Oracle) (θ : Slot → Reg) (μ : Mem) (σ : State) (a : Act) (w : World) (v : AV) (ws : List W), Inv X.φ C θ μ σ a w → (r.sem orc o.dst).run σ = some (v, ws) →
    ∃ n cv w', (execOp a.eval o).run X.P w = .ok n w' ∧ (n = .value cv ∨ n = .skip ∧ cv = undef) ∧
      ∃ θ' μ', Inv X.φ C θ' μ' (σ.applyAll ws) a w' ∧ Rep X.φ μ' (viewOf (σ.applyAll ws) θ') v cv

theorem sim_pure {X : Cx} {C : Fr} {o : Oper} {r : ROp}
    (h : ∀ (orc : Oracle) (θ : Slot → Reg) (μ : Mem) (σ : State) (a : Act) (w : World) (v : AV) (ws : List W), Inv X.φ C θ μ σ a w → (r.sem orc o.dst).run σ = some (v, ws) →
      ws = [] ∧ ∃ cv, (execOp a.eval o).run X.P w = .ok (.value cv) w ∧ Rep X.φ μ (viewOf σ θ) v cv) : Sim X C o r := by
  intro orc θ μ σ a w v ws hi hr
  obtain ⟨rfl, cv, h1, h2⟩ := h orc θ μ σ a w v ws hi hr
  exact ⟨.value cv, cv, w, h1, .inl rfl, θ, μ, hi, h2⟩

section
variable {X : Cx} {C : Fr} {o : Oper}

theorem sim_mv {x : Operand} {y : Opnd} (ho : o.op = .move x ∨ o.op = .assign x) (hy : opnd X x = some y) : Sim X C o (.mv y false) := by
  refine sim_pure fun orc θ μ σ a w v ws hi hr => ?_
  simp only [ROp.sem, R.run_bind, Opnd.run_get, Option.bind_some, Bool.false_eq_true, if_false, R.run_ret, Option.some.injEq, Prod.mk.injEq] at hr
  obtain ⟨rfl, rfl⟩ := hr
  refine ⟨rfl, a.eval x, ?_, hi.ev rfl hy⟩
  rcases ho with ho | ho <;> simp [execOp, ho]

theorem sim_pick {x y z : Operand} {x' y' z' : Opnd} (ho : o.op = .pick x y z) (hx : opnd X x = some x') (hy : opnd X y = some y') (hz : opnd X z = some z') : Sim X C o (.pick x' y' z') := by
  refine sim_pure fun orc θ μ σ a w v ws hi hr => ?_
  simp only [ROp.sem, R.run_bind, Opnd.run_get, Option.bind_some] at hr
  have e := hi.ev rfl hx
  split at hr
  · rename_i h
    rw [h] at e
    have e := e.bool_inv
    simp only [R.run_ret, Option.some.injEq, Prod.mk.injEq] at hr
    obtain ⟨rfl, rfl⟩ := hr
    exact ⟨rfl, a.eval y, by simp [execOp, ho, e, asBool], hi.ev rfl hy⟩
  · rename_i h
    rw [h] at e
    have e := e.bool_inv
    simp only [R.run_ret, Option.some.injEq, Prod.mk.injEq] at hr
    obtain ⟨rfl, rfl⟩ := hr
    exact ⟨rfl, a.eval z, by simp [execOp, ho, e, asBool], hi.ev rfl hz⟩
  · simp [R.run_fail] at hr

theorem sim_conv {src dst : TypeId} {x : Operand} {x' : Opnd} {ks k : IntKind} (ho : o.op = .convert src dst x) (hx : opnd X x = some x') (hs : X.P.underlying src = some (.int ks)) (hd : X.P.underlying dst = some (.int k)) :
    Sim X C o (.conv k x') := by
  refine sim_pure fun orc θ μ σ a w v ws hi hr => ?_
  simp only [ROp.sem, R.run_bind, Opnd.run_get, Option.bind_some] at hr
  have e := hi.ev rfl hx
  split at hr
  · rename_i k0 n h
    rw [h] at e
    have e := e.int_inv
    simp only [R.run_ret, Option.some.injEq, Prod.mk.injEq] at hr
    obtain ⟨rfl, rfl⟩ := hr
    refine ⟨rfl, .int k (k.wrap n), ?_, .val (.int _ _)⟩
    simp [execOp, ho, e, convert, run_underlying hs, run_underlying hd, Conv.intToInt]
  · simp [R.run_fail] at hr

theorem sim_ext {x : Operand} {x' : Opnd} {i : Nat} (ho : o.op = .extract x i) (hx : opnd X x = some x') : Sim X C o (.ext x' i) := by
  refine sim_pure fun orc θ μ σ a w v ws hi hr => ?_
  simp only [ROp.sem, R.run_bind, Opnd.run_get, Option.bind_some] at hr
  have e := hi.ev rfl hx
  split at hr
  · rename_i vs h
    rw [h] at e
    obtain ⟨cvs, e1, e2, e3⟩ := e.tuple_inv
    simp only [R.run_bind, R.run_ofOpt] at hr
    cases hv : vs[i]? with
    | none => simp [hv] at hr
    | some u =>
      simp only [hv, Option.bind_some, R.run_ret, Option.some.injEq, Prod.mk.injEq] at hr
      obtain ⟨rfl, rfl⟩ := hr
      have hlt : i < cvs.size := by rw [e2]; exact (List.getElem?_eq_some_iff.1 hv).1
      refine ⟨rfl, cvs[i], ?_, e3 i u _ hv (by simp [hlt])⟩
      simp [execOp, ho, e1, Instr.extract, hlt]
  · simp [R.run_fail] at hr

theorem mapM_get {α β : Type} {f : α → Option β} : ∀ {l : List α} {l' : List β}, l.mapM f = some l' → l'.length = l.length ∧ ∀ (j : Nat) (x : α), l[j]? = some x → ∃ y, l'[j]? = some y ∧ f x = some y := by
  intro l
  induction l with
  | nil => intro l' h; simp at h; subst h; simp
  | cons x r ih =>
    intro l' h
    simp only [List.mapM_cons, Option.bind_eq_bind, Option.pure_def] at h
    cases hx : f x with
    | none => simp [hx] at h
    | some y =>
      cases hr : r.mapM f with
      | none => simp [hx, hr] at h
      | some r' =>
        simp [hx, hr] at h
        subst h
        obtain ⟨h1, h2⟩ := ih hr
        refine ⟨by simp [h1], fun j z hz => ?_⟩
        cases j with
        | zero => simp at hz; subst hz; exact ⟨y, by simp, hx⟩
        | succ j => simpa using h2 j z (by simpa using hz)

theorem mapR_get (l : List Opnd) (σ : State) : (mapR Opnd.get l).run σ = some (l.map (Opnd.val σ)) := by
  induction l with
  | nil => rfl
  | cons y ys ih => simp [mapR, R.run_bind, Opnd.run_get, R.run_ret, ih]

theorem Inv.evs {φ : Phi} {θ : Slot → Reg} {μ : Mem} {σ : State} {a : Act} {w : World} (h : Inv φ C θ μ σ a w) (hX : X.φ = φ) {l : Array Operand} {l' : List Opnd} (hl : l.toList.mapM (opnd X) = some l') :
    (l.map a.eval).size = (l'.map (Opnd.val σ)).length ∧ ∀ (j : Nat) (c : AV) (u : Value), (l'.map (Opnd.val σ))[j]? = some c → (l.map a.eval)[j]? = some u → Rep φ μ (viewOf σ θ) c u := by
  obtain ⟨h1, h2⟩ := mapM_get hl
  refine ⟨by simp [h1], fun j c u hc hu => ?_⟩
  simp only [Array.getElem?_map, Option.map_eq_some_iff] at hu
  obtain ⟨x, hx, rfl⟩ := hu
  obtain ⟨y, hy, hxy⟩ := h2 j x (by simpa using hx)
  simp only [List.getElem?_map, hy, Option.map_some, Option.some.injEq] at hc
  subst hc
  exact h.ev hX hxy

theorem sim_mkfn {f : FuncId} {g : Nat} {first caps : Array Operand} {fs cs : List Opnd} (ho : o.op = .makeFunc (.func f) first caps) (hf : X.φ f = some g)
    (h1 : first.toList.mapM (opnd X) = some fs) (h2 : caps.toList.mapM (opnd X) = some cs) : Sim X C o (.mkfn g fs cs) := by
  refine sim_pure fun orc θ μ σ a w v ws hi hr => ?_
  simp only [ROp.sem, R.run_bind, mapR_get, Option.bind_some, R.run_ret, Option.some.injEq, Prod.mk.injEq] at hr
  obtain ⟨rfl, rfl⟩ := hr
  obtain ⟨a1, a2⟩ := hi.evs rfl h1
  obtain ⟨b1, b2⟩ := hi.evs rfl h2
  exact ⟨rfl, .func (.func f) (first.map a.eval) (caps.map a.eval), by simp [execOp, ho, Instr.makeFunc], .fn g _ _ f _ _ hf a1 b1 a2 b2⟩

theorem run_eqGuard_plain {P : Program} {w : World} (op : BinOp) (t : TypeId) (x y : Operand) (a b : Value) (h1 : a ≠ .nilIface) (h2 : ∀ vs, a ≠ .agg vs) : (eqGuard op t x y a b).run P w = .ok () w := by
  cases op <;> first | rfl | (cases a <;> first | rfl | exact absurd rfl h1 | exact absurd rfl (h2 _))

theorem intBin_run {P : Program} {w : World} {op : BinOp} {t : TypeId} {k : IntKind} {m n : Int} {v : AV} (h1 : op ≠ .shl) (h2 : op ≠ .shr) (hv : intBin op k m n = some v) :
    ∃ u, (binOp op t (.int k m) (.int k n)).run P w = .ok u w ∧ ((∃ k n, v = .int k n ∧ u = .int k n) ∨ ∃ b, v = .bool b ∧ u = .bool b) := by
  cases op <;> dsimp only [intBin] at hv
  case shl => exact absurd rfl h1
  case shr => exact absurd rfl h2
  case quo =>
    split at hv
    · cases hv
    · rename_i h
      cases hv
      exact ⟨_, by simp only [binOp, Op.intDiv, if_neg h, ne_eq, not_true_eq_false, if_false]; rfl, .inl ⟨_, _, rfl, rfl⟩⟩
  case rem =>
    split at hv
    · cases hv
    · rename_i h
      cases hv
      exact ⟨_, by simp only [binOp, Op.intDiv, if_neg h, ne_eq, not_true_eq_false, if_false]; rfl, .inl ⟨_, _, rfl, rfl⟩⟩
  all_goals
    cases hv
    first
      | exact ⟨_, by simp only [binOp, ne_eq, not_true_eq_false, if_false]; rfl, .inl ⟨_, _, rfl, rfl⟩⟩
      | exact ⟨_, by simp only [binOp, ne_eq, not_true_eq_false, if_false]; rfl, .inr ⟨_, rfl, rfl⟩⟩

theorem run_binInt {P : Program} {w : World} {op : BinOp} {t : TypeId} {k k' : IntKind} {m n : Int} {v : AV}
    (hv : binV op (.int k m) (.int k' n) = some v) : ∃ u, (binOp op t (.int k m) (.int k' n)).run P w = .ok u w ∧ ((∃ k n, v = .int k n ∧ u = .int k n) ∨ ∃ b, v = .bool b ∧ u = .bool b) := by
  by_cases h1 : op = .shl
  · subst h1
    simp only [binV] at hv
    split at hv
    · cases hv
    · rename_i h
      cases hv
      exact ⟨_, by simp only [binOp, Op.shift, if_neg h]; rfl, .inl ⟨_, _, rfl, rfl⟩⟩
  by_cases h2 : op = .shr
  · subst h2
    simp only [binV] at hv
    split at hv
    · cases hv
    · rename_i h
      cases hv
      exact ⟨_, by simp only [binOp, Op.shift, if_neg h]; rfl, .inl ⟨_, _, rfl, rfl⟩⟩
  have e : binV op (.int k m) (.int k' n) = if k = k' then intBin op k m n else none := by
    cases op <;> first | exact absurd rfl h1 | exact absurd rfl h2 | rfl
  rw [e] at hv
  split at hv
  · rename_i hk
    subst hk
    exact intBin_run h1 h2 hv
  · cases hv

theorem run_binStr {P : Program} {w : World} {op : BinOp} {t : TypeId} {m n : List UInt8} {v : AV}
    (hv : binV op (.str m) (.str n) = some v) : ∃ u, (binOp op t (.string ⟨m.toArray⟩) (.string ⟨n.toArray⟩)).run P w = .ok u w ∧ ((∃ s, v = .str s ∧ u = .string ⟨s.toArray⟩) ∨ ∃ b, v = .bool b ∧ u = .bool b) := by
  cases op <;> simp only [binV] at hv <;> first
    | (cases hv; done)
    | (cases hv
       refine ⟨.bool _, ?_, .inr ⟨_, rfl, rfl⟩⟩
       simp only [binOp, Op.stringOp, ByteArray.toList_mk]
       rfl)
    | skip
  split at hv
  · rename_i h
    cases hv
    refine ⟨.string ⟨(m ++ n).toArray⟩, ?_, .inl ⟨_, rfl, rfl⟩⟩
    have h1 : ¬ (((⟨m.toArray⟩ : ByteArray).size + (⟨n.toArray⟩ : ByteArray).size : Nat) : Int) > IntKind.i64.max := by
      show ¬ ((m.toArray.size + n.toArray.size : Nat) : Int) > _
      simp [IntKind.max, IntKind.signed, IntKind.bits]
      omega
    have h2 : (⟨m.toArray⟩ : ByteArray) ++ (⟨n.toArray⟩ : ByteArray) = ⟨(m ++ n).toArray⟩ := by
      apply ByteArray.ext
      simp [ByteArray.data_append]
    simp only [binOp, Op.stringOp]
    rw [if_neg h1, h2]
    rfl
  · cases hv

theorem binV_forms {op : BinOp} {x y v : AV} (hv : binV op x y = some v) : (∃ k m k' n, x = .int k m ∧ y = .int k' n) ∨ (∃ s t, x = .str s ∧ y = .str t) ∨ (∃ s t, x = .bool s ∧ y = .bool t) ∨
    (x = .nil ∧ y = .nil) ∨ (x = .emp ∧ y = .nil) ∨ ∃ e c r, x = .sl e (c :: r) ∧ y = .nil := by
  unfold binV at hv
  split at hv
  · exact .inl ⟨_, _, _, _, rfl, rfl⟩
  · exact .inr (.inl ⟨_, _, rfl, rfl⟩)
  · exact .inr (.inr (.inl ⟨_, _, rfl, rfl⟩))
  · exact .inr (.inr (.inr (.inl ⟨rfl, rfl⟩)))
  · exact .inr (.inr (.inr (.inr (.inl ⟨rfl, rfl⟩))))
  · exact .inr (.inr (.inr (.inr (.inr ⟨_, _, _, rfl, rfl⟩))))
  · cases hv

theorem run_equal_nil {P : Program} {w : World} {t e : TypeId} (hu : P.underlying t = some (.slice e)) (b : Option Addr) (n c : Nat) : (Op.equal t (.slice b n c) (.slice none 0 0)).run P w = .ok b.isNone w := by
  have h : ∀ d : Nat, (Op.equalIn (d + 1) t (.slice b n c) (.slice none 0 0)).run P w = .ok b.isNone w := by
    intro d
    rw [Op.equalIn]
    cases b <;> simp [run_underlying hu]
  exact h 9999
theorem run_equal_bool {P : Program} {w : World} {t : TypeId} (hu : P.underlying t = some .bool) (a b : Bool) : (Op.equal t (.bool a) (.bool b)).run P w = .ok (a == b) w :=
  run_equalIn_bool' w 9999 t a b hu

theorem run_binV {P : Program} {w : World} {op : BinOp} {t : TypeId} {φ : Phi} {μ : Mem} {V : View} {x y v : AV} {a b : Value} (hx : Rep φ μ V x a) (hy : Rep φ μ V y b)
    (hv : binV op x y = some v)
    (hb : ∀ s, x = .bool s → P.underlying t = some .bool) (hs : (x = .nil ∨ x = .emp ∨ ∃ e r, x = .sl e r) → ∃ e, P.underlying t = some (.slice e)) :
    ∃ u, (binOp op t a b).run P w = .ok u w ∧ Rep φ μ V v u ∧ a ≠ .nilIface ∧ ∀ vs, a ≠ .agg vs := by
  rcases binV_forms hv with ⟨k, m, k', n, rfl, rfl⟩ | ⟨s, t', rfl, rfl⟩ | ⟨s, t', rfl, rfl⟩ | ⟨rfl, rfl⟩ | ⟨rfl, rfl⟩ | ⟨e, c, r, rfl, rfl⟩
  · cases hx.int_inv; cases hy.int_inv
    obtain ⟨u, h1, h2⟩ := run_binInt (P := P) (w := w) (t := t) hv
    refine ⟨u, h1, ?_, by simp, by simp⟩
    rcases h2 with ⟨k, n, rfl, rfl⟩ | ⟨b, rfl, rfl⟩
    · exact .val (.int _ _)
    · exact .val (.bool _)
  · cases hx.str_inv; cases hy.str_inv
    obtain ⟨u, h1, h2⟩ := run_binStr (P := P) (w := w) (t := t) hv
    refine ⟨u, h1, ?_, by simp, by simp⟩
    rcases h2 with ⟨k, rfl, rfl⟩ | ⟨b, rfl, rfl⟩
    · exact .val (.str _)
    · exact .val (.bool _)
  · cases hx.bool_inv; cases hy.bool_inv
    have hu := hb s rfl
    cases op <;> simp only [binV] at hv <;> first
      | (cases hv; done)
      | (cases hv
         refine ⟨.bool _, ?_, .val (.bool _), by simp, by simp⟩
         simp only [binOp, Sem.run_bind, run_equal_bool hu, Result.andThen_ok]
         rfl)
  · cases hx.nil_inv; cases hy.nil_inv
    obtain ⟨e, hu⟩ := hs (.inl rfl)
    cases op <;> simp only [binV] at hv <;> first
      | (cases hv; done)
      | (cases hv
         refine ⟨.bool _, ?_, .val (.bool _), by simp, by simp⟩
         simp only [binOp, Sem.run_bind, run_equal_nil hu, Result.andThen_ok]
         rfl)
  · obtain ⟨a1, c1, rfl⟩ := hx.emp_inv
    cases hy.nil_inv
    obtain ⟨e, hu⟩ := hs (.inr (.inl rfl))
    cases op <;> simp only [binV] at hv <;> first
      | (cases hv; done)
      | (cases hv
         refine ⟨.bool _, ?_, .val (.bool _), by simp, by simp⟩
         simp only [binOp, Sem.run_bind, run_equal_nil hu, Result.andThen_ok]
         rfl)
  · obtain ⟨e', hu⟩ := hs (.inr (.inr ⟨_, _, rfl⟩))
    cases hy.nil_inv
    have hx' := hx.sl_inv
    cases hx' with
    | sl e xs bl off cap f h1 h2 h3 h4 =>
      cases op <;> simp only [binV] at hv <;> first
        | (cases hv; done)
        | (cases hv
           refine ⟨.bool _, ?_, .val (.bool _), by simp, by simp⟩
           simp only [binOp, Sem.run_bind, run_equal_nil hu, Result.andThen_ok]
           rfl)

theorem sim_bin {op : BinOp} {t u : TypeId} {x y : Operand} {x' y' : Opnd} {c : Nat} (ho : o.op = .binOp op t x y u) (hx : opnd X x = some x') (hy : opnd X y = some y')
    (hc : c = 0 ∨ c = 1 ∧ X.P.underlying t = some .bool ∨ c = 2 ∧ ∃ e, X.P.underlying t = some (.slice e)) : Sim X C o (.bin c op x' y') := by
  refine sim_pure fun orc θ μ σ a w v ws hi hr => ?_
  simp only [ROp.sem, R.run_bind, Opnd.run_get, Option.bind_some] at hr
  have e1 := hi.ev rfl hx
  have e2 := hi.ev rfl hy
  split at hr
  · rename_i htag
    simp only [R.run_bind, R.run_ofOpt] at hr
    cases hv : binV op (x'.val σ) (y'.val σ) with
    | none => simp [hv] at hr
    | some u =>
      simp only [hv, Option.bind_some, R.run_ret, Option.some.injEq, Prod.mk.injEq] at hr
      obtain ⟨rfl, rfl⟩ := hr
      obtain ⟨cu, h1, h2, h3, h4⟩ := run_binV (P := X.P) (w := w) (t := t) e1 e2 hv
        (fun s hs => by
          rw [hs] at htag
          rcases hc with rfl | ⟨rfl, h⟩ | ⟨rfl, h⟩
          · simp [binTag] at htag
          · exact h
          · simp [binTag] at htag)
        (fun hs => by
          rcases hc with rfl | ⟨rfl, h⟩ | ⟨rfl, h⟩
          · rcases hs with hs | hs | ⟨e, r, hs⟩ <;> simp [hs, binTag] at htag
          · rcases hs with hs | hs | ⟨e, r, hs⟩ <;> simp [hs, binTag] at htag
          · exact h)
      refine ⟨rfl, cu, ?_, h2⟩
      simp [execOp, ho, run_eqGuard_plain (P := X.P) (w := w) op t x y _ (a.eval y) h3 h4, h1]
  · simp [R.run_fail] at hr

theorem sim_un {op : UnOp} {t : TypeId} {x : Operand} {x' : Opnd} (ho : o.op = .unOp op t x) (hx : opnd X x = some x') : Sim X C o (.un op x') := by
  refine sim_pure fun orc θ μ σ a w v ws hi hr => ?_
  simp only [ROp.sem, R.run_bind, Opnd.run_get, Option.bind_some, R.run_ofOpt] at hr
  have e1 := hi.ev rfl hx
  cases hv : unV op (x'.val σ) with
  | none => simp [hv] at hr
  | some u =>
    simp only [hv, Option.bind_some, R.run_ret, Option.some.injEq, Prod.mk.injEq] at hr
    obtain ⟨rfl, rfl⟩ := hr
    refine ⟨rfl, ?_⟩
    unfold unV at hv
    split at hv
    · rename_i hxv
      rw [hxv] at e1
      cases hv
      exact ⟨.bool _, by simp [execOp, ho, e1.bool_inv, Op.unary], .val (.bool _)⟩
    · rename_i hxv
      rw [hxv] at e1
      simp only [intBin, Option.some.injEq] at hv
      subst hv
      exact ⟨.int _ _, by simp [execOp, ho, e1.int_inv, Op.unary, Op.intArith], .val (.int _ _)⟩
    · rename_i hxv
      rw [hxv] at e1
      simp only [intBin, Option.some.injEq] at hv
      subst hv
      exact ⟨.int _ _, by simp only [execOp, ho, e1.int_inv, Op.unary, Op.intBits]; rfl, .val (.int _ _)⟩
    · cases hv

theorem sim_len_str {x : Operand} {x' : Opnd} {t : TypeId} (ho : o.op = .call { callee := .builtin .len, args := #[x], argTypes := #[t] }) (hx : opnd X x = some x')
    (ht : X.P.underlying t = some .string) : Sim X C o (.len true x') := by
  refine sim_pure fun orc θ μ σ a w v ws hi hr => ?_
  simp only [ROp.sem, R.run_bind, Opnd.run_get, Option.bind_some] at hr
  have e1 := hi.ev rfl hx
  split at hr <;> first | (simp [R.run_fail] at hr; done) | skip
  · rename_i s h1 h2
    rw [h2] at e1
    simp only [R.run_ret, Option.some.injEq, Prod.mk.injEq] at hr
    obtain ⟨rfl, rfl⟩ := hr
    refine ⟨rfl, .int .i64 s.length, ?_, .val (.int _ _)⟩
    have hz : (⟨s.toArray⟩ : ByteArray).size = s.length := by show s.toArray.size = _; simp
    simp [execOp, ho, resolve, invoke, builtin, Builtin.len_, run_underlying ht, e1.str_inv, goInt, hz]
  all_goals simp at *

theorem sim_len_slice {x : Operand} {x' : Opnd} {t e : TypeId} (ho : o.op = .call { callee := .builtin .len, args := #[x], argTypes := #[t] }) (hx : opnd X x = some x')
    (ht : X.P.underlying t = some (.slice e)) : Sim X C o (.len false x') := by
  refine sim_pure fun orc θ μ σ a w v ws hi hr => ?_
  simp only [ROp.sem, R.run_bind, Opnd.run_get, Option.bind_some] at hr
  have e1 := hi.ev rfl hx
  have key : ∀ (b : Option Addr) (n c : Nat), a.eval x = .slice b n c → (execOp a.eval o).run X.P w = .ok (.value (.int .i64 n)) w := by
    intro b n c h
    simp [execOp, ho, resolve, invoke, builtin, Builtin.len_, run_underlying ht, h, goInt]
  split at hr <;> first | (simp [R.run_fail] at hr; done) | (rename_i h1 _; cases h1; done) | skip
  · rename_i h1 h2
    rw [h2] at e1
    simp only [R.run_ret, Option.some.injEq, Prod.mk.injEq] at hr
    obtain ⟨rfl, rfl⟩ := hr
    exact ⟨rfl, _, key _ _ _ e1.nil_inv, .val (.int _ _)⟩
  · rename_i h1 h2
    rw [h2] at e1
    simp only [R.run_ret, Option.some.injEq, Prod.mk.injEq] at hr
    obtain ⟨rfl, rfl⟩ := hr
    obtain ⟨b, c, h⟩ := e1.emp_inv
    exact ⟨rfl, _, key _ _ _ h, .val (.int _ _)⟩
  · rename_i h1 h2
    rw [h2] at e1
    simp only [R.run_ret, Option.some.injEq, Prod.mk.injEq] at hr
    obtain ⟨rfl, rfl⟩ := hr
    have e2 := e1.sl_inv
    refine ⟨rfl, ?_⟩
    generalize hav : a.eval x = av at e2
    cases e2 with
    | slE e b c => exact ⟨_, key _ _ _ hav, .val (.int _ _)⟩
    | sl e xs bl off cap f h1 h2 h3 h4 => exact ⟨_, key _ _ _ hav, .val (.int _ _)⟩
  · rename_i d st lo ln h1 h2
    rw [h2] at e1
    simp only [R.run_bind] at hr
    cases hob : (theObj d st).run σ with
    | none => simp [hob] at hr
    | some ob =>
      simp only [hob, Option.bind_some, R.run_ret, Option.some.injEq, Prod.mk.injEq] at hr
      obtain ⟨rfl, rfl⟩ := hr
      obtain ⟨b, c, h, _⟩ := e1.sref_inv (viewOf_live (run_theObj.1 hob))
      exact ⟨rfl, _, key _ _ _ h, .val (.int _ _)⟩

theorem sim_mm {x y : Operand} {x' y' : Opnd} {m : Bool} {ts : Array TypeId} (ho : o.op = .call { callee := .builtin (if m then .max else .min), args := #[x, y], argTypes := ts }) (hx : opnd X x = some x') (hy : opnd X y = some y') :
    Sim X C o (.mm m x' y') := by
  refine sim_pure fun orc θ μ σ a w v ws hi hr => ?_
  simp only [ROp.sem, R.run_bind, Opnd.run_get, Option.bind_some] at hr
  have e1 := hi.ev rfl hx
  have e2 := hi.ev rfl hy
  split at hr
  · rename_i k m1 k' n1 h1 h2
    rw [h1] at e1
    rw [h2] at e2
    split at hr
    · rename_i hk
      subst hk
      simp only [R.run_ret, Option.some.injEq, Prod.mk.injEq] at hr
      obtain ⟨rfl, rfl⟩ := hr
      refine ⟨rfl, _, ?_, .val (.int _ _)⟩
      cases m <;> simp [execOp, ho, resolve, invoke, builtin, Builtin.max_, Builtin.min_, Builtin.max2, Builtin.min2, e1.int_inv, e2.int_inv]
    · simp [R.run_fail] at hr
  · simp [R.run_fail] at hr

/-- The abstract cells 'cs' lie in the world from 'off' of block 'bl' on. -/
def At (φ : Phi) (μ : Mem) (V : View) (w : World) (bl off : Nat) (cs : List AV) : Prop :=
  ∀ (j : Nat) (c : AV), cs[j]? = some c → ∃ u, w.cell? ⟨bl, off + j, none⟩ = some u ∧ Rep φ μ V c u

theorem At.drop {φ : Phi} {μ : Mem} {V : View} {w : World} {bl off : Nat} {cs : List AV} (h : At φ μ V w bl off cs) (n : Nat) : At φ μ V w bl (off + n) (cs.drop n) := by
  intro j c hc
  rw [List.getElem?_drop] at hc
  obtain ⟨u, h1, h2⟩ := h _ _ hc
  exact ⟨u, by rw [Nat.add_assoc]; exact h1, h2⟩

theorem Inv.at_ro {φ : Phi} {C : Fr} {θ : Slot → Reg} {μ : Mem} {σ : State} {a : Act} {w : World} (h : Inv φ C θ μ σ a w) {cs : List AV} {v : Value} (hv : Rep φ μ (viewOf σ θ) (.ro cs) v) :
    ∃ bl off, v = .pointer (some ⟨bl, off, none⟩) ∧ At φ μ (viewOf σ θ) w bl off cs := by
  have := hv.ro_inv
  cases this with
  | ro cs bl off f h1 h2 => exact ⟨bl, off, rfl, fun j c hc => ⟨f j, h.sub _ _ _ (h1 j c hc), .val (h2 j c hc)⟩⟩

theorem Inv.at_ref {φ : Phi} {C : Fr} {θ : Slot → Reg} {μ : Mem} {σ : State} {a : Act} {w : World} (h : Inv φ C θ μ σ a w) {d st i off : Nat} {v : Value} {ob : Obj} {x : AV}
    (hv : Rep φ μ (viewOf σ θ) (.ref d st i off) v) (hd : σ.getO d = ⟨st, some ob⟩) (hx : ob.xs[i]? = some x) :
    v = .pointer (some ⟨(θ d).bl, (θ d).off + i * ob.e + off, none⟩) ∧ At φ μ (viewOf σ θ) w (θ d).bl ((θ d).off + i * ob.e + off) (x.cells.drop off) := by
  have hok := h.obj d ob (by rw [hd])
  have := hv.ref_inv (viewOf_live hd)
  rw [hok.e] at this
  refine ⟨this, ?_⟩
  have hat : At φ μ (viewOf σ θ) w (θ d).bl ((θ d).off + i * ob.e) x.cells := fun j c hc => by
    obtain ⟨u, h1, h2, _⟩ := hok.cell i j x c hx hc
    exact ⟨u, h1, h2⟩
  exact hat.drop off

theorem run_isAggP {P : Program} {w : World} {t : TypeId} (h : (P.underlying t).isSome = true) : (isAgg t).run P w = .ok (isAggP P t) w := by
  obtain ⟨d, hd⟩ := Option.isSome_iff_exists.1 h
  unfold isAgg isAggP
  rw [Sem.run_bind, run_underlying hd]
  simp only [Result.andThen_ok, hd]
  cases d <;> rfl

theorem okSize_spec {P : Program} {t : TypeId} (h : okSize P t = true) : 0 < P.cellsOf t ∧ (P.underlying t).isSome = true ∧ ∃ i, P.info? t = some i ∧ i.size = P.cellsOf t := by
  simp only [okSize, Bool.and_eq_true, decide_eq_true_eq] at h
  refine ⟨h.1, h.2, ?_⟩
  have h1 := h.1
  unfold Program.cellsOf at h1 ⊢
  cases hi : P.info? t with
  | none => simp [hi] at h1
  | some i => exact ⟨i, rfl, by simp⟩

theorem At.load_agg {φ : Phi} {μ : Mem} {V : View} {P : Program} {w : World} {t : TypeId} {bl off : Nat} {cs : List AV} (h : At φ μ V w bl off cs) (ht : okSize P t = true) (hagg : isAggP P t = true)
    (hn : P.cellsOf t ≤ cs.length) : ∃ u, (Instr.loadAt t (.pointer (some ⟨bl, off, none⟩))).run P w = .ok u w ∧ Rep φ μ V (.agg (cs.take (P.cellsOf t))) u := by
  obtain ⟨h0, h1, i, h2, h3⟩ := okSize_spec ht
  let f : Nat → Value := fun j => (w.cell? ⟨bl, off + j, none⟩).getD undef
  have hf : ∀ j, j < P.cellsOf t → w.cell? ((⟨bl, off, none⟩ : Addr).add j) = some (f j) := by
    intro j hj
    obtain ⟨u, hu, _⟩ := h j cs[j] (by simp [show j < cs.length by omega])
    rw [Addr.add_mid, hu]
    simp [f, hu]
  refine ⟨.agg ((List.range (P.cellsOf t)).map f).toArray, ?_, ?_⟩
  · simp only [Instr.loadAt, Instr.sureAddr, Sem.run_bind, Sem.run_pure, Result.andThen_ok, loadVar, run_isAggP h1, hagg, if_true, run_sizeOf w h2, run_loadCells w _ _ f hf]
  · refine .agg _ _ (by simp; omega) ?_
    intro j c u hc hu
    rw [List.getElem?_take] at hc
    split at hc
    · rename_i hj
      obtain ⟨u', hu', hr⟩ := h j c hc
      have : u = u' := by
        simp [hj] at hu
        rw [← hu]
        simp [f, hu']
      rw [this]
      exact hr
    · cases hc

theorem At.load_one {φ : Phi} {μ : Mem} {V : View} {P : Program} {w : World} {t : TypeId} {bl off : Nat} {c : AV} {cs : List AV} (h : At φ μ V w bl off (c :: cs)) (ht : okSize P t = true) (hagg : isAggP P t = false) :
    ∃ u, (Instr.loadAt t (.pointer (some ⟨bl, off, none⟩))).run P w = .ok u w ∧ Rep φ μ V c u := by
  obtain ⟨h0, h1, i, h2, h3⟩ := okSize_spec ht
  obtain ⟨u, hu, hr⟩ := h 0 c rfl
  refine ⟨u, ?_, hr⟩
  have hu' : w.cell? ⟨bl, off, none⟩ = some u := by simpa using hu
  simp only [Instr.loadAt, Instr.sureAddr, Sem.run_bind, Sem.run_pure, Result.andThen_ok, loadVar, run_isAggP h1, hagg, Bool.false_eq_true, if_false, run_load, hu']

theorem sim_load {t : TypeId} {x : Operand} {x' : Opnd} (ho : o.op = .load t x) (hx : opnd X x = some x') (ht : okSize X.P t = true) : Sim X C o (.load (X.P.cellsOf t) (isAggP X.P t) x') := by
  refine sim_pure fun orc θ μ σ a w v ws hi hr => ?_
  simp only [ROp.sem, R.run_bind, Opnd.run_get, Option.bind_some] at hr
  have e1 := hi.ev rfl hx
  have fin : ∀ (bl off : Nat) (cs : List AV), a.eval x = .pointer (some ⟨bl, off, none⟩) → At X.φ μ (viewOf σ θ) w bl off cs →
      (if isAggP X.P t then (if X.P.cellsOf t ≤ cs.length then R.ret (AV.agg (cs.take (X.P.cellsOf t)), ([] : List W)) else .fail)
       else match cs with
         | c :: _ => .ret (c, [])
         | [] => .fail).run σ = some (v, ws) → ws = [] ∧ ∃ cv, (execOp a.eval o).run X.P w = .ok (.value cv) w ∧ Rep X.φ μ (viewOf σ θ) v cv := by
    intro bl off cs ha hat hrun
    cases hagg : isAggP X.P t with
    | true =>
      simp only [hagg, if_true] at hrun
      split at hrun
      · rename_i hle
        simp only [R.run_ret, Option.some.injEq, Prod.mk.injEq] at hrun
        obtain ⟨rfl, rfl⟩ := hrun
        obtain ⟨u, h1, h2⟩ := hat.load_agg ht hagg hle
        exact ⟨rfl, u, by simp [execOp, ho, ha, h1], h2⟩
      · simp [R.run_fail] at hrun
    | false =>
      simp only [hagg, Bool.false_eq_true, if_false] at hrun
      cases cs with
      | nil => simp [R.run_fail] at hrun
      | cons c cs =>
        simp only [R.run_ret, Option.some.injEq, Prod.mk.injEq] at hrun
        obtain ⟨rfl, rfl⟩ := hrun
        obtain ⟨u, h1, h2⟩ := hat.load_one ht hagg
        exact ⟨rfl, u, by simp [execOp, ho, ha, h1], h2⟩
  split at hr
  · rename_i cs h
    rw [h] at e1
    obtain ⟨bl, off, e2, e3⟩ := hi.at_ro e1
    exact fin bl off cs e2 e3 hr
  · rename_i d st i off h
    rw [h] at e1
    simp only [R.run_bind] at hr
    cases hob : (theObj d st).run σ with
    | none => simp [hob] at hr
    | some ob =>
      simp only [hob, Option.bind_some] at hr
      split at hr
      · rename_i y hy
        obtain ⟨e2, e3⟩ := hi.at_ref e1 (run_theObj.1 hob) hy
        exact fin _ _ _ e2 e3 hr
      · simp [R.run_fail] at hr
  · simp [R.run_fail] at hr

theorem run_fieldPlace {P : Program} {w : World} {f : Field} (h : okSize P f.type = true) (bl off : Nat) : (fieldPlace ⟨bl, off, none⟩ f).run P w = .ok ⟨bl, off + f.offset, none⟩ w := by
  obtain ⟨h0, _, i, h2, h3⟩ := okSize_spec h
  have hne : ¬ P.cellsOf f.type = 0 := by omega
  simp [fieldPlace, run_sizeOf w h2, hne, Addr.add_mid]

theorem sim_fld {t : TypeId} {x : Operand} {x' : Opnd} {i : Nat} {fs : Array Field} {f : Field} (ho : o.op = .fieldAddr t x i) (hx : opnd X x = some x') (ht : X.P.underlying t = some (.struct fs)) (hf : fs[i]? = some f)
    (hs : okSize X.P f.type = true) : Sim X C o (.fld f.offset x') := by
  refine sim_pure fun orc θ μ σ a w v ws hi hr => ?_
  simp only [ROp.sem, R.run_bind, Opnd.run_get, Option.bind_some] at hr
  have e1 := hi.ev rfl hx
  have key : ∀ bl off, a.eval x = .pointer (some ⟨bl, off, none⟩) → (execOp a.eval o).run X.P w = .ok (.value (.pointer (some ⟨bl, off + f.offset, none⟩))) w := by
    intro bl off h
    simp [execOp, ho, h, Instr.fieldAt, run_underlying ht, hf, Instr.sureAddr, run_fieldPlace hs]
  split at hr
  · rename_i cs h
    rw [h] at e1
    simp only [R.run_ret, Option.some.injEq, Prod.mk.injEq] at hr
    obtain ⟨rfl, rfl⟩ := hr
    have e2 := e1.ro_inv
    generalize hav : a.eval x = av at e2
    cases e2 with
    | ro cs bl off f' h1 h2 =>
      refine ⟨rfl, _, key _ _ hav, .val (.ro _ _ _ (fun j => f' (f.offset + j)) ?_ ?_)⟩
      · intro j c hc
        rw [List.getElem?_drop] at hc
        rw [Nat.add_assoc]
        exact h1 _ _ hc
      · intro j c hc
        rw [List.getElem?_drop] at hc
        exact h2 _ _ hc
  · rename_i d st k off h
    rw [h] at e1
    simp only [R.run_bind] at hr
    cases hob : (theObj d st).run σ with
    | none => simp [hob] at hr
    | some ob =>
      simp only [hob, Option.bind_some, R.run_ret, Option.some.injEq, Prod.mk.injEq] at hr
      obtain ⟨rfl, rfl⟩ := hr
      have hl := viewOf_live (θ := θ) (run_theObj.1 hob)
      refine ⟨rfl, _, key _ _ (e1.ref_inv hl), ?_⟩
      have := Rep.ref (φ := X.φ) (μ := μ) (V := viewOf σ θ) d st k (off + f.offset) (θ d) hl
      rwa [← Nat.add_assoc] at this
  · simp [R.run_fail] at hr

theorem sim_nilck {x : Operand} {x' : Opnd} (ho : o.op = .nilCheck x) (hx : opnd X x = some x') : Sim X C o (.nilck x') := by
  refine sim_pure fun orc θ μ σ a w v ws hi hr => ?_
  simp only [ROp.sem, R.run_bind, Opnd.run_get, Option.bind_some] at hr
  have e1 := hi.ev rfl hx
  split at hr
  · rename_i cs h
    simp only [R.run_ret, Option.some.injEq, Prod.mk.injEq] at hr
    obtain ⟨rfl, rfl⟩ := hr
    refine ⟨rfl, a.eval x, ?_, e1⟩
    rw [h] at e1
    obtain ⟨bl, off, e2, _⟩ := hi.at_ro e1
    simp [execOp, ho, e2]
  · rename_i g f c h
    simp only [R.run_ret, Option.some.injEq, Prod.mk.injEq] at hr
    obtain ⟨rfl, rfl⟩ := hr
    refine ⟨rfl, a.eval x, ?_, e1⟩
    rw [h] at e1
    obtain ⟨f, va, vc, e2, _⟩ := e1.fn_inv
    simp [execOp, ho, e2]
  · rename_i d st i off h
    simp only [R.run_bind] at hr
    cases hob : (theObj d st).run σ with
    | none => simp [hob] at hr
    | some ob =>
      simp only [hob, Option.bind_some, R.run_ret, Option.some.injEq, Prod.mk.injEq] at hr
      obtain ⟨rfl, rfl⟩ := hr
      refine ⟨rfl, a.eval x, ?_, e1⟩
      rw [h] at e1
      simp [execOp, ho, e1.ref_inv (viewOf_live (run_theObj.1 hob))]
  · simp [R.run_fail] at hr

theorem run_part_agg {P : Program} {w : World} {t : TypeId} (h : okSize P t = true) (hagg : isAggP P t = true) (cs : Array Value) (off : Nat) :
    (part t cs off).run P w = .ok (.agg (cs.extract off (off + P.cellsOf t))) w := by
  obtain ⟨h0, h1, i, h2, h3⟩ := okSize_spec h
  simp [part, run_isAggP h1, hagg, run_sizeOf w h2]
theorem run_part_one {P : Program} {w : World} {t : TypeId} (h : okSize P t = true) (hagg : isAggP P t = false) (cs : Array Value) (off : Nat) (v : Value) (hv : cs[off]? = some v) :
    (part t cs off).run P w = .ok v w := by
  obtain ⟨h0, h1, i, h2, h3⟩ := okSize_spec h
  simp [part, run_isAggP h1, hagg, hv]

/-- A part of an aggregate, by value. -/
theorem part_sim {P : Program} {w : World} {t : TypeId} {φ : Phi} {μ : Mem} {V : View} {cs : List AV} {vs : Array Value} {off : Nat} {σ : State} {v : AV} {ws : List W} (ht : okSize P t = true)
    (h1 : vs.size = cs.length) (h2 : ∀ (j : Nat) (c : AV) (u : Value), cs[j]? = some c → vs[j]? = some u → Rep φ μ V c u)
    (hr : (if isAggP P t then (if off + P.cellsOf t ≤ cs.length then R.ret (AV.agg ((cs.drop off).take (P.cellsOf t)), ([] : List W)) else .fail)
      else (R.ofOpt cs[off]?).bind fun c => .ret (c, [])).run σ = some (v, ws)) : ws = [] ∧ ∃ u, (part t vs off).run P w = .ok u w ∧ Rep φ μ V v u := by
  cases hagg : isAggP P t with
  | true =>
    simp only [hagg, if_true] at hr
    split at hr
    · rename_i hle
      simp only [R.run_ret, Option.some.injEq, Prod.mk.injEq] at hr
      obtain ⟨rfl, rfl⟩ := hr
      refine ⟨rfl, _, run_part_agg ht hagg vs off, .agg _ _ (by simp; omega) ?_⟩
      intro j c u hc hu
      rw [List.getElem?_take] at hc
      split at hc
      · rw [List.getElem?_drop] at hc
        rw [Array.getElem?_extract] at hu
        split at hu
        · exact h2 _ _ _ hc hu
        · cases hu
      · cases hc
    · simp [R.run_fail] at hr
  | false =>
    simp only [hagg, Bool.false_eq_true, if_false, R.run_bind, R.run_ofOpt] at hr
    cases hc : cs[off]? with
    | none => simp [hc] at hr
    | some c =>
      simp only [hc, Option.bind_some, R.run_ret, Option.some.injEq, Prod.mk.injEq] at hr
      obtain ⟨rfl, rfl⟩ := hr
      have hlt : off < vs.size := by rw [h1]; exact (List.getElem?_eq_some_iff.1 hc).1
      exact ⟨rfl, _, run_part_one ht hagg vs off _ (Array.getElem?_eq_getElem hlt), h2 off c _ hc (Array.getElem?_eq_getElem hlt)⟩

theorem sim_fldV {t : TypeId} {x : Operand} {x' : Opnd} {i : Nat} {fs : Array Field} {f : Field} (ho : o.op = .field t x i) (hx : opnd X x = some x') (ht : X.P.underlying t = some (.struct fs)) (hf : fs[i]? = some f)
    (hs : okSize X.P f.type = true) : Sim X C o (.fldV f.offset (X.P.cellsOf f.type) (isAggP X.P f.type) x') := by
  refine sim_pure fun orc θ μ σ a w v ws hi hr => ?_
  simp only [ROp.sem, R.run_bind, Opnd.run_get, Option.bind_some] at hr
  have e1 := hi.ev rfl hx
  split at hr
  · rename_i cs h
    rw [h] at e1
    obtain ⟨vs, e2, h1, h2⟩ := e1.agg_inv
    obtain ⟨rfl, u, h3, h4⟩ := part_sim (P := X.P) (w := w) hs h1 h2 hr
    exact ⟨rfl, u, by simp [execOp, ho, e2, Instr.field, run_underlying ht, hf, asAgg, h3], h4⟩
  · simp [R.run_fail] at hr

theorem run_idx {a : AV} {σ : State} {n : Int} (h : (idx a).run σ = some n) : ∃ k, a = .int k n := by
  unfold idx at h
  split at h
  · simp only [R.run_ret, Option.some.injEq] at h; subst h; exact ⟨_, rfl⟩
  · simp [R.run_fail] at h

theorem sim_ixS {t : TypeId} {x i : Operand} {x' i' : Opnd} (ho : o.op = .index t x i) (hx : opnd X x = some x') (hi' : opnd X i = some i') (ht : X.P.underlying t = some .string) : Sim X C o (.ixS x' i') := by
  refine sim_pure fun orc θ μ σ a w v ws hi hr => ?_
  simp only [ROp.sem, R.run_bind, Opnd.run_get, Option.bind_some] at hr
  have e1 := hi.ev rfl hx
  have e2 := hi.ev rfl hi'
  cases hidx : (idx (i'.val σ)).run σ with
  | none => simp [hidx] at hr
  | some j =>
    obtain ⟨k, hk⟩ := run_idx hidx
    rw [hk] at e2
    simp only [hidx, Option.bind_some] at hr
    split at hr
    · rename_i s h
      rw [h] at e1
      split at hr
      · rename_i h0
        split at hr
        · rename_i c hc
          simp only [R.run_ret, Option.some.injEq, Prod.mk.injEq] at hr
          obtain ⟨rfl, rfl⟩ := hr
          refine ⟨rfl, .int .u8 c.toNat, ?_, .val (.int _ _)⟩
          have hlt : j.toNat < s.length := (List.getElem?_eq_some_iff.1 hc).1
          have hb : (⟨s.toArray⟩ : ByteArray)[j.toNat]? = some c := by
            have hsz : j.toNat < (⟨s.toArray⟩ : ByteArray).size := by show _ < s.toArray.size; simpa using hlt
            rw [ByteArray.getElem?_lt' _ _ hsz]
            congr 1
            have := (List.getElem?_eq_some_iff.1 hc).2
            rw [← this]
            rfl
          simp [execOp, ho, e1.str_inv, e2.int_inv, Instr.index, asIntOf, run_underlying ht, h0, hb]
        · simp [R.run_fail] at hr
      · simp [R.run_fail] at hr
    · simp [R.run_fail] at hr

theorem sim_ixV {t e : TypeId} {n : Nat} {x i : Operand} {x' i' : Opnd} (ho : o.op = .index t x i) (hx : opnd X x = some x') (hi' : opnd X i = some i') (ht : X.P.underlying t = some (.array n e)) (hs : okSize X.P e = true) :
    Sim X C o (.ixV n (X.P.cellsOf e) (isAggP X.P e) x' i') := by
  refine sim_pure fun orc θ μ σ a w v ws hi hr => ?_
  simp only [ROp.sem, R.run_bind, Opnd.run_get, Option.bind_some] at hr
  have e1 := hi.ev rfl hx
  have e2 := hi.ev rfl hi'
  cases hidx : (idx (i'.val σ)).run σ with
  | none => simp [hidx] at hr
  | some j =>
    obtain ⟨k, hk⟩ := run_idx hidx
    rw [hk] at e2
    simp only [hidx, Option.bind_some] at hr
    split at hr
    · rename_i h0
      split at hr
      · rename_i cs h
        rw [h] at e1
        obtain ⟨vs, e3, h1, h2⟩ := e1.agg_inv
        obtain ⟨rfl, u, h3, h4⟩ := part_sim (P := X.P) (w := w) hs h1 h2 hr
        obtain ⟨_, _, ie, hie, _⟩ := okSize_spec hs
        exact ⟨rfl, u, by simp [execOp, ho, e3, e2.int_inv, Instr.index, asIntOf, run_underlying ht, h0, run_sizeOf w hie, h3], h4⟩
      · simp [R.run_fail] at hr
    · simp [R.run_fail] at hr

theorem sim_ixArr {t e : TypeId} {n : Nat} {x i : Operand} {x' i' : Opnd} (ho : o.op = .indexAddr t x i) (hx : opnd X x = some x') (hi' : opnd X i = some i') (ht : X.P.underlying t = some (.array n e)) (hs : okSize X.P e = true) :
    Sim X C o (.ixArr n (X.P.cellsOf e) x' i') := by
  refine sim_pure fun orc θ μ σ a w v ws hi hr => ?_
  simp only [ROp.sem, R.run_bind, Opnd.run_get, Option.bind_some] at hr
  have e1 := hi.ev rfl hx
  have e2 := hi.ev rfl hi'
  cases hidx : (idx (i'.val σ)).run σ with
  | none => simp [hidx] at hr
  | some j =>
    obtain ⟨k, hk⟩ := run_idx hidx
    rw [hk] at e2
    simp only [hidx, Option.bind_some] at hr
    split at hr
    · rename_i h0
      obtain ⟨_, _, ie, hie, _⟩ := okSize_spec hs
      have key : ∀ bl off, a.eval x = .pointer (some ⟨bl, off, none⟩) → (execOp a.eval o).run X.P w = .ok (.value (.pointer (some ⟨bl, off + j.toNat * X.P.cellsOf e, none⟩))) w := by
        intro bl off h
        simp [execOp, ho, h, e2.int_inv, Instr.indexAt, asIntOf, run_underlying ht, Instr.sureAddr, h0, run_sizeOf w hie, Addr.add_mid]
      split at hr
      · rename_i cs h
        rw [h] at e1
        simp only [R.run_ret, Option.some.injEq, Prod.mk.injEq] at hr
        obtain ⟨rfl, rfl⟩ := hr
        have e3 := e1.ro_inv
        generalize hav : a.eval x = av at e3
        cases e3 with
        | ro cs bl off f' h1 h2 =>
          refine ⟨rfl, _, key _ _ hav, .val (.ro _ _ _ (fun q => f' (j.toNat * X.P.cellsOf e + q)) ?_ ?_)⟩
          · intro q c hc
            rw [List.getElem?_drop] at hc
            rw [Nat.add_assoc]
            exact h1 _ _ hc
          · intro q c hc
            rw [List.getElem?_drop] at hc
            exact h2 _ _ hc
      · rename_i d st q off h
        rw [h] at e1
        simp only [R.run_bind] at hr
        cases hob : (theObj d st).run σ with
        | none => simp [hob] at hr
        | some ob =>
          simp only [hob, Option.bind_some, R.run_ret, Option.some.injEq, Prod.mk.injEq] at hr
          obtain ⟨rfl, rfl⟩ := hr
          have hl := viewOf_live (θ := θ) (run_theObj.1 hob)
          refine ⟨rfl, _, key _ _ (e1.ref_inv hl), ?_⟩
          have := Rep.ref (φ := X.φ) (μ := μ) (V := viewOf σ θ) d st q (off + j.toNat * X.P.cellsOf e) (θ d) hl
          rwa [← Nat.add_assoc] at this
      · simp [R.run_fail] at hr
    · simp [R.run_fail] at hr

theorem sim_ixA {t e : TypeId} {x i : Operand} {x' i' : Opnd} (ho : o.op = .indexAddr t x i) (hx : opnd X x = some x') (hi' : opnd X i = some i') (ht : X.P.underlying t = some (.slice e)) (hs : okSize X.P e = true) :
    Sim X C o (.ixA (X.P.cellsOf e) x' i') := by
  refine sim_pure fun orc θ μ σ a w v ws hi hr => ?_
  simp only [ROp.sem, R.run_bind, Opnd.run_get, Option.bind_some] at hr
  have e1 := hi.ev rfl hx
  have e2 := hi.ev rfl hi'
  cases hidx : (idx (i'.val σ)).run σ with
  | none => simp [hidx] at hr
  | some j =>
    obtain ⟨k, hk⟩ := run_idx hidx
    rw [hk] at e2
    simp only [hidx, Option.bind_some] at hr
    obtain ⟨_, _, ie, hie, _⟩ := okSize_spec hs
    have key : ∀ bl off (ln cap : Nat), a.eval x = .slice (some ⟨bl, off, none⟩) ln cap → 0 ≤ j → j < ln → (execOp a.eval o).run X.P w = .ok (.value (.pointer (some ⟨bl, off + j.toNat * X.P.cellsOf e, none⟩))) w := by
      intro bl off ln cap h h0 h1
      simp [execOp, ho, h, e2.int_inv, Instr.indexAt, asIntOf, run_underlying ht, h0, h1, run_sizeOf w hie, Addr.add_mid]
    split at hr
    · rename_i e' xs h
      rw [h] at e1
      split at hr
      · rename_i hc
        simp only [Bool.and_eq_true, beq_iff_eq, decide_eq_true_eq] at hc
        obtain ⟨rfl, h0⟩ := hc
        split at hr
        · rename_i y hy
          simp only [R.run_ret, Option.some.injEq, Prod.mk.injEq] at hr
          obtain ⟨rfl, rfl⟩ := hr
          have hlt : j.toNat < xs.length := (List.getElem?_eq_some_iff.1 hy).1
          have e3 := e1.sl_inv
          generalize hav : a.eval x = av at e3
          cases e3 with
          | slE => simp at hlt
          | sl _ _ bl off cap f h1 h2 h3 h4 =>
            refine ⟨rfl, _, key _ _ _ _ hav h0 (by omega), .val (.ro _ _ _ (f j.toNat) ?_ ?_)⟩
            · intro q c hc; exact h3 _ _ _ _ hy hc
            · intro q c hc; exact h4 _ _ _ _ hy hc
        · simp [R.run_fail] at hr
      · simp [R.run_fail] at hr
    · rename_i d st lo ln h
      rw [h] at e1
      simp only [R.run_bind] at hr
      cases hob : (theObj d st).run σ with
      | none => simp [hob] at hr
      | some ob =>
        simp only [hob, Option.bind_some] at hr
        split at hr
        · rename_i hc
          simp only [Bool.and_eq_true, beq_iff_eq, decide_eq_true_eq] at hc
          obtain ⟨he, h0, h1⟩ := hc
          simp only [R.run_ret, Option.some.injEq, Prod.mk.injEq] at hr
          obtain ⟨rfl, rfl⟩ := hr
          have hd := run_theObj.1 hob
          have hl := viewOf_live (θ := θ) hd
          have hok := hi.obj d ob (by rw [hd])
          obtain ⟨b, cap, e3, h2, h3, h4, h5⟩ := e1.sref_inv hl
          have hb := h5 (by omega)
          subst hb
          refine ⟨rfl, _, key _ _ _ _ e3 h0 (by omega), ?_⟩
          have := Rep.ref (φ := X.φ) (μ := μ) (V := viewOf σ θ) d st (lo + j.toNat) 0 (θ d) hl
          rw [hok.e, he, Nat.add_zero, Nat.add_mul, ← Nat.add_assoc] at this
          rwa [hok.e, he]
        · simp [R.run_fail] at hr
    · simp [R.run_fail] at hr

def BV (v : Option Value) (dflt lim n : Nat) : Prop := (v = none ∧ n = dflt) ∨ ∃ k, v = some (.int k (n : Int)) ∧ n ≤ lim

theorem run_sliceBound_nat {P : Program} {w : World} (k : IntKind) (n lim : Nat) (code : BoundsCode) (h : n ≤ lim) : (Instr.sliceBound (.int k (n : Int)) lim code).run P w = .ok n w := by
  have h' : (0 : Int) ≤ n ∧ (n : Int) ≤ lim := ⟨by omega, by omega⟩
  simp [Instr.sliceBound, asIntOf, h]

theorem run_sliceBounds {P : Program} {w : World} {isSlice : Bool} {len cap l h m : Nat} {lo hi mx : Option Value} (hm : BV mx cap cap m) (hh : BV hi len m h) (hl : BV lo 0 h l) (hs : mx.isSome = true → hi.isSome = true) :
    (Instr.sliceBounds isSlice len cap lo hi mx).run P w = .ok (l, h, m) w := by
  unfold Instr.sliceBounds
  rcases hm with ⟨rfl, rfl⟩ | ⟨km, rfl, hm⟩ <;> rcases hh with ⟨rfl, rfl⟩ | ⟨kh, rfl, hh⟩ <;> rcases hl with ⟨rfl, rfl⟩ | ⟨kl, rfl, hl⟩ <;>
    first
      | (simp at hs; done)
      | simp [run_sliceBound_nat, *]

theorem optM_spec {α β : Type} {f : α → Option β} {x : Option α} {y : Option β} (h : optM f x = some y) : (x = none ∧ y = none) ∨ ∃ u v, x = some u ∧ y = some v ∧ f u = some v := by
  cases x with
  | none => simp [optM] at h; exact .inl ⟨rfl, h.symm⟩
  | some u =>
    simp only [optM, Option.map_eq_some_iff] at h
    obtain ⟨v, hv, rfl⟩ := h
    exact .inr ⟨u, v, rfl, rfl, hv⟩

theorem run_bound {φ : Phi} {θ : Slot → Reg} {μ : Mem} {σ : State} {a : Act} {w : World} (hi : Inv φ C θ μ σ a w) (hX : X.φ = φ) {lim dflt n : Nat} {x : Option Operand} {y : Option Opnd} (hy : optM (opnd X) x = some y)
    (h : (bound lim dflt y).run σ = some n) : (y = none ∧ n = dflt ∧ x.map a.eval = none) ∨ ∃ k, x.map a.eval = some (.int k (n : Int)) ∧ n ≤ lim := by
  rcases optM_spec hy with ⟨rfl, rfl⟩ | ⟨u, v, rfl, rfl, huv⟩
  · simp only [bound, R.run_ret, Option.some.injEq] at h
    exact .inl ⟨rfl, h.symm, rfl⟩
  · right
    simp only [bound, R.run_bind, Opnd.run_get, Option.bind_some] at h
    cases hidx : (idx (v.val σ)).run σ with
    | none => simp [hidx] at h
    | some j =>
      obtain ⟨k, hk⟩ := run_idx hidx
      simp only [hidx, Option.bind_some] at h
      split at h
      · rename_i hc
        simp only [R.run_ret, Option.some.injEq] at h
        subst h
        have e := hi.ev hX huv
        rw [hk] at e
        refine ⟨k, ?_, by omega⟩
        simp only [Option.map_some, Option.some.injEq]
        rw [e.int_inv, Int.toNat_of_nonneg hc.1]
      · simp [R.run_fail] at h

theorem BV.of {v : Option Value} {b dflt dflt' lim lim' n : Nat} {y : Option Opnd} (h : (y = none ∧ n = b ∧ v = none) ∨ ∃ k, v = some (.int k (n : Int)) ∧ n ≤ lim) (h1 : y = none → n = b → n = dflt' ) (h2 : lim ≤ lim') : BV v dflt' lim' n := by
  rcases h with ⟨h, e, rfl⟩ | ⟨k, h, hle⟩
  · exact .inl ⟨rfl, h1 h e⟩
  · exact .inr ⟨k, h, Nat.le_trans hle h2⟩

theorem run_sliceAt_of {P : Program} {w : World} {t : TypeId} {x : Value} {lo hi mx : Option Value} (h : P.underlying t = some .string ∨ ∃ e, P.underlying t = some (.slice e)) :
    (Instr.sliceAt t x lo hi mx).run P w = (Instr.slice t x lo hi mx).run P w := by
  rcases h with h | ⟨e, h⟩ <;> simp [Instr.sliceAt, run_underlying h]

theorem map_isSome_of {α β : Type} {f : α → Option β} {x : Option α} {y : Option β} (h : optM f x = some y) : x.isSome = y.isSome := by
  rcases optM_spec h with ⟨rfl, rfl⟩ | ⟨u, v, rfl, rfl, _⟩ <;> rfl

theorem sim_slice_str {t : TypeId} {x : Operand} {lo hi mx : Option Operand} {x' : Opnd} {lo' hi' mx' : Option Opnd} (ho : o.op = .slice t x lo hi mx) (hx : opnd X x = some x')
    (hlo : optM (opnd X) lo = some lo') (hhi : optM (opnd X) hi = some hi') (hmx : optM (opnd X) mx = some mx') (ht : X.P.underlying t = some .string) : Sim X C o (.slice 0 x' lo' hi' mx') := by
  refine sim_pure fun orc θ μ σ a w v ws hi0 hr => ?_
  simp only [ROp.sem, R.run_bind, Opnd.run_get, Option.bind_some] at hr
  have e1 := hi0.ev rfl hx
  split at hr
  · rename_i s h
    rw [h] at e1
    simp only [R.run_bind] at hr
    cases hh : (bound s.length s.length hi').run σ with
    | none => simp [hh] at hr
    | some h1 =>
      simp only [hh, Option.bind_some] at hr
      cases hl : (bound h1 0 lo').run σ with
      | none => simp [hl] at hr
      | some l1 =>
        simp only [hl, Option.bind_some] at hr
        split at hr
        · rename_i hm
          simp only [R.run_ret, Option.some.injEq, Prod.mk.injEq] at hr
          obtain ⟨rfl, rfl⟩ := hr
          have hm' : mx = none := by
            have := map_isSome_of hmx
            simp only [Bool.and_eq_true, Option.isNone_iff_eq_none] at hm
            rw [hm.1] at this
            simpa using this
          subst hm'
          have b1 := run_bound hi0 rfl hhi hh
          have b2 := run_bound hi0 rfl hlo hl
          have hsz : (⟨s.toArray⟩ : ByteArray).size = s.length := by show s.toArray.size = _; simp
          have hb : (Instr.sliceBounds false (⟨s.toArray⟩ : ByteArray).size (⟨s.toArray⟩ : ByteArray).size (lo.map a.eval) (hi.map a.eval) none).run X.P w = .ok (l1, h1, (⟨s.toArray⟩ : ByteArray).size) w := by
            refine run_sliceBounds (.inl ⟨rfl, rfl⟩) (BV.of (dflt := 0) b1 (fun _ e => by rw [e, hsz]) (by rw [hsz]; exact Nat.le_refl _)) (BV.of (dflt := 0) b2 (fun _ e => e) (Nat.le_refl _)) (by simp)
          refine ⟨rfl, .string ⟨((s.drop l1).take (h1 - l1)).toArray⟩, ?_, .val (.str _)⟩
          simp only [execOp, ho, Sem.run_bind, run_sliceAt_of (.inl ht), Option.map_none]
          simp [Instr.slice, run_underlying ht, e1.str_inv, hb, ByteArray.extract_mk]
        · simp [R.run_fail] at hr
  · rename_i e' xs h
    simp only [R.run_bind] at hr
    cases hm : (bound xs.length xs.length mx').run σ with
    | none => simp [hm] at hr
    | some m1 =>
      simp only [hm, Option.bind_some] at hr
      cases hh : (bound m1 xs.length hi').run σ with
      | none => simp [hh] at hr
      | some h1 =>
        simp only [hh, Option.bind_some] at hr
        cases hl : (bound h1 0 lo').run σ with
        | none => simp [hl] at hr
        | some l1 => simp [hl, R.run_fail] at hr
  · simp only [R.run_bind] at hr
    cases hm : (bound 0 0 mx').run σ with
    | none => simp [hm] at hr
    | some m1 =>
      simp only [hm, Option.bind_some] at hr
      cases hh : (bound m1 0 hi').run σ with
      | none => simp [hh] at hr
      | some h1 =>
        simp only [hh, Option.bind_some] at hr
        cases hl : (bound h1 0 lo').run σ with
        | none => simp [hl] at hr
        | some l1 => simp [hl, R.run_fail] at hr
  · rename_i d st l0 ln h
    simp only [R.run_bind] at hr
    cases hob : (theObj d st).run σ with
    | none => simp [hob] at hr
    | some ob => simp [hob, R.run_fail] at hr
  · simp [R.run_fail] at hr

theorem sim_slice {t e : TypeId} {x : Operand} {lo hi mx : Option Operand} {x' : Opnd} {lo' hi' mx' : Option Opnd} (ho : o.op = .slice t x lo hi mx) (hx : opnd X x = some x')
    (hlo : optM (opnd X) lo = some lo') (hhi : optM (opnd X) hi = some hi') (hmx : optM (opnd X) mx = some mx') (hsome : (mx.isNone || hi.isSome) = true) (ht : X.P.underlying t = some (.slice e)) (hs : okSize X.P e = true) :
    Sim X C o (.slice (X.P.cellsOf e) x' lo' hi' mx') := by
  refine sim_pure fun orc θ μ σ a w v ws hi0 hr => ?_
  simp only [ROp.sem, R.run_bind, Opnd.run_get, Option.bind_some] at hr
  have e1 := hi0.ev rfl hx
  obtain ⟨hpos, _, ie, hie, _⟩ := okSize_spec hs
  have hsome' : (mx.map a.eval).isSome = true → (hi.map a.eval).isSome = true := by
    cases mx <;> cases hi <;> simp_all
  have key : ∀ (b : Option Addr) (len cap l h m : Nat), a.eval x = .slice b len cap → BV (mx.map a.eval) cap cap m → BV (hi.map a.eval) len m h → BV (lo.map a.eval) 0 h l →
      (execOp a.eval o).run X.P w = .ok (.value (.slice (if m = l then b else b.map (·.add (l * X.P.cellsOf e))) (h - l) (m - l))) w := by
    intro b len cap l h m hb b1 b2 b3
    simp only [execOp, ho, Sem.run_bind, run_sliceAt_of (.inr ⟨e, ht⟩)]
    simp [Instr.slice, run_underlying ht, hb, run_sliceBounds b1 b2 b3 hsome', run_sizeOf w hie]
  have le_of : ∀ {y : Option Opnd} {z : Option Value} {n b lim : Nat}, ((y = none ∧ n = b ∧ z = none) ∨ ∃ k, z = some (.int k (n : Int)) ∧ n ≤ lim) → n ≤ max b lim := by
    intro y z n b lim h
    rcases h with ⟨_, rfl, _⟩ | ⟨_, _, h⟩ <;> omega
  split at hr
  · rename_i s h
    simp only [R.run_bind] at hr
    cases hh : (bound s.length s.length hi').run σ with
    | none => simp [hh] at hr
    | some h1 =>
      simp only [hh, Option.bind_some] at hr
      cases hl : (bound h1 0 lo').run σ with
      | none => simp [hl] at hr
      | some l1 =>
        have hne : (X.P.cellsOf e == 0) = false := by simp; omega
        simp [hl, hne, R.run_fail] at hr
  · rename_i e' xs h
    rw [h] at e1
    simp only [R.run_bind] at hr
    cases hm : (bound xs.length xs.length mx').run σ with
    | none => simp [hm] at hr
    | some m1 =>
      simp only [hm, Option.bind_some] at hr
      cases hh : (bound m1 xs.length hi').run σ with
      | none => simp [hh] at hr
      | some h1 =>
        simp only [hh, Option.bind_some] at hr
        cases hl : (bound h1 0 lo').run σ with
        | none => simp [hl] at hr
        | some l1 =>
          simp only [hl, Option.bind_some] at hr
          split at hr
          · rename_i hc
            simp only [Bool.and_eq_true, beq_iff_eq] at hc
            obtain ⟨rfl, _⟩ := hc
            simp only [R.run_ret, Option.some.injEq, Prod.mk.injEq] at hr
            obtain ⟨rfl, rfl⟩ := hr
            have b1 := run_bound hi0 rfl hmx hm
            have b2 := run_bound hi0 rfl hhi hh
            have b3 := run_bound hi0 rfl hlo hl
            have l1' := le_of b1; have l2' := le_of b2; have l3' := le_of b3
            refine ⟨rfl, ?_⟩
            have e3 := e1.sl_inv
            -- the concrete third bound
            have conc : ∀ (b : Option Addr) (cap : Nat), a.eval x = .slice b xs.length cap → xs.length ≤ cap →
                ∃ m, h1 ≤ m ∧ m ≤ cap ∧ (execOp a.eval o).run X.P w = .ok (.value (.slice (if m = l1 then b else b.map (·.add (l1 * X.P.cellsOf e))) (h1 - l1) (m - l1))) w := by
              intro b cap hb hle
              rcases b1 with ⟨hn, rfl, hz⟩ | ⟨k, hz, hle1⟩
              · refine ⟨cap, ?_, Nat.le_refl _, key b _ cap l1 h1 cap hb (.inl ⟨hz, rfl⟩) (BV.of (dflt := 0) b2 (fun _ e => e) hle) (BV.of (dflt := 0) b3 (fun _ e => e) (Nat.le_refl _))⟩
                rcases b2 with ⟨_, rfl, _⟩ | ⟨_, _, h2⟩ <;> omega
              · have hhs : (hi.map a.eval).isSome = true := hsome' (by rw [hz]; rfl)
                rcases b2 with ⟨_, _, h2⟩ | ⟨k2, h2, h2'⟩
                · rw [h2] at hhs; simp at hhs
                · exact ⟨m1, h2', by omega, key b _ cap l1 h1 m1 hb (.inr ⟨k, hz, by omega⟩) (.inr ⟨k2, h2, h2'⟩) (BV.of (dflt := 0) b3 (fun _ e => e) (Nat.le_refl _))⟩
            have hlen : ((xs.drop l1).take (h1 - l1)).length = min (h1 - l1) (xs.length - l1) := by simp
            have hb2 : h1 ≤ xs.length := by
              rcases b2 with ⟨_, rfl, _⟩ | ⟨_, _, h2⟩
              · omega
              · rcases b1 with ⟨_, rfl, _⟩ | ⟨_, _, h3⟩ <;> omega
            have hlen' : ((xs.drop l1).take (h1 - l1)).length = h1 - l1 := by rw [hlen]; omega
            generalize hav : a.eval x = av at e3
            cases e3 with
            | slE e b cap =>
              rename_i hbn
              obtain ⟨m, _, hmc, hrun⟩ := conc b cap (by simpa using hav) (by simp)
              refine ⟨_, hrun, ?_⟩
              simp only [List.length_nil] at hb2
              have : h1 - l1 = 0 := by omega
              rw [this]
              simp only [List.drop_nil, List.take_nil]
              exact .val (.slE _ _ _ (fun hb => by
                have : b = none := by
                  split at hb
                  · exact hb
                  · simpa using hb
                have := hbn this
                omega))
            | sl e xs bl off cap f g1 g2 g3 g4 =>
              obtain ⟨m, hm', _, hrun⟩ := conc _ cap hav g1
              by_cases hz : h1 - l1 = 0
              · refine ⟨_, hrun, ?_⟩
                rw [hz]
                simp only [List.take_zero]
                exact .val (.slE _ _ _ (fun hb => by split at hb <;> simp at hb))
              · have hne : ¬ m = l1 := by omega
                rw [if_neg hne] at hrun
                simp only [Option.map_some, Addr.add_mid] at hrun
                refine ⟨_, hrun, ?_⟩
                have := RV.sl (φ := X.φ) (μ := μ) (X.P.cellsOf e) ((xs.drop l1).take (h1 - l1)) bl (off + l1 * X.P.cellsOf e) (m - l1) (fun i j => f (l1 + i) j) (by omega)
                  (fun i y hy => by
                    rw [List.getElem?_take] at hy
                    split at hy
                    · rw [List.getElem?_drop] at hy; exact g2 _ _ hy
                    · cases hy)
                  (fun i j y c hy hc => by
                    rw [List.getElem?_take] at hy
                    split at hy
                    · rw [List.getElem?_drop] at hy
                      have := g3 _ _ _ _ hy hc
                      rw [Nat.add_mul] at this
                      rw [← this]
                      congr 1
                      omega
                    · cases hy)
                  (fun i j y c hy hc => by
                    rw [List.getElem?_take] at hy
                    split at hy
                    · rw [List.getElem?_drop] at hy; exact g4 _ _ _ _ hy hc
                    · cases hy)
                rw [hlen'] at this
                exact .val this
          · simp [R.run_fail] at hr
  · rename_i h
    rw [h] at e1
    simp only [R.run_bind] at hr
    cases hm : (bound 0 0 mx').run σ with
    | none => simp [hm] at hr
    | some m1 =>
      simp only [hm, Option.bind_some] at hr
      cases hh : (bound m1 0 hi').run σ with
      | none => simp [hh] at hr
      | some h1 =>
        simp only [hh, Option.bind_some] at hr
        cases hl : (bound h1 0 lo').run σ with
        | none => simp [hl] at hr
        | some l1 =>
          simp only [hl, Option.bind_some] at hr
          split at hr
          · simp [R.run_fail] at hr
          · simp only [R.run_ret, Option.some.injEq, Prod.mk.injEq] at hr
            obtain ⟨rfl, rfl⟩ := hr
            have b1 := run_bound hi0 rfl hmx hm
            have b2 := run_bound hi0 rfl hhi hh
            have b3 := run_bound hi0 rfl hlo hl
            have l1' := le_of b1; have l2' := le_of b2; have l3' := le_of b3
            have : m1 = 0 := by omega
            subst this
            have : h1 = 0 := by omega
            subst this
            have : l1 = 0 := by omega
            subst this
            have := key none 0 0 0 0 0 e1.nil_inv (BV.of (dflt := 0) b1 (fun _ e => e) (Nat.le_refl _)) (BV.of (dflt := 0) b2 (fun _ e => e) (Nat.le_refl _)) (BV.of (dflt := 0) b3 (fun _ e => e) (Nat.le_refl _))
            exact ⟨rfl, _, this, by simpa using Rep.val RV.nil⟩
  · rename_i d st l0 ln h
    rw [h] at e1
    simp only [R.run_bind] at hr
    cases hob : (theObj d st).run σ with
    | none => simp [hob] at hr
    | some ob =>
      simp only [hob, Option.bind_some] at hr
      have hd := run_theObj.1 hob
      have hlv := viewOf_live (θ := θ) hd
      have hok := hi0.obj d ob (by rw [hd])
      obtain ⟨b, cap, e3, g1, g2, g3, g4⟩ := e1.sref_inv hlv
      split at hr
      · rename_i hc
        simp only [Bool.and_eq_true, beq_iff_eq, decide_eq_true_eq] at hc
        obtain ⟨⟨⟨he, _⟩, hvar⟩, hfit⟩ := hc
        split at hr
        · -- with a third bound
          rename_i mo
          simp only [R.run_bind] at hr
          cases hm : (bound ln ln (some mo)).run σ with
          | none => simp [hm] at hr
          | some m1 =>
            simp only [hm, Option.bind_some] at hr
            cases hh : (bound m1 ln hi').run σ with
            | none => simp [hh] at hr
            | some h1 =>
              simp only [hh, Option.bind_some] at hr
              cases hl : (bound h1 0 lo').run σ with
              | none => simp [hl] at hr
              | some l1 =>
                simp only [hl, Option.bind_some, R.run_ret, Option.some.injEq, Prod.mk.injEq] at hr
                obtain ⟨rfl, rfl⟩ := hr
                have b1 := run_bound hi0 rfl hmx hm
                have b2 := run_bound hi0 rfl hhi hh
                have b3 := run_bound hi0 rfl hlo hl
                rcases b1 with ⟨hn, _, _⟩ | ⟨k, hz, hle1⟩
                · cases hn
                · have hhs : (hi.map a.eval).isSome = true := hsome' (by rw [hz]; rfl)
                  rcases b2 with ⟨_, _, h2⟩ | ⟨k2, h2, h2'⟩
                  · rw [h2] at hhs; simp at hhs
                  · exact ⟨rfl, _, key b _ cap l1 h1 m1 e3 (.inr ⟨k, hz, by omega⟩) (.inr ⟨k2, h2, h2'⟩) (BV.of (dflt := 0) b3 (fun _ e => e) (Nat.le_refl _)), .any _⟩
        · simp only [R.run_bind] at hr
          cases hh : (bound (ob.cap - l0) ln hi').run σ with
          | none => simp [hh] at hr
          | some h1 =>
            simp only [hh, Option.bind_some] at hr
            cases hl : (bound h1 0 lo').run σ with
            | none => simp [hl] at hr
            | some l1 =>
              simp only [hl, Option.bind_some] at hr
              have b2 := run_bound hi0 rfl hhi hh
              have b3 := run_bound hi0 rfl hlo hl
              have hcap : ob.cap - l0 ≤ cap := by have := hok.cap; omega
              have hmx' : mx.map a.eval = none := by
                rcases optM_spec hmx with ⟨rfl, _⟩ | ⟨u, v, _, h2, _⟩
                · rfl
                · cases h2
              have hrun := key b ln cap l1 h1 cap e3 (.inl ⟨hmx', rfl⟩) (BV.of (dflt := 0) b2 (fun _ e => e) hcap) (BV.of (dflt := 0) b3 (fun _ e => e) (Nat.le_refl _))
              have hh1 : h1 ≤ cap := by
                rcases b2 with ⟨_, rfl, _⟩ | ⟨_, _, h2⟩ <;> omega
              have hl1 : l1 ≤ h1 := by
                rcases b3 with ⟨_, rfl, _⟩ | ⟨_, _, h2⟩ <;> omega
              have hrn : (θ d).e = X.P.cellsOf e := by rw [hok.e, he]
              have hoff : (θ d).off + l0 * (θ d).e + l1 * X.P.cellsOf e = (θ d).off + (l0 + l1) * (θ d).e := by
                rw [hrn, Nat.add_mul, Nat.add_assoc]
              split at hr
              · simp only [R.run_ret, Option.some.injEq, Prod.mk.injEq] at hr
                obtain ⟨rfl, rfl⟩ := hr
                refine ⟨rfl, _, hrun, .sref d st (l0 + l1) (h1 - l1) (θ d) _ (cap - l1) hlv (by omega) ?_ (by omega) ?_⟩
                · rw [show l0 + l1 + (cap - l1) = l0 + cap by omega]; exact g2
                · intro hne
                  rw [if_neg (by omega), g4 (by omega)]
                  simp only [Option.map_some, Addr.add_mid, hoff]
              · rename_i hgt
                split at hr
                · rename_i hsp
                  simp only [R.run_ret, Option.some.injEq, Prod.mk.injEq] at hr
                  obtain ⟨rfl, rfl⟩ := hr
                  rw [if_neg (by omega), g4 (by omega)] at hrun
                  simp only [Option.map_some, Addr.add_mid, hoff] at hrun
                  refine ⟨rfl, _, hrun, .spare d st (l0 + l1) (h1 - l1) (θ d) (cap - l1) hlv ?_⟩
                  refine Nat.le_trans (Nat.mul_le_mul_right _ ?_) g2
                  omega
                · simp [R.run_fail] at hr
      · simp [R.run_fail] at hr
  · simp [R.run_fail] at hr

theorem eqCells_append : ∀ (k1 k2 : List Nat) (a b : List AV) (r : Bool), eqCells (k1 ++ k2) a b = some r →
    ∃ r1 r2, eqCells k1 (a.take k1.length) (b.take k1.length) = some r1 ∧ eqCells k2 (a.drop k1.length) (b.drop k1.length) = some r2 ∧ r = (r1 && r2) := by
  intro k1
  induction k1 with
  | nil => intro k2 a b r h; exact ⟨true, r, by simp [eqCells], by simpa using h, by simp⟩
  | cons k ks ih =>
    intro k2 a b r h
    cases a with
    | nil => simp [eqCells] at h
    | cons x xs =>
      cases b with
      | nil => simp [eqCells] at h
      | cons y ys =>
        simp only [List.cons_append, eqCells] at h
        cases he : eqCell k x y with
        | none => simp [he] at h
        | some b0 =>
          simp only [he, Option.map_eq_some_iff] at h
          obtain ⟨r', hr', rfl⟩ := h
          obtain ⟨r1, r2, h1, h2, rfl⟩ := ih k2 xs ys r' hr'
          exact ⟨b0 && r1, r2, by simp [eqCells, he, h1], by simpa using h2, by simp [Bool.and_assoc]⟩

/-- Read by part: the value that lies there. -/
theorem part_rep {P : Program} {w : World} {t : TypeId} {φ : Phi} {μ : Mem} {V : View} {cs : List AV} {vs : Array Value} {off : Nat} (ht : okSize P t = true)
    (h1 : vs.size = cs.length) (h2 : ∀ (j : Nat) (c : AV) (u : Value), cs[j]? = some c → vs[j]? = some u → Rep φ μ V c u) (hle : off + P.cellsOf t ≤ cs.length) :
    ∃ u x, (part t vs off).run P w = .ok u w ∧ Rep φ μ V x u ∧ (isAggP P t = true → x = .agg ((cs.drop off).take (P.cellsOf t))) ∧ (isAggP P t = false → cs[off]? = some x) := by
  cases hagg : isAggP P t with
  | true =>
    obtain ⟨_, u, h3, h4⟩ := part_sim (P := P) (w := w) (σ := ⟨[], [], []⟩) (v := .agg ((cs.drop off).take (P.cellsOf t))) (ws := []) (off := off) ht h1 h2 (by simp [hagg, hle, R.run_ret])
    exact ⟨u, _, h3, h4, fun _ => rfl, fun h => by cases h⟩
  | false =>
    have := (okSize_spec ht).1
    obtain ⟨_, u, h3, h4⟩ := part_sim (P := P) (w := w) (σ := ⟨[], [], []⟩) (v := cs[off]'(by omega)) (ws := []) (off := off) ht h1 h2 (by simp [hagg, R.run_bind, R.run_ofOpt, List.getElem?_eq_getElem (show off < cs.length by omega), R.run_ret])
    exact ⟨u, _, h3, h4, fun h => (by cases h), fun _ => List.getElem?_eq_getElem (show off < cs.length by omega)⟩

theorem eqCells_len : ∀ (ks : List Nat) (a b : List AV) (r : Bool), eqCells ks a b = some r → a.length = ks.length ∧ b.length = ks.length := by
  intro ks
  induction ks with
  | nil => intro a b r h; cases a <;> cases b <;> simp [eqCells] at h ⊢
  | cons k ks ih =>
    intro a b r h
    cases a with
    | nil => simp [eqCells] at h
    | cons x xs =>
      cases b with
      | nil => simp [eqCells] at h
      | cons y ys =>
        simp only [eqCells] at h
        cases he : eqCell k x y with
        | none => simp [he] at h
        | some b0 =>
          simp only [he, Option.map_eq_some_iff] at h
          obtain ⟨r', hr', _⟩ := h
          have := ih _ _ _ hr'
          simp [this.1, this.2]

theorem run_eqK {P : Program} {w : World} {φ : Phi} {μ : Mem} {V : View} : ∀ (d : Nat) (t : TypeId) (ks : List Nat), eqK P d t = some ks → ∀ (D : Nat), d ≤ D → ∀ (x y : AV) (a b : Value) (r : Bool), Rep φ μ V x a → Rep φ μ V y b →
    (isAggP P t = true → (∃ cs, x = .agg cs) ∧ ∃ cs, y = .agg cs) → (isAggP P t = false → x.cells = [x] ∧ y.cells = [y]) → eqCells ks x.cells y.cells = some r → (Op.equalIn D t a b).run P w = .ok r w := by
  intro d
  induction d with
  | zero => intro t ks h; simp [eqK] at h
  | succ d ih =>
    intro t ks hk D hD x y a b r hx hy hagg hone hr
    obtain ⟨D, rfl⟩ : ∃ m, D = m + 1 := ⟨D - 1, by omega⟩
    simp only [eqK] at hk
    split at hk
    · rename_i hu
      have hna : isAggP P t = false := by simp [isAggP, hu]
      obtain ⟨e1, e2⟩ := hone hna
      cases hk
      rw [e1, e2] at hr
      simp only [eqCells] at hr
      cases he : eqCell 1 x y with
      | none => simp [he] at hr
      | some b0 =>
        simp only [he, Option.map_some, Option.some.injEq, Bool.and_true] at hr
        subst hr
        unfold eqCell at he
        split at he <;> first | (rename_i h1 _ _; cases h1; done) | skip
        · rename_i h1; cases h1
        · cases he; cases hx.bool_inv; cases hy.bool_inv; exact run_equalIn_bool' w D t _ _ hu
        · rename_i h1; cases h1
        · cases he
    · rename_i k hu
      have hna : isAggP P t = false := by simp [isAggP, hu]
      obtain ⟨e1, e2⟩ := hone hna
      cases hk
      rw [e1, e2] at hr
      simp only [eqCells] at hr
      cases he : eqCell 0 x y with
      | none => simp [he] at hr
      | some b0 =>
        simp only [he, Option.map_some, Option.some.injEq, Bool.and_true] at hr
        subst hr
        unfold eqCell at he
        split at he
        · split at he
          · rename_i hk; subst hk; cases he; cases hx.int_inv; cases hy.int_inv; exact run_equalIn_int w D t _ _ _ _ hu
          · cases he
        · rename_i h1; cases h1
        · rename_i h1; cases h1
        · cases he
    · rename_i hu
      have hna : isAggP P t = false := by simp [isAggP, hu]
      obtain ⟨e1, e2⟩ := hone hna
      cases hk
      rw [e1, e2] at hr
      simp only [eqCells] at hr
      cases he : eqCell 2 x y with
      | none => simp [he] at hr
      | some b0 =>
        simp only [he, Option.map_some, Option.some.injEq, Bool.and_true] at hr
        subst hr
        unfold eqCell at he
        split at he
        · rename_i h1; cases h1
        · rename_i h1; cases h1
        · cases he; cases hx.str_inv; cases hy.str_inv
          rw [run_equalIn_string w D t _ _ hu]
          simp
        · cases he
    · rename_i fs hu
      have hya : isAggP P t = true := by simp [isAggP, hu]
      obtain ⟨⟨cs, rfl⟩, ⟨ds, rfl⟩⟩ := hagg hya
      obtain ⟨va, rfl, a1, a2⟩ := hx.agg_inv
      obtain ⟨vb, rfl, b1, b2⟩ := hy.agg_inv
      split at hk
      · cases hk
      · rename_i hst
        have hfs : P.fieldsOf t = fs := by simp [Program.fieldsOf, hu]
        rw [run_equalIn_struct w D t va vb (by rw [hfs]; exact hu) (by simpa using hst), hfs]
        simp only [AV.cells] at hr
        generalize fs.toList = l at hk ⊢
        -- from a place on
        have go : ∀ (l : List Field) (acc : Nat) (ks : List Nat) (r : Bool), eqKs (eqK P d) P l acc = some ks → eqCells ks (cs.drop acc) (ds.drop acc) = some r → (Op.eqFields D va vb l).run P w = .ok r w := by
          intro l
          induction l with
          | nil =>
            intro acc ks r h1 h2
            simp only [eqKs, Option.some.injEq] at h1
            subst h1
            cases h3 : cs.drop acc <;> cases h4 : ds.drop acc <;> simp [h3, h4, eqCells] at h2
            subst h2
            rfl
          | cons f l ihl =>
            intro acc ks r h1 h2
            simp only [eqKs] at h1
            split at h1
            · rename_i hc
              simp only [Bool.and_eq_true, bne_iff_ne, ne_eq, beq_iff_eq] at hc
              obtain ⟨⟨hn, hoff⟩, hok⟩ := hc
              cases hkf : eqK P d f.type with
              | none => simp [hkf] at h1
              | some kf =>
                simp only [hkf] at h1
                split at h1
                · rename_i hlen
                  simp only [beq_iff_eq] at hlen
                  simp only [Option.map_eq_some_iff] at h1
                  obtain ⟨kr, h1, rfl⟩ := h1
                  obtain ⟨r1, r2, g1, g2, rfl⟩ := eqCells_append kf kr _ _ r h2
                  have hl := eqCells_len _ _ _ _ h2
                  simp only [List.length_drop, List.length_append] at hl
                  have hpos := (okSize_spec hok).1
                  subst hoff
                  obtain ⟨u1, x1, p1, q1, s1, t1⟩ := part_rep (w := w) hok a1 a2 (off := f.offset) (by omega)
                  obtain ⟨u2, x2, p2, q2, s2, t2⟩ := part_rep (w := w) hok b1 b2 (off := f.offset) (by omega)
                  have hq : (Op.equalIn D f.type u1 u2).run P w = .ok r1 w := by
                    cases hag : isAggP P f.type with
                    | true =>
                      refine ih f.type kf hkf D (by omega) x1 x2 u1 u2 r1 q1 q2 (fun _ => ⟨⟨_, s1 hag⟩, ⟨_, s2 hag⟩⟩) (fun h => by rw [hag] at h; cases h) ?_
                      rw [s1 hag, s2 hag]
                      simpa [AV.cells, hlen] using g1
                    | false =>
                      have hone1 : kf.length = 1 := by
                        cases d with
                        | zero => simp [eqK] at hkf
                        | succ d =>
                          simp only [eqK] at hkf
                          split at hkf <;> first | (cases hkf; rfl) | skip
                          · rename_i fs' hu'
                            have : isAggP P f.type = true := by simp [isAggP, hu']
                            rw [this] at hag; cases hag
                          · cases hkf
                      have c1 := t1 hag; have c2 := t2 hag
                      have e1 : (cs.drop f.offset).take kf.length = [x1] := by
                        rw [hone1]
                        have hlt : f.offset < cs.length := (List.getElem?_eq_some_iff.1 c1).1
                        rw [List.drop_eq_getElem_cons hlt]
                        simp [(List.getElem?_eq_some_iff.1 c1).2]
                      have e2 : (ds.drop f.offset).take kf.length = [x2] := by
                        rw [hone1]
                        have hlt : f.offset < ds.length := (List.getElem?_eq_some_iff.1 c2).1
                        rw [List.drop_eq_getElem_cons hlt]
                        simp [(List.getElem?_eq_some_iff.1 c2).2]
                      rw [e1, e2] at g1
                      have n1 : ∀ zs, x1 ≠ .agg zs := by
                        intro zs hz
                        subst hz
                        obtain ⟨k0, hk0⟩ : ∃ k0, kf = [k0] := by
                          cases kf with
                          | nil => simp at hone1
                          | cons k0 r0 => cases r0 with
                            | nil => exact ⟨k0, rfl⟩
                            | cons _ _ => simp at hone1
                        subst hk0
                        simp only [eqCells] at g1
                        cases k0 with
                        | zero => simp [eqCell] at g1
                        | succ n => cases n with
                          | zero => simp [eqCell] at g1
                          | succ n => cases n <;> simp [eqCell] at g1
                      have n2 : ∀ zs, x2 ≠ .agg zs := by
                        intro zs hz
                        subst hz
                        obtain ⟨k0, hk0⟩ : ∃ k0, kf = [k0] := by
                          cases kf with
                          | nil => simp at hone1
                          | cons k0 r0 => cases r0 with
                            | nil => exact ⟨k0, rfl⟩
                            | cons _ _ => simp at hone1
                        subst hk0
                        simp only [eqCells] at g1
                        cases k0 with
                        | zero => cases x1 <;> simp [eqCell] at g1
                        | succ n => cases n with
                          | zero => cases x1 <;> simp [eqCell] at g1
                          | succ n => cases n <;> cases x1 <;> simp [eqCell] at g1
                      exact ih f.type kf hkf D (by omega) x1 x2 u1 u2 r1 q1 q2 (fun h => by rw [hag] at h; cases h) (fun _ => ⟨AV.cells_one n1, AV.cells_one n2⟩) (by rw [AV.cells_one n1, AV.cells_one n2]; exact g1)
                  have hrest := ihl (f.offset + kf.length) kr r2 h1 (by simpa [List.drop_drop] using g2)
                  simp only [Op.eqFields, hn, ne_eq, not_false_eq_true, if_true, Sem.run_bind, p1, p2, hq, Result.andThen_ok]
                  cases r1
                  · simp
                  · simpa using hrest
                · cases h1
            · cases h1
        exact go l 0 ks r hk (by simpa using hr)
    · cases hk

theorem sim_eqAgg {t u : TypeId} {x y : Operand} {x' y' : Opnd} {neg : Bool} {ks : List Nat} (ho : o.op = .binOp (if neg then .neq else .eql) t x y u) (hx : opnd X x = some x') (hy : opnd X y = some y')
    (hagg : isAggP X.P t = true) (hk : eqK X.P 8 t = some ks) (hg : X.P.eqGuardType X.P.depth t = false) : Sim X C o (.eqAgg neg ks x' y') := by
  refine sim_pure fun orc θ μ σ a w v ws hi hr => ?_
  simp only [ROp.sem, R.run_bind, Opnd.run_get, Option.bind_some] at hr
  have e1 := hi.ev rfl hx
  have e2 := hi.ev rfl hy
  split at hr
  · rename_i cs ds h1 h2
    rw [h1] at e1
    rw [h2] at e2
    simp only [R.run_bind, R.run_ofOpt] at hr
    cases hv : eqCells ks cs ds with
    | none => simp [hv] at hr
    | some r =>
      simp only [hv, Option.bind_some, R.run_ret, Option.some.injEq, Prod.mk.injEq] at hr
      obtain ⟨rfl, rfl⟩ := hr
      have hq := run_eqK (P := X.P) (w := w) 8 t ks hk 10000 (by omega) _ _ _ _ r e1 e2 (fun _ => ⟨⟨_, rfl⟩, ⟨_, rfl⟩⟩) (fun h => by rw [hagg] at h; cases h) hv
      obtain ⟨va, ea, _⟩ := e1.agg_inv
      obtain ⟨vb, eb, _⟩ := e2.agg_inv
      rw [ea, eb] at hq
      refine ⟨rfl, .bool (r != neg), ?_, .val (.bool _)⟩
      cases neg
      · simp only [Bool.false_eq_true, if_false] at ho
        simp [execOp, ho, ea, eb, run_eqGuard_agg w .eql t x y va vb hg, run_eql_struct w t va vb, hq]
      · simp only [if_true] at ho
        simp [execOp, ho, ea, eb, run_eqGuard_agg w .neq t x y va vb hg, run_neq_struct w t va vb, hq]
  · simp [R.run_fail] at hr
end
end Go.Vm
/- Any order of a region's instructions does the same. -/
namespace Go.Vm

def State.Same (k : Key) (σ σ' : State) : Prop :=
  match k with
  | .t n => σ'.getT n = σ.getT n
  | .o d => σ'.getO d = σ.getO d
  | .f d => σ'.getF d = σ.getF d

theorem State.Same.refl (k : Key) (σ : State) : σ.Same k σ := by cases k <;> rfl
theorem State.Same.symm {k : Key} {σ σ' : State} (h : σ.Same k σ') : σ'.Same k σ := by cases k <;> exact Eq.symm h
theorem State.Same.trans {k : Key} {a b c : State} (h : a.Same k b) (h' : b.Same k c) : a.Same k c := by cases k <;> exact Eq.trans h' h
theorem State.Like.same {σ σ' : State} (h : σ.Like σ') (k : Key) : σ.Same k σ' := by
  cases k with
  | t n => exact h.t n
  | o d => exact h.o d
  | f d => exact h.f d
theorem State.Like.of {σ σ' : State} (hl : σ'.tm.length = σ.tm.length) (h : ∀ k, σ.Same k σ') : σ.Like σ' := ⟨hl, fun n => h (.t n), fun d => h (.o d), fun d => h (.f d)⟩
theorem State.Like.refl (σ : State) : σ.Like σ := .of rfl fun k => .refl k σ
theorem State.Like.symm {σ σ' : State} (h : σ.Like σ') : σ'.Like σ := .of h.len.symm fun k => (h.same k).symm
theorem State.Like.trans {a b c : State} (h : a.Like b) (h' : b.Like c) : a.Like c := .of (h'.len.trans h.len) fun k => (h.same k).trans (h'.same k)

/-- What is read is read alike where what is looked at is alike. -/
theorem R.local {α : Type} (m : R α) {σ σ' : State} (h : ∀ k ∈ m.foot σ, σ.Same k σ') : m.run σ' = m.run σ ∧ m.foot σ' = m.foot σ := by
  induction m with
  | ret a => exact ⟨rfl, rfl⟩
  | fail => exact ⟨rfl, rfl⟩
  | getT n k ih =>
    have h0 : σ'.getT n = σ.getT n := h (.t n) (by simp [R.foot])
    obtain ⟨h1, h2⟩ := ih (σ.getT n) (fun k hk => h k (by simp [R.foot, hk]))
    exact ⟨by simp only [R.run, h0, h1], by simp only [R.foot, h0, h2]⟩
  | getO n k ih =>
    have h0 : σ'.getO n = σ.getO n := h (.o n) (by simp [R.foot])
    obtain ⟨h1, h2⟩ := ih (σ.getO n) (fun k hk => h k (by simp [R.foot, hk]))
    exact ⟨by simp only [R.run, h0, h1], by simp only [R.foot, h0, h2]⟩
  | getF n k ih =>
    have h0 : σ'.getF n = σ.getF n := h (.f n) (by simp [R.foot])
    obtain ⟨h1, h2⟩ := ih (σ.getF n) (fun k hk => h k (by simp [R.foot, hk]))
    exact ⟨by simp only [R.run, h0, h1], by simp only [R.foot, h0, h2]⟩

theorem apply_same {k : Key} {σ σ' : State} (hl : σ'.tm.length = σ.tm.length) (h : σ.Same k σ') (x : W) : (x.apply σ).Same k (x.apply σ') := by
  cases k with
  | t n =>
    cases x with
    | t m v =>
      show ((W.t m v).apply σ').getT n = ((W.t m v).apply σ).getT n
      rw [getT_t, getT_t, hl]
      split
      · rfl
      · exact h
    | o d s => exact h
    | f d b => exact h
  | o n =>
    cases x with
    | t m v => exact h
    | o d s =>
      show ((W.o d s).apply σ').getO n = ((W.o d s).apply σ).getO n
      rw [getO_o, getO_o]
      split
      · rfl
      · exact h
    | f d b => exact h
  | f n =>
    cases x with
    | t m v => exact h
    | o d s => exact h
    | f d b =>
      show ((W.f d b).apply σ').getF n = ((W.f d b).apply σ).getF n
      rw [getF_f, getF_f]
      split
      · rfl
      · exact h

theorem apply_own {σ σ' : State} (hl : σ'.tm.length = σ.tm.length) (x : W) : (∀ n v, x = .t n v → n < σ.tm.length) → (x.apply σ).Same x.key (x.apply σ') := by
  intro hn
  cases x with
  | t m v =>
    show ((W.t m v).apply σ').getT m = ((W.t m v).apply σ).getT m
    rw [getT_t, getT_t, hl, if_pos ⟨rfl, hn m v rfl⟩, if_pos ⟨rfl, hn m v rfl⟩]
  | o d s =>
    show ((W.o d s).apply σ').getO d = ((W.o d s).apply σ).getO d
    rw [getO_o, getO_o, if_pos rfl, if_pos rfl]
  | f d b =>
    show ((W.f d b).apply σ').getF d = ((W.f d b).apply σ).getF d
    rw [getF_f, getF_f, if_pos rfl, if_pos rfl]

theorem getT_out {σ : State} {n : Nat} (h : ¬ n < σ.tm.length) : σ.getT n = .any := by
  simp [State.getT, List.getD_eq_getElem?_getD, List.getElem?_eq_none (Nat.le_of_not_lt h)]

theorem applyAll_same {k : Key} : ∀ (ws : List W) {σ σ' : State}, σ'.tm.length = σ.tm.length → σ.Same k σ' → (σ.applyAll ws).Same k (σ'.applyAll ws)
  | [], _, _, _, h => h
  | x :: ws, σ, σ', hl, h => by
    rw [applyAll_cons, applyAll_cons]
    exact applyAll_same ws (by rw [len_apply, len_apply, hl]) (apply_same hl h x)

/-- What is written is alike, whatever was there. -/
theorem applyAll_own {k : Key} : ∀ (ws : List W) {σ σ' : State}, σ'.tm.length = σ.tm.length → k ∈ ws.map W.key → (σ.applyAll ws).Same k (σ'.applyAll ws)
  | [], _, _, _, h => by simp at h
  | x :: ws, σ, σ', hl, h => by
    rw [applyAll_cons, applyAll_cons]
    by_cases hk : k ∈ ws.map W.key
    · exact applyAll_own ws (by rw [len_apply, len_apply, hl]) hk
    · have hx : k = x.key := by
        simp only [List.map_cons, List.mem_cons] at h
        exact h.resolve_right hk
      subst hx
      by_cases hn : ∀ n v, x = .t n v → n < σ.tm.length
      · exact applyAll_same ws (by rw [len_apply, len_apply, hl]) (apply_own hl x hn)
      · have : ∃ n v, x = .t n v ∧ ¬ n < σ.tm.length := by
          apply Classical.byContradiction
          intro hc
          exact hn fun n v e => Classical.byContradiction fun hlt => hc ⟨n, v, e, hlt⟩
        obtain ⟨n, v, rfl, hlt⟩ := this
        show (((W.t n v).apply σ').applyAll ws).getT n = (((W.t n v).apply σ).applyAll ws).getT n
        rw [getT_out (by rw [len_applyAll, len_apply, hl]; exact hlt), getT_out (by rw [len_applyAll, len_apply]; exact hlt)]

/-- What is not written stays. -/
theorem applyAll_out {k : Key} : ∀ (ws : List W) {σ : State}, k ∉ ws.map W.key → σ.Same k (σ.applyAll ws)
  | [], σ, _ => .refl k σ
  | x :: ws, σ, h => by
    rw [applyAll_cons]
    simp only [List.map_cons, List.mem_cons, not_or] at h
    refine .trans ?_ (applyAll_out ws h.2)
    cases k with
    | t n =>
      cases x with
      | t m v =>
        show ((W.t m v).apply σ).getT n = σ.getT n
        rw [getT_t, if_neg (fun e => h.1 (by rw [e.1]; rfl))]
      | o d s => rfl
      | f d b => rfl
    | o n =>
      cases x with
      | t m v => rfl
      | o d s =>
        show ((W.o d s).apply σ).getO n = σ.getO n
        rw [getO_o, if_neg (fun e => h.1 (by rw [e]; rfl))]
      | f d b => rfl
    | f n =>
      cases x with
      | t m v => rfl
      | o d s => rfl
      | f d b =>
        show ((W.f d b).apply σ).getF n = σ.getF n
        rw [getF_f, if_neg (fun e => h.1 (by rw [e]; rfl))]

theorem applyAll_comm {xs ys : List W} {σ : State} (h : ∀ k ∈ xs.map W.key, k ∉ ys.map W.key) : ((σ.applyAll xs).applyAll ys).Like ((σ.applyAll ys).applyAll xs) := by
  refine .of (by simp [len_applyAll]) fun k => ?_
  by_cases hx : k ∈ xs.map W.key
  · have hy := h k hx
    have h1 : (σ.applyAll xs).Same k ((σ.applyAll xs).applyAll ys) := applyAll_out ys hy
    have h2 : (σ.applyAll xs).Same k ((σ.applyAll ys).applyAll xs) := applyAll_own xs (len_applyAll _ _) hx
    exact h1.symm.trans h2
  · have h1 : (σ.applyAll ys).Same k ((σ.applyAll ys).applyAll xs) := applyAll_out xs hx
    by_cases hy : k ∈ ys.map W.key
    · have h2 : (σ.applyAll ys).Same k ((σ.applyAll xs).applyAll ys) := applyAll_own ys (len_applyAll _ _) hy
      exact h2.symm.trans h1
    · have h2 : σ.Same k (σ.applyAll ys) := applyAll_out ys hy
      have h3 : σ.Same k (σ.applyAll xs) := applyAll_out xs hx
      have h4 : (σ.applyAll xs).Same k ((σ.applyAll xs).applyAll ys) := applyAll_out ys hy
      exact (h3.trans h4).symm.trans (h2.trans h1)

theorem applyAll_like {σ σ' : State} (h : σ.Like σ') (ws : List W) : (σ.applyAll ws).Like (σ'.applyAll ws) := .of (by rw [len_applyAll, len_applyAll, h.len]) fun k => applyAll_same ws h.len (h.same k)

/-- The instructions at the listed places, one after the other. -/
def Runs (I : Nat → R (List W)) (F : Nat → List Key × List Key) : List Nat → State → State → Prop
  | [], σ, σ' => σ.Like σ'
  | i :: is, σ, σ' => ∃ ws, (I i).run σ = some ws ∧ F i = ((I i).foot σ, ws.map W.key) ∧ Runs I F is (σ.applyAll ws) σ'

theorem Runs.like {I : Nat → R (List W)} {F : Nat → List Key × List Key} : ∀ {l : List Nat} {σ τ σ' : State}, σ.Like τ → Runs I F l σ σ' → Runs I F l τ σ'
  | [], _, _, _, h, r => h.symm.trans r
  | i :: is, σ, τ, σ', h, ⟨ws, h1, h2, h3⟩ => by
    obtain ⟨e1, e2⟩ := (I i).local (σ := σ) (σ' := τ) (fun k _ => h.same k)
    exact ⟨ws, e1.trans h1, by rw [e2]; exact h2, Runs.like (applyAll_like h ws) h3⟩

theorem disj_spec {a b : List Key} (h : disj a b = true) : ∀ k ∈ a, k ∉ b := by
  intro k hk hb
  simp only [disj, List.all_eq_true, Bool.not_eq_true'] at h
  have := h k hk
  rw [List.contains_iff_mem.2 hb] at this
  cases this

theorem Runs.swap {I : Nat → R (List W)} {F : Nat → List Key × List Key} {x y : Nat} {l : List Nat} {σ σ' : State} (hp : pairOk (F x) (F y) = true) (h : Runs I F (x :: y :: l) σ σ') : Runs I F (y :: x :: l) σ σ' := by
  obtain ⟨xs, h1, h2, ys, h3, h4, h5⟩ := h
  simp only [pairOk, Bool.and_eq_true] at hp
  obtain ⟨⟨p1, p2⟩, p3⟩ := hp
  rw [h2] at p1 p2 p3
  rw [h4] at p1 p2 p3
  obtain ⟨e1, e2⟩ := (I y).local (σ := σ.applyAll xs) (σ' := σ) (fun k hk => (applyAll_out xs (fun hx => disj_spec p1 k hx hk)).symm)
  obtain ⟨g1, g2⟩ := (I x).local (σ := σ) (σ' := σ.applyAll ys) (fun k hk => applyAll_out ys (disj_spec p3 k hk))
  exact ⟨ys, e1.trans h3, by rw [e2]; exact h4, xs, g1.trans h1, by rw [g2]; exact h2, h5.like (applyAll_comm (disj_spec p2))⟩

theorem Runs.front {I : Nat → R (List W)} {F : Nat → List Key × List Key} {i : Nat} {r : List Nat} : ∀ {p : List Nat} {σ σ' : State}, (∀ a ∈ p, pairOk (F a) (F i) = true) → Runs I F (p ++ i :: r) σ σ' → Runs I F (i :: (p ++ r)) σ σ'
  | [], _, _, _, h => h
  | x :: p, σ, σ', hp, h => by
    obtain ⟨xs, h1, h2, h3⟩ := h
    have := Runs.front (fun a ha => hp a (by simp [ha])) h3
    exact Runs.swap (hp x (by simp)) ⟨xs, h1, h2, this⟩

/-- In any order that keeps to 'ord'. -/
theorem Runs.perm {I : Nat → R (List W)} {F : Nat → List Key × List Key} {ord : Nat → Nat → Prop} : ∀ {s p : List Nat} {σ σ' : State}, Runs I F p σ σ' → p.Perm s → s.Pairwise (fun x y => ¬ord y x) → p.Pairwise (fun x y => ord x y ∨ pairOk (F x) (F y) = true) → Runs I F s σ σ'
  | [], p, σ, σ', h, hp, _, _ => by rw [List.perm_nil.1 hp] at h; exact h
  | i :: s, p, σ, σ', h, hp, hs, ho => by
    have hi : i ∈ p := hp.symm.subset (by simp)
    obtain ⟨p1, p2, rfl⟩ := List.append_of_mem hi
    have hperm : (p1 ++ p2).Perm s := (List.perm_middle.symm.trans hp).cons_inv
    rw [List.pairwise_append] at ho
    obtain ⟨o1, o2, o3⟩ := ho
    rw [List.pairwise_cons] at o2 hs
    have hfront : ∀ a ∈ p1, pairOk (F a) (F i) = true := by
      intro a ha
      rcases o3 a ha i (by simp) with h1 | h1
      · exact absurd h1 (hs.1 a (hperm.subset (by simp [ha])))
      · exact h1
    obtain ⟨ws, h1, h2, h3⟩ := Runs.front hfront h
    refine ⟨ws, h1, h2, Runs.perm h3 hperm hs.2 ?_⟩
    rw [List.pairwise_append]
    exact ⟨o1, o2.2, fun a ha b hb => o3 a ha b (by simp [hb])⟩

end Go.Vm
/- What a region's orders keep to. -/
namespace Go.Vm

section
variable {ops : Array Oper} {md : Region.Mode}

/-- Each one is ready when it is listed. -/
def Good (md : Region.Mode) (ops : Array Oper) : Array Bool → List Nat → Prop
  | _, [] => True
  | L, i :: r => i ∈ Region.ready md ops L ∧ Good md ops (L.setIfInBounds i true) r

theorem go_eq (fuel t : Nat) (L : Array Bool) : Region.linearise.go md ops (fuel + 1) t L [] =
    match (Region.ready md ops L)[t % (Region.ready md ops L).length]? with
    | some i => i :: Region.linearise.go md ops fuel (t / (Region.ready md ops L).length) (L.setIfInBounds i true) []
    | none => [] := by
  simp only [Region.linearise.go]
  change (match (Region.ready md ops L)[t % (Region.ready md ops L).length]? with
      | some i => Region.linearise.go md ops fuel (t / (Region.ready md ops L).length) (L.setIfInBounds i true) [i]
      | none => [].reverse) = _
  cases (Region.ready md ops L)[t % (Region.ready md ops L).length]? with
  | none => rfl
  | some i => simp only; rw [linearise_go_acc]; rfl

theorem go_good : ∀ (fuel t : Nat) (L : Array Bool), Good md ops L (Region.linearise.go md ops fuel t L []) := by
  intro fuel
  induction fuel with
  | zero => intro t L; exact trivial
  | succ fuel ih =>
    intro t L
    rw [go_eq]
    split
    · rename_i i hi
      exact ⟨List.mem_of_getElem? hi, ih _ _⟩
    · exact trivial

theorem ready_lt {L : Array Bool} {i : Nat} (h : i ∈ Region.ready md ops L) : i < ops.size ∧ L.getD i true = false := by
  obtain ⟨h1, o, ho, _⟩ := mem_ready.1 h
  exact ⟨(Array.getElem?_eq_some_iff.1 ho).1, h1⟩

theorem Good.mem : ∀ {l : List Nat} {L : Array Bool}, Good md ops L l → ∀ i ∈ l, i < ops.size ∧ L.getD i true = false
  | x :: l, L, ⟨h1, h2⟩, i, hi => by
    simp only [List.mem_cons] at hi
    rcases hi with rfl | hi
    · exact ready_lt h1
    · obtain ⟨g1, g2⟩ := h2.mem i hi
      refine ⟨g1, ?_⟩
      by_cases hx : x = i
      · subst hx
        have := (ready_lt h1).2
        exact this
      · rwa [getD_set_ne true hx] at g2

theorem getD_true_of_false {L : Array Bool} {i : Nat} (h : L.getD i true = false) : i < L.size := by
  rcases Nat.lt_or_ge i L.size with h' | h'
  · exact h'
  · simp [Array.getElem?_eq_none h'] at h

theorem Good.nodup : ∀ {l : List Nat} {L : Array Bool}, Good md ops L l → l.Nodup
  | [], _, _ => List.nodup_nil
  | x :: l, L, ⟨h1, h2⟩ => by
    refine List.nodup_cons.2 ⟨fun hx => ?_, h2.nodup⟩
    have := (h2.mem x hx).2
    have hlt := getD_true_of_false (ready_lt h1).2
    simp [hlt] at this

theorem Good.split {x : Nat} {l2 : List Nat} : ∀ {l1 : List Nat} {L : Array Bool}, Good md ops L (l1 ++ x :: l2) → ∃ o, ops[x]? = some o ∧ ∀ e ∈ o.after, Region.binds md e = true → L.getD e.on false = true ∨ e.on ∈ l1
  | [], L, ⟨h1, _⟩ => by
    obtain ⟨_, o, ho, h⟩ := mem_ready.1 h1
    exact ⟨o, ho, fun e he hb => .inl (h e he hb)⟩
  | y :: l1, L, ⟨h1, h2⟩ => by
    obtain ⟨o, ho, h⟩ := h2.split
    refine ⟨o, ho, fun e he hb => ?_⟩
    rcases h e he hb with h3 | h3
    · by_cases hy : y = e.on
      · exact .inr (by simp [hy])
      · rw [getD_set_ne false hy] at h3
        exact .inl h3
    · exact .inr (by simp [h3])

theorem ready_some {L : Array Bool} (hL : L.size = ops.size) (rank : Nat → Nat) (hr : ∀ (i : Nat) (o : Oper), ops[i]? = some o → ∀ e ∈ o.after, Region.binds md e = true → rank e.on < rank i ∧ e.on < ops.size) :
    ∀ (m i : Nat), rank i = m → i < ops.size → L.getD i true = false → ∃ j, j ∈ Region.ready md ops L := by
  intro m
  induction m using Nat.strongRecOn with
  | _ m ih =>
    intro i him hi hu
    by_cases hex : ∃ e ∈ ops[i].after, Region.binds md e = true ∧ L.getD e.on false = false
    · obtain ⟨e, he, hb, hf⟩ := hex
      obtain ⟨r1, r2⟩ := hr i ops[i] (Array.getElem?_eq_getElem hi) e he hb
      refine ih (rank e.on) (by omega) e.on rfl r2 ?_
      have : e.on < L.size := by omega
      simp [this] at hf ⊢
      exact hf
    · refine ⟨i, mem_ready.2 ⟨hu, ops[i], Array.getElem?_eq_getElem hi, fun e he hb => ?_⟩⟩
      cases hf : L.getD e.on false with
      | true => rfl
      | false => exact absurd ⟨e, he, hb, hf⟩ hex

theorem go_all (rank : Nat → Nat) (hr : ∀ (i : Nat) (o : Oper), ops[i]? = some o → ∀ e ∈ o.after, Region.binds md e = true → rank e.on < rank i ∧ e.on < ops.size) :
    ∀ (fuel t : Nat) (L : Array Bool), L.size = ops.size → ((List.range ops.size).filter fun i => !L.getD i true).length ≤ fuel → ∀ i, i < ops.size → L.getD i true = false → i ∈ Region.linearise.go md ops fuel t L [] := by
  intro fuel
  induction fuel with
  | zero =>
    intro t L hL hle i hi hu
    have : i ∈ (List.range ops.size).filter fun i => !L.getD i true := by simp [List.mem_filter, hi]; simpa using hu
    rw [List.length_eq_zero_iff.1 (Nat.le_zero.1 hle)] at this
    cases this
  | succ fuel ih =>
    intro t L hL hle i hi hu
    obtain ⟨j, hj⟩ := ready_some hL rank hr (rank i) i rfl hi hu
    have hpos : 0 < (Region.ready md ops L).length := List.length_pos_of_mem hj
    have hlt : t % (Region.ready md ops L).length < (Region.ready md ops L).length := Nat.mod_lt _ hpos
    rw [go_eq, List.getElem?_eq_getElem hlt]
    simp only
    generalize hk : (Region.ready md ops L)[t % (Region.ready md ops L).length] = k
    have hkm : k ∈ Region.ready md ops L := by rw [← hk]; exact List.getElem_mem hlt
    by_cases hik : k = i
    · simp [hik]
    · refine List.mem_cons_of_mem _ (ih _ _ (by simp [hL]) ?_ i hi (by rw [getD_set_ne true hik]; exact hu))
      have hsub : ((List.range ops.size).filter fun i => !(L.setIfInBounds k true).getD i true) = ((List.range ops.size).filter fun i => !L.getD i true).filter fun i => i != k := by
        rw [List.filter_filter]
        refine List.filter_congr fun x hx => ?_
        by_cases hxk : k = x
        · subst hxk
          have hlt := getD_true_of_false (ready_lt hkm).2
          simp [hlt]
        · rw [getD_set_ne true hxk]
          have : (x != k) = true := by simp; exact fun h => hxk h.symm
          simp [this]
      rw [hsub]
      have : (((List.range ops.size).filter fun i => !L.getD i true).filter fun i => i != k).length < ((List.range ops.size).filter fun i => !L.getD i true).length := by
        rw [List.length_filter_lt_length_iff_exists]
        refine ⟨k, ?_, by simp⟩
        obtain ⟨q1, q2⟩ := ready_lt hkm
        rw [List.mem_filter]
        exact ⟨by simp [q1], by rw [q2]; rfl⟩
      omega

theorem unlisted (n i : Nat) (h : i < n) : (Array.replicate n false).getD i true = false := by simp [h]
theorem unlisted' (n i : Nat) : (Array.replicate n false).getD i false = false := by
  by_cases h : i < n <;> simp [h]

theorem lin_spec (rank : Nat → Nat) (hr : ∀ (i : Nat) (o : Oper), ops[i]? = some o → ∀ e ∈ o.after, Region.binds md e = true → rank e.on < rank i ∧ e.on < ops.size) (t : Nat) :
    (Region.linearise md ops t).Perm (List.range ops.size) ∧ ∀ (l1 l2 : List Nat) (x : Nat), Region.linearise md ops t = l1 ++ x :: l2 → ∃ o, ops[x]? = some o ∧ ∀ e ∈ o.after, Region.binds md e = true → e.on ∈ l1 := by
  have hg : Good md ops (Array.replicate ops.size false) (Region.linearise md ops t) := go_good _ _ _
  refine ⟨?_, fun l1 l2 x he => ?_⟩
  · rw [List.perm_ext_iff_of_nodup hg.nodup List.nodup_range]
    intro i
    refine ⟨fun hi => by simp [(hg.mem i hi).1], fun hi => ?_⟩
    have hi : i < ops.size := by simpa using hi
    refine go_all rank hr _ _ _ (by simp) ?_ i hi (unlisted _ _ hi)
    exact Nat.le_trans (List.length_filter_le _ _) (by simp)
  · rw [he] at hg
    obtain ⟨o, ho, h⟩ := hg.split
    refine ⟨o, ho, fun e hem hb => (h e hem hb).resolve_left (by rw [unlisted']; simp)⟩

theorem before_fold (acc : Array Nat) : ∀ (l : List Edge) (s x : Nat), (l.foldl (fun s e => if Region.binds .any e then s ||| 2 ^ e.on ||| acc.getD e.on 0 else s) s).testBit x = true →
    s.testBit x = true ∨ ∃ e ∈ l, Region.binds .any e = true ∧ (x = e.on ∨ (acc.getD e.on 0).testBit x = true) := by
  intro l
  induction l with
  | nil => intro s x h; exact .inl h
  | cons e l ih =>
    intro s x h
    simp only [List.foldl_cons] at h
    rcases ih _ x h with h1 | ⟨e', he', h1⟩
    · split at h1
      · rename_i hb
        rw [Nat.testBit_or, Nat.testBit_or, Nat.testBit_two_pow, Bool.or_eq_true, Bool.or_eq_true] at h1
        rcases h1 with (h1 | h1) | h1
        · exact .inl h1
        · exact .inr ⟨e, by simp, hb, .inl (by simpa using (of_decide_eq_true h1).symm)⟩
        · exact .inr ⟨e, by simp, hb, .inr h1⟩
      · exact .inl h1
    · exact .inr ⟨e', by simp [he'], h1⟩

def befStep (acc : Array Nat) (o : Oper) : Array Nat := acc.push (o.after.foldl (fun s e => if Region.binds .any e then s ||| 2 ^ e.on ||| acc.getD e.on 0 else s) 0)

theorem bef_grow : ∀ (l : List Oper) (acc : Array Nat), (l.foldl befStep acc).size = acc.size + l.length ∧ ∀ j, j < acc.size → (l.foldl befStep acc)[j]? = acc[j]?
  | [], acc => ⟨rfl, fun _ _ => rfl⟩
  | o :: l, acc => by
    obtain ⟨h1, h2⟩ := bef_grow l (befStep acc o)
    have hs : (befStep acc o).size = acc.size + 1 := by simp [befStep]
    refine ⟨by simp only [List.foldl_cons, h1, hs, List.length_cons]; omega, fun j hj => ?_⟩
    simp only [List.foldl_cons]
    rw [h2 j (by omega)]
    simp [befStep, Array.getElem?_push]
    intro h; omega

theorem bef_spec : ∀ (l : List Oper) (acc : Array Nat) (j : Nat) (o : Oper), l[j]? = some o → ∀ x, ((l.foldl befStep acc).getD (acc.size + j) 0).testBit x = true →
    ∃ e ∈ o.after, Region.binds .any e = true ∧ (x = e.on ∨ (e.on < acc.size + j ∧ ((l.foldl befStep acc).getD e.on 0).testBit x = true))
  | [], acc, j, o, h, x, hx => by simp at h
  | p :: l, acc, j, o, h, x, hx => by
    cases j with
    | zero =>
      simp only [List.getElem?_cons_zero, Option.some.injEq] at h
      subst h
      obtain ⟨g1, g2⟩ := bef_grow l (befStep acc p)
      have hs : (befStep acc p).size = acc.size + 1 := by simp [befStep]
      have hd : ∀ k, k < (befStep acc p).size → (l.foldl befStep (befStep acc p)).getD k 0 = (befStep acc p).getD k 0 := by
        intro k hk
        rw [Array.getD_eq_getD_getElem?, g2 k hk, ← Array.getD_eq_getD_getElem?]
      simp only [List.foldl_cons, Nat.add_zero] at hx ⊢
      rw [hd _ (by omega)] at hx
      have hlast : (befStep acc p).getD acc.size 0 = p.after.foldl (fun s e => if Region.binds .any e then s ||| 2 ^ e.on ||| acc.getD e.on 0 else s) 0 := by
        simp [befStep]
      rw [hlast, ← Array.foldl_toList] at hx
      rcases before_fold acc _ 0 x hx with h1 | ⟨e, he, hb, h1⟩
      · simp at h1
      · refine ⟨e, by simpa using he, hb, h1.imp id fun h1 => ?_⟩
        have hlt : e.on < acc.size := by
          rcases Nat.lt_or_ge e.on acc.size with h' | h'
          · exact h'
          · simp [Array.getElem?_eq_none h'] at h1
        refine ⟨hlt, ?_⟩
        rw [hd _ (by omega)]
        have : (befStep acc p).getD e.on 0 = acc.getD e.on 0 := by
          simp only [befStep, Array.getD_eq_getD_getElem?, Array.getElem?_push]
          rw [if_neg (by omega)]
        rw [this]; exact h1
    | succ j =>
      have hs : (befStep acc p).size = acc.size + 1 := by simp [befStep]
      have := bef_spec l (befStep acc p) j o (by simpa using h) x (by simp only [List.foldl_cons] at hx; rw [hs, show acc.size + 1 + j = acc.size + (j + 1) by omega]; exact hx)
      rw [hs, show acc.size + 1 + j = acc.size + (j + 1) by omega] at this
      exact this

theorem before_spec {j : Nat} {o : Oper} (h : ops[j]? = some o) {x : Nat} (hx : ((Region.before ops).getD j 0).testBit x = true) :
    ∃ e ∈ o.after, Region.binds .any e = true ∧ (x = e.on ∨ (e.on < j ∧ ((Region.before ops).getD e.on 0).testBit x = true)) := by
  have he : Region.before ops = ops.toList.foldl befStep #[] := by
    rw [Array.foldl_toList]; rfl
  rw [he] at hx ⊢
  have := bef_spec ops.toList #[] j o (by simpa using h) x (by simpa using hx)
  simpa using this

theorem binds_any {e : Edge} (h : Region.binds .any e = true) (md : Region.Mode) : Region.binds md e = true := by
  cases e with
  | mk on g => cases g <;> first | rfl | simp [Region.binds] at h

/-- An order that lists an instruction after those that it hangs on. -/
theorem order_of {s : List Nat} (hn : s.Nodup) (hs : ∀ (l1 l2 : List Nat) (x : Nat), s = l1 ++ x :: l2 → ∃ o, ops[x]? = some o ∧ ∀ e ∈ o.after, Region.binds md e = true → e.on ∈ l1) :
    s.Pairwise (fun x y => ¬((Region.before ops).getD x 0).testBit y = true) := by
  have key : ∀ (x y : Nat) (l1 l2 : List Nat), s = l1 ++ x :: l2 → ((Region.before ops).getD x 0).testBit y = true → y ∈ l1 := by
    intro x
    induction x using Nat.strongRecOn with
    | _ x ih =>
      intro y l1 l2 he hy
      obtain ⟨o, ho, h⟩ := hs l1 l2 x he
      obtain ⟨e, hem, hb, h1⟩ := before_spec ho hy
      have hon := h e hem (binds_any hb md)
      rcases h1 with rfl | ⟨hlt, h1⟩
      · exact hon
      · obtain ⟨m1, m2, rfl⟩ := List.append_of_mem hon
        have := ih e.on hlt y m1 (m2 ++ x :: l2) (by rw [he]; simp) h1
        simp [this]
  have main : ∀ (suf pre : List Nat), s = pre ++ suf → suf.Pairwise (fun x y => ¬((Region.before ops).getD x 0).testBit y = true) := by
    intro suf
    induction suf with
    | nil => intro pre _; exact List.Pairwise.nil
    | cons x suf ih =>
      intro pre he
      refine List.pairwise_cons.2 ⟨fun y hy hb => ?_, ih (pre ++ [x]) (by simp [he])⟩
      have hy' := key x y pre suf he hb
      rw [he, List.nodup_append] at hn
      exact hn.2.2 y hy' y (by simp [hy]) rfl
  exact main s [] (by simp)

theorem drawn_spec (h : drawn ops = true) (mixed : Bool) (t : Nat) : (Region.schedule mixed ops t).Perm (List.range ops.size) ∧
    (Region.schedule mixed ops t).Pairwise (fun x y => ¬((Region.before ops).getD x 0).testBit y = true) := by
  simp only [drawn, Bool.and_eq_true] at h
  obtain ⟨h1, h2⟩ := h
  have edge : ∀ (i : Nat) (o : Oper), ops[i]? = some o → ∀ e ∈ o.after, (Region.binds .gc e = true ∧ Region.binds .any e = false) ∨ e.on < i := by
    intro i o ho e he
    rw [List.all_eq_true] at h1
    have hm : (o, i) ∈ ops.toList.zipIdx := by
      rw [List.mem_zipIdx_iff_getElem?]
      simpa using ho
    have := h1 (o, i) hm
    simp only [List.all_eq_true] at this
    have := this e (by simpa using he)
    simp only [Bool.or_eq_true, Bool.and_eq_true, Bool.not_eq_true', decide_eq_true_eq] at this
    exact this
  have fin : ∀ (md : Region.Mode) (t : Nat), (∃ rank : Nat → Nat, ∀ (i : Nat) (o : Oper), ops[i]? = some o → ∀ e ∈ o.after, Region.binds md e = true → rank e.on < rank i ∧ e.on < ops.size) →
      (Region.linearise md ops t).Perm (List.range ops.size) ∧ (Region.linearise md ops t).Pairwise (fun x y => ¬((Region.before ops).getD x 0).testBit y = true) := by
    intro md t ⟨rank, hr⟩
    obtain ⟨g1, g2⟩ := lin_spec rank hr t
    exact ⟨g1, order_of (g1.symm.nodup List.nodup_range) g2⟩
  have lt : ∀ {i : Nat} {o : Oper}, ops[i]? = some o → i < ops.size := fun h => (Array.getElem?_eq_some_iff.1 h).1
  unfold Region.schedule
  split
  · refine fin .any t ⟨id, fun i o ho e he hb => ?_⟩
    rcases edge i o ho e he with ⟨_, h4⟩ | h4
    · rw [hb] at h4; cases h4
    · exact ⟨h4, Nat.lt_trans h4 (lt ho)⟩
  · rename_i hd
    split
    · refine fin .text _ ⟨id, fun i o ho e he hb => ?_⟩
      rcases edge i o ho e he with ⟨h3, h4⟩ | h4
      · cases e with
        | mk on g => cases g <;> simp [Region.binds] at h3 h4 hb
      · exact ⟨h4, Nat.lt_trans h4 (lt ho)⟩
    · simp only [Bool.or_eq_true, Bool.not_eq_true', not_or, Bool.not_eq_false] at hd
      have hlen : (Region.linearise .gc ops 0).length = ops.size := by simpa [hd.2] using h2
      have hg : Good .gc ops (Array.replicate ops.size false) (Region.linearise .gc ops 0) := go_good _ _ _
      have hall : ∀ i, i < ops.size → i ∈ Region.linearise .gc ops 0 := by
        intro i hi
        apply Classical.byContradiction
        intro hni
        have := List.Nodup.length_le_of_subset (l₁ := i :: Region.linearise .gc ops 0) (l₂ := List.range ops.size) (List.nodup_cons.2 ⟨hni, hg.nodup⟩) (by
          intro x hx
          simp only [List.mem_cons] at hx
          rcases hx with rfl | hx
          · simp [hi]
          · simp [(hg.mem x hx).1])
        simp [hlen] at this
        omega
      refine fin .gc _ ⟨fun i => (Region.linearise .gc ops 0).idxOf i, fun i o ho e he hb => ?_⟩
      obtain ⟨l1, l2, hl⟩ := List.append_of_mem (hall i (lt ho))
      rw [hl] at hg
      obtain ⟨o', ho', h⟩ := hg.split
      rw [ho] at ho'
      cases ho'
      have hin := (h e he hb).resolve_left (by rw [unlisted']; simp)
      have hni : i ∉ l1 := by
        intro hi
        have := hg.nodup
        rw [List.nodup_append] at this
        exact this.2.2 i hi i (by simp) rfl
      refine ⟨?_, (hg.mem e.on (by simp [hin])).1⟩
      simp only
      rw [hl, List.idxOf_append, List.idxOf_append, if_pos hin, if_neg hni, List.idxOf_cons_self]
      have := List.idxOf_lt_length_iff.2 hin
      omega
end
end Go.Vm
/- Operations that yield a whole value made of parts; strings of bytes. -/
namespace Go.Vm

section
variable {X : Cx} {C : Fr} {o : Oper}

def foldSet (A : Array Value) (off : Nat) : List Value → Array Value
  | [] => A
  | v :: vs => foldSet (A.setIfInBounds off v) (off + 1) vs

theorem foldSet_eq (u : Array Value) (A : Array Value) (off : Nat) : u.zipIdx.foldl (fun cs x => cs.setIfInBounds (off + x.2) x.1) A = foldSet A off u.toList := by
  have h : ∀ (l : List Value) (k : Nat) (A : Array Value), (l.zipIdx k).foldl (fun cs (x : Value × Nat) => cs.setIfInBounds (off + x.2) x.1) A = foldSet A (off + k) l := by
    intro l
    induction l with
    | nil => intro k A; rfl
    | cons v vs ih => intro k A; simp only [List.zipIdx_cons, List.foldl_cons, foldSet]; rw [ih]; rfl
  have := h u.toList 0 A
  rw [Nat.add_zero] at this
  rw [← this, ← Array.foldl_toList]
  simp

/-- Cells by cells. -/
def Cells (φ : Phi) (μ : Mem) (V : View) (cs : List AV) (A : Array Value) : Prop := A.size = cs.length ∧ ∀ (j : Nat) (c : AV) (u : Value), cs[j]? = some c → A[j]? = some u → Rep φ μ V c u

theorem Cells.set {φ : Phi} {μ : Mem} {V : View} {cs : List AV} {A : Array Value} (h : Cells φ μ V cs A) {c : AV} {u : Value} (hc : Rep φ μ V c u) (n : Nat) : Cells φ μ V (cs.set n c) (A.setIfInBounds n u) := by
  refine ⟨by simp [h.1], fun j d v hd hv => ?_⟩
  rw [List.getElem?_set] at hd
  by_cases hj : n = j
  · subst hj
    simp only [if_true] at hd
    split at hd
    · cases hd
      rename_i hlt
      rw [Array.getElem?_setIfInBounds_self_of_lt (by rw [h.1]; exact hlt)] at hv
      cases hv
      exact hc
    · cases hd
  · rw [if_neg hj] at hd
    rw [Array.getElem?_setIfInBounds_ne hj] at hv
    exact h.2 j d v hd hv

theorem Cells.repl {φ : Phi} {μ : Mem} {V : View} : ∀ {ds : List AV} {us : List Value} {cs : List AV} {A : Array Value} {off : Nat}, Cells φ μ V cs A → us.length = ds.length →
    (∀ (j : Nat) (c : AV) (u : Value), ds[j]? = some c → us[j]? = some u → Rep φ μ V c u) → Cells φ μ V (repl cs off ds) (foldSet A off us) := by
  intro ds
  induction ds with
  | nil => intro us cs A off h hl _; cases us with | nil => exact h | cons _ _ => simp at hl
  | cons d ds ih =>
    intro us cs A off h hl hr
    cases us with
    | nil => simp at hl
    | cons u us =>
      simp only [Vm.repl, foldSet]
      exact ih (h.set (hr 0 d u rfl rfl) off) (by simpa using hl) (fun j c v hc hv => hr (j + 1) c v (by simpa using hc) (by simpa using hv))

theorem fill_sim {φ : Phi} {μ : Mem} {V : View} {place : Nat → Option (Nat × Nat)} : ∀ {aps : List (Nat × Nat × AV)} {ps : List (Nat × Value)} {cs r : List AV} {A : Array Value}, Cells φ μ V cs A → ps.length = aps.length →
    (∀ (j : Nat) (p : Nat × Nat × AV) (q : Nat × Value), aps[j]? = some p → ps[j]? = some q → place q.1 = some (p.1, p.2.1) ∧ Rep φ μ V p.2.2 q.2) → fillL cs aps = some r →
    ∃ B, Instr.fill place A ps = some B ∧ Cells φ μ V r B := by
  intro aps
  induction aps with
  | nil =>
    intro ps cs r A h hl _ hf
    cases ps with
    | nil => simp only [fillL, Option.some.injEq] at hf; subst hf; exact ⟨A, rfl, h⟩
    | cons _ _ => simp at hl
  | cons p aps ih =>
    intro ps cs r A h hl hr hf
    cases ps with
    | nil => simp at hl
    | cons q ps =>
      obtain ⟨off, n, v⟩ := p
      obtain ⟨i, u⟩ := q
      obtain ⟨h1, h2⟩ := hr 0 _ _ rfl rfl
      simp only [fillL] at hf
      split at hf
      · rename_i hc
        simp only [Bool.and_eq_true, beq_iff_eq, decide_eq_true_eq] at hc
        obtain ⟨⟨hn, hs⟩, hle⟩ := hc
        obtain ⟨g1, g2⟩ := h2.cells hs
        have h3 : u.cells.size = n := g1.trans hn
        have h4 : ¬ off + n > A.size := by rw [h.1]; have := hle; have := hn; simp only at *; omega
        have hrep : Cells φ μ V (Vm.repl cs off v.cells) (foldSet A off u.cells.toList) := h.repl (by simp [g1]) (fun j c w hc hw => g2 j c w hc (by simpa using hw))
        obtain ⟨B, hB, hB2⟩ := ih hrep (by simpa using hl) (fun j p q hp hq => hr (j + 1) p q (by simpa using hp) (by simpa using hq)) hf
        refine ⟨B, ?_, hB2⟩
        simp only [Instr.fill, h1]
        rw [if_neg (by simp [h3]; omega), foldSet_eq]
        exact hB
      · cases hf

theorem mapR_parts (parts : List (Nat × Nat × Opnd)) (σ : State) :
    (mapR (fun (p : Nat × Nat × Opnd) => p.2.2.get.bind fun a => R.ret (p.1, p.2.1, a)) parts).run σ = some (parts.map fun p => (p.1, p.2.1, p.2.2.val σ)) := by
  induction parts with
  | nil => rfl
  | cons p ps ih => simp [mapR, R.run_bind, Opnd.run_get, R.run_ret, ih]

theorem zeroAV_agg {z : Value} {cs : List AV} (h : zeroAV z = .agg cs) : ∃ vs, z = .agg vs ∧ cs = vs.toList.map toAV := by
  cases z with
  | agg vs => simp [zeroAV] at h; exact ⟨vs, rfl, h.symm⟩
  | string s => simp [zeroAV, toAV] at h
  | pointer p => cases p <;> simp [zeroAV, toAV] at h
  | slice b n c =>
    cases b with
    | some _ => simp [zeroAV, toAV] at h
    | none => cases n with
      | zero => cases c <;> simp [zeroAV, toAV] at h
      | succ n => simp [zeroAV, toAV] at h
  | _ => simp [zeroAV, toAV] at h

theorem toAV_rep (φ : Phi) (μ : Mem) (V : View) (v : Value) : Rep φ μ V (toAV v) v := by
  unfold toAV
  split <;> first
    | exact .val (.bool _) | exact .val (.int _ _) | exact .val .nilp | exact .val .nil | exact .any _
    | (rename_i s; have e : s = ⟨s.data.toList.toArray⟩ := by simp
       conv => rhs; rw [e]
       exact .val (.str _))
    | skip
  rename_i h1 h2 h3 h4 h5 h6 h7
  refine .val (.anyc _ ?_)
  cases v <;> first | rfl | exact absurd rfl (h6 _) | exact absurd rfl (h7 _)

theorem zero_cells (φ : Phi) (μ : Mem) (V : View) (vs : Array Value) : Cells φ μ V (vs.toList.map toAV) vs := by
  refine ⟨by simp, fun j c u hc hu => ?_⟩
  simp only [List.getElem?_map, Option.map_eq_some_iff] at hc
  obtain ⟨u', hu', rfl⟩ := hc
  have : vs[j]? = some u' := by simpa using hu'
  rw [this] at hu
  cases hu
  exact toAV_rep φ μ V _

theorem zeroP_agg {P : Program} {t : TypeId} {z : List AV} (h : zeroP P t = some (.agg z)) : ∃ it vs, P.info? t = some it ∧ it.zero = some (.agg vs) ∧ z = vs.toList.map toAV := by
  unfold zeroP at h
  cases hi : P.info? t with
  | none => simp [hi] at h
  | some it =>
    simp only [hi, Option.bind_some, Option.map_eq_some_iff] at h
    obtain ⟨zv, hz, hz2⟩ := h
    obtain ⟨vs, rfl, h3⟩ := zeroAV_agg hz2
    exact ⟨it, vs, rfl, hz, h3⟩

theorem sim_build {t : TypeId} {parts : Array (Nat × Operand)} {z : List AV} {ps : List (Nat × Nat × Opnd)} (ho : o.op = .build t parts) (hz : zeroP X.P t = some (.agg z)) (place : Nat → Option (Nat × Nat))
    (hps : ps.length = parts.toList.length ∧ ∀ (j : Nat) (p : Nat × Operand), parts.toList[j]? = some p → ∃ q, ps[j]? = some q ∧ place p.1 = some (q.1, q.2.1) ∧ opnd X p.2 = some q.2.2)
    (hb : ∀ (vs : Array Value) (l : List (Nat × Value)) (it : TypeInfo), X.P.info? t = some it → it.zero = some (.agg vs) → ∀ B, Instr.fill place vs l = some B → X.P.built t l = some B) : Sim X C o (.build z ps) := by
  refine sim_pure fun orc θ μ σ a w v ws hi hr => ?_
  simp only [ROp.sem, R.run_bind, mapR_parts, Option.bind_some] at hr
  split at hr
  · rename_i cs hf
    simp only [R.run_ret, Option.some.injEq, Prod.mk.injEq] at hr
    obtain ⟨rfl, rfl⟩ := hr
    obtain ⟨it, vs, hit, hzero, rfl⟩ := zeroP_agg hz
    obtain ⟨B, hB, hB2⟩ := fill_sim (place := place) (ps := (parts.map fun (i, x) => (i, a.eval x)).toList) (zero_cells X.φ μ (viewOf σ θ) vs) (by simp [hps.1]) (fun j p q hp hq => by
      simp only [Array.toList_map, List.getElem?_map, Option.map_eq_some_iff] at hp hq
      obtain ⟨q0, hq0, rfl⟩ := hp
      obtain ⟨p0, hp0, rfl⟩ := hq
      obtain ⟨q1, g1, g2, g3⟩ := hps.2 j p0 hp0
      rw [hq0] at g1
      cases g1
      exact ⟨g2, hi.ev rfl g3⟩) hf
    refine ⟨rfl, .agg B, ?_, .agg _ _ hB2.1 hB2.2⟩
    have := run_build (P := X.P) w t (parts.map fun (i, x) => (i, a.eval x)) B (hb vs _ it hit hzero B hB)
    simp [execOp, ho, this]
  · simp [R.run_fail] at hr
end
end Go.Vm
/- How the relation is kept when memory is made, written, handed on. -/
namespace Go.Vm

theorem Reg.Has.apart {r s : Reg} (h : r.Apart s) {b k : Nat} (h1 : r.Has b k) (h2 : s.Has b k) : False := h b k h1 h2
theorem Reg.Apart.symm {r s : Reg} (h : r.Apart s) : s.Apart r := fun b k h1 h2 => h b k h2 h1

theorem block_lt_of_cell' {w : World} {b k : Nat} {v : Value} (h : w.cell? ⟨b, k, none⟩ = some v) : b < w.heap.size := block_lt_of_cell (a := ⟨b, k, none⟩) h

section
variable {φ : Phi} {C : Fr} {θ : Slot → Reg} {μ : Mem} {σ σ' : State} {a : Act} {w w' : World}

theorem ObjOK.lt {V : View} {r : Reg} {z : Bool} {o : Obj} (h : ObjOK φ μ V w r z o) {b k : Nat} (hb : r.Has b k) : b < w.heap.size := by
  obtain ⟨rfl, h1, h2⟩ := hb
  have := h.there (k - r.off) (by omega)
  obtain ⟨v, hv⟩ := Option.isSome_iff_exists.1 this
  exact block_lt_of_cell' hv

/-- Where the object's own cells lie. -/
theorem ObjOK.has {V : View} {r : Reg} {z : Bool} {o : Obj} (h : ObjOK φ μ V w r z o) {i j : Nat} {x c : AV} (hx : o.xs[i]? = some x) (hc : x.cells[j]? = some c) : r.Has r.bl (r.off + i * o.e + j) := by
  have hi : i < o.xs.length := (List.getElem?_eq_some_iff.1 hx).1
  have hj : j < x.cells.length := (List.getElem?_eq_some_iff.1 hc).1
  rw [h.size i x hx] at hj
  have h1 : (i + 1) * o.e ≤ o.cap * o.e := Nat.mul_le_mul_right _ (by have := h.fit; omega)
  rw [Nat.add_mul, Nat.one_mul] at h1
  have := h.room
  exact ⟨rfl, by omega, by omega⟩

/-- An object of which nothing is touched. -/
theorem ObjOK.kept {V V' : View} {μ' : Mem} {r : Reg} {z : Bool} {o : Obj} (h : ObjOK φ μ V w r z o) (hm : μ.Le μ') (hv : VLe V V')
    (hc : ∀ b k v, r.Has b k → w.cell? ⟨b, k, none⟩ = some v → w'.cell? ⟨b, k, none⟩ = some v) (hf : ∀ b k, r.Has b k → w'.frozen? ⟨b, k, none⟩ = w.frozen? ⟨b, k, none⟩)
    (hn : ∀ b k, r.Has b k → μ b k = none → μ' b k = none) : ObjOK φ μ' V' w' r z o where
  e := h.e
  pos := h.pos
  cap := h.cap
  fit := h.fit
  room := h.room
  size := h.size
  one := h.one
  cell i j x c hx hj := by
    obtain ⟨v, h1, h2, h3, h4⟩ := h.cell i j x c hx hj
    exact ⟨v, hc _ _ _ (h.has hx hj) h1, h2.mono hm hv, fun e => (h3 e).mono hm, fun e => hm _ _ _ (h4 e)⟩
  there k hk := by
    obtain ⟨v, hv⟩ := Option.isSome_iff_exists.1 (h.there k hk)
    rw [hc _ _ _ ⟨rfl, by omega, by omega⟩ hv]
    rfl
  soft k hk := by rw [hf _ _ ⟨rfl, by omega, by omega⟩]; exact h.soft k hk
  free k hk hz := hn _ _ ⟨rfl, by omega, by omega⟩ (h.free k hk hz)

/-- A new object in a slot, in place of another one, or in new memory. -/
theorem Inv.renew (h : Inv φ C θ μ σ a w) (gone : Option Slot) (ns : Slot) (r : Reg) (o : Obj) (z : Bool) {μ' : Mem} (Wr : Nat → Nat → Prop)
    (ht : ∀ n, σ'.getT n = σ.getT n) (hlen : σ'.tm.length = σ.tm.length)
    (hO : ∀ d, σ'.getO d = if d = ns then ⟨(σ.getO ns).st + 1, some o⟩ else if gone = some d then ⟨(σ.getO d).st, none⟩ else σ.getO d)
    (hF : ∀ d, σ'.getF d = if d = ns then z else σ.getF d)
    (hg : ∀ g, gone = some g → ∃ og, (σ.getO g).obj = some og)
    (hμ : μ.Le μ') (hμ' : ∀ b k v, μ' b k = some v → μ b k = some v ∨ r.Has b k)
    (hr : ∀ b k, r.Has b k → (∃ g, gone = some g ∧ (θ g).Has b k) ∨ w.heap.size ≤ b)
    (hW : ∀ b k, Wr b k → (∃ g, gone = some g ∧ (θ g).Has b k) ∨ w.heap.size ≤ b)
    (hc : ∀ b k v, ¬Wr b k → w.cell? ⟨b, k, none⟩ = some v → w'.cell? ⟨b, k, none⟩ = some v)
    (hf : ∀ b k, b < w.heap.size → w'.frozen? ⟨b, k, none⟩ = w.frozen? ⟨b, k, none⟩)
    (hsub : ∀ b k v, μ' b k = some v → w'.cell? ⟨b, k, none⟩ = some v)
    (hfr : Framed C.w0 C.ext w')
    (hobj : ∀ V', VLe (viewOf σ θ) V' → ObjOK φ μ' V' w' r z o) :
    Inv φ C (fun d => if d = ns then r else θ d) μ' σ' a w' := by
  have hview : VLe (viewOf σ θ) (viewOf σ' fun d => if d = ns then r else θ d) := by
    intro d
    simp only [viewOf, hO d]
    by_cases hd : d = ns
    · subst hd
      simp only [if_true]
      exact .inr (.inl (Nat.lt_succ_self _))
    · simp only [hd, if_false]
      by_cases hgd : gone = some d
      · simp only [hgd, if_true]
        exact .inr (.inr (by simp))
      · simp only [hgd, if_false]
        exact .inl trivial
  -- a live old slot that stays
  have live : ∀ d od, d ≠ ns → (σ'.getO d).obj = some od → (σ.getO d).obj = some od ∧ gone ≠ some d := by
    intro d od hd ho
    rw [hO d, if_neg hd] at ho
    by_cases hgd : gone = some d
    · rw [if_pos hgd] at ho; cases ho
    · rw [if_neg hgd] at ho; exact ⟨ho, hgd⟩
  have far : ∀ d od, d ≠ ns → (σ'.getO d).obj = some od → ∀ b k, (θ d).Has b k → ¬((∃ g, gone = some g ∧ (θ g).Has b k) ∨ w.heap.size ≤ b) := by
    intro d od hd ho b k hb hor
    obtain ⟨ho', hgd⟩ := live d od hd ho
    rcases hor with ⟨g, hg1, hg2⟩ | hge
    · obtain ⟨og, hog⟩ := hg g hg1
      exact h.apart d g od og (fun e => hgd (e ▸ hg1)) ho' hog b k hb hg2
    · have := (h.obj d od ho').lt hb
      omega
  have minePre : ∀ b k, ((∃ g, gone = some g ∧ (θ g).Has b k) ∨ w.heap.size ≤ b) → C.Mine b k := by
    intro b k hor
    rcases hor with ⟨g, hg1, hg2⟩ | hge
    · obtain ⟨og, hog⟩ := hg g hg1
      exact h.mine g og hog b k hg2
    · exact .inl (Nat.le_trans h.frame.size hge)
  refine ⟨by rw [hlen]; exact h.len, h.defers, ?_, h.gh.mono hview, ?_, ?_, ?_, hsub, h.le.trans hμ, ?_, hfr⟩
  · intro n
    rw [ht]
    exact (h.tmp n).mono hμ hview
  · intro d od ho
    by_cases hd : d = ns
    · subst hd
      rw [hO d, if_pos rfl] at ho
      simp only [Option.some.injEq] at ho
      subst ho
      rw [hF d, if_pos rfl, if_pos rfl]
      exact hobj _ hview
    · obtain ⟨ho', hgd⟩ := live d od hd ho
      rw [hF d, if_neg hd, if_neg hd]
      have hok := h.obj d od ho'
      refine hok.kept hμ hview (fun b k v hb hv => hc b k v (fun hw => far d od hd ho b k hb (hW b k hw)) hv) (fun b k hb => hf b k (hok.lt hb)) ?_
      intro b k hb hn
      cases hm : μ' b k with
      | none => rfl
      | some v =>
        rcases hμ' b k v hm with h1 | h1
        · rw [hn] at h1; cases h1
        · exact (far d od hd ho b k hb (hr b k h1)).elim
  · intro d d' od od' hdd ho ho'
    by_cases hd : d = ns
    · by_cases hd' : d' = ns
      · exact absurd (hd.trans hd'.symm) hdd
      · rw [if_pos hd, if_neg hd']
        intro b k h1 h2
        exact far d' od' hd' ho' b k h2 (hr b k h1)
    · by_cases hd' : d' = ns
      · rw [if_neg hd, if_pos hd']
        intro b k h1 h2
        exact far d od hd ho b k h1 (hr b k h2)
      · rw [if_neg hd, if_neg hd']
        exact h.apart d d' od od' hdd (live d od hd ho).1 (live d' od' hd' ho').1
  · intro d od ho b k hb
    by_cases hd : d = ns
    · rw [if_pos hd] at hb
      exact minePre b k (hr b k hb)
    · rw [if_neg hd] at hb
      exact h.mine d od (live d od hd ho).1 b k hb
  · intro b k v hm
    rcases hμ' b k v hm with h1 | h1
    · exact h.new b k v h1
    · exact .inr (minePre b k (hr b k h1))

/-- An object is written. -/
theorem Inv.write (h : Inv φ C θ μ σ a w) (d : Slot) (st : Nat) (o o' : Obj) (hd : σ.getO d = ⟨st, some o⟩) (Wr : Nat → Nat → Prop)
    (ht : ∀ n, σ'.getT n = σ.getT n) (hlen : σ'.tm.length = σ.tm.length)
    (hO : ∀ e, σ'.getO e = if e = d then ⟨st, some o'⟩ else σ.getO e)
    (hF : ∀ e, σ'.getF e = σ.getF e)
    (hW : ∀ b k, Wr b k → (θ d).Has b k)
    (hc : ∀ b k v, ¬Wr b k → w.cell? ⟨b, k, none⟩ = some v → w'.cell? ⟨b, k, none⟩ = some v)
    (hf : ∀ b k, w'.frozen? ⟨b, k, none⟩ = w.frozen? ⟨b, k, none⟩)
    (hWμ : ∀ b k, Wr b k → μ b k = none)
    (hfr : Framed C.w0 C.ext w')
    (hobj : ObjOK φ μ (viewOf σ θ) w' (θ d) (σ.getF d) o') :
    Inv φ C θ μ σ' a w' := by
  have hview : viewOf σ' θ = viewOf σ θ := by
    funext e
    simp only [viewOf, hO e]
    by_cases he : e = d
    · subst he; simp [hd]
    · simp [he]
  have live : ∀ e oe, e ≠ d → (σ'.getO e).obj = some oe → (σ.getO e).obj = some oe := by
    intro e oe he ho
    rwa [hO e, if_neg he] at ho
  have alive : ∀ e oe, (σ'.getO e).obj = some oe → ∃ o1, (σ.getO e).obj = some o1 := by
    intro e oe ho
    by_cases he : e = d
    · subst he; exact ⟨o, by rw [hd]⟩
    · exact ⟨oe, live e oe he ho⟩
  refine ⟨by rw [hlen]; exact h.len, h.defers, ?_, by rw [hview]; exact h.gh, ?_, ?_, ?_, ?_, h.le, h.new, hfr⟩
  · intro n; rw [ht, hview]; exact h.tmp n
  · intro e oe ho
    rw [hview, hF]
    by_cases he : e = d
    · subst he
      rw [hO e, if_pos rfl] at ho
      simp only [Option.some.injEq] at ho
      subst ho
      exact hobj
    · have ho' := live e oe he ho
      refine (h.obj e oe ho').kept (Mem.Le.refl μ) (VLe.refl _) (fun b k v hb hv => hc b k v (fun hw => ?_) hv) (fun b k _ => hf b k) (fun _ _ _ hn => hn)
      exact h.apart e d oe o he ho' (by rw [hd]) b k hb (hW b k hw)
  · intro e e' oe oe' hne ho ho'
    obtain ⟨o1, h1⟩ := alive e oe ho
    obtain ⟨o2, h2⟩ := alive e' oe' ho'
    exact h.apart e e' o1 o2 hne h1 h2
  · intro e oe ho b k hb
    obtain ⟨o1, h1⟩ := alive e oe ho
    exact h.mine e o1 h1 b k hb
  · intro b k v hm
    refine hc b k v (fun hw => ?_) (h.sub b k v hm)
    rw [hWμ b k hw] at hm
    cases hm

/-- A slot is given up. -/
theorem Inv.drop (h : Inv φ C θ μ σ a w) (d : Slot) (ht : ∀ n, σ'.getT n = σ.getT n) (hlen : σ'.tm.length = σ.tm.length)
    (hO : ∀ e, σ'.getO e = if e = d then ⟨(σ.getO d).st, none⟩ else σ.getO e) (hF : ∀ e, σ'.getF e = σ.getF e) : Inv φ C θ μ σ' a w := by
  have hview : VLe (viewOf σ θ) (viewOf σ' θ) := by
    intro e
    simp only [viewOf, hO e]
    by_cases he : e = d
    · subst he; exact .inr (.inr ⟨by simp, by simp⟩)
    · simp [he]
  have live : ∀ e oe, (σ'.getO e).obj = some oe → (σ.getO e).obj = some oe := by
    intro e oe ho
    rw [hO e] at ho
    split at ho
    · cases ho
    · exact ho
  refine ⟨by rw [hlen]; exact h.len, h.defers, ?_, h.gh.mono hview, ?_, ?_, ?_, h.sub, h.le, h.new, h.frame⟩
  · intro n; rw [ht]; exact (h.tmp n).mono (Mem.Le.refl μ) hview
  · intro e oe ho
    rw [hF]
    exact (h.obj e oe (live e oe ho)).kept (Mem.Le.refl μ) hview (fun _ _ _ _ hv => hv) (fun _ _ _ => rfl) (fun _ _ _ hn => hn)
  · intro e e' oe oe' hne ho ho'
    exact h.apart e e' oe oe' hne (live e oe ho) (live e' oe' ho')
  · intro e oe ho
    exact h.mine e oe (live e oe ho)

/-- What is owned is shut: from now on it is not written. -/
theorem Inv.freeze (h : Inv φ C θ μ σ a w) (d : Slot) (st : Nat) (o : Obj) (hd : σ.getO d = ⟨st, some o⟩) (ht : ∀ n, σ'.getT n = σ.getT n) (hlen : σ'.tm.length = σ.tm.length)
    (hO : ∀ e, σ'.getO e = σ.getO e) (hF : ∀ e, σ'.getF e = if e = d then true else σ.getF e) :
    ∃ μ', μ.Le μ' ∧ (∀ i j x c, o.xs[i]? = some x → x.cells[j]? = some c → ∃ v, μ' (θ d).bl ((θ d).off + i * o.e + j) = some v ∧ Rep φ μ (viewOf σ θ) c v ∧ (o.var = false → RV φ μ c v)) ∧
      (∀ b k v, μ' b k = some v → μ b k = some v ∨ ((θ d).Has b k ∧ (θ d).off ≤ k ∧ k < (θ d).off + o.xs.length * o.e)) ∧ Inv φ C θ μ' σ' a w := by
  have hok := h.obj d o (by rw [hd])
  let inn : Nat → Nat → Prop := fun b k => b = (θ d).bl ∧ (θ d).off ≤ k ∧ k < (θ d).off + o.xs.length * o.e
  have hin : ∀ b k, inn b k → (θ d).Has b k := by
    intro b k ⟨h1, h2, h3⟩
    have : o.xs.length * o.e ≤ o.cap * o.e := Nat.mul_le_mul_right _ hok.fit
    have := hok.room
    exact ⟨h1.symm, h2, by omega⟩
  classical
  let μ' : Mem := fun b k => if inn b k then w.cell? ⟨b, k, none⟩ else μ b k
  have hle : μ.Le μ' := by
    intro b k v hm
    show (if inn b k then w.cell? ⟨b, k, none⟩ else μ b k) = some v
    split
    · exact h.sub b k v hm
    · exact hm
  have hview : viewOf σ' θ = viewOf σ θ := by funext e; simp [viewOf, hO e]
  have innIdx : ∀ i j x c, o.xs[i]? = some x → x.cells[j]? = some c → inn (θ d).bl ((θ d).off + i * o.e + j) := by
    intro i j x c hx hc
    have hi : i < o.xs.length := (List.getElem?_eq_some_iff.1 hx).1
    have hj : j < x.cells.length := (List.getElem?_eq_some_iff.1 hc).1
    rw [hok.size i x hx] at hj
    have h1 : (i + 1) * o.e ≤ o.xs.length * o.e := Nat.mul_le_mul_right _ (by omega)
    rw [Nat.add_mul, Nat.one_mul] at h1
    exact ⟨rfl, by omega, by omega⟩
  have hcase : ∀ b k v, μ' b k = some v → μ b k = some v ∨ inn b k := by
    intro b k v hm
    change (if inn b k then w.cell? ⟨b, k, none⟩ else μ b k) = some v at hm
    split at hm
    · rename_i hi; exact .inr hi
    · exact .inl hm
  refine ⟨μ', hle, ?_, fun b k v hm => (hcase b k v hm).imp id (fun hi => ⟨hin b k hi, hi.2.1, hi.2.2⟩), ?_⟩
  · intro i j x c hx hc
    obtain ⟨v, h1, h2, h3, _⟩ := hok.cell i j x c hx hc
    refine ⟨v, ?_, h2, h3⟩
    show (if inn _ _ then w.cell? ⟨_, _, none⟩ else μ _ _) = some v
    rw [if_pos (innIdx i j x c hx hc)]
    exact h1
  refine ⟨by rw [hlen]; exact h.len, h.defers, ?_, by rw [hview]; exact h.gh, ?_, ?_, ?_, ?_, h.le.trans hle, ?_, h.frame⟩
  · intro n; rw [ht, hview]; exact (h.tmp n).mono hle (VLe.refl _)
  · intro e oe ho
    rw [hO] at ho
    rw [hview, hF]
    by_cases he : e = d
    · subst he
      rw [if_pos rfl]
      rw [hd] at ho
      simp only [Option.some.injEq] at ho
      subst ho
      refine ⟨hok.e, hok.pos, hok.cap, hok.fit, hok.room, hok.size, hok.one, ?_, hok.there, hok.soft, ?_⟩
      · intro i j x c hx hc
        obtain ⟨v, h1, h2, h3, _⟩ := hok.cell i j x c hx hc
        refine ⟨v, h1, h2.mono hle (VLe.refl _), fun hv => (h3 hv).mono hle, fun _ => ?_⟩
        show (if inn _ _ then w.cell? ⟨_, _, none⟩ else μ _ _) = some v
        rw [if_pos (innIdx i j x c hx hc)]
        exact h1
      · intro k hk hz
        rcases hz with hz | hz
        · cases hz
        · show (if inn _ _ then w.cell? ⟨_, _, none⟩ else μ _ _) = none
          rw [if_neg (fun hi => by have := hi.2.2; omega)]
          exact hok.free k hk (.inr hz)
    · rw [if_neg he]
      refine (h.obj e oe ho).kept hle (VLe.refl _) (fun _ _ _ _ hv => hv) (fun _ _ _ => rfl) ?_
      intro b k hb hn
      cases hm : μ' b k with
      | none => rfl
      | some v =>
        rcases hcase b k v hm with h1 | h1
        · rw [hn] at h1; cases h1
        · exact (h.apart e d oe o he ho (by rw [hd]) b k hb (hin b k h1)).elim
  · intro e e' oe oe' hne ho ho'
    rw [hO] at ho ho'
    exact h.apart e e' oe oe' hne ho ho'
  · intro e oe ho
    rw [hO] at ho
    exact h.mine e oe ho
  · intro b k v hm
    rcases hcase b k v hm with h1 | h1
    · exact h.sub b k v h1
    · change (if inn b k then w.cell? ⟨b, k, none⟩ else μ b k) = some v at hm
      rw [if_pos h1] at hm
      exact hm
  · intro b k v hm
    rcases hcase b k v hm with h1 | h1
    · exact h.new b k v h1
    · exact .inr (h.mine d o (by rw [hd]) b k (hin b k h1))
end
end Go.Vm
/- Operations that make memory. -/
namespace Go.Vm

theorem Framed.push {w0 : World} {ext : Nat → Nat → Prop} {w w' : World} (h : Framed w0 ext w) (ob : Go.Obj) (h1 : w'.heap = w.heap.push ob) (h2 : w'.os = w.os) (h3 : w'.tape = w.tape) (h4 : w'.output = w.output) : Framed w0 ext w' where
  os := h2.trans h.os
  tape := h3.trans h.tape
  output := h4.trans h.output
  size := by rw [h1, Array.size_push]; exact Nat.le_succ_of_le h.size
  same b hb := by
    have : w'.heap[b]? = w.heap[b]? := by
      rw [h1, Array.getElem?_push, if_neg]
      have := h.size
      omega
    rw [this]
    exact h.same b hb

theorem Framed.setCell {w0 : World} {ext : Nat → Nat → Prop} {w : World} (h : Framed w0 ext w) {b o : Nat} (hm : w0.heap.size ≤ b ∨ ext b o) (v : Value) : Framed w0 ext (w.setCell ⟨b, o, none⟩ v) where
  os := h.os
  tape := h.tape
  output := h.output
  size := by rw [World.size_setCell]; exact h.size
  same b' hb' := by
    by_cases hb : b' = b
    · subst hb
      have hext : ext b' o := by
        rcases hm with h1 | h1
        · omega
        · exact h1
      simp only [World.setCell, Array.getElem?_modify, if_true]
      rcases h.same b' hb' with h1 | ⟨c, c', e, fz, h1, h2, h3, h4⟩
      · rw [h1]
        cases hw : w0.heap[b']? with
        | none => exact .inl rfl
        | some ob =>
          cases ob with
          | cells c e fz =>
            refine .inr ⟨c, c.setIfInBounds o v, e, fz, rfl, by simp, by simp, fun k hk => ?_⟩
            rw [Array.getElem?_setIfInBounds_ne (fun (hk' : o = k) => hk (hk' ▸ hext))]
          | _ => exact .inl (by simp)
      · rw [h2]
        refine .inr ⟨c, c'.setIfInBounds o v, e, fz, h1, by simp, by simpa using h3, fun k hk => ?_⟩
        rw [Array.getElem?_setIfInBounds_ne (fun (hk' : o = k) => hk (hk' ▸ hext))]
        exact h4 k hk
    · rw [heap_setCell_other _ _ _ _ hb]
      exact h.same b' hb'

theorem Framed.setCells {w0 : World} {ext : Nat → Nat → Prop} (b : Nat) : ∀ (vs : List Value) (o : Nat) {w : World}, Framed w0 ext w → (∀ j, j < vs.length → w0.heap.size ≤ b ∨ ext b (o + j)) → Framed w0 ext (w.setCells b o vs)
  | [], _, _, h, _ => h
  | v :: vs, o, w, h, hm => by
    rw [World.setCells]
    exact Framed.setCells b vs (o + 1) (h.setCell (by simpa using hm 0 (by simp)) v) (fun j hj => by have := hm (j + 1) (by simp; omega); rwa [show o + (j + 1) = o + 1 + j by omega] at this)

section
variable {φ : Phi} {C : Fr} {θ : Slot → Reg} {μ : Mem} {σ σ' : State} {a : Act} {w w' : World}

theorem Inv.fresh (h : Inv φ C θ μ σ a w) (ns : Slot) (o : Obj) (A : Array Value) (el : TypeId) (fz : Nat × Nat)
    (h1 : w'.heap = w.heap.push (.cells A el fz)) (h2 : w'.os = w.os) (h3 : w'.tape = w.tape) (h4 : w'.output = w.output)
    (hfz : ∀ k, k < A.size → ¬(fz.1 ≤ k ∧ k < fz.2))
    (hpos : 0 < o.e) (hfit : o.xs.length ≤ o.cap) (hroom : o.cap * o.e ≤ A.size)
    (hsize : ∀ (i : Nat) (x : AV), o.xs[i]? = some x → x.cells.length = o.e)
    (hone : o.var = false → ∀ (i : Nat) (x : AV), o.xs[i]? = some x → x.cells.all AV.one = true)
    (hcell : ∀ (i j : Nat) (x c : AV), o.xs[i]? = some x → x.cells[j]? = some c → ∃ v, A[i * o.e + j]? = some v ∧ Rep φ μ (viewOf σ θ) c v ∧ (o.var = false → RV φ μ c v))
    (ht : ∀ n, σ'.getT n = σ.getT n) (hlen : σ'.tm.length = σ.tm.length)
    (hO : ∀ d, σ'.getO d = if d = ns then ⟨(σ.getO ns).st + 1, some o⟩ else σ.getO d)
    (hF : ∀ d, σ'.getF d = if d = ns then false else σ.getF d) :
    Inv φ C (fun d => if d = ns then ⟨w.heap.size, 0, A.size, o.e, o.cap⟩ else θ d) μ σ' a w' := by
  have hold : ∀ b, b < w.heap.size → w'.heap[b]? = w.heap[b]? := by
    intro b hb
    rw [h1, Array.getElem?_push, if_neg (by omega)]
  have hnew : w'.heap[w.heap.size]? = some (.cells A el fz) := by rw [h1, Array.getElem?_push, if_pos rfl]
  have hcellold : ∀ b k v, w.cell? ⟨b, k, none⟩ = some v → w'.cell? ⟨b, k, none⟩ = some v := by
    intro b k v hv
    have hb := block_lt_of_cell' hv
    rw [World.cell?_of_block (w := w) (a := ⟨b, k, none⟩) (hold b hb)]
    exact hv
  have hcellnew : ∀ k, w'.cell? ⟨w.heap.size, k, none⟩ = A[k]? := fun k => cell_of_row w' _ k A el fz hnew
  refine h.renew none ns _ o false (fun b _ => b = w.heap.size) ht hlen (fun d => by rw [hO d]; simp) hF (fun g hg => by cases hg) (Mem.Le.refl μ) (fun _ _ _ hm => .inl hm)
    (fun b k hb => .inr (by rw [← hb.1]; exact Nat.le_refl _)) (fun b k hb => .inr (by rw [hb]; exact Nat.le_refl _)) (fun b k v _ hv => hcellold b k v hv)
    (fun b k hb => World.frozen?_of_block (w := w) (a := ⟨b, k, none⟩) (hold b hb)) (fun b k v hm => hcellold b k v (h.sub b k v hm)) (h.frame.push _ h1 h2 h3 h4) ?_
  intro V' hV'
  refine ⟨rfl, hpos, rfl, hfit, hroom, hsize, hone, ?_, ?_, ?_, ?_⟩
  · intro i j x c hx hc
    obtain ⟨v, g1, g2, g3⟩ := hcell i j x c hx hc
    refine ⟨v, ?_, g2.mono (Mem.Le.refl μ) hV', g3, fun hz => by cases hz⟩
    rw [hcellnew, Nat.zero_add]
    exact g1
  · intro k hk
    rw [hcellnew, Nat.zero_add, Array.getElem?_eq_getElem hk]
    rfl
  · intro k hk
    have := hfz k hk
    simp only [World.frozen?, hnew, Nat.zero_add]
    obtain ⟨lo, hi⟩ := fz
    simp only at this ⊢
    cases h5 : decide (lo ≤ k) <;> cases h6 : decide (k < hi) <;> simp at *
    omega
  · intro k hk _
    cases hm : μ w.heap.size (0 + k) with
    | none => rfl
    | some v =>
      have := block_lt_of_cell' (h.sub _ _ _ hm)
      omega

theorem run_mk {d : Slot} {o : Obj} {z : Bool} {v : Nat → AV} {more : List W} {σ : State} : (mk d o z v more).run σ = some (v ((σ.getO d).st + 1), more ++ [.o d ⟨(σ.getO d).st + 1, some o⟩, .f d z]) := rfl

theorem mk_O (σ : State) (ns : Slot) (s : SlotSt) (z : Bool) (d : Slot) : (σ.applyAll [.o ns s, .f ns z]).getO d = if d = ns then s else σ.getO d := by
  simp only [applyAll_cons, applyAll_nil, getO_f, getO_o]
theorem mk_F (σ : State) (ns : Slot) (s : SlotSt) (z : Bool) (d : Slot) : (σ.applyAll [.o ns s, .f ns z]).getF d = if d = ns then z else σ.getF d := by
  simp only [applyAll_cons, applyAll_nil, getF_f, getF_o]
theorem mk_T (σ : State) (ns : Slot) (s : SlotSt) (z : Bool) (n : Nat) : (σ.applyAll [.o ns s, .f ns z]).getT n = σ.getT n := rfl

theorem view_mk {ns : Slot} {o : Obj} {s : Nat} {r : Reg} {σ' : State} (hO : σ'.getO ns = ⟨s, some o⟩) : viewOf σ' (fun d => if d = ns then r else θ d) ns = (s, some r) := by
  simp [viewOf, hO]
end

theorem zeroAV_cells (φ : Phi) (μ : Mem) (V : View) (z : Value) : (zeroAV z).cells.length = z.cells.size ∧
    ∀ (j : Nat) (c : AV) (u : Value), (zeroAV z).cells[j]? = some c → z.cells[j]? = some u → Rep φ μ V c u := by
  by_cases h : ∃ vs, z = .agg vs
  · obtain ⟨vs, rfl⟩ := h
    have := zero_cells φ μ V vs
    exact ⟨this.1.symm, this.2⟩
  · have hna : ∀ vs, z ≠ .agg vs := fun vs e => h ⟨vs, e⟩
    have e : zeroAV z = toAV z := by cases z <;> first | rfl | exact absurd rfl (hna _)
    have hnt : ∀ cs, toAV z ≠ .agg cs := by
      intro cs hc
      unfold toAV at hc
      split at hc <;> cases hc
    rw [e, AV.cells_one hnt, Value.cells_one hna]
    refine ⟨rfl, fun j c u hc hu => ?_⟩
    cases j with
    | zero => simp at hc hu; subst hc; subst hu; exact toAV_rep φ μ V z
    | succ j => simp at hc

section
variable {X : Cx} {C : Fr} {o : Oper}

theorem zeroP_spec {P : Program} {t : TypeId} {z : AV} (h : zeroP P t = some z) : ∃ i zv, P.info? t = some i ∧ i.zero = some zv ∧ z = zeroAV zv := by
  unfold zeroP at h
  cases hi : P.info? t with
  | none => simp [hi] at h
  | some i =>
    simp only [hi, Option.bind_some, Option.map_eq_some_iff] at h
    obtain ⟨zv, h1, h2⟩ := h
    exact ⟨i, zv, rfl, h1, h2.symm⟩

theorem sim_alloc {t : TypeId} {z : AV} (ho : o.op = .alloc t) (hz : zeroP X.P t = some z) (hpos : 0 < z.cells.length) : Sim X C o (.alloc z) := by
  intro orc θ μ σ a w v ws hi hr
  simp only [ROp.sem, run_mk, List.nil_append, Option.some.injEq, Prod.mk.injEq] at hr
  obtain ⟨rfl, rfl⟩ := hr
  obtain ⟨i, zv, h1, h2, rfl⟩ := zeroP_spec hz
  obtain ⟨c1, c2⟩ := zeroAV_cells X.φ μ (viewOf σ θ) zv
  have hinv := hi.fresh (w' := w.alloc (.cells zv.cells t)) (σ' := σ.applyAll [.o (slot o.dst) ⟨(σ.getO (slot o.dst)).st + 1, some ⟨(zeroAV zv).cells.length, [zeroAV zv], true, 1⟩⟩, .f (slot o.dst) false])
    (slot o.dst) ⟨(zeroAV zv).cells.length, [zeroAV zv], true, 1⟩ zv.cells t (0, 0) rfl rfl rfl rfl (fun k _ => by simp) hpos (by simp) (by simp [c1])
    (fun i x hx => by cases i <;> simp at hx; subst hx; rfl) (fun hv => by cases hv)
    (fun i j x c hx hc => by
      cases i with
      | succ i => simp at hx
      | zero =>
        simp only [List.getElem?_cons_zero, Option.some.injEq] at hx
        subst hx
        have hj : j < zv.cells.size := by rw [← c1]; exact (List.getElem?_eq_some_iff.1 hc).1
        exact ⟨zv.cells[j], by simp [hj], c2 j c _ hc (by simp [hj]), fun hv => by cases hv⟩)
    (fun n => rfl) (by rw [len_applyAll]) (fun d => mk_O _ _ _ _ d) (fun d => mk_F _ _ _ _ d)
  refine ⟨_, .pointer (some ⟨w.heap.size, 0, none⟩), _, ?_, .inl rfl, _, μ, hinv, ?_⟩
  · simp [execOp, ho, Instr.alloc, zeroValue, typeInfo, h1, h2, newVar, newRow]
  · have := Rep.ref (φ := X.φ) (μ := μ) (V := viewOf (σ.applyAll [.o (slot o.dst) ⟨(σ.getO (slot o.dst)).st + 1, some ⟨(zeroAV zv).cells.length, [zeroAV zv], true, 1⟩⟩, .f (slot o.dst) false])
      (fun d => if d = slot o.dst then ⟨w.heap.size, 0, zv.cells.size, (zeroAV zv).cells.length, 1⟩ else θ d)) (slot o.dst) ((σ.getO (slot o.dst)).st + 1) 0 0 _ (view_mk (by rw [mk_O, if_pos rfl]))
    simpa using this

theorem sim_box {t : TypeId} {x : Operand} {x' : Opnd} (ho : o.op = .box t x) (hx : opnd X x = some x') (ht : okSize X.P t = true) : Sim X C o (.box (X.P.cellsOf t) x') := by
  intro orc θ μ σ a w v ws hi hr
  simp only [ROp.sem, R.run_bind, Opnd.run_get, Option.bind_some] at hr
  have e1 := hi.ev rfl hx
  split at hr
  · rename_i hc
    simp only [Bool.and_eq_true, beq_iff_eq] at hc
    obtain ⟨hn, hs⟩ := hc
    simp only [run_mk, List.nil_append, Option.some.injEq, Prod.mk.injEq] at hr
    obtain ⟨rfl, rfl⟩ := hr
    obtain ⟨c1, c2⟩ := e1.cells hs
    generalize hov : x'.val σ = ov at *
    generalize hcv : a.eval x = cv at *
    have hinv := hi.fresh (w' := w.alloc (.cells cv.cells t)) (σ' := σ.applyAll [.o (slot o.dst) ⟨(σ.getO (slot o.dst)).st + 1, some ⟨X.P.cellsOf t, [ov], true, 1⟩⟩, .f (slot o.dst) false])
      (slot o.dst) ⟨X.P.cellsOf t, [ov], true, 1⟩ cv.cells t (0, 0) rfl rfl rfl rfl (fun k _ => by simp) (okSize_spec ht).1 (by simp) (by simp [c1, hn])
      (fun i y hy => by cases i <;> simp at hy; subst hy; exact hn) (fun hv => by cases hv)
      (fun i j y c hy hc => by
        cases i with
        | succ i => simp at hy
        | zero =>
          simp only [List.getElem?_cons_zero, Option.some.injEq] at hy
          subst hy
          have hj : j < cv.cells.size := by rw [c1]; exact (List.getElem?_eq_some_iff.1 hc).1
          exact ⟨cv.cells[j], by simp [hj], c2 j c _ hc (by simp [hj]), fun hv => by cases hv⟩)
      (fun n => rfl) (by rw [len_applyAll]) (fun d => mk_O _ _ _ _ d) (fun d => mk_F _ _ _ _ d)
    refine ⟨_, .pointer (some ⟨w.heap.size, 0, none⟩), _, ?_, .inl rfl, _, μ, hinv, ?_⟩
    · simp [execOp, ho, Instr.box, newVar, newRow, hcv]
    · have := Rep.ref (φ := X.φ) (μ := μ) (V := viewOf (σ.applyAll [.o (slot o.dst) ⟨(σ.getO (slot o.dst)).st + 1, some ⟨X.P.cellsOf t, [ov], true, 1⟩⟩, .f (slot o.dst) false])
        (fun d => if d = slot o.dst then ⟨w.heap.size, 0, cv.cells.size, X.P.cellsOf t, 1⟩ else θ d)) (slot o.dst) ((σ.getO (slot o.dst)).st + 1) 0 0 _ (view_mk (by rw [mk_O, if_pos rfl]))
      simpa using this
  · simp [R.run_fail] at hr
end
end Go.Vm
/- What is handed on by value. -/
namespace Go.Vm

theorem mapV_spec {g : AV → R (AV × List Slot)} {σ : State} : ∀ {l : List AV} {bs : List AV} {ds : List Slot}, (mapV g l).run σ = some (bs, ds) →
    bs.length = l.length ∧ ∀ (j : Nat) (x : AV), l[j]? = some x → ∃ y es, bs[j]? = some y ∧ (g x).run σ = some (y, es) ∧ ∀ d ∈ es, d ∈ ds := by
  intro l
  induction l with
  | nil =>
    intro bs ds h
    simp only [mapV, R.run_ret, Option.some.injEq, Prod.mk.injEq] at h
    obtain ⟨rfl, rfl⟩ := h
    simp
  | cons x xs ih =>
    intro bs ds h
    simp only [mapV, R.run_bind] at h
    cases h1 : (g x).run σ with
    | none => simp [h1] at h
    | some r =>
      cases h2 : (mapV g xs).run σ with
      | none => simp [h1, h2] at h
      | some q =>
        obtain ⟨y, es⟩ := r
        obtain ⟨ys, fs⟩ := q
        simp only [h1, h2, Option.bind_some, R.run_ret, Option.some.injEq, Prod.mk.injEq] at h
        obtain ⟨rfl, rfl⟩ := h
        obtain ⟨i1, i2⟩ := ih h2
        refine ⟨by simp [i1], fun j z hz => ?_⟩
        cases j with
        | zero =>
          simp only [List.getElem?_cons_zero, Option.some.injEq] at hz
          subst hz
          exact ⟨y, es, by simp, h1, fun d hd => by simp [hd]⟩
        | succ j =>
          obtain ⟨y', es', g1, g2, g3⟩ := i2 j z (by simpa using hz)
          exact ⟨y', es', by simpa using g1, g2, fun d hd => by simp [g3 d hd]⟩

/-- The cells of the object in slot d are known for good. -/
def Shut (θ : Slot → Reg) (μ : Mem) (σ : State) (w : World) (d : Slot) : Prop :=
  ∀ o, (σ.getO d).obj = some o → ∀ (i j : Nat) (x c : AV), o.xs[i]? = some x → x.cells[j]? = some c → ∀ v, w.cell? ⟨(θ d).bl, (θ d).off + i * o.e + j, none⟩ = some v → μ (θ d).bl ((θ d).off + i * o.e + j) = some v

theorem Shut.mono {θ : Slot → Reg} {μ μ' : Mem} {σ : State} {w : World} {d : Slot} (h : Shut θ μ σ w d) (hm : μ.Le μ') : Shut θ μ' σ w d := fun o ho i j x c hx hc v hv => hm _ _ _ (h o ho i j x c hx hc v hv)

section
variable {φ : Phi} {C : Fr} {θ : Slot → Reg} {μ μ' : Mem} {σ : State} {a : Act} {w : World}

/-- A part of a slice's object, as a value. -/
theorem Inv.sref_val (h : Inv φ C θ μ σ a w) {d st lo ln : Nat} {o : Obj} {v : Value} (hd : σ.getO d = ⟨st, some o⟩) (hv : Rep φ μ (viewOf σ θ) (.sref d st lo ln) v) (hvar : o.var = false) (hle : lo + ln ≤ o.xs.length)
    (hm : μ.Le μ') (hs : Shut θ μ' σ w d) : RV φ μ' (.sl o.e ((o.xs.drop lo).take ln)) v := by
  have hok := h.obj d o (by rw [hd])
  obtain ⟨b, cap, rfl, h1, h2, h3, h4⟩ := hv.sref_inv (viewOf_live hd)
  have hlen : ((o.xs.drop lo).take ln).length = ln := by simp; omega
  by_cases hz : ln = 0
  · subst hz
    simp only [List.take_zero]
    exact .slE _ _ _ (fun hb => Classical.byContradiction fun hc => by rw [h4 hc] at hb; cases hb)
  · have hb := h4 (by omega)
    subst hb
    have idx : ∀ (i : Nat) (x : AV), ((o.xs.drop lo).take ln)[i]? = some x → o.xs[lo + i]? = some x := by
      intro i x hx
      rw [List.getElem?_take] at hx
      split at hx
      · rwa [List.getElem?_drop] at hx
      · cases hx
    have cellAt : ∀ (i j : Nat) (x c : AV), ((o.xs.drop lo).take ln)[i]? = some x → x.cells[j]? = some c → ∃ v, μ' (θ d).bl ((θ d).off + lo * (θ d).e + i * o.e + j) = some v ∧ RV φ μ' c v := by
      intro i j x c hx hc
      obtain ⟨v, g1, g2, g3, g4⟩ := hok.cell (lo + i) j x c (idx i x hx) hc
      have e : (θ d).off + (lo + i) * o.e + j = (θ d).off + lo * (θ d).e + i * o.e + j := by rw [hok.e, Nat.add_mul]; omega
      refine ⟨v, ?_, (g3 hvar).mono hm⟩
      rw [← e]
      exact hs o (by rw [hd]) (lo + i) j x c (idx i x hx) hc v g1
    have := RV.sl (φ := φ) (μ := μ') o.e ((o.xs.drop lo).take ln) (θ d).bl ((θ d).off + lo * (θ d).e) cap (fun i j => (μ' (θ d).bl ((θ d).off + lo * (θ d).e + i * o.e + j)).getD undef) (by omega)
      (fun i x hx => ⟨hok.size _ x (idx i x hx), hok.one hvar _ x (idx i x hx)⟩)
      (fun i j x c hx hc => by obtain ⟨v, hv, _⟩ := cellAt i j x c hx hc; rw [hv]; rfl)
      (fun i j x c hx hc => by obtain ⟨v, hv, hr⟩ := cellAt i j x c hx hc; rw [hv]; exact hr)
    rw [hlen] at this
    exact this

theorem Rep.toRV {V : View} {b : AV} {v : Value} (h : Rep φ μ V b v) (hn : ∀ cs, b ≠ .agg cs) (h1 : b ≠ .any) (h2 : ∀ cs, b ≠ .tuple cs) (h3 : ∀ g x y, b ≠ .fn g x y) (h4 : ∀ d s i k, b ≠ .ref d s i k) (h5 : ∀ d s i k, b ≠ .sref d s i k) (h6 : ∀ d s i k, b ≠ .spare d s i k) : RV φ μ b v := by
  cases h with
  | any => exact absurd rfl h1
  | val h => exact h
  | agg => exact absurd rfl (hn _)
  | tuple => exact absurd rfl (h2 _)
  | fn => exact absurd rfl (h3 _ _ _)
  | ref => exact absurd rfl (h4 _ _ _ _)
  | refX => exact absurd rfl (h4 _ _ _ _)
  | sref => exact absurd rfl (h5 _ _ _ _)
  | srefX => exact absurd rfl (h5 _ _ _ _)
  | spare => exact absurd rfl (h6 _ _ _ _)
  | spareX => exact absurd rfl (h6 _ _ _ _)

theorem Inv.valR (h : Inv φ C θ μ σ a w) (hm : μ.Le μ') : ∀ (f : Nat) (x y : AV) (ds : List Slot) (v : Value), (valR f x).run σ = some (y, ds) → Rep φ μ (viewOf σ θ) x v → (∀ d ∈ ds, Shut θ μ' σ w d) → RV φ μ' y v := by
  intro f
  induction f with
  | zero => intro x y ds v hr; simp [Vm.valR, R.run_fail] at hr
  | succ f ih =>
    intro x y ds v hr hv hs
    have list : ∀ (l bs : List AV) (es : List Slot) (vs : Array Value), (mapV (Vm.valR f) l).run σ = some (bs, es) → (∀ d ∈ es, d ∈ ds) → vs.size = l.length →
        (∀ (j : Nat) (c : AV) (u : Value), l[j]? = some c → vs[j]? = some u → Rep φ μ (viewOf σ θ) c u) →
        vs.size = bs.length ∧ ∀ (j : Nat) (c : AV) (u : Value), bs[j]? = some c → vs[j]? = some u → RV φ μ' c u := by
      intro l bs es vs hl he hsz hp
      obtain ⟨g1, g2⟩ := mapV_spec hl
      refine ⟨by rw [hsz, g1], fun j c u hc hu => ?_⟩
      have hj : j < l.length := by rw [← g1]; exact (List.getElem?_eq_some_iff.1 hc).1
      obtain ⟨y', es', k1, k2, k3⟩ := g2 j l[j] (List.getElem?_eq_getElem hj)
      rw [hc] at k1
      cases k1
      exact ih _ _ es' u k2 (hp j l[j] u (List.getElem?_eq_getElem hj) hu) (fun d hd => hs d (he d (k3 d hd)))
    cases x with
    | sref d st lo ln =>
      simp only [Vm.valR, R.run_bind] at hr
      cases hob : (theObj d st).run σ with
      | none => simp [hob] at hr
      | some ob =>
        simp only [hob, Option.bind_some] at hr
        split at hr
        · rename_i hc
          simp only [Bool.and_eq_true, Bool.not_eq_true', decide_eq_true_eq] at hc
          simp only [R.run_ret, Option.some.injEq, Prod.mk.injEq] at hr
          obtain ⟨rfl, rfl⟩ := hr
          exact h.sref_val (run_theObj.1 hob) hv hc.1 hc.2 hm (hs d (by simp))
        · simp [R.run_fail] at hr
    | ref d st i off =>
      simp only [Vm.valR, R.run_bind] at hr
      cases hob : (theObj d st).run σ with
      | none => simp [hob] at hr
      | some ob =>
        simp only [hob, Option.bind_some] at hr
        split at hr
        · rename_i x hx
          simp only [R.run_bind] at hr
          cases hq : (mapV (Vm.valR f) (x.cells.drop off)).run σ with
          | none => simp [hq] at hr
          | some q =>
            obtain ⟨bs, es⟩ := q
            simp only [hq, Option.bind_some, R.run_ret, Option.some.injEq, Prod.mk.injEq] at hr
            obtain ⟨rfl, rfl⟩ := hr
            have hd := run_theObj.1 hob
            have hok := h.obj d ob (by rw [hd])
            have hv' := hv.ref_inv (viewOf_live hd)
            subst hv'
            obtain ⟨g1, g2⟩ := mapV_spec hq
            have one : ∀ (j : Nat) (c : AV), bs[j]? = some c → ∃ u, μ' (θ d).bl ((θ d).off + i * (θ d).e + off + j) = some u ∧ RV φ μ' c u := by
              intro j c hc
              have hj : j < (x.cells.drop off).length := by rw [← g1]; exact (List.getElem?_eq_some_iff.1 hc).1
              obtain ⟨y', es', k1, k2, k3⟩ := g2 j (x.cells.drop off)[j] (List.getElem?_eq_getElem hj)
              rw [hc] at k1
              cases k1
              have hcell : x.cells[off + j]? = some (x.cells.drop off)[j] := by
                have := List.getElem?_eq_getElem hj
                rwa [List.getElem?_drop] at this
              obtain ⟨u, m1, m2, m3, m4⟩ := hok.cell i (off + j) x _ hx hcell
              refine ⟨u, ?_, ih _ _ es' u k2 m2 (fun e he => hs e (by simp [k3 e he]))⟩
              have := hs d (by simp) ob (by rw [hd]) i (off + j) x _ hx hcell u m1
              rw [hok.e]
              rwa [show (θ d).off + i * ob.e + (off + j) = (θ d).off + i * ob.e + off + j by omega] at this
            exact .ro bs _ _ (fun j => (μ' (θ d).bl ((θ d).off + i * (θ d).e + off + j)).getD undef) (fun j c hc => by obtain ⟨u, k1, _⟩ := one j c hc; rw [k1]; rfl)
              (fun j c hc => by obtain ⟨u, k1, k2⟩ := one j c hc; rw [k1]; exact k2)
        · simp [R.run_fail] at hr
    | agg cs =>
      simp only [Vm.valR, R.run_bind] at hr
      cases hq : (mapV (Vm.valR f) cs).run σ with
      | none => simp [hq] at hr
      | some q =>
        obtain ⟨bs, es⟩ := q
        simp only [hq, Option.bind_some, R.run_ret, Option.some.injEq, Prod.mk.injEq] at hr
        obtain ⟨rfl, rfl⟩ := hr
        obtain ⟨vs, rfl, k1, k2⟩ := hv.agg_inv
        obtain ⟨m1, m2⟩ := list cs bs es vs hq (fun _ hd => hd) k1 k2
        exact .agg _ _ m1 m2
    | fn g p q =>
      simp only [Vm.valR, R.run_bind] at hr
      cases hp : (mapV (Vm.valR f) p).run σ with
      | none => simp [hp] at hr
      | some p' =>
        cases hq : (mapV (Vm.valR f) q).run σ with
        | none => simp [hp, hq] at hr
        | some q' =>
          obtain ⟨bs, es⟩ := p'
          obtain ⟨cs, fs⟩ := q'
          simp only [hp, hq, Option.bind_some, R.run_ret, Option.some.injEq, Prod.mk.injEq] at hr
          obtain ⟨rfl, rfl⟩ := hr
          obtain ⟨fc, va, vc, rfl, k1, k2, k3, k4, k5⟩ := hv.fn_inv
          obtain ⟨m1, m2⟩ := list p bs es va hp (fun d hd => by simp [hd]) k2 k4
          obtain ⟨n1, n2⟩ := list q cs fs vc hq (fun d hd => by simp [hd]) k3 k5
          exact .fn g _ _ fc _ _ k1 m1 n1 m2 n2
    | any => simp [Vm.valR, R.run_fail] at hr
    | fresh => simp [Vm.valR, R.run_fail] at hr
    | inout => simp [Vm.valR, R.run_fail] at hr
    | spare => simp [Vm.valR, R.run_fail] at hr
    | tuple => simp [Vm.valR, R.run_fail] at hr
    | _ =>
      simp only [Vm.valR, R.run_ret, Option.some.injEq, Prod.mk.injEq] at hr
      obtain ⟨rfl, rfl⟩ := hr
      exact (hv.toRV (by simp) (by simp) (by simp) (by simp) (by simp) (by simp) (by simp)).mono hm
end
end Go.Vm
/- Slices that the function makes. -/
namespace Go.Vm

section
variable {φ : Phi} {C : Fr} {θ : Slot → Reg} {μ μ' : Mem} {σ : State} {a : Act} {w : World}

theorem setFs_O (σ : State) : ∀ (ds : List Slot) (d : Slot), (σ.applyAll (setFs ds)).getO d = σ.getO d := by
  intro ds
  induction ds generalizing σ with
  | nil => intro d; rfl
  | cons x xs ih => intro d; simp only [setFs, List.map_cons, applyAll_cons] at ih ⊢; rw [ih]; rfl
theorem setFs_T (σ : State) : ∀ (ds : List Slot) (n : Nat), (σ.applyAll (setFs ds)).getT n = σ.getT n := by
  intro ds
  induction ds generalizing σ with
  | nil => intro d; rfl
  | cons x xs ih => intro d; simp only [setFs, List.map_cons, applyAll_cons] at ih ⊢; rw [ih]; rfl
theorem setFs_F (σ : State) : ∀ (ds : List Slot) (d : Slot), (σ.applyAll (setFs ds)).getF d = (ds.contains d || σ.getF d) := by
  intro ds
  induction ds generalizing σ with
  | nil => intro d; simp [setFs, applyAll_nil]
  | cons x xs ih =>
    intro d
    simp only [setFs, List.map_cons, applyAll_cons] at ih ⊢
    rw [ih, getF_f, List.contains_cons]
    by_cases h : d = x
    · subst h; simp
    · have : (d == x) = false := by simpa using h
      simp [h, this]

/-- The flag of an empty slot says nothing. -/
theorem Inv.flagDead (h : Inv φ C θ μ σ a w) (d : Slot) (b : Bool) (hd : (σ.getO d).obj = none) : Inv φ C θ μ ((W.f d b).apply σ) a w := by
  refine ⟨by rw [len_apply]; exact h.len, h.defers, h.tmp, h.gh, ?_, h.apart, h.mine, h.sub, h.le, h.new, h.frame⟩
  intro e o ho
  rw [getF_f]
  by_cases he : e = d
  · subst he
    have : (σ.getO e).obj = some o := ho
    rw [hd] at this
    cases this
  · rw [if_neg he]
    exact h.obj e o ho

theorem Inv.freezeAll : ∀ (ds : List Slot) {μ : Mem} {σ : State}, Inv φ C θ μ σ a w → ∃ μ', μ.Le μ' ∧ Inv φ C θ μ' (σ.applyAll (setFs ds)) a w ∧ (∀ d ∈ ds, Shut θ μ' σ w d) ∧
    ∀ b k v, μ' b k = some v → μ b k = some v ∨ ∃ d ∈ ds, ∃ o, (σ.getO d).obj = some o ∧ (θ d).Has b k := by
  intro ds
  induction ds with
  | nil => intro μ σ h; exact ⟨μ, Mem.Le.refl μ, h, by simp, fun _ _ _ hm => .inl hm⟩
  | cons d ds ih =>
    intro μ σ h
    cases hd : σ.getO d with
    | mk st ob =>
      cases ob with
      | none =>
        obtain ⟨μ', h1, h2, h3, h4⟩ := ih (h.flagDead d true (by rw [hd]))
        refine ⟨μ', h1, h2, ?_, ?_⟩
        · intro e he
          simp only [List.mem_cons] at he
          rcases he with rfl | he
          · intro o ho; rw [hd] at ho; cases ho
          · exact h3 e he
        · intro b k v hm
          rcases h4 b k v hm with h5 | ⟨e, h5, o, h6, h7⟩
          · exact .inl h5
          · exact .inr ⟨e, by simp [h5], o, h6, h7⟩
      | some o =>
        obtain ⟨μ1, g1, g2, g3, g4⟩ := h.freeze (σ' := (W.f d true).apply σ) d st o hd (fun _ => rfl) (by rw [len_apply]) (fun _ => rfl) (fun e => getF_f σ d true e)
        obtain ⟨μ', h1, h2, h3, h4⟩ := ih g4
        have hsub := g4.sub
        refine ⟨μ', g1.trans h1, h2, ?_, ?_⟩
        · intro e he
          simp only [List.mem_cons] at he
          rcases he with rfl | he
          · intro o' ho i j x c hx hc v hv
            rw [hd] at ho
            simp only [Option.some.injEq] at ho
            subst ho
            obtain ⟨v', k1, _⟩ := g2 i j x c hx hc
            have := hsub _ _ _ k1
            rw [hv] at this
            cases this
            exact h1 _ _ _ k1
          · exact h3 e he
        · intro b k v hm
          rcases h4 b k v hm with h5 | ⟨e, h5, o', h6, h7⟩
          · rcases g3 b k v h5 with h8 | ⟨h8, _⟩
            · exact .inl h8
            · exact .inr ⟨d, by simp, o, by rw [hd], h8⟩
          · exact .inr ⟨e, by simp [h5], o', h6, h7⟩

theorem RV.nz1 {c : AV} {v : Value} (h : RV φ μ c v) (k : Option Nat) : RV φ μ (nz1 k c) v := by
  unfold Vm.nz1
  split
  · cases h; exact .slE _ _ _ (by simp)
  · cases h; exact .slE _ _ _ (by simp)
  · exact h

theorem nzL_spec : ∀ (sh : Shape) (l : List AV), (nzL sh l).length = l.length ∧ ∀ (j : Nat) (c : AV), (nzL sh l)[j]? = some c → ∃ k c0, l[j]? = some c0 ∧ c = nz1 k c0 := by
  intro sh
  induction sh with
  | nil => intro l; exact ⟨by simp [nzL], fun j c hc => ⟨none, c, by simpa [nzL] using hc, by simp [nz1]⟩⟩
  | cons h hs ih =>
    intro l
    cases l with
    | nil => simp [nzL]
    | cons x xs =>
      obtain ⟨i1, i2⟩ := ih xs
      refine ⟨by simp [nzL, i1], fun j c hc => ?_⟩
      cases j with
      | zero => simp [nzL] at hc; exact ⟨h, x, by simp, hc.symm⟩
      | succ j => simpa using i2 j c (by simpa [nzL] using hc)

theorem nz_cells (sh : Shape) (a : AV) : (nz sh a).cells.length = a.cells.length ∧ ∀ (j : Nat) (c : AV), (nz sh a).cells[j]? = some c → ∃ k c0, a.cells[j]? = some c0 ∧ c = nz1 k c0 := by
  rcases a.agg_or with ⟨cs, rfl⟩ | ha
  · exact nzL_spec sh cs
  · have e : nz sh a = nz1 (sh.headD none) a := by cases a <;> first | rfl | exact absurd rfl (ha _)
    have hn : ∀ cs, nz1 (sh.headD none) a ≠ .agg cs := by
      intro cs hc
      unfold nz1 at hc
      split at hc
      · cases hc
      · cases hc
      · exact ha _ hc
    rw [e, AV.cells_one hn, AV.cells_one ha]
    refine ⟨rfl, fun j c hc => ?_⟩
    cases j with
    | zero => simp at hc; exact ⟨_, a, by simp, hc.symm⟩
    | succ j => simp at hc

/-- Elements of e cells each, in an array. -/
structure Grid (φ : Phi) (μ : Mem) (e : Nat) (xs : List AV) (A : Array Value) : Prop where
  size : A.size = xs.length * e
  cells : ∀ (i : Nat) (x : AV), xs[i]? = some x → x.cells.length = e ∧ x.cells.all AV.one = true
  val : ∀ (i j : Nat) (x c : AV), xs[i]? = some x → x.cells[j]? = some c → ∃ v, A[i * e + j]? = some v ∧ RV φ μ c v

theorem foldSet_size : ∀ (us : List Value) (A : Array Value) (off : Nat), (foldSet A off us).size = A.size := by
  intro us
  induction us with
  | nil => intro A off; rfl
  | cons u us ih => intro A off; simp only [foldSet]; rw [ih]; simp

theorem foldSet_get : ∀ (us : List Value) (A : Array Value) (off k : Nat), off + us.length ≤ A.size → (foldSet A off us)[k]? = if off ≤ k ∧ k < off + us.length then us[k - off]? else A[k]? := by
  intro us
  induction us with
  | nil => intro A off k _; simp only [foldSet, List.length_nil]; rw [if_neg (by omega)]
  | cons u us ih =>
    intro A off k hle
    simp only [List.length_cons] at hle
    simp only [foldSet]
    rw [ih _ _ _ (by simp; omega)]
    by_cases h1 : off + 1 ≤ k ∧ k < off + 1 + us.length
    · rw [if_pos h1, if_pos (by simp only [List.length_cons]; omega)]
      rw [show k - off = (k - (off + 1)) + 1 by omega]
      simp
    · rw [if_neg h1]
      by_cases h2 : k = off
      · subst h2
        rw [if_pos (by simp only [List.length_cons]; omega), Nat.sub_self]
        rw [Array.getElem?_setIfInBounds_self_of_lt (by omega)]
        simp
      · rw [if_neg (by simp only [List.length_cons]; omega), Array.getElem?_setIfInBounds_ne (fun e => h2 e.symm)]

theorem Grid.set {e : Nat} {xs : List AV} {A : Array Value} (h : Grid φ μ e xs A) {i : Nat} (hi : i < xs.length) {y : AV} {us : List Value} (hl : us.length = e) (hy : y.cells.length = e) (h1 : y.cells.all AV.one = true)
    (hr : ∀ (j : Nat) (c : AV) (u : Value), y.cells[j]? = some c → us[j]? = some u → RV φ μ c u) : Grid φ μ e (xs.set i y) (foldSet A (i * e) us) := by
  have hfit : i * e + us.length ≤ A.size := by
    rw [h.size, hl]
    have : (i + 1) * e ≤ xs.length * e := Nat.mul_le_mul_right _ (by omega)
    rwa [Nat.add_mul, Nat.one_mul] at this
  refine ⟨by rw [foldSet_size, h.size]; simp, ?_, ?_⟩
  · intro k x hx
    by_cases hk : i = k
    · subst hk
      rw [List.getElem?_set_self hi] at hx
      cases hx
      exact ⟨hy, h1⟩
    · rw [List.getElem?_set_ne hk] at hx
      exact h.cells k x hx
  · intro k j x c hx hc
    rw [foldSet_get _ _ _ _ hfit]
    by_cases hk : i = k
    · subst hk
      rw [List.getElem?_set_self hi] at hx
      cases hx
      have hj : j < y.cells.length := (List.getElem?_eq_some_iff.1 hc).1
      rw [if_pos (by omega), show i * e + j - i * e = j by omega]
      have hju : j < us.length := by omega
      exact ⟨us[j], List.getElem?_eq_getElem hju, hr j c _ hc (List.getElem?_eq_getElem hju)⟩
    · rw [List.getElem?_set_ne hk] at hx
      have hj : j < x.cells.length := (List.getElem?_eq_some_iff.1 hc).1
      rw [(h.cells k x hx).1] at hj
      have : ¬(i * e ≤ k * e + j ∧ k * e + j < i * e + us.length) := by
        rw [hl]
        rcases Nat.lt_or_gt_of_ne hk with hlt | hlt
        · have := Nat.mul_le_mul_right e (show i + 1 ≤ k by omega)
          rw [Nat.add_mul, Nat.one_mul] at this
          omega
        · have := Nat.mul_le_mul_right e (show k + 1 ≤ i by omega)
          rw [Nat.add_mul, Nat.one_mul] at this
          omega
      rw [if_neg this]
      exact h.val k j x c hx hc

theorem Grid.mono {e : Nat} {xs : List AV} {A : Array Value} (h : Grid φ μ e xs A) (hm : μ.Le μ') : Grid φ μ' e xs A :=
  ⟨h.size, h.cells, fun i j x c hx hc => by obtain ⟨v, h1, h2⟩ := h.val i j x c hx hc; exact ⟨v, h1, h2.mono hm⟩⟩

theorem toAV_one {v : Value} (h : (toAV v).one = true) : RV φ μ (toAV v) v := by
  unfold toAV at h ⊢
  split at h <;> first
    | exact .bool _ | exact .int _ _ | exact .nilp | exact .nil
    | (rename_i s; have e : s = ⟨s.data.toList.toArray⟩ := by simp
       conv => rhs; rw [e]
       exact .str _)
    | (simp [AV.one] at h; done)
    | skip
  rename_i h1 h2 h3 h4 h5 h6 h7
  refine .anyc _ ?_
  cases v <;> first | rfl | exact absurd rfl (h6 _) | exact absurd rfl (h7 _)

/-- The zero value's own cells, where they are all known. -/
theorem zeroAV_RV (sh : Shape) {z : Value} (h : (nz sh (zeroAV z)).cells.all AV.one = true) : (nz sh (zeroAV z)).cells.length = z.cells.size ∧
    ∀ (j : Nat) (c : AV) (u : Value), (nz sh (zeroAV z)).cells[j]? = some c → z.cells[j]? = some u → RV φ μ c u := by
  obtain ⟨n1, n2⟩ := nz_cells sh (zeroAV z)
  have base : (zeroAV z).cells.length = z.cells.size ∧ ∀ (j : Nat) (c : AV) (u : Value), (zeroAV z).cells[j]? = some c → z.cells[j]? = some u → c = toAV u := by
    by_cases hz : ∃ vs, z = .agg vs
    · obtain ⟨vs, rfl⟩ := hz
      refine ⟨by simp [zeroAV, AV.cells, Value.cells], fun j c u hc hu => ?_⟩
      simp only [zeroAV, AV.cells, List.getElem?_map, Option.map_eq_some_iff] at hc
      obtain ⟨u', hu', rfl⟩ := hc
      have : vs[j]? = some u' := by simpa using hu'
      simp only [Value.cells] at hu
      rw [this] at hu
      cases hu
      rfl
    · have hna : ∀ vs, z ≠ .agg vs := fun vs e => hz ⟨vs, e⟩
      have e : zeroAV z = toAV z := by cases z <;> first | rfl | exact absurd rfl (hna _)
      have hnt : ∀ cs, toAV z ≠ .agg cs := by
        intro cs hc
        unfold toAV at hc
        split at hc <;> cases hc
      rw [e, AV.cells_one hnt, Value.cells_one hna]
      refine ⟨rfl, fun j c u hc hu => ?_⟩
      cases j with
      | zero => simp at hc hu; subst hc; subst hu; rfl
      | succ j => simp at hc
  refine ⟨n1.trans base.1, fun j c u hc hu => ?_⟩
  obtain ⟨k, c0, g1, rfl⟩ := n2 j c hc
  have := base.2 j c0 u g1 hu
  subst this
  have hone : (nz1 k (toAV u)).one = true := by
    rw [List.all_eq_true] at h
    exact h _ (List.mem_of_getElem? hc)
  refine (toAV_one ?_).nz1 k
  generalize toAV u = x at hone
  cases x <;> first | rfl | (cases k <;> simp [nz1, AV.one] at hone)

theorem Grid.zeros {e : Nat} {z : AV} {zv : Array Value} (he : 0 < e) (hl : z.cells.length = e) (h1 : z.cells.all AV.one = true) (hs : zv.size = e)
    (hr : ∀ (j : Nat) (c : AV) (u : Value), z.cells[j]? = some c → zv[j]? = some u → RV φ μ c u) (n : Nat) : Grid φ μ e (List.replicate n z) ((Array.range (n * e)).map (zv[· % zv.size]!)) := by
  refine ⟨by simp, ?_, ?_⟩
  · intro i x hx
    rw [List.getElem?_replicate] at hx
    split at hx
    · cases hx; exact ⟨hl, h1⟩
    · cases hx
  · intro i j x c hx hc
    rw [List.getElem?_replicate] at hx
    split at hx
    · rename_i hi
      cases hx
      have hj : j < z.cells.length := (List.getElem?_eq_some_iff.1 hc).1
      have hlt : i * e + j < n * e := by
        have := Nat.mul_le_mul_right e (show i + 1 ≤ n by omega)
        rw [Nat.add_mul, Nat.one_mul] at this
        omega
      have hjz : j < zv.size := by omega
      refine ⟨zv[j], ?_, hr j c _ hc (Array.getElem?_eq_getElem hjz)⟩
      rw [Array.getElem?_map, Array.getElem?_range]
      rw [if_pos hlt]
      simp only [Option.map_some, Option.some.injEq]
      rw [hs, Nat.add_comm, Nat.add_mul_mod_self_right, Nat.mod_eq_of_lt (by omega)]
      simp [hjz]
    · cases hx
end
end Go.Vm
/- Slices that the function makes: the operations. -/
namespace Go.Vm

theorem mapR_spec {α β : Type} {f : α → R β} {σ : State} : ∀ {l : List α} {bs : List β}, (mapR f l).run σ = some bs →
    bs.length = l.length ∧ ∀ (j : Nat) (x : α), l[j]? = some x → ∃ y, bs[j]? = some y ∧ (f x).run σ = some y := by
  intro l
  induction l with
  | nil => intro bs h; simp only [mapR, R.run_ret, Option.some.injEq] at h; subst h; simp
  | cons x xs ih =>
    intro bs h
    simp only [mapR, R.run_bind] at h
    cases h1 : (f x).run σ with
    | none => simp [h1] at h
    | some y =>
      cases h2 : (mapR f xs).run σ with
      | none => simp [h1, h2] at h
      | some ys =>
        simp only [h1, h2, Option.bind_some, R.run_ret, Option.some.injEq] at h
        subst h
        obtain ⟨i1, i2⟩ := ih h2
        refine ⟨by simp [i1], fun j z hz => ?_⟩
        cases j with
        | zero => simp at hz; subst hz; exact ⟨y, by simp, h1⟩
        | succ j => simpa using i2 j z (by simpa using hz)

section
variable {φ : Phi} {μ : Mem}

theorem fillGrid {e : Nat} : ∀ {ps : List (Nat × AV × List Slot)} {qs : List (Nat × Value)} {xs : List AV} {A : Array Value}, Grid φ μ e xs A → qs.length = ps.length →
    (∀ (j : Nat) (p : Nat × AV × List Slot) (q : Nat × Value), ps[j]? = some p → qs[j]? = some q → q.1 = p.1 ∧ p.1 < xs.length ∧ p.2.1.cells.length = e ∧ p.2.1.cells.all AV.one = true ∧ q.2.cells.size = e ∧
      ∀ (k : Nat) (c : AV) (u : Value), p.2.1.cells[k]? = some c → q.2.cells[k]? = some u → RV φ μ c u) →
    ∃ B, Instr.fill (fun i => some (i * e, e)) A qs = some B ∧ Grid φ μ e (ps.foldl (fun xs p => xs.set p.1 p.2.1) xs) B := by
  intro ps
  induction ps with
  | nil =>
    intro qs xs A h hl _
    cases qs with
    | nil => exact ⟨A, rfl, h⟩
    | cons _ _ => simp at hl
  | cons p ps ih =>
    intro qs xs A h hl hr
    cases qs with
    | nil => simp at hl
    | cons q qs =>
      obtain ⟨g1, g2, g3, g4, g5, g6⟩ := hr 0 p q rfl rfl
      obtain ⟨i, u⟩ := q
      simp only at g1 g5 g6
      subst g1
      have hset := h.set g2 (us := u.cells.toList) (by simpa using g5) g3 g4 (fun j c w hc hw => g6 j c w hc (by simpa using hw))
      obtain ⟨B, hB, hB2⟩ := ih (qs := qs) hset (by simpa using hl) (fun j p' q' hp hq => by
        obtain ⟨k1, k2, k3⟩ := hr (j + 1) p' q' (by simpa using hp) (by simpa using hq)
        exact ⟨k1, by simpa using k2, k3⟩)
      refine ⟨B, ?_, hB2⟩
      have hfit : ¬ p.1 * e + e > A.size := by
        rw [h.size]
        have := Nat.mul_le_mul_right e (show p.1 + 1 ≤ xs.length by omega)
        rw [Nat.add_mul, Nat.one_mul] at this
        omega
      simp only [Instr.fill]
      rw [if_neg (by simp [g5]; omega), foldSet_eq]
      exact hB
end

section
variable {X : Cx} {C : Fr} {o : Oper}

/-- The common end: a new slice in a new block. -/
theorem sim_newSlice {θ : Slot → Reg} {μ : Mem} {σ : State} {a : Act} {w w' : World} (hi : Inv X.φ C θ μ σ a w) (ns : Slot) (s : Nat) (hs : (σ.getO ns).st = s) (e : Nat) (xs : List AV) (cp len : Nat) (A : Array Value) (el : TypeId) (fz : Nat × Nat) (cap : Nat)
    (h1 : w'.heap = w.heap.push (.cells A el fz)) (h2 : w'.os = w.os) (h3 : w'.tape = w.tape) (h4 : w'.output = w.output) (hfz : ∀ k, k < A.size → ¬(fz.1 ≤ k ∧ k < fz.2))
    (hpos : 0 < e) (hfit : xs.length ≤ cp) (hcp : cp ≤ cap) (hsz : A.size = cap * e) (hlen : len ≤ xs.length)
    (hc : ∀ (i : Nat) (x : AV), xs[i]? = some x → x.cells.length = e ∧ x.cells.all AV.one = true)
    (hv : ∀ (i j : Nat) (x c : AV), xs[i]? = some x → x.cells[j]? = some c → ∃ v, A[i * e + j]? = some v ∧ RV X.φ μ c v) :
    ∃ θ' μ', Inv X.φ C θ' μ' (σ.applyAll [.o ns ⟨s + 1, some ⟨e, xs, false, cp⟩⟩, .f ns false]) a w' ∧
      Rep X.φ μ' (viewOf (σ.applyAll [.o ns ⟨s + 1, some ⟨e, xs, false, cp⟩⟩, .f ns false]) θ') (.sref ns (s + 1) 0 len) (.slice (some ⟨w.heap.size, 0, none⟩) len cap) := by
  subst hs
  have hinv := hi.fresh (w' := w') (σ' := σ.applyAll [.o ns ⟨(σ.getO ns).st + 1, some ⟨e, xs, false, cp⟩⟩, .f ns false]) ns ⟨e, xs, false, cp⟩ A el fz h1 h2 h3 h4 hfz hpos hfit
    (by rw [hsz]; exact Nat.mul_le_mul_right _ hcp) (fun i x hx => (hc i x hx).1) (fun _ i x hx => (hc i x hx).2)
    (fun i j x c hx hcc => by obtain ⟨v, g1, g2⟩ := hv i j x c hx hcc; exact ⟨v, g1, .val g2, fun _ => g2⟩)
    (fun n => rfl) (by rw [len_applyAll]) (fun d => mk_O _ _ _ _ d) (fun d => mk_F _ _ _ _ d)
  refine ⟨_, μ, hinv, ?_⟩
  have hlv := view_mk (θ := θ) (ns := ns) (r := (⟨w.heap.size, 0, A.size, e, cp⟩ : Reg)) (s := (σ.getO ns).st + 1) (o := ⟨e, xs, false, cp⟩) (σ' := σ.applyAll [.o ns ⟨(σ.getO ns).st + 1, some ⟨e, xs, false, cp⟩⟩, .f ns false]) (by rw [mk_O, if_pos rfl])
  refine .sref ns _ 0 len _ _ cap hlv (by omega) ?_ ?_ ?_
  · simp only [Nat.zero_add]; rw [hsz]; exact Nat.le_refl _
  · simp only [Nat.zero_add]; exact hcp
  · intro _; simp

theorem sim_buildSl {t e : TypeId} {len : Nat} {parts : Array (Nat × Operand)} {z : AV} {sh : Shape} {ps : List (Nat × Opnd)} (ho : o.op = .buildSlice t len parts) (ht : X.P.underlying t = some (.slice e)) (hs : okSize X.P e = true)
    (hsmall : len * X.P.cellsOf e ≤ 16777216) (hz : zeroP X.P e = some z)
    (hps : ps.length = parts.toList.length ∧ ∀ (j : Nat) (p : Nat × Operand), parts.toList[j]? = some p → ∃ q, ps[j]? = some q ∧ p.1 = q.1 ∧ opnd X p.2 = some q.2) : Sim X C o (.buildSl (X.P.cellsOf e) (nz sh z) sh len ps) := by
  intro orc θ μ σ a w v ws hi hr
  simp only [ROp.sem, R.run_bind] at hr
  cases hm : (mapR (fun (p : Nat × Opnd) => p.2.get.bind fun a => (Vm.valR depth a).bind fun q => R.ret (p.1, nz sh q.1, q.2)) ps).run σ with
  | none => simp [hm] at hr
  | some qs =>
    simp only [hm, Option.bind_some] at hr
    split at hr
    · rename_i hall
      simp only [Bool.and_eq_true, List.all_eq_true, decide_eq_true_eq, beq_iff_eq] at hall
      obtain ⟨hall1, hzl, hzo⟩ := hall
      simp only [run_mk, Option.some.injEq, Prod.mk.injEq] at hr
      obtain ⟨rfl, rfl⟩ := hr
      obtain ⟨m1, m2⟩ := mapR_spec hm
      obtain ⟨hpos, _, ie, hie, hisz⟩ := okSize_spec hs
      obtain ⟨ie', zv, hie', hzero, rfl⟩ := zeroP_spec hz
      rw [hie] at hie'
      cases hie'
      have hzall : (nz sh (zeroAV zv)).cells.all AV.one = true := List.all_eq_true.2 hzo
      obtain ⟨μ1, f1, f2, f3, f4⟩ := hi.freezeAll (qs.flatMap (·.2.2))
      obtain ⟨zz1, zz2⟩ := zeroAV_RV (φ := X.φ) (μ := μ1) sh hzall
      have hg0 : Grid X.φ μ1 (X.P.cellsOf e) (List.replicate len (nz sh (zeroAV zv))) ((Array.range (len * X.P.cellsOf e)).map (zv.cells[· % zv.cells.size]!)) :=
        Grid.zeros hpos hzl hzall (by rw [← zz1]; exact hzl) zz2 len
      obtain ⟨B, hB, hB2⟩ := fillGrid (ps := qs) (qs := (parts.map fun (i, x) => (i, a.eval x)).toList) hg0 (by simp [m1, hps.1]) (fun j p q hp hq => by
        simp only [Array.toList_map, List.getElem?_map, Option.map_eq_some_iff] at hq
        obtain ⟨q0, hq0, rfl⟩ := hq
        obtain ⟨q1, k1, k2, k3⟩ := hps.2 j q0 hq0
        obtain ⟨y, k4, k5⟩ := m2 j q1 k1
        rw [hp] at k4
        cases k4
        simp only [R.run_bind, Opnd.run_get, Option.bind_some] at k5
        cases hv : (Vm.valR depth (q1.2.val σ)).run σ with
        | none => simp [hv] at k5
        | some r =>
          simp only [hv, Option.bind_some, R.run_ret, Option.some.injEq] at k5
          subst k5
          have hmem := hall1 _ (List.mem_of_getElem? hp)
          simp only at hmem
          obtain ⟨⟨l1, l2⟩, l3⟩ := hmem
          have hrv := hi.valR f1 depth _ _ _ (a.eval q0.2) hv (hi.ev rfl k3) (fun d hd => f3 d (by
            rw [List.mem_flatMap]
            exact ⟨_, List.mem_of_getElem? hp, hd⟩))
          obtain ⟨c1, c2⟩ := hrv.cells
          obtain ⟨n1, n2⟩ := nz_cells sh r.1
          refine ⟨k2, by simpa using l1, l2, List.all_eq_true.2 l3, by rw [c1, ← n1]; exact l2, fun k c u hc hu => ?_⟩
          obtain ⟨kk, c0, r1, rfl⟩ := n2 k c hc
          exact (c2 k c0 u r1 hu).nz1 kk)
      have hlen : (qs.foldl (fun xs p => xs.set p.1 p.2.1) (List.replicate len (nz sh (zeroAV zv)))).length = len := by
        have : ∀ (l : List (Nat × AV × List Slot)) (xs : List AV), (l.foldl (fun xs p => xs.set p.1 p.2.1) xs).length = xs.length := by
          intro l
          induction l with
          | nil => intro xs; rfl
          | cons p l ih => intro xs; simp only [List.foldl_cons]; rw [ih]; simp
        rw [this]
        simp
      obtain ⟨θ', μ', g1, g2⟩ := sim_newSlice (X := X) (w' := w.alloc (.cells B e)) f2 (slot o.dst) (σ.getO (slot o.dst)).st (by rw [setFs_O]) (X.P.cellsOf e)
        (qs.foldl (fun xs p => xs.set p.1 p.2.1) (List.replicate len (nz sh (zeroAV zv)))) len len B e (0, 0) len rfl rfl rfl rfl (fun k _ => by simp) hpos (by omega) (Nat.le_refl _) (by rw [hB2.size, hlen]) (by omega) hB2.cells hB2.val
      refine ⟨_, .slice (some ⟨w.heap.size, 0, none⟩) len len, w.alloc (.cells B e), ?_, .inl rfl, θ', μ', ?_, ?_⟩
      · by_cases h0 : len * ie.size = 0
        · have hlen0 : len = 0 := by
            rcases Nat.mul_eq_zero.1 h0 with h | h
            · exact h
            · omega
          subst hlen0
          have hqs : parts.toList = [] := by
            cases hp : parts.toList with
            | nil => rfl
            | cons p r =>
              have hx := hps.1
              rw [hp] at hx
              cases hq : qs with
              | nil => rw [hq] at m1; simp at m1 hx; omega
              | cons q0 r0 =>
                have := hall1 q0 (by rw [hq]; simp)
                simp at this
          have hB0 : B = #[] := by
            have h1 := hB2.size
            rw [hlen] at h1
            exact Array.eq_empty_of_size_eq_zero (by omega)
          subst hB0
          have hpe : parts = #[] := by
            apply Array.ext'
            simpa using hqs
          simp [execOp, ho, Instr.buildSlice, run_underlying ht, sizeOf, typeInfo, hie, hpe, newRow, Instr.fill, show Array.range 0 = #[] from rfl]
        · have hB' : Instr.fill (fun i => some (i * ie.size, ie.size)) ((Array.range (len * ie.size)).map (zv.cells[· % zv.cells.size]!)) (parts.map fun (i, x) => (i, a.eval x)).toList = some B := by
            rw [hisz]; exact hB
          have := run_buildSlice (P := X.P) w t e len (parts.map fun (i, x) => (i, a.eval x)) B ie zv ht hie hzero (by rw [hisz]; omega) h0 hB'
          simp [execOp, ho, this]
      · rw [applyAll_append]; exact g1
      · rw [applyAll_append]; exact g2
    · simp [R.run_fail] at hr

theorem sim_mkSl {t e : TypeId} {l c : Operand} {l' c' : Opnd} {z : AV} {sh : Shape} (ho : o.op = .makeSlice t l c) (ht : X.P.underlying t = some (.slice e)) (hs : okSize X.P e = true) (hz : zeroP X.P e = some z)
    (hl : opnd X l = some l') (hc : opnd X c = some c') : Sim X C o (.mkSl (X.P.cellsOf e) (X.P.bytesOf e) (nz sh z) l' c') := by
  intro orc θ μ σ a w v ws hi hr
  simp only [ROp.sem, R.run_bind, Opnd.run_get, Option.bind_some] at hr
  have e1 := hi.ev rfl hl
  have e2 := hi.ev rfl hc
  cases hn : (idx (l'.val σ)).run σ with
  | none => simp [hn] at hr
  | some n =>
    cases hm : (idx (c'.val σ)).run σ with
    | none => simp [hn, hm] at hr
    | some m =>
      simp only [hn, hm, Option.bind_some] at hr
      split at hr
      · rename_i hcond
        obtain ⟨c0, c1, c2, c3, c4, c5⟩ := hcond
        simp only [run_mk, List.nil_append, Option.some.injEq, Prod.mk.injEq] at hr
        obtain ⟨rfl, rfl⟩ := hr
        obtain ⟨k1, hk1⟩ := run_idx hn
        obtain ⟨k2, hk2⟩ := run_idx hm
        rw [hk1] at e1
        rw [hk2] at e2
        obtain ⟨hpos, _, ie, hie, hisz⟩ := okSize_spec hs
        obtain ⟨ie', zv, hie', hzero, rfl⟩ := zeroP_spec hz
        rw [hie] at hie'
        cases hie'
        obtain ⟨zz1, zz2⟩ := zeroAV_RV (φ := X.φ) (μ := μ) sh c5
        have hg0 : Grid X.φ μ (X.P.cellsOf e) (List.replicate m.toNat (nz sh (zeroAV zv))) ((Array.range (m.toNat * X.P.cellsOf e)).map (zv.cells[· % zv.cells.size]!)) :=
          Grid.zeros hpos c4 c5 (by rw [← zz1]; exact c4) zz2 m.toNat
        have hbytes : X.P.bytesOf e = ie.bytes := by simp [Program.bytesOf, hie]
        have hrun := run_make (P := X.P) w t e ie zv ht hie hzero k1 k2 n m c0 c1 (by rw [hbytes] at c2; omega) c3
        obtain ⟨θ', μ', g1, g2⟩ := sim_newSlice (X := X) (w' := w.alloc (.cells (madeCells zv.cells (m.toNat * ie.size)) e)) hi (slot o.dst) (σ.getO (slot o.dst)).st rfl (X.P.cellsOf e)
          (List.replicate n.toNat (nz sh (zeroAV zv))) m.toNat n.toNat (madeCells zv.cells (m.toNat * ie.size)) e (0, 0) m.toNat rfl rfl rfl rfl (fun k _ => by simp) hpos (by simp; omega) (Nat.le_refl _)
          (by rw [size_madeCells, hisz]) (by simp)
          (fun i x hx => hg0.cells i x (by
            rw [List.getElem?_replicate] at hx ⊢
            split at hx
            · rw [if_pos (by omega)]; exact hx
            · cases hx))
          (fun i j x c hx hcc => by
            have hx' : (List.replicate m.toNat (nz sh (zeroAV zv)))[i]? = some x := by
              rw [List.getElem?_replicate] at hx ⊢
              split at hx
              · rw [if_pos (by omega)]; exact hx
              · cases hx
            have := hg0.val i j x c hx' hcc
            rw [← hisz] at this
            rw [← hisz]
            exact this)
        refine ⟨_, .slice (some ⟨w.heap.size, 0, none⟩) n.toNat m.toNat, _, ?_, .inl rfl, θ', μ', g1, g2⟩
        simp [execOp, ho, e1.int_inv, e2.int_inv, hrun]
      · simp [R.run_fail] at hr
end
end Go.Vm
/- Values that go from one function to another together with memory. -/
namespace Go.Vm

structure RegOK (μ : Mem) (w : World) (r : Reg) : Prop where
  there : ∀ k, k < r.n → (w.cell? ⟨r.bl, r.off + k, none⟩).isSome = true
  soft : ∀ k, k < r.n → w.frozen? ⟨r.bl, r.off + k, none⟩ = false
  free : ∀ k, k < r.n → μ r.bl (r.off + k) = none

inductive Own (φ : Phi) (μ : Mem) (w : World) : AV → Value → List Reg → Prop
  | val {a : AV} {v : Value} : RV φ μ a v → Own φ μ w a v []
  | agg (cs : List AV) (vs : Array Value) (L : Nat → List Reg) : vs.size = cs.length →
      (∀ (j : Nat) (c : AV) (v : Value), cs[j]? = some c → vs[j]? = some v → Own φ μ w c v (L j)) → Own φ μ w (.agg cs) (.agg vs) ((List.range cs.length).flatMap L)
  | tuple (cs : List AV) (vs : Array Value) (L : Nat → List Reg) : vs.size = cs.length →
      (∀ (j : Nat) (c : AV) (v : Value), cs[j]? = some c → vs[j]? = some v → Own φ μ w c v (L j)) → Own φ μ w (.tuple cs) (.tuple vs) ((List.range cs.length).flatMap L)
  | fresh (e : Nat) (xs : List AV) (r : Reg) (b : Option Addr) (cap : Nat) : 0 < e → r.e = e → r.c = xs.length → r.n = cap * e → xs.length ≤ cap →
      (cap ≠ 0 → b = some ⟨r.bl, r.off, none⟩) →
      (∀ (i : Nat) (x : AV), xs[i]? = some x → x.cells.length = e ∧ x.cells.all AV.one = true) →
      (∀ (i j : Nat) (x c : AV), xs[i]? = some x → x.cells[j]? = some c → ∃ v, w.cell? ⟨r.bl, r.off + i * e + j, none⟩ = some v ∧ RV φ μ c v) →
      Own φ μ w (.fresh e xs) (.slice b xs.length cap) [r]
  | inout (cs : List AV) (r : Reg) (L : Nat → List Reg) (f : Nat → Value) : 0 < cs.length → r.e = cs.length → r.c = 1 → r.n = cs.length →
      (∀ (j : Nat) (c : AV), cs[j]? = some c → w.cell? ⟨r.bl, r.off + j, none⟩ = some (f j)) →
      (∀ (j : Nat) (c : AV), cs[j]? = some c → Own φ μ w c (f j) (L j)) →
      Own φ μ w (.inout cs) (.pointer (some ⟨r.bl, r.off, none⟩)) (r :: (List.range cs.length).flatMap L)

section
variable {φ : Phi} {μ : Mem} {w : World}

theorem flatMap_nil {n : Nat} : (List.range n).flatMap (fun _ => ([] : List Reg)) = [] := by simp

theorem Own.agg_inv {cs : List AV} {v : Value} {L : List Reg} (h : Own φ μ w (.agg cs) v L) : ∃ (vs : Array Value) (F : Nat → List Reg), v = .agg vs ∧ vs.size = cs.length ∧ L = (List.range cs.length).flatMap F ∧
    ∀ (j : Nat) (c : AV) (u : Value), cs[j]? = some c → vs[j]? = some u → Own φ μ w c u (F j) := by
  cases h with
  | val h =>
    cases h with
    | agg _ vs h1 h2 => exact ⟨vs, fun _ => [], rfl, h1, by simp, fun j c u hc hu => .val (h2 j c u hc hu)⟩
  | agg _ vs F h1 h2 => exact ⟨vs, F, rfl, h1, rfl, h2⟩
theorem Own.tuple_inv {cs : List AV} {v : Value} {L : List Reg} (h : Own φ μ w (.tuple cs) v L) : ∃ (vs : Array Value) (F : Nat → List Reg), v = .tuple vs ∧ vs.size = cs.length ∧ L = (List.range cs.length).flatMap F ∧
    ∀ (j : Nat) (c : AV) (u : Value), cs[j]? = some c → vs[j]? = some u → Own φ μ w c u (F j) := by
  cases h with
  | val h => cases h
  | tuple _ vs F h1 h2 => exact ⟨vs, F, rfl, h1, rfl, h2⟩
theorem Own.val_inv {a : AV} {v : Value} {L : List Reg} (h : Own φ μ w a v L) (h1 : ∀ cs, a ≠ .agg cs) (h2 : ∀ cs, a ≠ .tuple cs) (h3 : ∀ e xs, a ≠ .fresh e xs) (h4 : ∀ cs, a ≠ .inout cs) : RV φ μ a v ∧ L = [] := by
  cases h with
  | val h => exact ⟨h, rfl⟩
  | agg => exact absurd rfl (h1 _)
  | tuple => exact absurd rfl (h2 _)
  | fresh => exact absurd rfl (h3 _ _)
  | inout => exact absurd rfl (h4 _)

/-! ### Taken in -/
abbrev NL := List (Option (Reg × Obj))
def NL.regs (N : NL) : List Reg := N.filterMap fun o => o.map Prod.fst
theorem NL.regs_append (N M : NL) : NL.regs (N ++ M) = NL.regs N ++ NL.regs M := by simp [NL.regs]

def mkWs (σ : State) : Slot → NL → List W
  | _, [] => []
  | d, some p :: N => .o d ⟨(σ.getO d).st + 1, some p.2⟩ :: .f d false :: mkWs σ (d + 1) N
  | d, none :: N => mkWs σ (d + 1) N

theorem mkWs_append (σ : State) : ∀ (N M : NL) (d : Nat), mkWs σ d (N ++ M) = mkWs σ d N ++ mkWs σ (d + N.length) M
  | [], M, d => by simp [mkWs]
  | some p :: N, M, d => by
    simp only [List.cons_append, mkWs, mkWs_append σ N M (d + 1), List.length_cons]
    rw [show d + 1 + N.length = d + (N.length + 1) by omega]
  | none :: N, M, d => by
    simp only [List.cons_append, mkWs, mkWs_append σ N M (d + 1), List.length_cons]
    rw [show d + 1 + N.length = d + (N.length + 1) by omega]

/-- In this view the new objects lie at the slots from d on. -/
def Lies (σ : State) (V : View) (d : Slot) (N : NL) : Prop := ∀ (i : Nat) (p : Reg × Obj), N[i]? = some (some p) → V (d + i) = ((σ.getO (d + i)).st + 1, some p.1)

theorem Lies.append {σ : State} {V : View} {d : Slot} {N M : NL} (h : Lies σ V d (N ++ M)) : Lies σ V d N ∧ Lies σ V (d + N.length) M := by
  refine ⟨fun i p hp => h i p ?_, fun i p hp => ?_⟩
  · rw [List.getElem?_append_left (List.getElem?_eq_some_iff.1 hp).1]; exact hp
  · have := h (N.length + i) p (by rw [List.getElem?_append_right (by omega)]; simpa using hp)
    rwa [← Nat.add_assoc] at this

theorem range_flatMap_succ (n : Nat) (L : Nat → List Reg) : (List.range (n + 1)).flatMap L = L 0 ++ (List.range n).flatMap (fun j => L (j + 1)) := by
  rw [List.range_succ_eq_map, List.flatMap_cons, List.flatMap_map]

theorem imps {g : Nat → AV → R (AV × List W × Nat)} {σ : State} {t : Nat}
    (hg : ∀ (k : Nat) (a a' : AV) (ws : List W) (k' : Nat) (v : Value) (L : List Reg), (g k a).run σ = some (a', ws, k') → Own φ μ w a v L → (∀ r ∈ L, RegOK μ w r) →
      ∃ N : NL, N.regs = L ∧ ws = mkWs σ (64 * t + k) N ∧ k' = k + N.length ∧ (a.handed = true → ∃ p N', N = some p :: N') ∧ ∀ V, Lies σ V (64 * t + k) N → Rep φ μ V a' v ∧ ∀ p, some p ∈ N → ObjOK φ μ V w p.1 false p.2) :
    ∀ (cs cs' : List AV) (k k' : Nat) (ws : List W) (u : Nat → Value) (L : Nat → List Reg), (mapI g k cs).run σ = some (cs', ws, k') → (∀ (j : Nat) (c : AV), cs[j]? = some c → Own φ μ w c (u j) (L j)) →
      (∀ r ∈ (List.range cs.length).flatMap L, RegOK μ w r) →
      ∃ N : NL, N.regs = (List.range cs.length).flatMap L ∧ ws = mkWs σ (64 * t + k) N ∧ k' = k + N.length ∧ cs'.length = cs.length ∧
        ∀ V, Lies σ V (64 * t + k) N → (∀ (j : Nat) (c : AV), cs'[j]? = some c → Rep φ μ V c (u j)) ∧ ∀ p, some p ∈ N → ObjOK φ μ V w p.1 false p.2 := by
  intro cs
  induction cs with
  | nil =>
    intro cs' k k' ws u L hr _ _
    simp only [mapI, R.run_ret, Option.some.injEq, Prod.mk.injEq] at hr
    obtain ⟨rfl, rfl, rfl⟩ := hr
    exact ⟨[], rfl, rfl, rfl, rfl, fun V _ => ⟨by simp, by simp⟩⟩
  | cons c cs ih =>
    intro cs' k k' ws u L hr ho hok
    simp only [mapI, R.run_bind] at hr
    cases h1 : (g k c).run σ with
    | none => simp [h1] at hr
    | some x =>
      obtain ⟨c', ws1, k1⟩ := x
      simp only [h1, Option.bind_some] at hr
      cases h2 : (mapI g k1 cs).run σ with
      | none => simp [h2] at hr
      | some y =>
        obtain ⟨cs1, ws2, k2⟩ := y
        simp only [h2, Option.bind_some, R.run_ret, Option.some.injEq, Prod.mk.injEq] at hr
        obtain ⟨rfl, rfl, rfl⟩ := hr
        simp only [List.length_cons, range_flatMap_succ] at hok ⊢
        obtain ⟨N, n1, n2, n3, _, n4⟩ := hg k c c' ws1 k1 (u 0) (L 0) h1 (ho 0 c (by simp)) (fun r hr => hok r (by simp [hr]))
        obtain ⟨M, m1, m2, m3, m4, m5⟩ := ih cs1 k1 k2 ws2 (fun j => u (j + 1)) (fun j => L (j + 1)) h2 (fun j c hc => ho (j + 1) c (by simpa using hc)) (fun r hr => hok r (List.mem_append_right _ hr))
        subst n3
        have e : 64 * t + (k + N.length) = 64 * t + k + N.length := by omega
        refine ⟨N ++ M, by rw [NL.regs_append, n1, m1], ?_, by simp [m3]; omega, by simp [m4], fun V hV => ?_⟩
        · rw [mkWs_append, n2, m2, e]
        · obtain ⟨l1, l2⟩ := hV.append
          obtain ⟨p1, p2⟩ := n4 V l1
          obtain ⟨q1, q2⟩ := m5 V (by rw [e]; exact l2)
          refine ⟨fun j c hc => ?_, fun p hp => ?_⟩
          · cases j with
            | zero => simp at hc; subst hc; exact p1
            | succ j => exact q1 j c (by simpa using hc)
          · rcases List.mem_append.1 hp with hp | hp
            · exact p2 p hp
            · exact q2 p hp

theorem imp_spec {σ : State} {t : Nat} : ∀ (f k : Nat) (a a' : AV) (ws : List W) (k' : Nat) (v : Value) (L : List Reg), (impR t f k a).run σ = some (a', ws, k') → Own φ μ w a v L → (∀ r ∈ L, RegOK μ w r) →
    ∃ N : NL, N.regs = L ∧ ws = mkWs σ (64 * t + k) N ∧ k' = k + N.length ∧ (a.handed = true → ∃ p N', N = some p :: N') ∧ ∀ V, Lies σ V (64 * t + k) N → Rep φ μ V a' v ∧ ∀ p, some p ∈ N → ObjOK φ μ V w p.1 false p.2 := by
  intro f
  induction f with
  | zero => intro k a a' ws k' v L hr; simp [impR, R.run_fail] at hr
  | succ f ih =>
    intro k a a' ws k' v L hr ho hok
    have plain : (∀ cs, a ≠ .agg cs) → (∀ cs, a ≠ .tuple cs) → (∀ e xs, a ≠ .fresh e xs) → (∀ cs, a ≠ .inout cs) → a = a' → ws = [] → k' = k →
        ∃ N : NL, N.regs = L ∧ ws = mkWs σ (64 * t + k) N ∧ k' = k + N.length ∧ (a.handed = true → ∃ p N', N = some p :: N') ∧ ∀ V, Lies σ V (64 * t + k) N → Rep φ μ V a' v ∧ ∀ p, some p ∈ N → ObjOK φ μ V w p.1 false p.2 := by
      intro h1 h2 h3 h4 e1 e2 e3
      subst e1 e2 e3
      obtain ⟨g1, rfl⟩ := ho.val_inv h1 h2 h3 h4
      have hn : a.handed = false := by cases a <;> first | rfl | exact absurd rfl (h3 _ _) | exact absurd rfl (h4 _)
      exact ⟨[], rfl, rfl, rfl, (fun h => absurd h (by rw [hn]; decide)), fun V _ => ⟨.val g1, by simp⟩⟩
    have hole : (∀ cs, a ≠ .agg cs) → (∀ cs, a ≠ .tuple cs) → (∀ e xs, a ≠ .fresh e xs) → (∀ cs, a ≠ .inout cs) → a = a' → ws = [] → k' = k + 1 →
        ∃ N : NL, N.regs = L ∧ ws = mkWs σ (64 * t + k) N ∧ k' = k + N.length ∧ (a.handed = true → ∃ p N', N = some p :: N') ∧ ∀ V, Lies σ V (64 * t + k) N → Rep φ μ V a' v ∧ ∀ p, some p ∈ N → ObjOK φ μ V w p.1 false p.2 := by
      intro h1 h2 h3 h4 e1 e2 e3
      subst e1 e2 e3
      obtain ⟨g1, rfl⟩ := ho.val_inv h1 h2 h3 h4
      have hn : a.handed = false := by cases a <;> first | rfl | exact absurd rfl (h3 _ _) | exact absurd rfl (h4 _)
      exact ⟨[none], rfl, rfl, rfl, (fun h => absurd h (by rw [hn]; decide)), fun V _ => ⟨.val g1, by simp⟩⟩
    cases a with
    | any => simp [impR, R.run_fail] at hr
    | ref => simp [impR, R.run_fail] at hr
    | sref => simp [impR, R.run_fail] at hr
    | spare => simp [impR, R.run_fail] at hr
    | fresh e xs =>
      simp only [impR, run_getO, R.run_ret, Option.some.injEq, Prod.mk.injEq] at hr
      obtain ⟨rfl, rfl, rfl⟩ := hr
      cases ho with
      | val h => cases h
      | fresh _ _ r b cap h1 h2 h3 h4 h5 h6 h7 h8 =>
        have hr := hok r (by simp)
        refine ⟨[some (r, ⟨e, xs, false, xs.length⟩)], rfl, rfl, rfl, fun _ => ⟨_, _, rfl⟩, fun V hV => ?_⟩
        have hv := hV 0 (r, ⟨e, xs, false, xs.length⟩) rfl
        refine ⟨.sref _ _ 0 xs.length r b cap hv h5 (by rw [h2, h4]; simp) (by rw [h3]; simpa using h5) (fun hc => by rw [h6 hc]; simp), ?_⟩
        intro p hp
        simp only [List.mem_singleton, Option.some.injEq] at hp
        subst hp
        refine ⟨h2, h1, h3, Nat.le_refl _, ?_, fun i x hx => (h7 i x hx).1, fun _ i x hx => (h7 i x hx).2, ?_, hr.there, hr.soft, fun k hk _ => hr.free k hk⟩
        · simp only; rw [h4]; exact Nat.mul_le_mul_right _ h5
        · intro i j x c hx hc
          obtain ⟨v, g1, g2⟩ := h8 i j x c hx hc
          exact ⟨v, g1, .val g2, fun _ => g2, fun hz => by cases hz⟩
    | inout cs =>
      simp only [impR, run_getO, R.run_bind] at hr
      cases h2 : (mapI (impR t f) (k + 1) cs).run σ with
      | none => simp [h2] at hr
      | some y =>
        obtain ⟨cs1, ws2, k2⟩ := y
        simp only [h2, Option.bind_some, R.run_ret, Option.some.injEq, Prod.mk.injEq] at hr
        obtain ⟨rfl, rfl, rfl⟩ := hr
        cases ho with
        | val h => cases h
        | inout _ r F u g1 g2 g3 g4 g5 g6 =>
          have hr := hok r (by simp)
          obtain ⟨N, n1, n2, n3, n4, n5⟩ := imps (t := t) ih cs cs1 (k + 1) k2 ws2 u F h2 g6 (fun q hq => hok q (List.mem_cons_of_mem _ hq))
          refine ⟨some (r, ⟨cs1.length, [.agg cs1], true, 1⟩) :: N, by rw [← n1]; rfl, ?_, by simp [n3]; omega, fun _ => ⟨_, _, rfl⟩, fun V hV => ?_⟩
          · simp only [mkWs]; rw [n2, Nat.add_assoc]
          · obtain ⟨l1, l2⟩ := Lies.append (N := [some (r, ⟨cs1.length, [.agg cs1], true, 1⟩)]) hV
            obtain ⟨p1, p2⟩ := n5 V (by rw [← Nat.add_assoc]; exact l2)
            have hv := l1 0 _ rfl
            refine ⟨?_, fun p hp => ?_⟩
            · have := Rep.ref (φ := φ) (μ := μ) (64 * t + k) ((σ.getO (64 * t + k)).st + 1) 0 0 r hv
              simpa using this
            · simp only [List.mem_cons, Option.some.injEq] at hp
              rcases hp with rfl | hp
              · refine ⟨by simp [g2, n4], by simp only; omega, g3, by simp, by simp only; omega, ?_, fun h => (by cases h), ?_, hr.there, hr.soft, fun k hk _ => hr.free k hk⟩
                · intro i x hx
                  cases i with
                  | zero => simp at hx; subst hx; rfl
                  | succ i => simp at hx
                · intro i j x c hx hc
                  cases i with
                  | succ i => simp at hx
                  | zero =>
                    simp at hx
                    subst hx
                    have hj : j < cs.length := by rw [← n4]; exact (List.getElem?_eq_some_iff.1 hc).1
                    refine ⟨u j, ?_, p1 j c hc, fun h => (by cases h), fun h => (by cases h)⟩
                    simpa using g5 j cs[j] (List.getElem?_eq_getElem hj)
              · exact p2 p hp
    | agg cs =>
      simp only [impR, R.run_bind] at hr
      cases h2 : (mapI (impR t f) k cs).run σ with
      | none => simp [h2] at hr
      | some y =>
        obtain ⟨cs1, ws2, k2⟩ := y
        simp only [h2, Option.bind_some, R.run_ret, Option.some.injEq, Prod.mk.injEq] at hr
        obtain ⟨rfl, rfl, rfl⟩ := hr
        obtain ⟨vs, F, rfl, g1, rfl, g3⟩ := ho.agg_inv
        obtain ⟨N, n1, n2, n3, n4, n5⟩ := imps (t := t) ih cs cs1 k k2 ws2 (fun j => vs.getD j undef) F h2 (fun j c hc => by
          have hj : j < vs.size := by rw [g1]; exact (List.getElem?_eq_some_iff.1 hc).1
          have := g3 j c vs[j] hc (Array.getElem?_eq_getElem hj)
          simpa [hj] using this) hok
        refine ⟨N, n1, n2, n3, fun h => (by cases h), fun V hV => ?_⟩
        obtain ⟨p1, p2⟩ := n5 V hV
        refine ⟨.agg _ _ (by rw [g1, n4]) (fun j c u hc hu => ?_), p2⟩
        have := p1 j c hc
        simpa [hu] using this
    | tuple cs =>
      simp only [impR, R.run_bind] at hr
      cases h2 : (mapI (impR t f) k cs).run σ with
      | none => simp [h2] at hr
      | some y =>
        obtain ⟨cs1, ws2, k2⟩ := y
        simp only [h2, Option.bind_some, R.run_ret, Option.some.injEq, Prod.mk.injEq] at hr
        obtain ⟨rfl, rfl, rfl⟩ := hr
        obtain ⟨vs, F, rfl, g1, rfl, g3⟩ := ho.tuple_inv
        obtain ⟨N, n1, n2, n3, n4, n5⟩ := imps (t := t) ih cs cs1 k k2 ws2 (fun j => vs.getD j undef) F h2 (fun j c hc => by
          have hj : j < vs.size := by rw [g1]; exact (List.getElem?_eq_some_iff.1 hc).1
          have := g3 j c vs[j] hc (Array.getElem?_eq_getElem hj)
          simpa [hj] using this) hok
        refine ⟨N, n1, n2, n3, fun h => (by cases h), fun V hV => ?_⟩
        obtain ⟨p1, p2⟩ := n5 V hV
        refine ⟨.tuple _ _ (by rw [g1, n4]) (fun j c u hc hu => ?_), p2⟩
        have := p1 j c hc
        simpa [hu] using this
    | sl =>
      simp only [impR, R.run_ret, Option.some.injEq, Prod.mk.injEq] at hr
      exact hole (by simp) (by simp) (by simp) (by simp) hr.1 hr.2.1.symm hr.2.2.symm
    | nil =>
      simp only [impR, R.run_ret, Option.some.injEq, Prod.mk.injEq] at hr
      exact hole (by simp) (by simp) (by simp) (by simp) hr.1 hr.2.1.symm hr.2.2.symm
    | emp =>
      simp only [impR, R.run_ret, Option.some.injEq, Prod.mk.injEq] at hr
      exact hole (by simp) (by simp) (by simp) (by simp) hr.1 hr.2.1.symm hr.2.2.symm
    | _ =>
      simp only [impR, R.run_ret, Option.some.injEq, Prod.mk.injEq] at hr
      exact plain (by simp) (by simp) (by simp) (by simp) hr.1 hr.2.1.symm hr.2.2.symm
end
end Go.Vm
