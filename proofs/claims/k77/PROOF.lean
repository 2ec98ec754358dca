import PyProof.Rows.All
import Wide.All
import OpenK.AllK
import Wide.FinOn
import HandS.ForMost
import HandS.Exc
import HandS.TryOnly
import HandS.ExcOwn
import HandS.WordsExc
import HandS.Defaults
import HandS.Deep
import HandS.IsInst
import HandS.WideBits
import PyProof.ReprReads
import HandS.Flow
import HandS.Style
import HandS.TupAny
import HandS.RaiseMore
import PyProof.ReprRoads
import PyProof.DictMoreH
import HandS.Rev
import HandS.Head0
import HandS.Head1
import HandS.Head2
import HandS.HeadEnd
import HandS.HeadHook1
import HandS.HeadHook2
import HandS.HeadHook4
import KE.KStateDown
import HandS.EndBits
import KE.OsArith
import KE.BitLaws
import PySem.Challenge.RW_twinwires_k77_a_code_in_any_order
set_option Elab.async false
set_option linter.all false
set_option maxRecDepth 100000
set_option maxHeartbeats 4000000
/-! MiniPy: values, the store, the program's parts, what they do. -/
namespace MP
open PySem PySem.Spec L2
open PyProof.Rows hiding St

/-! ### values -/
/-- ref i: the store's cell i; fn i: the def i of the table; exn c: a caught exception of the class c -/
inductive D where
  | non | bl (b : Bool) | int (i : Int) | str (x : Str)
  | tup (xs : List D) | lst (xs : List D)
  | dk (ks : List Key) (vs : List D) | dt (ks : List (List Key)) (vs : List D)
  | ref (i : Nat) | fn (i : Nat) | exn (c : Nat)
  deriving Inhabited
/-- what may change -/
inductive Cell where
  | lst (xs : List D) | dk (ks : List Key) (vs : List D) | dt (ks : List (List Key)) (vs : List D)
  | ins (c : Nat) (fs : List (Str × D)) | dead
  deriving Inhabited
abbrev Sto := List Cell
inductive Res (α : Type) where
  | ok (a : α) (S : Sto) | exc (c : Nat) (S : Sto) | stuck
def Res.bind {α β : Type} (r : Res α) (f : α → Sto → Res β) : Res β := match r with
  | .ok a S => f a S
  | .exc c S => .exc c S
  | .stuck => .stuck
def Res.of {α : Type} (o : Option α) (S : Sto) : Res α := match o with
  | some a => .ok a S
  | none => .stuck
/-- a name's slot: a value, or a list or dict that nothing else holds -/
inductive Slot where
  | no | val (d : D) | own (d : D)
  deriving Inhabited
abbrev Frame := List Slot
def Slot.d? : Slot → Option D
  | .no => none
  | .val d => some d
  | .own d => some d

/-! ### the program's parts -/
inductive Bf where
  | len | int | str | sum | all | listOf | tupleOf | dictOf | repr | min2 | max2 | minL | sorted | abs
  | isi (t : String) | isx (c : Nat)
  deriving Inhabited, DecidableEq
/-- methods that change nothing -/
inductive Mt where
  | bitLength | join | split | index | count | get1 | get2 | partition | copy
  deriving Inhabited, DecidableEq
/-- methods that change the receiver -/
inductive Mm where
  | append | extend | pop | popAt | reverse | clear | remove | insert | setdefault | dpop
  deriving Inhabited, DecidableEq
/-- targets -/
inductive Tgt where
  | v (i : Nat) | t (ts : List Tgt)
  deriving Inhabited
inductive E where
  | var (i : Nat) | const (d : D)
  | bin (op : Operator) (a b : E) | neg (a : E)
  | cmp (op : CmpOp) (a b : E) | chain (o p : CmpOp) (a b c : E)
  | and (a b : E) | or (a b : E) | not (a : E) | ite (c a b : E)
  | tup (es : List E) | lst (es : List E) | dct (t : Bool) (ks vs : List E)
  | idx (a i : E) | slc (a : E) (lo hi : Option E) | srev (a : E)
  | call (f : Nat) (es : List E) (dd : List D) | callv (f : E) (es : List E)
  | new (c : Nat) (es : List E) (dd : List D) | meth (o : E) (m : Str) (es : List E) (dd : List D) (fr : Bool) | fld (o : E) (f : Str)
  | blt (f : Bf) (es : List E) | mt (m : Mt) (o : E) (es : List E) | mm (m : Mm) (o : E) (es : List E)
  | comp (elt : E) (t : Tgt) (own : List Nat) (it : E) (ifs : List E)
  | cell (e : E) | unc (e : E)
  | rng (es : List E) | enm (e : E) | itm (e : E) | rev (e : E)
  deriving Inhabited
inductive S where
  | pass | set (i : Nat) (e : E) | asg (t : Tgt) (e : E) | par (i j : Nat) (a b : E) | aug (i : Nat) (op : Operator) (e : E)
  | fld (o : E) (f : Str) (e : E) | sub (o k e : E) | osub (i : Nat) (k e : E)
  | expr (e : E) | own (t : Option Tgt) (i : Nat) (m : Mm) (es : List E)
  | ite (c : E) (a b : List S) | whl (c : E) (b : List S) | for (t : Tgt) (it : E) (b : List S)
  | ret (e : E) | retN | raise (c : Nat) | brk | cnt
  | tryx (b : List S) (c : Nat) (n : Option Nat) (h : List S) (o : List S)
  | frz (is : List Nat)
  deriving Inhabited
/-- a def: how many parameters, all its names, its body, whether what it hands back is the caller's own -/
structure FnI where
  np : Nat
  names : List Str
  body : List S
  fr : Bool
/-- a class: its methods (inherited ones too) by name -/
structure ClsI where
  name : Str
  flds : List Str
  meths : List (Str × Nat)
/-- an exception's class: its name, the classes that it stands under (itself too) -/
structure ExcI where
  name : Str
  up : List Nat
structure Tb where
  fns : List FnI
  clss : List ClsI
  excs : List ExcI
  fuel : Nat

/-! ### values: what is asked of them -/
def szB : Nat := 16777216
mutual
def D.py : D → Option PyData
  | .non => some .none
  | .bl b => some (.bool b)
  | .int i => some (.int i)
  | .str x => some (.str x)
  | .tup xs => (D.pys xs).map .tuple
  | .lst xs => (D.pys xs).map .list
  | _ => none
def D.pys : List D → Option (List PyData)
  | [] => some []
  | d :: ds => match d.py, D.pys ds with
    | some p, some ps => some (p :: ps)
    | _, _ => none
end
mutual
/-- holds no cell of the store -/
def D.pure : D → Bool
  | .tup xs => D.pures xs
  | .lst xs => D.pures xs
  | .dk _ vs => D.pures vs
  | .dt _ vs => D.pures vs
  | .ref _ => false
  | .exn _ => false
  | _ => true
def D.pures : List D → Bool
  | [] => true
  | d :: ds => d.pure && D.pures ds
end
/-- a list or a dict: what a cell holds; else the value -/
def D.look (S : Sto) : D → D
  | .ref i => match S[i]? with
    | some (.lst xs) => .lst xs
    | some (.dk ks vs) => .dk ks vs
    | some (.dt ks vs) => .dt ks vs
    | _ => .ref i
  | d => d
def eqP (x y : D) : Option Bool := match x.py, y.py with
  | some p, some q => if SeqAt.shaped p && SeqAt.shaped q then some (PyData.eqv p q) else none
  | _, _ => none
def eqD (x y : D) : Option Bool := match x, y with
  | .str a, .str b => some (decide (a = b))
  | .int a, .int b => some (decide (a = b))
  | .bl a, .bl b => some (decide (a = b))
  | x, y => eqP x y
def truD : D → Option Bool
  | .non => some false
  | .bl b => some b
  | .int i => some (i != 0)
  | .str x => some (x.length != 0)
  | .tup xs => some (!xs.isEmpty)
  | .lst xs => some (!xs.isEmpty)
  | _ => none
def mulOk (i j : Int) : Bool := (decide (-(2 ^ 64) < i) && decide (i < 2 ^ 64)) || (decide (-(2 ^ 64) < j) && decide (j < 2 ^ 64))
def powOk (i j : Int) : Bool := decide (0 ≤ j) && decide (j ≤ 1000000) && decide (i.natAbs < 2 ^ 64)
def intOp (op : Operator) (i j : Int) : Option Int := match op with
  | .Add => some (i + j)
  | .Sub => some (i - j)
  | .Mult => if mulOk i j then some (i * j) else none
  | .FloorDiv => if decide (0 < j) && decide (j < 1073741824) then some (i / j) else none
  | .Mod => if decide (0 < j) then some (i % j) else none
  | .Pow => if powOk i j then some (i ^ j.toNat) else none
  | .LShift => if powOk i j then some (i * 2 ^ j.toNat) else none
  | .RShift => if decide (0 ≤ j) then some (i / 2 ^ j.toNat) else none
  | .BitAnd => some (Builtin.bitAnd i j)
  | .BitOr => some (Builtin.bitOr i j)
  | .BitXor => some (Builtin.bitXor i j)
  | _ => none
def binD (op : Operator) : D → D → Option D
  | .int i, .int j => (intOp op i j).map .int
  | .str x, .str y => if decide (op = .Add) && decide (x.length + y.length ≤ szB) then some (.str (x ++ y)) else none
  | .lst xs, .lst ys => if decide (op = .Add) && decide (xs.length + ys.length ≤ szB) then some (.lst (xs ++ ys)) else none
  | .tup xs, .tup ys => if decide (op = .Add) && decide (xs.length + ys.length ≤ szB) && !xs.isEmpty then some (.tup (xs ++ ys)) else none
  | _, _ => none
def inD (x y : D) : Option Bool := match y with
  | .lst ys => match x.py, D.pys ys with
    | some p, some qs => if SeqAt.shaped p && SeqAt.shaped (.list qs) then some (qs.any fun z => PyData.eqv z p) else none
    | _, _ => none
  | .str z => match x with
    | .str u => some (!(Builtin.Str.occurrences z u 0 z.length 1).isEmpty)
    | _ => none
  | _ => none
def cmpD (op : CmpOp) (x y : D) : Option Bool := match op with
  | .Eq => eqD x y
  | .NotEq => (eqD x y).map not
  | .In => inD x y
  | .NotIn => (inD x y).map not
  | .Is => match y with
    | .non => some (match x with | .non => true | _ => false)
    | .bl b => match x with
      | .bl c => some (c == b)
      | _ => none
    | _ => none
  | .IsNot => match y with
    | .non => some (match x with | .non => false | _ => true)
    | _ => none
  | _ => match x, y with
    | .int i, .int j => match op with
      | .Lt => some (decide (i < j))
      | .LtE => some (decide (i ≤ j))
      | .Gt => some (decide (j < i))
      | .GtE => some (decide (j ≤ i))
      | _ => none
    | _, _ => none
def cutL {α : Type} (xs : List α) (lo hi : Option Int) : List α := (xs.drop (HT.sIx xs.length 0 lo)).take (HT.sIx xs.length xs.length hi - HT.sIx xs.length 0 lo)
def slcD (x : D) (lo hi : Option Int) : Option D := match x with
  | .lst xs => some (.lst (cutL xs lo hi))
  | .tup xs => some (.tup (cutL xs lo hi))
  | .str z => some (.str (cutS z lo hi))
  | _ => none
def keyD : D → Option Key
  | .int i => some (.inl i)
  | .str x => some (.inr x)
  | _ => none
def Dkey : Key → D
  | .inl i => .int i
  | .inr x => .str x
def keysD : List D → Option (List Key)
  | [] => some []
  | d :: ds => match keyD d, keysD ds with
    | some k, some ks => some (k :: ks)
    | _, _ => none
def lookK {κ : Type} [DecidableEq κ] (k : κ) : List κ → List D → Option D
  | a :: ks, v :: vs => if a = k then some v else lookK k ks vs
  | _, _ => none
def idxD (x i : D) : Option D := match x, i with
  | .lst xs, .int k => atI xs k
  | .tup xs, .int k => atI xs k
  | .str z, .int k => (atI z.cps.toList k).map fun c => .str ⟨#[c]⟩
  | .dk ks vs, y => (keyD y).bind fun k => lookK k ks vs
  | .dt ks vs, .tup y => (keysD y).bind fun k => lookK k ks vs
  | _, _ => none
def hasK {κ : Type} [DecidableEq κ] (k : κ) (ks : List κ) : Bool := ks.any fun a => decide (a = k)
def setK {κ : Type} [DecidableEq κ] (k : κ) (v : D) : List κ → List D → List D
  | a :: ks, w :: vs => (if a = k then v else w) :: setK k v ks vs
  | _, vs => vs
/-- a key's value, stored -/
def putB (k : Key) (d : D) (ks : List Key) (xs : List D) : D := if hasK k ks then .dk ks (setK k d ks xs) else .dk (ks ++ [k]) (xs ++ [d])
def intsD : List D → Option (List Int)
  | [] => some []
  | .int i :: ds => (intsD ds).map (i :: ·)
  | _ => none
def blsD : List D → Option (List Bool)
  | [] => some []
  | .bl i :: ds => (blsD ds).map (i :: ·)
  | _ => none
def rngL (a b c : Int) : List D := if c = 1 then (List.range (b - a).toNat).map fun k => .int (a + (k : Nat)) else if c = -1 then (List.range (a - b).toNat).map fun k => .int (a + (k : Nat) * (-1)) else []
def smallI (i : Int) : Bool := decide (-(2 ^ 62) ≤ i) && decide (i < 2 ^ 62)
def isBoxD : D → Bool
  | .lst _ => true
  | .dk _ _ => true
  | .dt _ _ => true
  | _ => false
/-- what a loop walks -/
def itemsD : D → Option (List D)
  | .lst xs => some xs
  | .tup xs => some xs
  | .str z => some (z.cps.toList.map fun c => .str ⟨#[c]⟩)
  | _ => none
def rngD : List D → Option (List D)
  | [.int j] => if smallI j then some (rngL 0 j 1) else none
  | [.int i, .int j] => if smallI i && smallI j then some (rngL i j 1) else none
  | [.int i, .int j, .int c] => if smallI i && smallI j && decide (c = -1) then some (rngL i j c) else none
  | _ => none
def enumL (n : Nat) : List D → List D
  | [] => []
  | d :: ds => .tup [.int (n : Nat), d] :: enumL (n + 1) ds
def itmL : List Key → List D → List D
  | k :: ks, v :: vs => .tup [Dkey k, v] :: itmL ks vs
  | _, _ => []
def tyD : D → Option String
  | .non => some "NoneType"
  | .bl _ => some "bool"
  | .int _ => some "int"
  | .str _ => some "str"
  | .tup _ => some "tuple"
  | .lst _ => some "list"
  | .dk _ _ => some "dict"
  | _ => none
def isTyD (t : String) (d : D) : Option Bool := (tyD d).bind fun n => kitB n t
def reprD (x : D) : Option D := x.py.bind fun p => if p.showable && decide (p.shown.length ≤ szB) && decide (p.depth ≤ 50) && !p.hasDict then some (.str p.shown) else none
def un1 (g : D → Option D) : List D → Option D
  | [x] => g x
  | _ => none
def un2 (g : D → D → Option D) : List D → Option D
  | [x, y] => g x y
  | _ => none
def lenD : D → Option D
  | .lst xs => some (.int xs.length)
  | .tup xs => some (.int xs.length)
  | .str x => some (.int x.length)
  | .dk ks vs => if ks.length = vs.length then some (.int ks.length) else none
  | _ => none
def intD : D → Option D
  | .int i => some (.int i)
  | .bl b => some (.int (if b then 1 else 0))
  | _ => none
def strD : D → Option D
  | .int i => if decide (i.natAbs.log2 < 1920) then some (.str (toString i)) else none
  | .str x => some (.str x)
  | _ => none
def sumD : D → Option D
  | .lst xs => (intsD xs).map fun ns => .int ns.sum
  | _ => none
def allD : D → Option D
  | .lst xs => (blsD xs).map fun bs => .bl (bs.all id)
  | _ => none
def anyD : D → Option D
  | .lst xs => (blsD xs).map fun bs => .bl (bs.any id)
  | _ => none
def minD : D → D → Option D
  | .int i, .int j => some (.int (if j < i then j else i))
  | _, _ => none
def maxD : D → D → Option D
  | .int i, .int j => some (.int (if j > i then j else i))
  | _, _ => none
def listD : D → Option D
  | .lst xs => some (.lst xs)
  | .tup xs => some (.lst xs)
  | _ => none
def tupleD : D → Option D
  | .lst xs => some (.tup xs)
  | .tup xs => some (.tup xs)
  | _ => none
def bltD : Bf → List D → Option D
  | .len => un1 lenD
  | .int => un1 intD
  | .str => un1 strD
  | .sum => un1 sumD
  | .all => un1 allD
  | .min2 => un2 minD
  | .max2 => un2 maxD
  | .listOf => un1 listD
  | .tupleOf => un1 tupleD
  | .repr => un1 reprD
  | .isi t => un1 fun x => (isTyD t x).map .bl
  | _ => fun _ => none
def bitsD : D → List D → Option D
  | .int i, [] => some (.int (Builtin.Int.intBits i : Nat))
  | _, _ => none
def mtD : Mt → D → List D → Option D
  | .bitLength => bitsD
  | _ => fun _ _ => none
def appendD : D → List D → Option (D × D)
  | .lst l, [x] => if decide (l.length < szB) then some (.lst (l ++ [x]), .non) else none
  | _, _ => none
def extendD : D → List D → Option (D × D)
  | .lst l, [.lst ys] => if decide (l.length + ys.length ≤ szB) then some (.lst (l ++ ys), .non) else none
  | _, _ => none
def popD : D → List D → Option (D × D)
  | .lst l, [] => (l[l.length - 1]?).map fun y => (.lst l.dropLast, y)
  | _, _ => none
def popAtD : D → List D → Option (D × D)
  | .lst l, [.int i] => if smallI i then (ixN l.length i).bind fun k => (l[k]?).map fun y => (.lst (l.eraseIdx k), y) else none
  | _, _ => none
def reverseD : D → List D → Option (D × D)
  | .lst l, [] => some (.lst l.reverse, .non)
  | _, _ => none
def clearD : D → List D → Option (D × D)
  | .lst l, [] => some (.lst [], .non)
  | _, _ => none
def setdefD : D → List D → Option (D × D)
  | .dt ks vs, [.tup k, v] => (keysD k).bind fun k => if decide (ks.length < szB) then (match lookK k ks vs with
      | some w => some (.dt ks vs, w)
      | none => some (.dt (ks ++ [k]) (vs ++ [v]), v)) else none
  | _, _ => none
/-- the receiver behind it, what it tells -/
def mmD : Mm → D → List D → Option (D × D)
  | .append => appendD
  | .extend => extendD
  | .pop => popD
  | .popAt => popAtD
  | .reverse => reverseD
  | .clear => clearD
  | .setdefault => setdefD
  | _ => fun _ _ => none
/-- the receiver is of the kind that the method wants -/
def mmK (m : Mm) (d : D) : Bool := match m, d with
  | .setdefault, .dk _ _ => true
  | .setdefault, .dt _ _ => true
  | .setdefault, _ => false
  | .dpop, .dk _ _ => true
  | .dpop, _ => false
  | _, .lst _ => true
  | _, _ => false
def cellOf : D → Option Cell
  | .lst xs => some (.lst xs)
  | .dk ks vs => some (.dk ks vs)
  | .dt ks vs => some (.dt ks vs)
  | _ => none
def lookF (f : Str) (fs : List (Str × D)) : Option D := fs.lookup f
def putFd (f : Str) (v : D) : List (Str × D) → List (Str × D)
  | [] => [(f, v)]
  | (g, x) :: r => if g = f then (g, v) :: r else (g, x) :: putFd f v r

/-- its arguments are held -/
def heldM : Mm → Bool
  | .append => true
  | .insert => true
  | .setdefault => true
  | _ => false
mutual
def D.beq : D → D → Bool
  | .non, .non => true
  | .bl a, .bl b => a == b
  | .int a, .int b => decide (a = b)
  | .str a, .str b => decide (a = b)
  | .tup xs, .tup ys => D.beqs xs ys
  | .lst xs, .lst ys => D.beqs xs ys
  | .dk ks xs, .dk js ys => decide (ks = js) && D.beqs xs ys
  | .dt ks xs, .dt js ys => decide (ks = js) && D.beqs xs ys
  | .ref i, .ref j => i == j
  | .fn i, .fn j => i == j
  | .exn i, .exn j => i == j
  | _, _ => false
def D.beqs : List D → List D → Bool
  | [], [] => true
  | x :: xs, y :: ys => D.beq x y && D.beqs xs ys
  | _, _ => false
end
/-- the cell that is walked is as it was -/
def srcOk (x : D) (S0 S : Sto) : Bool := match x with
  | .ref i => D.beq (D.look S0 (.ref i)) (D.look S (.ref i)) && isBoxD (D.look S0 (.ref i))
  | _ => true
/-! ### frames -/
mutual
def bindT : Tgt → D → Frame → Option Frame
  | .v i, d, ρ => some (ρ.set i (.val d))
  | .t ts, .tup xs, ρ => bindTs ts xs ρ
  | _, _, _ => none
def bindTs : List Tgt → List D → Frame → Option Frame
  | [], [], ρ => some ρ
  | t :: ts, x :: xs, ρ => (bindT t x ρ).bind fun ρ => bindTs ts xs ρ
  | _, _, _ => none
end
def frzF (ρ : Frame) : List Nat → Frame
  | [] => ρ
  | i :: is => match ρ[i]? with
    | some (.own d) => frzF (ρ.set i (.val d)) is
    | _ => frzF ρ is
mutual
def Tgt.vars : Tgt → List Nat
  | .v i => [i]
  | .t ts => Tgt.varss ts
def Tgt.varss : List Tgt → List Nat
  | [] => []
  | a :: as => a.vars ++ Tgt.varss as
end
def Slot.free : Slot → Bool
  | .own _ => false
  | _ => true
/-- the names of a comprehension's own -/
def ownOk (ρ : Frame) (t : Tgt) (own : List Nat) : Bool := t.vars.all (fun i => own.contains i) && own.all fun i => match ρ[i]? with
  | some s => s.free
  | none => true
def wipeF (ρ : Frame) : List Nat → Frame
  | [] => ρ
  | i :: is => (wipeF ρ is).set i .no

/-! ### expressions -/
structure Ev where
  tb : Tb
  /-- within an except suite -/
  hot : Bool
  /-- a call of a def -/
  call : Nat → List D → Sto → Res D
/-- an operand that is only read: a name's own list or dict too -/
def raw (ρ : Frame) (e : E) (r : Res D) (S : Sto) : Res D := match e with
  | .var i => match ρ[i]? with
    | some (.own d) => .ok d S
    | some (.val d) => .ok d S
    | _ => .stuck
  | _ => r
/-- .. and looked at, at once -/
def rdv (ρ : Frame) (e : E) (r : Res D) (S : Sto) : Res D := (raw ρ e r S).bind fun d S => .ok (d.look S) S
/-- nothing may be raised -/
def calm1 {α : Type} (r : Res α) : Res α := match r with
  | .exc _ _ => .stuck
  | r => r
def guardS {α : Type} (x : D) (S0 : Sto) (r : Res α) : Res α := match r with
  | .ok a S => if srcOk x S0 S then .ok a S else .stuck
  | r => r
def calmly {α : Type} (C : Ev) (r : Res α) : Res α := if C.hot then .stuck else r
def ofO {α : Type} (o : Option α) (S : Sto) (f : α → Res D) : Res D := match o with
  | some a => f a
  | none => .stuck
def compL (f : D → Sto → Res (Option D)) : List D → Sto → Res (List D)
  | [], S => .ok [] S
  | d :: ds, S => (f d S).bind fun o S => (compL f ds S).bind fun r S => .ok (match o with
    | some y => y :: r
    | none => r) S
def purely (r : Res D) (S : Sto) : Res D := match r with
  | .ok d _ => if d.pure then .ok d S else .stuck
  | .exc c _ => .exc c S
  | .stuck => .stuck
mutual
def evE (C : Ev) : E → Frame → Sto → Res D
  | .var i, ρ, S => match ρ[i]? with
    | some (.val d) => .ok d S
    | _ => .stuck
  | .const d, _, S => .ok d S
  | .bin op a b, ρ, S => (raw ρ a (evE C a ρ S) S).bind fun x S => (raw ρ b (evE C b ρ S) S).bind fun y S => Res.of (binD op (x.look S) (y.look S)) S
  | .neg a, ρ, S => (evE C a ρ S).bind fun x S => match x with
    | .int i => .ok (.int (-i)) S
    | _ => .stuck
  | .cmp op a b, ρ, S => (raw ρ a (evE C a ρ S) S).bind fun x S => (raw ρ b (evE C b ρ S) S).bind fun y S => Res.of ((cmpD op (x.look S) (y.look S)).map .bl) S
  | .chain o p a b c, ρ, S => (evE C a ρ S).bind fun x S => (evE C b ρ S).bind fun y S => match cmpD o x y with
    | some true => (evE C c ρ S).bind fun z S => Res.of ((cmpD p y z).map .bl) S
    | some false => .ok (.bl false) S
    | none => .stuck
  | .and a b, ρ, S => (evE C a ρ S).bind fun x S => match truD (x.look S) with
    | some true => evE C b ρ S
    | some false => .ok x S
    | none => .stuck
  | .or a b, ρ, S => (evE C a ρ S).bind fun x S => match truD (x.look S) with
    | some true => .ok x S
    | some false => evE C b ρ S
    | none => .stuck
  | .not a, ρ, S => (rdv ρ a (evE C a ρ S) S).bind fun x S => match truD x with
    | some b => .ok (.bl (!b)) S
    | none => .stuck
  | .ite c a b, ρ, S => (rdv ρ c (evE C c ρ S) S).bind fun x S => match truD x with
    | some true => evE C a ρ S
    | some false => evE C b ρ S
    | none => .stuck
  | .tup es, ρ, S => (evEs C es ρ S).bind fun xs S => if decide (xs.length ≤ szB) then .ok (.tup xs) S else .stuck
  | .lst es, ρ, S => (evEs C es ρ S).bind fun xs S => if decide (xs.length ≤ szB) then .ok (.lst xs) S else .stuck
  | .dct t ks vs, ρ, S => (evEs C ks ρ S).bind fun ks S => (evEs C vs ρ S).bind fun vs S => match t with
    | true => (match ks, vs with
      | [], [] => .ok (.dt [] []) S
      | _, _ => .stuck)
    | false => match keysD ks with
      | some ks => .ok (.dk ks vs) S
      | none => .stuck
  | .idx a i, ρ, S => (raw ρ a (evE C a ρ S) S).bind fun x S => (evE C i ρ S).bind fun y S => Res.of (idxD (x.look S) y) S
  | .slc a lo hi, ρ, S => (raw ρ a (evE C a ρ S) S).bind fun x S => (evO C lo ρ S).bind fun l S => (evO C hi ρ S).bind fun h S => Res.of (slcD (x.look S) l h) S
  | .srev a, ρ, S => (rdv ρ a (evE C a ρ S) S).bind fun x S => match x with
    | .lst xs => .ok (.lst xs.reverse) S
    | _ => .stuck
  | .call f es dd, ρ, S => calmly C <| (evEs C es ρ S).bind fun xs S => C.call f (xs ++ dd) S
  | .callv f es, ρ, S => calmly C <| (evE C f ρ S).bind fun g S => (evEs C es ρ S).bind fun xs S => match g with
    | .fn i => if D.pures xs then purely (C.call i xs []) S else .stuck
    | _ => .stuck
  | .new c es dd, ρ, S => calmly C <| (evEs C es ρ S).bind fun xs S => match (C.tb.clss[c]?).bind fun k => k.meths.lookup ("__init__" : Str) with
    | some f => (C.call f (.ref S.length :: (xs ++ dd)) (S ++ [.ins c []])).bind fun r S' => match r with
      | .non => .ok (.ref S.length) S'
      | _ => .stuck
    | none => .stuck
  | .meth o m es dd fr, ρ, S => calmly C <| (evE C o ρ S).bind fun x S => match x with
    | .ref i => (match S[i]? with
      | some (.ins c fs) => (match (C.tb.clss[c]?).bind fun k => k.meths.lookup m with
        | some f => if (fr && !((C.tb.fns[f]?).any (·.fr))) || (lookF m fs).isSome then .stuck else (evEs C es ρ S).bind fun xs S => C.call f (.ref i :: (xs ++ dd)) S
        | none => .stuck)
      | _ => .stuck)
    | _ => .stuck
  | .fld o f, ρ, S => (evE C o ρ S).bind fun x S => match x with
    | .ref i => (match S[i]? with
      | some (.ins c fs) => if (C.tb.clss[c]?).any (fun k => k.flds.contains f) then Res.of (lookF f fs) S else .stuck
      | _ => .stuck)
    | _ => .stuck
  | .blt f es, ρ, S => calmly C <| (evRs C es ρ S).bind fun xs S => Res.of (bltD f (xs.map (D.look S))) S
  | .mt m o es, ρ, S => calmly C <| (raw ρ o (evE C o ρ S) S).bind fun x S => (evRs C es ρ S).bind fun xs S => Res.of (mtD m (x.look S) (xs.map (D.look S))) S
  | .mm m o es, ρ, S => calmly C <| (evE C o ρ S).bind fun x S => match x with
    | .ref i => if mmK m (D.look S (.ref i)) then (if heldM m then evEs C es ρ S else (evRs C es ρ S).bind fun xs S => .ok (xs.map (D.look S)) S).bind fun xs S => (match mmD m (D.look S (.ref i)) xs with
      | some (d, r) => (match cellOf d with
        | some c => .ok r (S.set i c)
        | none => .stuck)
      | none => .stuck) else .stuck
    | _ => .stuck
  | .comp elt t own it ifs, ρ, S => calmly C <| (raw ρ it (evE C it ρ S) S).bind fun x S => match itemsD (x.look S) with
    | some xs => if decide (xs.length ≤ szB) && ownOk ρ t own then calm1 ((compL (fun d S' => guardS x S (match bindT t d (wipeF ρ own) with
        | some ρ' => (evIf C ifs ρ' S').bind fun b S' => match b with
          | true => (evE C elt ρ' S').bind fun y S' => .ok (some y) S'
          | false => .ok none S'
        | none => .stuck)) xs S).bind fun ys S => .ok (.lst ys) S) else .stuck
    | none => .stuck
  | .cell e, ρ, S => (evE C e ρ S).bind fun d S => match cellOf d with
    | some c => .ok (.ref S.length) (S ++ [c])
    | none => .stuck
  | .unc e, ρ, S => (evE C e ρ S).bind fun d S => match d with
    | .ref i => (match D.look S (.ref i) with
      | .ref _ => .stuck
      | d => .ok d (S.set i .dead))
    | _ => .stuck
  | .rng es, ρ, S => (evEs C es ρ S).bind fun xs S => Res.of ((rngD xs).map .lst) S
  | .enm e, ρ, S => (evE C e ρ S).bind fun x S => match x with
    | .lst xs => .ok (.lst (enumL 0 xs)) S
    | _ => .stuck
  | .itm e, ρ, S => (evE C e ρ S).bind fun x S => match x with
    | .dk ks vs => .ok (.lst (itmL ks vs)) S
    | _ => .stuck
  | .rev e, ρ, S => (evE C e ρ S).bind fun x S => match x with
    | .lst xs => .ok (.lst xs.reverse) S
    | _ => .stuck
def evEs (C : Ev) : List E → Frame → Sto → Res (List D)
  | [], _, S => .ok [] S
  | e :: es, ρ, S => (evE C e ρ S).bind fun x S => (evEs C es ρ S).bind fun xs S => .ok (x :: xs) S
/-- arguments that are only read -/
def evRs (C : Ev) : List E → Frame → Sto → Res (List D)
  | [], _, S => .ok [] S
  | e :: es, ρ, S => (raw ρ e (evE C e ρ S) S).bind fun x S => (evRs C es ρ S).bind fun xs S => .ok (x :: xs) S
def evO (C : Ev) : Option E → Frame → Sto → Res (Option Int)
  | none, _, S => .ok none S
  | some e, ρ, S => (evE C e ρ S).bind fun x S => match x with
    | .int i => .ok (some i) S
    | _ => .stuck
def evIf (C : Ev) : List E → Frame → Sto → Res Bool
  | [], _, S => .ok true S
  | e :: es, ρ, S => (rdv ρ e (evE C e ρ S) S).bind fun x S => match truD x with
    | some true => evIf C es ρ S
    | some false => .ok false S
    | none => .stuck
end
/-- a test -/
def evT (C : Ev) (e : E) (ρ : Frame) (S : Sto) : Res Bool := (rdv ρ e (evE C e ρ S) S).bind fun x S => Res.of (truD x) S

/-! ### statements -/
inductive SR where
  | nx (ρ : Frame) (S : Sto) | rt (d : D) (own : Bool) (S : Sto) | bk (ρ : Frame) (S : Sto) | ct (ρ : Frame) (S : Sto)
  | ex (c : Nat) (ρ : Frame) (S : Sto) | stuck
def Res.to {α : Type} (r : Res α) (ρ : Frame) (f : α → Sto → SR) : SR := match r with
  | .ok a S => f a S
  | .exc c S => .ex c ρ S
  | .stuck => .stuck
def SR.seq (r : SR) (f : Frame → Sto → SR) : SR := match r with
  | .nx ρ S => f ρ S
  | r => r
/-- whether its value is a new list or dict that nothing else holds -/
def isFresh (T : Tb) : E → Bool
  | .lst _ => true
  | .dct _ _ _ => true
  | .comp _ _ _ _ _ => true
  | .slc _ _ _ => true
  | .srev _ => true
  | .bin _ _ _ => true
  | .blt .listOf _ => true
  | .blt .dictOf _ => true
  | .blt .sorted _ => true
  | .mt .split _ _ => true
  | .call f _ _ => (T.fns[f]?).any (·.fr)
  | .meth _ _ _ _ fr => fr
  | .ite _ a b => isFresh T a && isFresh T b
  | _ => false
def isBox : D → Bool
  | .lst _ => true
  | .dk _ _ => true
  | .dt _ _ => true
  | _ => false
def slotOf (f : Bool) (d : D) : Slot := if f && isBox d then .own d else .val d
def forL (f : D → Frame → Sto → SR) : List D → Frame → Sto → SR
  | [], ρ, S => .nx ρ S
  | d :: ds, ρ, S => match f d ρ S with
    | .nx ρ S => forL f ds ρ S
    | .ct ρ S => forL f ds ρ S
    | .bk ρ S => .nx ρ S
    | r => r
def whlL (c : Frame → Sto → Res Bool) (f : Frame → Sto → SR) : Nat → Frame → Sto → SR
  | 0, _, _ => .stuck
  | n + 1, ρ, S => (c ρ S).to ρ fun b S => match b with
    | true => (match f ρ S with
      | .nx ρ S => whlL c f n ρ S
      | .ct ρ S => whlL c f n ρ S
      | .bk ρ S => .nx ρ S
      | r => r)
    | false => .nx ρ S
def under (T : Tb) (c k : Nat) : Bool := (T.excs[c]?).any fun x => x.up.contains k
def bindTo (t : Option Tgt) (d : D) (ρ : Frame) (S : Sto) : SR := match t with
  | none => .nx ρ S
  | some t => match bindT t d ρ with
    | some ρ => .nx ρ S
    | none => .stuck
def guardR (x : D) (S0 : Sto) (r : SR) : SR := match r with
  | .nx ρ S => if srcOk x S0 S then .nx ρ S else .stuck
  | .ct ρ S => if srcOk x S0 S then .ct ρ S else .stuck
  | r => r
mutual
def exS (C : Ev) : S → Frame → Sto → SR
  | .pass, ρ, S => .nx ρ S
  | .set i e, ρ, S => (evE C e ρ S).to ρ fun d S => .nx (ρ.set i (slotOf (isFresh C.tb e) d)) S
  | .asg t e, ρ, S => if C.hot then .stuck else (evE C e ρ S).to ρ fun d S => match bindT t d ρ with
    | some ρ => .nx ρ S
    | none => .stuck
  | .par i j a b, ρ, S => if C.hot then .stuck else (evE C a ρ S).to ρ fun x S => (evE C b ρ S).to ρ fun y S => .nx ((ρ.set i (.val x)).set j (.val y)) S
  | .aug i op e, ρ, S => match ρ[i]? with
    | some (.val (.int x)) => (evE C e ρ S).to ρ fun y S => (match y with
      | .int y => (match (if decide (op = .Pow) then none else intOp op x y) with
        | some z => .nx (ρ.set i (.val (.int z))) S
        | none => .stuck)
      | _ => .stuck)
    | _ => .stuck
  | .fld o f e, ρ, S => (evE C e ρ S).to ρ fun d S => (evE C o ρ S).to ρ fun x S => (match x with
    | .ref i => (match S[i]? with
      | some (.ins c fs) => if decide (fs.length < 1000) && (C.tb.clss[c]?).any (fun k => k.flds.contains f) then .nx ρ (S.set i (.ins c (putFd f d fs))) else .stuck
      | _ => .stuck)
    | _ => .stuck)
  | .sub o k e, ρ, S => (evE C e ρ S).to ρ fun d S => (evE C o ρ S).to ρ fun x S => (evE C k ρ S).to ρ fun y S => (match x with
    | .ref i => (match S[i]?, y with
      | some (.lst xs), .int n => (match ixN xs.length n with
        | some j => .nx ρ (S.set i (.lst (xs.set j d)))
        | none => .stuck)
      | some (.dk ks vs), y => (match keyD y with
        | some k => if decide (ks.length < szB) then (match cellOf (putB k d ks vs) with
          | some c => .nx ρ (S.set i c)
          | none => .stuck) else .stuck
        | none => .stuck)
      | _, _ => .stuck)
    | _ => .stuck)
  | .osub i k e, ρ, S => (evE C e ρ S).to ρ fun d S => (match ρ[i]? with
    | some (.own x) => (evE C k ρ S).to ρ fun y S => (match x, y with
      | .lst xs, .int n => (match ixN xs.length n with
        | some j => .nx (ρ.set i (.own (.lst (xs.set j d)))) S
        | none => .stuck)
      | .dk ks vs, y => (match keyD y with
        | some k => if decide (ks.length < szB) then .nx (ρ.set i (.own (putB k d ks vs))) S else .stuck
        | none => .stuck)
      | _, _ => .stuck)
    | _ => .stuck)
  | .expr e, ρ, S => (evE C e ρ S).to ρ fun _ S => .nx ρ S
  | .own t i m es, ρ, S => if C.hot then .stuck else (match ρ[i]? with
    | some (.own d) => if mmK m d then (if heldM m then evEs C es ρ S else (evRs C es ρ S).bind fun xs S => .ok (xs.map (D.look S)) S).to ρ fun xs S => (match mmD m d xs with
      | some (d', r) => bindTo t r (ρ.set i (.own d')) S
      | none => .stuck) else .stuck
    | _ => .stuck)
  | .ite c a b, ρ, S => (evT C c ρ S).to ρ fun x S => (match x with
    | true => exB C a ρ S
    | false => exB C b ρ S)
  | .whl c b, ρ, S => if C.hot then .stuck else whlL (fun ρ S => evT C c ρ S) (fun ρ S => exB C b ρ S) C.tb.fuel ρ S
  | .for t it b, ρ, S => if C.hot then .stuck else (evE C it ρ S).to ρ fun x S => (match itemsD (x.look S) with
      | some xs => forL (fun d ρ S' => guardR x S (match bindT t d ρ with
        | some ρ => exB C b ρ S'
        | none => .stuck)) xs ρ S
      | none => .stuck)
  | .ret e, ρ, S => match e with
    | .var i => (match ρ[i]? with
      | some (.own d) => .rt d true S
      | some (.val d) => .rt d false S
      | _ => .stuck)
    | e => (evE C e ρ S).to ρ fun d S => .rt d (isFresh C.tb e) S
  | .retN, _, S => .rt .non false S
  | .raise c, ρ, S => if C.hot then .stuck else .ex c ρ S
  | .brk, ρ, S => .bk ρ S
  | .cnt, ρ, S => .ct ρ S
  | .tryx b c n h o, ρ, S => if C.hot then .stuck else match exB C b ρ S with
    | .ex k ρ S => if decide (k < C.tb.excs.length) then (match under C.tb k c with
      | true => (match n with
        | none => exB { C with hot := true } h ρ S
        | some i => (match exB { C with hot := true } h (ρ.set i (.val (.exn k))) S with
          | .nx ρ S => .nx (ρ.set i .no) S
          | .bk ρ S => .bk (ρ.set i .no) S
          | .ct ρ S => .ct (ρ.set i .no) S
          | r => r))
      | false => .ex k ρ S) else .stuck
    | .nx ρ S => exB C o ρ S
    | r => r
  | .frz is, ρ, S => .nx (frzF ρ is) S
def exB (C : Ev) : List S → Frame → Sto → SR
  | [], ρ, S => .nx ρ S
  | s :: ss, ρ, S => (exS C s ρ S).seq fun ρ S => exB C ss ρ S
end
/-- a def, called -/
def runF (C : Ev) (f : FnI) (xs : List D) (S : Sto) : Res D := if decide (xs.length = f.np) then (match exB C f.body (xs.map .val ++ List.replicate (f.names.length - f.np) .no) S with
    | .nx _ S => .ok .non S
    | .rt d own S => if f.fr && isBox d && !own then .stuck else .ok d S
    | .ex c _ S => .exc c S
    | _ => .stuck) else .stuck
def callD (T : Tb) : Nat → Nat → List D → Sto → Res D
  | 0, _, _, _ => .stuck
  | n + 1, f, xs, S => match T.fns[f]? with
    | some i => runF ⟨T, false, callD T n⟩ i xs S
    | none => .stuck
end MP

set_option maxRecDepth 100000
set_option maxHeartbeats 4000000
/-! MiniPy: how values and the store stand in the abstract heap. -/
namespace MP
open PySem PySem.Spec L2
open PyProof.Rows hiding St

/-- F: objects that never change again; m: where the store's cells stand; fa: where the defs stand -/
structure Zw where
  K : PySem.W.Frag
  fa : Nat → Addr
  F : Hp
  m : List Addr
  /-- dicts that are locked for good -/
  L : Addr → Option Obj
mutual
inductive RelD (Z : Zw) : D → V → Prop
  | non : RelD Z .non .non
  | bl (b : Bool) : RelD Z (.bl b) (.bl b)
  | int (i : Int) : RelD Z (.int i) (.int i)
  | str (x : Str) (h : x.length ≤ sizeLine) : RelD Z (.str x) (.str x)
  | tup {p : Addr} {xs : List D} {vs : List V} (h : Z.F p = some (.tup vs)) (r : RelDs Z xs vs) : RelD Z (.tup xs) (.ref p)
  | lst {p : Addr} {xs : List D} {vs : List V} (h : Z.F p = some (.lst vs)) (r : RelDs Z xs vs) : RelD Z (.lst xs) (.ref p)
  | dk {p : Addr} {ks : List Key} {xs : List D} {vs : List V} (h : Z.F p = some (.dK (ks.zip vs))) (hl : ks.length = vs.length) (r : RelDs Z xs vs) : RelD Z (.dk ks xs) (.ref p)
  | dt {p : Addr} {ks : List (List Key)} {xs : List D} {vs : List V} (h : Z.F p = some (.dT (ks.zip vs))) (hl : ks.length = vs.length) (r : RelDs Z xs vs) : RelD Z (.dt ks xs) (.ref p)
  | ref {i : Nat} {p : Addr} (h : Z.m[i]? = some p) : RelD Z (.ref i) (.ref p)
  | fn (i : Nat) : RelD Z (.fn i) (.ref (Z.fa i))
inductive RelDs (Z : Zw) : List D → List V → Prop
  | nil : RelDs Z [] []
  | cons {d : D} {v : V} {ds : List D} {vs : List V} (h : RelD Z d v) (t : RelDs Z ds vs) : RelDs Z (d :: ds) (v :: vs)
end
/-- more is known -/
structure Zle (Z Z' : Zw) : Prop where
  K : Z'.K = Z.K
  fa : Z'.fa = Z.fa
  F : ∀ p o, Z.F p = some o → Z'.F p = some o
  m : ∀ (i : Nat) p, Z.m[i]? = some p → Z'.m[i]? = some p
  L : ∀ p o, Z.L p = some o → Z'.L p = some o
theorem Zle.refl {Z : Zw} : Zle Z Z := ⟨rfl, rfl, fun _ _ h => h, fun _ _ h => h, fun _ _ h => h⟩
theorem Zle.trans {Z Z1 Z2 : Zw} (a : Zle Z Z1) (b : Zle Z1 Z2) : Zle Z Z2 := ⟨b.K.trans a.K, b.fa.trans a.fa, fun p o h => b.F p o (a.F p o h), fun i p h => b.m i p (a.m i p h), fun p o h => b.L p o (a.L p o h)⟩
mutual
theorem RelD.mono {Z Z' : Zw} (k : Zle Z Z') : ∀ {d : D} {v : V}, RelD Z d v → RelD Z' d v
  | _, _, .non => .non
  | _, _, .bl b => .bl b
  | _, _, .int i => .int i
  | _, _, .str x h => .str x h
  | _, _, .tup h r => .tup (k.F _ _ h) (RelDs.mono k r)
  | _, _, .lst h r => .lst (k.F _ _ h) (RelDs.mono k r)
  | _, _, .dk h hl r => .dk (k.F _ _ h) hl (RelDs.mono k r)
  | _, _, .dt h hl r => .dt (k.F _ _ h) hl (RelDs.mono k r)
  | _, _, .ref h => .ref (k.m _ _ h)
  | _, _, .fn i => by rw [← k.fa]; exact .fn i
theorem RelDs.mono {Z Z' : Zw} (k : Zle Z Z') : ∀ {ds : List D} {vs : List V}, RelDs Z ds vs → RelDs Z' ds vs
  | _, _, .nil => .nil
  | _, _, .cons h t => .cons (RelD.mono k h) (RelDs.mono k t)
end
mutual
/-- a value that holds no cell says nothing of where cells stand -/
theorem RelD.pure {Z : Zw} {m : List Addr} : ∀ {d : D} {v : V}, RelD Z d v → d.pure = true → RelD { Z with m := m } d v
  | _, _, .non, _ => .non
  | _, _, .bl b, _ => .bl b
  | _, _, .int i, _ => .int i
  | _, _, .str x h, _ => .str x h
  | _, _, .tup h r, e => .tup h (RelDs.pure r e)
  | _, _, .lst h r, e => .lst h (RelDs.pure r e)
  | _, _, .dk h hl r, e => .dk h hl (RelDs.pure r e)
  | _, _, .dt h hl r, e => .dt h hl (RelDs.pure r e)
  | _, _, .ref h, e => by cases e
  | _, _, .fn i, _ => .fn (Z := { Z with m := m }) i
theorem RelDs.pure {Z : Zw} {m : List Addr} : ∀ {ds : List D} {vs : List V}, RelDs Z ds vs → D.pures ds = true → RelDs { Z with m := m } ds vs
  | _, _, .nil, _ => .nil
  | _, _, .cons h t, e => by
    have e2 := Bool.and_eq_true_iff.mp (show (D.pure _ && D.pures _) = true from e)
    exact .cons (RelD.pure h e2.1) (RelDs.pure t e2.2)
end
theorem RelDs.length {Z : Zw} : ∀ {ds : List D} {vs : List V}, RelDs Z ds vs → ds.length = vs.length
  | _, _, .nil => rfl
  | _, _, .cons _ t => congrArg Nat.succ (RelDs.length t)
theorem RelDs.append {Z : Zw} : ∀ {ds es : List D} {vs ws : List V}, RelDs Z ds vs → RelDs Z es ws → RelDs Z (ds ++ es) (vs ++ ws)
  | _, _, _, _, .nil, s => s
  | _, _, _, _, .cons h t, s => .cons h (RelDs.append t s)
theorem RelDs.get {Z : Zw} : ∀ {ds : List D} {vs : List V} {i : Nat} {d : D}, RelDs Z ds vs → ds[i]? = some d → ∃ v, vs[i]? = some v ∧ RelD Z d v
  | _, _, _, _, .nil, e => by simp at e
  | _, _, 0, _, .cons h _, e => by
    simp at e
    subst e
    exact ⟨_, rfl, h⟩
  | _, _, i + 1, _, .cons _ t, e => by
    obtain ⟨v, h1, h2⟩ := RelDs.get t (i := i) (by simpa using e)
    exact ⟨v, by simpa using h1, h2⟩
theorem RelDs.get' {Z : Zw} : ∀ {ds : List D} {vs : List V} {i : Nat} {v : V}, RelDs Z ds vs → vs[i]? = some v → ∃ d, ds[i]? = some d ∧ RelD Z d v
  | _, _, _, _, .nil, e => by simp at e
  | _, _, 0, _, .cons h _, e => by
    simp at e
    subst e
    exact ⟨_, rfl, h⟩
  | _, _, i + 1, _, .cons _ t, e => by
    obtain ⟨v, h1, h2⟩ := RelDs.get' t (i := i) (by simpa using e)
    exact ⟨v, by simpa using h1, h2⟩
theorem RelDs.take {Z : Zw} : ∀ {ds : List D} {vs : List V} (n : Nat), RelDs Z ds vs → RelDs Z (ds.take n) (vs.take n)
  | _, _, 0, _ => by simp only [List.take_zero]; exact .nil
  | _, _, _ + 1, .nil => .nil
  | _, _, n + 1, .cons h t => .cons h (RelDs.take n t)
theorem RelDs.drop {Z : Zw} : ∀ {ds : List D} {vs : List V} (n : Nat), RelDs Z ds vs → RelDs Z (ds.drop n) (vs.drop n)
  | _, _, 0, r => r
  | _, _, _ + 1, .nil => .nil
  | _, _, n + 1, .cons _ t => RelDs.drop n t
theorem RelDs.reverse {Z : Zw} : ∀ {ds : List D} {vs : List V}, RelDs Z ds vs → RelDs Z ds.reverse vs.reverse
  | _, _, .nil => .nil
  | _, _, .cons h t => by
    rw [List.reverse_cons, List.reverse_cons]
    exact (RelDs.reverse t).append (.cons h .nil)
theorem RelDs.set {Z : Zw} {d : D} {v : V} (h : RelD Z d v) : ∀ {ds : List D} {vs : List V} (i : Nat), RelDs Z ds vs → RelDs Z (ds.set i d) (vs.set i v)
  | _, _, _, .nil => .nil
  | _, _, 0, .cons _ t => .cons h t
  | _, _, i + 1, .cons q t => .cons q (RelDs.set h i t)
theorem RelDs.dropLast {Z : Zw} {ds : List D} {vs : List V} (h : RelDs Z ds vs) : RelDs Z ds.dropLast vs.dropLast := by
  rw [List.dropLast_eq_take, List.dropLast_eq_take, h.length]
  exact h.take _
theorem RelDs.eraseIdx {Z : Zw} : ∀ {ds : List D} {vs : List V} (i : Nat), RelDs Z ds vs → RelDs Z (ds.eraseIdx i) (vs.eraseIdx i)
  | _, _, _, .nil => .nil
  | _, _, 0, .cons _ t => t
  | _, _, i + 1, .cons q t => .cons q (RelDs.eraseIdx i t)

/-! ### what a list or dict holds -/
/-- an object of the abstract heap that is a list or a dict of these values -/
inductive BoxO (Z : Zw) : D → HO → Prop
  | lst {xs : List D} {vs : List V} (r : RelDs Z xs vs) : BoxO Z (.lst xs) (.lst vs)
  | dk {ks : List Key} {xs : List D} {vs : List V} (hl : ks.length = vs.length) (r : RelDs Z xs vs) : BoxO Z (.dk ks xs) (.dK (ks.zip vs))
  | dt {ks : List (List Key)} {xs : List D} {vs : List V} (hl : ks.length = vs.length) (r : RelDs Z xs vs) : BoxO Z (.dt ks xs) (.dT (ks.zip vs))
theorem BoxO.mono {Z Z' : Zw} (k : Zle Z Z') {d : D} {o : HO} : BoxO Z d o → BoxO Z' d o
  | .lst r => .lst (r.mono k)
  | .dk hl r => .dk hl (r.mono k)
  | .dt hl r => .dt hl (r.mono k)
theorem BoxO.mut {Z : Zw} {d : D} {o : HO} : BoxO Z d o → Mut (some o)
  | .lst r => trivial
  | .dk hl r => trivial
  | .dt hl r => trivial
theorem BoxO.pureM {Z : Zw} {m : List Addr} {d : D} {o : HO} (e : d.pure = true) : BoxO Z d o → BoxO { Z with m := m } d o
  | .lst r => .lst (r.pure e)
  | .dk hl r => .dk hl (r.pure e)
  | .dt hl r => .dt hl (r.pure e)
def cellD : Cell → Option D
  | .lst xs => some (.lst xs)
  | .dk ks vs => some (.dk ks vs)
  | .dt ks vs => some (.dt ks vs)
  | _ => none
/-- attributes -/
def Flds (Z : Zw) (fs : List (Str × D)) (gs : List (Str × V)) : Prop := fs.map (·.1) = gs.map (·.1) ∧ RelDs Z (fs.map (·.2)) (gs.map (·.2))
/-- a cell of the store, at its address -/
inductive CellO (Z : Zw) (ca : Nat → Addr) : Cell → Option HO → Prop
  | box {c : Cell} {d : D} {o : HO} (e : cellD c = some d) (r : BoxO Z d o) : CellO Z ca c (some o)
  | ins {c : Nat} {dx : Addr} {fs : List (Str × D)} {gs : List (Str × V)} (r : Flds Z fs gs) : CellO Z ca (.ins c fs) (some (.ins (ca c) dx gs))
  | dead {o : HO} : CellO Z ca .dead (some o)
theorem Flds.mono {Z Z' : Zw} (k : Zle Z Z') {fs : List (Str × D)} {gs : List (Str × V)} (h : Flds Z fs gs) : Flds Z' fs gs := ⟨h.1, h.2.mono k⟩
theorem CellO.mono {Z Z' : Zw} {ca : Nat → Addr} (k : Zle Z Z') {c : Cell} {o : Option HO} : CellO Z ca c o → CellO Z' ca c o
  | .box e r => .box e (r.mono k)
  | .ins r => .ins (r.mono k)
  | .dead => .dead
/-- the store, in the heap -/
structure Cells (Z : Zw) (ca : Nat → Addr) (S : Sto) (H : Hp) : Prop where
  len : Z.m.length = S.length
  nd : Z.m.Nodup
  at_ : ∀ (i : Nat) c p, S[i]? = some c → Z.m[i]? = some p → CellO Z ca c (H p) ∧ (c ≠ .dead → Z.F p = none)

/-- no tuple: it may be locked -/
def isDO : HO → Bool
  | .tup _ => false
  | _ => true
/-! ### a frame that runs -/
/-- the entry: the heap, where the cells stood, what stood fast; the classes' addresses -/
structure Act where
  K : PySem.W.Frag
  fa : Nat → Addr
  ca : Nat → Addr
  xa : Nat → Addr
  H0 : Hp
  m0 : List Addr
  F0 : Hp
/-- a name's slot -/
def SlotOk (Z : Zw) (H : Hp) (s : Slot) (v : Option V) : Prop := match s with
  | .no => True
  | .val d => ∃ x, v = some x ∧ RelD Z d x
  | .own d => ∃ p o, v = some (.ref p) ∧ BoxO Z d o ∧ H p = some o ∧ Z.F p = none ∧ p ∉ Z.m
/-- where a slot's own list stands -/
def OwnAt (ρ : Frame) (σ : St) (i : Nat) (p : Addr) : Prop := (∃ d, ρ[i]? = some (.own d)) ∧ σ[i]? = some (some (.ref p))
structure Gd (A : Act) (Z : Zw) (ρ : Frame) (S : Sto) (σ : St) (H : Hp) : Prop where
  kk : Z.K = A.K
  ff : Z.fa = A.fa
  fz : ∀ p o, Z.F p = some o → Rd H p o
  tx : ∀ p o, Z.F p = some o → isDO o = false → H p = some o
  lz : ∀ p o, Z.L p = some o → ∃ u, Z.F p = some u ∧ H p = some (.frz o u)
  cl : Cells Z A.ca S H
  len : ρ.length = σ.length
  sl : ∀ (i : Nat) s v, ρ[i]? = some s → σ[i]? = some v → SlotOk Z H s v
  od : ∀ (i j : Nat) p, OwnAt ρ σ i p → OwnAt ρ σ j p → i = j
  o0 : ∀ (i : Nat) p, OwnAt ρ σ i p → A.H0 p = none
  ent : ∀ p o, A.H0 p = some o → p ∉ A.m0 → A.F0 p = none → H p = some o
  nf : ∀ p o, Z.F p = some o → A.F0 p = none → A.H0 p = none
  nm : ∃ r, Z.m = A.m0 ++ r ∧ ∀ p, p ∈ r → A.H0 p = none
  f0 : ∀ p o, A.F0 p = some o → Z.F p = some o
section
variable {A : Act} {Z Z' : Zw} {ρ : Frame} {S S' : Sto} {σ : St} {H H' : Hp}
theorem Rd.lt {H : Hp} {p : Addr} {o : HO} (h : Rd H p o) : H p ≠ none := by
  rcases h with h | ⟨_, h⟩ <;> rw [h] <;> exact fun e => nomatch e
/-- what can be read of a value that was looked at -/
inductive RdR (Z : Zw) (H : Hp) : D → V → Prop
  | rel {d : D} {v : V} (r : RelD Z d v) : RdR Z H d v
  | box {d : D} {p : Addr} {o : HO} (r : BoxO Z d o) (h : Rd H p o) (hx : H p = some o) : RdR Z H d (.ref p)
/-- an operand -/
def Raw (Z : Zw) (ρ : Frame) (σ : St) (d : D) (v : V) : Prop := RelD Z d v ∨ ∃ i : Nat, ρ[i]? = some (Slot.own d) ∧ σ[i]? = some (some v)
theorem Raw.mono (k : Zle Z Z') {d : D} {v : V} (h : Raw Z ρ σ d v) : Raw Z' ρ σ d v := h.imp (·.mono k) id
theorem Gd.look (g : Gd A Z ρ S σ H) {d : D} {v : V} (h : Raw Z ρ σ d v) : RdR Z H (d.look S) v := by
  rcases h with h | ⟨i, h1, h2⟩
  · cases d with
    | ref i =>
      cases h with
      | ref hm =>
        unfold D.look
        dsimp only
        cases hc : S[i]? with
        | none => exact .rel (.ref hm)
        | some c =>
          have q := (g.cl.at_ i c _ hc hm).1
          cases c with
          | lst xs =>
            generalize hh : H _ = oo at q
            cases q with
            | box e r =>
              cases e
              exact .box r (.inl hh) hh
          | dk ks xs =>
            generalize hh : H _ = oo at q
            cases q with
            | box e r =>
              cases e
              exact .box r (.inl hh) hh
          | dt ks xs =>
            generalize hh : H _ = oo at q
            cases q with
            | box e r =>
              cases e
              exact .box r (.inl hh) hh
          | ins c fs => exact .rel (.ref hm)
          | dead => exact .rel (.ref hm)
    | _ => exact .rel h
  · obtain ⟨p, o, e, b, r, _⟩ := g.sl i _ _ h1 h2
    cases e
    have : d.look S = d := by cases b <;> rfl
    rw [this]
    exact .box b (.inl r) r
end
end MP

set_option maxRecDepth 100000
set_option maxHeartbeats 4000000
/-! MiniPy: how a frame's state goes on; the readings. -/
namespace MP
open PySem PySem.Spec L2
open PyProof.Rows hiding St
section
variable {A : Act} {Z Z' Z1 : Zw} {ρ : Frame} {S S' : Sto} {σ : St} {H H' : Hp}
theorem CellO.there {Z : Zw} {ca : Nat → Addr} {c : Cell} {o : Option HO} (h : CellO Z ca c o) : o ≠ none := by
  cases h <;> exact fun e => nomatch e
theorem Gd.mthere (g : Gd A Z ρ S σ H) {p : Addr} (h : p ∈ Z.m) : H p ≠ none := by
  obtain ⟨i, hi, e⟩ := List.mem_iff_getElem.mp h
  have hS : i < S.length := by rw [← g.cl.len]; exact hi
  exact (g.cl.at_ i S[i] p (by rw [List.getElem?_eq_getElem hS]) (by rw [List.getElem?_eq_getElem hi, e])).1.there
theorem Gd.fthere (g : Gd A Z ρ S σ H) {p : Addr} {o : HO} (h : Z.F p = some o) : H p ≠ none := Rd.lt (g.fz p o h)
/-- a step: what stood, is no cell and doesn't stand fast stays; what stands fast or is a cell from now on is new -/
structure Step (ca : Nat → Addr) (Z Z' : Zw) (S' : Sto) (H H' : Hp) : Prop where
  k : Zle Z Z'
  keep : ∀ p o, H p = some o → p ∉ Z.m → Z.F p = none → H' p = some o
  fz : ∀ p o, Z'.F p = some o → Rd H' p o
  tx : ∀ p o, Z'.F p = some o → isDO o = false → H' p = some o
  lz : ∀ p o, Z'.L p = some o → ∃ u, Z'.F p = some u ∧ H' p = some (.frz o u)
  cl : Cells Z' ca S' H'
  nF : ∀ p o, Z'.F p = some o → Z.F p = none → H p = none
  nM : ∃ r, Z'.m = Z.m ++ r ∧ ∀ p, p ∈ r → H p = none
theorem Gd.h0 (g : Gd A Z ρ S σ H) {p : Addr} (hn : H p = none) : A.H0 p = none := by
  cases e : A.H0 p with
  | none => rfl
  | some u =>
    obtain ⟨r0, e0, _⟩ := g.nm
    by_cases hm : p ∈ A.m0
    · exact absurd hn (g.mthere (by rw [e0]; exact List.mem_append_left _ hm))
    · cases hf : A.F0 p with
      | some v => exact absurd hn (g.fthere (g.f0 p v hf))
      | none =>
        rw [g.ent p u e hm hf] at hn
        cases hn
theorem Gd.step' (g : Gd A Z ρ S σ H) (st : Step A.ca Z Z' S' H H') : Gd A Z' ρ S' σ H' := by
  obtain ⟨k, keep, fz, tx, lz, cl, nF, ⟨r, hr, hr2⟩⟩ := st
  have notM : ∀ p, H p ≠ none → p ∉ Z.m → p ∉ Z'.m := fun p h n hm => by
    rw [hr] at hm
    rcases List.mem_append.mp hm with hm | hm
    · exact n hm
    · exact h (hr2 p hm)
  refine ⟨k.K.trans g.kk, k.fa.trans g.ff, fz, tx, lz, cl, g.len, fun i s v h1 h2 => ?_, g.od, g.o0, fun p o h1 h2 h3 => ?_, fun p o h1 h2 => ?_, ?_, fun p o h => k.F _ _ (g.f0 p o h)⟩
  · have q := g.sl i s v h1 h2
    cases s with
    | no => trivial
    | val d =>
      obtain ⟨x, e, rx⟩ := q
      exact ⟨x, e, rx.mono k⟩
    | own d =>
      obtain ⟨p, o, e, b, rd, nf, nm⟩ := q
      have hne : H p ≠ none := by rw [rd]; exact fun e => nomatch e
      refine ⟨p, o, e, b.mono k, keep p o rd nm nf, ?_, notM p hne nm⟩
      cases q : Z'.F p with
      | none => rfl
      | some u => exact absurd (nF p u q nf) hne
  · refine keep p o (g.ent p o h1 h2 h3) (fun hm => ?_) ?_
    · obtain ⟨r0, e0, n0⟩ := g.nm
      rw [e0] at hm
      rcases List.mem_append.mp hm with hm | hm
      · exact h2 hm
      · rw [n0 p hm] at h1
        cases h1
    · cases q : Z.F p with
      | none => rfl
      | some u =>
        rw [g.nf p u q h3] at h1
        cases h1
  · cases q : Z.F p with
    | some u => exact g.nf p u q h2
    | none => exact g.h0 (nF p o h1 q)
  · obtain ⟨r0, e0, n0⟩ := g.nm
    refine ⟨r0 ++ r, by rw [hr, e0, List.append_assoc], fun p hp => ?_⟩
    rcases List.mem_append.mp hp with hp | hp
    · exact n0 p hp
    · exact g.h0 (hr2 p hp)
theorem Gd.step (g : Gd A Z ρ S σ H) (k : Zle Z Z') (keep : ∀ p o, H p = some o → p ∉ Z.m → Z.F p = none → H' p = some o) (fz : ∀ p o, Z'.F p = some o → Rd H' p o) (tx : ∀ p o, Z'.F p = some o → isDO o = false → H' p = some o) (lz : ∀ p o, Z'.L p = some o → ∃ u, Z'.F p = some u ∧ H' p = some (.frz o u)) (cl : Cells Z' A.ca S' H')
    (nF : ∀ p o, Z'.F p = some o → Z.F p = none → H p = none) (nM : ∃ r, Z'.m = Z.m ++ r ∧ ∀ p, p ∈ r → H p = none) : Gd A Z' ρ S' σ H' := g.step' ⟨k, keep, fz, tx, lz, cl, nF, nM⟩
theorem rdUpd {H : Hp} {p q : Addr} {o u : HO} (h : Rd H p o) (hq : H q = none) : Rd (upd H q u) p o := by
  have ne : p ≠ q := fun e => by
    rw [e] at h
    exact Rd.lt h hq
  rcases h with h | ⟨w, h⟩
  · exact .inl (by rw [upd_ne ne]; exact h)
  · exact .inr ⟨w, by rw [upd_ne ne]; exact h⟩
theorem Cells.upd {Z : Zw} {ca : Nat → Addr} {S : Sto} {H : Hp} {q : Addr} {u : HO} (c : Cells Z ca S H) (hq : H q = none) : Cells Z ca S (upd H q u) :=
  ⟨c.len, c.nd, fun i x p h1 h2 => by
    obtain ⟨a, b⟩ := c.at_ i x p h1 h2
    have ne : p ≠ q := fun e => a.there (by rw [e]; exact hq)
    rw [upd_ne ne]
    exact ⟨a, b⟩⟩
/-- a new object is laid -/
theorem Gd.new (g : Gd A Z ρ S σ H) {q : Addr} {u : HO} (hq : H q = none) : Gd A Z ρ S σ (upd H q u) :=
  g.step .refl (fun p o h _ _ => by rw [upd_ne (ne_of_none h hq)]; exact h) (fun p o h => rdUpd (g.fz p o h) hq) (fun p o h ho => by rw [upd_ne (ne_of_none (g.tx p o h ho) hq)]; exact g.tx p o h ho) (fun p o h => let ⟨u, h1, h2⟩ := g.lz p o h; ⟨u, h1, by rw [upd_ne (ne_of_none h2 hq)]; exact h2⟩) (g.cl.upd hq) (fun p o h1 h2 => by rw [h2] at h1; cases h1) ⟨[], by simp, fun p hp => by cases hp⟩
/-- the world with one object more that stands fast -/
def Zw.fast (Z : Zw) (q : Addr) (u : HO) : Zw := { Z with F := upd Z.F q u }
theorem Zw.fast_le {q : Addr} {u : HO} (h : Z.F q = none) : Zle Z (Z.fast q u) := ⟨rfl, rfl, fun p o e => by
  show upd Z.F q u p = some o
  rw [upd_ne (ne_of_none e h)]
  exact e, fun _ _ e => e, fun _ _ e => e⟩
theorem Cells.fast {ca : Nat → Addr} {q : Addr} {u : HO} (c : Cells Z ca S H) (hf : Z.F q = none) (hm : q ∉ Z.m) : Cells (Z.fast q u) ca S H :=
  ⟨c.len, c.nd, fun i x p h1 h2 => by
    obtain ⟨a, b⟩ := c.at_ i x p h1 h2
    refine ⟨a.mono (Zw.fast_le hf), fun hd => ?_⟩
    show L2.upd Z.F q u p = none
    rw [upd_ne (fun e => hm (by rw [← e]; exact List.mem_of_getElem? h2))]
    exact b hd⟩
/-- a new object is laid and stands fast -/
theorem Gd.newFast (g : Gd A Z ρ S σ H) {q : Addr} {u : HO} (hq : H q = none) : Zle Z (Z.fast q u) ∧ Gd A (Z.fast q u) ρ S σ (upd H q u) := by
  have hf : Z.F q = none := by
    cases e : Z.F q with
    | none => rfl
    | some o => exact absurd hq (g.fthere e)
  refine ⟨Zw.fast_le hf, g.step (Zw.fast_le hf) (fun p o h _ _ => by rw [upd_ne (ne_of_none h hq)]; exact h) (fun p o h => ?_) (fun p o h ho => ?_) (fun p o h => let ⟨w, h1, h2⟩ := g.lz p o h; ⟨w, (Zw.fast_le hf).F _ _ h1, by rw [upd_ne (ne_of_none h2 hq)]; exact h2⟩) ((g.cl.upd hq).fast hf (fun hm => g.mthere hm hq)) (fun p o h1 h2 => ?_) ⟨[], by simp [Zw.fast], fun p hp => by cases hp⟩⟩
  · by_cases e : p = q
    · subst e
      have h' : L2.upd Z.F p u p = some o := h
      rw [upd_same] at h'
      cases h'
      exact .inl upd_same
    · have h' : L2.upd Z.F q u p = some o := h
      rw [upd_ne e] at h'
      exact rdUpd (g.fz p o h') hq
  · by_cases e : p = q
    · subst e
      have h' : L2.upd Z.F p u p = some o := h
      rw [upd_same] at h'
      cases h'
      exact upd_same
    · have h' : L2.upd Z.F q u p = some o := h
      rw [upd_ne e] at h'
      rw [upd_ne e]
      exact g.tx p o h' ho
  · by_cases e : p = q
    · subst e
      exact hq
    · have h' : L2.upd Z.F q u p = some o := h1
      rw [upd_ne e, h2] at h'
      cases h'
/-- a list or dict that nothing else holds -/
structure NewB (A : Act) (Z : Zw) (ρ : Frame) (σ : St) (H : Hp) (d : D) (v : V) (p : Addr) (o : HO) : Prop where
  ev : v = .ref p
  bx : BoxO Z d o
  hp : H p = some o
  nf : Z.F p = none
  nm : p ∉ Z.m
  n0 : A.H0 p = none
  no : ∀ i, ¬ OwnAt ρ σ i p
def Res1 (A : Act) (Z : Zw) (ρ : Frame) (σ : St) (H : Hp) (fr : Bool) (d : D) (v : V) : Prop := if (fr && isBox d) = true then ∃ p o, NewB A Z ρ σ H d v p o else RelD Z d v
theorem BoxO.rel {d : D} {o : HO} {p : Addr} (b : BoxO Z d o) (h : Z.F p = some o) : RelD Z d (.ref p) := by
  cases b with
  | lst r => exact .lst h r
  | dk hl r => exact .dk h hl r
  | dt hl r => exact .dt h hl r
/-- it stands fast from now on -/
theorem NewB.thaw {d : D} {v : V} {p : Addr} {o : HO} (g : Gd A Z ρ S σ H) (n : NewB A Z ρ σ H d v p o) : Zle Z (Z.fast p o) ∧ Gd A (Z.fast p o) ρ S σ H ∧ RelD (Z.fast p o) d v := by
  have k : Zle Z (Z.fast p o) := Zw.fast_le n.nf
  refine ⟨k, ⟨g.kk, g.ff, fun q u h => ?_, fun q u h hu => ?_, fun q u h => let ⟨w, h1, h2⟩ := g.lz q u h; ⟨w, k.F _ _ h1, h2⟩, g.cl.fast n.nf n.nm, g.len, fun i s w h1 h2 => ?_, g.od, g.o0, g.ent, fun q u h1 h2 => ?_, g.nm, fun q u h => k.F _ _ (g.f0 q u h)⟩, ?_⟩
  · have h' : upd Z.F p o q = some u := h
    by_cases e : q = p
    · subst e
      rw [upd_same] at h'
      cases h'
      exact .inl n.hp
    · rw [upd_ne e] at h'
      exact g.fz q u h'
  · have h' : upd Z.F p o q = some u := h
    by_cases e : q = p
    · subst e
      rw [upd_same] at h'
      cases h'
      exact n.hp
    · rw [upd_ne e] at h'
      exact g.tx q u h' hu
  · have q := g.sl i s w h1 h2
    cases s with
    | no => trivial
    | val d =>
      obtain ⟨x, e, rx⟩ := q
      exact ⟨x, e, rx.mono k⟩
    | own d =>
      obtain ⟨q, u, e, b, rd, nf, nm⟩ := q
      refine ⟨q, u, e, b.mono k, rd, ?_, nm⟩
      show upd Z.F p o q = none
      rw [upd_ne (fun z => n.no i ⟨⟨_, h1⟩, by rw [h2, e, z]⟩)]
      exact nf
  · have h' : upd Z.F p o q = some u := h1
    by_cases e : q = p
    · rw [e]
      exact n.n0
    · rw [upd_ne e] at h'
      exact g.nf q u h' h2
  · rw [n.ev]
    exact (n.bx.mono k).rel (show upd Z.F p o p = some o from upd_same)
theorem Res1.thaw {fr : Bool} {d : D} {v : V} (g : Gd A Z ρ S σ H) (r : Res1 A Z ρ σ H fr d v) : ∃ Z', Zle Z Z' ∧ Gd A Z' ρ S σ H ∧ RelD Z' d v := by
  unfold Res1 at r
  by_cases e : (fr && isBox d) = true
  · rw [if_pos e] at r
    obtain ⟨p, o, n⟩ := r
    exact ⟨_, n.thaw g⟩
  · rw [if_neg e] at r
    exact ⟨Z, .refl, g, r⟩
theorem Res1.of {fr : Bool} {d : D} {v : V} (r : RelD Z d v) (h : (fr && isBox d) = false) : Res1 A Z ρ σ H fr d v := by
  unfold Res1
  rw [if_neg (by rw [h]; exact Bool.false_ne_true)]
  exact r
theorem Res1.box {fr : Bool} {d : D} {p : Addr} {o : HO} (g : Gd A Z ρ S σ H) (hf : fr = true) (b : BoxO Z d o) (hq : H p = none) : Gd A Z ρ S σ (upd H p o) ∧ Res1 A Z ρ σ (upd H p o) fr d (.ref p) := by
  refine ⟨g.new hq, ?_⟩
  have hb : isBox d = true := by cases b <;> rfl
  unfold Res1
  rw [if_pos (by rw [hf, hb] <;> rfl)]
  refine ⟨p, o, rfl, b, upd_same, ?_, fun hm => g.mthere hm hq, g.h0 hq, fun i ⟨⟨d, h1⟩, h2⟩ => ?_⟩
  · cases e : Z.F p with
    | none => rfl
    | some u => exact absurd hq (g.fthere e)
  · obtain ⟨p', o', e', _, rd, _⟩ := g.sl i _ _ h1 h2
    cases e'
    rw [hq] at rd
    cases rd

/-! ### what is wanted behind a part of the program -/
def post {α : Type} (A : Act) (W : WX) (σ : St) (Z : Zw) (ρ : Frame) (r : Res α) (k : Zw → Sto → Hp → α → Prop) : Prop := match r with
  | .ok a S' => ∀ Z' H', Zle Z Z' → Gd A Z' ρ S' σ H' → k Z' S' H' a
  | .exc c S' => ∀ Z' H', Zle Z Z' → Gd A Z' ρ S' σ H' → W (.ref (A.xa c)) none σ H'
  | .stuck => False
theorem post.mono {α : Type} {W : WX} {r : Res α} {k : Zw → Sto → Hp → α → Prop} (h : post A W σ Z ρ r k) (z : Zle Z Z1) : post A W σ Z1 ρ r k := by
  cases r with
  | ok a S => exact fun Z' H' z' g => h Z' H' (z.trans z') g
  | exc c S => exact fun Z' H' z' g => h Z' H' (z.trans z') g
  | stuck => exact h
theorem post.imp {α : Type} {W : WX} {r : Res α} {k k' : Zw → Sto → Hp → α → Prop} (h : post A W σ Z ρ r k) (f : ∀ Z' S' H' a, Zle Z Z' → Gd A Z' ρ S' σ H' → k Z' S' H' a → k' Z' S' H' a) : post A W σ Z ρ r k' := by
  cases r with
  | ok a S => exact fun Z' H' z' g => f _ _ _ _ z' g (h Z' H' z' g)
  | exc c S => exact h
  | stuck => exact h
theorem post.bind {α β : Type} {W : WX} {r : Res α} {f : α → Sto → Res β} {k : Zw → Sto → Hp → β → Prop} (h : post A W σ Z ρ (r.bind f) k) :
    post A W σ Z ρ r fun Z' S' H' a => post A W σ Z' ρ (f a S') k := by
  cases r with
  | ok a S => exact fun Z' H' z' g => post.mono (r := f a S) h z'
  | exc c S => exact h
  | stuck => exact h
theorem post.ok {α : Type} {W : WX} {a : α} {k : Zw → Sto → Hp → α → Prop} (h : post A W σ Z ρ (.ok a S) k) (g : Gd A Z ρ S σ H) : k Z S H a := h Z H .refl g
theorem post.of {α : Type} {W : WX} {o : Option α} {k : Zw → Sto → Hp → α → Prop} (h : post A W σ Z ρ (Res.of o S) k) : ∃ a, o = some a ∧ post A W σ Z ρ (.ok a S) k := by
  cases o with
  | none => exact h.elim
  | some a => exact ⟨a, rfl, h⟩
end
section
variable {C : Ev} {ρ : Frame} {S : Sto}
theorem evE_var {i : Nat} : evE C (.var i) ρ S = (match ρ[i]? with
    | some (.val d) => .ok d S
    | _ => .stuck) := by rw [evE] <;> rfl
theorem evE_const {d : D} : evE C (.const d) ρ S = (.ok d S) := by rw [evE] <;> rfl
theorem evE_bin {op : Operator} {a b : E} : evE C (.bin op a b) ρ S = ((raw ρ a (evE C a ρ S) S).bind fun x S => (raw ρ b (evE C b ρ S) S).bind fun y S => Res.of (binD op (x.look S) (y.look S)) S) := by rw [evE] <;> rfl
theorem evE_neg {a : E} : evE C (.neg a) ρ S = ((evE C a ρ S).bind fun x S => match x with
    | .int i => .ok (.int (-i)) S
    | _ => .stuck) := by rw [evE] <;> rfl
theorem evE_cmp {op : CmpOp} {a b : E} : evE C (.cmp op a b) ρ S = ((raw ρ a (evE C a ρ S) S).bind fun x S => (raw ρ b (evE C b ρ S) S).bind fun y S => Res.of ((cmpD op (x.look S) (y.look S)).map .bl) S) := by rw [evE] <;> rfl
theorem evE_chain {o p : CmpOp} {a b c : E} : evE C (.chain o p a b c) ρ S = ((evE C a ρ S).bind fun x S => (evE C b ρ S).bind fun y S => match cmpD o x y with
    | some true => (evE C c ρ S).bind fun z S => Res.of ((cmpD p y z).map .bl) S
    | some false => .ok (.bl false) S
    | none => .stuck) := by rw [evE] <;> rfl
theorem evE_and {a b : E} : evE C (.and a b) ρ S = ((evE C a ρ S).bind fun x S => match truD (x.look S) with
    | some true => evE C b ρ S
    | some false => .ok x S
    | none => .stuck) := by rw [evE] <;> rfl
theorem evE_or {a b : E} : evE C (.or a b) ρ S = ((evE C a ρ S).bind fun x S => match truD (x.look S) with
    | some true => .ok x S
    | some false => evE C b ρ S
    | none => .stuck) := by rw [evE] <;> rfl
theorem evE_not {a : E} : evE C (.not a) ρ S = ((rdv ρ a (evE C a ρ S) S).bind fun x S => match truD x with
    | some b => .ok (.bl (!b)) S
    | none => .stuck) := by rw [evE] <;> rfl
theorem evE_ite {c a b : E} : evE C (.ite c a b) ρ S = ((rdv ρ c (evE C c ρ S) S).bind fun x S => match truD x with
    | some true => evE C a ρ S
    | some false => evE C b ρ S
    | none => .stuck) := by rw [evE] <;> rfl
theorem evE_tup {es : List E} : evE C (.tup es) ρ S = ((evEs C es ρ S).bind fun xs S => if decide (xs.length ≤ szB) then .ok (.tup xs) S else .stuck) := by rw [evE] <;> rfl
theorem evE_lst {es : List E} : evE C (.lst es) ρ S = ((evEs C es ρ S).bind fun xs S => if decide (xs.length ≤ szB) then .ok (.lst xs) S else .stuck) := by rw [evE] <;> rfl
theorem evE_dct {t : Bool} {ks vs : List E} : evE C (.dct t ks vs) ρ S = ((evEs C ks ρ S).bind fun ks S => (evEs C vs ρ S).bind fun vs S => match t with
    | true => (match ks, vs with
      | [], [] => .ok (.dt [] []) S
      | _, _ => .stuck)
    | false => match keysD ks with
      | some ks => .ok (.dk ks vs) S
      | none => .stuck) := by rw [evE] <;> rfl
theorem evE_idx {a i : E} : evE C (.idx a i) ρ S = ((raw ρ a (evE C a ρ S) S).bind fun x S => (evE C i ρ S).bind fun y S => Res.of (idxD (x.look S) y) S) := by rw [evE] <;> rfl
theorem evE_slc {a : E} {lo hi : Option E} : evE C (.slc a lo hi) ρ S = ((raw ρ a (evE C a ρ S) S).bind fun x S => (evO C lo ρ S).bind fun l S => (evO C hi ρ S).bind fun h S => Res.of (slcD (x.look S) l h) S) := by rw [evE] <;> rfl
theorem evE_srev {a : E} : evE C (.srev a) ρ S = ((rdv ρ a (evE C a ρ S) S).bind fun x S => match x with
    | .lst xs => .ok (.lst xs.reverse) S
    | _ => .stuck) := by rw [evE] <;> rfl
theorem evE_call {f : Nat} {es : List E} {dd : List D} : evE C (.call f es dd) ρ S = (calmly C <| (evEs C es ρ S).bind fun xs S => C.call f (xs ++ dd) S) := by rw [evE] <;> rfl
theorem evE_callv {f : E} {es : List E} : evE C (.callv f es) ρ S = (calmly C <| (evE C f ρ S).bind fun g S => (evEs C es ρ S).bind fun xs S => match g with
    | .fn i => if D.pures xs then purely (C.call i xs []) S else .stuck
    | _ => .stuck) := by rw [evE] <;> rfl
theorem evE_new {c : Nat} {es : List E} {dd : List D} : evE C (.new c es dd) ρ S = (calmly C <| (evEs C es ρ S).bind fun xs S => match (C.tb.clss[c]?).bind fun k => k.meths.lookup ("__init__" : Str) with
    | some f => (C.call f (.ref S.length :: (xs ++ dd)) (S ++ [.ins c []])).bind fun r S' => match r with
      | .non => .ok (.ref S.length) S'
      | _ => .stuck
    | none => .stuck) := by rw [evE] <;> rfl
theorem evE_meth {o : E} {m : Str} {es : List E} {dd : List D} {fr : Bool} : evE C (.meth o m es dd fr) ρ S = (calmly C <| (evE C o ρ S).bind fun x S => match x with
    | .ref i => (match S[i]? with
      | some (.ins c fs) => (match (C.tb.clss[c]?).bind fun k => k.meths.lookup m with
        | some f => if (fr && !((C.tb.fns[f]?).any (·.fr))) || (lookF m fs).isSome then .stuck else (evEs C es ρ S).bind fun xs S => C.call f (.ref i :: (xs ++ dd)) S
        | none => .stuck)
      | _ => .stuck)
    | _ => .stuck) := by rw [evE] <;> rfl
theorem evE_fld {o : E} {f : Str} : evE C (.fld o f) ρ S = ((evE C o ρ S).bind fun x S => match x with
    | .ref i => (match S[i]? with
      | some (.ins c fs) => if (C.tb.clss[c]?).any (fun k => k.flds.contains f) then Res.of (lookF f fs) S else .stuck
      | _ => .stuck)
    | _ => .stuck) := by rw [evE] <;> rfl
theorem evE_blt {f : Bf} {es : List E} : evE C (.blt f es) ρ S = (calmly C <| (evRs C es ρ S).bind fun xs S => Res.of (bltD f (xs.map (D.look S))) S) := by rw [evE] <;> rfl
theorem evE_mt {m : Mt} {o : E} {es : List E} : evE C (.mt m o es) ρ S = (calmly C <| (raw ρ o (evE C o ρ S) S).bind fun x S => (evRs C es ρ S).bind fun xs S => Res.of (mtD m (x.look S) (xs.map (D.look S))) S) := by rw [evE] <;> rfl
theorem evE_mm {m : Mm} {o : E} {es : List E} : evE C (.mm m o es) ρ S = (calmly C <| (evE C o ρ S).bind fun x S => match x with
    | .ref i => if mmK m (D.look S (.ref i)) then (if heldM m then evEs C es ρ S else (evRs C es ρ S).bind fun xs S => .ok (xs.map (D.look S)) S).bind fun xs S => (match mmD m (D.look S (.ref i)) xs with
      | some (d, r) => (match cellOf d with
        | some c => .ok r (S.set i c)
        | none => .stuck)
      | none => .stuck) else .stuck
    | _ => .stuck) := by rw [evE] <;> rfl
theorem evE_comp {elt : E} {t : Tgt} {own : List Nat} {it : E} {ifs : List E} : evE C (.comp elt t own it ifs) ρ S = (calmly C <| (raw ρ it (evE C it ρ S) S).bind fun x S => match itemsD (x.look S) with
    | some xs => if decide (xs.length ≤ szB) && ownOk ρ t own then calm1 ((compL (fun d S' => guardS x S (match bindT t d (wipeF ρ own) with
        | some ρ' => (evIf C ifs ρ' S').bind fun b S' => match b with
          | true => (evE C elt ρ' S').bind fun y S' => .ok (some y) S'
          | false => .ok none S'
        | none => .stuck)) xs S).bind fun ys S => .ok (.lst ys) S) else .stuck
    | none => .stuck) := by rw [evE] <;> rfl
theorem evE_cell {e : E} : evE C (.cell e) ρ S = ((evE C e ρ S).bind fun d S => match cellOf d with
    | some c => .ok (.ref S.length) (S ++ [c])
    | none => .stuck) := by rw [evE] <;> rfl
theorem evE_unc {e : E} : evE C (.unc e) ρ S = ((evE C e ρ S).bind fun d S => match d with
    | .ref i => (match D.look S (.ref i) with
      | .ref _ => .stuck
      | d => .ok d (S.set i .dead))
    | _ => .stuck) := by rw [evE] <;> rfl
theorem evE_rng {es : List E} : evE C (.rng es) ρ S = ((evEs C es ρ S).bind fun xs S => Res.of ((rngD xs).map .lst) S) := by rw [evE] <;> rfl
theorem evE_enm {e : E} : evE C (.enm e) ρ S = ((evE C e ρ S).bind fun x S => match x with
    | .lst xs => .ok (.lst (enumL 0 xs)) S
    | _ => .stuck) := by rw [evE] <;> rfl
theorem evE_itm {e : E} : evE C (.itm e) ρ S = ((evE C e ρ S).bind fun x S => match x with
    | .dk ks vs => .ok (.lst (itmL ks vs)) S
    | _ => .stuck) := by rw [evE] <;> rfl
theorem evE_rev {e : E} : evE C (.rev e) ρ S = ((evE C e ρ S).bind fun x S => match x with
    | .lst xs => .ok (.lst xs.reverse) S
    | _ => .stuck) := by rw [evE] <;> rfl
end
/-- an expression's reading: what the interpreter says of it -/
def tE (A : Act) (C : Ev) (W : WX) (e : E) : TE := fun σ H Q => ∃ Z ρ S, Gd A Z ρ S σ H ∧ post A W σ Z ρ (evE C e ρ S) fun Z' S' H' d => ∀ v, Res1 A Z' ρ σ H' (isFresh C.tb e) d v → Q v H'
/-- the same, its value held -/
def tV (A : Act) (C : Ev) (W : WX) (e : E) : TE := fun σ H Q => ∃ Z ρ S, Gd A Z ρ S σ H ∧ post A W σ Z ρ (evE C e ρ S) fun Z' S' H' d => ∀ v, RelD Z' d v → Q v H'
/-- an operand -/
def tR (A : Act) (C : Ev) (W : WX) (e : E) : TE := fun σ H Q => ∃ Z ρ S, Gd A Z ρ S σ H ∧ post A W σ Z ρ (raw ρ e (evE C e ρ S) S) fun Z' S' H' d => ∀ v, Raw Z' ρ σ d v → Q v H'
theorem peImp {X : Cx} {e : Expr} {t t' : TE} (h : PE X e t) (f : ∀ σ H Q, t' σ H Q → t σ H Q) : PE X e t' := ⟨fun pins s σ H Q I q => h.run pins s σ H Q I (f σ H Q q)⟩
theorem paImp {X : Cx} {es : List Expr} {t t' : TA} (h : PA X es t) (f : ∀ σ H Q, t' σ H Q → t σ H Q) : PA X es t' := ⟨fun pos pins s σ H Q I q => h.run pos pins s σ H Q I (f σ H Q q)⟩
section
variable {X : Cx} {A : Act} {C : Ev} {W : WX} {e : Expr} {i : E}
theorem tE_tV {σ : St} {H : Hp} {Q : VK} (h : tV A C W i σ H Q) : ∃ Z ρ S, Gd A Z ρ S σ H ∧ post A W σ Z ρ (evE C i ρ S) fun Z' S' H' d => ∀ v, RelD Z' d v → Q v H' := h
/-- held: a new list stands fast -/
theorem peHeld (h : PE X e (tE A C W i)) : PE X e (tV A C W i) := peImp h fun σ H Q ⟨Z, ρ, S, g, p⟩ => by
  refine ⟨Z, ρ, S, g, ?_⟩
  revert p
  cases evE C i ρ S with
  | ok d S' =>
    intro p Z' H' z' g' v r
    obtain ⟨Z2, z2, g2, r2⟩ := r.thaw g'
    exact p Z2 H' (z'.trans z2) g2 v r2
  | exc c S' => exact id
  | stuck => exact id
end
end MP

set_option maxRecDepth 100000
set_option maxHeartbeats 4000000
/-! MiniPy: expressions, by the hand layer's rules. -/
namespace MP
open PySem PySem.Spec L2
open PyProof.Rows hiding St
section
variable {X : Cx} {A : Act} {C : Ev} {W : WX} {Z Z' Z1 : Zw} {ρ : Frame} {S S' : Sto} {σ : St} {H H' : Hp}
theorem szB_eq : szB = sizeLine := by rw [sizeLine_eq] <;> rfl
mutual
theorem relD_dp {K : PySem.W.Frag} (fz : ∀ p o, Z.F p = some o → Rd H p o) : ∀ {d : D} {v : V} {q : PyData}, RelD Z d v → d.py = some q → Dp K H v q
  | _, _, _, .non, e => by cases e; exact .non
  | _, _, _, .bl b, e => by cases e; exact .bl b
  | _, _, _, .int i, e => by cases e; exact .int i
  | _, _, _, .str x h, e => by cases e; exact .str x
  | _, _, _, @RelD.tup _ p xs vs h r, e => by
    have e2 : (D.pys xs).map PyData.tuple = some _ := e
    obtain ⟨qs, h1, h2⟩ := Option.map_eq_some_iff.mp e2
    subst h2
    exact .tup (.inl (fz _ _ h)) (relDs_dp fz r h1)
  | _, _, _, @RelD.lst _ p xs vs h r, e => by
    have e2 : (D.pys xs).map PyData.list = some _ := e
    obtain ⟨qs, h1, h2⟩ := Option.map_eq_some_iff.mp e2
    subst h2
    exact .lst (.inl (fz _ _ h)) (relDs_dp fz r h1)
  | _, _, _, .dk h hl r, e => by cases e
  | _, _, _, .dt h hl r, e => by cases e
  | _, _, _, .ref h, e => by cases e
  | _, _, _, .fn i, e => by cases e
theorem relDs_dp {K : PySem.W.Frag} (fz : ∀ p o, Z.F p = some o → Rd H p o) : ∀ {ds : List D} {vs : List V} {qs : List PyData}, RelDs Z ds vs → D.pys ds = some qs → DpAll K H vs qs
  | _, _, _, .nil, e => by cases e; exact .nil
  | _, _, _, @RelDs.cons _ d v ds vs h t, e => by
    have e2 : (match d.py, D.pys ds with | some p, some ps => some (p :: ps) | _, _ => none) = some _ := e
    cases e3 : d.py with
    | none => rw [e3] at e2; cases e2
    | some p =>
      cases e4 : D.pys ds with
      | none => rw [e3, e4] at e2; cases e2
      | some ps =>
        rw [e3, e4] at e2
        cases e2
        exact .cons (relD_dp fz h e3) (relDs_dp fz t e4)
end
theorem rdR_dp {K : PySem.W.Frag} (fz : ∀ p o, Z.F p = some o → Rd H p o) {d : D} {v : V} {q : PyData} (h : RdR Z H d v) (e : d.py = some q) : Dp K H v q := by
  cases h with
  | rel r => exact relD_dp fz r e
  | box b hr =>
    cases b with
    | @lst xs vs r =>
      have e2 : (D.pys xs).map PyData.list = some q := e
      obtain ⟨qs, h1, h2⟩ := Option.map_eq_some_iff.mp e2
      subst h2
      exact .lst (.inl hr) (relDs_dp fz r h1)
    | dk hl r => cases e
    | dt hl r => cases e
theorem rdR_lst {K : PySem.W.Frag} (fz : ∀ p o, Z.F p = some o → Rd H p o) {xs : List D} {v : V} (h : RdR Z H (.lst xs) v) : ∃ p vs, v = .ref p ∧ Rd H p (.lst vs) ∧ RelDs Z xs vs := by
  cases h with
  | rel r =>
    cases r with
    | lst h r => exact ⟨_, _, rfl, fz _ _ h, r⟩
  | box b hr =>
    cases b with
    | lst r => exact ⟨_, _, rfl, hr, r⟩
theorem rdR_tup {K : PySem.W.Frag} (fz : ∀ p o, Z.F p = some o → Rd H p o) {xs : List D} {v : V} (h : RdR Z H (.tup xs) v) : ∃ p vs, v = .ref p ∧ Rd H p (.tup vs) ∧ RelDs Z xs vs := by
  cases h with
  | rel r =>
    cases r with
    | tup h r => exact ⟨_, _, rfl, fz _ _ h, r⟩
  | box b hr => cases b
theorem rdR_int {i : Int} {v : V} (h : RdR Z H (.int i) v) : v = .int i := by
  cases h with
  | rel r => cases r; rfl
  | box b hr => cases b
theorem rdR_bl {i : Bool} {v : V} (h : RdR Z H (.bl i) v) : v = .bl i := by
  cases h with
  | rel r => cases r; rfl
  | box b hr => cases b
theorem rdR_non {v : V} (h : RdR Z H .non v) : v = .non := by
  cases h with
  | rel r => cases r; rfl
  | box b hr => cases b
theorem rdR_str {x : Str} {v : V} (h : RdR Z H (.str x) v) : v = .str x ∧ x.length ≤ sizeLine := by
  cases h with
  | rel r => cases r with | str x h => exact ⟨rfl, h⟩
  | box b hr => cases b
theorem rdR_dk (fz : ∀ p o, Z.F p = some o → Rd H p o) {ks : List Key} {xs : List D} {v : V} (h : RdR Z H (.dk ks xs) v) : ∃ p vs, v = .ref p ∧ Rd H p (.dK (ks.zip vs)) ∧ ks.length = vs.length ∧ RelDs Z xs vs := by
  cases h with
  | rel r =>
    cases r with
    | dk h hl r => exact ⟨_, _, rfl, fz _ _ h, hl, r⟩
  | box b hr =>
    cases b with
    | dk hl r => exact ⟨_, _, rfl, hr, hl, r⟩
/-- a value that was made: v, behind it H' -/
def Made (Z : Zw) (H : Hp) (d : D) (v : V) (H' : Hp) : Prop :=
  (isBox d = false ∧ RelD Z d v ∧ H' = H) ∨ (∃ p o, v = .ref p ∧ BoxO Z d o ∧ H p = none ∧ H' = upd H p o) ∨ ∃ p xs vs, d = .tup xs ∧ v = .ref p ∧ RelDs Z xs vs ∧ H p = none ∧ H' = upd H p (.tup vs)
theorem Made.res {fr : Bool} {d : D} {v : V} (g : Gd A Z ρ S σ H) (h : Made Z H d v H') (hf : isBox d = true → fr = true) : ∃ Z', Zle Z Z' ∧ Gd A Z' ρ S σ H' ∧ Res1 A Z' ρ σ H' fr d v := by
  rcases h with ⟨e, r, rfl⟩ | ⟨p, o, rfl, b, hp, rfl⟩ | ⟨p, xs, vs, rfl, rfl, r, hp, rfl⟩
  · exact ⟨Z, .refl, g, .of r (by rw [e, Bool.and_false])⟩
  · have hb : isBox d = true := by cases b <;> rfl
    obtain ⟨g1, r1⟩ := Res1.box g (hf hb) b hp
    exact ⟨Z, .refl, g1, r1⟩
  · obtain ⟨k, g1⟩ := g.newFast (u := .tup vs) hp
    refine ⟨_, k, g1, .of (.tup (show upd Z.F p (.tup vs) p = some _ from upd_same) (r.mono k)) (by simp [isBox])⟩
/-- the rule of an operation that makes a value out of two that are read -/
def rTwo (K : PySem.W.Frag) (f : D → D → Option D) : R2 := fun x y H Q => ∃ Z dx dy d, (∀ p o, Z.F p = some o → Rd H p o) ∧ RdR Z H dx x ∧ RdR Z H dy y ∧ f dx dy = some d ∧ ∀ v H', Made Z H d v H' → Q v H'
theorem lstRd {X : Cx} {pins : List (Addr × Obj)} {σ : St} {H : Hp} {s : Shared} {l : Addr} {xs : List V} (I : Inv X pins σ H s) (hH : Rd H l (.lst xs)) : xs.length ≤ sizeLine ∧ ∃ (its : List Value) (n : Nat), Vals xs its ∧ xs.length = its.length ∧ s.heap.get? l = some { cls := .type "list", data := .seq its.toArray n } := by
  obtain ⟨z, its, n, r, e⟩ := hH.ok I.hok
  exact ⟨z, its, n, r, r.length, e⟩
theorem op_catRd : OpR X (binaryOp .Add) (fun x y H Q => ∃ l b xs zs, x = .ref l ∧ y = .ref b ∧ Rd H l (.lst xs) ∧ Rd H b (.lst zs) ∧ xs.length + zs.length ≤ sizeLine ∧ ∀ p, H p = none → Q (.ref p) (upd H p (.lst (xs ++ zs)))) := by
  intro pins s σ H x y v u Q I rx ry h
  obtain ⟨l, b, xs, zs, rfl, rfl, hH, hB, hz, q⟩ := h
  cases rx
  cases ry
  obtain ⟨z, its, n, r, hl, e⟩ := lstRd I hH
  obtain ⟨z2, its2, n2, r2, hl2, e2⟩ := lstRd I hB
  refine PySem.P.add_list e e2 ?_ (by rw [List.size_toArray, List.size_toArray]; omega)
  have ea : its.toArray ++ its2.toArray = (its ++ its2).toArray := by simp
  rw [ea]
  exact ⟨.ref _, _, I.lnew (t' := s.toks) (r.append r2) (by rw [List.length_append]; omega), rfl, q _ I.fresh⟩
theorem made_int {i : Int} {Q : VK} (q : ∀ v H', Made Z H (.int i) v H' → Q v H') : Q (.int i) H := q _ _ (.inl ⟨rfl, .int i, rfl⟩)
theorem made_bl {i : Bool} {Q : VK} (q : ∀ v H', Made Z H (.bl i) v H' → Q v H') : Q (.bl i) H := q _ _ (.inl ⟨rfl, .bl i, rfl⟩)
theorem made_str {x : Str} {Q : VK} (hx : x.length ≤ sizeLine) (q : ∀ v H', Made Z H (.str x) v H' → Q v H') : Q (.str x) H := q _ _ (.inl ⟨rfl, .str x hx, rfl⟩)
theorem mulOk_of {i j : Int} (h : mulOk i j = true) : CMul i j := by
  unfold mulOk at h
  simp only [Bool.or_eq_true, Bool.and_eq_true, decide_eq_true_eq] at h
  exact h
theorem powOk_of {i j : Int} (h : powOk i j = true) : CPow i j := by
  unfold powOk at h
  simp only [Bool.and_eq_true, decide_eq_true_eq] at h
  exact ⟨h.1.1, h.1.2, h.2⟩
theorem op_int (op : Operator) : OpR X (binaryOp op) (fun x y H Q => ∃ i j k, x = .int i ∧ y = .int j ∧ intOp op i j = some k ∧ Q (.int k) H) := by
  intro pins s σ H x y v u Q I rx ry h
  obtain ⟨i, j, k, rfl, rfl, e, q⟩ := h
  unfold intOp at e
  cases op with
  | Add => cases e; exact op_add pins s σ H _ _ v u Q I rx ry ⟨i, j, rfl, rfl, q⟩
  | Sub => cases e; exact op_sub pins s σ H _ _ v u Q I rx ry ⟨i, j, rfl, rfl, q⟩
  | Mult =>
    dsimp only at e
    split at e
    · rename_i hm
      cases e
      exact op_mul pins s σ H _ _ v u Q I rx ry ⟨i, j, rfl, rfl, mulOk_of hm, q⟩
    · cases e
  | FloorDiv =>
    dsimp only at e
    split at e
    · rename_i hm
      cases e
      simp only [Bool.and_eq_true, decide_eq_true_eq] at hm
      exact op_fdiv pins s σ H _ _ v u Q I rx ry ⟨i, j, rfl, rfl, hm, q⟩
    · cases e
  | Mod =>
    dsimp only at e
    split at e
    · rename_i hm
      cases e
      exact op_mod pins s σ H _ _ v u Q I rx ry ⟨i, j, rfl, rfl, of_decide_eq_true hm, q⟩
    · cases e
  | Pow =>
    dsimp only at e
    split at e
    · rename_i hm
      cases e
      exact op_pow pins s σ H _ _ v u Q I rx ry ⟨i, j, rfl, rfl, powOk_of hm, q⟩
    · cases e
  | LShift =>
    dsimp only at e
    split at e
    · rename_i hm
      cases e
      exact op_shl pins s σ H _ _ v u Q I rx ry ⟨i, j, rfl, rfl, powOk_of hm, q⟩
    · cases e
  | RShift =>
    dsimp only at e
    split at e
    · rename_i hm
      cases e
      exact op_shr pins s σ H _ _ v u Q I rx ry ⟨i, j, rfl, rfl, of_decide_eq_true hm, q⟩
    · cases e
  | BitAnd => cases e; exact op_and pins s σ H _ _ v u Q I rx ry ⟨i, j, rfl, rfl, q⟩
  | BitOr => cases e; exact op_or pins s σ H _ _ v u Q I rx ry ⟨i, j, rfl, rfl, q⟩
  | BitXor => cases e; exact op_xor pins s σ H _ _ v u Q I rx ry ⟨i, j, rfl, rfl, q⟩
  | _ => cases e
theorem op_two (op : Operator) : OpR X (binaryOp op) (rTwo X.K (binD op)) := by
  intro pins s σ H x y v u Q I rx ry h
  obtain ⟨Z, dx, dy, d, fz, hx, hy, e, q⟩ := h
  unfold binD at e
  split at e
  · rename_i i j
    cases rdR_int hx
    cases rdR_int hy
    obtain ⟨k, hk, rfl⟩ := Option.map_eq_some_iff.mp e
    exact op_int op pins s σ H _ _ v u Q I rx ry ⟨i, j, k, rfl, rfl, hk, made_int q⟩
  · rename_i a b
    obtain ⟨rfl, ha⟩ := rdR_str hx
    obtain ⟨rfl, hb⟩ := rdR_str hy
    split at e
    · rename_i hc
      cases e
      simp only [Bool.and_eq_true, decide_eq_true_eq] at hc
      obtain ⟨rfl, hz⟩ := hc
      rw [szB_eq] at hz
      exact op_add_str pins s σ H _ _ v u Q I rx ry ⟨a, b, rfl, rfl, hz, made_str (by rw [Str.length_append]; exact hz) q⟩
    · cases e
  · rename_i xs ys
    obtain ⟨p, vs, rfl, hp, r1⟩ := rdR_lst (K := X.K) fz hx
    obtain ⟨p2, ws, rfl, hp2, r2⟩ := rdR_lst (K := X.K) fz hy
    split at e
    · rename_i hc
      cases e
      simp only [Bool.and_eq_true, decide_eq_true_eq] at hc
      obtain ⟨rfl, hz⟩ := hc
      rw [szB_eq, r1.length, r2.length] at hz
      exact op_catRd pins s σ H _ _ v u Q I rx ry ⟨p, p2, vs, ws, rfl, rfl, hp, hp2, hz, fun a ha => q _ _ (.inr (.inl ⟨a, _, rfl, .lst (r1.append r2), ha, rfl⟩))⟩
    · cases e
  · rename_i xs ys
    obtain ⟨p, vs, rfl, hp, r1⟩ := rdR_tup (K := X.K) fz hx
    obtain ⟨p2, ws, rfl, hp2, r2⟩ := rdR_tup (K := X.K) fz hy
    split at e
    · rename_i hc
      cases e
      simp only [Bool.and_eq_true, decide_eq_true_eq] at hc
      obtain ⟨⟨rfl, hz⟩, hne⟩ := hc
      rw [szB_eq, r1.length, r2.length] at hz
      refine op_catT pins s σ H _ _ v u Q I rx ry ⟨p, p2, vs, ws, rfl, rfl, .inl hp, .inl hp2, fun e => ?_, hz, fun e => ?_, fun _ a ha => q _ _ (.inr (.inr ⟨a, _, _, rfl, rfl, r1.append r2, ha, rfl⟩))⟩
      · subst e
        cases r1
        simp at hne
      · subst e
        cases r2
        rw [List.append_nil] at q
        refine q _ _ (.inl ⟨rfl, ?_, rfl⟩)
        cases hx with
        | rel r => exact r
        | box b hr => cases b
    · cases e
  · cases e
theorem peRaw {e : Expr} {i : E} (hi : ∀ k, i ≠ .var k) (h : PE X e (tV A C W i)) : PE X e (tR A C W i) := peImp h fun σ H Q ⟨Z, ρ, S, g, p⟩ => by
  have e1 : raw ρ i (evE C i ρ S) S = evE C i ρ S := by
    cases i <;> first
      | exact absurd rfl (hi _)
      | rfl
  rw [e1] at p
  exact ⟨Z, ρ, S, g, p.imp fun Z' S' H' d z g k v r => k v (.inl r)⟩
/-- a name's slot -/
theorem Gd.slot (g : Gd A Z ρ S σ H) {i : Nat} {s : Slot} (h : ρ[i]? = some s) : ∃ v, σ[i]? = some v ∧ SlotOk Z H s v := by
  have hi : i < σ.length := by
    rw [← g.len]
    exact (List.getElem?_eq_some_iff.mp h).1
  exact ⟨σ[i], List.getElem?_eq_getElem hi, g.sl i s _ h (List.getElem?_eq_getElem hi)⟩
theorem s_var {i : Nat} {x : Str} {pos : Pos} (hN : X.N[i]? = some x) (hv : Vis X.env.scope x) (hd : (x == ("__debug__" : Str)) = false) (hcd : (x == ("__classdict__" : Str)) = false) : PE X (.Name x pos) (tE A C W (.var i)) :=
  peImp (pe_var (pos := pos) hN hv hd hcd) fun σ H Q ⟨Z, ρ, S, g, p⟩ => by
    rw [evE_var] at p
    split at p
    · rename_i d h
      obtain ⟨v, e, x, rfl, r⟩ := g.slot h
      exact ⟨x, e, p.ok g x (.of r (by simp [isFresh]))⟩
    · exact p.elim
theorem s_rvar {i : Nat} {x : Str} {pos : Pos} (hN : X.N[i]? = some x) (hv : Vis X.env.scope x) (hd : (x == ("__debug__" : Str)) = false) (hcd : (x == ("__classdict__" : Str)) = false) : PE X (.Name x pos) (tR A C W (.var i)) :=
  peImp (pe_var (pos := pos) hN hv hd hcd) fun σ H Q ⟨Z, ρ, S, g, p⟩ => by
    unfold raw at p
    dsimp only at p
    split at p
    · rename_i d h
      obtain ⟨v, e, q, o, rfl, _⟩ := g.slot h
      exact ⟨_, e, p.ok g _ (.inr ⟨i, h, e⟩)⟩
    · rename_i d h
      obtain ⟨v, e, x, rfl, r⟩ := g.slot h
      exact ⟨x, e, p.ok g x (.inl r)⟩
    · exact p.elim
theorem s_int {i j pos} : PE X (.Constant (.int i) j pos) (tE A C W (.const (.int i))) := peImp pe_int fun σ H Q ⟨Z, ρ, S, g, p⟩ => p.ok g _ (.of (.int i) (by simp [isFresh]))
theorem s_bl {b j pos} : PE X (.Constant (.bool b) j pos) (tE A C W (.const (.bl b))) := peImp pe_bl fun σ H Q ⟨Z, ρ, S, g, p⟩ => p.ok g _ (.of (.bl b) (by simp [isFresh]))
theorem s_non {j pos} : PE X (.Constant .none j pos) (tE A C W (.const .non)) := peImp pe_non fun σ H Q ⟨Z, ρ, S, g, p⟩ => p.ok g _ (.of .non (by simp [isFresh]))
theorem s_str {x j pos} (hx : x.length ≤ szB) : PE X (.Constant (.str x) j pos) (tE A C W (.const (.str x))) := peImp pe_str fun σ H Q ⟨Z, ρ, S, g, p⟩ => p.ok g _ (.of (.str x (by rw [← szB_eq]; exact hx)) (by simp [isFresh]))
theorem s_bin {op : Operator} {a b : Expr} {ia ib : E} {pos : Pos} (ha : PE X a (tR A C W ia)) (hb : PE X b (tR A C W ib)) : PE X (.BinOp a op b pos) (tE A C W (.bin op ia ib)) :=
  peImp (pe_op (pos := pos) (op_two op) ha hb) fun σ H Q ⟨Z, ρ, S, g, p⟩ => by
    rw [evE_bin] at p
    refine ⟨Z, ρ, S, g, p.bind.imp fun Z1 S1 H1 dx z1 g1 p1 x rx => ⟨Z1, ρ, S1, g1, p1.bind.imp fun Z2 S2 H2 dy z2 g2 p2 y ry => ?_⟩⟩
    obtain ⟨d, e, p3⟩ := p2.of
    refine ⟨Z2, _, _, d, g2.fz, g2.look (rx.mono z2), g2.look ry, e, fun v H' hm => ?_⟩
    obtain ⟨Z3, z3, g3, r3⟩ := hm.res (fr := true) g2 (fun _ => rfl)
    exact p3 Z3 H' z3 g3 v r3
end
end MP

set_option maxRecDepth 100000
set_option maxHeartbeats 4000000
/-! MiniPy: comparisons, truth, displays, subscripts. -/
namespace MP
open PySem PySem.Spec L2
open PyProof.Rows hiding St
section
variable {X : Cx} {A : Act} {C : Ev} {W : WX} {Z Z' Z1 : Zw} {ρ : Frame} {S S' : Sto} {σ : St} {H H' : Hp}
theorem rdR_of_rel {d : D} {v : V} (r : RelD Z d v) : RdR Z H d v := .rel r
theorem eqP_dp {K : PySem.W.Frag} (fz : ∀ p o, Z.F p = some o → Rd H p o) {dx dy : D} {x y : V} {b : Bool} (hx : RdR Z H dx x) (hy : RdR Z H dy y) (e : eqP dx dy = some b) :
    ∃ p q, Dp K H x p ∧ Dp K H y q ∧ SeqAt.shaped p = true ∧ SeqAt.shaped q = true ∧ b = PyData.eqv p q := by
  unfold eqP at e
  split at e
  · rename_i p q e1 e2
    split at e
    · rename_i hs
      cases e
      have h2 := Bool.and_eq_true_iff.mp hs
      exact ⟨p, q, rdR_dp fz hx e1, rdR_dp fz hy e2, h2.1, h2.2, rfl⟩
    · cases e
  · cases e
theorem op_eqAll (hu : X.A.units + 65 < cLine) : OpR X (compareOp .Eq) (rTwo X.K (fun x y => (eqD x y).map .bl)) := by
  intro pins s σ H x y v u Q I rx ry h
  obtain ⟨Z, dx, dy, d, fz, hx, hy, e0, q⟩ := h
  obtain ⟨b, e, rfl⟩ := Option.map_eq_some_iff.mp e0
  have q' := made_bl q
  unfold eqD at e
  split at e
  · obtain ⟨rfl, _⟩ := rdR_str hx
    obtain ⟨rfl, _⟩ := rdR_str hy
    cases e
    exact op_eq pins s σ H _ _ v u Q I rx ry ⟨rfl, by simpa using q'⟩
  · cases rdR_int hx
    cases rdR_int hy
    cases e
    exact op_eq pins s σ H _ _ v u Q I rx ry ⟨rfl, by simpa using q'⟩
  · cases rdR_bl hx
    cases rdR_bl hy
    cases e
    exact op_eq pins s σ H _ _ v u Q I rx ry ⟨rfl, by simpa using q'⟩
  · obtain ⟨p, r, h1, h2, h3, h4, rfl⟩ := eqP_dp (K := X.K) fz hx hy e
    exact op_eqD (by omega) pins s σ H _ _ v u Q I rx ry ⟨p, r, h1, h2, h3, h4, q'⟩
theorem op_neAll (hu : X.A.units + 65 < cLine) : OpR X (compareOp .NotEq) (rTwo X.K (fun x y => ((eqD x y).map not).map .bl)) := by
  intro pins s σ H x y v u Q I rx ry h
  obtain ⟨Z, dx, dy, d, fz, hx, hy, e0, q⟩ := h
  obtain ⟨b0, e1, rfl⟩ := Option.map_eq_some_iff.mp e0
  obtain ⟨b, e, rfl⟩ := Option.map_eq_some_iff.mp e1
  have q' := made_bl q
  unfold eqD at e
  split at e
  · obtain ⟨rfl, _⟩ := rdR_str hx
    obtain ⟨rfl, _⟩ := rdR_str hy
    cases e
    exact op_ne pins s σ H _ _ v u Q I rx ry ⟨rfl, by simpa using q'⟩
  · cases rdR_int hx
    cases rdR_int hy
    cases e
    exact op_ne pins s σ H _ _ v u Q I rx ry ⟨rfl, by simpa using q'⟩
  · cases rdR_bl hx
    cases rdR_bl hy
    cases e
    exact op_ne pins s σ H _ _ v u Q I rx ry ⟨rfl, by simpa using q'⟩
  · obtain ⟨p, r, h1, h2, h3, h4, rfl⟩ := eqP_dp (K := X.K) fz hx hy e
    exact op_neD (by omega) pins s σ H _ _ v u Q I rx ry ⟨p, r, h1, h2, h3, h4, q'⟩
theorem inD_dp {K : PySem.W.Frag} (fz : ∀ p o, Z.F p = some o → Rd H p o) {dx dy : D} {x y : V} {b : Bool} (hx : RdR Z H dx x) (hy : RdR Z H dy y) (e : inD dx dy = some b) :
    (∃ p qs, Dp K H x p ∧ Dp K H y (.list qs) ∧ SeqAt.shaped p = true ∧ SeqAt.shaped (.list qs) = true ∧ b = qs.any fun z => PyData.eqv z p) ∨
      ∃ u z, x = .str u ∧ y = .str z ∧ b = !(Builtin.Str.occurrences z u 0 z.length 1).isEmpty := by
  unfold inD at e
  split at e
  · rename_i ys
    split at e
    · rename_i p qs e1 e2
      split at e
      · rename_i hs
        cases e
        have h2 := Bool.and_eq_true_iff.mp hs
        exact .inl ⟨p, qs, rdR_dp fz hx e1, rdR_dp fz hy (by show (D.pys ys).map PyData.list = _; rw [e2] <;> rfl), h2.1, h2.2, rfl⟩
      · cases e
    · cases e
  · rename_i z
    split at e
    · rename_i u
      cases e
      exact .inr ⟨u, z, (rdR_str hx).1, (rdR_str hy).1, rfl⟩
    · cases e
  · cases e
theorem op_inAll (hu : X.A.units + 65 < cLine) : OpR X (compareOp .In) (rTwo X.K (fun x y => (inD x y).map .bl)) := by
  intro pins s σ H x y v u Q I rx ry h
  obtain ⟨Z, dx, dy, d, fz, hx, hy, e0, q⟩ := h
  obtain ⟨b, e, rfl⟩ := Option.map_eq_some_iff.mp e0
  have q' := made_bl q
  rcases inD_dp (K := X.K) fz hx hy e with ⟨p, qs, h1, h2, h3, h4, rfl⟩ | ⟨a, z, rfl, rfl, rfl⟩
  · exact op_inD hu pins s σ H _ _ v u Q I rx ry ⟨p, qs, h1, h2, h3, h4, q'⟩
  · exact op_in_str pins s σ H _ _ v u Q I rx ry ⟨a, z, rfl, rfl, q'⟩
theorem op_notInAll (hu : X.A.units + 65 < cLine) : OpR X (compareOp .NotIn) (rTwo X.K (fun x y => ((inD x y).map not).map .bl)) := by
  intro pins s σ H x y v u Q I rx ry h
  obtain ⟨Z, dx, dy, d, fz, hx, hy, e0, q⟩ := h
  obtain ⟨b0, e1, rfl⟩ := Option.map_eq_some_iff.mp e0
  obtain ⟨b, e, rfl⟩ := Option.map_eq_some_iff.mp e1
  have q' := made_bl q
  rcases inD_dp (K := X.K) fz hx hy e with ⟨p, qs, h1, h2, h3, h4, rfl⟩ | ⟨a, z, rfl, rfl, rfl⟩
  · exact op_notInD hu pins s σ H _ _ v u Q I rx ry ⟨p, qs, h1, h2, h3, h4, q'⟩
  · exact op_notin_str pins s σ H _ _ v u Q I rx ry ⟨a, z, rfl, rfl, q'⟩
theorem op_cmpAll (hu : X.A.units + 65 < cLine) (op : CmpOp) : OpR X (compareOp op) (rTwo X.K (fun x y => (cmpD op x y).map .bl)) := by
  cases op with
  | Eq => exact op_eqAll hu
  | NotEq => exact op_neAll hu
  | In => exact op_inAll hu
  | NotIn => exact op_notInAll hu
  | Is =>
    intro pins s σ H x y v u Q I rx ry h
    obtain ⟨Z, dx, dy, d, fz, hx, hy, e0, q⟩ := h
    obtain ⟨b, e, rfl⟩ := Option.map_eq_some_iff.mp e0
    have q' := made_bl q
    unfold cmpD at e
    dsimp only at e
    split at e
    · cases rdR_non hy
      cases e
      refine op_isN pins s σ H _ _ v u Q I rx ry ⟨rfl, ?_⟩
      cases hx with
      | rel r => cases r <;> exact q'
      | box b hr => cases b <;> exact q'
    · cases rdR_bl hy
      split at e
      · cases rdR_bl hx
        cases e
        refine op_isBl pins s σ H _ _ v u Q I rx ry ⟨_, _, rfl, rfl, ?_⟩
        have e2 : ∀ b c : Bool, (c == b) = decide (c = b) := by decide
        rw [← e2]
        exact q'
      · cases e
    · cases e
  | IsNot =>
    intro pins s σ H x y v u Q I rx ry h
    obtain ⟨Z, dx, dy, d, fz, hx, hy, e0, q⟩ := h
    obtain ⟨b, e, rfl⟩ := Option.map_eq_some_iff.mp e0
    have q' := made_bl q
    unfold cmpD at e
    dsimp only at e
    split at e
    · cases rdR_non hy
      cases e
      refine op_notN pins s σ H _ _ v u Q I rx ry ⟨rfl, ?_⟩
      cases hx with
      | rel r => cases r <;> exact q'
      | box b hr => cases b <;> exact q'
    · cases e
  | Lt =>
    intro pins s σ H x y v u Q I rx ry h
    obtain ⟨Z, dx, dy, d, fz, hx, hy, e0, q⟩ := h
    obtain ⟨b, e, rfl⟩ := Option.map_eq_some_iff.mp e0
    have q' := made_bl q
    unfold cmpD at e
    dsimp only at e
    split at e
    · cases rdR_int hx
      cases rdR_int hy
      cases e
      exact op_lt pins s σ H _ _ v u Q I rx ry ⟨_, _, rfl, rfl, q'⟩
    · cases e
  | LtE =>
    intro pins s σ H x y v u Q I rx ry h
    obtain ⟨Z, dx, dy, d, fz, hx, hy, e0, q⟩ := h
    obtain ⟨b, e, rfl⟩ := Option.map_eq_some_iff.mp e0
    have q' := made_bl q
    unfold cmpD at e
    dsimp only at e
    split at e
    · cases rdR_int hx
      cases rdR_int hy
      cases e
      exact op_le pins s σ H _ _ v u Q I rx ry ⟨_, _, rfl, rfl, q'⟩
    · cases e
  | Gt =>
    intro pins s σ H x y v u Q I rx ry h
    obtain ⟨Z, dx, dy, d, fz, hx, hy, e0, q⟩ := h
    obtain ⟨b, e, rfl⟩ := Option.map_eq_some_iff.mp e0
    have q' := made_bl q
    unfold cmpD at e
    dsimp only at e
    split at e
    · cases rdR_int hx
      cases rdR_int hy
      cases e
      exact op_gt pins s σ H _ _ v u Q I rx ry ⟨_, _, rfl, rfl, q'⟩
    · cases e
  | GtE =>
    intro pins s σ H x y v u Q I rx ry h
    obtain ⟨Z, dx, dy, d, fz, hx, hy, e0, q⟩ := h
    obtain ⟨b, e, rfl⟩ := Option.map_eq_some_iff.mp e0
    have q' := made_bl q
    unfold cmpD at e
    dsimp only at e
    split at e
    · cases rdR_int hx
      cases rdR_int hy
      cases e
      exact op_ge pins s σ H _ _ v u Q I rx ry ⟨_, _, rfl, rfl, q'⟩
    · cases e
/-- two operands, read by the rule of two -/
theorem two_of {f : D → D → Option D} {ia ib : E} {k : Zw → Sto → Hp → D → Prop} {Q : VK} (g : Gd A Z ρ S σ H)
    (p : post A W σ Z ρ ((raw ρ ia (evE C ia ρ S) S).bind fun x S => (raw ρ ib (evE C ib ρ S) S).bind fun y S => Res.of (f (x.look S) (y.look S)) S) k)
    (hk : ∀ Z' S' H' d, (∃ dx dy, f dx dy = some d) → Gd A Z' ρ S' σ H' → (∀ Z2 H2, Zle Z' Z2 → Gd A Z2 ρ S' σ H2 → k Z2 S' H2 d) → ∀ v H2, Made Z' H' d v H2 → Q v H2) :
    tOp (rTwo X.K f) (tR A C W ia) (tR A C W ib) σ H Q := by
  refine ⟨Z, ρ, S, g, p.bind.imp fun Z1 S1 H1 dx z1 g1 p1 x rx => ⟨Z1, ρ, S1, g1, p1.bind.imp fun Z2 S2 H2 dy z2 g2 p2 y ry => ?_⟩⟩
  obtain ⟨d, e, p3⟩ := p2.of
  exact ⟨Z2, _, _, d, g2.fz, g2.look (rx.mono z2), g2.look ry, e, hk Z2 S2 H2 d ⟨_, _, e⟩ g2 fun Z3 H3 z3 g3 => p3 Z3 H3 z3 g3⟩
theorem s_cmp (hu : X.A.units + 65 < cLine) {op : CmpOp} {a b : Expr} {ia ib : E} {pos : Pos} (ha : PE X a (tR A C W ia)) (hb : PE X b (tR A C W ib)) (hm : behindInMarks op b = false) : PE X (.Compare a [op] [b] pos) (tE A C W (.cmp op ia ib)) :=
  peImp (pe_cmpR (pos := pos) (op_cmpAll hu op) ha hb hm) fun σ H Q ⟨Z, ρ, S, g, p⟩ => by
    rw [evE_cmp] at p
    refine two_of g p fun Z' S' H' d ⟨dx, dy, e⟩ g' kk v H2 hm => ?_
    obtain ⟨b, _, rfl⟩ := Option.map_eq_some_iff.mp e
    obtain ⟨Z3, z3, g3, r3⟩ := hm.res (fr := false) g' (fun z => by cases z)
    exact kk Z3 H2 z3 g3 v r3
theorem Str.lenOk {x : Str} (h : x.length ≤ sizeLine) : x.length ≤ szB := by rw [szB_eq]; exact h
/-- truth -/
theorem truV (fz : ∀ p o, Z.F p = some o → Rd H p o) {K : PySem.W.Frag} {d : D} {v : V} {b : Bool} (h : RdR Z H d v) (e : truD d = some b) : TruV K v H b := by
  unfold truD at e
  split at e
  · cases e; rw [rdR_non h]; rfl
  · cases e; rw [rdR_bl h]; rfl
  · cases e; rw [rdR_int h]; rfl
  · cases e
    obtain ⟨rfl, hl⟩ := rdR_str h
    refine ⟨hl, ?_⟩
    rename_i x
    by_cases hx : x.length = 0
    · rw [hx] <;> rfl
    · rw [bne_iff_ne.mpr hx, bne_iff_ne.mpr (fun z => hx (by omega))]
  · cases e
    obtain ⟨p, vs, rfl, hp, r⟩ := rdR_tup (K := K) fz h
    refine .inr (.inl ⟨vs, .inl hp, ?_⟩)
    cases r <;> rfl
  · cases e
    obtain ⟨p, vs, rfl, hp, r⟩ := rdR_lst (K := K) fz h
    refine .inl ⟨vs, .inl hp, ?_⟩
    cases r <;> rfl
  · cases e
/-- a test's reading -/
def tT (A : Act) (C : Ev) (W : WX) (i : E) : TT := fun σ H Q => ∃ Z ρ S, Gd A Z ρ S σ H ∧ post A W σ Z ρ (evT C i ρ S) fun Z' S' H' b => Q b H'
theorem ptImp {e : Expr} {t t' : TT} (h : PT X e t) (f : ∀ σ H Q, t' σ H Q → t σ H Q) : PT X e t' := ⟨fun pins s σ H Q I q => h.run pins s σ H Q I (f σ H Q q)⟩
theorem pwImp {e : Expr} {t t' : TT} (h : PW X e t) (f : ∀ σ H Q, t' σ H Q → t σ H Q) : PW X e t' := ⟨fun wh pins s σ H Q I q => h.run wh pins s σ H Q I (f σ H Q q)⟩
theorem post_rdv {i : E} {r : Res D} {k : Zw → Sto → Hp → D → Prop} (h : post A W σ Z ρ (rdv ρ i r S) k) : post A W σ Z ρ (raw ρ i r S) fun Z' S' H' d => k Z' S' H' (d.look S') := by
  unfold rdv at h
  exact h.bind.imp fun Z' S' H' d z g p => p.ok g
theorem post_evT {i : E} {k : Zw → Sto → Hp → Bool → Prop} (h : post A W σ Z ρ (evT C i ρ S) k) : post A W σ Z ρ (raw ρ i (evE C i ρ S) S) fun Z' S' H' d => ∃ b, truD (d.look S') = some b ∧ k Z' S' H' b := by
  unfold evT at h
  refine (post_rdv h.bind).imp fun Z' S' H' d z g p => ?_
  obtain ⟨b, e, p⟩ := p.of
  exact ⟨b, e, p.ok g⟩
/-- a plain expression as a test: its value's truth -/
def plainT : Expr → Bool
  | .UnaryOp .Not _ _ => false
  | .BoolOp _ _ _ => false
  | .IfExp _ _ _ _ => false
  | .Compare _ _ _ _ => false
  | _ => true
theorem isTrue_of {e : Expr} (h : plainT e = true) (env : Env) (whole : Sem Value) : isTrue e env whole = (do let v ← whole; standAt e.pos; holding [v] (truthy v)) := by
  cases e with
  | BoolOp _ _ _ => cases h
  | IfExp _ _ _ _ => cases h
  | Compare _ _ _ _ => cases h
  | UnaryOp op _ _ =>
    cases op with
    | Not => cases h
    | _ => rfl
  | _ => rfl
theorem s_plainT {e : Expr} {i : E} (hp : plainT e = true) (h : PE X e (tR A C W i)) : PT X e (tT A C W i) :=
  ptImp (pt_truth h fun wh => isTrue_of hp _ wh) fun σ H Q ⟨Z, ρ, S, g, p⟩ =>
    ⟨Z, ρ, S, g, (post_evT p).imp fun Z' S' H' d z g' ⟨b, e, q⟩ v r => ⟨b, truV g'.fz (g'.look r) e, q⟩⟩
theorem s_cmpT (hu : X.A.units + 65 < cLine) {op : CmpOp} {a b : Expr} {ia ib : E} {pos : Pos} (ha : PE X a (tR A C W ia)) (hb : PE X b (tR A C W ib)) (hm : behindInMarks op b = false) : PT X (.Compare a [op] [b] pos) (tT A C W (.cmp op ia ib)) :=
  ptImp (pt_cmpR (pos := pos) (op_cmpAll hu op) ha hb hm) fun σ H Q ⟨Z, ρ, S, g, p⟩ => by
    have p1 := post_evT p
    have e1 : raw ρ (.cmp op ia ib) (evE C (.cmp op ia ib) ρ S) S = evE C (.cmp op ia ib) ρ S := rfl
    rw [e1, evE_cmp] at p1
    refine two_of (Q := fun x H' => ∃ k, x = .bl k ∧ Q k H') g p1 fun Z' S' H' d ⟨dx, dy, e⟩ g' kk v H2 hm => ?_
    obtain ⟨b, _, rfl⟩ := Option.map_eq_some_iff.mp e
    obtain ⟨Z3, z3, g3, r3⟩ := hm.res (fr := false) g' (fun z => by cases z)
    obtain ⟨c, hc, q⟩ := kk Z3 H2 z3 g3
    cases hc
    refine ⟨b, ?_, q⟩
    unfold Res1 at r3
    rw [if_neg (by simp)] at r3
    cases r3
    rfl
theorem s_not {a : Expr} {i : E} {pos : Pos} (h : PE X a (tR A C W i)) : PE X (.UnaryOp .Not a pos) (tE A C W (.not i)) :=
  peImp (pe_notT (pos := pos) h) fun σ H Q ⟨Z, ρ, S, g, p⟩ => by
    rw [evE_not] at p
    refine ⟨Z, ρ, S, g, (post_rdv p.bind).imp fun Z' S' H' d z g' p v r => ?_⟩
    split at p
    · rename_i b e
      exact ⟨b, truV g'.fz (g'.look r) e, p.ok g' _ (.of (.bl _) (by simp [isFresh]))⟩
    · exact p.elim
theorem evT_not {i : E} : evT C (.not i) ρ S = (evT C i ρ S).bind fun b S => .ok (!b) S := by
  unfold evT
  show (rdv ρ (.not i) (evE C (.not i) ρ S) S).bind _ = _
  have e : rdv ρ (.not i) (evE C (.not i) ρ S) S = (evE C (.not i) ρ S).bind fun d S => .ok (d.look S) S := rfl
  rw [e, evE_not]
  cases rdv ρ i (evE C i ρ S) S with
  | ok x S1 =>
    show Res.bind (Res.bind (match truD x with | some b => Res.ok (D.bl (!b)) S1 | none => .stuck) _) _ = _
    cases h : truD x with
    | none => simp [Res.bind, Res.of, h]
    | some b =>
      simp only [Res.bind, Res.of, h]
      rfl
  | exc c S1 => rfl
  | stuck => rfl
theorem s_notT {a : Expr} {i : E} {pos : Pos} (h : PT X a (tT A C W i)) : PT X (.UnaryOp .Not a pos) (tT A C W (.not i)) :=
  ptImp (pt_not (pos := pos) h) fun σ H Q ⟨Z, ρ, S, g, p⟩ => by
    rw [evT_not] at p
    exact ⟨Z, ρ, S, g, p.bind.imp fun Z' S' H' b z g' p => p.ok g'⟩
/-- and, or -/
def andL : List E → Option E
  | [] => none
  | [e] => some e
  | e :: es => (andL es).map (.and e)
def orL : List E → Option E
  | [] => none
  | [e] => some e
  | e :: es => (orL es).map (.or e)
theorem s_and {a b : Expr} {rest : List Expr} {ia ib : E} {pos : Pos} (ha : PE X a (tV A C W ia)) (hb : PE X (.BoolOp .And (b :: rest) pos) (tV A C W ib)) : PE X (.BoolOp .And (a :: b :: rest) pos) (tE A C W (.and ia ib)) :=
  peImp (pe_andT ha hb) fun σ H Q ⟨Z, ρ, S, g, p⟩ => by
    rw [evE_and] at p
    refine ⟨Z, ρ, S, g, p.bind.imp fun Z' S' H' d z g' p v r => ?_⟩
    split at p
    · rename_i e
      refine ⟨true, truV g'.fz (g'.look (.inl r)) e, ?_⟩
      rw [if_pos rfl]
      exact ⟨Z', ρ, S', g', p.imp fun Z2 S2 H2 d2 z2 g2 q v2 r2 => q v2 (.of r2 (by simp [isFresh]))⟩
    · rename_i e
      refine ⟨false, truV g'.fz (g'.look (.inl r)) e, ?_⟩
      rw [if_neg Bool.false_ne_true]
      exact p.ok g' _ (.of r (by simp [isFresh]))
    · exact p.elim
theorem s_or {a b : Expr} {rest : List Expr} {ia ib : E} {pos : Pos} (ha : PE X a (tV A C W ia)) (hb : PE X (.BoolOp .Or (b :: rest) pos) (tV A C W ib)) : PE X (.BoolOp .Or (a :: b :: rest) pos) (tE A C W (.or ia ib)) :=
  peImp (pe_orT ha hb) fun σ H Q ⟨Z, ρ, S, g, p⟩ => by
    rw [evE_or] at p
    refine ⟨Z, ρ, S, g, p.bind.imp fun Z' S' H' d z g' p v r => ?_⟩
    split at p
    · rename_i e
      refine ⟨true, truV g'.fz (g'.look (.inl r)) e, ?_⟩
      rw [if_pos rfl]
      exact p.ok g' _ (.of r (by simp [isFresh]))
    · rename_i e
      refine ⟨false, truV g'.fz (g'.look (.inl r)) e, ?_⟩
      rw [if_neg Bool.false_ne_true]
      exact ⟨Z', ρ, S', g', p.imp fun Z2 S2 H2 d2 z2 g2 q v2 r2 => q v2 (.of r2 (by simp [isFresh]))⟩
    · exact p.elim
/-- a value's truth, told by the held value -/
theorem raw_of {i : E} {d : D} {S1 : Sto} (e : evE C i ρ S = .ok d S1) : raw ρ i (evE C i ρ S) S = .ok d S1 := by
  cases i with
  | var k =>
    rw [evE_var] at e
    unfold raw
    dsimp only
    split at e
    · rename_i x h
      rw [h]
      exact e
    · cases e
  | _ => exact e
theorem evT_and {ia ib : E} : evT C (.and ia ib) ρ S = (evE C ia ρ S).bind fun x S => match truD (x.look S) with
    | some true => (evE C ib ρ S).bind fun y S => Res.of (truD (y.look S)) S
    | some false => .ok false S
    | none => .stuck := by
  unfold evT
  have e : rdv ρ (.and ia ib) (evE C (.and ia ib) ρ S) S = (evE C (.and ia ib) ρ S).bind fun d S => .ok (d.look S) S := rfl
  rw [e, evE_and]
  cases evE C ia ρ S with
  | ok x S1 =>
    show Res.bind (Res.bind (match truD (x.look S1) with | some true => evE C ib ρ S1 | some false => Res.ok x S1 | none => .stuck) _) _ = (match truD (x.look S1) with | some true => _ | some false => _ | none => _)
    cases h : truD (x.look S1) with
    | none => rfl
    | some b =>
      cases b with
      | true =>
        dsimp only
        cases evE C ib ρ S1 <;> rfl
      | false =>
        show Res.of (truD (x.look S1)) S1 = _
        rw [h] <;> rfl
  | exc c S1 => rfl
  | stuck => rfl
theorem evT_or {ia ib : E} : evT C (.or ia ib) ρ S = (evE C ia ρ S).bind fun x S => match truD (x.look S) with
    | some true => .ok true S
    | some false => (evE C ib ρ S).bind fun y S => Res.of (truD (y.look S)) S
    | none => .stuck := by
  unfold evT
  have e : rdv ρ (.or ia ib) (evE C (.or ia ib) ρ S) S = (evE C (.or ia ib) ρ S).bind fun d S => .ok (d.look S) S := rfl
  rw [e, evE_or]
  cases evE C ia ρ S with
  | ok x S1 =>
    show Res.bind (Res.bind (match truD (x.look S1) with | some true => Res.ok x S1 | some false => evE C ib ρ S1 | none => .stuck) _) _ = (match truD (x.look S1) with | some true => _ | some false => _ | none => _)
    cases h : truD (x.look S1) with
    | none => rfl
    | some b =>
      cases b with
      | false =>
        dsimp only
        cases evE C ib ρ S1 <;> rfl
      | true =>
        show Res.of (truD (x.look S1)) S1 = _
        rw [h] <;> rfl
  | exc c S1 => rfl
  | stuck => rfl
theorem post_evT_of {i : E} {k : Zw → Sto → Hp → Bool → Prop} (h : post A W σ Z ρ ((evE C i ρ S).bind fun y S => Res.of (truD (y.look S)) S) k) : post A W σ Z ρ (evT C i ρ S) k := by
  unfold evT
  revert h
  cases e : evE C i ρ S with
  | ok d S1 =>
    intro h
    unfold rdv
    rw [← e, raw_of e]
    exact h
  | exc c S1 =>
    intro h
    have e1 : raw ρ i (.exc c S1) S = .exc c S1 := by
      cases i with
      | var k =>
        rw [evE_var] at e
        split at e <;> cases e
      | _ => rfl
    unfold rdv
    rw [e1]
    exact h
  | stuck => exact fun h => h.elim
theorem s_andW {a b : Expr} {rest : List Expr} {ia ib : E} {pos : Pos} (ha : PT X a (tT A C W ia)) (hb : PW X (.BoolOp .And (b :: rest) pos) (tT A C W ib)) : PW X (.BoolOp .And (a :: b :: rest) pos) (tT A C W (.and ia ib)) :=
  pwImp (pw_and ha hb) fun σ H Q ⟨Z, ρ, S, g, p⟩ => by
    rw [evT_and] at p
    refine ⟨Z, ρ, S, g, post_evT_of (i := ia) ?_⟩
    revert p
    cases evE C ia ρ S with
    | ok x S1 =>
      intro p
      cases h : truD (x.look S1) with
      | none =>
        simp only [Res.bind, h] at p
        exact p.elim
      | some b =>
        cases b with
        | true =>
          simp only [Res.bind, h] at p
          simp only [Res.bind, h, Res.of]
          intro Z' H' z' g'
          rw [if_pos rfl]
          exact ⟨Z', ρ, S1, g', post_evT_of (post.mono (r := (evE C ib ρ S1).bind fun y S => Res.of (truD (y.look S)) S) p z')⟩
        | false =>
          simp only [Res.bind, h] at p
          simp only [Res.bind, h, Res.of]
          intro Z' H' z' g'
          rw [if_neg Bool.false_ne_true]
          exact p Z' H' z' g'
    | exc c S1 => exact id
    | stuck => exact id
theorem s_orW {a b : Expr} {rest : List Expr} {ia ib : E} {pos : Pos} (ha : PT X a (tT A C W ia)) (hb : PW X (.BoolOp .Or (b :: rest) pos) (tT A C W ib)) : PW X (.BoolOp .Or (a :: b :: rest) pos) (tT A C W (.or ia ib)) :=
  pwImp (pw_or ha hb) fun σ H Q ⟨Z, ρ, S, g, p⟩ => by
    rw [evT_or] at p
    refine ⟨Z, ρ, S, g, post_evT_of (i := ia) ?_⟩
    revert p
    cases evE C ia ρ S with
    | ok x S1 =>
      intro p
      cases h : truD (x.look S1) with
      | none =>
        simp only [Res.bind, h] at p
        exact p.elim
      | some b =>
        cases b with
        | false =>
          simp only [Res.bind, h] at p
          simp only [Res.bind, h, Res.of]
          intro Z' H' z' g'
          rw [if_neg Bool.false_ne_true]
          exact ⟨Z', ρ, S1, g', post_evT_of (post.mono (r := (evE C ib ρ S1).bind fun y S => Res.of (truD (y.look S)) S) p z')⟩
        | true =>
          simp only [Res.bind, h] at p
          simp only [Res.bind, h, Res.of]
          intro Z' H' z' g'
          rw [if_pos rfl]
          exact p Z' H' z' g'
    | exc c S1 => exact id
    | stuck => exact id
end
end MP

set_option maxRecDepth 100000
set_option maxHeartbeats 4000000
/-! MiniPy: chains, displays, subscripts. -/
namespace MP
open PySem PySem.Spec L2
open PyProof.Rows hiding St
section
variable {X : Cx} {A : Act} {C : Ev} {W : WX} {Z Z' Z1 : Zw} {ρ : Frame} {S S' : Sto} {σ : St} {H H' : Hp}
def noStar : Expr → Bool
  | .Starred _ _ => false
  | _ => true
theorem starE {e : Expr} {es : List Expr} {env : Env} (h : noStar e = true) : starEach (e :: es) env = (false, eval e env) :: starEach es env := by
  cases e <;> first
    | rfl
    | cases h
def noSlice : Expr → Bool
  | .Slice _ _ _ _ => false
  | _ => true
theorem plainIx {e : Expr} (h : noSlice e = true) : PlainIx e := by
  cases e <;> first
    | exact fun _ _ => rfl
    | cases h
def noSuper : Expr → Bool
  | .Call (.Name _ _) [] [] _ => false
  | _ => true
theorem superE {e : Expr} {f : Str} {env : Env} (h : noSuper e = true) : attributeBase e f env (eval e env) = eval e env := by
  unfold attributeBase
  split
  · exact absurd h (by simp [noSuper])
  · rfl
theorem bl_of_res {b : Bool} {v : V} {fr : Bool} (h : Res1 A Z ρ σ H fr (.bl b) v) : v = .bl b := by
  unfold Res1 at h
  rw [if_neg (by simp [isBox])] at h
  cases h
  rfl
theorem s_neg {a : Expr} {ia : E} {pos : Pos} (ha : PE X a (tV A C W ia)) : PE X (.UnaryOp .USub a pos) (tE A C W (.neg ia)) :=
  peImp (pe_un (pos := pos) un_neg ha) fun σ H Q ⟨Z, ρ, S, g, p⟩ => by
    rw [evE_neg] at p
    refine ⟨Z, ρ, S, g, p.bind.imp fun Z' S' H' d z g' p v r => ?_⟩
    split at p
    · cases r
      exact ⟨_, rfl, p.ok g' _ (.of (.int _) (by simp [isFresh]))⟩
    · exact p.elim
theorem chain_of {o q : CmpOp} {ia ib ic : E} {k : Zw → Sto → Hp → D → Prop} {Q : VK} (g : Gd A Z ρ S σ H)
    (p : post A W σ Z ρ (evE C (.chain o q ia ib ic) ρ S) k) (hk : ∀ Z' S' H' b, Zle Z Z' → Gd A Z' ρ S' σ H' → k Z' S' H' (.bl b) → Q (.bl b) H') :
    tChain (rTwo X.K fun x y => (cmpD o x y).map .bl) (rTwo X.K fun x y => (cmpD q x y).map .bl) (tV A C W ia) (tV A C W ib) (tV A C W ic) σ H Q := by
  rw [evE_chain] at p
  refine ⟨Z, ρ, S, g, p.bind.imp fun Z1 S1 H1 dx z1 g1 p1 x rx => ⟨Z1, ρ, S1, g1, p1.bind.imp fun Z2 S2 H2 dy z2 g2 p2 y ry => ?_⟩⟩
  cases e : cmpD o dx dy with
  | none =>
    rw [e] at p2
    exact p2.elim
  | some b =>
    rw [e] at p2
    refine ⟨Z2, dx, dy, .bl b, g2.fz, .rel (rx.mono z2), .rel ry, by show (cmpD o dx dy).map D.bl = _; rw [e] <;> rfl, fun v H3 hm => ?_⟩
    obtain ⟨Z3, z3, g3, r3⟩ := hm.res (fr := false) g2 (fun z => by cases z)
    refine ⟨b, bl_of_res r3, ?_⟩
    cases b with
    | false =>
      rw [if_neg Bool.false_ne_true]
      exact hk Z3 S2 H3 false ((z1.trans z2).trans z3) g3 (p2 Z3 H3 z3 g3)
    | true =>
      rw [if_pos rfl]
      refine ⟨Z3, ρ, S2, g3, ((post.mono (r := (evE C ic ρ S2).bind fun z S => Res.of ((cmpD q dy z).map D.bl) S) p2 z3)).bind.imp fun Z4 S4 H4 dz z4 g4 p4 w rw' => ?_⟩
      obtain ⟨d, e4, p5⟩ := p4.of
      obtain ⟨c, e5, rfl⟩ := Option.map_eq_some_iff.mp e4
      refine ⟨Z4, dy, dz, .bl c, g4.fz, .rel ((ry.mono z3).mono z4), .rel rw', e4, fun v5 H5 hm5 => ?_⟩
      obtain ⟨Z5, z5, g5, r5⟩ := hm5.res (fr := false) g4 (fun z => by cases z)
      rw [bl_of_res r5]
      exact hk Z5 S4 H5 c ((((z1.trans z2).trans z3).trans z4).trans z5) g5 (p5 Z5 H5 z5 g5)
theorem s_chain (hu : X.A.units + 65 < cLine) {o q : CmpOp} {a b c : Expr} {ia ib ic : E} {pos : Pos} (ha : PE X a (tV A C W ia)) (hb : PE X b (tV A C W ib)) (hc : PE X c (tV A C W ic)) (hm : lastMarks [o, q] [b, c] = false) :
    PE X (.Compare a [o, q] [b, c] pos) (tE A C W (.chain o q ia ib ic)) :=
  peImp (pe_chain (pos := pos) (op_cmpAll hu o) (op_cmpAll hu q) ha hb hc hm) fun σ H Q ⟨Z, ρ, S, g, p⟩ =>
    chain_of g p fun Z' S' H' b z g' h => h _ (.of (.bl b) (by simp [isFresh]))
theorem s_chainT (hu : X.A.units + 65 < cLine) {o q : CmpOp} {a b c : Expr} {ia ib ic : E} {pos : Pos} (ha : PE X a (tV A C W ia)) (hb : PE X b (tV A C W ib)) (hc : PE X c (tV A C W ic)) (hm : lastMarks [o, q] [b, c] = false) :
    PT X (.Compare a [o, q] [b, c] pos) (tT A C W (.chain o q ia ib ic)) :=
  ptImp (pt_chain (pos := pos) (op_cmpAll hu o) (op_cmpAll hu q) ha hb hc hm) fun σ H Q ⟨Z, ρ, S, g, p⟩ => by
    have p1 := post_evT p
    have e1 : raw ρ (.chain o q ia ib ic) (evE C (.chain o q ia ib ic) ρ S) S = evE C (.chain o q ia ib ic) ρ S := rfl
    rw [e1] at p1
    refine chain_of g p1 fun Z' S' H' b z g' h => ?_
    obtain ⟨c, hc, q⟩ := h
    cases hc
    exact ⟨_, rfl, q⟩
/-- e if c else f, both held -/
theorem s_ite {c a b : Expr} {ic ia ib : E} {pos : Pos} (hf : isFresh C.tb (.ite ic ia ib) = false) (hc : PT X c (tT A C W ic)) (ha : PE X a (tV A C W ia)) (hb : PE X b (tV A C W ib)) : PE X (.IfExp c a b pos) (tE A C W (.ite ic ia ib)) :=
  peImp (pe_ifExp hc ha hb) fun σ H Q ⟨Z, ρ, S, g, p⟩ => by
    rw [evE_ite] at p
    rw [hf] at p
    refine ⟨Z, ρ, S, g, ?_⟩
    unfold evT
    revert p
    cases rdv ρ ic (evE C ic ρ S) S with
    | ok x S1 =>
      intro p
      cases h : truD x with
      | none =>
        simp only [Res.bind, h] at p
        exact p.elim
      | some t =>
        simp only [Res.bind, h, Res.of]
        cases t with
        | true =>
          simp only [Res.bind, h] at p
          intro Z' H' z' g'
          rw [if_pos rfl]
          exact ⟨Z', ρ, S1, g', (p.mono z').imp fun Z2 S2 H2 d z2 g2 q v r => q v (.of r (by simp))⟩
        | false =>
          simp only [Res.bind, h] at p
          intro Z' H' z' g'
          rw [if_neg Bool.false_ne_true]
          exact ⟨Z', ρ, S1, g', (p.mono z').imp fun Z2 S2 H2 d z2 g2 q v r => q v (.of r (by simp))⟩
    | exc c S1 => exact id
    | stuck => exact id
/-! ### several -/
theorem evEs_nil : evEs C [] ρ S = .ok [] S := by rw [evEs]
theorem evEs_cons {e : E} {es : List E} : evEs C (e :: es) ρ S = (evE C e ρ S).bind fun x S => (evEs C es ρ S).bind fun xs S => .ok (x :: xs) S := by rw [evEs]
theorem evRs_nil : evRs C [] ρ S = .ok [] S := by rw [evRs]
theorem evRs_cons {e : E} {es : List E} : evRs C (e :: es) ρ S = (raw ρ e (evE C e ρ S) S).bind fun x S => (evRs C es ρ S).bind fun xs S => .ok (x :: xs) S := by rw [evRs]
def tAs (A : Act) (C : Ev) (W : WX) (es : List E) : TA := fun σ H Q => ∃ Z ρ S, Gd A Z ρ S σ H ∧ post A W σ Z ρ (evEs C es ρ S) fun Z' S' H' ds => ∀ vs, RelDs Z' ds vs → Q vs H'
inductive Raws (Z : Zw) (ρ : Frame) (σ : St) : List D → List V → Prop
  | nil : Raws Z ρ σ [] []
  | cons {d : D} {v : V} {ds : List D} {vs : List V} (h : Raw Z ρ σ d v) (t : Raws Z ρ σ ds vs) : Raws Z ρ σ (d :: ds) (v :: vs)
def tRs (A : Act) (C : Ev) (W : WX) (es : List E) : TA := fun σ H Q => ∃ Z ρ S, Gd A Z ρ S σ H ∧ post A W σ Z ρ (evRs C es ρ S) fun Z' S' H' ds => ∀ vs, Raws Z' ρ σ ds vs → Q vs H'
theorem a_nil : PA X [] (tAs A C W []) := paImp pa_nil fun σ H Q ⟨Z, ρ, S, g, p⟩ => by
  rw [evEs_nil] at p
  exact p.ok g _ .nil
theorem a_cons {e : Expr} {es : List Expr} {i : E} {is : List E} (hn : noStar e = true) (ha : PE X e (tV A C W i)) (hr : PA X es (tAs A C W is)) : PA X (e :: es) (tAs A C W (i :: is)) :=
  paImp (pa_cons ha hr (starE hn)) fun σ H Q ⟨Z, ρ, S, g, p⟩ => by
    rw [evEs_cons] at p
    exact ⟨Z, ρ, S, g, p.bind.imp fun Z1 S1 H1 d z1 g1 p1 v rv => ⟨Z1, ρ, S1, g1, p1.bind.imp fun Z2 S2 H2 ds z2 g2 p2 vs rs => p2.ok g2 _ (.cons (rv.mono z2) rs)⟩⟩
theorem r_nil : PA X [] (tRs A C W []) := paImp pa_nil fun σ H Q ⟨Z, ρ, S, g, p⟩ => by
  rw [evRs_nil] at p
  exact p.ok g _ .nil
theorem r_cons {e : Expr} {es : List Expr} {i : E} {is : List E} (hn : noStar e = true) (ha : PE X e (tR A C W i)) (hr : PA X es (tRs A C W is)) : PA X (e :: es) (tRs A C W (i :: is)) :=
  paImp (pa_cons ha hr (starE hn)) fun σ H Q ⟨Z, ρ, S, g, p⟩ => by
    rw [evRs_cons] at p
    exact ⟨Z, ρ, S, g, p.bind.imp fun Z1 S1 H1 d z1 g1 p1 v rv => ⟨Z1, ρ, S1, g1, p1.bind.imp fun Z2 S2 H2 ds z2 g2 p2 vs rs => p2.ok g2 _ (.cons (rv.mono z2) rs)⟩⟩
theorem s_tup {es : List Expr} {is : List E} {x1} {pos : Pos} (h : PA X es (tAs A C W is)) : PE X (.Tuple es x1 pos) (tE A C W (.tup is)) :=
  peImp (pe_tup h) fun σ H Q ⟨Z, ρ, S, g, p⟩ => by
    rw [evE_tup] at p
    refine ⟨Z, ρ, S, g, p.bind.imp fun Z1 S1 H1 ds z1 g1 p1 vs rs => ?_⟩
    split at p1
    · rename_i hl
      refine ⟨by rw [← szB_eq, ← rs.length]; exact of_decide_eq_true hl, fun q hq => ?_⟩
      obtain ⟨k, g2⟩ := g1.newFast (u := .tup vs) hq
      exact p1 _ _ k g2 _ (.of (.tup (show upd Z1.F q (.tup vs) q = some _ from upd_same) (rs.mono k)) (by simp [isBox]))
    · exact p1.elim
theorem s_lst {es : List Expr} {is : List E} {pos : Pos} (h : PA X es (tAs A C W is)) : PE X (.List es pos) (tE A C W (.lst is)) :=
  peImp (pe_lst h) fun σ H Q ⟨Z, ρ, S, g, p⟩ => by
    rw [evE_lst] at p
    refine ⟨Z, ρ, S, g, p.bind.imp fun Z1 S1 H1 ds z1 g1 p1 vs rs => ?_⟩
    split at p1
    · rename_i hl
      refine ⟨by rw [← szB_eq, ← rs.length]; exact of_decide_eq_true hl, fun q hq => ?_⟩
      obtain ⟨g2, r2⟩ := Res1.box (fr := isFresh C.tb (.lst is)) g1 (by rw [isFresh]) (.lst rs) hq
      exact p1 _ _ .refl g2 _ r2
    · exact p1.elim
theorem s_dct0 {pos : Pos} (t : Bool) : PE X (.Dict [] [] pos) (tE A C W (.dct t [] [])) := by
  cases t with
  | true =>
    exact peImp pe_dnewT fun σ H Q ⟨Z, ρ, S, g, p⟩ q hq => by
      rw [evE_dct, evEs_nil] at p
      obtain ⟨g2, r2⟩ := Res1.box (fr := isFresh C.tb (.dct true [] [])) g (by rw [isFresh]) (.dt (ks := []) (xs := []) (vs := []) rfl .nil) hq
      exact p _ _ .refl g2 _ r2
  | false =>
    exact peImp pe_dnewK fun σ H Q ⟨Z, ρ, S, g, p⟩ q hq => by
      rw [evE_dct, evEs_nil] at p
      obtain ⟨g2, r2⟩ := Res1.box (fr := isFresh C.tb (.dct false [] [])) g (by rw [isFresh]) (.dk (ks := []) (xs := []) (vs := []) rfl .nil) hq
      exact p _ _ .refl g2 _ r2
/-! ### subscripts -/
theorem one_len (c : Nat) : (⟨#[c]⟩ : Str).length ≤ sizeLine := by
  rw [sizeLine_eq]
  exact Nat.le_of_ble_eq_true rfl
theorem atI_rel {xs : List D} {vs : List V} {k : Int} {d : D} (r : RelDs Z xs vs) (e : atI xs k = some d) : ∃ v, atI vs k = some v ∧ RelD Z d v := by
  unfold atI at *
  rw [← r.length]
  obtain ⟨j, h1, h2⟩ := Option.bind_eq_some_iff.mp e
  obtain ⟨v, h3, h4⟩ := r.get h2
  exact ⟨v, by rw [h1]; exact h3, h4⟩
theorem look_rel {κ : Type} [DecidableEq κ] {k : κ} : ∀ {ks : List κ} {xs : List D} {vs : List V} {d : D}, RelDs Z xs vs → lookK k ks xs = some d → ∃ v, valV (ks.zip vs) k = some v ∧ RelD Z d v
  | [], _, _, _, _, e => by simp [lookK] at e
  | _ :: _, _, _, _, .nil, e => by simp [lookK] at e
  | a :: ks, _, _, d, .cons (v := w) h t, e => by
    rw [lookK] at e
    by_cases ha : a = k
    · rw [if_pos ha] at e
      cases e
      exact ⟨w, valV_pos ha, h⟩
    · rw [if_neg ha] at e
      obtain ⟨v, h1, h2⟩ := look_rel t e
      exact ⟨v, by rw [List.zip_cons_cons, valV_neg ha]; exact h1, h2⟩
theorem keyD_kV {d : D} {k : Key} {v : V} (e : keyD d = some k) (r : RelD Z d v) : v = kV k := by
  cases d with
  | int i => cases e; cases r; rfl
  | str x => cases e; cases r; rfl
  | _ => cases e
theorem keysD_kV : ∀ {ds : List D} {ks : List Key} {vs : List V}, keysD ds = some ks → RelDs Z ds vs → vs = ks.map kV
  | [], _, _, e, .nil => by cases e; rfl
  | d :: ds, ks, _, e, .cons h t => by
    rw [keysD] at e
    split at e
    · rename_i k ks' e1 e2
      cases e
      rw [keyD_kV e1 h, keysD_kV e2 t]
      rfl
    · cases e
theorem rdR_dt (fz : ∀ p o, Z.F p = some o → Rd H p o) {ks : List (List Key)} {xs : List D} {v : V} (h : RdR Z H (.dt ks xs) v) : ∃ p vs, v = .ref p ∧ Rd H p (.dT (ks.zip vs)) ∧ ks.length = vs.length ∧ RelDs Z xs vs := by
  cases h with
  | rel r =>
    cases r with
    | dt h hl r => exact ⟨_, _, rfl, fz _ _ h, hl, r⟩
  | box b hr =>
    cases b with
    | dt hl r => exact ⟨_, _, rfl, hr, hl, r⟩
theorem idx_of (tx : ∀ p o, Z.F p = some o → isDO o = false → H p = some o) (fz : ∀ p o, Z.F p = some o → Rd H p o) (K : PySem.W.Frag) {dx dy d : D} {x y : V} {Q : VK} (hx : RdR Z H dx x) (hy : RelD Z dy y) (e : idxD dx dy = some d) (q : ∀ v, RelD Z d v → Q v H) :
    rIx K x y H Q ∨ ∃ a v, x = .ref a ∧ DGet H a y (some v) ∧ Q v H := by
  unfold idxD at e
  split at e
  · cases hy
    obtain ⟨p, vs, rfl, hp, r⟩ := rdR_lst (K := K) fz hx
    obtain ⟨v, h1, h2⟩ := atI_rel r e
    exact .inl (.inl ⟨p, vs, _, v, rfl, rfl, .inl hp, h1, q v h2⟩)
  · cases hy
    obtain ⟨p, vs, rfl, hp, r⟩ := rdR_tup (K := K) fz hx
    obtain ⟨v, h1, h2⟩ := atI_rel r e
    exact .inl (.inr (.inl ⟨p, vs, _, v, rfl, rfl, .inl hp, h1, q v h2⟩))
  · cases hy
    obtain ⟨rfl, hz⟩ := rdR_str hx
    obtain ⟨c, h1, rfl⟩ := Option.map_eq_some_iff.mp e
    exact .inl (.inr (.inr ⟨_, _, c, rfl, rfl, hz, h1, q _ (.str _ (one_len _))⟩))
  · obtain ⟨k, h1, h2⟩ := Option.bind_eq_some_iff.mp e
    obtain ⟨p, vs, rfl, hp, hl, r⟩ := rdR_dk fz hx
    obtain ⟨v, h3, h4⟩ := look_rel r h2
    exact .inr ⟨p, v, rfl, .inl ⟨_, k, hp, keyD_kV h1 hy, h3.symm⟩, q v h4⟩
  · obtain ⟨k, h1, h2⟩ := Option.bind_eq_some_iff.mp e
    obtain ⟨p, vs, rfl, hp, hl, r⟩ := rdR_dt fz hx
    obtain ⟨v, h3, h4⟩ := look_rel r h2
    cases hy with
    | tup hF rk =>
      have hk := keysD_kV h1 rk
      subst hk
      exact .inr ⟨p, v, rfl, .inr ⟨_, k, _, hp, rfl, tx _ _ hF rfl, h3.symm⟩, q v h4⟩
  · cases e
theorem ix_any (hu : X.A.units + 1 < cLine) : IxR X (fun x y H Q => rIx X.K x y H Q ∨ ∃ a v, x = .ref a ∧ DGet H a y (some v) ∧ Q v H) := by
  refine IxR.or ix_seq ?_
  intro value slice pins s σ H x y v u Q I rx ry h hs
  obtain ⟨a, w, rfl, g, q⟩ := h
  obtain rfl : v = Value.ref a := rx
  have hT := dict_typeIs I g
  unfold subscriptTail
  refine wpAny_bind ?_
  rw [getitemInPython_of_ne hT.not_modules]
  refine wpAny_bind (wpAny_specialOf hT PySem.F.slot_dict_getitem.lookup ?_)
  have fin : wpAny (model X.prog X.w) X.A (subscripted slice false (.ref a) u) (fun r s₃ => wpAny (model X.prog X.w) X.A (letTemporaryGo value (.ref a) r >>= fun _ => pure r) (EP X pins σ Q) X.xe s₃) X.xe s := by
    rw [hs]
    exact wpAny_operating (wpAny_mono (d_getItem hu I g ry fun w' s3 I3 rw' => (⟨w, H, I3, rw', q⟩ : EP X pins σ Q w' s3)) (fun r s₃ h₃ => wpAny_bind (wpAny_letTemporaryGo (wpAny_pure h₃))) fun _ _ x => x)
  first
    | exact wpAny_pure (wpAny_bind fin)
    | exact wpAny_bind (wpAny_pure (wpAny_bind fin))
    | exact wpAny_bind fin
theorem s_idx (hu : X.A.units + 1 < cLine) {a b : Expr} {ia ib : E} {pos : Pos} (hb2 : noSlice b = true) (ha : PE X a (tR A C W ia)) (hb : PE X b (tV A C W ib)) : PE X (.Subscript a b pos) (tE A C W (.idx ia ib)) :=
  peImp (pe_ix (ix_any hu) ha hb (plainIx hb2)) fun σ H Q ⟨Z, ρ, S, g, p⟩ => by
    rw [evE_idx] at p
    refine ⟨Z, ρ, S, g, p.bind.imp fun Z1 S1 H1 dx z1 g1 p1 x rx => ⟨Z1, ρ, S1, g1, p1.bind.imp fun Z2 S2 H2 dy z2 g2 p2 y ry => ?_⟩⟩
    obtain ⟨d, e, p3⟩ := p2.of
    exact idx_of g2.tx g2.fz X.K (g2.look (rx.mono z2)) ry e fun v r => p3.ok g2 v (.of r (by simp [isFresh]))
/-! ### slices -/
def tO (A : Act) (C : Ev) (W : WX) (e : Option E) : TO := fun σ H Q => ∃ Z ρ S, Gd A Z ρ S σ H ∧ post A W σ Z ρ (evO C e ρ S) fun Z' S' H' o => Q o H'
theorem evO_none : evO C none ρ S = .ok none S := by rw [evO]
theorem evO_some {e : E} : evO C (some e) ρ S = (evE C e ρ S).bind fun x S => match x with
    | .int i => .ok (some i) S
    | _ => .stuck := by rw [evO] <;> rfl
theorem poImp {e : Option Expr} {t t' : TO} (h : PO X e t) (f : ∀ σ H Q, t' σ H Q → t σ H Q) : PO X e t' := ⟨fun pins s σ H Q I q => h.run pins s σ H Q I (f σ H Q q)⟩
theorem o_none : PO X none (tO A C W none) := poImp po_none fun σ H Q ⟨Z, ρ, S, g, p⟩ => by
  rw [evO_none] at p
  exact p.ok g
theorem o_some {e : Expr} {i : E} (h : PE X e (tV A C W i)) : PO X (some e) (tO A C W (some i)) := poImp (po_some h) fun σ H Q ⟨Z, ρ, S, g, p⟩ => by
  rw [evO_some] at p
  refine ⟨Z, ρ, S, g, p.bind.imp fun Z1 S1 H1 d z1 g1 p1 v rv => ?_⟩
  split at p1
  · cases rv
    exact ⟨_, rfl, p1.ok g1⟩
  · exact p1.elim
theorem cut_rel {xs : List D} {vs : List V} (r : RelDs Z xs vs) (lo hi : Option Int) : RelDs Z (cutL xs lo hi) (cutV vs lo hi) := by
  unfold cutL cutV
  rw [r.length]
  exact (r.drop _).take _
theorem cutS_len (z : Str) (lo hi : Option Int) : (cutS z lo hi).length ≤ z.length := by
  unfold cutS
  simp [Str.length]
  omega
theorem slc_of (fz : ∀ p o, Z.F p = some o → Rd H p o) (K : PySem.W.Frag) {dx d : D} {x : V} {lo hi : Option Int} {Q : VK} (hx : RdR Z H dx x) (e : slcD dx lo hi = some d) (q : ∀ v H', Made Z H d v H' → Q v H') :
    (fun x lo hi H Q => rSlL K x lo hi H Q ∨ rSlA K x lo hi H Q ∨ rSlS x lo hi H Q) x lo hi H Q := by
  unfold slcD at e
  split at e
  · obtain ⟨p, vs, rfl, hp, r⟩ := rdR_lst (K := K) fz hx
    cases e
    exact .inl ⟨p, vs, rfl, .inl hp, fun a ha => q _ _ (.inr (.inl ⟨a, _, rfl, .lst (cut_rel r lo hi), ha, rfl⟩))⟩
  · rename_i xs
    obtain ⟨p, vs, rfl, hp, r⟩ := rdR_tup (K := K) fz hx
    cases e
    refine .inr (.inl ⟨p, vs, rfl, .inl hp, fun hw => q _ _ (.inl ⟨rfl, ?_, rfl⟩), fun hw a ha => q _ _ (.inr (.inr ⟨a, _, _, rfl, rfl, cut_rel r lo hi, ha, rfl⟩))⟩)
    have e2 : cutL xs lo hi = xs := by
      unfold cutL
      rw [r.length, hw.1, hw.2]
      simp [← r.length]
    rw [e2]
    cases hx with
    | rel r => exact r
    | box b hr => cases b
  · obtain ⟨rfl, hz⟩ := rdR_str hx
    cases e
    exact .inr (.inr ⟨_, rfl, hz, q _ _ (.inl ⟨rfl, .str _ (Nat.le_trans (cutS_len _ _ _) hz), rfl⟩)⟩)
  · cases e
theorem s_slc {a : Expr} {lo hi : Option Expr} {ia : E} {il ih : Option E} {p2 pos : Pos} (ha : PE X a (tR A C W ia)) (hl : PO X lo (tO A C W il)) (hh : PO X hi (tO A C W ih)) : PE X (.Subscript a (.Slice lo hi none p2) pos) (tE A C W (.slc ia il ih)) :=
  peImp (pe_slice (p2 := p2) (pos := pos) (sl_list.or (sl_tupA.or sl_str)) ha hl hh) fun σ H Q ⟨Z, ρ, S, g, p⟩ => by
    rw [evE_slc] at p
    refine ⟨Z, ρ, S, g, p.bind.imp fun Z1 S1 H1 dx z1 g1 p1 x rx => ⟨Z1, ρ, S1, g1, p1.bind.imp fun Z2 S2 H2 dl z2 g2 p2 => ⟨Z2, ρ, S2, g2, p2.bind.imp fun Z3 S3 H3 dh z3 g3 p3 => ?_⟩⟩⟩
    obtain ⟨d, e, p4⟩ := p3.of
    refine slc_of g3.fz X.K (g3.look ((rx.mono z2).mono z3)) e fun v H' hm => ?_
    obtain ⟨Z4, z4, g4, r4⟩ := hm.res (fr := true) g3 (fun _ => rfl)
    exact p4 Z4 H' z4 g4 v r4
theorem s_srev {a : Expr} {ia : E} {k : Nat} {p1 p2 p3 pos : Pos} (ha : PE X a (tR A C W ia)) : PE X (.Subscript a (.Slice none none (some (.UnaryOp .USub (.Constant (.int 1) k p1) p2)) p3) pos) (tE A C W (.srev ia)) :=
  peImp (pe_revL ha) fun σ H Q ⟨Z, ρ, S, g, p⟩ => by
    rw [evE_srev] at p
    refine ⟨Z, ρ, S, g, (post_rdv p.bind).imp fun Z1 S1 H1 dx z1 g1 p1 x rx => ?_⟩
    split at p1
    · rename_i xs e
      have hx := g1.look rx
      rw [e] at hx
      obtain ⟨q, vs, rfl, hq, r⟩ := rdR_lst (K := X.K) g1.fz hx
      refine ⟨q, vs, rfl, .inl hq, fun a ha => ?_⟩
      obtain ⟨g2, r2⟩ := Res1.box (fr := isFresh C.tb (.srev ia)) g1 (by rw [isFresh]) (.lst r.reverse) ha
      exact p1 _ _ .refl g2 _ r2
    · exact p1.elim
end
end MP

set_option maxRecDepth 100000
set_option maxHeartbeats 4000000
/-! MiniPy: calls of defs, methods, classes. -/
namespace MP
open PySem PySem.Spec L2
open PyProof.Rows hiding St
/-- a def's result, as the caller sees it -/
def ResN (Z' : Zw) (H H' : Hp) (fr : Bool) (d : D) (v : V) : Prop := if (fr && isBox d) = true then ∃ p o, v = .ref p ∧ BoxO Z' d o ∧ H' p = some o ∧ Z'.F p = none ∧ p ∉ Z'.m ∧ H p = none else RelD Z' d v
/-- what is asked of the store's place in the heap, ahead of a call -/
structure Ahead (A : Act) (Z : Zw) (S : Sto) (H : Hp) : Prop where
  kk : Z.K = A.K
  ff : Z.fa = A.fa
  fz : ∀ p o, Z.F p = some o → Rd H p o
  tx : ∀ p o, Z.F p = some o → isDO o = false → H p = some o
  lz : ∀ p o, Z.L p = some o → ∃ u, Z.F p = some u ∧ H p = some (.frz o u)
  cl : Cells Z A.ca S H
/-- a def's promise, by the interpreter -/
def dSp (A : Act) (fr : Bool) (call : List D → Sto → Res D) : Sp := fun vs H Q E => ∃ Z ds S, Ahead A Z S H ∧ RelDs Z ds vs ∧ match call ds S with
  | .ok d S' => ∀ Z' H' v, Step A.ca Z Z' S' H H' → ResN Z' H H' fr d v → Q v H'
  | .exc c S' => ∀ Z' H', Step A.ca Z Z' S' H H' → E (.ref (A.xa c)) none H'
  | .stuck => False
section
variable {X : Cx} {A : Act} {C : Ev} {W : WX} {Z Z' Z1 : Zw} {ρ : Frame} {S S' : Sto} {σ : St} {H H' : Hp}
theorem Gd.ahead (g : Gd A Z ρ S σ H) : Ahead A Z S H := ⟨g.kk, g.ff, g.fz, g.tx, g.lz, g.cl⟩
theorem ResN.res {fr : Bool} {d : D} {v : V} (g : Gd A Z ρ S σ H) (st : Step A.ca Z Z' S' H H') (r : ResN Z' H H' fr d v) : Res1 A Z' ρ σ H' fr d v := by
  unfold ResN at r
  unfold Res1
  by_cases e : (fr && isBox d) = true
  · rw [if_pos e] at r ⊢
    obtain ⟨p, o, ev, bx, hp, nf, nm, n0⟩ := r
    refine ⟨p, o, ev, bx, hp, nf, nm, g.h0 n0, fun i ⟨⟨d, h1⟩, h2⟩ => ?_⟩
    obtain ⟨p', o', e', _, rd, _⟩ := g.sl i _ _ h1 h2
    cases e'
    rw [n0] at rd
    cases rd
  · rw [if_neg e] at r ⊢
    exact r
/-- a def's call: what the caller wants of it -/
theorem call_of {fr : Bool} {call : List D → Sto → Res D} {ds : List D} {vs : List V} {Q : VK} (g : Gd A Z ρ S σ H) (rs : RelDs Z ds vs)
    (p : post A W σ Z ρ (call ds S) fun Z' S' H' d => ∀ v, Res1 A Z' ρ σ H' fr d v → Q v H') : dSp A fr call vs H Q (WE W σ) := by
  refine ⟨Z, ds, S, g.ahead, rs, ?_⟩
  revert p
  cases call ds S with
  | ok d S' => exact fun p Z' H' v st r => p Z' H' st.k (g.step' st) v (r.res g st)
  | exc c S' => exact fun p Z' H' st => p Z' H' st.k (g.step' st)
  | stuck => exact id
/-- constants -/
def konst : D → Option V
  | .non => some .non
  | .bl b => some (.bl b)
  | .int i => some (.int i)
  | _ => none
def konsts : List D → Option (List V)
  | [] => some []
  | d :: ds => match konst d, konsts ds with
    | some v, some vs => some (v :: vs)
    | _, _ => none
theorem konst_rel {d : D} {v : V} (h : konst d = some v) : RelD Z d v := by
  cases d <;> cases h <;> constructor
theorem konsts_rel : ∀ {ds : List D} {vs : List V}, konsts ds = some vs → RelDs Z ds vs
  | [], _, h => by cases h; exact .nil
  | d :: ds, _, h => by
    rw [konsts] at h
    split at h
    · rename_i v vs e1 e2
      cases h
      exact .cons (konst_rel e1) (konsts_rel e2)
    · cases h
/-- as FnOk, where no value is being written out -/
structure FnG (P : Program) (w : World) (K : PySem.W.Frag) (mg : Str → Option Value) (base : Heap) (CX : CXT) (k : Nat) (f : Addr) (fd : FuncData) (ps : List Str) (sp : Sp) : Prop where
  len : ∀ vs H Q E, sp vs H Q E → vs.length = ps.length
  run : ∀ (A : Around) (outer : List Env) (s : Shared) (H : Hp) (args : Args) (us : List Value) (vs : List V) (Q : VK) (E : XK), Room k A → A.guards = some [] → Env0 P w K mg base A outer s H → BindsTo s fd args (ps.zip us) → Vals vs us → sp vs H Q E →
    codeAny (model P w) A (.call (.ref f) args) (CR CX outer P w H s Q E) s
theorem FnG.imp {P : Program} {w : World} {K : PySem.W.Frag} {mg : Str → Option Value} {base : Heap} {CX : CXT} {k : Nat} {f : Addr} {fd : FuncData} {ps : List Str} {sp sp' : Sp} (F : FnG P w K mg base CX k f fd ps sp)
    (h : ∀ vs H Q E, sp' vs H Q E → sp vs H Q E) : FnG P w K mg base CX k f fd ps sp' :=
  ⟨fun vs H Q E q => F.len vs H Q E (h _ _ _ _ q), fun A outer s H args us vs Q E hr hg he hb hv hs => F.run A outer s H args us vs Q E hr hg he hb hv (h _ _ _ _ hs)⟩
theorem gd_make {A : Around} (h : A.guards = some []) (C : Addr) (us : List Value) (kw : List (Str × Value)) : (A.under (.builtin "type.__call__" ⟨.ref C :: us, kw⟩)).guards = some [] := by
  obtain ⟨hd, d, fr, gs, u⟩ := A
  subst h
  rfl
/-- a def that may be called: n written arguments, dd the defaults' values -/
structure Callee (X : Cx) (A : Act) (C : Ev) (f : Nat) (n : Nat) (dd : List D) (j : Nat) : Prop where
  ex : ∃ k fd ps dvs ds, FnG X.prog X.w X.K X.mg X.base (L2.CX X.prog X.w) k (A.fa f) fd ps (dSp A ((C.tb.fns[f]?).any (·.fr)) (C.call f)) ∧ Room (k + j) X.A ∧
    Binds X.K fd ps ds ∧ Vals dvs ds ∧ konsts dd = some dvs ∧ ps.length = n + dd.length
  kp : PySem.W.keepIn X.K (.ref (A.fa f)) = true
  gd : X.A.guards = some []
theorem plainAll {es : List Expr} {env : Env} {pos : Pos} (h : ∀ e, e ∈ es → noStar e = true) : ∀ q, q ∈ backTo pos (starEach es env) → q.1 = false := by
  have h1 : ∀ l : List (Bool × Sem Value), (∀ q, q ∈ l → q.1 = false) → ∀ q, q ∈ backTo pos l → q.1 = false := fun l hl q hq => by
    obtain ⟨q', hq', rfl⟩ := List.mem_map.mp hq
    exact hl q' hq'
  refine h1 _ ?_
  clear h1
  induction es with
  | nil => intro q hq; cases hq
  | cons e es ih =>
    rw [starE (h e (by simp))]
    intro q hq
    rcases List.mem_cons.mp hq with rfl | hq
    · rfl
    · exact ih (fun e he => h e (by simp [he])) q hq
theorem evalArgs_any {M : Model} {A : Around} {E : Value → Shared → Prop} {s : Shared} {f : Value} {l : List (Bool × Sem Value)} {Q : Args → Shared → Prop} (hl : ∀ q, q ∈ l → q.1 = false)
    (h : wpAny M A (spliced l) (fun vs s' => Q ⟨vs, []⟩ s') E s) : wpAny M A (evalArgs f true l []) Q E s := by
  cases l with
  | nil =>
    unfold evalArgs
    show wpAny M A (spliced [] >>= _) Q E s
    refine wpAny_bind (wpAny_mono h (fun vs s' h' => ?_) fun _ _ x => x)
    refine wpAny_holding ?_
    exact wpAny_bind (wpAny_pure (wpAny_bind (wpAny_pure (wpAny_bind (wpAny_pure (wpAny_pure h'))))))
  | cons q l =>
    obtain ⟨b, x⟩ := q
    have hb : b = false := hl (b, x) (by simp)
    subst hb
    exact Calls.evalArgs_plain h
theorem callWith_KA {K : PySem.W.Frag} {M : Model} {A : Around} {E : Value → Shared → Prop} {s : Shared} {f : Value} {first : List Value} {env : Env} {pos : Pos} {es : List Expr} {Q : Value → Shared → Prop} (hk : PySem.W.keepIn K f = true) (hn : ∀ e, e ∈ es → noStar e = true)
    (h : wpAny M A (spliced (backTo pos (starEach es env))) (fun vs s₁ => K.In s₁.heap ∧ wpAny M A (call f (first ++ vs)) Q E s₁) E s) :
    wpAny M A (callWith pos f first (backTo pos (starEach es env)) []) Q E s := by
  refine PySem.W.callWith_of ?_ (PySem.W.keeps_K hk) (evalArgs_any (plainAll hn) h)
  rw [Bool.or_eq_false_iff]
  refine ⟨?_, rfl⟩
  rw [List.any_eq_false]
  intro q hq
  rw [plainAll hn q hq]
  exact Bool.false_ne_true
theorem methForm {es : List Expr} {env : Env} {pos : Pos} (hn : ∀ e, e ∈ es → noStar e = true) (hl : es.length < 30) : methodCallForm (es.length + ([] : List Keyword).length) (backTo pos (starEach es env)) (backToKw pos (keywordEach [] env)) = true := by
  unfold methodCallForm
  simp only [Bool.and_eq_true, decide_eq_true_eq]
  refine ⟨⟨?_, rfl⟩, hl⟩
  rw [List.all_eq_true]
  intro q hq
  rw [plainAll hn q hq]
  rfl
theorem methEval {o : Expr} {m : Str} {apos pos : Pos} {es : List Expr} {env : Env} (ho : noSuper o = true) (hn : ∀ e, e ∈ es → noStar e = true) (hl : es.length < 30) (hline : (apos.endLine == pos.line) = true) :
    eval (.Call (.Attribute o m apos) es [] pos) env = (do
      let ov ← eval o env
      standAt apos.atName
      let (f, first) ← holding [ov] (getMethod ov m (do return (← importBound o env).getD true))
      callWith pos f first (backTo pos (starEach es env)) (backToKw pos (keywordEach [] env))) := by
  have hpos : methodCallPos true o env apos pos = pure pos := by unfold methodCallPos; simp [hline]
  rw [arm_eval_Call, superE ho]
  unfold methodCall
  rw [methForm hn hl, hpos]
  simp only [calleeOf, if_true]
  rfl
theorem tAs_len {is : List E} {ds : List D} {S1 : Sto} (h : evEs C is ρ S = .ok ds S1) : ds.length = is.length := by
  induction is generalizing ds S S1 with
  | nil => rw [evEs_nil] at h; cases h; rfl
  | cons i is ih =>
    rw [evEs_cons] at h
    cases e1 : evE C i ρ S with
    | ok x S2 =>
      rw [e1] at h
      simp only [Res.bind] at h
      cases e2 : evEs C is ρ S2 with
      | ok xs S3 =>
        rw [e2] at h
        simp only at h
        cases h
        simp [ih e2]
      | exc c S3 => rw [e2] at h; cases h
      | stuck => rw [e2] at h; cases h
    | exc c S2 => rw [e1] at h; cases h
    | stuck => rw [e1] at h; cases h
theorem run_fnSD {CX : CXT} {k : Nat} {f : Addr} {fd : FuncData} {ps : List Str} {sp : Sp} {E : St → XK} {dvs : List V} {ds : List Value} {pins : List (Addr × Obj)} {s : Shared} {Q : VK} {us : List Value} {vs : List V} (F : FnG X.prog X.w X.K X.mg X.base CX k f fd ps sp) (hr : Room k X.A) (hgd : X.A.guards = some []) (hb : Binds X.K fd ps ds) (hd : Vals dvs ds) (hx : PassesAt CX X σ (E σ))
    (I : Inv X pins σ H s) (r : Vals vs us) (h : sp (vs ++ dvs) H Q (E σ)) : wpAny (model X.prog X.w) X.A (call (.ref f) us) (EP X pins σ Q) X.xe s := by
  have r2 : Vals (vs ++ dvs) (us ++ ds) := r.append hd
  have hl : (us ++ ds).length = ps.length := by rw [← r2.length]; exact F.len _ _ _ _ h
  refine wpAny_call (codeAny_mono (F.run X.A X.stack s H ⟨us, []⟩ (us ++ ds) (vs ++ dvs) Q (E σ) hr hgd I.env0 (hb s us I.kIn hl) r2 h) fun r s' hq => ?_)
  cases r with
  | error e => exact hx pins H s e s' I hq
  | ok fl =>
    cases fl with
    | ret u => exact I.after hq
    | next => exact False.elim hq
    | brk => exact False.elim hq
    | cont => exact False.elim hq
theorem calm_of {α : Type} {r : Res α} {k : Zw → Sto → Hp → α → Prop} (p : post A W σ Z ρ (calmly C r) k) : post A W σ Z ρ r k := by
  unfold calmly at p
  split at p
  · exact p.elim
  · exact p
theorem tE_post {i : E} {Q : VK} {r : Res D} (e : evE C i ρ S = r) (p : post A W σ Z ρ r fun Z' S' H' d => ∀ v, Res1 A Z' ρ σ H' (isFresh C.tb i) d v → Q v H') (g : Gd A Z ρ S σ H) : tE A C W i σ H Q := ⟨Z, ρ, S, g, by rw [e]; exact p⟩
theorem post_thaw {r : Res D} {b : Bool} {Q : VK} (p : post A W σ Z ρ r fun Z' S' H' d => ∀ v, Res1 A Z' ρ σ H' false d v → Q v H') : post A W σ Z ρ r fun Z' S' H' d => ∀ v, Res1 A Z' ρ σ H' b d v → Q v H' := by
  cases r with
  | ok d S' =>
    intro Z' H' z' g' v r
    obtain ⟨Z2, z2, g2, r2⟩ := r.thaw g'
    exact p Z2 H' (z'.trans z2) g2 v (.of r2 (by simp))
  | exc c S' => exact p
  | stuck => exact p
/-- f(..) -/
theorem s_call {es : List Expr} {is : List E} {dd : List D} {x : Str} {p pos : Pos} {f : Nat} (tk : Takes X W) (F : Callee X A C f is.length dd 0) (hg : Gl X x) (hm : X.mg x = some (.ref (A.fa f))) (hn : ∀ e, e ∈ es → noStar e = true) (ha : PA X es (tAs A C W is)) (hdb : (x == ("__debug__" : Str)) = false) :
    PE X (.Call (.Name x p) es [] pos) (tE A C W (.call f is dd)) := by
  have FF := F
  obtain ⟨k, fd, ps, dvs, dv, F, hr, hb, hd, hk, hl⟩ := F.ex
  refine ⟨fun pins s σ H Q I ⟨Z, ρ, S, g, p⟩ => ?_⟩
  rw [evE_call] at p
  have p := calm_of p
  refine wpAny_Call_Name_kw (ld_glob I hg hm ?_ hdb)
  refine callWith_KA FF.kp hn (thn (ha.run pos pins s σ H (fun vs H1 => ∃ Z1 S1 ds, Gd A Z1 ρ S1 σ H1 ∧ RelDs Z1 ds vs ∧ post A W σ Z1 ρ (C.call f (ds ++ dd) S1) (fun Z' S' H' d => ∀ v, Res1 A Z' ρ σ H' (isFresh C.tb (.call f is dd)) d v → Q v H')) I ⟨Z, ρ, S, g, p.bind.imp fun Z1 S1 H1 ds z1 g1 p1 vs rs => ⟨Z1, S1, ds, g1, rs, p1⟩⟩) fun us s1 ⟨vs, H1, I1, r, Z1, S1, ds, g1, rs, p1⟩ => ⟨I1.kIn, ?_⟩)
  exact run_fnSD (E := WE W) F (hr.mono (Nat.le_add_right _ _)) FF.gd hb hd (passAt tk σ) I1 r (call_of g1 (rs.append (konsts_rel hk)) p1)
/-- o.m(..), by the instance's class -/
structure Disp (X : Cx) (A : Act) (C : Ev) (m : Str) (n : Nat) (dd : List D) : Prop where
  cls : ∀ c k, C.tb.clss[c]? = some k → Cls X.K (A.ca c)
  meth : ∀ c k f, C.tb.clss[c]? = some k → k.meths.lookup m = some f → Meth X.K (A.ca c) m (A.fa f) ∧ Callee X A C f (n + 1) dd 0
theorem fld_none {fs : List (Str × D)} {gs : List (Str × V)} {m : Str} (h : Flds Z fs gs) (e : lookF m fs = none) : gs.lookup m = none := by
  obtain ⟨h1, h2⟩ := h
  induction fs generalizing gs with
  | nil =>
    cases gs with
    | nil => rfl
    | cons _ _ => cases h1
  | cons q fs ih =>
    cases gs with
    | nil => cases h1
    | cons r gs =>
      obtain ⟨a, x⟩ := q
      obtain ⟨b, y⟩ := r
      simp only [List.map_cons, List.cons.injEq] at h1
      obtain ⟨h1a, h1b⟩ := h1
      cases h2 with
      | cons hx ht =>
        unfold lookF at e
        simp only [List.lookup_cons] at e ⊢
        subst h1a
        by_cases hm : (m == a) = true
        · rw [hm] at e; cases e
        · rw [Bool.not_eq_true] at hm
          rw [hm] at e ⊢
          exact ih e h1b ht
theorem fld_some {fs : List (Str × D)} {gs : List (Str × V)} {m : Str} {d : D} (h : Flds Z fs gs) (e : lookF m fs = some d) : ∃ v, gs.lookup m = some v ∧ RelD Z d v := by
  obtain ⟨h1, h2⟩ := h
  induction fs generalizing gs with
  | nil => cases e
  | cons q fs ih =>
    cases gs with
    | nil => cases h1
    | cons r gs =>
      obtain ⟨a, x⟩ := q
      obtain ⟨b, y⟩ := r
      simp only [List.map_cons, List.cons.injEq] at h1
      obtain ⟨h1a, h1b⟩ := h1
      cases h2 with
      | cons hx ht =>
        unfold lookF at e
        simp only [List.lookup_cons] at e ⊢
        subst h1a
        by_cases hm : (m == a) = true
        · rw [hm] at e ⊢
          cases e
          exact ⟨_, rfl, hx⟩
        · rw [Bool.not_eq_true] at hm
          rw [hm] at e ⊢
          exact ih e h1b ht
theorem cell_ins (g : Gd A Z ρ S σ H) {i c : Nat} {fs : List (Str × D)} {v : V} (r : RelD Z (.ref i) v) (e : S[i]? = some (.ins c fs)) : ∃ a dx gs, v = .ref a ∧ Z.m[i]? = some a ∧ H a = some (.ins (A.ca c) dx gs) ∧ Flds Z fs gs := by
  cases r with
  | ref hm =>
    rename_i a
    have q := (g.cl.at_ i _ _ e hm).1
    generalize hh : H a = oo at q
    cases q with
    | box e' r => cases e'
    | ins r => exact ⟨a, _, _, rfl, hm, hh, r⟩
theorem s_meth {o : Expr} {es : List Expr} {io : E} {is : List E} {dd : List D} {m : Str} {apos pos : Pos} {fr : Bool} (tk : Takes X W) (F : Disp X A C m is.length dd) (ho : PE X o (tV A C W io)) (hn : ∀ e, e ∈ es → noStar e = true) (hl : es.length < 30) (hs : noSuper o = true) (hline : (apos.endLine == pos.line) = true)
    (ha : PA X es (tAs A C W is)) : PE X (.Call (.Attribute o m apos) es [] pos) (tE A C W (.meth io m is dd fr)) := by
  refine ⟨fun pins s σ H Q I ⟨Z, ρ, S, g, p⟩ => ?_⟩
  rw [evE_meth] at p
  have p := (calm_of p).bind
  refine PySem.W.methodCall_KW (thn (ho.run pins s σ H (fun x H1 => ∃ Z1 S1 d, Gd A Z1 ρ S1 σ H1 ∧ RelD Z1 d x ∧ post A W σ Z1 ρ (match d with
    | .ref i => (match S1[i]? with
      | some (.ins c fs) => (match (C.tb.clss[c]?).bind fun k => k.meths.lookup m with
        | some f => if (fr && !((C.tb.fns[f]?).any (·.fr))) || (lookF m fs).isSome then .stuck else (evEs C is ρ S1).bind fun xs S => C.call f (.ref i :: (xs ++ dd)) S
        | none => .stuck)
      | _ => .stuck)
    | _ => .stuck : Res D) fun Z' S' H' d => ∀ v, Res1 A Z' ρ σ H' (isFresh C.tb (.meth io m is dd fr)) d v → Q v H') I ⟨Z, ρ, S, g, p.imp fun Z1 S1 H1 d z1 g1 p1 v rv => ⟨Z1, S1, d, g1, rv, p1⟩⟩) fun u s1 ⟨x, H1, I1, rx, Z1, S1, d, g1, rd, p1⟩ => ?_) (methEval hs hn hl hline)
  split at p1
  · rename_i i
    split at p1
    · rename_i c fs hS
      split at p1
      · rename_i f hf
        obtain ⟨kk, hk1, hk2⟩ := Option.bind_eq_some_iff.mp hf
        split at p1
        · exact p1.elim
        · rename_i hfr
          obtain ⟨a, dx, gs, rfl, hm, hH, hfl⟩ := cell_ins g1 rd hS
          obtain rfl : u = Value.ref a := rx
          obtain ⟨hmeth, hcal⟩ := F.meth c kk f hk1 hk2
          obtain ⟨k, fd, ps, dvs, dv, F', hr, hb, hd, hkk, hlen⟩ := hcal.ex
          simp only [Bool.or_eq_true, not_or, Bool.not_eq_true, Option.isSome_eq_false_iff, Option.isNone_iff_eq_none] at hfr
          have p1 := p1.bind
          refine getmeth_ok I1 hH (F.cls c kk hk1) hmeth (fld_none hfl hfr.2) ?_
          refine callWith_KA (first := [.ref a]) hmeth.kp hn (thn (ha.run pos pins s1 σ H1 (fun vs H2 => ∃ Z2 S2 ds, Zle Z1 Z2 ∧ Gd A Z2 ρ S2 σ H2 ∧ RelDs Z2 ds vs ∧ post A W σ Z2 ρ (C.call f (.ref i :: (ds ++ dd)) S2) (fun Z' S' H' d => ∀ v, Res1 A Z' ρ σ H' (isFresh C.tb (.meth io m is dd fr)) d v → Q v H')) I1 ⟨Z1, ρ, S1, g1, p1.imp fun Z2 S2 H2 ds z2 g2 p2 vs rs => ⟨Z2, S2, ds, z2, g2, rs, p2⟩⟩) fun us s2 ⟨vs, H2, I2, r, Z2, S2, ds, z2, g2, rs, p2⟩ => ⟨I2.kIn, ?_⟩)
          refine run_fnSD (us := .ref a :: us) (vs := .ref a :: vs) (E := WE W) F' (hr.mono (Nat.le_add_right _ _)) hcal.gd hb hd (passAt tk σ) I2 (.cons rfl r) (call_of g2 (.cons (rd.mono z2) (rs.append (konsts_rel hkk))) ?_)
          have e : isFresh C.tb (.meth io m is dd fr) = fr := by rw [isFresh]
          rw [e] at p2
          cases fr with
          | true =>
            have e2 : (C.tb.fns[f]?).any (·.fr) = true := by simpa using hfr.1
            rw [e2]
            exact p2
          | false => exact post_thaw p2
      · exact p1.elim
    · exact p1.elim
  · exact p1.elim
/-! ### a new cell -/
def Zw.cell (Z : Zw) (p : Addr) : Zw := { Z with m := Z.m ++ [p] }
theorem Zw.cell_le {p : Addr} : Zle Z (Z.cell p) := ⟨rfl, rfl, fun _ _ h => h, fun i q h => by
  show (Z.m ++ [p])[i]? = some q
  rw [List.getElem?_append_left (List.getElem?_eq_some_iff.mp h).1]
  exact h, fun _ _ h => h⟩
theorem Zw.cell_at {p : Addr} : (Z.cell p).m[Z.m.length]? = some p := by
  show (Z.m ++ [p])[Z.m.length]? = some p
  simp
theorem Gd.addCell (g : Gd A Z ρ S σ H) {p : Addr} {c : Cell} (hc : CellO (Z.cell p) A.ca c (H p)) (nf : Z.F p = none) (nm : p ∉ Z.m) (n0 : A.H0 p = none) (no : ∀ i, ¬ OwnAt ρ σ i p) : Gd A (Z.cell p) ρ (S ++ [c]) σ H := by
  have k : Zle Z (Z.cell p) := Zw.cell_le
  refine ⟨g.kk, g.ff, g.fz, g.tx, g.lz, ⟨?_, ?_, fun i x q h1 h2 => ?_⟩, g.len, fun i s v h1 h2 => ?_, g.od, g.o0, g.ent, g.nf, ?_, g.f0⟩
  · show (Z.m ++ [p]).length = (S ++ [c]).length
    simp [g.cl.len]
  · show (Z.m ++ [p]).Nodup
    rw [List.nodup_append]
    refine ⟨g.cl.nd, by simp, fun a ha b hb => ?_⟩
    rw [List.mem_singleton.mp hb]
    exact fun e => nm (e ▸ ha)
  · have h2' : (Z.m ++ [p])[i]? = some q := h2
    by_cases hi : i < S.length
    · rw [List.getElem?_append_left hi] at h1
      rw [List.getElem?_append_left (by rw [g.cl.len]; exact hi)] at h2'
      obtain ⟨a, b⟩ := g.cl.at_ i x q h1 h2'
      exact ⟨a.mono k, b⟩
    · have e : i = S.length := by
        have := (List.getElem?_eq_some_iff.mp h1).1
        simp at this
        omega
      subst e
      have e1 : c = x := by simpa using h1
      have e2 : p = q := by
        rw [← g.cl.len] at h2'
        simpa using h2'
      subst e1 e2
      exact ⟨hc, fun _ => nf⟩
  · have q := g.sl i s v h1 h2
    cases s with
    | no => trivial
    | val d =>
      obtain ⟨x, e, rx⟩ := q
      exact ⟨x, e, rx.mono k⟩
    | own d =>
      obtain ⟨q, u, e, b, rd, nf, nm2⟩ := q
      refine ⟨q, u, e, b.mono k, rd, nf, fun hm => ?_⟩
      rcases List.mem_append.mp (show q ∈ Z.m ++ [p] from hm) with hm | hm
      · exact nm2 hm
      · exact no i ⟨⟨d, h1⟩, by rw [h2, e, List.mem_singleton.mp hm]⟩
  · obtain ⟨r0, e0, n00⟩ := g.nm
    refine ⟨r0 ++ [p], by show Z.m ++ [p] = _; rw [e0, List.append_assoc], fun q hq => ?_⟩
    rcases List.mem_append.mp hq with hq | hq
    · exact n00 q hq
    · rw [List.mem_singleton.mp hq]
      exact n0
theorem Gd.noOwn (g : Gd A Z ρ S σ H) {p : Addr} (hp : H p = none) : ∀ i, ¬ OwnAt ρ σ i p := fun i ⟨⟨d, h1⟩, h2⟩ => by
  obtain ⟨p', o', e', _, rd, _⟩ := g.sl i _ _ h1 h2
  cases e'
  rw [hp] at rd
  cases rd
theorem Gd.nof (g : Gd A Z ρ S σ H) {p : Addr} (hp : H p = none) : Z.F p = none := by
  cases e : Z.F p with
  | none => rfl
  | some u => exact absurd hp (g.fthere e)
theorem Gd.nom (g : Gd A Z ρ S σ H) {p : Addr} (hp : H p = none) : p ∉ Z.m := fun hm => g.mthere hm hp
/-- a new instance -/
theorem Gd.made (g : Gd A Z ρ S σ H) {x dx : Addr} {c : Nat} (hx : H x = none) (hd : H dx = none) (ne : dx ≠ x) : Gd A (Z.cell x) ρ (S ++ [.ins c []]) σ (upd (upd H dx (.own x)) x (.ins (A.ca c) dx [])) := by
  have g1 : Gd A Z ρ S σ (upd H dx (.own x)) := g.new hd
  have hx1 : upd H dx (.own x) x = none := by rw [upd_ne (fun e => ne e.symm)]; exact hx
  have g2 : Gd A Z ρ S σ (upd (upd H dx (.own x)) x (.ins (A.ca c) dx [])) := g1.new hx1
  refine g2.addCell (by rw [upd_same]; exact .ins ⟨rfl, .nil⟩) (g.nof hx) (g.nom hx) (g.h0 hx) fun i ⟨⟨d, h1⟩, h2⟩ => g.noOwn hx i ⟨⟨d, h1⟩, h2⟩
theorem run_makeS {CX : CXT} {k : Nat} {f Cc : Addr} {fd : FuncData} {ps : List Str} {sp : Sp} {E : St → XK} {dvs : List V} {ds : List Value} {pins : List (Addr × Obj)} {s : Shared} {Q : VK} {us : List Value} {vs : List V} (M : Mk X.K Cc f) (F : FnG X.prog X.w X.K X.mg X.base CX k f fd ps sp) (hr : Room (k + 1) X.A) (hgd : X.A.guards = some []) (hb : Binds X.K fd ps ds) (hd : Vals dvs ds)
    (hx : PassesAt CX X σ (E σ)) (I : Inv X pins σ H s) (r : Vals vs us)
    (h : ∀ x dx, H x = none → H dx = none → dx ≠ x → sp (.ref x :: (vs ++ dvs)) (upd (upd H dx (.own x)) x (.ins Cc dx [])) (fun v H2 => v = .non ∧ Q (.ref x) H2) (E σ)) :
    wpAny (model X.prog X.w) X.A (call (.ref Cc) us) (EP X pins σ Q) X.xe s := by
  have hq := h (s.heap.objs.size + 1) s.heap.objs.size (I.hok.fresh (Nat.le_succ _)) (I.hok.fresh (Nat.le_refl _)) (Nat.ne_of_lt (Nat.lt_succ_self _))
  have I2 := Inv.made (C := Cc) I
  have r2 : Vals (V.ref (s.heap.objs.size + 1) :: (vs ++ dvs)) (Value.ref (s.heap.objs.size + 1) :: (us ++ ds)) := .cons rfl (r.append hd)
  have hl : (Value.ref (s.heap.objs.size + 1) :: us ++ ds).length = ps.length := by
    have e := r2.length
    rw [F.len _ _ _ _ hq] at e
    exact e.symm
  refine wpAny_call (make_map (f := f) I.kIn M.makes M.init (beq_iff_eq.mp M.fn) (codeAny_mono (F.run _ X.stack _ _ ⟨Value.ref (s.heap.objs.size + 1) :: us, []⟩ (Value.ref (s.heap.objs.size + 1) :: (us ++ ds)) _ _ (E σ) (hr.make Cc us []) (gd_make hgd Cc us [])
    (I2.env0.make Cc us []) (hb _ (Value.ref (s.heap.objs.size + 1) :: us) I2.kIn hl) r2 hq) fun r s' hq' => ?_))
  cases r with
  | error e => exact hx pins _ _ e s' I2 hq'
  | ok fl =>
    cases fl with
    | ret u =>
      obtain ⟨v, H', I3, rv, ev, q3⟩ := I2.after hq'
      subst ev
      exact ⟨rv, ⟨V.ref (s.heap.objs.size + 1), H', I3, rfl, q3⟩⟩
    | next => exact False.elim hq'
    | brk => exact False.elim hq'
    | cont => exact False.elim hq'
/-- C(..) -/
theorem s_new {es : List Expr} {is : List E} {dd : List D} {x : Str} {p pos : Pos} {c f : Nat} {k : ClsI} (tk : Takes X W) (hc : C.tb.clss[c]? = some k) (hf : k.meths.lookup ("__init__" : Str) = some f) (M : Mk X.K (A.ca c) (A.fa f)) (F : Callee X A C f (is.length + 1) dd 1) (hg : Gl X x) (hm : X.mg x = some (.ref (A.ca c))) (hn : ∀ e, e ∈ es → noStar e = true)
    (ha : PA X es (tAs A C W is)) (hdb : (x == ("__debug__" : Str)) = false) : PE X (.Call (.Name x p) es [] pos) (tE A C W (.new c is dd)) := by
  obtain ⟨k', fd, ps, dvs, dv, F', hr, hb, hd, hk, hl⟩ := F.ex
  refine ⟨fun pins s σ H Q I ⟨Z, ρ, S, g, p⟩ => ?_⟩
  rw [evE_new] at p
  have p := (calm_of p).bind
  refine wpAny_Call_Name_kw (ld_glob I hg hm ?_ hdb)
  have hcf : ((C.tb.clss[c]?).bind fun k => k.meths.lookup ("__init__" : Str)) = some f := by rw [hc]; exact hf
  rw [hcf] at p
  refine callWith_KA M.kp hn (thn (ha.run pos pins s σ H (fun vs H1 => ∃ Z1 S1 ds, Gd A Z1 ρ S1 σ H1 ∧ RelDs Z1 ds vs ∧ post A W σ Z1 ρ ((C.call f (.ref S1.length :: (ds ++ dd)) (S1 ++ [.ins c []])).bind fun r S' => match r with
      | .non => .ok (.ref S1.length) S'
      | _ => .stuck) (fun Z' S' H' d => ∀ v, Res1 A Z' ρ σ H' (isFresh C.tb (.new c is dd)) d v → Q v H')) I ⟨Z, ρ, S, g, p.imp fun Z1 S1 H1 ds z1 g1 p1 vs rs => ⟨Z1, S1, ds, g1, rs, p1⟩⟩) fun us s1 ⟨vs, H1, I1, r, Z1, S1, ds, g1, rs, p1⟩ => ⟨I1.kIn, ?_⟩)
  refine run_makeS (E := WE W) M F' hr F.gd hb hd (passAt tk σ) I1 r fun y dy hy hdy hne => ?_
  have g2 := g1.made (c := c) hy hdy hne
  have k2 : Zle Z1 (Z1.cell y) := Zw.cell_le
  have hy2 : (Z1.cell y).m[S1.length]? = some y := by rw [← g1.cl.len]; exact Zw.cell_at
  refine call_of g2 (.cons (.ref hy2) ((rs.mono k2).append (konsts_rel hk))) ((p1.mono k2).bind.imp fun Z3 S3 H3 d3 z3 g3 p3 v r3 => ?_)
  split at p3
  · have e : v = .non := by
      unfold Res1 at r3
      rw [if_neg (by simp [isBox])] at r3
      cases r3
      rfl
    exact ⟨e, p3.ok g3 _ (.of (.ref (z3.m _ _ hy2)) (by simp [isBox]))⟩
  · exact p3.elim
/-- o.f -/
theorem s_fld {o : Expr} {io : E} {f : Str} {pos : Pos} (hs : noSuper o = true) (hc : ∀ c k, C.tb.clss[c]? = some k → k.flds.contains f = true → Cls X.K (A.ca c) ∧ NoAttr X.K (A.ca c) f) (ho : PE X o (tV A C W io)) : PE X (.Attribute o f pos) (tE A C W (.fld io f)) :=
  peImp (pe_fld (pos := pos) (f := f) ho (superE hs)) fun σ H Q ⟨Z, ρ, S, g, p⟩ => by
    rw [evE_fld] at p
    refine ⟨Z, ρ, S, g, p.bind.imp fun Z1 S1 H1 d z1 g1 p1 v rv => ?_⟩
    split at p1
    · rename_i i
      split at p1
      · rename_i c fs hS
        split at p1
        · rename_i hk
          cases hk1 : C.tb.clss[c]? with
          | none => rw [hk1] at hk; cases hk
          | some k =>
            rw [hk1] at hk
            obtain ⟨h1, h2⟩ := hc c k hk1 hk
            obtain ⟨a, dx, gs, rfl, hm, hH, hfl⟩ := cell_ins g1 rv hS
            obtain ⟨d, e, p2⟩ := p1.of
            obtain ⟨w, hw, rw'⟩ := fld_some hfl e
            exact ⟨a, _, dx, gs, w, rfl, hH, h1, h2, hw, p2.ok g1 w (.of rw' (by simp [isFresh]))⟩
        · exact p1.elim
      · exact p1.elim
    · exact p1.elim
end
end MP

set_option maxRecDepth 100000
set_option maxHeartbeats 4000000
/-! MiniPy: built-ins, methods. -/
namespace MP
open PySem PySem.Spec L2
open PyProof.Rows hiding St
section
variable {X : Cx} {A : Act} {C : Ev} {W : WX} {Z Z' Z1 : Zw} {ρ : Frame} {S S' : Sto} {σ : St} {H H' : Hp}
inductive RdRs (Z : Zw) (H : Hp) : List D → List V → Prop
  | nil : RdRs Z H [] []
  | cons {d : D} {v : V} {ds : List D} {vs : List V} (h : RdR Z H d v) (t : RdRs Z H ds vs) : RdRs Z H (d :: ds) (v :: vs)
theorem Gd.looks (g : Gd A Z ρ S σ H) {ds : List D} {vs : List V} (h : Raws Z ρ σ ds vs) : RdRs Z H (ds.map (D.look S)) vs := by
  induction h with
  | nil => exact .nil
  | cons h t ih => exact .cons (g.look h) ih
theorem RelDs.rd {ds : List D} {vs : List V} : RelDs Z ds vs → RdRs Z H ds vs
  | .nil => .nil
  | .cons h t => .cons (.rel h) (RelDs.rd t)
/-- the rule of a built-in that makes a value out of values that are read -/
def rMany (K : PySem.W.Frag) (f : List D → Option D) : List V → Hp → VK → Prop := fun vs H Q => ∃ Z ds d, (∀ p o, Z.F p = some o → Rd H p o) ∧ (∀ p o, Z.F p = some o → isDO o = false → H p = some o) ∧ RdRs Z H ds vs ∧ f ds = some d ∧ ∀ v H', Made Z H d v H' → Q v H'
theorem intsD_map : ∀ {xs : List D} {ns : List Int} {vs : List V}, intsD xs = some ns → RelDs Z xs vs → vs = ns.map V.int
  | [], _, _, e, .nil => by cases e; rfl
  | d :: ds, ns, _, e, .cons h t => by
    cases d with
    | int i =>
      obtain ⟨ms, h1, rfl⟩ := Option.map_eq_some_iff.mp (show (intsD ds).map (i :: ·) = some ns from e)
      cases h
      rw [intsD_map h1 t]
      rfl
    | _ => cases e
theorem blsD_map : ∀ {xs : List D} {ns : List Bool} {vs : List V}, blsD xs = some ns → RelDs Z xs vs → vs = ns.map V.bl
  | [], _, _, e, .nil => by cases e; rfl
  | d :: ds, ns, _, e, .cons h t => by
    cases d with
    | bl i =>
      obtain ⟨ms, h1, rfl⟩ := Option.map_eq_some_iff.mp (show (blsD ds).map (i :: ·) = some ns from e)
      cases h
      rw [blsD_map h1 t]
      rfl
    | _ => cases e
theorem tyX_of (fz : ∀ p o, Z.F p = some o → Rd H p o) {K : PySem.W.Frag} {d : D} {v : V} {n : String} (h : RdR Z H d v) (e : tyD d = some n) : TyX K H v (.type n) := by
  cases d with
  | non => cases e; rw [rdR_non h]; exact .base .non
  | bl b => cases e; rw [rdR_bl h]; exact .base (.bl b)
  | int i => cases e; rw [rdR_int h]; exact .base (.int i)
  | str x => cases e; rw [(rdR_str h).1]; exact .base (.str x)
  | tup xs =>
    cases e
    obtain ⟨p, vs, rfl, hp, r⟩ := rdR_tup (K := K) fz h
    rcases hp with hp | ⟨o, hp⟩
    · exact .base (.tup hp)
    · exact .fTuple hp
  | lst xs =>
    cases e
    obtain ⟨p, vs, rfl, hp, r⟩ := rdR_lst (K := K) fz h
    rcases hp with hp | ⟨o, hp⟩
    · exact .base (.lst hp)
    · exact .base (.frz hp)
  | dk ks xs =>
    cases e
    obtain ⟨p, vs, rfl, hp, hl, r⟩ := rdR_dk fz h
    rcases hp with hp | ⟨o, hp⟩
    · exact .base (.dK hp)
    · exact .fDict hp
  | _ => cases e
/-- what a built-in is called: name, value -/
def bfN : Bf → Str
  | .len => "len"
  | .int => "int"
  | .sum => "sum"
  | .all => "all"
  | .min2 => "min"
  | .max2 => "max"
  | .listOf => "list"
  | .tupleOf => "tuple"
  | .repr => "repr"
  | _ => ""
def bfV : Bf → Option Value
  | .len => some (.builtin "len")
  | .int => some (.type "int")
  | .sum => some (.builtin "sum")
  | .all => some (.builtin "all")
  | .min2 => some (.builtin "min")
  | .max2 => some (.builtin "max")
  | .listOf => some (.type "list")
  | .tupleOf => some (.type "tuple")
  | .repr => some (.builtin "repr")
  | _ => none
theorem bf_boot : ∀ {f : Bf} {u : Value}, bfV f = some u → bootBuiltins (bfN f) = some u ∧ bfN f ≠ "__name__" ∧ (bfN f == ("__debug__" : Str)) = false := by
  intro f u h
  cases f <;> cases h <;> refine ⟨by decide +kernel, by decide, by decide⟩
theorem un1_of {g : D → Option D} {ds : List D} {vs : List V} {d : D} (h : RdRs Z H ds vs) (e : un1 g ds = some d) : ∃ x v, vs = [v] ∧ RdR Z H x v ∧ g x = some d := by
  unfold un1 at e
  split at e
  · cases h with
    | cons h t =>
      cases t
      exact ⟨_, _, rfl, h, e⟩
  · cases e
theorem un2_of {g : D → D → Option D} {ds : List D} {vs : List V} {d : D} (h : RdRs Z H ds vs) (e : un2 g ds = some d) : ∃ x y v w, vs = [v, w] ∧ RdR Z H x v ∧ RdR Z H y w ∧ g x y = some d := by
  unfold un2 at e
  split at e
  · cases h with
    | cons h t =>
      cases t with
      | cons h2 t =>
        cases t
        exact ⟨_, _, _, _, rfl, h, h2, e⟩
  · cases e
theorem cr_len : CallR X (.builtin "len") (rMany X.K (bltD .len)) := by
  intro pins s σ H xs us Q I r h
  obtain ⟨Z, ds, d, fz, tx, hr, e, q⟩ := h
  obtain ⟨x, v, rfl, hx, e⟩ := un1_of hr e
  unfold lenD at e
  split at e
  · cases e
    obtain ⟨p, vs, rfl, hp, rs⟩ := rdR_lst (K := X.K) fz hx
    exact call_len pins s σ H _ us Q I r ⟨_, _, rfl, .inl ⟨vs, .inl hp, rfl⟩, by rw [← rs.length]; exact made_int q⟩
  · cases e
    obtain ⟨p, vs, rfl, hp, rs⟩ := rdR_tup (K := X.K) fz hx
    exact call_len pins s σ H _ us Q I r ⟨_, _, rfl, .inr ⟨vs, .inl hp, rfl⟩, by rw [← rs.length]; exact made_int q⟩
  · cases e
    obtain ⟨rfl, hz⟩ := rdR_str hx
    exact call_len pins s σ H _ us Q I r ⟨_, _, rfl, ⟨hz, rfl⟩, made_int q⟩
  · split at e
    · cases e
      obtain ⟨p, vs, rfl, hp, hl, rs⟩ := rdR_dk fz hx
      obtain ⟨u, rfl, ru⟩ := vals1 r
      cases ru
      refine d_len I hp fun t s' I' => ⟨.int _, H, I', ⟨t, rfl⟩, ?_⟩
      rw [List.length_zip, ← hl, Nat.min_self]
      exact made_int q
    · cases e
  · cases e
theorem cr_int : CallR X (.type "int") (rMany X.K (bltD .int)) := by
  intro pins s σ H xs us Q I r h
  obtain ⟨Z, ds, d, fz, tx, hr, e, q⟩ := h
  obtain ⟨x, v, rfl, hx, e⟩ := un1_of hr e
  unfold intD at e
  split at e
  · cases e
    cases rdR_int hx
    exact call_int1 pins s σ H _ us Q I r (.inl ⟨_, rfl, made_int q⟩)
  · cases e
    cases rdR_bl hx
    exact call_int1 pins s σ H _ us Q I r (.inr ⟨_, rfl, made_int q⟩)
  · cases e
theorem cr_str : CallR X (.type "str") (rMany X.K (bltD .str)) := by
  intro pins s σ H xs us Q I r h
  obtain ⟨Z, ds, d, fz, tx, hr, e, q⟩ := h
  obtain ⟨x, v, rfl, hx, e⟩ := un1_of hr e
  unfold strD at e
  split at e
  · split at e
    · rename_i hi
      cases e
      cases rdR_int hx
      exact call_str_int pins s σ H _ us Q I r ⟨_, rfl, of_decide_eq_true hi, made_str (int_text_fits (of_decide_eq_true hi)) q⟩
    · cases e
  · cases e
    obtain ⟨rfl, hz⟩ := rdR_str hx
    obtain ⟨u, rfl, t, rfl⟩ := vals1 r
    exact PySem.P.str_of_str ⟨.str _, H, I, ⟨t, rfl⟩, made_str hz q⟩
  · cases e
theorem cr_sumD (hc : X.calm = true) : CallR X (.builtin "sum") (rMany X.K (bltD .sum)) := by
  intro pins s σ H xs us Q I r h
  obtain ⟨Z, ds, d, fz, tx, hr, e, q⟩ := h
  obtain ⟨x, v, rfl, hx, e⟩ := un1_of hr e
  unfold sumD at e
  split at e
  · obtain ⟨ns, h1, rfl⟩ := Option.map_eq_some_iff.mp e
    obtain ⟨p, vs, rfl, hp, rs⟩ := rdR_lst (K := X.K) fz hx
    rw [intsD_map h1 rs] at hp
    exact cr_sum hc pins s σ H _ us Q I r ⟨p, ns, rfl, .inl hp, made_int q⟩
  · cases e
theorem cr_allD (hc : X.calm = true) : CallR X (.builtin "all") (rMany X.K (bltD .all)) := by
  intro pins s σ H xs us Q I r h
  obtain ⟨Z, ds, d, fz, tx, hr, e, q⟩ := h
  obtain ⟨x, v, rfl, hx, e⟩ := un1_of hr e
  unfold allD at e
  split at e
  · obtain ⟨ns, h1, rfl⟩ := Option.map_eq_some_iff.mp e
    obtain ⟨p, vs, rfl, hp, rs⟩ := rdR_lst (K := X.K) fz hx
    rw [blsD_map h1 rs] at hp
    exact cr_all hc pins s σ H _ us Q I r ⟨p, ns, rfl, .inl hp, made_bl q⟩
  · cases e
theorem cr_min (hc : X.calm = true) : CallR X (.builtin "min") (rMany X.K (bltD .min2)) := by
  intro pins s σ H xs us Q I r h
  obtain ⟨Z, ds, d, fz, tx, hr, e, q⟩ := h
  obtain ⟨x, y, v, w, rfl, hx, hy, e⟩ := un2_of hr e
  unfold minD at e
  split at e
  · cases e
    cases rdR_int hx
    cases rdR_int hy
    exact call_min2 hc pins s σ H _ us Q I r ⟨_, _, rfl, made_int q⟩
  · cases e
theorem cr_max (hc : X.calm = true) : CallR X (.builtin "max") (rMany X.K (bltD .max2)) := by
  intro pins s σ H xs us Q I r h
  obtain ⟨Z, ds, d, fz, tx, hr, e, q⟩ := h
  obtain ⟨x, y, v, w, rfl, hx, hy, e⟩ := un2_of hr e
  unfold maxD at e
  split at e
  · cases e
    cases rdR_int hx
    cases rdR_int hy
    exact call_max2 hc pins s σ H _ us Q I r ⟨_, _, rfl, made_int q⟩
  · cases e
theorem cr_list : CallR X (.type "list") (rMany X.K (bltD .listOf)) := by
  intro pins s σ H xs us Q I r h
  obtain ⟨Z, ds, d, fz, tx, hr, e, q⟩ := h
  obtain ⟨x, v, rfl, hx, e⟩ := un1_of hr e
  unfold listD at e
  split at e
  · cases e
    obtain ⟨p, vs, rfl, hp, rs⟩ := rdR_lst (K := X.K) fz hx
    exact call_list_of pins s σ H _ us Q I r ⟨p, vs, rfl, .inl (.inl hp), fun l hl => q _ _ (.inr (.inl ⟨l, _, rfl, .lst rs, hl, rfl⟩))⟩
  · cases e
    obtain ⟨p, vs, rfl, hp, rs⟩ := rdR_tup (K := X.K) fz hx
    exact call_list_of pins s σ H _ us Q I r ⟨p, vs, rfl, .inr (.inl hp), fun l hl => q _ _ (.inr (.inl ⟨l, _, rfl, .lst rs, hl, rfl⟩))⟩
  · cases e
theorem cr_tuple : CallR X (.type "tuple") (rMany X.K (bltD .tupleOf)) := by
  intro pins s σ H xs us Q I r h
  obtain ⟨Z, ds, d, fz, tx, hr, e, q⟩ := h
  obtain ⟨x, v, rfl, hx, e⟩ := un1_of hr e
  unfold tupleD at e
  split at e
  · cases e
    obtain ⟨p, vs, rfl, hp, rs⟩ := rdR_lst (K := X.K) fz hx
    exact call_tuple_of pins s σ H _ us Q I r ⟨p, vs, rfl, .inl ⟨.inl hp, fun l hl => q _ _ (.inr (.inr ⟨l, _, _, rfl, rfl, rs, hl, rfl⟩))⟩⟩
  · cases e
    obtain ⟨p, vs, rfl, hp, rs⟩ := rdR_tup (K := X.K) fz hx
    refine call_tuple_of pins s σ H _ us Q I r ⟨p, vs, rfl, .inr ⟨.inl hp, q _ _ (.inl ⟨rfl, ?_, rfl⟩)⟩⟩
    cases hx with
    | rel r => exact r
    | box b hr => cases b
  · cases e
theorem cr_repr (hg : X.A.guards = some []) (hu : X.A.units + 65 < cLine) : CallR X (.builtin "repr") (rMany X.K (bltD .repr)) := by
  intro pins s σ H xs us Q I r h
  obtain ⟨Z, ds, d, fz, tx, hr, e, q⟩ := h
  obtain ⟨x, v, rfl, hx, e⟩ := un1_of hr e
  unfold reprD at e
  obtain ⟨p, ep, e⟩ := Option.bind_eq_some_iff.mp e
  split at e
  · rename_i hc
    cases e
    simp only [Bool.and_eq_true, decide_eq_true_eq, Bool.not_eq_true'] at hc
    obtain ⟨⟨⟨hs, hz⟩, hdp⟩, hnd⟩ := hc
    rw [szB_eq] at hz
    have hd := rdR_dp (K := X.K) fz hx ep
    obtain ⟨u, rfl, ru⟩ := vals1 r
    have fin := made_str hz q
    obtain ⟨as, R⟩ := Dp.reads I p v u hd ru
    cases R with
    | none => exact PySem.P.repr_of_none ⟨.str _, H, I.tok _, ⟨_, rfl⟩, fin⟩
    | bool b => exact PySem.P.repr_of_bool ⟨.str _, H, I.tok _, ⟨_, rfl⟩, fin⟩
    | int i t => exact PySem.P.repr_of_int (by simpa [PyData.showable] using hs) ⟨.str _, H, I.tok _, ⟨_, rfl⟩, fin⟩
    | str y t => exact PySem.P.repr_of_str ⟨.str _, H, I.tok _, ⟨_, rfl⟩, fin⟩ hz
    | list h1 h2 h3 h4 => exact repr_of_reads' (.list h1 h2 h3 h4) hs (PyData.noDict_hsm hnd) hg (by omega) (fun b o k => k) (fun h' u tk hk => ⟨.str _, H, I.kept hk, ⟨_, rfl⟩, fin⟩) hz
    | tuple h1 h2 h3 h4 => exact repr_of_reads' (.tuple h1 h2 h3 h4) hs (PyData.noDict_hsm hnd) hg (by omega) (fun b o k => k) (fun h' u tk hk => ⟨.str _, H, I.kept hk, ⟨_, rfl⟩, fin⟩) hz
    | dict => simp [PyData.hasDict] at hnd
  · cases e
theorem cr_blt (hc : X.calm = true) (hgd : X.A.guards = some []) (hu : X.A.units + 65 < cLine) {f : Bf} {u : Value} (hf : bfV f = some u) : CallR X u (rMany X.K (bltD f)) := by
  cases f <;> cases hf
  · exact cr_len
  · exact cr_int
  · exact cr_sumD hc
  · exact cr_allD hc
  · exact cr_list
  · exact cr_tuple
  · exact cr_repr hgd hu
  · exact cr_min hc
  · exact cr_max hc
theorem plainAny {es : List Expr} {env : Env} {pos : Pos} (hn : ∀ e, e ∈ es → noStar e = true) : (backTo pos (starEach es env)).any (·.1) = false := by
  rw [List.any_eq_false]
  intro q hq
  rw [plainAll hn q hq]
  exact Bool.false_ne_true
theorem callWith_bt {f : Bf} {u : Value} (hf : bfV f = some u) {M : Model} {A : Around} {E : Value → Shared → Prop} {s : Shared} {env : Env} {pos : Pos} {es : List Expr} {Q : Value → Shared → Prop} (hn : ∀ e, e ∈ es → noStar e = true)
    (h : wpAny M A (spliced (backTo pos (starEach es env))) (fun us s1 => wpAny M A (PySem.call u us) Q E s1) E s) : wpAny M A (callWith pos u [] (backTo pos (starEach es env)) []) Q E s := by
  cases f <;> cases hf <;> first
    | exact Calls.callWith_builtin (plainAny hn) (evalArgs_any (plainAll hn) h)
    | exact PyProof.Rows.callWith_type (plainAny hn) (evalArgs_any (plainAll hn) h)
theorem bf_fresh {T : Tb} {f : Bf} {is : List E} {ds : List D} {d : D} (e : bltD f ds = some d) (hb : isBox d = true) : isFresh T (.blt f is) = true := by
  have k1 : ∀ (g : D → Option D), (∀ x y, g x = some y → isBox y = false) → un1 g ds = some d → False := fun g hg e => by
    unfold un1 at e
    split at e
    · rw [hg _ _ e] at hb
      cases hb
    · cases e
  have k2 : ∀ (g : D → D → Option D), (∀ x x' y, g x x' = some y → isBox y = false) → un2 g ds = some d → False := fun g hg e => by
    unfold un2 at e
    split at e
    · rw [hg _ _ _ e] at hb
      cases hb
    · cases e
  cases f with
  | len => exact (k1 _ (fun x y h => by unfold lenD at h; (repeat' split at h); all_goals first | (cases h; rfl) | cases h) e).elim
  | int => exact (k1 _ (fun x y h => by unfold intD at h; split at h <;> cases h <;> rfl) e).elim
  | str => exact (k1 _ (fun x y h => by unfold strD at h; (repeat' split at h); all_goals first | (cases h; rfl) | cases h) e).elim
  | sum => exact (k1 _ (fun x y h => by
      unfold sumD at h
      split at h
      · obtain ⟨_, _, rfl⟩ := Option.map_eq_some_iff.mp h
        rfl
      · cases h) e).elim
  | all => exact (k1 _ (fun x y h => by
      unfold allD at h
      split at h
      · obtain ⟨_, _, rfl⟩ := Option.map_eq_some_iff.mp h
        rfl
      · cases h) e).elim
  | min2 => exact (k2 _ (fun x x' y h => by unfold minD at h; split at h <;> cases h <;> rfl) e).elim
  | max2 => exact (k2 _ (fun x x' y h => by unfold maxD at h; split at h <;> cases h <;> rfl) e).elim
  | listOf => rw [isFresh]
  | tupleOf => exact (k1 _ (fun x y h => by unfold tupleD at h; split at h <;> cases h <;> rfl) e).elim
  | repr => exact (k1 _ (fun x y h => by
      unfold reprD at h
      obtain ⟨_, _, h⟩ := Option.bind_eq_some_iff.mp h
      split at h <;> cases h <;> rfl) e).elim
  | isi t => exact (k1 _ (fun x y h => by
      obtain ⟨_, _, rfl⟩ := Option.map_eq_some_iff.mp h
      rfl) e).elim
  | _ => cases e
/-- a built-in's call -/
theorem s_blt (hc : X.calm = true) (hgd : X.A.guards = some []) (hu : X.A.units + 65 < cLine) {f : Bf} {u : Value} (hf : bfV f = some u) {es : List Expr} {is : List E} {p pos : Pos} (hg : Gl X (bfN f)) (hm : X.mg (bfN f) = none) (hn : ∀ e, e ∈ es → noStar e = true) (ha : PA X es (tRs A C W is)) :
    PE X (.Call (.Name (bfN f) p) es [] pos) (tE A C W (.blt f is)) := by
  obtain ⟨hb, hb2, hb3⟩ := bf_boot hf
  refine ⟨fun pins s σ H Q I ⟨Z, ρ, S, g, p⟩ => ?_⟩
  rw [evE_blt] at p
  have p := (calm_of p).bind
  refine wpAny_Call_Name_kw (ld_blt I hg hm hb ?_ hb2 hb3)
  have fin : wpAny (model X.prog X.w) X.A (spliced (backTo pos (starEach es X.env))) (fun us s1 => wpAny (model X.prog X.w) X.A (PySem.call u us) (EP X pins σ Q) X.xe s1) X.xe s := by
    refine thn (ha.run pos pins s σ H (fun vs H1 => rMany X.K (bltD f) vs H1 Q) I ⟨Z, ρ, S, g, p.imp fun Z1 S1 H1 ds z1 g1 p1 vs rs => ?_⟩) fun us s1 ⟨vs, H1, I1, r, q⟩ => cr_blt hc hgd hu hf pins s1 σ H1 vs us Q I1 r q
    obtain ⟨d, e, p2⟩ := p1.of
    refine ⟨Z1, _, d, g1.fz, g1.tx, g1.looks rs, e, fun v H' hm => ?_⟩
    obtain ⟨Z3, z3, g3, r3⟩ := hm.res (fr := isFresh C.tb (.blt f is)) g1 (fun hb => bf_fresh e hb)
    exact p2 Z3 H' z3 g3 v r3
  exact callWith_bt hf hn fin
/-- isinstance(x, T) -/
theorem s_isi {e : Expr} {i : E} {t : String} {p p2 pos : Pos} (hg : Gl X "isinstance") (hm : X.mg "isinstance" = none) (ht : bootBuiltins t = some (.type t)) (htn : (t : Str) ≠ "__name__") (htd : ((t : Str) == ("__debug__" : Str)) = false) (hgt : Gl X t) (hmt : X.mg t = none) (hn : noStar e = true) (ha : PE X e (tR A C W i)) :
    PE X (.Call (.Name "isinstance" p) [e, .Name t p2] [] pos) (tE A C W (.blt (.isi t) [i])) := by
  have hT : PE X (.Name t p2) (fun σ H Q => Q (.ty t) H) := ⟨fun pins s σ H Q I h => ld_blt I hgt hmt ht ⟨.ty t, H, I, rfl, h⟩ htn htd⟩
  have ha2 : PA X [e, .Name t p2] (tCons (tR A C W i) (tCons (fun σ H Q => Q (.ty t) H) tNil)) := pa_cons ha (pa_cons hT pa_nil rfl) (starE hn)
  have hes : ∀ e', e' ∈ [e, Expr.Name t p2] → noStar e' = true := by
    intro e' he
    rcases List.mem_cons.mp he with rfl | he
    · exact hn
    · rcases List.mem_cons.mp he with rfl | he
      · rfl
      · cases he
  refine ⟨fun pins s σ H Q I ⟨Z, ρ, S, g, p⟩ => ?_⟩
  rw [evE_blt, evRs_cons] at p
  have p := (calm_of p).bind
  refine wpAny_Call_Name_kw (ld_blt I hg hm boot_isinstance ?_ (by decide) (by decide))
  refine Calls.callWith_builtin (plainAny hes) (evalArgs_any (plainAll hes) (thn (ha2.run pos pins s σ H (fun vs H1 => rIsi X.K vs H1 Q) I ⟨Z, ρ, S, g, p.bind.imp fun Z1 S1 H1 d z1 g1 p1 v rv => ?_⟩) fun us s1 ⟨vs, H1, I1, r, q⟩ => call_isi pins s1 σ H1 vs us Q I1 r q))
  have p1 := p1.bind
  rw [evRs_nil] at p1
  have p1 := (p1.ok g1).ok g1
  obtain ⟨b, e1, p2⟩ := p1.of
  obtain ⟨b, e2, rfl⟩ := Option.map_eq_some_iff.mp (show (isTyD t (d.look S1)).map D.bl = some b from e1)
  obtain ⟨n, e3, e4⟩ := Option.bind_eq_some_iff.mp e2
  exact ⟨v, .ty t, .type n, .type t, b, rfl, .ty t, tyX_of g1.fz (g1.look rv) e3, kit_ty e4, p2.ok g1 _ (.of (.bl b) (by simp [isBox]))⟩
/-! ### methods that change nothing -/
theorem s_bits {o : Expr} {io : E} {apos pos : Pos} (hs : noSuper o = true) (hline : (apos.endLine == pos.line) = true) (ho : PE X o (tR A C W io)) : PE X (.Call (.Attribute o "bit_length" apos) [] [] pos) (tE A C W (.mt .bitLength io [])) :=
  peImp (pe_bits ho (superE hs) hline) fun σ H Q ⟨Z, ρ, S, g, p⟩ => by
    rw [evE_mt] at p
    have p := (calm_of p).bind
    refine ⟨Z, ρ, S, g, p.imp fun Z1 S1 H1 d z1 g1 p1 v rv => ?_⟩
    rw [evRs_nil] at p1
    obtain ⟨y, e, p2⟩ := (p1.bind.ok g1).of
    unfold mtD at e
    dsimp only at e
    unfold bitsD at e
    split at e
    · rename_i i hi _
      cases e
      have hx := g1.look rv
      rw [hi] at hx
      cases rdR_int hx
      exact ⟨i, rfl, p2.ok g1 _ (.of (.int _) (by simp [isBox]))⟩
    · cases e
/-! ### a cell, an own slot: changed -/
theorem Gd.setCell (g : Gd A Z ρ S σ H) {i : Nat} {p : Addr} {c0 c : Cell} {o : HO} (hS : S[i]? = some c0) (hd : c0 ≠ .dead) (hm : Z.m[i]? = some p) (hc : CellO Z A.ca c (some o)) : Gd A Z ρ (S.set i c) σ (upd H p o) := by
  have hp := (g.cl.at_ i c0 p hS hm).2 hd
  have hi : i < S.length := (List.getElem?_eq_some_iff.mp hS).1
  refine g.step .refl (fun q u h nm nf => ?_) (fun q u h => ?_) (fun q u h hu => ?_) (fun q u h => let ⟨w, h1, h2⟩ := g.lz q u h; ⟨w, h1, by rw [upd_ne (fun e => by rw [e, hp] at h1; cases h1)]; exact h2⟩) ⟨by simp [g.cl.len], g.cl.nd, fun j x q h1 h2 => ?_⟩ (fun q u h1 h2 => by rw [h2] at h1; cases h1) ⟨[], by simp, fun q hq => by cases hq⟩
  · rw [upd_ne (fun e => nm (by rw [e]; exact List.mem_of_getElem? hm))]
    exact h
  · have ne : q ≠ p := fun e => by rw [e, hp] at h; cases h
    rcases g.fz q u h with h | ⟨w, h⟩
    · exact .inl (by rw [upd_ne ne]; exact h)
    · exact .inr ⟨w, by rw [upd_ne ne]; exact h⟩
  · have ne : q ≠ p := fun e => by rw [e, hp] at h; cases h
    rw [upd_ne ne]
    exact g.tx q u h hu
  · by_cases e : j = i
    · subst e
      rw [hm] at h2
      cases h2
      have e1 : c = x := by simpa [hi] using h1
      subst e1
      exact ⟨by rw [upd_same]; exact hc, fun _ => hp⟩
    · rw [List.getElem?_set_ne (fun z => e z.symm)] at h1
      have ne : q ≠ p := fun z => by
        subst z
        exact e ((List.getElem?_inj (List.getElem?_eq_some_iff.mp h2).1 g.cl.nd).mp (h2.trans hm.symm))
      rw [upd_ne ne]
      exact g.cl.at_ j x q h1 h2
theorem Gd.setOwn (g : Gd A Z ρ S σ H) {i : Nat} {p : Addr} {d0 d : D} {o : HO} (hρ : ρ[i]? = some (.own d0)) (hσ : σ[i]? = some (some (.ref p))) (hb : BoxO Z d o) : Gd A Z (ρ.set i (.own d)) S σ (upd H p o) := by
  obtain ⟨p', o', e', b0, rd, nf, nm⟩ := g.sl i _ _ hρ hσ
  cases e'
  have hi : i < ρ.length := (List.getElem?_eq_some_iff.mp hρ).1
  have own : ∀ j q, OwnAt (ρ.set i (.own d)) σ j q → OwnAt ρ σ j q := fun j q ⟨⟨d', h1⟩, h2⟩ => by
    by_cases e : j = i
    · subst e
      exact ⟨⟨d0, hρ⟩, h2⟩
    · rw [List.getElem?_set_ne (fun z => e z.symm)] at h1
      exact ⟨⟨d', h1⟩, h2⟩
  have me : OwnAt ρ σ i p := ⟨⟨d0, hρ⟩, hσ⟩
  have h0 := g.o0 i p me
  refine ⟨g.kk, g.ff, fun q u h => ?_, fun q u h hu => ?_, fun q u h => let ⟨w, h1, h2⟩ := g.lz q u h; ⟨w, h1, by rw [upd_ne (fun e => by rw [e, nf] at h1; cases h1)]; exact h2⟩, ⟨g.cl.len, g.cl.nd, fun j x q h1 h2 => ?_⟩, by rw [List.length_set]; exact g.len, fun j s v h1 h2 => ?_, fun j k q h1 h2 => g.od j k q (own j q h1) (own k q h2), fun j q h => g.o0 j q (own j q h), fun q u h1 h2 h3 => ?_, g.nf, g.nm, g.f0⟩
  · have ne : q ≠ p := fun e => by rw [e, nf] at h; cases h
    rcases g.fz q u h with h | ⟨w, h⟩
    · exact .inl (by rw [upd_ne ne]; exact h)
    · exact .inr ⟨w, by rw [upd_ne ne]; exact h⟩
  · have ne : q ≠ p := fun e => by rw [e, nf] at h; cases h
    rw [upd_ne ne]
    exact g.tx q u h hu
  · have ne : q ≠ p := fun e => nm (by rw [← e]; exact List.mem_of_getElem? h2)
    rw [upd_ne ne]
    exact g.cl.at_ j x q h1 h2
  · by_cases e : j = i
    · subst e
      have e1 : Slot.own d = s := by simpa [hi] using h1
      subst e1
      rw [hσ] at h2
      cases h2
      exact ⟨p, o, rfl, hb, upd_same, nf, nm⟩
    · rw [List.getElem?_set_ne (fun z => e z.symm)] at h1
      have q := g.sl j s v h1 h2
      cases s with
      | no => trivial
      | val d => exact q
      | own d' =>
        obtain ⟨p2, o2, e2, b2, rd2, nf2, nm2⟩ := q
        refine ⟨p2, o2, e2, b2, ?_, nf2, nm2⟩
        rw [upd_ne (fun z => e (g.od j i p2 ⟨⟨d', h1⟩, by rw [h2, e2]⟩ (by rw [z]; exact me)))]
        exact rd2
  · have ne : q ≠ p := fun e => by rw [e, h0] at h1; cases h1
    rw [upd_ne ne]
    exact g.ent q u h1 h2 h3
end
end MP

set_option maxRecDepth 100000
set_option maxHeartbeats 4000000
/-! MiniPy: methods that change their receiver. -/
namespace MP
open PySem PySem.Spec L2
open PyProof.Rows hiding St
section
variable {X : Cx} {A : Act} {C : Ev} {W : WX} {Z Z' Z1 : Zw} {ρ : Frame} {S S' : Sto} {σ : St} {H H' : Hp}
/-- the rule of a method that changes its receiver: held: its arguments are held -/
def rMm (m : Mm) : V → List V → Hp → VK → Prop := fun x vs H Q => ∃ Z p d o ds d' r, x = .ref p ∧ (∀ p o, Z.F p = some o → isDO o = false → H p = some o) ∧ (∀ p o, Z.F p = some o → Rd H p o) ∧ BoxO Z d o ∧ H p = some o ∧ RdRs Z H ds vs ∧ (heldM m = true → RelDs Z ds vs) ∧ mmD m d ds = some (d', r) ∧
  ∀ v o', BoxO Z d' o' → RelD Z r v → Q v (upd H p o')
theorem upd_self {H : Hp} {p : Addr} {o : HO} (h : H p = some o) : upd H p o = H := by
  funext q
  by_cases e : q = p
  · rw [e, upd_same, h]
  · rw [upd_ne e]
def mmT : Mm → String
  | .setdefault => "dict"
  | _ => "list"
def mmN : Mm → Str
  | .append => "append"
  | .extend => "extend"
  | .pop => "pop"
  | .popAt => "pop"
  | .reverse => "reverse"
  | .clear => "clear"
  | .setdefault => "setdefault"
  | _ => ""
def mmI : Mm → Option String
  | .append => some "list.append"
  | .extend => some "list.extend"
  | .pop => some "list.pop"
  | .popAt => some "list.pop"
  | .reverse => some "list.reverse"
  | .clear => some "list.clear"
  | .setdefault => some "dict.setdefault"
  | _ => none
theorem mm_facts {m : Mm} {id : String} (h : mmI m = some id) : PlainAttrs (mmT m) ∧ PySem.Slot (mmT m) (mmN m) id ∧ typeOf (.builtin id) = pure (.type "method_descriptor") := by
  cases m <;> cases h
  · exact ⟨F.plainAttrs_list, F.slot_list_append, F.type_list_append⟩
  · exact ⟨F.plainAttrs_list, F.slot_list_extend, F.type_list_extend⟩
  · exact ⟨F.plainAttrs_list, F.slot_list_pop, F.type_list_pop⟩
  · exact ⟨F.plainAttrs_list, F.slot_list_pop, F.type_list_pop⟩
  · exact ⟨F.plainAttrs_list, F.slot_list_reverse, F.type_list_reverse⟩
  · exact ⟨F.plainAttrs_list, F.slot_list_clear, F.type_list_clear⟩
  · exact ⟨F.plainAttrs_dict, F.slot_dict_setdefault, F.type_dict_setdefault⟩
theorem mt_extendRd {X : Cx} : MtM X "list.extend" (fun x vs H Q => ∃ l b xs zs, x = .ref l ∧ vs = [.ref b] ∧ H l = some (.lst xs) ∧ Rd H b (.lst zs) ∧ xs.length + zs.length ≤ sizeLine ∧ Q .non (upd H l (.lst (xs ++ zs)))) := by
  intro pins s σ H x vs v us Q I rx rv h
  obtain ⟨l, b, xs, zs, rfl, rfl, hH, hB, hz, q⟩ := h
  cases rx
  obtain ⟨u, rfl, ru⟩ := rv.one
  cases ru
  obtain ⟨z, its, n, r, hl, e⟩ := I.lstM hH
  obtain ⟨z2, its2, n2, r2, hl2, e2⟩ := lstRd I hB
  have hsz : its.toArray.size + its2.toArray.size ≤ sizeLine := by rw [List.size_toArray, List.size_toArray]; omega
  have hlong : ¬ (!its.toArray.isEmpty && Builtin.List.listTooLong (its.toArray.size + its2.toArray.size)) = true := by
    rw [notLongL hsz, Bool.and_false]
    exact Bool.false_ne_true
  refine call_meets F.slot_list_extend ⟨_, e, rfl⟩ F.entry_list_extend (F.args_list_extend_2 _ _)
    (AutoSeq1.list_extend_list_list_0 l its.toArray n b its2.toArray n2 hlong (by rw [List.size_toArray]; omega) (by omega)) ⟨e, e2, ?_⟩
  refine ⟨.non, _, I.lset (its' := its ++ its2) hH e (by simp) (r.append r2) ?_, rfl, q⟩
  rw [List.length_append]
  omega
theorem ixN_seqIndex {n : Nat} {i : Int} {j : Nat} (h : ixN n i = some j) : seqIndex? i n = some j := (ixN_seq h).1
theorem d_setdT {pins : List (Addr × Obj)} {s : Shared} {a b : Addr} {r : Value} {d : V} {k : List Key} {kvs : List (List Key × V)} {A : Around} {E : Value → Shared → Prop} {Q : Value → Shared → Prop} (hu : A.units + 1 < cLine) (I : Inv X pins σ H s) (e : H a = some (.dT kvs)) (eb : H b = some (.tup (k.map kV))) (rd : RelV d r) (hl : kvs.length < sizeLine)
    (h1 : ∀ v, valV kvs k = some v → ∀ (w' : Value) (s' : Shared), Inv X pins σ H s' → RelV v w' → Q w' s') (h2 : valV kvs k = none → ∀ (w' : Value) (s' : Shared), Inv X pins σ (upd H a (.dT (putK kvs k d))) s' → RelV d w' → Q w' s') :
    wpAny (model X.prog X.w) A (call (.builtin "dict.setdefault") [.ref a, .ref b, r]) Q E s := by
  obtain ⟨z, hd, xs, rel, dd⟩ := dt_of I.hok e
  have hz : xs.length ≤ sizeLine := by rw [← Paired.length rel]; exact z
  have q := rel.val k
  refine call_setdefault_heap (hsz := hz) (tupleKind_room_in1 hu) (key_of I.hok eb) hd dd (fun p hp => ?_) fun hn h' dd' hs => ?_
  · rw [hp] at q
    cases q0 : valV kvs k with
    | none =>
      rw [q0] at q
      exact (show False from q).elim
    | some v0 =>
      rw [q0] at q
      exact h1 v0 q0 _ _ (I.tok _) q
  · rw [hn] at q
    cases q0 : valV kvs k with
    | some v0 =>
      rw [q0] at q
      exact (show False from q).elim
    | none =>
      have hl2 : (putK kvs k d).length ≤ sizeLine := by
        have := length_putK kvs k d
        omega
      obtain ⟨q, es, ep, hq, h2', h3, h4, _, h5⟩ := dd'
      refine h2 q0 _ _ (d_write I (by rw [e]; exact True.intro) hs ⟨q, hq⟩ ⟨hl2, hd, _, (rel.put k eb rd).keeps fun c ys ec => ?_, q, es, ep, hq, h2', h3, h4, h5⟩) rd
      rw [upd_ne (ne_of ec e (fun z => nomatch z))]
      exact ec
theorem valV_look {κ : Type} [DecidableEq κ] {k : κ} : ∀ {ks : List κ} {xs : List D} {vs : List V}, RelDs Z xs vs → lookK k ks xs = none → valV (ks.zip vs) k = none
  | [], _, _, _, _ => rfl
  | _ :: _, _, _, .nil, _ => rfl
  | a :: ks, _, _, .cons h t, e => by
    rw [lookK] at e
    by_cases ha : a = k
    · rw [if_pos ha] at e; cases e
    · rw [if_neg ha] at e
      rw [List.zip_cons_cons, valV_neg ha]
      exact valV_look t e
theorem putK_new {κ : Type} [DecidableEq κ] {kvs : List (κ × V)} {k : κ} {v : V} (h : valV kvs k = none) : putK kvs k v = kvs ++ [(k, v)] := by
  unfold putK
  rw [valV_any, h]
  rfl
theorem zip_snoc {κ : Type} {ks : List κ} {vs : List V} {k : κ} {v : V} (h : ks.length = vs.length) : ks.zip vs ++ [(k, v)] = (ks ++ [k]).zip (vs ++ [v]) := by
  rw [List.zip_append h]
  rfl
theorem mr_mm (hu : X.A.units + 1 < cLine) {m : Mm} {id : String} (hm : mmI m = some id) : MtM X id (rMm m) := by
  intro pins s σ H x vs v us Q I rx rv h
  obtain ⟨Z, p, d, o, ds, d', r, rfl, tx, fz, hb, hH, hr, hh, e, q⟩ := h
  cases m with
  | append =>
    cases hm
    have rs := hh rfl
    unfold mmD appendD at e
    dsimp only at e
    split at e
    · split at e
      · rename_i hl
        cases e
        cases hb with
        | lst r0 =>
          cases rs with
          | cons r1 rt =>
            cases rt
            refine mt_append pins s σ H _ _ v us Q I rx rv ⟨p, _, _, rfl, rfl, hH, ?_, q _ _ (.lst (r0.append (.cons r1 .nil))) .non⟩
            rw [← szB_eq, ← r0.length]
            exact of_decide_eq_true hl
      · cases e
    · cases e
  | extend =>
    cases hm
    unfold mmD extendD at e
    dsimp only at e
    split at e
    · split at e
      · rename_i hl
        cases e
        cases hb with
        | lst r0 =>
          cases hr with
          | cons h1 ht =>
            cases ht
            obtain ⟨b, ws, rfl, hB, r1⟩ := rdR_lst (K := X.K) fz h1
            refine mt_extendRd pins s σ H _ _ v us Q I rx rv ⟨p, b, _, ws, rfl, rfl, hH, hB, ?_, q _ _ (.lst (r0.append r1)) .non⟩
            rw [← szB_eq, ← r0.length, ← r1.length]
            exact of_decide_eq_true hl
      · cases e
    · cases e
  | pop =>
    cases hm
    unfold mmD popD at e
    dsimp only at e
    split at e
    · obtain ⟨y, h1, h2⟩ := Option.map_eq_some_iff.mp e
      cases h2
      cases hb with
      | lst r0 =>
        cases hr
        obtain ⟨w, hw, rw'⟩ := r0.get h1
        rw [r0.length] at hw
        exact mt_pop pins s σ H _ _ v us Q I rx rv ⟨p, _, w, rfl, rfl, hH, hw, q _ _ (.lst r0.dropLast) rw'⟩
    · cases e
  | popAt =>
    cases hm
    unfold mmD popAtD at e
    dsimp only at e
    split at e
    · split at e
      · rename_i hi
        obtain ⟨k, h1, h2⟩ := Option.bind_eq_some_iff.mp e
        obtain ⟨y, h3, h4⟩ := Option.map_eq_some_iff.mp h2
        cases h4
        cases hb with
        | lst r0 =>
          cases hr with
          | cons hx ht =>
            cases ht
            cases rdR_int hx
            obtain ⟨w, hw, rw'⟩ := r0.get h3
            unfold smallI at hi
            simp only [Bool.and_eq_true, decide_eq_true_eq] at hi
            rw [r0.length] at h1
            exact mt_popAt pins s σ H _ _ v us Q I rx rv ⟨p, _, _, k, w, rfl, rfl, hH, by omega, by omega, ixN_seqIndex h1, hw, q _ _ (.lst (r0.eraseIdx k)) rw'⟩
      · cases e
    · cases e
  | reverse =>
    cases hm
    unfold mmD reverseD at e
    dsimp only at e
    split at e
    · cases e
      cases hb with
      | lst r0 =>
        cases hr
        exact mt_reverse pins s σ H _ _ v us Q I rx rv ⟨p, _, rfl, rfl, hH, q _ _ (.lst r0.reverse) .non⟩
    · cases e
  | clear =>
    cases hm
    unfold mmD clearD at e
    dsimp only at e
    split at e
    · cases e
      cases hb with
      | lst r0 =>
        cases hr
        exact mt_clear pins s σ H _ _ v us Q I rx rv ⟨p, _, rfl, rfl, hH, q _ _ (.lst .nil) .non⟩
    · cases e
  | setdefault =>
    cases hm
    have rs := hh rfl
    unfold mmD setdefD at e
    dsimp only at e
    split at e
    · obtain ⟨k, hk, e⟩ := Option.bind_eq_some_iff.mp e
      split at e
      · rename_i hl
        cases hb with
        | dt hlen r0 =>
          cases rs with
          | cons rk rt =>
            cases rt with
            | cons rv1 rt =>
              cases rt
              cases rk with
              | tup hF rks =>
                have hks := keysD_kV hk rks
                subst hks
                have hT := tx _ _ hF rfl
                cases rx
                cases rv with
                | cons ra rb =>
                  cases ra
                  cases rb with
                  | cons rb rc =>
                    cases rc
                    refine d_setdT hu I hH hT rb (by rw [List.length_zip, ← hlen, Nat.min_self, ← szB_eq]; exact of_decide_eq_true hl) (fun w hw w' s' I' rw' => ?_) fun hn w' s' I' rw' => ?_
                    · split at e
                      · rename_i z hz
                        cases e
                        obtain ⟨v2, h5, h6⟩ := look_rel r0 hz
                        rw [h5] at hw
                        cases hw
                        refine ⟨_, _, I', rw', ?_⟩
                        have := q _ _ (.dt hlen r0) h6
                        rw [upd_self hH] at this
                        exact this
                      · rename_i hz
                        rw [valV_look r0 hz] at hw
                        cases hw
                    · split at e
                      · rename_i z hz
                        obtain ⟨v2, h5, h6⟩ := look_rel r0 hz
                        rw [h5] at hn
                        cases hn
                      · cases e
                        rw [putK_new hn, zip_snoc hlen] at I'
                        exact ⟨_, _, I', rw', q _ _ (.dt (by simp [hlen]) (r0.append (.cons rv1 .nil))) rv1⟩
      · cases e
    · cases e
  | _ => cases hm
theorem mm_ty {m : Mm} {id : String} (hm : mmI m = some id) {pins : List (Addr × Obj)} {s : Shared} {d : D} {o : HO} {p : Addr} (I : Inv X pins σ H s) (hb : BoxO Z d o) (hH : H p = some o) (e : mmK m d = true) :
    s.TypeIs (.ref p) (mmT m) ∧ ∀ a, Value.ref p = .ref a → ∃ ob, s.heap.get? a = some ob ∧ ob.dict = none := by
  refine tyV_is (x := .ref p) I rfl ?_
  have hl : ∀ vs, o = .lst vs → mmT m = "list" → tyV X.K (mmT m) (.ref p) H := fun vs h1 h2 => .inl ⟨h2, vs, .inl (.inl (by rw [hH, h1]))⟩
  cases m <;> cases hm
  all_goals first
    | (cases hb with
       | lst r => exact hl _ rfl rfl
       | dk hl r => cases e
       | dt hl r => cases e)
    | (cases hb with
       | lst r => cases e
       | dk hl r => exact .inr (.inr (.inl ⟨rfl, .inl ⟨_, hH⟩⟩))
       | dt hl r => exact .inr (.inr (.inl ⟨rfl, .inr ⟨_, hH⟩⟩)))
/-- what a method's arguments are -/
def evMs (C : Ev) (m : Mm) (es : List E) (ρ : Frame) (S : Sto) : Res (List D) := if heldM m then evEs C es ρ S else (evRs C es ρ S).bind fun xs S => .ok (xs.map (D.look S)) S
def tMs (A : Act) (C : Ev) (W : WX) (m : Mm) (es : List E) : TA := fun σ H Q => ∃ Z ρ S, Gd A Z ρ S σ H ∧ post A W σ Z ρ (evMs C m es ρ S) fun Z' S' H' ds => ∀ vs, RdRs Z' H' ds vs → (heldM m = true → RelDs Z' ds vs) → Q vs H'
theorem ms_of {m : Mm} {es : List Expr} {is : List E} (h1 : PA X es (tAs A C W is)) (h2 : PA X es (tRs A C W is)) : PA X es (tMs A C W m is) := by
  by_cases hm : heldM m = true
  · refine paImp h1 fun σ H Q ⟨Z, ρ, S, g, p⟩ => ?_
    unfold evMs at p
    rw [if_pos hm] at p
    exact ⟨Z, ρ, S, g, p.imp fun Z' S' H' ds z g' k vs r => k vs r.rd fun _ => r⟩
  · refine paImp h2 fun σ H Q ⟨Z, ρ, S, g, p⟩ => ?_
    unfold evMs at p
    rw [if_neg hm] at p
    exact ⟨Z, ρ, S, g, p.bind.imp fun Z' S' H' ds z g' k vs r => k.ok g' vs (g'.looks r) fun h => absurd h hm⟩
theorem callWith_bm {T id : String} {name : Str} (slot : PySem.Slot T name id) {M : Model} {A : Around} {E : Value → Shared → Prop} {s : Shared} {env : Env} {pos : Pos} {v : Value} {es : List Expr} {Q : Value → Shared → Prop} (hn : ∀ e, e ∈ es → noStar e = true)
    (h : wpAny M A (spliced (backTo pos (starEach es env))) (fun us s1 => wpAny M A (PySem.call (.builtin id) (v :: us)) Q E s1) E s) : wpAny M A (callWith pos (.builtin id) [v] (backTo pos (starEach es env)) []) Q E s :=
  Calls.callWith_builtin (plainAny hn) (evalArgs_any (plainAll hn) h)
theorem fewForm {es : List Expr} {env : Env} {pos : Pos} (hn : ∀ e, e ∈ es → noStar e = true) (hl : es.length < 30) : ((backTo pos (starEach es env)).all (fun x => !x.1) && (backToKw pos (keywordEach [] env)).all (fun x => x.1.isSome)
      && decide (es.length + ([] : List Keyword).length + (if ([] : List Keyword).isEmpty then 0 else 1) < 30)) = true := methForm hn hl
theorem cellD_of {d : D} {c : Cell} (h : cellOf d = some c) : cellD c = some d ∧ c ≠ .dead := by
  cases d <;> cases h <;> exact ⟨rfl, fun e => nomatch e⟩
theorem cell_look {i : Nat} {d : D} (h : D.look S (.ref i) = d) (hb : isBox d = true) : ∃ c, S[i]? = some c ∧ cellD c = some d ∧ c ≠ .dead := by
  unfold D.look at h
  dsimp only at h
  cases e : S[i]? with
  | none => rw [e] at h; subst h; cases hb
  | some c =>
    rw [e] at h
    cases c with
    | lst xs => subst h; exact ⟨_, rfl, rfl, fun e => nomatch e⟩
    | dk ks xs => subst h; exact ⟨_, rfl, rfl, fun e => nomatch e⟩
    | dt ks xs => subst h; exact ⟨_, rfl, rfl, fun e => nomatch e⟩
    | ins c fs => subst h; cases hb
    | dead => subst h; cases hb
theorem cell_box (g : Gd A Z ρ S σ H) {i : Nat} {v : V} (r : RelD Z (.ref i) v) (hb : isBox (D.look S (.ref i)) = true) : ∃ p o c, v = .ref p ∧ Z.m[i]? = some p ∧ S[i]? = some c ∧ c ≠ .dead ∧ BoxO Z (D.look S (.ref i)) o ∧ H p = some o := by
  obtain ⟨c, h1, h2, h3⟩ := cell_look rfl hb
  cases r with
  | ref hm =>
    rename_i p
    have q := (g.cl.at_ i c p h1 hm).1
    generalize hh : H p = oo at q
    cases q with
    | box e r =>
      rw [h2] at e
      cases e
      exact ⟨p, _, c, rfl, hm, h1, h3, r, hh⟩
    | ins r => cases h2
    | dead => exact absurd rfl h3
theorem mmK_box {m : Mm} {d : D} (h : mmK m d = true) : isBox d = true := by
  cases m <;> cases d <;> first | rfl | cases h
theorem mmD_box {m : Mm} {d d' r : D} {ds : List D} (h : mmD m d ds = some (d', r)) : isBox d = true := by
  cases m <;> cases d <;> first | rfl | cases h
theorem s_mm (hu : X.A.units + 1 < cLine) {m : Mm} {id : String} (hm : mmI m = some id) {o : Expr} {es : List Expr} {io : E} {is : List E} {apos pos : Pos} (hs : noSuper o = true) (hline : (apos.endLine == pos.line) = true) (hn : ∀ e, e ∈ es → noStar e = true) (hl : es.length < 30)
    (ho : PE X o (tV A C W io)) (h1 : PA X es (tAs A C W is)) (h2 : PA X es (tRs A C W is)) : PE X (.Call (.Attribute o (mmN m) apos) es [] pos) (tE A C W (.mm m io is)) := by
  have ha := ms_of (m := m) h1 h2
  obtain ⟨pa, slot, hty⟩ := mm_facts hm
  refine ⟨fun pins s σ H Q I ⟨Z, ρ, S, g, p⟩ => ?_⟩
  rw [evE_mm] at p
  have p := (calm_of p).bind
  refine wpAny_Call_method_late (superE hs) (fewForm hn hl) hline rfl (thn (ho.run pins s σ H (fun x H1 => ∃ Z1 S1 i, Gd A Z1 ρ S1 σ H1 ∧ RelD Z1 (.ref i) x ∧ mmK m (D.look S1 (.ref i)) = true ∧ post A W σ Z1 ρ (evMs C m is ρ S1) fun Z' S' H' xs => post A W σ Z' ρ (match mmD m (D.look S' (.ref i)) xs with
      | some (d, r) => (match cellOf d with
        | some c => .ok r (S'.set i c)
        | none => .stuck)
      | none => .stuck : Res D) fun Z' S' H' d => ∀ v, Res1 A Z' ρ σ H' (isFresh C.tb (.mm m io is)) d v → Q v H') I ⟨Z, ρ, S, g, p.imp fun Z1 S1 H1 d z1 g1 p1 v rv => ?_⟩) fun u s1 ⟨x, H1, I1, rx, Z1, S1, i, g1, rd, hk, p1⟩ => ?_)
  · split at p1
    · split at p1
      · rename_i hk
        exact ⟨Z1, S1, _, g1, rv, hk, p1.bind⟩
      · exact p1.elim
    · exact p1.elim
  · obtain ⟨q, o0, c0, rfl, hm0, hS0, hd0, hb0, hH0⟩ := cell_box g1 rd (mmK_box hk)
    obtain rfl : u = Value.ref q := rx
    obtain ⟨t1, t2⟩ := mm_ty hm I1 hb0 hH0 hk
    refine ⟨mmT m, id, pa, slot, hty, t1, t2, callWith_bm slot hn (thn (ha.run pos pins s1 σ H1 (fun vs H2 => rMm m (.ref q) vs H2 Q) I1 ⟨Z1, ρ, S1, g1, p1.imp fun Z2 S2 H2 ds z2 g2 p2 vs rs hh => ?_⟩) fun us s2 ⟨vs, H2, I2, r, h⟩ => mr_mm hu hm pins s2 σ H2 (.ref q) vs (.ref q) us Q I2 rfl r h)⟩
    split at p2
    · rename_i d' r hD
      split at p2
      · rename_i c hc
        obtain ⟨q', o2, c2, e', hm2, hS2, hd2, hb2, hH2⟩ := cell_box g2 (rd.mono z2) (mmD_box hD)
        cases e'
        refine ⟨Z2, q, _, o2, ds, d', r, rfl, g2.tx, g2.fz, hb2, hH2, rs, hh, hD, fun v o' hb' rv => ?_⟩
        have g3 := g2.setCell (c := c) (o := o') hS2 hd2 hm2 (.box (cellD_of hc).1 hb')
        exact p2.ok g3 v (.of rv (by simp [isFresh]))
      · exact p2.elim
    · exact p2.elim
/-! ### an own slot's method, at the level of a statement -/
def tOwn (A : Act) (C : Ev) (W : WX) (i : Nat) (m : Mm) (is : List E) : TE := fun σ H Q => ∃ Z ρ S d, Gd A Z ρ S σ H ∧ ρ[i]? = some (.own d) ∧ mmK m d = true ∧ post A W σ Z ρ (evMs C m is ρ S) fun Z' S' H' xs => ∃ d' r, mmD m d xs = some (d', r) ∧ ∀ v H2, Gd A Z' (ρ.set i (.own d')) S' σ H2 → RelD Z' r v → Q v H2
theorem s_own (hu : X.A.units + 1 < cLine) {m : Mm} {id : String} (hm : mmI m = some id) {x : Str} {vp : Pos} {es : List Expr} {i : Nat} {is : List E} {apos pos : Pos} (hN : X.N[i]? = some x) (hv : Vis X.env.scope x) (hd : (x == ("__debug__" : Str)) = false) (hcd : (x == ("__classdict__" : Str)) = false) (hline : (apos.endLine == pos.line) = true) (hn : ∀ e, e ∈ es → noStar e = true) (hl : es.length < 30)
    (h1 : PA X es (tAs A C W is)) (h2 : PA X es (tRs A C W is)) : PE X (.Call (.Attribute (.Name x vp) (mmN m) apos) es [] pos) (tOwn A C W i m is) := by
  have ha := ms_of (m := m) h1 h2
  obtain ⟨pa, slot, hty⟩ := mm_facts hm
  refine ⟨fun pins s σ H Q I ⟨Z, ρ, S, d, g, hρ, hk, p⟩ => ?_⟩
  obtain ⟨v0, hσ, q, o0, rfl, hb0, hH0, nf, nm⟩ := g.slot hρ
  refine wpAny_Call_method_late (superE rfl) (fewForm hn hl) hline rfl (thn ((pe_var (pos := vp) hN hv hd hcd).run pins s σ H (fun x H1 => x = .ref q ∧ H1 = H) I ⟨_, hσ, rfl, rfl⟩) fun u s1 ⟨x, H1, I1, rx, e1, e2⟩ => ?_)
  subst e1 e2
  obtain rfl : u = Value.ref q := rx
  obtain ⟨t1, t2⟩ := mm_ty hm I1 hb0 hH0 hk
  refine ⟨mmT m, id, pa, slot, hty, t1, t2, callWith_bm slot hn (thn (ha.run pos pins s1 σ H1 (fun vs H2 => rMm m (.ref q) vs H2 Q) I1 ⟨Z, ρ, S, g, p.imp fun Z2 S2 H2 ds z2 g2 p2 vs rs hh => ?_⟩) fun us s2 ⟨vs, H2, I2, r, h⟩ => mr_mm hu hm pins s2 σ H2 (.ref q) vs (.ref q) us Q I2 rfl r h)⟩
  obtain ⟨d', r, hD, k⟩ := p2
  obtain ⟨v1, hσ1, q1, o1, e1, hb1, hH1, nf1, nm1⟩ := g2.slot hρ
  rw [hσ] at hσ1
  cases hσ1
  cases e1
  exact ⟨Z2, q, d, o1, ds, d', r, rfl, g2.tx, g2.fz, hb1, hH1, rs, hh, hD, fun v o' hb' rv => k v _ (g2.setOwn hρ hσ hb') rv⟩
/-! ### cells: ghost steps -/
theorem s_cell {e : Expr} {i : E} (hf : isFresh C.tb i = true) (h : PE X e (tE A C W i)) : PE X e (tE A C W (.cell i)) := peImp h fun σ H Q ⟨Z, ρ, S, g, p⟩ => by
  rw [evE_cell] at p
  refine ⟨Z, ρ, S, g, p.bind.imp fun Z1 S1 H1 d z1 g1 p1 v r => ?_⟩
  split at p1
  · rename_i c hc
    have hb : isBox d = true := by cases d <;> first | rfl | cases hc
    unfold Res1 at r
    rw [if_pos (by rw [hf, hb] <;> rfl)] at r
    obtain ⟨p, o, n⟩ := r
    obtain ⟨rfl, bx, hp, nf, nm, n0, no⟩ := n
    have g2 := g1.addCell (c := c) (by rw [hp]; exact .box (cellD_of hc).1 (bx.mono Zw.cell_le)) nf nm n0 no
    exact p1 _ _ Zw.cell_le g2 _ (.of (.ref (by rw [← g1.cl.len]; exact Zw.cell_at)) (by simp [isBox]))
  · exact p1.elim
end
end MP

set_option maxRecDepth 100000
set_option maxHeartbeats 4000000
/-! MiniPy: what is walked. -/
namespace MP
open PySem PySem.Spec L2
open PyProof.Rows hiding St
mutual
theorem D.beq_eq : ∀ {a b : D}, D.beq a b = true → a = b
  | .non, b, h => by cases b <;> first | rfl | cases h
  | .bl x, b, h => by cases b <;> first | (have := beq_iff_eq.mp (show (x == _) = true from h); rw [this]) | cases h
  | .int x, b, h => by cases b <;> first | (have := of_decide_eq_true (show decide (x = _) = true from h); rw [this]) | cases h
  | .str x, b, h => by cases b <;> first | (have := of_decide_eq_true (show decide (x = _) = true from h); rw [this]) | cases h
  | .tup xs, b, h => by cases b <;> first | (rw [D.beqs_eq (show D.beqs xs _ = true from h)]) | cases h
  | .lst xs, b, h => by cases b <;> first | (rw [D.beqs_eq (show D.beqs xs _ = true from h)]) | cases h
  | .dk ks xs, b, h => by
    cases b <;> first
      | (have h2 := Bool.and_eq_true_iff.mp (show (decide (ks = _) && D.beqs xs _) = true from h)
         rw [D.beqs_eq h2.2, of_decide_eq_true h2.1])
      | cases h
  | .dt ks xs, b, h => by
    cases b <;> first
      | (have h2 := Bool.and_eq_true_iff.mp (show (decide (ks = _) && D.beqs xs _) = true from h)
         rw [D.beqs_eq h2.2, of_decide_eq_true h2.1])
      | cases h
  | .ref x, b, h => by cases b <;> first | (have := beq_iff_eq.mp (show (x == _) = true from h); rw [this]) | cases h
  | .fn x, b, h => by cases b <;> first | (have := beq_iff_eq.mp (show (x == _) = true from h); rw [this]) | cases h
  | .exn x, b, h => by cases b <;> first | (have := beq_iff_eq.mp (show (x == _) = true from h); rw [this]) | cases h
theorem D.beqs_eq : ∀ {a b : List D}, D.beqs a b = true → a = b
  | [], b, h => by cases b <;> first | rfl | cases h
  | x :: xs, b, h => by
    cases b with
    | nil => cases h
    | cons y ys =>
      have h2 := Bool.and_eq_true_iff.mp (show (D.beq x y && D.beqs xs ys) = true from h)
      rw [D.beq_eq h2.1, D.beqs_eq h2.2]
end
section
variable {X : Cx} {A : Act} {C : Ev} {W : WX} {Z Z' Z1 : Zw} {ρ : Frame} {S S' : Sto} {σ : St} {H H' : Hp}
/-- a state behind, in which what is walked is as it was -/
structure At (cmp : Bool) (A : Act) (Z : Zw) (x : D) (S0 : Sto) (ρ0 : Frame) (σ0 : St) (Z2 : Zw) (H2 : Hp) : Prop where
  ex : ∃ A2 ρ2 S2 σ2, Zle Z Z2 ∧ Gd A2 Z2 ρ2 S2 σ2 H2 ∧ srcOk x S0 S2 = true ∧ (cmp = true → ∀ (j : Nat) d, ρ0[j]? = some (.own d) → ρ2[j]? = some (.own d) ∧ σ2[j]? = σ0[j]?)
/-- how an iterator serves the items xs -/
structure Serve (cmp : Bool) (A : Act) (Z : Zw) (x : D) (S0 : Sto) (ρ0 : Frame) (σ0 : St) (xs : List D) (J : It) : Prop where
  go : ∀ (i : Nat) d Z2 H2, xs[i]? = some d → At cmp A Z x S0 ρ0 σ0 Z2 H2 → J.go i H2 ∧ ∀ v H3, J.yld i H2 v H3 → (RelD Z2 d v ∧ H3 = H2) ∨ ∃ T ds vs, d = .tup ds ∧ v = .ref T ∧ RelDs Z2 ds vs ∧ H2 T = none ∧ H3 = upd H2 T (.tup vs)
  stop : ∀ Z2 H2, At cmp A Z x S0 ρ0 σ0 Z2 H2 → J.stop xs.length H2
theorem serve_list {cmp : Bool} {x : D} {xs : List D} {p : Addr} {K : PySem.W.Frag} (h : ∀ Z2 H2, At cmp A Z x S ρ σ Z2 H2 → ∃ vs, SqL K H2 p vs ∧ RelDs Z2 xs vs) : Serve cmp A Z x S ρ σ xs (Itl K p) := by
  refine ⟨fun i d Z2 H2 hd at_ => ?_, fun Z2 H2 at_ => ?_⟩
  · obtain ⟨vs, h1, h2⟩ := h Z2 H2 at_
    obtain ⟨v, h3, h4⟩ := h2.get hd
    refine ⟨⟨vs, v, h1, h3⟩, fun w H3 ⟨e, y⟩ => .inl ⟨?_, e⟩⟩
    have := y vs h1
    rw [h3] at this
    cases this
    exact h4
  · obtain ⟨vs, h1, h2⟩ := h Z2 H2 at_
    exact ⟨vs, h1, by rw [h2.length]; exact Nat.le_refl _⟩
theorem serve_tup {cmp : Bool} {x : D} {xs : List D} {p : Addr} {K : PySem.W.Frag} (h : ∀ Z2 H2, At cmp A Z x S ρ σ Z2 H2 → ∃ vs, SqT K H2 p vs ∧ RelDs Z2 xs vs) : Serve cmp A Z x S ρ σ xs (Itt K p) := by
  refine ⟨fun i d Z2 H2 hd at_ => ?_, fun Z2 H2 at_ => ?_⟩
  · obtain ⟨vs, h1, h2⟩ := h Z2 H2 at_
    obtain ⟨v, h3, h4⟩ := h2.get hd
    refine ⟨⟨vs, v, h1, h3⟩, fun w H3 ⟨e, y⟩ => .inl ⟨?_, e⟩⟩
    have := y vs h1
    rw [h3] at this
    cases this
    exact h4
  · obtain ⟨vs, h1, h2⟩ := h Z2 H2 at_
    exact ⟨vs, h1, by rw [h2.length]; exact Nat.le_refl _⟩
def iSeq (K : PySem.W.Frag) (te : TE) : TI := fun σ H R => te σ H fun x H1 => (∃ a, x = .ref a ∧ (∃ xs, SqL K H1 a xs) ∧ R (Itl K a) H1) ∨ (∃ a, x = .ref a ∧ (∃ xs, SqT K H1 a xs) ∧ R (Itt K a) H1) ∨ ∃ z, x = .str z ∧ R (Its z) H1
theorem pi_seq {tg e : Expr} {te : TE} (he : PE X e te) : PI X tg e (iSeq X.K te) := by
  refine ⟨fun pins s σ H R I h => ?_⟩
  refine thn (he.run pins s σ H _ I h) fun v s1 ⟨x, H1, I1, r1, q1⟩ => ?_
  rcases q1 with ⟨a, e, ⟨xs, hq⟩, q⟩ | ⟨a, e, ⟨xs, hq⟩, q⟩ | ⟨z, e, q⟩
  · subst e
    cases r1
    obtain ⟨its, rv, p, hz⟩ := I1.list hq
    refine wpAny_pyIter_list p.isList ?_
    exact pi_one (tk := s1.toks) I1 _ (turn_list a _) ⟨_, Heap.get?_push_size _ rfl, rfl, rfl⟩ q
  · subst e
    cases r1
    obtain ⟨its, rv, p, hz⟩ := I1.tuple hq
    refine wpAny_pyIter_tuple (show s1.heap.IsTuple a its.toArray from p) ?_
    exact pi_one (tk := s1.toks) I1 _ (turn_tuple a _) ⟨_, Heap.get?_push_size _ rfl, rfl, rfl⟩ q
  · subst e
    obtain ⟨t, rfl⟩ := r1
    cases ha : z.cps.all (· < 128)
    · exact wpAny_pyIter_wide ha (pi_one (tk := s1.toks) I1 _ (turn_str _ z t "str_iterator" (.inr rfl)) ⟨_, Heap.get?_push_size _ rfl, rfl, rfl⟩ q)
    · exact wpAny_pyIter_ascii ha (pi_one (tk := s1.toks) I1 _ (turn_str _ z t "str_ascii_iterator" (.inl rfl)) ⟨_, Heap.get?_push_size _ rfl, rfl, rfl⟩ q)
/-- an iterator's reading -/
def rawIf (cmp : Bool) (ρ : Frame) (i : E) (r : Res D) (S : Sto) : Res D := if cmp then raw ρ i r S else r
def tI (cmp : Bool) (A : Act) (C : Ev) (W : WX) (i : E) : TI := fun σ H R => ∃ Z ρ S, Gd A Z ρ S σ H ∧ post A W σ Z ρ (rawIf cmp ρ i (evE C i ρ S) S) fun Z' S' H' x => ∃ xs, itemsD (x.look S') = some xs ∧ ∀ J H2 Z2, Zle Z' Z2 → Gd A Z2 ρ S' σ H2 → Serve cmp A Z2 x S' ρ σ xs J → R J H2
theorem piImp {tg e : Expr} {t t' : TI} (h : PI X tg e t) (f : ∀ σ H R, t' σ H R → t σ H R) : PI X tg e t' := ⟨fun pins s σ H R I q => h.run pins s σ H R I (f σ H R q)⟩
theorem seq_serve (g : Gd A Z ρ S σ H) {cmp : Bool} {K : PySem.W.Frag} {x : D} {v : V} {xs : List D} (hx : RelD Z x v ∨ (cmp = true ∧ Raw Z ρ σ x v)) (e : itemsD (x.look S) = some xs) {R : It → Prop} (q : ∀ J, Serve cmp A Z x S ρ σ xs J → R J) :
    (∃ a, v = .ref a ∧ (∃ xs, SqL K H a xs) ∧ R (Itl K a)) ∨ (∃ a, v = .ref a ∧ (∃ xs, SqT K H a xs) ∧ R (Itt K a)) ∨ ∃ z, v = .str z ∧ R (Its z) := by
  have hx2 : RelD Z x v ∨ (cmp = true ∧ ∃ i : Nat, ρ[i]? = some (Slot.own x) ∧ σ[i]? = some (some v)) := by
    rcases hx with h | ⟨hc, h | h⟩
    · exact .inl h
    · exact .inl h
    · exact .inr ⟨hc, h⟩
  clear hx
  rcases hx2 with hx | ⟨hc, i, h1, h2⟩
  · cases hx with
    | @lst p xs' vs hF r =>
      cases e
      have k : ∀ Z2 H2, At cmp A Z (.lst xs) S ρ σ Z2 H2 → ∃ vs, SqL K H2 p vs ∧ RelDs Z2 xs vs := fun Z2 H2 ⟨A2, ρ2, S2, σ2, z2, g2, _, _⟩ => ⟨_, .inl (g2.fz _ _ (z2.F _ _ hF)), r.mono z2⟩
      exact .inl ⟨_, rfl, ⟨_, .inl (g.fz _ _ hF)⟩, q _ (serve_list k)⟩
    | @tup p xs' vs hF r =>
      cases e
      have k : ∀ Z2 H2, At cmp A Z (.tup xs) S ρ σ Z2 H2 → ∃ vs, SqT K H2 p vs ∧ RelDs Z2 xs vs := fun Z2 H2 ⟨A2, ρ2, S2, σ2, z2, g2, _, _⟩ => ⟨_, .inl (g2.fz _ _ (z2.F _ _ hF)), r.mono z2⟩
      exact .inr (.inl ⟨_, rfl, ⟨_, .inl (g.fz _ _ hF)⟩, q _ (serve_tup k)⟩)
    | str z hz =>
      cases e
      refine .inr (.inr ⟨z, rfl, q _ ⟨fun i d Z2 H2 hd _ => ?_, fun Z2 H2 _ => ?_⟩⟩)
      · rw [List.getElem?_map] at hd
        obtain ⟨c, hc, rfl⟩ := Option.map_eq_some_iff.mp hd
        rw [Array.getElem?_toList] at hc
        refine ⟨(Array.getElem?_eq_some_iff.mp hc).1, fun w H3 ⟨e, c', hc', e'⟩ => .inl ⟨?_, e⟩⟩
        rw [hc] at hc'
        cases hc'
        rw [e']
        exact .str _ (one_len _)
      · show _ ≤ _
        simp
    | @ref i p hm =>
      have hl : D.look S (.ref i) = .lst xs := by
        unfold D.look at e ⊢
        dsimp only at e ⊢
        cases hS : S[i]? with
        | none => rw [hS] at e; cases e
        | some c =>
          rw [hS] at e
          cases c with
          | lst ys => cases e; rfl
          | dk _ _ => cases e
          | dt _ _ => cases e
          | ins _ _ => cases e
          | dead => cases e
      have k : ∀ Z2 H2, At cmp A Z (.ref i) S ρ σ Z2 H2 → ∃ vs, SqL K H2 p vs ∧ RelDs Z2 xs vs := fun Z2 H2 ⟨A2, ρ2, S2, σ2, z2, g2, hs, _⟩ => by
        have h3 := (Bool.and_eq_true_iff.mp hs).1
        have h4 := D.beq_eq h3
        rw [hl] at h4
        obtain ⟨p2, o, c, e2, hm2, hS2, hd2, hb2, hH2⟩ := cell_box g2 (RelD.ref (z2.m _ _ hm)) (by rw [← h4]; rfl)
        cases e2
        rw [← h4] at hb2
        cases hb2 with
        | lst r => exact ⟨_, .inl (.inl hH2), r⟩
      obtain ⟨p0, o0, c0, e0, hm0, hS0, hd0, hb0, hH0⟩ := cell_box g (RelD.ref hm) (by rw [hl]; rfl)
      cases e0
      rw [hl] at hb0
      cases hb0 with
      | lst r0 => exact .inl ⟨p, rfl, ⟨_, .inl (.inl hH0)⟩, q _ (serve_list k)⟩
    | _ => cases e
  · obtain ⟨v0, hσ, p, o, e0, hb, hH, _⟩ := g.slot h1
    rw [h2] at hσ
    cases hσ
    cases e0
    have el : x.look S = x := by cases hb <;> rfl
    rw [el] at e
    cases hb with
    | lst r =>
      cases e
      have k : ∀ Z2 H2, At cmp A Z (.lst xs) S ρ σ Z2 H2 → ∃ vs, SqL K H2 p vs ∧ RelDs Z2 xs vs := fun Z2 H2 ⟨A2, ρ2, S2, σ2, z2, g2, _, hs⟩ => by
        obtain ⟨h3, h4⟩ := hs hc i _ h1
        obtain ⟨v5, h5, p5, o5, e5, hb5, hH5, _⟩ := g2.slot h3
        rw [h4, h2] at h5
        cases h5
        cases e5
        cases hb5 with
        | lst r5 => exact ⟨_, .inl (.inl hH5), r5⟩
      exact .inl ⟨p, rfl, ⟨_, .inl (.inl hH)⟩, q _ (serve_list k)⟩
    | dk hl r => cases e
    | dt hl r => cases e
theorem s_seq {cmp : Bool} {tg e : Expr} {i : E} (h : PE X e (if cmp then tR A C W i else tV A C W i)) : PI X tg e (tI cmp A C W i) := by
  cases cmp with
  | true =>
    exact piImp (pi_seq h) fun σ H R ⟨Z, ρ, S, g, p⟩ => ⟨Z, ρ, S, g, p.imp fun Z' S' H' x z g' ⟨xs, e, q⟩ v rv => seq_serve g' (.inr ⟨rfl, rv⟩) e fun J hJ => q J H' Z' .refl g' hJ⟩
  | false =>
    exact piImp (pi_seq h) fun σ H R ⟨Z, ρ, S, g, p⟩ => ⟨Z, ρ, S, g, p.imp fun Z' S' H' x z g' ⟨xs, e, q⟩ v rv => seq_serve g' (.inl rv) e fun J hJ => q J H' Z' .refl g' hJ⟩
theorem rng_serve {cmp : Bool} {x : D} {lo : Int} {n : Nat} : Serve cmp A Z x S ρ σ ((List.range n).map fun k => .int (lo + (k : Nat))) (Itr lo n) := by
  refine ⟨fun i d Z2 H2 hd _ => ?_, fun Z2 H2 _ => ?_⟩
  · rw [List.getElem?_map] at hd
    obtain ⟨c, hc, rfl⟩ := Option.map_eq_some_iff.mp hd
    obtain ⟨h1, h2⟩ := List.getElem?_eq_some_iff.mp hc
    have h3 : c = i := by simpa using h2.symm
    subst h3
    refine ⟨show c < n by simpa using h1, fun w H3 ⟨e, e'⟩ => .inl ⟨?_, e⟩⟩
    rw [e']
    exact .int _
  · show n ≤ _
    simp
theorem rngC_serve {cmp : Bool} {x : D} {lo c : Int} {n : Nat} : Serve cmp A Z x S ρ σ ((List.range n).map fun k => .int (lo + (k : Nat) * c)) (Itc lo c n) := by
  refine ⟨fun i d Z2 H2 hd _ => ?_, fun Z2 H2 _ => ?_⟩
  · rw [List.getElem?_map] at hd
    obtain ⟨b, hc, rfl⟩ := Option.map_eq_some_iff.mp hd
    obtain ⟨h1, h2⟩ := List.getElem?_eq_some_iff.mp hc
    have h3 : b = i := by simpa using h2.symm
    subst h3
    refine ⟨show b < n by simpa using h1, fun w H3 ⟨e, e'⟩ => .inl ⟨?_, e⟩⟩
    rw [e']
    exact .int _
  · show n ≤ _
    simp
theorem rawIf_of {cmp : Bool} {i : E} {r : Res D} (h : ∀ k, i ≠ .var k) : rawIf cmp ρ i r S = r := by
  unfold rawIf
  cases cmp with
  | false => rfl
  | true => cases i <;> first | rfl | exact absurd rfl (h _)
theorem smallI_of {i : Int} (h : smallI i = true) : -(2 ^ 62) ≤ i ∧ i < 2 ^ 62 := by
  unfold smallI at h
  simpa only [Bool.and_eq_true, decide_eq_true_eq] using h
def iRngN (ta : TA) : TI := fun σ H R => ta σ H fun vs H1 => (∃ j : Int, vs = [.int j] ∧ (-(2 ^ 62) ≤ j ∧ j < 2 ^ 62) ∧ R (Itr 0 j.toNat) H1) ∨
  (∃ i j : Int, vs = [.int i, .int j] ∧ (-(2 ^ 62) ≤ i ∧ i < 2 ^ 62 ∧ -(2 ^ 62) ≤ j ∧ j < 2 ^ 62) ∧ R (Itr i (j - i).toNat) H1) ∨
  ∃ (i j c : Int) (n : Nat), vs = [.int i, .int j, .int c] ∧ RgC i j c n ∧ R (Itc i c n) H1
theorem pi_rangeN {tg : Expr} {es : List Expr} {ta : TA} {p pos : Pos} (hg : Gl X "range") (hm : X.mg "range" = none) (hn : ∀ e, e ∈ es → noStar e = true) (ha : PA X es ta) : PI X tg (.Call (.Name "range" p) es [] pos) (iRngN ta) := by
  refine ⟨fun pins s σ H R I h => ?_⟩
  refine wpAny_Call_Name_kw (ld_blt I hg hm boot_range (PyProof.Rows.callWith_type (plainAny hn) (evalArgs_any (plainAll hn) (thn (ha.run pos pins s σ H _ I h) fun us s1 ⟨vs, H1, I1, r1, q1⟩ => ?_))) (by decide) (by decide))
  rcases q1 with ⟨j, e, ⟨q1, q2⟩, q⟩ | ⟨i, j, e, ⟨q1, q2, q3, q4⟩, q⟩ | ⟨i, j, c, n, e, ok, q⟩
  · subst e
    cases r1 with
    | cons r rr =>
      cases rr
      obtain ⟨t, rfl⟩ := r
      exact call_range_1 (range_it I1 (by omega) (by omega) q1 q2 (by simpa using q))
  · subst e
    cases r1 with
    | cons r rr =>
      cases rr with
      | cons r' rr =>
        cases rr
        obtain ⟨t, rfl⟩ := r
        obtain ⟨t', rfl⟩ := r'
        exact call_range_2 (range_it I1 q1 q2 q3 q4 q)
  · subst e
    obtain ⟨c0, c1, c2, c3⟩ := ok
    cases r1 with
    | cons r rr =>
      cases rr with
      | cons r' rr =>
        cases rr with
        | cons r'' rr =>
          cases rr
          obtain ⟨t, rfl⟩ := r
          obtain ⟨t', rfl⟩ := r'
          obtain ⟨t'', rfl⟩ := r''
          refine call_range_3 c0 ?_ (.inl (PyProof.noPylong_small c1))
          refine wpAny_pyIter_range (IsRange.new ..) c2 ?_
          have I2 : Inv X pins σ H1 { s1 with heap := s1.heap.push { cls := .type "range", data := .fields #[.int i t, .int j t', .int c t''] } } := I1.kept (t' := s1.toks) fun b o e => Heap.get?_push_of_some _ e
          refine pi_one (tk := s1.toks) I2 _ (turn_rangeC _ i c n) ?_ q
          have e1 : i + ((0 : Nat) : Int) * c = i := by simp
          have e2 : (n : Int) - ((0 : Nat) : Int) = Builtin.Range.rangeSize i j c := by rw [c3]; simp
          show IsRangeIter _ _ (i + ((0 : Nat) : Int) * c) ((n : Int) - ((0 : Nat) : Int)) c
          rw [e1, e2]
          exact Heap.get?_push_size _ rfl
theorem s_rng {cmp : Bool} {tg : Expr} {es : List Expr} {is : List E} {p pos : Pos} (hg : Gl X "range") (hm : X.mg "range" = none) (hn : ∀ e, e ∈ es → noStar e = true) (ha : PA X es (tAs A C W is)) : PI X tg (.Call (.Name "range" p) es [] pos) (tI cmp A C W (.rng is)) :=
  piImp (pi_rangeN hg hm hn ha) fun σ H R ⟨Z, ρ, S, g, p⟩ => by
    rw [rawIf_of (i := .rng is) (fun k e => nomatch e), evE_rng] at p
    refine ⟨Z, ρ, S, g, p.bind.imp fun Z1 S1 H1 ds z1 g1 p1 vs rs => ?_⟩
    obtain ⟨d, e, p2⟩ := p1.of
    obtain ⟨l, e2, rfl⟩ := Option.map_eq_some_iff.mp e
    obtain ⟨xs, e3, q⟩ := p2.ok g1
    have e3 : some l = some xs := e3
    cases e3
    unfold rngD at e2
    split at e2
    · split at e2
      · rename_i h
        cases e2
        cases rs with
        | cons r rt =>
          cases rt
          cases r
          refine .inl ⟨_, rfl, smallI_of h, q _ H1 Z1 .refl g1 ?_⟩
          unfold rngL
          rw [if_pos rfl, Int.sub_zero]
          exact rng_serve
      · cases e2
    · split at e2
      · rename_i h
        cases e2
        have h := Bool.and_eq_true_iff.mp h
        cases rs with
        | cons r rt =>
          cases rt with
          | cons r2 rt =>
            cases rt
            cases r
            cases r2
            refine .inr (.inl ⟨_, _, rfl, ⟨(smallI_of h.1).1, (smallI_of h.1).2, (smallI_of h.2).1, (smallI_of h.2).2⟩, q _ H1 Z1 .refl g1 ?_⟩)
            unfold rngL
            rw [if_pos rfl]
            exact rng_serve
      · cases e2
    · split at e2
      · rename_i i j c h
        cases e2
        simp only [Bool.and_eq_true, Bool.or_eq_true, decide_eq_true_eq] at h
        obtain ⟨⟨h1, h2⟩, h3⟩ := h
        cases rs with
        | cons r rt =>
          cases rt with
          | cons r2 rt =>
            cases rt with
            | cons r3 rt =>
              cases rt
              cases r
              cases r2
              cases r3
              subst h3
              refine .inr (.inr ⟨_, _, _, _, rfl, RgC.neg (smallI_of h1).1 (smallI_of h1).2 (smallI_of h2).1 (smallI_of h2).2, q _ H1 Z1 .refl g1 ?_⟩)
              unfold rngL
              rw [if_neg (by decide), if_pos rfl]
              exact rngC_serve
      · cases e2
    · cases e2
/-! ### enumerate, reversed, items -/
theorem enumL_get : ∀ {xs : List D} {n i : Nat} {d : D}, (enumL n xs)[i]? = some d → ∃ x, xs[i]? = some x ∧ d = .tup [.int ((n + i : Nat) : Int), x]
  | [], _, _, _, h => by simp [enumL] at h
  | x :: xs, n, 0, d, h => by
    simp [enumL] at h
    exact ⟨x, rfl, by rw [← h] <;> rfl⟩
  | x :: xs, n, i + 1, d, h => by
    rw [enumL, List.getElem?_cons_succ] at h
    obtain ⟨y, h1, h2⟩ := enumL_get h
    refine ⟨y, by simpa using h1, ?_⟩
    rw [h2]
    have e : n + 1 + i = n + (i + 1) := by omega
    rw [e]
theorem enumL_len : ∀ {xs : List D} {n : Nat}, (enumL n xs).length = xs.length
  | [], _ => rfl
  | _ :: xs, _ => by simp [enumL, enumL_len (xs := xs)]
theorem s_enm {cmp : Bool} {e : Expr} {i : E} {p pos tpos : Pos} {elts : List Expr} {kk : Nat} (hg : Gl X "enumerate") (hm : X.mg "enumerate" = none) (hn : noStar e = true) (ha : PE X e (tV A C W i)) : PI X (.Tuple elts kk tpos) (.Call (.Name "enumerate" p) [e] [] pos) (tI cmp A C W (.enm i)) :=
  piImp (pi_enum hg hm (pa_cons ha pa_nil (starE hn)) (starE hn)) fun σ H R ⟨Z, ρ, S, g, p⟩ => by
    rw [rawIf_of (i := .enm i) (fun k e => nomatch e), evE_enm] at p
    refine ⟨Z, ρ, S, g, p.bind.imp fun Z1 S1 H1 d z1 g1 p1 v rv => ?_⟩
    split at p1
    · rename_i xs
      cases rv with
      | lst hF r =>
        obtain ⟨ys, e3, q⟩ := p1.ok g1
        cases e3
        refine ⟨_, _, rfl, .inl (g1.fz _ _ hF), q _ H1 Z1 .refl g1 ⟨fun i d Z2 H2 hd ⟨A2, ρ2, S2, σ2, z2, g2, _, _⟩ => ?_, fun Z2 H2 ⟨A2, ρ2, S2, σ2, z2, g2, _, _⟩ => ?_⟩⟩
        · obtain ⟨x, h1, rfl⟩ := enumL_get hd
          obtain ⟨w, h2, h3⟩ := (r.mono z2).get h1
          have hq : SqL X.K H2 _ _ := .inl (g2.fz _ _ (z2.F _ _ hF))
          refine ⟨⟨_, w, hq, h2⟩, fun v H3 ⟨T, y, e1, e2, e3, e4⟩ => .inr ⟨T, _, _, rfl, e1, ?_, e2, e3⟩⟩
          have h5 := e4 _ hq
          rw [h2] at h5
          cases h5
          rw [Nat.zero_add]
          exact .cons (.int _) (.cons h3 .nil)
        · exact ⟨_, .inl (g2.fz _ _ (z2.F _ _ hF)), by rw [enumL_len, r.length]; exact Nat.le_refl _⟩
    · exact p1.elim
theorem s_rev {cmp : Bool} {tg e : Expr} {i : E} {p pos : Pos} (hg : Gl X "reversed") (hm : X.mg "reversed" = none) (hn : noStar e = true) (ha : PE X e (tV A C W i)) : PI X tg (.Call (.Name "reversed" p) [e] [] pos) (tI cmp A C W (.rev i)) :=
  piImp (RT.pi_revA hg hm ha (starE hn)) fun σ H R ⟨Z, ρ, S, g, p⟩ => by
    rw [rawIf_of (i := .rev i) (fun k e => nomatch e), evE_rev] at p
    refine ⟨Z, ρ, S, g, p.bind.imp fun Z1 S1 H1 d z1 g1 p1 v rv => ?_⟩
    split at p1
    · rename_i xs
      cases rv with
      | lst hF r =>
        obtain ⟨ys, e3, q⟩ := p1.ok g1
        cases e3
        refine ⟨_, _, rfl, .inl ⟨.inl (g1.fz _ _ hF), q _ H1 Z1 .refl g1 ⟨fun i d Z2 H2 hd ⟨A2, ρ2, S2, σ2, z2, g2, _, _⟩ => ?_, fun Z2 H2 ⟨A2, ρ2, S2, σ2, z2, g2, _, _⟩ => ?_⟩⟩⟩
        · have hi : i < xs.length := by
            have := (List.getElem?_eq_some_iff.mp hd).1
            simpa using this
          rw [List.getElem?_reverse hi] at hd
          obtain ⟨w, h2, h3⟩ := (r.mono z2).get hd
          have hq : SqL X.K H2 _ _ := .inl (g2.fz _ _ (z2.F _ _ hF))
          rw [r.length] at h2 hi
          refine ⟨⟨hi, _, w, hq, h2⟩, fun v H3 ⟨e, y⟩ => .inl ⟨?_, e⟩⟩
          have h5 := y _ hq
          rw [h2] at h5
          cases h5
          exact h3
        · show _ ≤ _
          rw [List.length_reverse, r.length]
          exact Nat.le_refl _
    · exact p1.elim
end
end MP

set_option maxRecDepth 100000
set_option maxHeartbeats 4000000
/-! MiniPy: targets, comprehensions. -/
namespace MP
open PySem PySem.Spec L2
open PyProof.Rows hiding St
section
variable {X : Cx} {A : Act} {C : Ev} {W : WX} {Z Z' Z1 : Zw} {ρ ρ' : Frame} {S S' : Sto} {σ σ' : St} {H H' : Hp}
/-- a slot gets another value, one that is not its own -/
theorem Gd.reslot (g : Gd A Z ρ S σ H) {i : Nat} {s : Slot} {v : Option V} (hs : s.free = true) (ok : SlotOk Z H s v) : Gd A Z (ρ.set i s) S (σ.set i v) H := by
  have own : ∀ j p, OwnAt (ρ.set i s) (σ.set i v) j p → OwnAt ρ σ j p ∧ j ≠ i := fun j p ⟨⟨d, h1⟩, h2⟩ => by
    by_cases e : j = i
    · subst e
      by_cases hl : j < ρ.length
      · rw [List.getElem?_set_self hl] at h1
        cases h1
        cases hs
      · rw [List.getElem?_eq_none (by simpa using hl)] at h1
        cases h1
    · rw [List.getElem?_set_ne (fun z => e z.symm)] at h1 h2
      exact ⟨⟨⟨d, h1⟩, h2⟩, e⟩
  refine ⟨g.kk, g.ff, g.fz, g.tx, g.lz, g.cl, by rw [List.length_set, List.length_set]; exact g.len, fun j t w h1 h2 => ?_, fun a b p h1 h2 => g.od a b p (own a p h1).1 (own b p h2).1, fun j p h => g.o0 j p (own j p h).1, g.ent, g.nf, g.nm, g.f0⟩
  by_cases e : j = i
  · subst e
    have hl : j < ρ.length := by simpa using (List.getElem?_eq_some_iff.mp h1).1
    rw [List.getElem?_set_self hl] at h1
    rw [List.getElem?_set_self (by rw [← g.len]; exact hl)] at h2
    cases h1
    cases h2
    exact ok
  · rw [List.getElem?_set_ne (fun z => e z.symm)] at h1 h2
    exact g.sl j t w h1 h2
theorem Gd.setVal (g : Gd A Z ρ S σ H) {i : Nat} {d : D} {v : V} (r : RelD Z d v) : Gd A Z (ρ.set i (.val d)) S (σ.set i (some v)) H := g.reslot rfl ⟨v, rfl, r⟩
theorem Gd.wipe (g : Gd A Z ρ S σ H) : ∀ own : List Nat, Gd A Z (wipeF ρ own) S (L2.wipe σ own) H
  | [] => g
  | i :: is => (g.wipe is).reslot (s := .no) rfl True.intro
theorem Gd.back (gi : Gd A Z' ρ' S' σ' H') (g : Gd A Z ρ S σ H) (k : Zle Z Z') (same : ∀ (j : Nat) d, ρ[j]? = some (.own d) → ρ'[j]? = some (.own d) ∧ σ'[j]? = σ[j]?) : Gd A Z' ρ S' σ H' := by
  refine ⟨gi.kk, gi.ff, gi.fz, gi.tx, gi.lz, gi.cl, g.len, fun j s v h1 h2 => ?_, g.od, g.o0, gi.ent, gi.nf, gi.nm, gi.f0⟩
  have q := g.sl j s v h1 h2
  cases s with
  | no => trivial
  | val d =>
    obtain ⟨x, e, rx⟩ := q
    exact ⟨x, e, rx.mono k⟩
  | own d =>
    obtain ⟨h3, h4⟩ := same j d h1
    exact gi.sl j _ _ h3 (h4.trans h2)
def Act.push (A : Act) (D : Addr) (o : HO) : Act := { A with H0 := upd A.H0 D o }
theorem Gd.push (g : Gd A Z ρ S σ H) {D : Addr} {o : HO} (hD : H D = some o) (nf : Z.F D = none) (nm : D ∉ Z.m) (no : ∀ i, ¬ OwnAt ρ σ i D) : Gd (A.push D o) Z ρ S σ H := by
  refine ⟨g.kk, g.ff, g.fz, g.tx, g.lz, g.cl, g.len, g.sl, g.od, fun i p h => ?_, fun p u h1 h2 h3 => ?_, fun p u h1 h2 => ?_, ?_, g.f0⟩
  · show upd A.H0 D o p = none
    rw [upd_ne (fun e => no i (by rw [← e]; exact h))]
    exact g.o0 i p h
  · have h1' : upd A.H0 D o p = some u := h1
    by_cases e : p = D
    · subst e
      rw [upd_same] at h1'
      cases h1'
      exact hD
    · rw [upd_ne e] at h1'
      exact g.ent p u h1' h2 h3
  · show upd A.H0 D o p = none
    rw [upd_ne (fun e => by rw [e, nf] at h1; cases h1)]
    exact g.nf p u h1 h2
  · obtain ⟨r, e, h⟩ := g.nm
    refine ⟨r, e, fun p hp => ?_⟩
    show upd A.H0 D o p = none
    rw [upd_ne (fun z => nm (by rw [e, ← z]; exact List.mem_append_right _ hp))]
    exact h p hp
theorem Gd.unpush {D : Addr} {o : HO} (g : Gd (A.push D o) Z ρ S σ H) (h0 : A.H0 D = none) (f0 : A.F0 D = none) (m0 : D ∉ A.m0) : Gd A Z ρ S σ H ∧ H D = some o ∧ Z.F D = none ∧ D ∉ Z.m := by
  have hD : (A.push D o).H0 D = some o := upd_same
  have nfD : Z.F D = none := by
    cases e : Z.F D with
    | none => rfl
    | some u =>
      have := g.nf D u e f0
      rw [hD] at this
      cases this
  have nmD : D ∉ Z.m := fun hm => by
    obtain ⟨r, e, h⟩ := g.nm
    rw [e] at hm
    rcases List.mem_append.mp hm with hm | hm
    · exact m0 hm
    · have := h D hm
      rw [hD] at this
      cases this
  refine ⟨⟨g.kk, g.ff, g.fz, g.tx, g.lz, g.cl, g.len, g.sl, g.od, fun i p h => ?_, fun p u h1 h2 h3 => ?_, fun p u h1 h2 => ?_, ?_, g.f0⟩, g.ent D o hD m0 f0, nfD, nmD⟩
  · have h1 : upd A.H0 D o p = none := g.o0 i p h
    by_cases e : p = D
    · rw [e]; exact h0
    · rw [upd_ne e] at h1
      exact h1
  · refine g.ent p u ?_ h2 h3
    show upd A.H0 D o p = some u
    rw [upd_ne (fun e => by rw [e, h0] at h1; cases h1)]
    exact h1
  · have h3 : upd A.H0 D o p = none := g.nf p u h1 h2
    by_cases e : p = D
    · rw [e]; exact h0
    · rw [upd_ne e] at h3
      exact h3
  · obtain ⟨r, e, h⟩ := g.nm
    refine ⟨r, e, fun p hp => ?_⟩
    have h3 : upd A.H0 D o p = none := h p hp
    by_cases e : p = D
    · rw [e]; exact h0
    · rw [upd_ne e] at h3
      exact h3
/-- an object that nothing speaks of is changed -/
theorem Gd.poke (g : Gd A Z ρ S σ H) {D : Addr} {o : HO} (nf : Z.F D = none) (nm : D ∉ Z.m) (no : ∀ i, ¬ OwnAt ρ σ i D) (h0 : A.H0 D = none) : Gd A Z ρ S σ (upd H D o) := by
  refine ⟨g.kk, g.ff, fun p u h => ?_, fun p u h hu => ?_, fun p u h => ?_, ⟨g.cl.len, g.cl.nd, fun i c p h1 h2 => ?_⟩, g.len, fun i s v h1 h2 => ?_, g.od, g.o0, fun p u h1 h2 h3 => ?_, g.nf, g.nm, g.f0⟩
  · have ne : p ≠ D := fun e => by rw [e, nf] at h; cases h
    rcases g.fz p u h with h | ⟨w, h⟩
    · exact .inl (by rw [upd_ne ne]; exact h)
    · exact .inr ⟨w, by rw [upd_ne ne]; exact h⟩
  · have ne : p ≠ D := fun e => by rw [e, nf] at h; cases h
    rw [upd_ne ne]
    exact g.tx p u h hu
  · obtain ⟨w, h1, h2⟩ := g.lz p u h
    have ne : p ≠ D := fun e => by rw [e, nf] at h1; cases h1
    exact ⟨w, h1, by rw [upd_ne ne]; exact h2⟩
  · have ne : p ≠ D := fun e => nm (by rw [← e]; exact List.mem_of_getElem? h2)
    rw [upd_ne ne]
    exact g.cl.at_ i c p h1 h2
  · have q := g.sl i s v h1 h2
    cases s with
    | no => trivial
    | val d => exact q
    | own d =>
      obtain ⟨p, o2, e, b, rd, nf2, nm2⟩ := q
      refine ⟨p, o2, e, b, ?_, nf2, nm2⟩
      rw [upd_ne (fun z => no i ⟨⟨d, h1⟩, by rw [h2, e, z]⟩)]
      exact rd
  · have ne : p ≠ D := fun e => by rw [e, h0] at h1; cases h1
    rw [upd_ne ne]
    exact g.ent p u h1 h2 h3
/-! ### targets -/
def gT (A : Act) (t : Tgt) : TG := fun v σ H Q => ∃ Z ρ S d ρ', Gd A Z ρ S σ H ∧ RelD Z d v ∧ bindT t d ρ = some ρ' ∧ ∀ σ', Gd A Z ρ' S σ' H → (∀ j, j ∉ t.vars → σ'[j]? = σ[j]? ∧ ρ'[j]? = ρ[j]?) → Q σ' H
def gTs (A : Act) (ts : List Tgt) : TGs := fun vs σ H Q => ∃ Z ρ S ds ρ', Gd A Z ρ S σ H ∧ RelDs Z ds vs ∧ bindTs ts ds ρ = some ρ' ∧ ∀ σ', Gd A Z ρ' S σ' H → (∀ j, j ∉ Tgt.varss ts → σ'[j]? = σ[j]? ∧ ρ'[j]? = ρ[j]?) → Q σ' H
theorem pgImp {e : Expr} {t t' : TG} (h : PG X e t) (f : ∀ v σ H Q, t' v σ H Q → t v σ H Q) : PG X e t' := ⟨fun pins s σ H v u Q I r q => h.run pins s σ H v u Q I r (f v σ H Q q)⟩
theorem pgsImp {e : List Expr} {t t' : TGs} (h : PGs X e t) (f : ∀ v σ H Q, t' v σ H Q → t v σ H Q) : PGs X e t' := ⟨fun pins s σ H v u Q I r q => h.run pins s σ H v u Q I r (f v σ H Q q)⟩
theorem g_name {i : Nat} {x : Str} {pos : Pos} (hN : X.N.Nodup) (hi : X.N[i]? = some x) (hx : Loc X.env.scope x) (hf : X.fn x = true ∨ X.env.scope.names.lookup x = some .local) : PG X (.Name x pos) (gT A (.v i)) :=
  pgImp (pg_name hN hi hx hf) fun v σ H Q ⟨Z, ρ, S, d, ρ', g, r, e, k⟩ => by
    rw [bindT] at e
    cases e
    refine k _ (g.setVal r) fun j hj => ?_
    have ne : i ≠ j := fun e => hj (by rw [e]; simp [Tgt.vars])
    exact ⟨List.getElem?_set_ne ne, List.getElem?_set_ne ne⟩
theorem gs_nil : PGs X [] (gTs A []) := pgsImp pgs_nil fun v σ H Q ⟨Z, ρ, S, d, ρ', g, r, e, k⟩ => by
  cases d with
  | cons _ _ => rw [bindTs] at e <;> first | cases e | simp
  | nil =>
    cases r
    rw [bindTs] at e
    cases e
    exact ⟨rfl, k σ g fun j _ => ⟨rfl, rfl⟩⟩
/-- a target without a star -/
def plainTg : Expr → Bool
  | .Name _ _ => true
  | .Tuple _ _ _ => true
  | _ => false
theorem tgE {e : Expr} {es : List Expr} {env : Env} (h : plainTg e = true) : assignEach (e :: es) env = (false, assign e env) :: assignEach es env := by
  cases e <;> first | rfl | cases h
theorem gs_cons {e : Expr} {es : List Expr} {t : Tgt} {ts : List Tgt} (hp : plainTg e = true) (h1 : PG X e (gT A t)) (h2 : PGs X es (gTs A ts)) : PGs X (e :: es) (gTs A (t :: ts)) :=
  pgsImp (pgs_cons h1 h2 (by rw [tgE hp]; rfl)) fun v σ H Q ⟨Z, ρ, S, d, ρ', g, r, e, k⟩ => by
    cases d with
    | nil => rw [bindTs] at e <;> first | cases e | simp
    | cons d ds =>
      rw [bindTs] at e
      obtain ⟨ρ1, h3, h4⟩ := Option.bind_eq_some_iff.mp e
      cases r with
      | cons r rs =>
        refine ⟨_, _, rfl, Z, ρ, S, d, ρ1, g, r, h3, fun σ1 g1 k1 => ⟨Z, ρ1, S, ds, ρ', g1, rs, h4, fun σ2 g2 k2 => k σ2 g2 fun j hj => ?_⟩⟩
        rw [Tgt.varss] at hj
        simp only [List.mem_append, not_or] at hj
        obtain ⟨a1, a2⟩ := k1 j hj.1
        obtain ⟨b1, b2⟩ := k2 j hj.2
        exact ⟨b1.trans a1, b2.trans a2⟩
theorem bindTs_len : ∀ {ts : List Tgt} {ds : List D} {ρ ρ' : Frame}, bindTs ts ds ρ = some ρ' → ds.length = ts.length
  | [], [], _, _, _ => rfl
  | [], _ :: _, _, _, e => by rw [bindTs] at e <;> first | cases e | simp
  | _ :: _, [], _, _, e => by rw [bindTs] at e <;> first | cases e | simp
  | t :: ts, d :: ds, ρ, ρ', e => by
    rw [bindTs] at e
    obtain ⟨ρ1, h3, h4⟩ := Option.bind_eq_some_iff.mp e
    simp [bindTs_len h4]
theorem tgs_len {env : Env} : ∀ {es : List Expr}, (∀ e, e ∈ es → plainTg e = true) → (assignEach es env).length = es.length ∧ (assignEach es env).findIdx? (·.1) = none
  | [], _ => ⟨rfl, rfl⟩
  | e :: es, h => by
    rw [tgE (h e (by simp))]
    obtain ⟨h1, h2⟩ := tgs_len (env := env) (es := es) fun e' he => h e' (by simp [he])
    refine ⟨by simp [h1], ?_⟩
    rw [List.findIdx?_cons]
    simp [h2]
theorem g_tup {es : List Expr} {ts : List Tgt} {k : Nat} {pos : Pos} (hc : X.calm = true) (hp : ∀ e, e ∈ es → plainTg e = true) (hl : es.length = ts.length) (h : PGs X es (gTs A ts)) : PG X (.Tuple es k pos) (gT A (.t ts)) :=
  pgImp (pg_tup (k := k) (pos := pos) hc h (tgs_len hp).1 (tgs_len hp).2) fun v σ H Q ⟨Z, ρ, S, d, ρ', g, r, e, k⟩ => by
    cases d with
    | tup xs =>
      rw [bindT] at e
      cases r with
      | tup hF rs => exact ⟨_, _, rfl, .inl (g.fz _ _ hF), by rw [← rs.length, bindTs_len e, hl], Z, ρ, S, xs, ρ', g, rs, e, fun σ' g' k' => k σ' g' (by rw [Tgt.vars]; exact k')⟩
    | _ => rw [bindT] at e <;> first | cases e | simp
mutual
theorem D.beq_refl : ∀ a : D, D.beq a a = true
  | .non => rfl
  | .bl x => beq_self_eq_true x
  | .int x => decide_eq_true rfl
  | .str x => decide_eq_true rfl
  | .tup xs => D.beqs_refl xs
  | .lst xs => D.beqs_refl xs
  | .dk ks xs => by show (decide (ks = ks) && D.beqs xs xs) = true; rw [D.beqs_refl xs]; simp
  | .dt ks xs => by show (decide (ks = ks) && D.beqs xs xs) = true; rw [D.beqs_refl xs]; simp
  | .ref x => beq_self_eq_true x
  | .fn x => beq_self_eq_true x
  | .exn x => beq_self_eq_true x
theorem D.beqs_refl : ∀ a : List D, D.beqs a a = true
  | [] => rfl
  | x :: xs => by show (D.beq x x && D.beqs xs xs) = true; rw [D.beq_refl x, D.beqs_refl xs]; rfl
end
theorem srcOk_refl {x : D} {xs : List D} (e : itemsD (x.look S) = some xs) : srcOk x S S = true := by
  cases x with
  | ref i =>
    show (D.beq _ _ && isBoxD (D.look S (.ref i))) = true
    rw [D.beq_refl]
    revert e
    unfold D.look
    dsimp only
    split <;> intro e <;> first | rfl | cases e
  | _ => rfl
end
end MP

set_option maxRecDepth 100000
set_option maxHeartbeats 4000000
/-! MiniPy: comprehensions. -/
namespace MP
open PySem PySem.Spec L2
open PyProof.Rows hiding St
section
variable {X : Cx} {A : Act} {C : Ev} {W : WX} {Z Z' Z1 : Zw} {ρ ρ' : Frame} {S S' : Sto} {σ σ' : St} {H H' : Hp}
def W0 : WX := fun _ _ _ _ => False
/-- within a comprehension: nothing is raised; another object is kept -/
def tVX (A : Act) (C : Ev) (e : E) : TE := fun σ H Q => ∃ D o, tV (A.push D o) C W0 e σ H Q
def tIf (A : Act) (C : Ev) (W : WX) (es : List E) : TT := fun σ H Q => ∃ Z ρ S, Gd A Z ρ S σ H ∧ post A W σ Z ρ (evIf C es ρ S) fun Z' S' H' b => Q b H'
def tIfX (A : Act) (C : Ev) (es : List E) : TT := fun σ H Q => ∃ D o, tIf (A.push D o) C W0 es σ H Q
theorem evIf_nil : evIf C [] ρ S = .ok true S := by rw [evIf]
theorem evIf_cons {e : E} {es : List E} : evIf C (e :: es) ρ S = (rdv ρ e (evE C e ρ S) S).bind fun x S => match truD x with
    | some true => evIf C es ρ S
    | some false => .ok false S
    | none => .stuck := by rw [evIf] <;> rfl
theorem ptsImp {es : List Expr} {t t' : TT} (h : PTs X es t) (f : ∀ σ H Q, t' σ H Q → t σ H Q) : PTs X es t' := ⟨fun pins s σ H Q I q => h.run pins s σ H Q I (f σ H Q q)⟩
theorem if_nil : PTs X [] (tIf A C W []) := ptsImp pts_nil fun σ H Q ⟨Z, ρ, S, g, p⟩ => by
  rw [evIf_nil] at p
  exact p.ok g
theorem if_one {e : Expr} {i : E} (h : PT X e (tT A C W i)) : PTs X [e] (tIf A C W [i]) := ptsImp (pts_one h) fun σ H Q ⟨Z, ρ, S, g, p⟩ => by
  rw [evIf_cons] at p
  refine ⟨Z, ρ, S, g, ?_⟩
  unfold evT
  revert p
  cases rdv ρ i (evE C i ρ S) S with
  | ok x S1 =>
    intro p
    simp only [Res.bind] at p ⊢
    cases h : truD x with
    | none => rw [h] at p; exact p.elim
    | some b =>
      rw [h] at p
      cases b with
      | true => rw [evIf_nil] at p; exact p
      | false => exact p
  | exc c S1 => exact id
  | stuck => exact id
theorem xImp {e : Expr} {i : E} (h : ∀ D o, PE X e (tV (A.push D o) C W0 i)) : PE X e (tVX A C i) := ⟨fun pins s σ H Q I ⟨D, o, q⟩ => (h D o).run pins s σ H Q I q⟩
theorem xIf {es : List Expr} {is : List E} (h : ∀ D o, PTs X es (tIf (A.push D o) C W0 is)) : PTs X es (tIfX A C is) := ⟨fun pins s σ H Q I ⟨D, o, q⟩ => (h D o).run pins s σ H Q I q⟩
theorem wipe_at {σ : St} : ∀ {vs : List Nat} {j : Nat}, j ∈ vs → (L2.wipe σ vs)[j]? = if j < σ.length then some none else none
  | v :: vs, j, h => by
    show ((L2.wipe σ vs).set v none)[j]? = _
    by_cases e : v = j
    · subst e
      by_cases hl : v < σ.length
      · rw [List.getElem?_set_self (by rw [wipe_length]; exact hl), if_pos hl]
      · rw [List.getElem?_eq_none (by rw [List.length_set, wipe_length]; omega), if_neg hl]
    · rw [List.getElem?_set_ne e]
      rcases List.mem_cons.mp h with h | h
      · exact absurd h.symm e
      · exact wipe_at h
theorem wipeF_out {ρ : Frame} {j : Nat} : ∀ {vs : List Nat}, j ∉ vs → (wipeF ρ vs)[j]? = ρ[j]?
  | [], _ => rfl
  | v :: vs, h => by
    simp only [List.mem_cons, not_or] at h
    show ((wipeF ρ vs).set v .no)[j]? = _
    rw [List.getElem?_set_ne (fun e => h.1 e.symm)]
    exact wipeF_out h.2
theorem wipe_eq {σ2 : St} {vs : List Nat} (hl : σ2.length = σ.length) (h : ∀ j, j ∉ vs → σ2[j]? = (L2.wipe σ vs)[j]?) : L2.wipe σ2 vs = L2.wipe σ vs := by
  refine List.ext_getElem? fun j => ?_
  by_cases hj : j ∈ vs
  · rw [wipe_at hj, wipe_at hj, hl]
  · rw [L2.wipe_out hj]
    exact h j hj
theorem ownOk_of {t : Tgt} {own : List Nat} (h : ownOk ρ t own = true) : (∀ j, j ∈ t.vars → j ∈ own) ∧ ∀ j d, ρ[j]? = some (.own d) → j ∉ own := by
  have h2 := Bool.and_eq_true_iff.mp h
  refine ⟨fun j hj => by simpa using List.all_eq_true.mp h2.1 j hj, fun j d hρ hm => ?_⟩
  have := List.all_eq_true.mp h2.2 j hm
  rw [hρ] at this
  cases this
mutual
theorem bindT_spec : ∀ {t : Tgt} {d : D} {ρ ρ' : Frame}, bindT t d ρ = some ρ' → ρ'.length = ρ.length ∧ ∀ (j : Nat) e, ρ'[j]? = some (.own e) → ρ[j]? = some (.own e)
  | .v i, d, ρ, ρ', h => by
    rw [bindT] at h
    cases h
    refine ⟨List.length_set .., fun j e h => ?_⟩
    by_cases hj : i = j
    · subst hj
      by_cases hl : i < ρ.length
      · rw [List.getElem?_set_self hl] at h
        cases h
      · rw [List.getElem?_eq_none (by rw [List.length_set]; omega)] at h
        cases h
    · rw [List.getElem?_set_ne hj] at h
      exact h
  | .t ts, d, ρ, ρ', h => by
    cases d with
    | tup xs =>
      rw [bindT] at h
      exact bindTs_spec h
    | _ => rw [bindT] at h <;> first | cases h | simp
theorem bindTs_spec : ∀ {t : List Tgt} {d : List D} {ρ ρ' : Frame}, bindTs t d ρ = some ρ' → ρ'.length = ρ.length ∧ ∀ (j : Nat) e, ρ'[j]? = some (.own e) → ρ[j]? = some (.own e)
  | [], [], _, _, h => by rw [bindTs] at h; cases h; exact ⟨rfl, fun _ _ h => h⟩
  | [], _ :: _, _, _, h => by rw [bindTs] at h <;> first | cases h | simp
  | _ :: _, [], _, _, h => by rw [bindTs] at h <;> first | cases h | simp
  | a :: as, d :: ds, ρ, ρ', h => by
    rw [bindTs] at h
    obtain ⟨ρ1, h3, h4⟩ := Option.bind_eq_some_iff.mp h
    obtain ⟨a1, a2⟩ := bindT_spec h3
    obtain ⟨b1, b2⟩ := bindTs_spec h4
    exact ⟨b1.trans a1, fun j e h => a2 j e (b2 j e h)⟩
end
theorem wipeF_own {ρ : Frame} {j : Nat} {e : D} : ∀ {vs : List Nat}, (wipeF ρ vs)[j]? = some (.own e) → j ∉ vs
  | [], _ => by simp
  | v :: vs, h => by
    have h' : ((wipeF ρ vs).set v .no)[j]? = some (.own e) := h
    by_cases hj : v = j
    · subst hj
      by_cases hl : v < (wipeF ρ vs).length
      · rw [List.getElem?_set_self hl] at h'
        cases h'
      · rw [List.getElem?_eq_none (by rw [List.length_set]; omega)] at h'
        cases h'
    · rw [List.getElem?_set_ne hj] at h'
      simp only [List.mem_cons, not_or]
      exact ⟨fun e => hj e.symm, wipeF_own h'⟩
/-- one turn -/
def turnC (C : Ev) (elt : E) (t : Tgt) (own : List Nat) (ifs : List E) (ρ : Frame) (x : D) (S : Sto) (d : D) (S' : Sto) : Res (Option D) := guardS x S (match bindT t d (wipeF ρ own) with
        | some ρ' => (evIf C ifs ρ' S').bind fun b S' => match b with
          | true => (evE C elt ρ' S').bind fun y S' => .ok (some y) S'
          | false => .ok none S'
        | none => .stuck)
def restC (C : Ev) (elt : E) (t : Tgt) (own : List Nat) (ifs : List E) (ρ : Frame) (x : D) (S : Sto) (ys : List D) (ds : List D) (S' : Sto) : Res D := calm1 ((compL (turnC C elt t own ifs ρ x S) ds S').bind fun r S' => .ok (.lst (ys ++ r)) S')
theorem restC_nil {elt : E} {t : Tgt} {own : List Nat} {ifs : List E} {x : D} {ys : List D} : restC C elt t own ifs ρ x S ys [] S' = .ok (.lst ys) S' := by
  simp [restC, compL, Res.bind, calm1]
theorem restC_cons {elt : E} {t : Tgt} {own : List Nat} {ifs : List E} {x d : D} {ys ds : List D} : restC C elt t own ifs ρ x S ys (d :: ds) S' = match turnC C elt t own ifs ρ x S d S' with
    | .ok (some y) S2 => restC C elt t own ifs ρ x S (ys ++ [y]) ds S2
    | .ok none S2 => restC C elt t own ifs ρ x S ys ds S2
    | _ => .stuck := by
  unfold restC
  rw [compL]
  cases turnC C elt t own ifs ρ x S d S' with
  | ok o S2 =>
    simp only [Res.bind]
    cases o with
    | none =>
      dsimp only
      cases compL (turnC C elt t own ifs ρ x S) ds S2 <;> rfl
    | some y =>
      dsimp only
      cases compL (turnC C elt t own ifs ρ x S) ds S2 with
      | ok r S3 => simp [calm1]
      | exc c S3 => rfl
      | stuck => rfl
  | exc c S2 => rfl
  | stuck => rfl
/-- within a comprehension, before a turn -/
structure PvC (A : Act) (W : WX) (C : Ev) (elt : E) (t : Tgt) (own : List Nat) (ifs : List E) (Z1 : Zw) (S1 : Sto) (ρ : Frame) (σ : St) (x : D) (xs : List D) (D0 : Addr) (k : Zw → Sto → Hp → D → Prop) (i : Nat) (H : Hp) : Prop where
  ex : ∃ Z S ys vs, Zle Z1 Z ∧ Gd A Z ρ S σ H ∧ srcOk x S1 S = true ∧ H D0 = some (.lst vs) ∧ RelDs Z ys vs ∧ Z.F D0 = none ∧ D0 ∉ Z.m ∧ ys.length ≤ i ∧ post A W σ Z ρ (restC C elt t own ifs ρ x S1 ys (xs.drop i) S) k
theorem lc_turn {elt : E} {t : Tgt} {own : List Nat} {ifs : List E} {x : D} {xs : List D} {D0 : Addr} {k : Zw → Sto → Hp → D → Prop} (hown : ownOk ρ t own = true) (hlen : xs.length ≤ szB) (hA : A.H0 D0 = none) (hF : A.F0 D0 = none) (hM : D0 ∉ A.m0) (no : ∀ i, ¬ OwnAt ρ σ i D0)
    {i : Nat} {d : D} (hd : xs[i]? = some d) {v : V} {Z : Zw} {S S1 : Sto} {ys : List D} {vs : List V} (z : Zle Z1 Z) (g : Gd A Z ρ S σ H) (hD : H D0 = some (.lst vs)) (rs : RelDs Z ys vs) (nf : Z.F D0 = none) (nm : D0 ∉ Z.m) (hi : ys.length ≤ i)
    (p : post A W σ Z ρ (restC C elt t own ifs ρ x S1 ys (xs.drop i) S) k) (rv : RelD Z d v) :
    gT A t v (L2.wipe σ own) H fun σ2 H2 => L2.wipe σ2 own = L2.wipe σ own ∧ tIfX A C ifs σ2 H2 fun b H3 =>
      if b = true then tVX A C elt σ2 H3 fun y H4 => ∃ acc, H4 D0 = some (.lst acc) ∧ acc.length < sizeLine ∧ PvC A W C elt t own ifs Z1 S1 ρ σ x xs D0 k (i + 1) (upd H4 D0 (.lst (acc ++ [y])))
      else PvC A W C elt t own ifs Z1 S1 ρ σ x xs D0 k (i + 1) H3 := by
  obtain ⟨o1, o2⟩ := ownOk_of hown
  have hxi : i < xs.length := (List.getElem?_eq_some_iff.mp hd).1
  have hdr : xs.drop i = d :: xs.drop (i + 1) := by
    rw [List.drop_eq_getElem_cons hxi, (List.getElem?_eq_some_iff.mp hd).2]
  rw [hdr, restC_cons] at p
  unfold turnC at p
  cases hb : bindT t d (wipeF ρ own) with
  | none =>
    rw [hb] at p
    exact p.elim
  | some ρ1 =>
    rw [hb] at p
    refine ⟨Z, wipeF ρ own, S, d, ρ1, g.wipe own, rv, hb, fun σ2 g2 same => ?_⟩
    have hl2 : σ2.length = σ.length := by
      have e1 := g2.len
      have e2 := (g.wipe own).len
      have e3 : (wipeF ρ own).length = ρ1.length := by
        exact (bindT_spec hb).1.symm
      rw [wipe_length] at e2
      omega
    have hsame : ∀ j, j ∉ own → σ2[j]? = (L2.wipe σ own)[j]? ∧ ρ1[j]? = (wipeF ρ own)[j]? := fun j hj => same j fun hm => hj (o1 j hm)
    refine ⟨wipe_eq hl2 fun j hj => (hsame j hj).1, ?_⟩
    have hownS : ∀ (j : Nat) d, ρ[j]? = some (.own d) → ρ1[j]? = some (.own d) ∧ σ2[j]? = σ[j]? := fun j d hj => by
      have hn := o2 j d hj
      obtain ⟨a1, a2⟩ := hsame j hn
      rw [wipeF_out hn] at a2
      rw [L2.wipe_out hn] at a1
      exact ⟨a2.trans hj, a1⟩
    have no2 : ∀ j, ¬ OwnAt ρ1 σ2 j D0 := fun j h => by
      obtain ⟨⟨d', h1⟩, h2⟩ := h
      have hn := wipeF_own ((bindT_spec hb).2 j d' h1)
      obtain ⟨a1, a2⟩ := hsame j hn
      rw [wipeF_out hn] at a2
      rw [L2.wipe_out hn] at a1
      exact no j ⟨⟨d', a2.symm.trans h1⟩, a1.symm.trans h2⟩
    have gp := g2.push hD nf nm no2
    refine ⟨D0, .lst vs, Z, ρ1, S, gp, ?_⟩
    simp only at p
    cases hif : evIf C ifs ρ1 S with
    | stuck => rw [hif] at p; exact p.elim
    | exc c S2 => rw [hif] at p; exact p.elim
    | ok b S2 =>
      rw [hif] at p
      intro Z2 H2 z2 gp2
      obtain ⟨g3, hD2, nf2, nm2⟩ := gp2.unpush hA hF hM
      cases b with
      | false =>
        rw [if_neg Bool.false_ne_true]
        simp only [Res.bind, guardS] at p
        by_cases hs : srcOk x S1 S2 = true
        · rw [if_pos hs] at p
          exact ⟨Z2, S2, ys, vs, z.trans z2, g3.back g z2 hownS, hs, hD2, rs.mono z2, nf2, nm2, by omega, post.mono (r := restC C elt t own ifs ρ x S1 ys (xs.drop (i + 1)) S2) p z2⟩
        · rw [if_neg hs] at p
          exact p.elim
      | true =>
        rw [if_pos rfl]
        refine ⟨D0, .lst vs, Z2, ρ1, S2, gp2, ?_⟩
        simp only [Res.bind] at p
        cases hel : evE C elt ρ1 S2 with
        | stuck => rw [hel] at p; exact p.elim
        | exc c S3 => rw [hel] at p; exact p.elim
        | ok y S3 =>
          rw [hel] at p
          intro Z3 H3 z3 gp3 w rw'
          obtain ⟨g4, hD3, nf3, nm3⟩ := gp3.unpush hA hF hM
          simp only [Res.bind, guardS] at p
          by_cases hs : srcOk x S1 S3 = true
          · rw [if_pos hs] at p
            refine ⟨vs, hD3, by rw [← szB_eq, ← rs.length]; omega, Z3, S3, ys ++ [y], vs ++ [w], (z.trans z2).trans z3, (g4.back g (z2.trans z3) hownS).poke nf3 nm3 no hA, hs, upd_same, ((rs.mono z2).mono z3).append (.cons rw' .nil), nf3, nm3, ?_, post.mono (r := restC C elt t own ifs ρ x S1 (ys ++ [y]) (xs.drop (i + 1)) S3) p (z2.trans z3)⟩
            rw [List.length_append]
            simp
            omega
          · rw [if_neg hs] at p
            exact p.elim
theorem lcT {elt it : E} {t : Tgt} {own : List Nat} {ifs : List E} {Q : VK} (h : tE A C W (.comp elt t own it ifs) σ H Q) : tLc (tI true A C W it) (gT A t) (tIfX A C ifs) (tVX A C elt) own σ H Q := by
  obtain ⟨Z, ρ, S, g, p⟩ := h
  rw [evE_comp] at p
  have p := (calm_of p).bind
  refine ⟨Z, ρ, S, g, p.imp fun Z1 S1 H1 x z1 g1 p1 => ?_⟩
  split at p1
  · rename_i xs hxs
    split at p1
    · rename_i hcond
      have hcond := Bool.and_eq_true_iff.mp hcond
      have hlen : xs.length ≤ szB := of_decide_eq_true hcond.1
      refine ⟨xs, hxs, fun J H2 Z2 z2 g2 sv D hD => ?_⟩
      have p2 : post A W σ Z2 ρ (restC C elt t own ifs ρ x S1 [] (xs.drop 0) S1) fun Z' S' H' d => ∀ v, Res1 A Z' ρ σ H' (isFresh C.tb (.comp elt t own it ifs)) d v → Q v H' := post.mono p1 z2
      have hA := g2.h0 hD
      have hF : A.F0 D = none := by
        cases e : A.F0 D with
        | none => rfl
        | some u => exact absurd hD (g2.fthere (g2.f0 D u e))
      have hM : D ∉ A.m0 := fun hm => by
        obtain ⟨r, e, _⟩ := g2.nm
        exact g2.mthere (by rw [e]; exact List.mem_append_left _ hm) hD
      have no := g2.noOwn hD
      refine ⟨fun i m H => m = xs.length - i ∧ i ≤ xs.length ∧ PvC A W C elt t own ifs Z2 S1 ρ σ x xs D (fun Z' S' H' d => ∀ v, Res1 A Z' ρ σ H' (isFresh C.tb (.comp elt t own it ifs)) d v → Q v H') i H, ⟨_, rfl, Nat.zero_le _, ⟨Z2, S1, [], [], .refl, g2.new hD, srcOk_refl hxs, upd_same, .nil, g2.nof hD, g2.nom hD, Nat.le_refl _, p2⟩⟩, fun i m H ⟨hm, hi, ⟨Z3, S3, ys, vs, z3, g3, hs, hD3, rs, nf, nm, hy, p3⟩⟩ => ?_⟩
      have at3 : At true A Z2 x S1 ρ σ Z3 H := ⟨A, ρ, S3, σ, z3, g3, hs, fun _ j d h => ⟨h, rfl⟩⟩
      by_cases hlt : i < xs.length
      · refine .inr ?_
        have hd : xs[i]? = some xs[i] := List.getElem?_eq_getElem hlt
        obtain ⟨go, yl⟩ := sv.go i _ Z3 H hd at3
        refine ⟨go, fun H' => PvC A W C elt t own ifs Z2 S1 ρ σ x xs D (fun Z' S' H' d => ∀ v, Res1 A Z' ρ σ H' (isFresh C.tb (.comp elt t own it ifs)) d v → Q v H') (i + 1) H', fun H' pv => ⟨xs.length - (i + 1), by omega, rfl, hlt, pv⟩, fun v H' hy' => ?_⟩
        rcases yl v H' hy' with ⟨rv, rfl⟩ | ⟨T, ds, ws, e1, rfl, rw', hT, rfl⟩
        · exact lc_turn hcond.2 hlen hA hF hM no hd z3 g3 hD3 rs nf nm hy p3 rv
        · obtain ⟨k, g4⟩ := g3.newFast (u := .tup ws) hT
          have ne : D ≠ T := fun e => by rw [e, hT] at hD3; cases hD3
          refine lc_turn hcond.2 hlen hA hF hM no hd (z3.trans k) g4 (by rw [upd_ne ne]; exact hD3) (rs.mono k) ?_ nm hy (p3.mono k) (by rw [e1]; exact .tup (show upd Z3.F T (.tup ws) T = some _ from upd_same) (rw'.mono k))
          show upd Z3.F T (.tup ws) D = none
          rw [upd_ne ne]
          exact nf
      · have e : i = xs.length := by omega
        subst e
        refine .inl ⟨sv.stop Z3 H at3, ?_⟩
        rw [List.drop_length, restC_nil] at p3
        refine p3.ok g3 _ ?_
        unfold Res1
        rw [if_pos (by rw [isFresh]; rfl)]
        exact ⟨D, _, rfl, .lst rs, hD3, nf, nm, hA, no⟩
    · exact p1.elim
  · exact p1.elim
section
variable {elt tg iter : Expr} {ifs : List Expr} {scope : Scope} {own : List (Str × Nat)} {pos : Pos} {ielt it : E} {t : Tgt} {iifs : List E}
theorem s_comp (hc : X.calm = true) (hN : X.N.Nodup) (hi : PI X tg iter (tI true A C W it)) (ok : BlkOk X.N X.env.scope scope own)
    (hg : ∀ (s : Shared) (H : Hp) (Ca : Addr) (cl : List (Str × Addr)) (fp : List Addr), PG (X.blk s H scope (compEnvC scope cl Ca X.env) fp) tg (gT A t))
    (ht : ∀ (s : Shared) (H : Hp) (Ca : Addr) (cl : List (Str × Addr)) (fp : List Addr), PTs (X.blk s H scope (compEnvC scope cl Ca X.env) fp) ifs (tIfX A C iifs))
    (he : ∀ (s : Shared) (H : Hp) (Ca : Addr) (cl : List (Str × Addr)) (fp : List Addr), PE (X.blk s H scope (compEnvC scope cl Ca X.env) fp) elt (tVX A C ielt)) (hs : ∀ x, foldedSetIterable iter X.env x = pure x) :
    PE X (.ListComp elt [⟨tg, iter, ifs, 0⟩] scope pos) (tE A C W (.comp ielt t (own.map (·.2)) it iifs)) :=
  peImp (pe_lc (pos := pos) hc hN hi ok hg ht he hs) fun σ H Q h => lcT h
end
end
end MP

set_option maxRecDepth 100000
set_option maxHeartbeats 4000000
/-! MiniPy: statements. -/
namespace MP
open PySem PySem.Spec L2
open PyProof.Rows hiding St
section
variable {X : Cx} {A : Act} {C : Ev} {W : WX} {Z Z' Z1 : Zw} {ρ ρ' : Frame} {S S' : Sto} {σ σ' : St} {H H' : Hp} {D : Ends}
/-- a value that is handed back -/
def RetV (A : Act) (Z : Zw) (H : Hp) (own : Bool) (d : MP.D) (v : V) : Prop := if (own && isBox d) = true then ∃ p o, v = .ref p ∧ BoxO Z d o ∧ H p = some o ∧ Z.F p = none ∧ p ∉ Z.m ∧ A.H0 p = none else RelD Z d v
def postS (A : Act) (W : WX) (Z : Zw) (r : SR) (D : Ends) : Prop := match r with
  | .nx ρ S => ∀ Z' σ H, Zle Z Z' → Gd A Z' ρ S σ H → D.nx σ H
  | .bk ρ S => ∀ Z' σ H, Zle Z Z' → Gd A Z' ρ S σ H → D.bk σ H
  | .ct ρ S => ∀ Z' σ H, Zle Z Z' → Gd A Z' ρ S σ H → D.ct σ H
  | .rt d own S => ∀ Z' ρ σ H v, Zle Z Z' → Gd A Z' ρ S σ H → RetV A Z' H own d v → D.rt v H
  | .ex c ρ S => ∀ Z' σ H, Zle Z Z' → Gd A Z' ρ S σ H → W (.ref (A.xa c)) none σ H
  | .stuck => False
theorem postS.mono {r : SR} (h : postS A W Z r D) (z : Zle Z Z1) : postS A W Z1 r D := by
  cases r with
  | nx ρ S => exact fun Z' σ H z' => h Z' σ H (z.trans z')
  | bk ρ S => exact fun Z' σ H z' => h Z' σ H (z.trans z')
  | ct ρ S => exact fun Z' σ H z' => h Z' σ H (z.trans z')
  | rt d own S => exact fun Z' ρ σ H v z' => h Z' ρ σ H v (z.trans z')
  | ex c ρ S => exact fun Z' σ H z' => h Z' σ H (z.trans z')
  | stuck => exact h
theorem postS.to {α : Type} {r : Res α} {f : α → Sto → SR} (h : postS A W Z (r.to ρ f) D) : post A W σ Z ρ r fun Z' S' H' a => postS A W Z' (f a S') D := by
  cases r with
  | ok a S' => exact fun Z' H' z g => postS.mono (r := f a S') h z
  | exc c S' => exact fun Z' H' z g => h Z' σ H' z g
  | stuck => exact h
def tS (A : Act) (C : Ev) (W : WX) (s : MP.S) : TS := fun D σ H => ∃ Z ρ S, Gd A Z ρ S σ H ∧ postS A W Z (exS C s ρ S) D
def tB (A : Act) (C : Ev) (W : WX) (ss : List MP.S) : TS := fun D σ H => ∃ Z ρ S, Gd A Z ρ S σ H ∧ postS A W Z (exB C ss ρ S) D
theorem psImp {s : Stmt} {t t' : TS} (h : PS X s t) (f : ∀ D σ H, t' D σ H → t D σ H) : PS X s t' := ⟨fun pins s σ H D I q => h.run pins s σ H D I (f D σ H q)⟩
theorem pssImp {s : List Stmt} {t t' : TS} (h : PSs X s t) (f : ∀ D σ H, t' D σ H → t D σ H) : PSs X s t' := ⟨fun pins s σ H D I q => h.run pins s σ H D I (f D σ H q)⟩
theorem exB_nil : exB C [] ρ S = .nx ρ S := by rw [exB]
theorem exB_cons {s : MP.S} {ss : List MP.S} : exB C (s :: ss) ρ S = (exS C s ρ S).seq fun ρ S => exB C ss ρ S := by rw [exB]
theorem b_nil : PSs X [] (tB A C W []) := pssImp pss_nil fun D σ H ⟨Z, ρ, S, g, p⟩ => by
  rw [exB_nil] at p
  exact p Z σ H .refl g
theorem postS.seq {r : SR} {ss : List MP.S} (h : postS A W Z (r.seq fun ρ S => exB C ss ρ S) D) : postS A W Z r { D with nx := tB A C W ss D } := by
  cases r with
  | nx ρ S => exact fun Z' σ H z g => ⟨Z', ρ, S, g, postS.mono (r := exB C ss ρ S) h z⟩
  | _ => exact h
theorem b_cons {st : Stmt} {rest : List Stmt} {s : MP.S} {ss : List MP.S} (h1 : PS X st (tS A C W s)) (h2 : PSs X rest (tB A C W ss)) : PSs X (st :: rest) (tB A C W (s :: ss)) :=
  pssImp (pss_cons h1 h2) fun D σ H ⟨Z, ρ, S, g, p⟩ => by
    rw [exB_cons] at p
    exact ⟨Z, ρ, S, g, p.seq⟩
/-- own slots stand fast from now on: no statement -/
theorem Gd.frzSlot (g : Gd A Z ρ S σ H) {i : Nat} {d : MP.D} (hρ : ρ[i]? = some (.own d)) : ∃ Z', Zle Z Z' ∧ Gd A Z' (ρ.set i (.val d)) S σ H := by
  obtain ⟨v, hσ, p, o, rfl, hb, hH, nf, nm⟩ := g.slot hρ
  have k : Zle Z (Z.fast p o) := Zw.fast_le nf
  have hi : i < ρ.length := (List.getElem?_eq_some_iff.mp hρ).1
  have me : OwnAt ρ σ i p := ⟨⟨d, hρ⟩, hσ⟩
  have own : ∀ j q, OwnAt (ρ.set i (.val d)) σ j q → OwnAt ρ σ j q ∧ j ≠ i := fun j q ⟨⟨d', h1⟩, h2⟩ => by
    by_cases e : j = i
    · subst e
      rw [List.getElem?_set_self hi] at h1
      cases h1
    · rw [List.getElem?_set_ne (fun z => e z.symm)] at h1
      exact ⟨⟨⟨d', h1⟩, h2⟩, e⟩
  refine ⟨_, k, g.kk, g.ff, fun q u h => ?_, fun q u h hu => ?_, fun q u h => let ⟨w, h1, h2⟩ := g.lz q u h; ⟨w, k.F _ _ h1, h2⟩, g.cl.fast nf nm, by rw [List.length_set]; exact g.len, fun j s v h1 h2 => ?_, fun a b q h1 h2 => g.od a b q (own a q h1).1 (own b q h2).1, fun j q h => g.o0 j q (own j q h).1, g.ent, fun q u h1 h2 => ?_, g.nm, fun q u h => k.F _ _ (g.f0 q u h)⟩
  · have h' : upd Z.F p o q = some u := h
    by_cases e : q = p
    · subst e
      rw [upd_same] at h'
      cases h'
      exact .inl hH
    · rw [upd_ne e] at h'
      exact g.fz q u h'
  · have h' : upd Z.F p o q = some u := h
    by_cases e : q = p
    · subst e
      rw [upd_same] at h'
      cases h'
      exact hH
    · rw [upd_ne e] at h'
      exact g.tx q u h' hu
  · by_cases e : j = i
    · subst e
      rw [List.getElem?_set_self hi] at h1
      cases h1
      rw [hσ] at h2
      cases h2
      exact ⟨_, rfl, (hb.mono k).rel (show upd Z.F p o p = some o from upd_same)⟩
    · rw [List.getElem?_set_ne (fun z => e z.symm)] at h1
      have q := g.sl j s v h1 h2
      cases s with
      | no => trivial
      | val d' =>
        obtain ⟨x, e, rx⟩ := q
        exact ⟨x, e, rx.mono k⟩
      | own d' =>
        obtain ⟨q, u, e2, b, rd, nf2, nm2⟩ := q
        refine ⟨q, u, e2, b.mono k, rd, ?_, nm2⟩
        show upd Z.F p o q = none
        rw [upd_ne (fun z => e (g.od j i p ⟨⟨d', h1⟩, by rw [h2, e2, z]⟩ me))]
        exact nf2
  · have h' : upd Z.F p o q = some u := h1
    by_cases e : q = p
    · rw [e]
      exact g.o0 i p me
    · rw [upd_ne e] at h'
      exact g.nf q u h' h2
theorem Gd.frz : ∀ {is : List Nat} {ρ : Frame} {Z : Zw}, Gd A Z ρ S σ H → ∃ Z', Zle Z Z' ∧ Gd A Z' (frzF ρ is) S σ H
  | [], ρ, Z, g => ⟨Z, .refl, g⟩
  | i :: is, ρ, Z, g => by
    rw [frzF]
    split
    · rename_i d h
      obtain ⟨Z1, z1, g1⟩ := g.frzSlot h
      obtain ⟨Z2, z2, g2⟩ := Gd.frz (is := is) g1
      exact ⟨Z2, z1.trans z2, g2⟩
    · exact Gd.frz (is := is) g
theorem b_frz {rest : List Stmt} {is : List Nat} {ss : List MP.S} (h : PSs X rest (tB A C W ss)) : PSs X rest (tB A C W (.frz is :: ss)) := pssImp h fun D σ H ⟨Z, ρ, S, g, p⟩ => by
  rw [exB_cons] at p
  have e : exS C (.frz is) ρ S = .nx (frzF ρ is) S := by rw [exS]
  rw [e] at p
  obtain ⟨Z1, z1, g1⟩ := g.frz (is := is)
  exact ⟨Z1, _, S, g1, postS.mono (r := exB C ss (frzF ρ is) S) p z1⟩
theorem st_pass {pos : Pos} : PS X (.Pass pos) (tS A C W .pass) := psImp ps_pass fun D σ H ⟨Z, ρ, S, g, p⟩ => by
  rw [exS] at p
  exact p Z σ H .refl g
theorem st_brk {pos : Pos} : PS X (.Break pos) (tS A C W .brk) := psImp ps_break fun D σ H ⟨Z, ρ, S, g, p⟩ => by
  rw [exS] at p
  exact p Z σ H .refl g
theorem st_cnt {pos : Pos} : PS X (.Continue pos) (tS A C W .cnt) := psImp ps_continue fun D σ H ⟨Z, ρ, S, g, p⟩ => by
  rw [exS] at p
  exact p Z σ H .refl g
def noComp : Expr → Bool
  | .ListComp _ _ _ _ => false
  | .SetComp _ _ _ _ => false
  | .DictComp _ _ _ _ _ => false
  | _ => true
theorem swapsNo {e : Expr} {t : Option Expr} {l : Nat} {env : Env} (h : noComp e = true) : swapsWith e t l env = pure false := by
  cases e <;> first | rfl | cases h
theorem st_expr {e : Expr} {i : E} {pos : Pos} (hn : noComp e = true) (h : PE X e (tV A C W i)) : PS X (.Expr e pos) (tS A C W (.expr i)) := psImp (ps_expr h (swapsNo hn)) fun D σ H ⟨Z, ρ, S, g, p⟩ => by
  rw [exS] at p
  exact ⟨Z, ρ, S, g, p.to.imp fun Z' S' H' d z g' k v r => k Z' σ H' .refl g'⟩
/-- a name gets a value -/
theorem Gd.setNew (g : Gd A Z ρ S σ H) {i : Nat} {fr : Bool} {d : MP.D} {v : V} (r : Res1 A Z ρ σ H fr d v) : Gd A Z (ρ.set i (slotOf fr d)) S (σ.set i (some v)) H := by
  unfold Res1 at r
  unfold slotOf
  by_cases e : (fr && isBox d) = true
  · rw [if_pos e] at r ⊢
    obtain ⟨p, o, ev, bx, hp, nf, nm, n0, no⟩ := r
    subst ev
    have own : ∀ j q, OwnAt (ρ.set i (.own d)) (σ.set i (some (.ref p))) j q → (OwnAt ρ σ j q ∧ j ≠ i) ∨ (j = i ∧ q = p) := fun j q ⟨⟨d', h1⟩, h2⟩ => by
      by_cases e : j = i
      · subst e
        have hl : j < σ.length := by simpa using (List.getElem?_eq_some_iff.mp h2).1
        rw [List.getElem?_set_self hl] at h2
        cases h2
        exact .inr ⟨rfl, rfl⟩
      · rw [List.getElem?_set_ne (fun z => e z.symm)] at h1 h2
        exact .inl ⟨⟨⟨d', h1⟩, h2⟩, e⟩
    refine ⟨g.kk, g.ff, g.fz, g.tx, g.lz, g.cl, by rw [List.length_set, List.length_set]; exact g.len, fun j t w h1 h2 => ?_, fun a b q h1 h2 => ?_, fun j q h => ?_, g.ent, g.nf, g.nm, g.f0⟩
    · by_cases e : j = i
      · subst e
        have hl : j < ρ.length := by simpa using (List.getElem?_eq_some_iff.mp h1).1
        rw [List.getElem?_set_self hl] at h1
        rw [List.getElem?_set_self (by rw [← g.len]; exact hl)] at h2
        cases h1
        cases h2
        exact ⟨p, o, rfl, bx, hp, nf, nm⟩
      · rw [List.getElem?_set_ne (fun z => e z.symm)] at h1 h2
        exact g.sl j t w h1 h2
    · rcases own a q h1 with ⟨k1, _⟩ | ⟨e1, e2⟩
      · rcases own b q h2 with ⟨k2, _⟩ | ⟨e3, e4⟩
        · exact g.od a b q k1 k2
        · subst e4
          exact absurd k1 (no a)
      · rcases own b q h2 with ⟨k2, _⟩ | ⟨e3, e4⟩
        · subst e2
          exact absurd k2 (no b)
        · rw [e1, e3]
    · rcases own j q h with ⟨k1, _⟩ | ⟨_, e2⟩
      · exact g.o0 j q k1
      · rw [e2]
        exact n0
  · rw [if_neg e] at r ⊢
    exact g.setVal r
theorem st_set {i : Nat} {x : Str} {e : Expr} {ie : E} {vp pos : Pos} (hN : X.N.Nodup) (hi : X.N[i]? = some x) (hx : Loc X.env.scope x) (hf : X.fn x = true ∨ X.env.scope.names.lookup x = some .local) (hn : noComp e = true) (h : PE X e (tE A C W ie)) : PS X (.Assign [.Name x vp] e pos) (tS A C W (.set i ie)) :=
  psImp (ps_set hN hi hx h (swapsNo hn) hf) fun D σ H ⟨Z, ρ, S, g, p⟩ => by
    rw [exS] at p
    exact ⟨Z, ρ, S, g, p.to.imp fun Z' S' H' d z g' k v r => k Z' _ H' .refl (g'.setNew r)⟩
theorem st_asg {tg e : Expr} {t : Tgt} {ie : E} {pos : Pos} (hp : plainTg tg = true) (hn : noComp e = true) (hw : swappedStores [tg] e X.env = pure none) (h : PE X e (tV A C W ie)) (hg : PG X tg (gT A t)) : PS X (.Assign [tg] e pos) (tS A C W (.asg t ie)) :=
  psImp (ps_asg h hg (swapsNo hn) hw (by rw [tgE hp]; rfl)) fun D σ H ⟨Z, ρ, S, g, p⟩ => by
    rw [exS] at p
    split at p
    · exact p.elim
    · refine ⟨Z, ρ, S, g, p.to.imp fun Z' S' H' d z g' k v r => ?_⟩
      split at k
      · rename_i ρ1 hb
        exact ⟨Z', ρ, S', d, ρ1, g', r, hb, fun σ1 g1 _ => k Z' σ1 H' .refl g1⟩
      · exact k.elim
theorem iop_int (op : Operator) (hop : op ≠ .Pow) : OpR X (inplaceOp op) (fun x y H Q => ∃ i j k, x = .int i ∧ y = .int j ∧ intOp op i j = some k ∧ Q (.int k) H) := by
  intro pins s σ H x y v u Q I rx ry h
  obtain ⟨i, j, k, rfl, rfl, e, q⟩ := h
  unfold intOp at e
  cases op with
  | Add => cases e; exact iop_add pins s σ H _ _ v u Q I rx ry ⟨i, j, rfl, rfl, q⟩
  | Sub => cases e; exact iop_sub pins s σ H _ _ v u Q I rx ry ⟨i, j, rfl, rfl, q⟩
  | Mult =>
    dsimp only at e
    split at e
    · rename_i hm
      cases e
      exact iop_mul pins s σ H _ _ v u Q I rx ry ⟨i, j, rfl, rfl, mulOk_of hm, q⟩
    · cases e
  | FloorDiv =>
    dsimp only at e
    split at e
    · rename_i hm
      cases e
      simp only [Bool.and_eq_true, decide_eq_true_eq] at hm
      exact iop_fdiv pins s σ H _ _ v u Q I rx ry ⟨i, j, rfl, rfl, hm, q⟩
    · cases e
  | Mod =>
    dsimp only at e
    split at e
    · rename_i hm
      cases e
      exact iop_mod pins s σ H _ _ v u Q I rx ry ⟨i, j, rfl, rfl, of_decide_eq_true hm, q⟩
    · cases e
  | LShift =>
    dsimp only at e
    split at e
    · rename_i hm
      cases e
      exact iop_shl pins s σ H _ _ v u Q I rx ry ⟨i, j, rfl, rfl, powOk_of hm, q⟩
    · cases e
  | RShift =>
    dsimp only at e
    split at e
    · rename_i hm
      cases e
      exact iop_shr pins s σ H _ _ v u Q I rx ry ⟨i, j, rfl, rfl, of_decide_eq_true hm, q⟩
    · cases e
  | BitAnd => cases e; exact iop_and pins s σ H _ _ v u Q I rx ry ⟨i, j, rfl, rfl, q⟩
  | BitOr => cases e; exact iop_or pins s σ H _ _ v u Q I rx ry ⟨i, j, rfl, rfl, q⟩
  | BitXor => cases e; exact iop_xor pins s σ H _ _ v u Q I rx ry ⟨i, j, rfl, rfl, q⟩
  | Pow => exact absurd rfl hop
  | _ => cases e
theorem st_aug {i : Nat} {x : Str} {e : Expr} {ie : E} {op : Operator} {vp pos : Pos} (hop : op ≠ .Pow) (hN : X.N.Nodup) (hi : X.N[i]? = some x) (hx : Loc X.env.scope x) (hf : X.fn x = true ∨ X.env.scope.names.lookup x = some .local) (h : PE X e (tV A C W ie)) : PS X (.AugAssign (.Name x vp) op e pos) (tS A C W (.aug i op ie)) :=
  psImp (ps_aug hN hi hx h (iop_int op hop) hf) fun D σ H ⟨Z, ρ, S, g, p⟩ => by
    rw [exS] at p
    split at p
    · rename_i n hn
      obtain ⟨v, hv, x, rfl, rx⟩ := g.slot hn
      cases rx
      refine ⟨_, hv, Z, ρ, S, g, p.to.imp fun Z' S' H' d z g' k v r => ?_⟩
      split at k
      · split at k
        · rename_i m hm
          rw [if_neg (by simpa using hop)] at hm
          cases r
          exact ⟨_, _, m, rfl, rfl, hm, k Z' _ H' .refl (g'.setVal (.int m))⟩
        · exact k.elim
      · exact k.elim
    · exact p.elim
end
end MP

set_option maxRecDepth 100000
set_option maxHeartbeats 4000000
/-! MiniPy: statements, further. -/
namespace MP
open PySem PySem.Spec L2
open PyProof.Rows hiding St
section
variable {X : Cx} {A : Act} {C : Ev} {W : WX} {Z Z' Z1 : Zw} {ρ ρ' : Frame} {S S' : Sto} {σ σ' : St} {H H' : Hp} {D : Ends}
theorem Flds.put {fs : List (Str × MP.D)} {gs : List (Str × V)} {f : Str} {d : MP.D} {v : V} (h : Flds Z fs gs) (r : RelD Z d v) : Flds Z (putFd f d fs) (putF f v gs) := by
  obtain ⟨h1, h2⟩ := h
  induction fs generalizing gs with
  | nil =>
    cases gs with
    | nil => exact ⟨rfl, .cons r .nil⟩
    | cons _ _ => cases h1
  | cons q fs ih =>
    cases gs with
    | nil => cases h1
    | cons w gs =>
      obtain ⟨a, x⟩ := q
      obtain ⟨b, y⟩ := w
      simp only [List.map_cons, List.cons.injEq] at h1
      obtain ⟨h1a, h1b⟩ := h1
      subst h1a
      cases h2 with
      | cons hx ht =>
        obtain ⟨k1, k2⟩ := ih h1b ht
        unfold putFd putF
        by_cases e : a = f
        · rw [if_pos e, if_pos e]
          exact ⟨by simp [h1b], .cons r ht⟩
        · rw [if_neg e, if_neg e]
          exact ⟨by simp [k1], .cons hx k2⟩
theorem Flds.len {fs : List (Str × MP.D)} {gs : List (Str × V)} (h : Flds Z fs gs) : fs.length = gs.length := by
  have := congrArg List.length h.1
  simpa using this
/-- o.f = e -/
theorem st_fld {o e : Expr} {io ie : E} {f : Str} {ap pos : Pos} (hn : noComp e = true) (hc : ∀ c k, C.tb.clss[c]? = some k → k.flds.contains f = true → Cls X.K (A.ca c) ∧ NoAttr X.K (A.ca c) f) (ho : PE X o (tV A C W io)) (he : PE X e (tV A C W ie)) : PS X (.Assign [.Attribute o f ap] e pos) (tS A C W (.fld io f ie)) :=
  psImp (ps_fld ho he (swapsNo hn)) fun D σ H ⟨Z, ρ, S, g, p⟩ => by
    rw [exS] at p
    refine ⟨Z, ρ, S, g, p.to.imp fun Z1 S1 H1 d z1 g1 p1 v rv => ⟨Z1, ρ, S1, g1, p1.to.imp fun Z2 S2 H2 x z2 g2 p2 w rw' => ?_⟩⟩
    split at p2
    · rename_i i
      split at p2
      · rename_i c fs hS
        split at p2
        · rename_i hk
          have hk := Bool.and_eq_true_iff.mp hk
          cases hk1 : C.tb.clss[c]? with
          | none => rw [hk1] at hk; cases hk.2
          | some k =>
            rw [hk1] at hk
            obtain ⟨h1, h2⟩ := hc c k hk1 hk.2
            obtain ⟨a, dx, gs, rfl, hm, hH, hfl⟩ := cell_ins g2 rw' hS
            refine ⟨a, _, dx, gs, rfl, hH, h1, h2, by rw [← hfl.len]; exact of_decide_eq_true hk.1, ?_⟩
            exact p2 Z2 σ _ .refl (g2.setCell hS (fun e => nomatch e) hm (.ins (hfl.put (rv.mono z2))))
        · exact p2.elim
      · exact p2.elim
    · exact p2.elim
/-! ### o[k] = e -/
def rSetA : TSet := fun o i v H Q => rSetL o i v H Q ∨ ∃ a H', o = .ref a ∧ DPut H a i v H' ∧ Q H'
theorem set_any (hu : X.A.units + 1 < cLine) : PSet X rSetA := by
  intro pins s σ H o i v ov iv u Q I ro ri rv h
  rcases h with h | ⟨a, H', rfl, h, q⟩
  · exact set_list pins s σ H o i v ov iv u Q I ro ri rv h
  · obtain rfl : ov = Value.ref a := ro
    exact d_setItem hu I h ri rv fun s4 I4 => ⟨H', I4, q⟩
theorem setK_rel {κ : Type} [DecidableEq κ] {k : κ} {d : MP.D} {v : V} (r : RelD Z d v) : ∀ {ks : List κ} {xs : List MP.D} {vs : List V}, RelDs Z xs vs → ks.length = vs.length → ∃ ws, (ks.zip vs).map (fun kv => if kv.1 = k then (kv.1, v) else kv) = ks.zip ws ∧ ks.length = ws.length ∧ RelDs Z (setK k d ks xs) ws
  | [], _, _, .nil, _ => ⟨[], rfl, rfl, .nil⟩
  | a :: ks, _, _, .cons (v := w) (vs := vs) h t, hl => by
    obtain ⟨ws, h1, h2, h3⟩ := setK_rel r t (by simpa using hl)
    by_cases e : a = k
    · refine ⟨v :: ws, ?_, by simp [h2], ?_⟩
      · rw [List.zip_cons_cons, List.map_cons, h1, if_pos e, List.zip_cons_cons]
      · rw [setK, if_pos e]
        exact .cons r h3
    · refine ⟨w :: ws, ?_, by simp [h2], ?_⟩
      · rw [List.zip_cons_cons, List.map_cons, h1, if_neg e, List.zip_cons_cons]
      · rw [setK, if_neg e]
        exact .cons h h3
  | [], _, _, .cons _ _, hl => by simp at hl
  | _ :: _, _, _, .nil, hl => by simp at hl
theorem hasK_any {κ : Type} [DecidableEq κ] {k : κ} : ∀ {ks : List κ} {vs : List V}, ks.length = vs.length → ((ks.zip vs).any fun kv => decide (kv.1 = k)) = hasK k ks
  | [], [], _ => rfl
  | a :: ks, v :: vs, h => by
    rw [List.zip_cons_cons, List.any_cons, hasK_any (by simpa using h)]
    rfl
theorem put_box {k : Key} {d : MP.D} {v : V} {ks : List Key} {xs : List MP.D} {vs : List V} (r : RelD Z d v) (rs : RelDs Z xs vs) (hl : ks.length = vs.length) : BoxO Z (putB k d ks xs) (.dK (putK (ks.zip vs) k v)) := by
  unfold putB putK
  rw [hasK_any hl]
  by_cases h : hasK k ks = true
  · rw [if_pos h, if_pos h]
    obtain ⟨ws, h1, h2, h3⟩ := setK_rel (k := k) r rs hl
    rw [h1]
    exact .dk h2 h3
  · rw [if_neg h, if_neg h, zip_snoc hl]
    exact .dk (by simp [hl]) (rs.append (.cons r .nil))
def subE {o i : Expr} {pos : Pos} {env : Env} (h : noSlice i = true) : ∀ v, assign (.Subscript o i pos) env v = (do
      let ov ← holding [v] (eval o env)
      let iv ← holding [v, ov] (eval i env)
      standAt pos
      holding [v, ov, iv] (setItem ov iv v)
      release [v, ov, iv] []) := by
  intro v
  cases i <;> first | rfl | cases h
theorem swStoreNo {o i e : Expr} {pos : Pos} {env : Env} : swappedStores [.Subscript o i pos] e env = pure none := by
  unfold swappedStores
  rfl
/-- cell[k] = e -/
theorem st_sub (hu : X.A.units + 1 < cLine) {o i e : Expr} {io ii ie : E} {sp pos : Pos} (hn : noComp e = true) (hs : noSlice i = true) (ho : PE X o (tV A C W io)) (hi : PE X i (tV A C W ii)) (he : PE X e (tV A C W ie)) : PS X (.Assign [.Subscript o i sp] e pos) (tS A C W (.sub io ii ie)) :=
  psImp (ps_asg (pos := pos) he (pg_sub ho hi (set_any hu) (subE hs)) (swapsNo (e := e) (t := some (.Subscript o i sp)) (l := pos.line) (env := X.env) hn) swStoreNo rfl) fun D σ H ⟨Z, ρ, S, g, p⟩ => by
    rw [exS] at p
    refine ⟨Z, ρ, S, g, p.to.imp fun Z1 S1 H1 d z1 g1 p1 v rv => ⟨Z1, ρ, S1, g1, p1.to.imp fun Z2 S2 H2 x z2 g2 p2 w rw' => ⟨Z2, ρ, S2, g2, p2.to.imp fun Z3 S3 H3 y z3 g3 p3 u ru => ?_⟩⟩⟩
    split at p3
    · rename_i j
      have rj := rw'.mono z3
      have rd := (rv.mono z2).mono z3
      split at p3
      · rename_i xs n hS
        split at p3
        · rename_i m hm
          obtain ⟨q, o2, c2, e', hm2, hS2, hd2, hb2, hH2⟩ := cell_box g3 rj (by unfold MP.D.look; dsimp only; rw [hS]; rfl)
          have hl : MP.D.look S3 (.ref j) = .lst xs := by unfold MP.D.look; dsimp only; rw [hS]
          rw [hl] at hb2
          cases hb2 with
          | lst r0 =>
            cases ru
            refine .inl ⟨q, _, n, m, e', rfl, hH2, by rw [← r0.length]; exact hm, ?_⟩
            exact p3 Z3 σ _ .refl (g3.setCell hS2 hd2 hm2 (.box rfl (.lst (RelDs.set rd m r0))))
        · exact p3.elim
      · rename_i ks xs hS
        split at p3
        · rename_i k hk
          split at p3
          · rename_i hz
            obtain ⟨q, o2, c2, e', hm2, hS2, hd2, hb2, hH2⟩ := cell_box g3 rj (by unfold MP.D.look; dsimp only; rw [hS]; rfl)
            have hl : MP.D.look S3 (.ref j) = .dk ks xs := by unfold MP.D.look; dsimp only; rw [hS]
            rw [hl] at hb2
            cases hb2 with
            | dk hlen r0 =>
              have hz : ks.length < sizeLine := by rw [← szB_eq]; exact of_decide_eq_true hz
              refine .inr ⟨q, _, e', .inl ⟨_, k, hH2, keyD_kV hk ru, by rw [List.length_zip, ← hlen, Nat.min_self]; exact hz, rfl⟩, ?_⟩
              have hb := put_box (k := k) rd r0 hlen
              split at p3
              · rename_i c hc
                exact p3 Z3 σ _ .refl (g3.setCell hS2 hd2 hm2 (.box (cellD_of hc).1 hb))
              · exact p3.elim
          · exact p3.elim
        · exact p3.elim
      · exact p3.elim
    · exact p3.elim
/-- name[k] = e, the name's own list or dict -/
theorem st_osub (hu : X.A.units + 1 < cLine) {x : Str} {n : Nat} {i e : Expr} {ii ie : E} {vp sp pos : Pos} (hN : X.N[n]? = some x) (hv : Vis X.env.scope x) (hd : (x == ("__debug__" : Str)) = false) (hcd : (x == ("__classdict__" : Str)) = false) (hn : noComp e = true) (hs : noSlice i = true) (hi : PE X i (tV A C W ii)) (he : PE X e (tV A C W ie)) : PS X (.Assign [.Subscript (.Name x vp) i sp] e pos) (tS A C W (.osub n ii ie)) :=
  psImp (ps_asg (pos := pos) he (pg_sub (pe_var (pos := vp) hN hv hd hcd) hi (set_any hu) (subE hs)) (swapsNo (e := e) (t := some (.Subscript (.Name x vp) i sp)) (l := pos.line) (env := X.env) hn) swStoreNo rfl) fun D σ H ⟨Z, ρ, S, g, p⟩ => by
    rw [exS] at p
    refine ⟨Z, ρ, S, g, p.to.imp fun Z1 S1 H1 d z1 g1 p1 v rv => ?_⟩
    split at p1
    · rename_i x0 hρ
      obtain ⟨v0, hσ, q, o0, rfl, hb0, hH0, nf, nm⟩ := g1.slot hρ
      refine ⟨_, hσ, Z1, ρ, S1, g1, p1.to.imp fun Z2 S2 H2 y z2 g2 p2 u ru => ?_⟩
      obtain ⟨v1, hσ1, q1, o1, e1, hb1, hH1, nf1, nm1⟩ := g2.slot hρ
      rw [hσ] at hσ1
      cases hσ1
      cases e1
      split at p2
      · rename_i xs m
        split at p2
        · rename_i j hj
          cases hb1 with
          | lst r0 =>
            cases ru
            refine .inl ⟨q, _, m, j, rfl, rfl, hH1, by rw [← r0.length]; exact hj, ?_⟩
            exact p2 Z2 σ _ .refl (g2.setOwn hρ hσ (.lst (RelDs.set (rv.mono z2) j r0)))
        · exact p2.elim
      · rename_i ks xs
        split at p2
        · rename_i k hk
          split at p2
          · rename_i hz
            cases hb1 with
            | dk hlen r0 =>
              have hz : ks.length < sizeLine := by rw [← szB_eq]; exact of_decide_eq_true hz
              refine .inr ⟨q, _, rfl, .inl ⟨_, k, hH1, keyD_kV hk ru, by rw [List.length_zip, ← hlen, Nat.min_self]; exact hz, rfl⟩, ?_⟩
              exact p2 Z2 σ _ .refl (g2.setOwn hρ hσ (put_box (rv.mono z2) r0 hlen))
          · exact p2.elim
        · exact p2.elim
      · exact p2.elim
    · exact p1.elim
end
end MP

set_option maxRecDepth 100000
set_option maxHeartbeats 4000000
/-! MiniPy: flow. -/
namespace MP
open PySem PySem.Spec L2
open PyProof.Rows hiding St
section
variable {X : Cx} {A : Act} {C : Ev} {W : WX} {Z Z' Z1 : Zw} {ρ ρ' : Frame} {S S' : Sto} {σ σ' : St} {H H' : Hp} {D : Ends}
theorem own_of {t : Option Tgt} {i : Nat} {m : Mm} {is : List E} (h : tS A C W (.own t i m is) D σ H) : tOwn A C W i m is σ H fun v H2 => ∃ Z ρ S r, Gd A Z ρ S σ H2 ∧ RelD Z r v ∧ postS A W Z (bindTo t r ρ S) D := by
  obtain ⟨Z, ρ, S, g, p⟩ := h
  rw [exS] at p
  split at p
  · exact p.elim
  · split at p
    · rename_i d hρ
      split at p
      · rename_i hk
        refine ⟨Z, ρ, S, d, g, hρ, hk, p.to.imp fun Z1 S1 H1 xs z1 g1 p1 => ?_⟩
        split at p1
        · rename_i d' r hD
          exact ⟨d', r, hD, fun v H2 g2 rv => ⟨Z1, _, S1, r, g2, rv, p1⟩⟩
        · exact p1.elim
      · exact p.elim
    · exact p.elim
theorem st_ownE {i : Nat} {m : Mm} {is : List E} {e : Expr} {pos : Pos} (hn : noComp e = true) (h : PE X e (tOwn A C W i m is)) : PS X (.Expr e pos) (tS A C W (.own none i m is)) :=
  psImp (ps_expr h (swapsNo hn)) fun D σ H q => by
    obtain ⟨Z, ρ, S, d, g, hρ, hk, p⟩ := own_of q
    refine ⟨Z, ρ, S, d, g, hρ, hk, p.imp fun Z1 S1 H1 xs z1 g1 ⟨d', r, hD, k⟩ => ⟨d', r, hD, fun v H2 g2 rv => ?_⟩⟩
    obtain ⟨Z2, ρ2, S2, r2, g3, rv2, p3⟩ := k v H2 g2 rv
    exact p3 Z2 σ H2 .refl g3
theorem st_ownA {i : Nat} {m : Mm} {is : List E} {tg e : Expr} {t : Tgt} {pos : Pos} (hp : plainTg tg = true) (hn : noComp e = true) (hw : swappedStores [tg] e X.env = pure none) (h : PE X e (tOwn A C W i m is)) (hg : PG X tg (gT A t)) : PS X (.Assign [tg] e pos) (tS A C W (.own (some t) i m is)) :=
  psImp (ps_asg h hg (swapsNo hn) hw (by rw [tgE hp]; rfl)) fun D σ H q => by
    obtain ⟨Z, ρ, S, d, g, hρ, hk, p⟩ := own_of q
    refine ⟨Z, ρ, S, d, g, hρ, hk, p.imp fun Z1 S1 H1 xs z1 g1 ⟨d', r, hD, k⟩ => ⟨d', r, hD, fun v H2 g2 rv => ?_⟩⟩
    obtain ⟨Z2, ρ2, S2, r2, g3, rv2, p3⟩ := k v H2 g2 rv
    unfold bindTo at p3
    dsimp only at p3
    split at p3
    · rename_i ρ4 hb
      exact ⟨Z2, ρ2, S2, r2, ρ4, g3, rv2, hb, fun σ4 g4 _ => p3 Z2 σ4 H2 .refl g4⟩
    · exact p3.elim
theorem st_ite {c : Expr} {a b : List Stmt} {ic : E} {ia ib : List MP.S} {pos : Pos} (hc : PT X c (tT A C W ic)) (ha : PSs X a (tB A C W ia)) (hb : PSs X b (tB A C W ib)) : PS X (.If c a b pos) (tS A C W (.ite ic ia ib)) :=
  psImp (ps_if hc ha hb) fun D σ H ⟨Z, ρ, S, g, p⟩ => by
    rw [exS] at p
    refine ⟨Z, ρ, S, g, p.to.imp fun Z1 S1 H1 x z1 g1 p1 => ?_⟩
    cases x with
    | true =>
      rw [if_pos rfl]
      exact ⟨Z1, ρ, S1, g1, p1⟩
    | false =>
      rw [if_neg Bool.false_ne_true]
      exact ⟨Z1, ρ, S1, g1, p1⟩
theorem st_whl {c : Expr} {b : List Stmt} {ic : E} {ib : List MP.S} {pos : Pos} (hp : PassesOwn (model X.prog X.w) X.A X.env X.xe) (hc : PT X c (tT A C W ic)) (hb : PSs X b (tB A C W ib)) : PS X (.While c b [] pos) (tS A C W (.whl ic ib)) :=
  psImp (ps_while hp hc hb) fun D σ H ⟨Z, ρ, S, g, p⟩ => by
    rw [exS] at p
    split at p
    · exact p.elim
    · refine ⟨fun m σ H => ∃ Z ρ S, Gd A Z ρ S σ H ∧ postS A W Z (whlL (fun ρ S => evT C ic ρ S) (fun ρ S => exB C ib ρ S) m ρ S) D, ⟨_, Z, ρ, S, g, p⟩, fun m σ H ⟨Z, ρ, S, g, p⟩ => ?_⟩
      cases m with
      | zero => exact p.elim
      | succ n =>
        rw [whlL] at p
        refine ⟨Z, ρ, S, g, p.to.imp fun Z1 S1 H1 x z1 g1 p1 => ?_⟩
        cases x with
        | true =>
          rw [if_pos rfl]
          refine ⟨fun σ' H' => ∃ Z ρ S, Gd A Z ρ S σ' H' ∧ postS A W Z (whlL (fun ρ S => evT C ic ρ S) (fun ρ S => exB C ib ρ S) n ρ S) D, fun σ' H' q => ⟨n, Nat.lt_succ_self n, q⟩, Z1, ρ, S1, g1, ?_⟩
          revert p1
          dsimp only
          cases exB C ib ρ S1 with
          | nx ρ2 S2 => exact fun p1 Z' σ' H' z g => ⟨Z', ρ2, S2, g, postS.mono (r := whlL _ _ n ρ2 S2) p1 z⟩
          | ct ρ2 S2 => exact fun p1 Z' σ' H' z g => ⟨Z', ρ2, S2, g, postS.mono (r := whlL _ _ n ρ2 S2) p1 z⟩
          | bk ρ2 S2 => exact id
          | rt d own S2 => exact id
          | ex c ρ2 S2 => exact id
          | stuck => exact id
        | false =>
          rw [if_neg Bool.false_ne_true]
          exact p1 Z1 σ H1 .refl g1
theorem st_for {tg it : Expr} {b : List Stmt} {t : Tgt} {iit : E} {ib : List MP.S} {pos : Pos} (hp : PassesOwn (model X.prog X.w) X.A X.env X.xe) (hc : X.calm = true) (hi : PI X tg it (tI false A C W iit)) (hg : PG X tg (gT A t)) (hb : PSs X b (tB A C W ib)) (hs : ∀ x, foldedSetIterable it X.env x = pure x) :
    PS X (.For tg it b [] pos) (tS A C W (.for t iit ib)) :=
  psImp (ps_for hp hc hi hg hb hs) fun D σ H ⟨Z, ρ, S, g, p⟩ => by
    rw [exS] at p
    split at p
    · exact p.elim
    · refine ⟨Z, ρ, S, g, ?_⟩
      refine p.to.imp fun Z1 S1 H1 x z1 g1 p1 => ?_
      split at p1
      · rename_i xs hxs
        refine ⟨xs, hxs, fun J H2 Z2 z2 g2 sv => ?_⟩
        have p2 := postS.mono (r := forL _ xs ρ S1) p1 z2
        revert p2
        generalize hf : (fun d ρ S' => guardR x S1 (match bindT t d ρ with
          | some ρ => exB C ib ρ S'
          | none => .stuck)) = f
        intro p2
        refine ⟨fun i m σ H => m = xs.length - i ∧ i ≤ xs.length ∧ ∃ Z ρ S, Zle Z2 Z ∧ Gd A Z ρ S σ H ∧ srcOk x S1 S = true ∧ postS A W Z (forL f (xs.drop i) ρ S) D, ⟨_, rfl, Nat.zero_le _, Z2, ρ, S1, .refl, g2, srcOk_refl hxs, p2⟩, fun i m σ3 H3 ⟨hm, hi, Z3, ρ3, S3, z3, g3, hs3, p3⟩ => ?_⟩
        have at3 : At false A Z2 x S1 ρ σ Z3 H3 := ⟨A, ρ3, S3, σ3, z3, g3, hs3, fun e => nomatch e⟩
        by_cases hlt : i < xs.length
        · refine .inr ?_
          have hd : xs[i]? = some xs[i] := List.getElem?_eq_getElem hlt
          obtain ⟨go, yl⟩ := sv.go i _ Z3 H3 hd at3
          refine ⟨go, fun σ' H' => ∃ Z ρ S, Zle Z2 Z ∧ Gd A Z ρ S σ' H' ∧ srcOk x S1 S = true ∧ postS A W Z (forL f (xs.drop (i + 1)) ρ S) D, fun σ' H' q => ⟨xs.length - (i + 1), by omega, rfl, hlt, q⟩, fun v H4 hy => ?_⟩
          have body : ∀ Z4, Zle Z3 Z4 → Gd A Z4 ρ3 S3 σ3 H4 → RelD Z4 xs[i] v → gT A t v σ3 H4 fun σ2 H2' => tB A C W ib { D with nx := fun σ' H' => ∃ Z ρ S, Zle Z2 Z ∧ Gd A Z ρ S σ' H' ∧ srcOk x S1 S = true ∧ postS A W Z (forL f (xs.drop (i + 1)) ρ S) D, ct := fun σ' H' => ∃ Z ρ S, Zle Z2 Z ∧ Gd A Z ρ S σ' H' ∧ srcOk x S1 S = true ∧ postS A W Z (forL f (xs.drop (i + 1)) ρ S) D, bk := D.nx } σ2 H2' := fun Z4 z4 g4 rv => by
            have p4 := postS.mono (r := forL f (xs.drop i) ρ3 S3) p3 z4
            rw [List.drop_eq_getElem_cons hlt, forL] at p4
            have hfe : f xs[i] ρ3 S3 = guardR x S1 (match bindT t xs[i] ρ3 with
              | some ρ => exB C ib ρ S3
              | none => .stuck) := by rw [← hf]
            rw [hfe] at p4
            cases hb : bindT t xs[i] ρ3 with
            | none =>
              rw [hb] at p4
              exact p4.elim
            | some ρ5 =>
              rw [hb] at p4
              refine ⟨Z4, ρ3, S3, _, ρ5, g4, rv, hb, fun σ5 g5 _ => ⟨Z4, ρ5, S3, g5, ?_⟩⟩
              revert p4
              dsimp only
              cases exB C ib ρ5 S3 with
              | nx ρ6 S6 =>
                intro p4 Z' σ' H' z g
                unfold guardR at p4
                dsimp only at p4
                by_cases hs6 : srcOk x S1 S6 = true
                · rw [if_pos hs6] at p4
                  exact ⟨Z', ρ6, S6, (z3.trans z4).trans z, g, hs6, postS.mono (r := forL f (xs.drop (i + 1)) ρ6 S6) p4 z⟩
                · rw [if_neg hs6] at p4
                  exact p4.elim
              | ct ρ6 S6 =>
                intro p4 Z' σ' H' z g
                unfold guardR at p4
                dsimp only at p4
                by_cases hs6 : srcOk x S1 S6 = true
                · rw [if_pos hs6] at p4
                  exact ⟨Z', ρ6, S6, (z3.trans z4).trans z, g, hs6, postS.mono (r := forL f (xs.drop (i + 1)) ρ6 S6) p4 z⟩
                · rw [if_neg hs6] at p4
                  exact p4.elim
              | bk ρ2 S2 => exact id
              | rt d own S2 => exact id
              | ex c ρ2 S2 => exact id
              | stuck => exact id
          rcases yl v H4 hy with ⟨rv, rfl⟩ | ⟨T, ds, ws, e1, rfl, rw', hT, rfl⟩
          · exact body Z3 .refl g3 rv
          · obtain ⟨k, g4⟩ := g3.newFast (u := .tup ws) hT
            exact body _ k g4 (by rw [e1]; exact .tup (show upd Z3.F T (.tup ws) T = some _ from upd_same) (rw'.mono k))
        · have e : i = xs.length := by omega
          subst e
          rw [List.drop_length, forL] at p3
          exact .inl ⟨sv.stop Z3 H3 at3, p3 Z3 σ3 H3 .refl g3⟩
      · exact p1.elim
theorem st_retN {pos : Pos} : PS X (.Return none pos) (tS A C W .retN) := psImp ps_retN fun D σ H ⟨Z, ρ, S, g, p⟩ => by
  rw [exS] at p
  exact p Z ρ σ H _ .refl g (by unfold RetV; rw [if_neg (by simp)]; exact .non)
theorem exS_ret {e : E} (h : ∀ k, e ≠ .var k) : exS C (.ret e) ρ S = (evE C e ρ S).to ρ fun d S => .rt d (isFresh C.tb e) S := by
  rw [exS]
  intro k hk
  exact h k hk
theorem st_ret {e : Expr} {i : E} {pos : Pos} (hi : ∀ k, i ≠ .var k) (h : PE X e (tE A C W i)) : PS X (.Return (some e) pos) (tS A C W (.ret i)) := psImp (ps_ret h) fun D σ H ⟨Z, ρ, S, g, p⟩ => by
  rw [exS_ret hi] at p
  refine ⟨Z, ρ, S, g, p.to.imp fun Z1 S1 H1 d z1 g1 k v r => k Z1 ρ σ H1 v .refl g1 ?_⟩
  unfold Res1 at r
  unfold RetV
  by_cases e : (isFresh C.tb i && isBox d) = true
  · rw [if_pos e] at r ⊢
    obtain ⟨p, o, ev, bx, hp, nf, nm, n0, _⟩ := r
    exact ⟨p, o, ev, bx, hp, nf, nm, n0⟩
  · rw [if_neg e] at r ⊢
    exact r
theorem st_retV {x : Str} {i : Nat} {vp pos : Pos} (hN : X.N[i]? = some x) (hv : Vis X.env.scope x) (hd : (x == ("__debug__" : Str)) = false) (hcd : (x == ("__classdict__" : Str)) = false) : PS X (.Return (some (.Name x vp)) pos) (tS A C W (.ret (.var i))) :=
  psImp (ps_ret (pe_var (pos := vp) hN hv hd hcd)) fun D σ H ⟨Z, ρ, S, g, p⟩ => by
    rw [exS] at p
    split at p
    · rename_i d hρ
      obtain ⟨v0, hσ, q, o0, rfl, hb0, hH0, nf, nm⟩ := g.slot hρ
      refine ⟨_, hσ, p Z ρ σ H _ .refl g ?_⟩
      have hb : isBox d = true := by cases hb0 <;> rfl
      unfold RetV
      rw [if_pos (by rw [hb]; rfl)]
      exact ⟨q, o0, rfl, hb0, hH0, nf, nm, g.o0 i q ⟨⟨d, hρ⟩, hσ⟩⟩
    · rename_i d hρ
      obtain ⟨v0, hσ, x, rfl, r⟩ := g.slot hρ
      refine ⟨_, hσ, p Z ρ σ H _ .refl g ?_⟩
      unfold RetV
      rw [if_neg (by simp)]
      exact r
    · exact p.elim
theorem st_raise {e : Expr} {c : Nat} {pos : Pos} (hc : X.calm = true) (tk : Takes X W) (he : PMk X e fun _ H Q => Q (.ref (A.xa c)) none H) : PS X (.Raise (some e) none pos) (tS A C W (.raise c)) :=
  psImp (ps_raise hc tk he) fun D σ H ⟨Z, ρ, S, g, p⟩ => by
    rw [exS] at p
    split at p
    · exact p.elim
    · exact p Z σ H .refl g
end
end MP

set_option maxRecDepth 100000
set_option maxHeartbeats 4000000
/-! MiniPy: from the program's syntax. -/
namespace MP
open PySem PySem.Spec L2
open PyProof.Rows hiding St
section
variable {X : Cx} {A : Act} {C : Ev} {W : WX} {Z Z' Z1 : Zw} {ρ ρ' : Frame} {S S' : Sto} {σ σ' : St} {H H' : Hp} {D : Ends}
theorem st_try {x : Str} {body suite : List Stmt} {b₀ : Stmt} {np pos' pos : Pos} {c : Nat} {ib ih : List MP.S} (hs : X.stack = X.env :: X.outer) (hf : X.env.frame = some X.env.locals) (hc : Names X x (.ref (A.xa c))) (tk : Takes X W)
    (hx : ∀ k, k < C.tb.excs.length → PySem.W.exmOne X.K (.ref (A.xa k)) (.ref (A.xa c)) = some (under C.tb k c))
    (hb : ∀ (W : WX) (pn : List (Addr × Obj)) (xe : Value → Shared → Prop), Takes (X.tr pn xe) W → PassesOwn (model X.prog X.w) X.A X.env xe → PSs (X.tr pn xe) body (tB A C W ib))
    (hsu : ∀ (a : Addr) (pn : List (Addr × Obj)), PSs (X.suite a pn) (b₀ :: suite) (tB A { C with hot := true } W ih)) :
    PS X (.Try body [.ExceptHandler (some (.Name x np)) none (b₀ :: suite) pos'] [] [] pos) (tS A C W (.tryx ib c none ih [])) :=
  psImp (ps_try_only (tb := fun W => tB A C W ib) (ts := fun _ _ _ => tB A { C with hot := true } W ih) hs hf hc tk hb fun a oe cls d pn _ _ => hsu a _) fun D σ H ⟨Z, ρ, S, g, p⟩ => by
    rw [exS] at p
    split at p
    · exact p.elim
    · refine ⟨Z, ρ, S, g, ?_⟩
      revert p
      cases exB C ib ρ S with
      | nx ρ2 S2 =>
        intro p
        dsimp only at p
        rw [exB_nil] at p
        exact p
      | ct ρ2 S2 => exact id
      | bk ρ2 S2 => exact id
      | rt d own S2 => exact id
      | ex k ρ2 S2 =>
        intro p Z' σ' H' z g'
        dsimp only at p
        split at p
        · rename_i hk
          refine ⟨_, hx k (of_decide_eq_true hk), fun hu a _ => ?_, fun hu => ?_⟩
          · rw [hu] at p
            exact ⟨Z', ρ2, S2, g', postS.mono (r := exB { C with hot := true } ih ρ2 S2) p z⟩
          · rw [hu] at p
            exact p Z' σ' H' z g'
        · exact p.elim
      | stuck => exact id
end
/-! ### the compiler -/
structure Cc where
  N : List Str
  sc : Scope
  /-- may be stored though it is a cell -/
  fn : Str → Bool
  fns : List (Str × Nat)
  cls : List (Str × Nat)
  exs : List (Str × Nat)
  kon : List (Str × D)
  /-- the defaults of a call of the def with so many arguments -/
  sig : Nat → Nat → Option (List D)
  ini : Nat → Option Nat
  mds : List (Str × Nat × List D × Bool)
  flds : List Str
  /-- hints: displays that are cells, dicts with tuples for keys; names that are changed in place -/
  cels : List (Nat × Nat)
  dts : List (Nat × Nat)
  own : List Nat
def Cc.idx (cc : Cc) (x : Str) : Option Nat := cc.N.findIdx? (fun y => decide (y = x))
def okName (x : Str) : Bool := !(x == ("__debug__" : Str)) && !(x == ("__classdict__" : Str)) && decide (x ≠ ("__name__" : Str))
def visC (sc : Scope) (x : Str) : Bool := match sc.names.lookup x with
  | some .local => true
  | some .cell => true
  | some .free => true
  | _ => false
def gloC (sc : Scope) (x : Str) : Bool := decide (sc.names.lookup x = some .globalImplicit)
def freshS : E → Bool
  | .lst _ => true
  | .dct _ _ _ => true
  | .comp _ _ _ _ _ => true
  | .slc _ _ _ => true
  | .blt .listOf _ => true
  | _ => false
/-- surely not new -/
def oldS : E → Bool
  | .var _ => true
  | .const _ => true
  | .cmp _ _ _ => true
  | .not _ => true
  | .and _ _ => true
  | .or _ _ => true
  | .tup _ => true
  | .idx _ _ => true
  | .fld _ _ => true
  | .mm _ _ _ => true
  | .neg _ => true
  | _ => false
def cList (f : Expr → Option E) : List Expr → Option (List E)
  | [] => some []
  | e :: es => if noStar e then (f e).bind fun i => (cList f es).map (i :: ·) else none
def konstE : Const → Option D
  | .int i => some (.int i)
  | .bool b => some (.bl b)
  | .none => some .non
  | .str x => if decide (x.length ≤ szB) then some (.str x) else none
  | _ => none
def bfOf (x : Str) (n : Nat) : Option Bf := ([.len, .int, .sum, .all, .min2, .max2, .listOf, .tupleOf, .repr] : List Bf).find? fun f => decide (bfN f = x) && (match f with
  | .min2 => n == 2
  | .max2 => n == 2
  | _ => n == 1)
def mmOf (x : Str) (n : Nat) : Option Mm := ([.append, .extend, .pop, .popAt, .reverse, .clear, .setdefault] : List Mm).find? fun m => decide (mmN m = x) && (match m with
  | .append => n == 1
  | .extend => n == 1
  | .pop => n == 0
  | .popAt => n == 1
  | .setdefault => n == 2
  | _ => n == 0)
def tyNames : List String := ["int", "bool", "str", "list", "tuple", "dict"]
def tyOfN (x : Str) : Option String := tyNames.find? fun t => decide ((t : Str) = x)
mutual
def cT : Nat → Cc → Expr → Option Tgt
  | 0, _, _ => none
  | n + 1, cc, e => match e with
    | .Name x _ => if decide (cc.sc.names.lookup x = some .local) || (decide (cc.sc.names.lookup x = some .cell) && cc.fn x) then (cc.idx x).map .v else none
    | .Tuple es _ _ => if es.all plainTg then (cTs n cc es).map .t else none
    | _ => none
def cTs : Nat → Cc → List Expr → Option (List Tgt)
  | 0, _, _ => none
  | n + 1, cc, es => match es with
    | [] => some []
    | e :: es => (cT n cc e).bind fun t => (cTs n cc es).map (t :: ·)
end
def ownOf (cc : Cc) (scope : Scope) : List (Str × Nat) := scope.names.filterMap fun y => match y.2 with
  | .local => (cc.idx y.1).map fun i => (y.1, i)
  | .cell => (cc.idx y.1).map fun i => (y.1, i)
  | _ => none
def Cc.blk (cc : Cc) (scope : Scope) : Cc := { cc with sc := relS scope cc.sc, fn := fun x => scope.names.lookup x == some .cell }
def isTup : Expr → Bool
  | .Tuple _ _ _ => true
  | _ => false
/-- as a test -/
def okT : Expr → Bool
  | .IfExp _ _ _ _ => false
  | .UnaryOp .Not a _ => okT a
  | .BoolOp _ vs _ => okTs vs
  | _ => true
where okTs : List Expr → Bool
  | [] => true
  | e :: es => okT e && okTs es
def notSet : Expr → Bool
  | .Set _ _ _ => false
  | _ => true
mutual
def cE : Nat → Cc → Expr → Option E
  | 0, _, _ => none
  | n + 1, cc, e => (cE0 n cc e).map fun i => if cc.cels.contains (e.pos.line, e.pos.col) && freshS i then .cell i else i
def cE0 : Nat → Cc → Expr → Option E
  | 0, _, _ => none
  | n + 1, cc, e => match e with
    | .Constant c _ _ => (konstE c).map .const
    | .Name x _ => if okName x then (if visC cc.sc x then (cc.idx x).map .var else if gloC cc.sc x then (cc.kon.lookup x).map .const else none) else none
    | .BinOp a op b _ => (cE n cc a).bind fun a => (cE n cc b).map fun b => .bin op a b
    | .UnaryOp .USub a _ => (cE n cc a).map .neg
    | .UnaryOp .Not a _ => (cE n cc a).map .not
    | .BoolOp .And (a :: b :: r) p => (cE n cc a).bind fun a => (match r with
      | [] => cE n cc b
      | _ => cE n cc (.BoolOp .And (b :: r) p)).map fun b => .and a b
    | .BoolOp .Or (a :: b :: r) p => (cE n cc a).bind fun a => (match r with
      | [] => cE n cc b
      | _ => cE n cc (.BoolOp .Or (b :: r) p)).map fun b => .or a b
    | .Compare a [op] [b] _ => if behindInMarks op b then none else (cE n cc a).bind fun a => (cE n cc b).map fun b => .cmp op a b
    | .Compare a [op, oq] [b, c] _ => if lastMarks [op, oq] [b, c] then none else (cE n cc a).bind fun a => (cE n cc b).bind fun b => (cE n cc c).map fun c => .chain op oq a b c
    | .IfExp c a b _ => if okT c then (cE n cc c).bind fun c => (cE n cc a).bind fun a => (cE n cc b).bind fun b => if oldS a || oldS b then some (.ite c a b) else none else none
    | .Tuple es _ _ => (cEs n cc es).map .tup
    | .List es _ => (cEs n cc es).map .lst
    | .Dict [] [] p => some (.dct (cc.dts.contains (p.line, p.col)) [] [])
    | .Subscript a (.Slice none none (some (.UnaryOp .USub (.Constant (.int 1) _ _) _)) _) _ => (cE n cc a).map .srev
    | .Subscript a (.Slice lo hi none _) _ => (cE n cc a).bind fun a => (cO n cc lo).bind fun lo => (cO n cc hi).map fun hi => .slc a lo hi
    | .Subscript a b _ => if noSlice b then (cE n cc a).bind fun a => (cE n cc b).map fun b => .idx a b else none
    | .Attribute o f _ => if noSuper o && cc.flds.contains f then (cE n cc o).map fun o => .fld o f else none
    | .Call (.Name f _) es [] _ => if okName f && gloC cc.sc f then (match cc.fns.lookup f with
      | some k => (cc.sig k es.length).bind fun dd => (cEs n cc es).map fun is => .call k is dd
      | none => (match cc.cls.lookup f with
        | some c => (cc.ini c).bind fun k => (cc.sig k (es.length + 1)).bind fun dd => (cEs n cc es).map fun is => .new c is dd
        | none => (match es with
          | [e, .Name t _] => if decide (f = ("isinstance" : Str)) && noStar e && gloC cc.sc t then (tyOfN t).bind fun ty => (cE n cc e).map fun i => .blt (.isi ty) [i] else (bfOf f 2).bind fun b => (cEs n cc es).map fun is => .blt b is
          | es => (bfOf f es.length).bind fun b => (cEs n cc es).map fun is => .blt b is))) else none
    | .Call (.Attribute o m ap) es [] p => if noSuper o && decide (es.length < 30) && (ap.endLine == p.line) then (match cc.mds.find? (fun (q : Str × Nat × List D × Bool) => decide (q.1 = m) && q.2.1 == es.length) with
      | some q => (cE n cc o).bind fun o => (cEs n cc es).map fun is => .meth o m is q.2.2.1 q.2.2.2
      | none => (match es with
        | [] => if decide (m = ("bit_length" : Str)) then (cE n cc o).map fun o => .mt .bitLength o [] else (mmOf m 0).bind fun k => (cE n cc o).map fun o => .mm k o []
        | es => (mmOf m es.length).bind fun k => (cE n cc o).bind fun o => (cEs n cc es).map fun is => .mm k o is)) else none
    | .ListComp elt [⟨tg, it, ifs, 0⟩] scope _ => if blkC cc.N cc.sc scope (ownOf cc scope) && notSet it then (cI n cc (isTup tg) it).bind fun it => (cT n (cc.blk scope) tg).bind fun t => (match ifs with
      | [] => some []
      | [c] => if okT c then (cE n (cc.blk scope) c).map fun c => [c] else none
      | _ => none).bind fun ifs => (cE n (cc.blk scope) elt).map fun elt => .comp elt t (List.map Prod.snd (ownOf cc scope)) it ifs else none
    | _ => none
def cEs : Nat → Cc → List Expr → Option (List E)
  | 0, _, _ => none
  | n + 1, cc, es => match es with
    | [] => some []
    | e :: es => if noStar e then (cE n cc e).bind fun i => (cEs n cc es).map (i :: ·) else none
def cO : Nat → Cc → Option Expr → Option (Option E)
  | 0, _, _ => none
  | n + 1, cc, e => match e with
    | none => some none
    | some e => (cE n cc e).map some
/-- what is walked -/
def cI : Nat → Cc → Bool → Expr → Option E
  | 0, _, _, _ => none
  | n + 1, cc, tp, e => match e with
    | .Call (.Name f _) es [] _ => if gloC cc.sc f && decide (f = ("range" : Str)) then (cEs n cc es).map .rng
      else match es with
        | [a] => if gloC cc.sc f && noStar a && decide (f = ("enumerate" : Str)) && tp then (cE n cc a).map .enm
          else if gloC cc.sc f && noStar a && decide (f = ("reversed" : Str)) then (cE n cc a).map .rev
          else cE n cc e
        | _ => cE n cc e
    | e => cE n cc e
end
end MP

set_option maxRecDepth 100000
set_option maxHeartbeats 4000000
/-! MiniPy: the compiler is sound, expressions. -/
namespace MP
open PySem PySem.Spec L2
open PyProof.Rows hiding St
structure Same (A B : Act) : Prop where
  K : A.K = B.K
  fa : A.fa = B.fa
  ca : A.ca = B.ca
  xa : A.xa = B.xa
theorem Same.push {A B : Act} (s : Same A B) (D : Addr) (o : HO) : Same (A.push D o) B := ⟨s.K, s.fa, s.ca, s.xa⟩
def bltNames : List Str := ["isinstance", "range", "enumerate", "reversed", "len", "int", "sum", "all", "min", "max", "list", "tuple", "bool", "str", "dict", "repr"]
structure EOk (B : Act) (C : Ev) (cc : Cc) (X : Cx) : Prop where
  N : X.N = cc.N
  nd : X.N.Nodup
  sc : X.env.scope = cc.sc
  fn : ∀ x, cc.fn x = true → X.fn x = true
  hu : X.A.units + 65 < cLine
  gd : X.A.guards = some []
  kon : ∀ x d, cc.kon.lookup x = some d → ∃ v u, konst d = some v ∧ X.mg x = some u ∧ RelV v u
  fns : ∀ x f, cc.fns.lookup x = some f → X.mg x = some (.ref (B.fa f))
  cls : ∀ x c, cc.cls.lookup x = some c → X.mg x = some (.ref (B.ca c))
  ini : ∀ c f, cc.ini c = some f → ∃ k, C.tb.clss[c]? = some k ∧ k.meths.lookup ("__init__" : Str) = some f ∧ Mk X.K (B.ca c) (B.fa f)
  blt : ∀ x, x ∈ bltNames → X.mg x = none
  flds : ∀ f, cc.flds.contains f = true → ∀ c k, C.tb.clss[c]? = some k → k.flds.contains f = true → Cls X.K (B.ca c) ∧ NoAttr X.K (B.ca c) f
  call : C.hot = false → ∀ A, Same A B → ∀ f n dd, cc.sig f n = some dd → Callee X A C f n dd 1
  disp : C.hot = false → ∀ A, Same A B → ∀ q, q ∈ cc.mds → Disp X A C q.1 q.2.1 q.2.2.1
  calm : C.hot = false → X.calm = true
theorem Callee.le {X : Cx} {A : Act} {C : Ev} {f n : Nat} {dd : List D} (h : Callee X A C f n dd 1) : Callee X A C f n dd 0 := by
  obtain ⟨⟨k, fd, ps, dvs, ds, h1, h2, h3⟩, kp, gd⟩ := h
  exact ⟨⟨k, fd, ps, dvs, ds, h1, h2.mono (by omega), h3⟩, kp, gd⟩
theorem idx_at {N : List Str} {x : Str} {i : Nat} (h : N.findIdx? (fun y => decide (y = x)) = some i) : N[i]? = some x := by
  rw [List.findIdx?_eq_some_iff_getElem] at h
  obtain ⟨h1, h2, _⟩ := h
  rw [List.getElem?_eq_getElem h1]
  simpa using h2
theorem vis_of {sc : Scope} {x : Str} (h : visC sc x = true) : Vis sc x := by
  unfold visC at h
  split at h
  · rename_i e; exact .inl e
  · rename_i e; exact .inr (.inl e)
  · rename_i e; exact .inr (.inr e)
  · cases h
theorem okName_of {x : Str} (h : okName x = true) : (x == ("__debug__" : Str)) = false ∧ (x == ("__classdict__" : Str)) = false ∧ x ≠ ("__name__" : Str) := by
  unfold okName at h
  simp only [Bool.and_eq_true, decide_eq_true_eq] at h
  refine ⟨by simpa using h.1.1, by simpa using h.1.2, h.2⟩
theorem freshS_of {T : Tb} {i : E} (h : freshS i = true) : isFresh T i = true := by
  cases i with
  | blt f es => cases f <;> first | (rw [isFresh]; done) | cases h
  | lst _ => rw [isFresh]
  | dct _ _ _ => rw [isFresh]
  | comp _ _ _ _ _ => rw [isFresh]
  | slc _ _ _ => rw [isFresh]
  | _ => cases h
theorem oldS_of {T : Tb} {i : E} (h : oldS i = true) : isFresh T i = false := by
  cases i <;> first | (cases h; done) | simp [isFresh]
theorem peFalse {X : Cx} {e : Expr} {t : TE} (h : ∀ σ H Q, ¬ t σ H Q) : PE X e t := ⟨fun _ _ σ H Q _ q => (h σ H Q q).elim⟩
section
variable {X : Cx} {A B : Act} {C : Ev} {W : WX} {cc : Cc}
theorem hot_calm {e : Expr} {i : E} (hh : C.hot = true) {f : Frame → Sto → Res D} (h : ∀ ρ S, evE C i ρ S = calmly C (f ρ S)) : PE X e (tE A C W i) := peFalse fun σ H Q ⟨Z, ρ, S, g, p⟩ => by
  rw [h] at p
  unfold calmly at p
  rw [if_pos hh] at p
  exact p.elim
theorem EOk.glob (k : EOk B C cc X) {x : Str} (h : gloC cc.sc x = true) : Gl X x := by
  show X.env.scope.names.lookup x = _
  rw [k.sc]
  exact of_decide_eq_true h
/-- what is to be shown for the fuel n -/
structure Snd (n : Nat) : Prop where
  e : ∀ cc e i, cE n cc e = some i → ∀ X B C, EOk B C cc X → ∀ A W, Same A B → (C.hot = false → Takes X W) → PE X e (tE A C W i)
  e0 : ∀ cc e i, cE0 n cc e = some i → ∀ X B C, EOk B C cc X → ∀ A W, Same A B → (C.hot = false → Takes X W) → PE X e (tE A C W i)
  r : ∀ cc e i, cE n cc e = some i → ∀ X B C, EOk B C cc X → ∀ A W, Same A B → (C.hot = false → Takes X W) → PE X e (tR A C W i)
  t : ∀ cc e i, cE n cc e = some i → okT e = true → ∀ X B C, EOk B C cc X → ∀ A W, Same A B → (C.hot = false → Takes X W) → PT X e (tT A C W i)
  es : ∀ cc es is, cEs n cc es = some is → ∀ X B C, EOk B C cc X → ∀ A W, Same A B → (C.hot = false → Takes X W) → PA X es (tAs A C W is) ∧ PA X es (tRs A C W is) ∧ (∀ e, e ∈ es → noStar e = true) ∧ es.length = is.length
  o : ∀ cc e i, cO n cc e = some i → ∀ X B C, EOk B C cc X → ∀ A W, Same A B → (C.hot = false → Takes X W) → PO X e (tO A C W i)
  i : ∀ cc b e i, cI n cc b e = some i → ∀ X B C, EOk B C cc X → ∀ A W, Same A B → (C.hot = false → Takes X W) → ∀ cmp tg, (b = true → isTup tg = true) → PI X tg e (tI cmp A C W i)
theorem tg_sound : ∀ n, (∀ cc e t, cT n cc e = some t → ∀ X, X.N = cc.N → X.N.Nodup → X.env.scope = cc.sc → (∀ x, cc.fn x = true → X.fn x = true) → X.calm = true → ∀ A, PG X e (gT A t)) ∧
    (∀ cc es ts, cTs n cc es = some ts → (∀ e, e ∈ es → plainTg e = true) → ∀ X, X.N = cc.N → X.N.Nodup → X.env.scope = cc.sc → (∀ x, cc.fn x = true → X.fn x = true) → X.calm = true → ∀ A, PGs X es (gTs A ts) ∧ es.length = ts.length)
  | 0 => ⟨fun _ _ _ h => by (rw [cT.eq_def] at h; cases h), fun _ _ _ h => by (rw [cTs.eq_def] at h; cases h)⟩
  | n + 1 => by
    obtain ⟨ih1, ih2⟩ := tg_sound n
    refine ⟨fun cc e t h X hN nd hsc hfn hc A => ?_, fun cc es ts h hp X hN nd hsc hfn hc A => ?_⟩
    · rw [cT.eq_def] at h
      dsimp only at h
      split at h
      · rename_i x p
        split at h
        · rename_i hx
          obtain ⟨i, hi, rfl⟩ := Option.map_eq_some_iff.mp h
          have hat := idx_at hi
          rw [← hN] at hat
          simp only [Bool.or_eq_true, Bool.and_eq_true, decide_eq_true_eq] at hx
          rcases hx with hx | ⟨hx, hf⟩
          · exact g_name nd hat (.inl (by rw [hsc]; exact hx)) (.inr (by rw [hsc]; exact hx))
          · exact g_name nd hat (.inr (by rw [hsc]; exact hx)) (.inl (hfn x hf))
        · cases h
      · split at h
        · rename_i es k p hpl
          obtain ⟨ts, hts, rfl⟩ := Option.map_eq_some_iff.mp h
          have hp : ∀ e, e ∈ es → plainTg e = true := List.all_eq_true.mp hpl
          obtain ⟨h1, h2⟩ := ih2 cc es ts hts hp X hN nd hsc hfn hc A
          exact g_tup hc hp h2 h1
        · cases h
      · cases h
    · rw [cTs.eq_def] at h
      dsimp only at h
      split at h
      · cases h
        exact ⟨gs_nil, rfl⟩
      · rename_i e es
        obtain ⟨t, h1, h2⟩ := Option.bind_eq_some_iff.mp h
        obtain ⟨ts', h3, rfl⟩ := Option.map_eq_some_iff.mp h2
        obtain ⟨k1, k2⟩ := ih2 cc es ts' h3 (fun e' he => hp e' (by simp [he])) X hN nd hsc hfn hc A
        exact ⟨gs_cons (hp e (by simp)) (ih1 cc e t h1 X hN nd hsc hfn hc A) k1, by simp [k2]⟩
theorem es_sound {n : Nat} (ih : Snd n) : ∀ cc es is, cEs (n + 1) cc es = some is → ∀ X B C, EOk B C cc X → ∀ A W, Same A B → (C.hot = false → Takes X W) → PA X es (tAs A C W is) ∧ PA X es (tRs A C W is) ∧ (∀ e, e ∈ es → noStar e = true) ∧ es.length = is.length := by
  intro cc es is h X B C k A W sm tk
  rw [cEs.eq_def] at h
  dsimp only at h
  split at h
  · cases h
    exact ⟨a_nil, r_nil, fun e he => by (cases he), rfl⟩
  · rename_i e es
    split at h
    · rename_i hn
      obtain ⟨i, h1, h2⟩ := Option.bind_eq_some_iff.mp h
      obtain ⟨is', h3, rfl⟩ := Option.map_eq_some_iff.mp h2
      obtain ⟨k1, k2, k3, k4⟩ := ih.es cc es is' h3 X B C k A W sm tk
      refine ⟨a_cons hn (peHeld (ih.e cc e i h1 X B C k A W sm tk)) k1, r_cons hn (ih.r cc e i h1 X B C k A W sm tk) k2, fun e' he => ?_, by simp [k4]⟩
      rcases List.mem_cons.mp he with rfl | he
      · exact hn
      · exact k3 e' he
    · cases h
theorem o_sound {n : Nat} (ih : Snd n) : ∀ cc e i, cO (n + 1) cc e = some i → ∀ X B C, EOk B C cc X → ∀ A W, Same A B → (C.hot = false → Takes X W) → PO X e (tO A C W i) := by
  intro cc e i h X B C k A W sm tk
  rw [cO.eq_def] at h
  dsimp only at h
  split at h
  · cases h
    exact o_none
  · obtain ⟨i', h1, rfl⟩ := Option.map_eq_some_iff.mp h
    exact o_some (peHeld (ih.e cc _ i' h1 X B C k A W sm tk))
theorem i_sound {n : Nat} (ih : Snd n) : ∀ cc b e i, cI (n + 1) cc b e = some i → ∀ X B C, EOk B C cc X → ∀ A W, Same A B → (C.hot = false → Takes X W) → ∀ cmp tg, (b = true → isTup tg = true) → PI X tg e (tI cmp A C W i) := by
  intro cc b e i h X B C k A W sm tk cmp tg hb
  have seq : ∀ {e i}, cE n cc e = some i → PI X tg e (tI cmp A C W i) := fun {e i} h1 => s_seq (by
    cases cmp with
    | true => exact ih.r cc e i h1 X B C k A W sm tk
    | false => exact peHeld (ih.e cc e i h1 X B C k A W sm tk))
  rw [cI.eq_def] at h
  dsimp only at h
  split at h
  · rename_i f p es pos
    split at h
    · rename_i hc
      have hc := Bool.and_eq_true_iff.mp hc
      have hf : f = "range" := of_decide_eq_true hc.2
      subst hf
      obtain ⟨is, h1, rfl⟩ := Option.map_eq_some_iff.mp h
      obtain ⟨k1, k2, k3, k4⟩ := ih.es cc es is h1 X B C k A W sm tk
      exact s_rng (k.glob hc.1) (k.blt _ (by simp [bltNames])) k3 k1
    · split at h
      · rename_i a
        split at h
        · rename_i hc
          simp only [Bool.and_eq_true, decide_eq_true_eq] at hc
          obtain ⟨⟨⟨h1, h2⟩, h3⟩, h4⟩ := hc
          subst h3
          obtain ⟨ia, h5, rfl⟩ := Option.map_eq_some_iff.mp h
          have := hb h4
          cases tg <;> first
            | exact s_enm (k.glob h1) (k.blt _ (by simp [bltNames])) h2 (peHeld (ih.e cc a ia h5 X B C k A W sm tk))
            | cases this
        · split at h
          · rename_i hc
            simp only [Bool.and_eq_true, decide_eq_true_eq] at hc
            obtain ⟨⟨h1, h2⟩, h3⟩ := hc
            subst h3
            obtain ⟨ia, h5, rfl⟩ := Option.map_eq_some_iff.mp h
            exact s_rev (k.glob h1) (k.blt _ (by simp [bltNames])) h2 (peHeld (ih.e cc a ia h5 X B C k A W sm tk))
          · exact seq h
      · exact seq h
  · exact seq h
theorem both {e : Expr} {i : E} (hi : ∀ k, i ≠ .var k) (h : PE X e (tE A C W i)) : PE X e (tE A C W i) ∧ PE X e (tR A C W i) := ⟨h, peRaw hi (peHeld h)⟩
theorem wrap_of {n : Nat} {e : Expr} {i : E} (h : cE (n + 1) cc e = some i) : ∃ i0, cE0 n cc e = some i0 ∧ (i = i0 ∨ (freshS i0 = true ∧ i = .cell i0)) := by
  rw [cE.eq_def] at h
  dsimp only at h
  obtain ⟨i0, h1, h2⟩ := Option.map_eq_some_iff.mp h
  refine ⟨i0, h1, ?_⟩
  split at h2
  · rename_i hc
    exact .inr ⟨(Bool.and_eq_true_iff.mp hc).2, h2.symm⟩
  · exact .inl h2.symm
end
/-- what is to be shown for the fuel n -/
structure Snd2 (n : Nat) : Prop where
  s : Snd n
  er : ∀ cc e i, cE0 n cc e = some i → ∀ X B C, EOk B C cc X → ∀ A W, Same A B → (C.hot = false → Takes X W) → PE X e (tE A C W i) ∧ PE X e (tR A C W i)
  w : ∀ cc op vs p i, cE n cc (.BoolOp op vs p) = some i → okT (.BoolOp op vs p) = true → ∀ X B C, EOk B C cc X → ∀ A W, Same A B → (C.hot = false → Takes X W) → PW X (.BoolOp op vs p) (tT A C W i)
section
variable {X : Cx} {A B : Act} {C : Ev} {W : WX} {cc : Cc}
theorem takes0 : Takes X W0 := fun u s' ⟨a, B, sI, pins, σ, H, cls, d, _, _, _, _, _, _, _, _, w⟩ => w.elim
theorem EOk.blk (k : EOk B C cc X) {scope : Scope} (hb : blkC cc.N cc.sc scope (ownOf cc scope) = true) (s : Shared) (H : Hp) (Ca : Addr) (cl : List (Str × Addr)) (fp : List Addr) : EOk B C (cc.blk scope) (X.blk s H scope (compEnvC scope cl Ca X.env) fp) := by
  refine ⟨k.N, k.nd, ?_, fun x h => h, k.hu, k.gd, k.kon, k.fns, k.cls, k.ini, k.blt, k.flds, fun h A sm f n dd hs => ?_, fun h A sm q hq => ?_, k.calm⟩
  · show relS scope X.env.scope = relS scope cc.sc
    rw [k.sc]
  · obtain ⟨⟨q1, fd, ps, dvs, ds, h1, h2, h3⟩, kp, gd⟩ := k.call h A sm f n dd hs
    exact ⟨⟨q1, fd, ps, dvs, ds, h1, h2, h3⟩, kp, k.gd⟩
  · obtain ⟨h1, h2⟩ := k.disp h A sm q hq
    refine ⟨h1, fun c kk f e1 e2 => ?_⟩
    obtain ⟨a1, ⟨q1, fd, ps, dvs, ds, g1, g2, g3⟩, kp, gd⟩ := h2 c kk f e1 e2
    exact ⟨a1, ⟨q1, fd, ps, dvs, ds, g1, g2, g3⟩, kp, k.gd⟩
theorem bfOf_of {x : Str} {n : Nat} {b : Bf} (h : bfOf x n = some b) : bfN b = x ∧ (∃ u, bfV b = some u) ∧ bfN b ∈ bltNames := by
  have h1 := List.find?_some h
  have h2 := List.mem_of_find?_eq_some h
  refine ⟨of_decide_eq_true (Bool.and_eq_true_iff.mp h1).1, ?_⟩
  simp only [List.mem_cons, List.not_mem_nil, or_false] at h2
  rcases h2 with rfl | rfl | rfl | rfl | rfl | rfl | rfl | rfl | rfl <;> exact ⟨⟨_, rfl⟩, by decide⟩
theorem mmOf_of {x : Str} {n : Nat} {m : Mm} (h : mmOf x n = some m) : mmN m = x ∧ ∃ u, mmI m = some u := by
  have h1 := List.find?_some h
  have h2 := List.mem_of_find?_eq_some h
  refine ⟨of_decide_eq_true (Bool.and_eq_true_iff.mp h1).1, ?_⟩
  simp only [List.mem_cons, List.not_mem_nil, or_false] at h2
  rcases h2 with rfl | rfl | rfl | rfl | rfl | rfl | rfl <;> exact ⟨_, rfl⟩
theorem tyOfN_of {x : Str} {t : String} (h : tyOfN x = some t) : (t : Str) = x ∧ bootBuiltins (t : Str) = some (.type t) ∧ (t : Str) ≠ "__name__" ∧ ((t : Str) == ("__debug__" : Str)) = false ∧ (t : Str) ∈ bltNames := by
  have h1 := List.find?_some h
  have h2 := List.mem_of_find?_eq_some h
  refine ⟨of_decide_eq_true h1, ?_⟩
  simp only [tyNames, List.mem_cons, List.not_mem_nil, or_false] at h2
  rcases h2 with rfl | rfl | rfl | rfl | rfl | rfl <;> exact ⟨by decide +kernel, by decide, by decide, by decide⟩
theorem e0_sound {n : Nat} (ih : Snd n) : ∀ cc e i, cE0 (n + 1) cc e = some i → ∀ X B C, EOk B C cc X → ∀ A W, Same A B → (C.hot = false → Takes X W) → PE X e (tE A C W i) ∧ PE X e (tR A C W i) := by
  intro cc e i h X B C k A W sm tk
  have pv : ∀ {e i}, cE n cc e = some i → PE X e (tV A C W i) := fun h1 => peHeld (ih.e cc _ _ h1 X B C k A W sm tk)
  have pr : ∀ {e i}, cE n cc e = some i → PE X e (tR A C W i) := fun h1 => ih.r cc _ _ h1 X B C k A W sm tk
  have hu1 : X.A.units + 1 < cLine := by have := k.hu; omega
  rw [cE0.eq_def] at h
  dsimp only at h
  split at h
  · -- constants
    rename_i c j p
    obtain ⟨d, h1, rfl⟩ := Option.map_eq_some_iff.mp h
    refine both (fun k e => nomatch e) ?_
    cases c with
    | int i => cases h1; exact s_int
    | bool b => cases h1; exact s_bl
    | none => cases h1; exact s_non
    | str x =>
      unfold konstE at h1
      dsimp only at h1
      split at h1
      · rename_i hx
        cases h1
        exact s_str (of_decide_eq_true hx)
      · cases h1
    | _ => cases h1
  · -- names
    rename_i x p
    split at h
    · rename_i hn
      obtain ⟨n1, n2, n3⟩ := okName_of hn
      split at h
      · rename_i hv
        obtain ⟨i, hi, rfl⟩ := Option.map_eq_some_iff.mp h
        have hat := idx_at hi
        rw [← k.N] at hat
        have hv := vis_of hv
        rw [← k.sc] at hv
        exact ⟨s_var hat hv n1 n2, s_rvar hat hv n1 n2⟩
      · split at h
        · rename_i hg
          obtain ⟨d, hd, rfl⟩ := Option.map_eq_some_iff.mp h
          obtain ⟨v, u, h1, h2, h3⟩ := k.kon x d hd
          exact both (fun k e => nomatch e) (peImp (pe_glob (pos := p) (k.glob hg) h2 h3 n1) fun σ H Q ⟨Z, ρ, S, g, p⟩ => by
            rw [evE_const] at p
            exact p.ok g _ (.of (konst_rel h1) (by simp [isFresh])))
        · cases h
    · cases h
  · -- a op b
    obtain ⟨a, h1, h2⟩ := Option.bind_eq_some_iff.mp h
    obtain ⟨b, h3, rfl⟩ := Option.map_eq_some_iff.mp h2
    exact both (fun k e => nomatch e) (s_bin (pr h1) (pr h3))
  · obtain ⟨a, h1, rfl⟩ := Option.map_eq_some_iff.mp h
    exact both (fun k e => nomatch e) (s_neg (pv h1))
  · obtain ⟨a, h1, rfl⟩ := Option.map_eq_some_iff.mp h
    exact both (fun k e => nomatch e) (s_not (pr h1))
  · -- and
    rename_i a b r p
    obtain ⟨ia, h1, h2⟩ := Option.bind_eq_some_iff.mp h
    obtain ⟨ib, h3, rfl⟩ := Option.map_eq_some_iff.mp h2
    refine both (fun k e => nomatch e) (s_and (pv h1) ?_)
    cases r with
    | nil => exact pe_one (pv h3)
    | cons _ _ => exact pv h3
  · -- or
    rename_i a b r p
    obtain ⟨ia, h1, h2⟩ := Option.bind_eq_some_iff.mp h
    obtain ⟨ib, h3, rfl⟩ := Option.map_eq_some_iff.mp h2
    refine both (fun k e => nomatch e) (s_or (pv h1) ?_)
    cases r with
    | nil => exact pe_one (pv h3)
    | cons _ _ => exact pv h3
  · split at h
    · cases h
    · rename_i hb
      obtain ⟨ia, h1, h2⟩ := Option.bind_eq_some_iff.mp h
      obtain ⟨ib, h3, rfl⟩ := Option.map_eq_some_iff.mp h2
      exact both (fun k e => nomatch e) (s_cmp k.hu (pr h1) (pr h3) (by simpa using hb))
  · split at h
    · cases h
    · rename_i hb
      obtain ⟨ia, h1, h2⟩ := Option.bind_eq_some_iff.mp h
      obtain ⟨ib, h3, h4⟩ := Option.bind_eq_some_iff.mp h2
      obtain ⟨ic, h5, rfl⟩ := Option.map_eq_some_iff.mp h4
      exact both (fun k e => nomatch e) (s_chain k.hu (pv h1) (pv h3) (pv h5) (by simpa using hb))
  · -- if
    split at h
    · rename_i hok
      obtain ⟨ic, h1, h2⟩ := Option.bind_eq_some_iff.mp h
      obtain ⟨ia, h3, h4⟩ := Option.bind_eq_some_iff.mp h2
      obtain ⟨ib, h5, h6⟩ := Option.bind_eq_some_iff.mp h4
      split at h6
      · rename_i ho
        cases h6
        refine both (fun k e => nomatch e) (s_ite ?_ (ih.t cc _ _ h1 hok X B C k A W sm tk) (pv h3) (pv h5))
        rw [isFresh]
        rcases Bool.or_eq_true_iff.mp ho with ho | ho
        · rw [oldS_of ho, Bool.false_and]
        · rw [oldS_of ho, Bool.and_false]
      · cases h6
    · cases h
  · obtain ⟨is, h1, rfl⟩ := Option.map_eq_some_iff.mp h
    exact both (fun k e => nomatch e) (s_tup (ih.es cc _ _ h1 X B C k A W sm tk).1)
  · obtain ⟨is, h1, rfl⟩ := Option.map_eq_some_iff.mp h
    exact both (fun k e => nomatch e) (s_lst (ih.es cc _ _ h1 X B C k A W sm tk).1)
  · cases h
    exact both (fun k e => nomatch e) (s_dct0 _)
  · obtain ⟨ia, h1, rfl⟩ := Option.map_eq_some_iff.mp h
    exact both (fun k e => nomatch e) (s_srev (pr h1))
  · obtain ⟨ia, h1, h2⟩ := Option.bind_eq_some_iff.mp h
    obtain ⟨il, h3, h4⟩ := Option.bind_eq_some_iff.mp h2
    obtain ⟨ihh, h5, rfl⟩ := Option.map_eq_some_iff.mp h4
    exact both (fun k e => nomatch e) (s_slc (pr h1) (ih.o cc _ _ h3 X B C k A W sm tk) (ih.o cc _ _ h5 X B C k A W sm tk))
  · split at h
    · rename_i hs
      obtain ⟨ia, h1, h2⟩ := Option.bind_eq_some_iff.mp h
      obtain ⟨ib, h3, rfl⟩ := Option.map_eq_some_iff.mp h2
      exact both (fun k e => nomatch e) (s_idx hu1 hs (pr h1) (pv h3))
    · cases h
  · -- o.f
    split at h
    · rename_i hs
      have hs := Bool.and_eq_true_iff.mp hs
      obtain ⟨io, h1, rfl⟩ := Option.map_eq_some_iff.mp h
      refine both (fun k e => nomatch e) (s_fld hs.1 (fun c kk e1 e2 => ?_) (pv h1))
      have := k.flds _ hs.2 c kk e1 e2
      rw [sm.ca]
      exact this
    · cases h
  · -- f(..)
    rename_i f p es pos
    split at h
    · rename_i hc
      have hc := Bool.and_eq_true_iff.mp hc
      obtain ⟨n1, n2, n3⟩ := okName_of hc.1
      have hg := k.glob hc.2
      have hblt : ∀ {b : Bf} {is : List E}, bfN b = f → (∃ u, bfV b = some u) → bfN b ∈ bltNames → cEs n cc es = some is → PE X (.Call (.Name f p) es [] pos) (tE A C W (.blt b is)) ∧ PE X (.Call (.Name f p) es [] pos) (tR A C W (.blt b is)) := fun {b is} e1 ⟨u, e2⟩ e3 e4 => by
        refine both (fun k e => nomatch e) ?_
        by_cases hh : C.hot = true
        · exact hot_calm hh fun ρ S => evE_blt
        · have hh : C.hot = false := by simpa using hh
          obtain ⟨k1, k2, k3, k4⟩ := ih.es cc es is e4 X B C k A W sm tk
          subst e1
          exact s_blt (k.calm hh) k.gd k.hu e2 hg (k.blt _ e3) k3 k2
      split at h
      · rename_i kf hkf
        obtain ⟨dd, h1, h2⟩ := Option.bind_eq_some_iff.mp h
        obtain ⟨is, h3, rfl⟩ := Option.map_eq_some_iff.mp h2
        refine both (fun k e => nomatch e) ?_
        by_cases hh : C.hot = true
        · exact hot_calm hh fun ρ S => evE_call
        · have hh : C.hot = false := by simpa using hh
          obtain ⟨k1, k2, k3, k4⟩ := ih.es cc es is h3 X B C k A W sm tk
          have hm := k.fns f kf hkf
          rw [← sm.fa] at hm
          have hF := (k.call hh A sm kf _ dd h1).le
          rw [k4] at hF
          exact s_call (tk hh) hF hg hm k3 k1 n1
      · split at h
        · rename_i c hcl
          obtain ⟨kf, h0, h0'⟩ := Option.bind_eq_some_iff.mp h
          obtain ⟨dd, h1, h2⟩ := Option.bind_eq_some_iff.mp h0'
          obtain ⟨is, h3, rfl⟩ := Option.map_eq_some_iff.mp h2
          refine both (fun k e => nomatch e) ?_
          by_cases hh : C.hot = true
          · exact hot_calm hh fun ρ S => evE_new
          · have hh : C.hot = false := by simpa using hh
            obtain ⟨k1, k2, k3, k4⟩ := ih.es cc es is h3 X B C k A W sm tk
            obtain ⟨kk, e1, e2, e3⟩ := k.ini c kf h0
            have hm := k.cls f c hcl
            rw [← sm.ca] at hm
            rw [← sm.ca, ← sm.fa] at e3
            have hF := k.call hh A sm kf _ dd h1
            rw [k4] at hF
            exact s_new (tk hh) e1 e2 e3 hF hg hm k3 k1 n1
        · split at h
          · rename_i e t p2
            split at h
            · rename_i hi
              simp only [Bool.and_eq_true, decide_eq_true_eq] at hi
              obtain ⟨⟨i1, i2⟩, i3⟩ := hi
              obtain ⟨ty, h1, h2⟩ := Option.bind_eq_some_iff.mp h
              obtain ⟨ie, h3, rfl⟩ := Option.map_eq_some_iff.mp h2
              obtain ⟨t1, t2, t3, t4, t5⟩ := tyOfN_of h1
              subst t1
              subst i1
              exact both (fun k e => nomatch e) (s_isi hg (k.blt _ (by simp [bltNames])) t2 t3 t4 (k.glob i3) (k.blt _ t5) i2 (pr h3))
            · obtain ⟨b, h1, h2⟩ := Option.bind_eq_some_iff.mp h
              obtain ⟨is, h3, rfl⟩ := Option.map_eq_some_iff.mp h2
              obtain ⟨e1, e2, e3⟩ := bfOf_of h1
              exact hblt e1 e2 e3 h3
          · obtain ⟨b, h1, h2⟩ := Option.bind_eq_some_iff.mp h
            obtain ⟨is, h3, rfl⟩ := Option.map_eq_some_iff.mp h2
            obtain ⟨e1, e2, e3⟩ := bfOf_of h1
            exact hblt e1 e2 e3 h3
    · cases h
  · -- o.m(..)
    rename_i o m ap es pos
    split at h
    · rename_i hc
      simp only [Bool.and_eq_true, decide_eq_true_eq] at hc
      obtain ⟨⟨c1, c2⟩, c3⟩ := hc
      have hmm : ∀ {km : Mm} {io : E} {is : List E}, mmN km = m → (∃ u, mmI km = some u) → cE n cc o = some io → cEs n cc es = some is → PE X (.Call (.Attribute o m ap) es [] pos) (tE A C W (.mm km io is)) ∧ PE X (.Call (.Attribute o m ap) es [] pos) (tR A C W (.mm km io is)) := fun {km io is} e1 ⟨u, e2⟩ e3 e4 => by
        refine both (fun k e => nomatch e) ?_
        obtain ⟨k1, k2, k3, k4⟩ := ih.es cc es is e4 X B C k A W sm tk
        subst e1
        exact s_mm hu1 e2 c1 c3 k3 c2 (pv e3) k1 k2
      split at h
      · rename_i q hq
        obtain ⟨io, h1, h2⟩ := Option.bind_eq_some_iff.mp h
        obtain ⟨is, h3, rfl⟩ := Option.map_eq_some_iff.mp h2
        refine both (fun k e => nomatch e) ?_
        by_cases hh : C.hot = true
        · exact hot_calm hh fun ρ S => evE_meth
        · have hh : C.hot = false := by simpa using hh
          obtain ⟨k1, k2, k3, k4⟩ := ih.es cc es is h3 X B C k A W sm tk
          have hq1 := List.find?_some hq
          have hq2 := List.mem_of_find?_eq_some hq
          simp only [Bool.and_eq_true, decide_eq_true_eq, beq_iff_eq] at hq1
          have hF := k.disp hh A sm q hq2
          rw [hq1.1, hq1.2, k4] at hF
          exact s_meth (tk hh) hF (pv h1) k3 c2 c1 c3 k1
      · split at h
        · split at h
          · rename_i hb
            obtain ⟨io, h1, rfl⟩ := Option.map_eq_some_iff.mp h
            have hb := of_decide_eq_true hb
            subst hb
            exact both (fun k e => nomatch e) (s_bits c1 c3 (pr h1))
          · obtain ⟨km, h1, h2⟩ := Option.bind_eq_some_iff.mp h
            obtain ⟨io, h3, rfl⟩ := Option.map_eq_some_iff.mp h2
            obtain ⟨e1, e2⟩ := mmOf_of h1
            refine both (fun k e => nomatch e) ?_
            subst e1
            obtain ⟨u, e2⟩ := e2
            exact s_mm hu1 e2 c1 c3 (fun e he => by cases he) c2 (pv h3) a_nil r_nil
        · obtain ⟨km, h1, h2⟩ := Option.bind_eq_some_iff.mp h
          obtain ⟨io, h3, h4⟩ := Option.bind_eq_some_iff.mp h2
          obtain ⟨is, h5, rfl⟩ := Option.map_eq_some_iff.mp h4
          obtain ⟨e1, e2⟩ := mmOf_of h1
          exact hmm e1 e2 h3 h5
    · cases h
  · -- [.. for .. in ..]
    rename_i elt tg it ifs scope pos
    split at h
    · rename_i hc
      have hc := Bool.and_eq_true_iff.mp hc
      obtain ⟨iit, h1, h2⟩ := Option.bind_eq_some_iff.mp h
      obtain ⟨t, h3, h4⟩ := Option.bind_eq_some_iff.mp h2
      obtain ⟨iifs, h5, h6⟩ := Option.bind_eq_some_iff.mp h4
      obtain ⟨ielt, h7, rfl⟩ := Option.map_eq_some_iff.mp h6
      refine both (fun k e => nomatch e) ?_
      by_cases hh : C.hot = true
      · exact hot_calm hh fun ρ S => evE_comp
      · have hh : C.hot = false := by simpa using hh
        refine s_comp (k.calm hh) k.nd (ih.i cc _ it iit h1 X B C k A W sm tk true tg (fun h => h)) (blkOk_by (by rw [k.N, k.sc]; exact hc.1)) (fun s H Ca cl fp => ?_) (fun s H Ca cl fp => ?_) (fun s H Ca cl fp => ?_) ?_
        · have kb := k.blk hc.1 s H Ca cl fp
          exact (tg_sound n).1 (cc.blk scope) tg t h3 _ kb.N kb.nd kb.sc kb.fn (k.calm hh) A
        · have kb := k.blk hc.1 s H Ca cl fp
          refine xIf fun D o => ?_
          split at h5
          · cases h5
            exact if_nil
          · split at h5
            · rename_i hok
              obtain ⟨ic, h8, rfl⟩ := Option.map_eq_some_iff.mp h5
              exact if_one (ih.t (cc.blk scope) _ ic h8 hok _ B C kb (A.push D o) W0 (sm.push D o) fun _ => takes0)
            · cases h5
          · cases h5
        · have kb := k.blk hc.1 s H Ca cl fp
          exact xImp fun D o => peHeld (ih.e (cc.blk scope) elt ielt h7 _ B C kb (A.push D o) W0 (sm.push D o) fun _ => takes0)
        · intro x
          cases it <;> first | rfl | cases hc.2
    · cases h
  · cases h
end
end MP

set_option maxRecDepth 100000
set_option maxHeartbeats 4000000
/-! MiniPy: the compiler is sound, tests; all of it. -/
namespace MP
open PySem PySem.Spec L2
open PyProof.Rows hiding St
section
variable {X : Cx} {A B : Act} {C : Ev} {W : WX} {cc : Cc}
theorem wrapN {i i0 : E} (h : i = i0 ∨ (freshS i0 = true ∧ i = .cell i0)) (hf : freshS i0 = false) : i = i0 := by
  rcases h with h | ⟨h, _⟩
  · exact h
  · rw [hf] at h
    cases h
theorem w_sound {n : Nat} (ih : ∀ m, m ≤ n → Snd2 m) : ∀ cc op vs p i, cE (n + 1) cc (.BoolOp op vs p) = some i → okT (.BoolOp op vs p) = true → ∀ X B C, EOk B C cc X → ∀ A W, Same A B → (C.hot = false → Takes X W) → PW X (.BoolOp op vs p) (tT A C W i) := by
  intro cc op vs p i h hok X B C k A W sm tk
  obtain ⟨i0, h0, hw⟩ := wrap_of h
  cases n with
  | zero => rw [cE0.eq_def] at h0; cases h0
  | succ m =>
    have im := ih m (Nat.le_succ m)
    have pt : ∀ {e i}, cE m cc e = some i → okT e = true → PT X e (tT A C W i) := fun h1 h2 => im.s.t cc _ _ h1 h2 X B C k A W sm tk
    rw [cE0.eq_def] at h0
    dsimp only at h0
    cases op with
    | And =>
      match vs, h0, hok with
      | a :: b :: r, h0, hok =>
        dsimp only at h0
        obtain ⟨ia, h1, h2⟩ := Option.bind_eq_some_iff.mp h0
        obtain ⟨ib, h3, rfl⟩ := Option.map_eq_some_iff.mp h2
        obtain rfl := wrapN hw rfl
        have hok2 := Bool.and_eq_true_iff.mp (show (okT a && okT.okTs (b :: r)) = true from hok)
        refine s_andW (pt h1 hok2.1) ?_
        cases r with
        | nil => exact pw_and1 (pt h3 (Bool.and_eq_true_iff.mp (show (okT b && okT.okTs []) = true from hok2.2)).1)
        | cons c r => exact im.w cc .And (b :: c :: r) p ib h3 hok2.2 X B C k A W sm tk
      | [], h0, _ => cases h0
      | [_], h0, _ => cases h0
    | Or =>
      match vs, h0, hok with
      | a :: b :: r, h0, hok =>
        dsimp only at h0
        obtain ⟨ia, h1, h2⟩ := Option.bind_eq_some_iff.mp h0
        obtain ⟨ib, h3, rfl⟩ := Option.map_eq_some_iff.mp h2
        obtain rfl := wrapN hw rfl
        have hok2 := Bool.and_eq_true_iff.mp (show (okT a && okT.okTs (b :: r)) = true from hok)
        refine s_orW (pt h1 hok2.1) ?_
        cases r with
        | nil => exact pw_or1 (pt h3 (Bool.and_eq_true_iff.mp (show (okT b && okT.okTs []) = true from hok2.2)).1)
        | cons c r => exact im.w cc .Or (b :: c :: r) p ib h3 hok2.2 X B C k A W sm tk
      | [], h0, _ => cases h0
      | [_], h0, _ => cases h0
theorem t_sound {n : Nat} (ih : ∀ m, m ≤ n → Snd2 m) (hr : ∀ cc e i, cE (n + 1) cc e = some i → ∀ X B C, EOk B C cc X → ∀ A W, Same A B → (C.hot = false → Takes X W) → PE X e (tR A C W i)) :
    ∀ cc e i, cE (n + 1) cc e = some i → okT e = true → ∀ X B C, EOk B C cc X → ∀ A W, Same A B → (C.hot = false → Takes X W) → PT X e (tT A C W i) := by
  intro cc e i h hok X B C k A W sm tk
  have plain : plainT e = true → PT X e (tT A C W i) := fun hp => s_plainT hp (hr cc e i h X B C k A W sm tk)
  obtain ⟨i0, h0, hw⟩ := wrap_of h
  cases n with
  | zero => rw [cE0.eq_def] at h0; cases h0
  | succ m =>
    have im := ih m (Nat.le_succ m)
    have pv : ∀ {e i}, cE m cc e = some i → PE X e (tV A C W i) := fun h1 => peHeld (im.s.e cc _ _ h1 X B C k A W sm tk)
    have pr : ∀ {e i}, cE m cc e = some i → PE X e (tR A C W i) := fun h1 => im.s.r cc _ _ h1 X B C k A W sm tk
    cases e with
    | BoolOp op vs p => exact (w_sound ih cc op vs p i h hok X B C k A W sm tk).pt
    | UnaryOp op a p =>
      cases op with
      | Not =>
        rw [cE0.eq_def] at h0
        dsimp only at h0
        obtain ⟨ia, h1, rfl⟩ := Option.map_eq_some_iff.mp h0
        obtain rfl := wrapN hw rfl
        exact s_notT (im.s.t cc a ia h1 hok X B C k A W sm tk)
      | _ => exact plain rfl
    | IfExp _ _ _ _ => cases hok
    | Compare a ops bs p =>
      rw [cE0.eq_def] at h0
      dsimp only at h0
      match ops, bs, h0 with
      | [op], [b], h0 =>
        dsimp only at h0
        split at h0
        · cases h0
        · rename_i hb
          obtain ⟨ia, h1, h2⟩ := Option.bind_eq_some_iff.mp h0
          obtain ⟨ib, h3, rfl⟩ := Option.map_eq_some_iff.mp h2
          obtain rfl := wrapN hw rfl
          exact s_cmpT k.hu (pr h1) (pr h3) (by simpa using hb)
      | [op, oq], [b, c], h0 =>
        dsimp only at h0
        split at h0
        · cases h0
        · rename_i hb
          obtain ⟨ia, h1, h2⟩ := Option.bind_eq_some_iff.mp h0
          obtain ⟨ib, h3, h4⟩ := Option.bind_eq_some_iff.mp h2
          obtain ⟨ic, h5, rfl⟩ := Option.map_eq_some_iff.mp h4
          obtain rfl := wrapN hw rfl
          exact s_chainT k.hu (pv h1) (pv h3) (pv h5) (by simpa using hb)
      | [], _, h0 => simp at h0
      | [_], [], h0 => simp at h0
      | [_], _ :: _ :: _, h0 => simp at h0
      | [_, _], [], h0 => simp at h0
      | [_, _], [_], h0 => simp at h0
      | [_, _], _ :: _ :: _ :: _, h0 => simp at h0
      | _ :: _ :: _ :: _, _, h0 => simp at h0
    | _ => exact plain rfl
theorem snd_all : ∀ n, ∀ m, m ≤ n → Snd2 m
  | 0 => fun m hm => by
    obtain rfl : m = 0 := by omega
    refine ⟨⟨?_, ?_, ?_, ?_, ?_, ?_, ?_⟩, ?_, ?_⟩
    · intro cc e i h; rw [cE.eq_def] at h; cases h
    · intro cc e i h; rw [cE0.eq_def] at h; cases h
    · intro cc e i h; rw [cE.eq_def] at h; cases h
    · intro cc e i h; rw [cE.eq_def] at h; cases h
    · intro cc e i h; rw [cEs.eq_def] at h; cases h
    · intro cc e i h; rw [cO.eq_def] at h; cases h
    · intro cc b e i h; rw [cI.eq_def] at h; cases h
    · intro cc e i h; rw [cE0.eq_def] at h; cases h
    · intro cc op vs p i h; rw [cE.eq_def] at h; cases h
  | n + 1 => fun m hm => by
    have ih := snd_all n
    by_cases e : m ≤ n
    · exact ih m e
    · obtain rfl : m = n + 1 := by omega
      have i0 := ih n (Nat.le_refl n)
      have her := e0_sound i0.s
      have hre : ∀ cc e i, cE (n + 1) cc e = some i → ∀ X B C, EOk B C cc X → ∀ A W, Same A B → (C.hot = false → Takes X W) → PE X e (tE A C W i) ∧ PE X e (tR A C W i) := fun cc e i h X B C k A W sm tk => by
        obtain ⟨j, h1, h2⟩ := wrap_of h
        have q := i0.er cc e j h1 X B C k A W sm tk
        rcases h2 with rfl | ⟨hf, rfl⟩
        · exact q
        · exact both (fun k e => nomatch e) (s_cell (freshS_of hf) q.1)
      have hr : ∀ cc e i, cE (n + 1) cc e = some i → ∀ X B C, EOk B C cc X → ∀ A W, Same A B → (C.hot = false → Takes X W) → PE X e (tR A C W i) := fun cc e i h X B C k A W sm tk => (hre cc e i h X B C k A W sm tk).2
      exact ⟨⟨fun cc e i h X B C k A W sm tk => (hre cc e i h X B C k A W sm tk).1, fun cc e i h X B C k A W sm tk => (her cc e i h X B C k A W sm tk).1, hr, t_sound ih hr, es_sound i0.s, o_sound i0.s, i_sound i0.s⟩, her, w_sound ih⟩
theorem snd (n : Nat) : Snd n := (snd_all n n (Nat.le_refl n)).s
end
end MP

set_option maxRecDepth 100000
set_option maxHeartbeats 4000000
/-! MiniPy: the compiler, statements. -/
namespace MP
open PySem PySem.Spec L2
open PyProof.Rows hiding St
def notV (e : E) (l : List Nat) : List Nat := match e with
  | .var _ => []
  | _ => l
mutual
/-- names whose value is held -/
def heldE : E → List Nat
  | .var i => [i]
  | .bin _ a b => notV a (heldE a) ++ notV b (heldE b)
  | .neg a => heldE a
  | .cmp _ a b => notV a (heldE a) ++ notV b (heldE b)
  | .chain _ _ a b c => heldE a ++ heldE b ++ heldE c
  | .and a b => heldE a ++ heldE b
  | .or a b => heldE a ++ heldE b
  | .not a => notV a (heldE a)
  | .ite c a b => notV c (heldE c) ++ heldE a ++ heldE b
  | .tup es => heldEs es
  | .lst es => heldEs es
  | .dct _ ks vs => heldEs ks ++ heldEs vs
  | .idx a i => notV a (heldE a) ++ heldE i
  | .slc a lo hi => notV a (heldE a) ++ (match lo with | some e => heldE e | none => []) ++ (match hi with | some e => heldE e | none => [])
  | .srev a => notV a (heldE a)
  | .call _ es _ => heldEs es
  | .callv f es => heldE f ++ heldEs es
  | .new _ es _ => heldEs es
  | .meth o _ es _ _ => heldE o ++ heldEs es
  | .fld o _ => heldE o
  | .blt _ es => heldRs es
  | .mt _ o es => notV o (heldE o) ++ heldRs es
  | .mm m o es => heldE o ++ (if heldM m then heldEs es else heldRs es)
  | .comp elt _ _ it ifs => heldE elt ++ notV it (heldE it) ++ heldRs ifs
  | .cell e => heldE e
  | .unc e => heldE e
  | .rng es => heldEs es
  | .enm e => heldE e
  | .itm e => heldE e
  | .rev e => heldE e
  | _ => []
def heldEs : List E → List Nat
  | [] => []
  | e :: es => heldE e ++ heldEs es
def heldRs : List E → List Nat
  | [] => []
  | e :: es => notV e (heldE e) ++ heldRs es
end
def Cc.frz (cc : Cc) (l : List Nat) : S := .frz ((l.filter fun i => cc.own.contains i).eraseDups)
def Cc.isOwn (cc : Cc) (x : Str) : Option Nat := if okName x && visC cc.sc x then (cc.idx x).bind fun i => if cc.own.contains i then some i else none else none
def noTup : Expr → Bool
  | .Tuple _ _ _ => false
  | .List _ _ => false
  | _ => true
/-- a method that changes a name's own list or dict -/
def cOwn (n : Nat) (cc : Cc) (e : Expr) : Option (Nat × Mm × List E) := match e with
  | .Call (.Attribute (.Name x _) m ap) es [] p => (cc.isOwn x).bind fun i => if decide (es.length < 30) && (ap.endLine == p.line) then (mmOf m es.length).bind fun k => (cEs n cc es).map fun is => (i, k, is) else none
  | _ => none
def heldMs (m : Mm) (es : List E) : List Nat := if heldM m then heldEs es else heldRs es
def lcLine (cc : Cc) (x : Str) (py : Pos) (e : Expr) : Bool := match e with
  | .ListComp _ _ scope p => decide (cc.sc.names.lookup x = some .local) && (py.line == p.line) && !(scope.names.any fun (n, k) => n == x && (k == .local || k == .cell))
  | .SetComp _ _ _ _ => false
  | .DictComp _ _ _ _ _ => false
  | _ => true
mutual
def cS : Nat → Cc → Stmt → Option (List S)
  | 0, _, _ => none
  | n + 1, cc, st => match st with
    | .Pass _ => some [.pass]
    | .Break _ => some [.brk]
    | .Continue _ => some [.cnt]
    | .Expr e _ => (match cOwn n cc e with
      | some q => some [cc.frz (heldMs q.2.1 q.2.2), .own none q.1 q.2.1 q.2.2]
      | none => if noComp e then (cE n cc e).map fun i => [cc.frz (heldE i), .expr i] else none)
    | .Assign [.Name x py] e _ => (match cOwn n cc e with
      | some q => (cT n cc (.Name x py)).map fun t => [cc.frz (heldMs q.2.1 q.2.2), .own (some t) q.1 q.2.1 q.2.2]
      | none => if okName x then (match cT n cc (.Name x py) with
        | some (.v i) => if lcLine cc x py e then (cE n cc e).bind fun ie => (match e, ie with
          | .ListComp _ _ _ _, .cell _ => none
          | _, _ => some [cc.frz (heldE ie), .set i ie, .frz (if cc.own.contains i then [] else [i])]) else none
        | _ => none) else none)
    | .Assign [.Tuple ts k p] e _ => if noTup e && noComp e then (cT n cc (.Tuple ts k p)).bind fun t => (match cOwn n cc e with
      | some q => some [cc.frz (heldMs q.2.1 q.2.2), .own (some t) q.1 q.2.1 q.2.2]
      | none => (cE n cc e).map fun i => [cc.frz (heldE i), .asg t i]) else none
    | .Assign [.Attribute o f _] e _ => if noComp e && cc.flds.contains f then (cE n cc o).bind fun o => (cE n cc e).map fun i => [cc.frz (heldE o ++ heldE i), .fld o f i] else none
    | .Assign [.Subscript (.Name x vp) k _] e _ => if noComp e && noSlice k then (match cc.isOwn x with
      | some i => (cE n cc k).bind fun k => (cE n cc e).map fun e => [cc.frz (heldE k ++ heldE e), .osub i k e]
      | none => (cE n cc (.Name x vp)).bind fun o => (cE n cc k).bind fun k => (cE n cc e).map fun e => [cc.frz (heldE k ++ heldE e), .sub o k e]) else none
    | .Assign [.Subscript o k _] e _ => if noComp e && noSlice k then (cE n cc o).bind fun o => (cE n cc k).bind fun k => (cE n cc e).map fun e => [cc.frz (heldE o ++ heldE k ++ heldE e), .sub o k e] else none
    | .AugAssign (.Name x p) op e _ => if decide (op ≠ .Pow) then (match cT n cc (.Name x p) with
      | some (.v i) => (cE n cc e).map fun ie => [cc.frz (heldE ie), .aug i op ie]
      | _ => none) else none
    | .If c a b _ => if okT c then (cE n cc c).bind fun ic => (cB n cc a).bind fun a => (cB n cc b).map fun b => [cc.frz (notV ic (heldE ic)), .ite ic a b] else none
    | .While c b [] _ => if okT c then (cE n cc c).bind fun ic => (cB n cc b).map fun b => [cc.frz (notV ic (heldE ic)), .whl ic b] else none
    | .For tg it b [] _ => if notSet it then (cI n cc (isTup tg) it).bind fun iit => (cT n cc tg).bind fun t => (cB n cc b).map fun b => [cc.frz (heldE iit), .for t iit b] else none
    | .Return none _ => some [.retN]
    | .Return (some (.Name x _)) _ => if okName x then (if visC cc.sc x then (cc.idx x).map fun i => [.ret (.var i)] else if gloC cc.sc x then (cc.kon.lookup x).map fun d => [.ret (.const d)] else none) else none
    | .Return (some e) _ => (cE n cc e).bind fun i => (match i with
      | .var _ => none
      | i => some [cc.frz (heldE i), .ret i])
    | .Raise (some (.Call (.Name x _) [.Constant (.str _) _ _] [] _)) none _ => if okName x && gloC cc.sc x then (cc.exs.lookup x).map fun c => [.raise c] else none
    | .Try b [.ExceptHandler (some (.Name x _)) none (h0 :: h) _] [] [] _ => if okName x && gloC cc.sc x then (cc.exs.lookup x).bind fun c => (cB n cc b).bind fun b => (cB n cc (h0 :: h)).map fun h => [.tryx b c none h []] else none
    | _ => none
def cB : Nat → Cc → List Stmt → Option (List S)
  | 0, _, _ => none
  | n + 1, cc, ss => match ss with
    | [] => some []
    | s :: ss => (cS n cc s).bind fun a => (cB n cc ss).map fun b => a ++ b
end
end MP

set_option maxRecDepth 100000
set_option maxHeartbeats 4000000
/-! MiniPy: the compiler is sound, statements. -/
namespace MP
open PySem PySem.Spec L2
open PyProof.Rows hiding St
def bmV : List Value := [.type "ValueError", .type "Exception", .type "BaseException", .type "object"]
structure SOk (B : Act) (C : Ev) (cc : Cc) (X : Cx) : Prop where
  e : EOk B C cc X
  kind : X.env.scope.kind = .function
  stack : X.stack = X.env :: X.outer
  frame : X.env.frame = some X.env.locals
  pass : C.hot = false → PassesOwn (model X.prog X.w) X.A X.env X.xe
  exs : ∀ x c, cc.exs.lookup x = some c → X.mg x = some (.ref (B.xa c)) ∧ PySem.W.excIn X.K (B.xa c) bmV "ValueError.__new__" = true ∧ PySem.W.keepIn X.K (.ref (B.xa c)) = true ∧
    PySem.W.subIn X.K (.ref (B.xa c)) (.type "BaseException") = some true ∧ PySem.W.typeIn X.K (.ref (B.xa c)) = some (.type "type")
  exm : ∀ x c, cc.exs.lookup x = some c → ∀ k, k < C.tb.excs.length → PySem.W.exmOne X.K (.ref (B.xa k)) (.ref (B.xa c)) = some (under C.tb k c)
section
variable {X : Cx} {A B : Act} {C : Ev} {W : WX} {cc : Cc}
theorem SOk.tr (k : SOk B C cc X) {pn : List (Addr × Obj)} {xe : Value → Shared → Prop} (hp : PassesOwn (model X.prog X.w) X.A X.env xe) : SOk B C cc (X.tr pn xe) := by
  refine ⟨⟨k.e.N, k.e.nd, k.e.sc, k.e.fn, k.e.hu, k.e.gd, k.e.kon, k.e.fns, k.e.cls, k.e.ini, k.e.blt, k.e.flds, fun h A sm f n dd hs => ?_, fun h A sm q hq => ?_, k.e.calm⟩, k.kind, k.stack, k.frame, fun _ => hp, k.exs, k.exm⟩
  · obtain ⟨⟨q1, fd, ps, dvs, ds, h1, h2, h3⟩, kp, gd⟩ := k.e.call h A sm f n dd hs
    exact ⟨⟨q1, fd, ps, dvs, ds, h1, h2, h3⟩, kp, k.e.gd⟩
  · obtain ⟨h1, h2⟩ := k.e.disp h A sm q hq
    refine ⟨h1, fun c kk f e1 e2 => ?_⟩
    obtain ⟨a1, ⟨q1, fd, ps, dvs, ds, g1, g2, g3⟩, kp, gd⟩ := h2 c kk f e1 e2
    exact ⟨a1, ⟨q1, fd, ps, dvs, ds, g1, g2, g3⟩, kp, k.e.gd⟩
theorem SOk.suite (k : SOk B C cc X) {a : Addr} {pn : List (Addr × Obj)} : SOk B { C with hot := true } cc (X.suite a pn) := by
  refine ⟨⟨k.e.N, k.e.nd, k.e.sc, k.e.fn, k.e.hu, k.e.gd, k.e.kon, k.e.fns, k.e.cls, k.e.ini, k.e.blt, k.e.flds, fun h => by (cases h), fun h => by (cases h), fun h => by (cases h)⟩, k.kind, k.stack, k.frame, fun h => by (cases h), k.exs, k.exm⟩
theorem st_hot {st : Stmt} {s : MP.S} (h : ∀ ρ S, exS C s ρ S = .stuck) : PS X st (tS A C W s) := ⟨fun _ _ σ H D _ ⟨Z, ρ, S, g, p⟩ => by
  rw [h] at p
  exact p.elim⟩
theorem cT_name {n : Nat} {x : Str} {p : Pos} {t : Tgt} (h : cT n cc (.Name x p) = some t) (k : EOk B C cc X) : ∃ i, t = .v i ∧ X.N[i]? = some x ∧ Loc X.env.scope x ∧ (X.fn x = true ∨ X.env.scope.names.lookup x = some .local) := by
  cases n with
  | zero => rw [cT.eq_def] at h; cases h
  | succ n =>
    rw [cT.eq_def] at h
    dsimp only at h
    split at h
    · rename_i hx
      obtain ⟨i, hi, rfl⟩ := Option.map_eq_some_iff.mp h
      have hat := idx_at hi
      rw [← k.N] at hat
      rw [← k.sc] at hx
      simp only [Bool.or_eq_true, Bool.and_eq_true, decide_eq_true_eq] at hx
      rcases hx with hx | ⟨hx, hf⟩
      · exact ⟨i, rfl, hat, .inl hx, .inr hx⟩
      · exact ⟨i, rfl, hat, .inr hx, .inl (k.fn x hf)⟩
    · cases h
theorem isOwn_of {x : Str} {i : Nat} (h : cc.isOwn x = some i) (k : EOk B C cc X) : X.N[i]? = some x ∧ Vis X.env.scope x ∧ (x == ("__debug__" : Str)) = false ∧ (x == ("__classdict__" : Str)) = false := by
  unfold Cc.isOwn at h
  split at h
  · rename_i hc
    have hc := Bool.and_eq_true_iff.mp hc
    obtain ⟨n1, n2, n3⟩ := okName_of hc.1
    obtain ⟨j, h1, h2⟩ := Option.bind_eq_some_iff.mp h
    split at h2
    · cases h2
      have hat := idx_at h1
      rw [← k.N] at hat
      have hv := vis_of hc.2
      rw [← k.sc] at hv
      exact ⟨hat, hv, n1, n2⟩
    · cases h2
  · cases h
theorem own_sound {n : Nat} {e : Expr} {q : Nat × Mm × List E} (h : cOwn n cc e = some q) (k : EOk B C cc X) (sm : Same A B) (tk : C.hot = false → Takes X W) : PE X e (tOwn A C W q.1 q.2.1 q.2.2) ∧ noComp e = true := by
  unfold cOwn at h
  split at h
  · rename_i x xp m ap es p
    obtain ⟨i, h1, h2⟩ := Option.bind_eq_some_iff.mp h
    obtain ⟨a1, a2, a3, a4⟩ := isOwn_of h1 k
    split at h2
    · rename_i hc
      have hc := Bool.and_eq_true_iff.mp hc
      obtain ⟨km, h3, h4⟩ := Option.bind_eq_some_iff.mp h2
      obtain ⟨is, h5, rfl⟩ := Option.map_eq_some_iff.mp h4
      obtain ⟨k1, k2, k3, k4⟩ := (snd n).es cc es is h5 X B C k A W sm tk
      obtain ⟨e1, u, e2⟩ := mmOf_of h3
      subst e1
      have hu1 : X.A.units + 1 < cLine := by have := k.hu; omega
      exact ⟨s_own hu1 e2 a1 a2 a3 a4 hc.2 k3 (of_decide_eq_true hc.1) k1 k2, rfl⟩
    · cases h2
  · cases h
theorem noTup_sw {tg e : Expr} {env : Env} (h : noTup e = true) : swappedStores [tg] e env = pure none := by
  unfold swappedStores
  cases tg <;> cases e <;> first | rfl | cases h
theorem name_sw {x : Str} {p : Pos} {e : Expr} {env : Env} : swappedStores [.Name x p] e env = pure none := by
  unfold swappedStores
  cases e <;> rfl
/-- a comprehension, given to a name -/
theorem lc_sound {n : Nat} {elt : Expr} {gs : List Comprehension} {scope : Scope} {p py spos : Pos} {x : Str} {i : Nat} {ie : E} (h : cE n cc (.ListComp elt gs scope p) = some ie) (hne : ∀ e, ie ≠ .cell e) (k : EOk B C cc X) (hk : X.env.scope.kind = .function) (sm : Same A B) (tk : C.hot = false → Takes X W)
    (hi : X.N[i]? = some x) (hl : lcLine cc x py (.ListComp elt gs scope p) = true) : PS X (.Assign [.Name x py] (.ListComp elt gs scope p) spos) (tS A C W (.set i ie)) := by
  cases n with
  | zero => rw [cE.eq_def] at h; cases h
  | succ n =>
    obtain ⟨i0, h0, hw⟩ := wrap_of h
    rcases hw with rfl | ⟨_, rfl⟩
    · cases n with
      | zero => rw [cE0.eq_def] at h0; cases h0
      | succ n =>
        have ih := snd n
        rw [cE0.eq_def] at h0
        dsimp only at h0
        split at h0
        all_goals first
          | (cases h0; done)
          | (rename_i heq; cases heq; done)
          | skip
        rename_i elt2 tg it ifs scope2 pos2 heq
        cases heq
        split at h0
        · rename_i hc
          have hc := Bool.and_eq_true_iff.mp hc
          obtain ⟨iit, h1, h2⟩ := Option.bind_eq_some_iff.mp h0
          obtain ⟨t, h3, h4⟩ := Option.bind_eq_some_iff.mp h2
          obtain ⟨iifs, h5, h6⟩ := Option.bind_eq_some_iff.mp h4
          obtain ⟨ielt, h7, rfl⟩ := Option.map_eq_some_iff.mp h6
          by_cases hh : C.hot = true
          · refine st_hot fun ρ S => ?_
            rw [exS, evE_comp]
            unfold calmly
            rw [if_pos hh]
            rfl
          have hh : C.hot = false := by simpa using hh
          unfold lcLine at hl
          simp only [Bool.and_eq_true, decide_eq_true_eq, Bool.not_eq_true'] at hl
          obtain ⟨⟨l1, l2⟩, l3⟩ := hl
          rw [← k.sc] at l1
          refine psImp (ps_setLc (i := i) (own := ownOf cc scope) (wi := tI true A C W iit) (g := gT A t) (tt := tIfX A C iifs) (te := tVX A C ielt) (k.calm hh) k.nd hi l1 (sw_true hk l1 l2 l3) (ih.i cc _ it iit h1 X B C k A W sm tk true tg (fun h => h)) (blkOk_by (by rw [k.N, k.sc]; exact hc.1)) (fun s H Ca cl fp => ?_) (fun s H Ca cl fp => ?_) (fun s H Ca cl fp => ?_) ?_) fun D σ H ⟨Z, ρ, S, g, p⟩ => ?_
          · have kb := k.blk hc.1 s H Ca cl fp
            exact (tg_sound n).1 (cc.blk scope) tg t h3 _ kb.N kb.nd kb.sc kb.fn (k.calm hh) A
          · have kb := k.blk hc.1 s H Ca cl fp
            refine xIf fun D o => ?_
            split at h5
            · cases h5
              exact if_nil
            · split at h5
              · rename_i hok
                obtain ⟨ic, h8, rfl⟩ := Option.map_eq_some_iff.mp h5
                exact if_one (ih.t (cc.blk scope) _ ic h8 hok _ B C kb (A.push D o) W0 (sm.push D o) fun _ => takes0)
              · cases h5
            · cases h5
          · have kb := k.blk hc.1 s H Ca cl fp
            exact xImp fun D o => peHeld (ih.e (cc.blk scope) elt ielt h7 _ B C kb (A.push D o) W0 (sm.push D o) fun _ => takes0)
          · intro x
            cases it <;> first | rfl | cases hc.2
          · rw [exS] at p
            exact lcT ⟨Z, ρ, S, g, p.to.imp fun Z' S' H' d z g' k v r => k Z' _ H' .refl (g'.setNew r)⟩
        · cases h0
    · exact absurd rfl (hne _)
/-- what is to be shown for the fuel n -/
structure Sst (n : Nat) : Prop where
  s : ∀ cc st is, cS n cc st = some is → ∀ X B C, SOk B C cc X → ∀ A W, Same A B → (C.hot = false → Takes X W) → ∀ rest js, PSs X rest (tB A C W js) → PSs X (st :: rest) (tB A C W (is ++ js))
  b : ∀ cc ss is, cB n cc ss = some is → ∀ X B C, SOk B C cc X → ∀ A W, Same A B → (C.hot = false → Takes X W) → PSs X ss (tB A C W is)
theorem b_append {ss : List Stmt} {a b : List MP.S} : a ++ b = a ++ b := rfl
theorem s_sound {n : Nat} (ih : Sst n) : ∀ cc st is, cS (n + 1) cc st = some is → ∀ X B C, SOk B C cc X → ∀ A W, Same A B → (C.hot = false → Takes X W) → ∀ rest js, PSs X rest (tB A C W js) → PSs X (st :: rest) (tB A C W (is ++ js)) := by
  intro cc st is h X B C k A W sm tk rest js hr
  have ke := k.e
  have hu1 : X.A.units + 1 < cLine := by have := ke.hu; omega
  have pe : ∀ {e i}, cE n cc e = some i → PE X e (tE A C W i) := fun h1 => (snd n).e cc _ _ h1 X B C ke A W sm tk
  have pv : ∀ {e i}, cE n cc e = some i → PE X e (tV A C W i) := fun h1 => peHeld (pe h1)
  have pt : ∀ {e i}, cE n cc e = some i → okT e = true → PT X e (tT A C W i) := fun h1 h2 => (snd n).t cc _ _ h1 h2 X B C ke A W sm tk
  have two : ∀ {st f s}, PS X st (tS A C W s) → PSs X (st :: rest) (tB A C W ([.frz f, s] ++ js)) := fun h1 => b_frz (b_cons h1 hr)
  have twoC : ∀ {st l s}, PS X st (tS A C W s) → PSs X (st :: rest) (tB A C W ([cc.frz l, s] ++ js)) := fun h1 => b_frz (b_cons h1 hr)
  rw [cS.eq_def] at h
  dsimp only at h
  split at h
  · cases h
    exact b_cons st_pass hr
  · cases h
    exact b_cons st_brk hr
  · cases h
    exact b_cons st_cnt hr
  · -- e
    split at h
    · rename_i q hq
      cases h
      obtain ⟨h1, h2⟩ := own_sound hq ke sm tk
      exact twoC (st_ownE h2 h1)
    · split at h
      · rename_i hn
        obtain ⟨i, h1, rfl⟩ := Option.map_eq_some_iff.mp h
        exact twoC (st_expr hn (pv h1))
      · cases h
  · -- x = e
    rename_i x py e pos
    split at h
    · rename_i q hq
      obtain ⟨t, h3, rfl⟩ := Option.map_eq_some_iff.mp h
      obtain ⟨h1, h2⟩ := own_sound hq ke sm tk
      obtain ⟨i, rfl, a1, a2, a3⟩ := cT_name h3 ke
      exact twoC (st_ownA rfl h2 name_sw h1 (g_name ke.nd a1 a2 a3))
    · split at h
      · rename_i hn
        split at h
        · rename_i i hi
          obtain ⟨j, e1, a1, a2, a3⟩ := cT_name hi ke
          cases e1
          split at h
          · rename_i hl
            obtain ⟨ie, h1, h2⟩ := Option.bind_eq_some_iff.mp h
            have fin : ∀ {l1 l2}, PS X (.Assign [.Name x py] e pos) (tS A C W (.set i ie)) → PSs X (.Assign [.Name x py] e pos :: rest) (tB A C W ([cc.frz l1, .set i ie, .frz l2] ++ js)) := fun h3 => b_frz (b_cons h3 (b_frz hr))
            split at h2
            · cases h2
            · rename_i hne
              cases h2
              refine fin ?_
              by_cases hc : noComp e = true
              · exact st_set ke.nd a1 a2 a3 hc (pe h1)
              · cases e <;> first
                  | (exact absurd rfl hc)
                  | (cases hl; done)
                  | skip
                exact lc_sound h1 (fun c hcc => hne _ _ _ _ c rfl hcc) ke k.kind sm tk a1 hl
          · cases h
        · cases h
      · cases h
  · -- (x, y) = e
    rename_i ts kk p e pos
    split at h
    · rename_i hn
      have hn := Bool.and_eq_true_iff.mp hn
      obtain ⟨t, h3, h4⟩ := Option.bind_eq_some_iff.mp h
      by_cases hh : C.hot = true
      · split at h4
        · cases h4
          exact twoC (st_hot fun ρ S => by rw [exS, if_pos hh])
        · obtain ⟨i, h5, rfl⟩ := Option.map_eq_some_iff.mp h4
          exact twoC (st_hot fun ρ S => by rw [exS, if_pos hh])
      · have hh : C.hot = false := by simpa using hh
        have hg := (tg_sound n).1 cc _ t h3 X ke.N ke.nd ke.sc ke.fn (ke.calm hh) A
        split at h4
        · rename_i q hq
          cases h4
          obtain ⟨h1, h2⟩ := own_sound hq ke sm tk
          exact twoC (st_ownA rfl h2 (noTup_sw hn.1) h1 hg)
        · obtain ⟨i, h5, rfl⟩ := Option.map_eq_some_iff.mp h4
          exact twoC (st_asg rfl hn.2 (noTup_sw hn.1) (pv h5) hg)
    · cases h
  · -- o.f = e
    split at h
    · rename_i hn
      have hn := Bool.and_eq_true_iff.mp hn
      obtain ⟨io, h1, h2⟩ := Option.bind_eq_some_iff.mp h
      obtain ⟨ie, h3, rfl⟩ := Option.map_eq_some_iff.mp h2
      refine twoC (st_fld hn.1 (fun c kk e1 e2 => ?_) (pv h1) (pv h3))
      have := ke.flds _ hn.2 c kk e1 e2
      rw [sm.ca]
      exact this
    · cases h
  · -- x[k] = e
    rename_i x vp ks e sp pos
    split at h
    · rename_i hn
      have hn := Bool.and_eq_true_iff.mp hn
      split at h
      · rename_i i hi
        obtain ⟨ik, h1, h2⟩ := Option.bind_eq_some_iff.mp h
        obtain ⟨ie, h3, rfl⟩ := Option.map_eq_some_iff.mp h2
        obtain ⟨a1, a2, a3, a4⟩ := isOwn_of hi ke
        exact twoC (st_osub hu1 a1 a2 a3 a4 hn.1 hn.2 (pv h1) (pv h3))
      · obtain ⟨io, h0, h1'⟩ := Option.bind_eq_some_iff.mp h
        obtain ⟨ik, h1, h2⟩ := Option.bind_eq_some_iff.mp h1'
        obtain ⟨ie, h3, rfl⟩ := Option.map_eq_some_iff.mp h2
        exact twoC (st_sub hu1 hn.1 hn.2 (pv h0) (pv h1) (pv h3))
    · cases h
  · split at h
    · rename_i hn
      have hn := Bool.and_eq_true_iff.mp hn
      obtain ⟨io, h0, h1'⟩ := Option.bind_eq_some_iff.mp h
      obtain ⟨ik, h1, h2⟩ := Option.bind_eq_some_iff.mp h1'
      obtain ⟨ie, h3, rfl⟩ := Option.map_eq_some_iff.mp h2
      exact twoC (st_sub hu1 hn.1 hn.2 (pv h0) (pv h1) (pv h3))
    · cases h
  · -- x op= e
    split at h
    · rename_i hop
      split at h
      · rename_i i hi
        obtain ⟨j, e1, a1, a2, a3⟩ := cT_name hi ke
        cases e1
        obtain ⟨ie, h3, rfl⟩ := Option.map_eq_some_iff.mp h
        exact twoC (st_aug (of_decide_eq_true hop) ke.nd a1 a2 a3 (pv h3))
      · cases h
    · cases h
  · -- if
    split at h
    · rename_i hok
      obtain ⟨ic, h1, h2⟩ := Option.bind_eq_some_iff.mp h
      obtain ⟨ia, h3, h4⟩ := Option.bind_eq_some_iff.mp h2
      obtain ⟨ib, h5, rfl⟩ := Option.map_eq_some_iff.mp h4
      exact twoC (st_ite (pt h1 hok) (ih.b cc _ _ h3 X B C k A W sm tk) (ih.b cc _ _ h5 X B C k A W sm tk))
    · cases h
  · -- while
    split at h
    · rename_i hok
      obtain ⟨ic, h1, h2⟩ := Option.bind_eq_some_iff.mp h
      obtain ⟨ib, h5, rfl⟩ := Option.map_eq_some_iff.mp h2
      by_cases hh : C.hot = true
      · exact twoC (st_hot fun ρ S => by rw [exS, if_pos hh])
      · have hh : C.hot = false := by simpa using hh
        exact twoC (st_whl (k.pass hh) (pt h1 hok) (ih.b cc _ _ h5 X B C k A W sm tk))
    · cases h
  · -- for
    rename_i tg it b pos
    split at h
    · rename_i hns
      obtain ⟨iit, h1, h2⟩ := Option.bind_eq_some_iff.mp h
      obtain ⟨t, h3, h4⟩ := Option.bind_eq_some_iff.mp h2
      obtain ⟨ib, h5, rfl⟩ := Option.map_eq_some_iff.mp h4
      by_cases hh : C.hot = true
      · exact twoC (st_hot fun ρ S => by rw [exS, if_pos hh])
      · have hh : C.hot = false := by simpa using hh
        refine twoC (st_for (k.pass hh) (ke.calm hh) ((snd n).i cc _ it iit h1 X B C ke A W sm tk false tg (fun h => h)) ((tg_sound n).1 cc _ t h3 X ke.N ke.nd ke.sc ke.fn (ke.calm hh) A) (ih.b cc _ _ h5 X B C k A W sm tk) fun x => ?_)
        cases it <;> first | rfl | cases hns
    · cases h
  · cases h
    exact b_cons st_retN hr
  · -- return x
    rename_i x xp pos
    split at h
    · rename_i hn
      obtain ⟨n1, n2, n3⟩ := okName_of hn
      split at h
      · rename_i hv
        obtain ⟨i, hi, rfl⟩ := Option.map_eq_some_iff.mp h
        have hat := idx_at hi
        rw [← ke.N] at hat
        have hv := vis_of hv
        rw [← ke.sc] at hv
        exact b_cons (st_retV hat hv n1 n2) hr
      · split at h
        · rename_i hg
          obtain ⟨d, hd, rfl⟩ := Option.map_eq_some_iff.mp h
          obtain ⟨v, u, h1, h2, h3⟩ := ke.kon x d hd
          refine b_cons (st_ret (fun k e => nomatch e) (peImp (pe_glob (pos := xp) (ke.glob hg) h2 h3 n1) fun σ H Q ⟨Z, ρ, S, g, p⟩ => ?_)) hr
          rw [evE_const] at p
          exact p.ok g _ (.of (konst_rel h1) (by simp [isFresh]))
        · cases h
    · cases h
  · -- return e
    obtain ⟨i, h1, h2⟩ := Option.bind_eq_some_iff.mp h
    split at h2
    · cases h2
    · rename_i hne
      cases h2
      exact twoC (st_ret (fun k hk => hne k hk) (pe h1))
  · -- raise
    rename_i x xp m j mp rp pos
    split at h
    · rename_i hc
      have hc := Bool.and_eq_true_iff.mp hc
      obtain ⟨n1, n2, n3⟩ := okName_of hc.1
      obtain ⟨c, h1, rfl⟩ := Option.map_eq_some_iff.mp h
      by_cases hh : C.hot = true
      · exact b_cons (st_hot fun ρ S => by rw [exS, if_pos hh]) hr
      · have hh : C.hot = false := by simpa using hh
        obtain ⟨e1, e2, e3, e4, e5⟩ := k.exs x c h1
        rw [← sm.xa] at e1 e2 e3 e4 e5
        exact b_cons (st_raise (ke.calm hh) (tk hh) (pmk_own PySem.F.excBase_ValueError e2 e1 e3 (raises_own e4 e5) (ke.glob hc.2) n1)) hr
    · cases h
  · -- try
    rename_i b x xp h0 hs hp pos
    split at h
    · rename_i hc
      have hc := Bool.and_eq_true_iff.mp hc
      obtain ⟨n1, n2, n3⟩ := okName_of hc.1
      obtain ⟨c, h1, h2⟩ := Option.bind_eq_some_iff.mp h
      obtain ⟨ib, h3, h4⟩ := Option.bind_eq_some_iff.mp h2
      obtain ⟨ihh, h5, rfl⟩ := Option.map_eq_some_iff.mp h4
      by_cases hh : C.hot = true
      · exact b_cons (st_hot fun ρ S => by rw [exS, if_pos hh]) hr
      · have hh : C.hot = false := by simpa using hh
        obtain ⟨e1, e2, e3, e4, e5⟩ := k.exs x c h1
        have em := k.exm x c h1
        rw [← sm.xa] at e1 em
        exact b_cons (st_try k.stack k.frame ⟨ke.glob hc.2, n1, .inl e1⟩ (tk hh) em (fun W' pn xe tk' hp' => ih.b cc _ _ h3 _ B C (k.tr hp') A W' sm fun _ => tk') fun a pn => ih.b cc _ _ h5 _ B { C with hot := true } k.suite A W sm fun h => by cases h) hr
    · cases h
  · cases h
theorem sst : ∀ n, Sst n
  | 0 => ⟨fun cc st is h => by (rw [cS.eq_def] at h; cases h), fun cc ss is h => by (rw [cB.eq_def] at h; cases h)⟩
  | n + 1 => by
    have ih := sst n
    refine ⟨s_sound ih, fun cc ss is h X B C k A W sm tk => ?_⟩
    rw [cB.eq_def] at h
    dsimp only at h
    split at h
    · cases h
      exact b_nil
    · obtain ⟨a, h1, h2⟩ := Option.bind_eq_some_iff.mp h
      obtain ⟨b, h3, rfl⟩ := Option.map_eq_some_iff.mp h2
      exact ih.s cc _ a h1 X B C k A W sm tk _ b (ih.b cc _ b h3 X B C k A W sm tk)
end
end MP

set_option maxRecDepth 100000
set_option maxHeartbeats 4000000
/-! MiniPy: a table of defs keeps what the interpreter says. -/
namespace MP
open PySem PySem.Spec L2
open PyProof.Rows hiding St
structure Dfn where
  x : Str
  qual : Str
  params : Arguments
  body : List Stmt
  scope : Scope
  dvs : List V
  ps : List Str
  N : List Str
  own : List Nat
  cels : List (Nat × Nat)
  dts : List (Nat × Nat)
  fr : Bool
def ccOf (cc : Cc) (d : Dfn) : Cc := { cc with N := d.N, sc := d.scope, fn := fun _ => true, own := d.own, cels := d.cels, dts := d.dts }
section
variable {A B : Act} {Z Z' Z1 : Zw} {ρ ρ' : Frame} {S S' : Sto} {σ σ' : St} {H H' : Hp}
theorem Step.fast {ca : Nat → Addr} (s : Step ca Z Z' S' H H') {p : Addr} {o : HO} (hp : H p = none) (hH : H' p = some o) (nf : Z'.F p = none) (nm : p ∉ Z'.m) : Step ca Z (Z'.fast p o) S' H H' := by
  have k : Zle Z' (Z'.fast p o) := Zw.fast_le nf
  refine ⟨s.k.trans k, s.keep, fun q u h => ?_, fun q u h hu => ?_, fun q u h => let ⟨w, h1, h2⟩ := s.lz q u h; ⟨w, k.F _ _ h1, h2⟩, s.cl.fast nf nm, fun q u h1 h2 => ?_, s.nM⟩
  · have h' : upd Z'.F p o q = some u := h
    by_cases e : q = p
    · subst e
      rw [upd_same] at h'
      cases h'
      exact .inl hH
    · rw [upd_ne e] at h'
      exact s.fz q u h'
  · have h' : upd Z'.F p o q = some u := h
    by_cases e : q = p
    · subst e
      rw [upd_same] at h'
      cases h'
      exact hH
    · rw [upd_ne e] at h'
      exact s.tx q u h' hu
  · have h' : upd Z'.F p o q = some u := h1
    by_cases e : q = p
    · rw [e]
      exact hp
    · rw [upd_ne e] at h'
      exact s.nF q u h' h2
/-- the frame at a def's entry -/
def Act.at (B : Act) (Z : Zw) (H : Hp) : Act := { B with H0 := H, m0 := Z.m, F0 := Z.F }
theorem Same.at {B : Act} {Z : Zw} {H : Hp} : Same (B.at Z H) B := ⟨rfl, rfl, rfl, rfl⟩
theorem entry {N : List Str} {ds : List D} {vs : List V} {np : Nat} (a : Ahead B Z S H) (rs : RelDs Z ds vs) (hn : ds.length = np) : Gd (B.at Z H) Z (ds.map .val ++ List.replicate (N.length - np) .no) S (L2.start N vs) H := by
  have hl := rs.length
  have slot : ∀ (i : Nat) (s : MP.Slot) (v : Option V), (ds.map MP.Slot.val ++ List.replicate (N.length - np) MP.Slot.no)[i]? = some s → (L2.start N vs)[i]? = some v → (s = .no ∨ ∃ d x, s = .val d ∧ v = some x ∧ RelD Z d x) := fun i s v h1 h2 => by
    by_cases hi : i < ds.length
    · rw [List.getElem?_append_left (by simpa using hi), List.getElem?_map] at h1
      unfold L2.start at h2
      rw [List.getElem?_append_left (by simp; omega), List.getElem?_map] at h2
      obtain ⟨d, hd, rfl⟩ := Option.map_eq_some_iff.mp h1
      obtain ⟨x, hx, rfl⟩ := Option.map_eq_some_iff.mp h2
      obtain ⟨y, hy, r⟩ := rs.get hd
      rw [hx] at hy
      cases hy
      exact .inr ⟨d, x, rfl, rfl, r⟩
    · rw [List.getElem?_append_right (by simpa using hi), List.getElem?_replicate] at h1
      split at h1
      · cases h1
        exact .inl rfl
      · cases h1
  have noOwn : ∀ i p, ¬ OwnAt (ds.map MP.Slot.val ++ List.replicate (N.length - np) MP.Slot.no) (L2.start N vs) i p := fun i p ⟨⟨d, h1⟩, h2⟩ => by
    rcases slot i _ _ h1 h2 with h | ⟨d', x, h, _⟩ <;> cases h
  refine ⟨a.kk, a.ff, a.fz, a.tx, a.lz, a.cl, ?_, fun i s v h1 h2 => ?_, fun i j p h => (noOwn i p h).elim, fun i p h => (noOwn i p h).elim, fun p o h _ _ => h, fun p o h1 h2 => ?_, ⟨[], by simp [Act.at], fun p hp => by cases hp⟩, fun p o h => h⟩
  · unfold L2.start
    simp
    omega
  · rcases slot i s v h1 h2 with rfl | ⟨d, x, rfl, rfl, r⟩
    · trivial
    · exact ⟨x, rfl, r⟩
  · have h2' : Z.F p = none := h2
    rw [h2'] at h1
    cases h1
theorem exitS (g : Gd (B.at Z H) Z' ρ' S' σ' H') (z : Zle Z Z') : Step B.ca Z Z' S' H H' := ⟨z, fun p o h1 h2 h3 => g.ent p o h1 h2 h3, g.fz, g.tx, g.lz, g.cl, fun p o h1 h2 => g.nf p o h1 h2, g.nm⟩
end
/-- what is known of the program's written part -/
structure Facts (P : Program) (w : World) (K : PySem.W.Frag) (mg : Str → Option Value) (base : Heap) (B : Act) (T : Tb) (cc : Cc) (defs : List Dfn) (fuel : Nat) : Prop where
  kk : B.K = K
  fd : ∀ (i : Nat) (d : Dfn), defs[i]? = some d → ∃ fd, FunD K d.x d.qual d.params d.body d.scope d.dvs [] (B.fa i) fd ∧ ∀ n dd, cc.sig i n = some dd → ∃ dvs ds, L2.Binds K fd d.ps ds ∧ Vals dvs ds ∧ konsts dd = some dvs ∧ d.ps.length = n + dd.length
  sig : ∀ (i n : Nat) dd, cc.sig i n = some dd → ∃ d : Dfn, defs[i]? = some d
  sco : ∀ (i : Nat) (d : Dfn), defs[i]? = some d → FnScope d.N d.ps d.scope
  tab : ∀ (i : Nat) (d : Dfn), defs[i]? = some d → ∃ ir, cB fuel (ccOf cc d) d.body = some ir ∧ T.fns[i]? = some ⟨d.ps.length, d.N, ir, d.fr⟩
  kon : ∀ x d, cc.kon.lookup x = some d → ∃ v u, konst d = some v ∧ mg x = some u ∧ RelV v u
  fns : ∀ x f, cc.fns.lookup x = some f → mg x = some (.ref (B.fa f))
  cls : ∀ x c, cc.cls.lookup x = some c → mg x = some (.ref (B.ca c))
  ini : ∀ (c f : Nat), cc.ini c = some f → ∃ k : ClsI, T.clss[c]? = some k ∧ k.meths.lookup ("__init__" : Str) = some f ∧ Mk K (B.ca c) (B.fa f)
  blt : ∀ x, x ∈ bltNames → mg x = none
  flds : ∀ f, cc.flds.contains f = true → ∀ (c : Nat) (k : ClsI), T.clss[c]? = some k → k.flds.contains f = true → Cls K (B.ca c) ∧ NoAttr K (B.ca c) f
  mds : ∀ q, q ∈ cc.mds → (∀ (c : Nat) (k : ClsI), T.clss[c]? = some k → Cls K (B.ca c)) ∧ ∀ (c : Nat) (k : ClsI) (f : Nat), T.clss[c]? = some k → k.meths.lookup q.1 = some f → Meth K (B.ca c) q.1 (B.fa f) ∧ cc.sig f (q.2.1 + 1) = some q.2.2.1
  exs : ∀ x c, cc.exs.lookup x = some c → mg x = some (.ref (B.xa c)) ∧ PySem.W.excIn K (B.xa c) bmV "ValueError.__new__" = true ∧ PySem.W.keepIn K (.ref (B.xa c)) = true ∧
    PySem.W.subIn K (.ref (B.xa c)) (.type "BaseException") = some true ∧ PySem.W.typeIn K (.ref (B.xa c)) = some (.type "type")
  exm : ∀ x c, cc.exs.lookup x = some c → ∀ k, k < T.excs.length → PySem.W.exmOne K (.ref (B.xa k)) (.ref (B.xa c)) = some (under T k c)
section
variable {P : Program} {w : World} {K : PySem.W.Frag} {mg : Str → Option Value} {base : Heap} {A B : Act} {T : Tb} {cc : Cc} {defs : List Dfn} {fuel : Nat}
theorem dSp_same (sm : Same A B) {fr : Bool} {call : List D → Sto → Res D} {vs : List V} {H : Hp} {Q : VK} {E : XK} (h : dSp A fr call vs H Q E) : dSp B fr call vs H Q E := by
  obtain ⟨Z, ds, S, a, rs, k⟩ := h
  refine ⟨Z, ds, S, ⟨a.kk.trans sm.K, a.ff.trans sm.fa, a.fz, a.tx, a.lz, by rw [← sm.ca]; exact a.cl⟩, rs, ?_⟩
  rw [← sm.ca, ← sm.xa]
  exact k
theorem gd_deep {A : Around} (h : A.guards = some []) (env : Env) : (A.deeper env).guards = some [] := by
  obtain ⟨hd, d, fr, gs, u⟩ := A
  subst h
  rfl
section
variable {P : Program} {w : World} {K : PySem.W.Frag} {mg : Str → Option Value} {base : Heap} {x qual : Str} {params : Arguments} {body : List Stmt} {scope : Scope} {dvs : List V} {kws : List (Str × V)} {f : Addr} {fd : FuncData}
/-- a def's promise by its body's reading, where no value is being written out (FunD.ok with the guards) -/
theorem _root_.L2.FunD.okG {CX : CXT} {N ps : List Str} {k : Nat} {sp : Sp} (F : FunD K x qual params body scope dvs kws f fd) (S : FnScope N ps scope) (len : ∀ vs H Q E, sp vs H Q E → vs.length = ps.length)
    (hbody : ∀ (cdv : Value) (A : Around) (outer : List Env) (s : Shared) (H : Hp) (vs : List V) (Q : VK) (E : XK), Room k (A.deeper (envOfC qual scope s.heap.objs.size f cdv)) → A.guards = some [] → sp vs H Q E →
      ∃ t, PSs (cxOf CX P w K mg base N qual scope f cdv A outer s H E) body t ∧ t { nx := fun _ H' => Q .non H', rt := Q } (L2.start N vs) H) : FnG P w K mg base CX (k + 1) f fd ps sp := by
  obtain ⟨oc, od, dV, kV, doc, pm, an, cdv, ct, osl, rfl, lk, hcd, _, _⟩ := F.ex
  constructor
  · exact len
  intro A outer s H args us vs Q E hr hgd e0 hb r hsp
  have keep : ∀ b o, base.get? b = some o → s.heap.get? b = some o := fun b o e => (e0.bs b o e).1
  have KX : K.In s.heap := e0.mod.kin.keeps keep
  have lim : s.heap.NoLimit := e0.mod.nolimit.keeps keep
  have kinds : ∀ y ∈ ps.zip us, scope.names.lookup y.1 = some .local ∨ (scope.names.lookup y.1 = some .cell ∧ ((cellsFrom (s.heap.objs.size + 1) scope.names []).lookup y.1).isSome = true) := by
    rintro ⟨y, v⟩ hy
    have := S.par y (List.of_mem_zip hy).1
    rcases this with q | q
    · exact .inl q
    · exact .inr ⟨q, PySem.W.cellsFrom_some _ _ _ (.inl q)⟩
  apply codeAny_call_function hr.depth (KX _ _ lk) rfl S.co S.gen rfl (PySem.W.codeRec_of KX hcd)
  apply hb
  apply wpAny_newFunctionEnv_cells S.kind kinds
  intro env he s1 xx
  subst he
  refine ⟨lim.keeps xx.toInCall.keep, codeAny_func ?_⟩
  obtain ⟨t, ht, hq⟩ := hbody cdv A outer s H vs Q E (hr.deeper _) hgd hsp
  have I0 := inv_start (CX := CX) (E := E) (cd := cdv) (f := f) (qual := qual) S hr.hd e0 (len _ _ _ _ hsp) r xx
  have fin : ∀ {σ' : St} {H' : Hp} {v : V} {u : Value} {s' : Shared}, Inv (cxOf CX P w K mg base N qual scope f cdv A outer s H E) [] σ' H' s' → RelV v u → Q v H' → CE outer P w H s Q u s' :=
    fun J rv q => ⟨_, _, J.os, J.bare, J.base, J.hok, rv, q⟩
  apply wpAny_mono (ht.run [] s1 (L2.start N vs) H _ I0 hq)
  · intro fl s' hs
    cases fl with
    | ret u =>
      obtain ⟨v, σ', H', J, rv, q⟩ := hs
      exact fin J rv q
    | next =>
      obtain ⟨σ', H', J, q⟩ := hs
      exact fin (v := V.non) (u := Value.none) J rfl q
    | brk =>
      obtain ⟨_, _, _, q⟩ := hs
      cases q
    | cont =>
      obtain ⟨_, _, _, q⟩ := hs
      cases q
  · exact fun _ _ hs => hs
end
theorem callee_of (F : Facts P w K mg base B T cc defs fuel) {n : Nat} (ih : ∀ (i : Nat) (d : Dfn), defs[i]? = some d → ∀ fd, FunD K d.x d.qual d.params d.body d.scope d.dvs [] (B.fa i) fd → FnG P w K mg base (L2.CX P w) (2 * n) (B.fa i) fd d.ps (dSp B d.fr (callD T n i)))
    {X : Cx} (hP : X.prog = P) (hw : X.w = w) (hK : X.K = K) (hm : X.mg = mg) (hb : X.base = base) (hr : Room (2 * n + 1) X.A) (hgd : X.A.guards = some []) (sm : Same A B) {f m : Nat} {dd : List D} (hs : cc.sig f m = some dd) : Callee X A ⟨T, false, callD T n⟩ f m dd 1 := by
  subst hP hw hK hm hb
  obtain ⟨d, hd⟩ := F.sig f m dd hs
  obtain ⟨fd, h1, h2⟩ := F.fd f d hd
  obtain ⟨dvs, ds, h3, h4, h5, h6⟩ := h2 m dd hs
  obtain ⟨ir, _, ht⟩ := F.tab f d hd
  have hfr : (T.fns[f]?).any (·.fr) = d.fr := by rw [ht]; rfl
  have hfa : A.fa f = B.fa f := by rw [sm.fa]
  refine ⟨⟨2 * n, fd, d.ps, dvs, ds, ?_, hr, h3, h4, h5, h6⟩, by rw [hfa]; exact h1.kp, hgd⟩
  show FnG _ _ _ _ _ _ _ _ _ _ (dSp A ((T.fns[f]?).any (·.fr)) (callD T n f))
  rw [hfa, hfr]
  exact (ih f d hd fd h1).imp fun vs H Q E h => dSp_same sm h
theorem disp_of (F : Facts P w K mg base B T cc defs fuel) {n : Nat} (ih : ∀ (i : Nat) (d : Dfn), defs[i]? = some d → ∀ fd, FunD K d.x d.qual d.params d.body d.scope d.dvs [] (B.fa i) fd → FnG P w K mg base (L2.CX P w) (2 * n) (B.fa i) fd d.ps (dSp B d.fr (callD T n i)))
    {X : Cx} (hP : X.prog = P) (hw : X.w = w) (hK : X.K = K) (hm : X.mg = mg) (hb : X.base = base) (hr : Room (2 * n + 1) X.A) (hgd : X.A.guards = some []) (sm : Same A B) {q : Str × Nat × List D × Bool} (hq : q ∈ cc.mds) : Disp X A ⟨T, false, callD T n⟩ q.1 q.2.1 q.2.2.1 := by
  obtain ⟨h1, h2⟩ := F.mds q hq
  refine ⟨fun c k e => ?_, fun c k f e1 e2 => ?_⟩
  · rw [hK, sm.ca]
    exact h1 c k e
  · obtain ⟨h3, h4⟩ := h2 c k f e1 e2
    refine ⟨?_, (callee_of F ih hP hw hK hm hb hr hgd sm h4).le⟩
    rw [hK, sm.ca, sm.fa]
    exact h3
theorem table (F : Facts P w K mg base B T cc defs fuel) : ∀ (n i : Nat) (d : Dfn), defs[i]? = some d → ∀ fd, FunD K d.x d.qual d.params d.body d.scope d.dvs [] (B.fa i) fd → FnG P w K mg base (L2.CX P w) (2 * n) (B.fa i) fd d.ps (dSp B d.fr (callD T n i))
  | 0, i, d, hd, fd, hf => ⟨fun vs H Q E ⟨Z, ds, S, a, rs, k⟩ => k.elim, fun A outer s H args us vs Q E hr hgd he hb hv ⟨Z, ds, S, a, rs, k⟩ => k.elim⟩
  | n + 1, i, d, hd, fd, hf => by
    have ih := table F n
    obtain ⟨ir, hir, htab⟩ := F.tab i d hd
    have hcall : ∀ ds S, callD T (n + 1) i ds S = runF ⟨T, false, callD T n⟩ ⟨d.ps.length, d.N, ir, d.fr⟩ ds S := fun ds S => by
      rw [callD, htab]
    have hlen : ∀ vs H Q E, dSp B d.fr (callD T (n + 1) i) vs H Q E → vs.length = d.ps.length := fun vs H Q E ⟨Z, ds, S, a, rs, k⟩ => by
      rw [hcall] at k
      unfold runF at k
      by_cases hl : ds.length = d.ps.length
      · rw [← rs.length]
        exact hl
      · rw [if_neg (by simpa using hl)] at k
        exact k.elim
    have e2 : 2 * (n + 1) = (2 * n + 1) + 1 := by omega
    rw [e2]
    refine hf.okG (F.sco i d hd) hlen fun cdv A outer s H vs Q E hr hgd ⟨Z, ds, S, a, rs, k⟩ => ?_
    rw [hcall] at k
    unfold runF at k
    by_cases hl : ds.length = d.ps.length
    · rw [if_pos (by simpa using hl)] at k
      have fs := F.sco i d hd
      refine ⟨tB (B.at Z H) ⟨T, false, callD T n⟩ (fun cls dd _ H => E cls dd H) ir, (sst fuel).b (ccOf cc d) d.body ir hir _ B _ ?_ (B.at Z H) _ Same.at (fun _ => takes_of rfl rfl rfl rfl), Z, _, S, entry a rs hl, ?_⟩
      · refine ⟨⟨rfl, fs.nd, rfl, fun _ _ => rfl, by have := hr.un; show (A.deeper (envOfC d.qual d.scope s.heap.objs.size (B.fa i) cdv)).units + 65 < cLine; omega, gd_deep hgd _, F.kon, F.fns, F.cls, F.ini, F.blt, F.flds, fun _ A' sm f m dd hs => callee_of F ih rfl rfl rfl rfl rfl hr (gd_deep hgd _) sm hs, fun _ A' sm q hq => disp_of F ih rfl rfl rfl rfl rfl hr (gd_deep hgd _) sm hq, fun _ => rfl⟩, fs.kind, rfl, rfl, fun _ => passes_of rfl, F.exs, F.exm⟩
      · revert k
        cases exB ⟨T, false, callD T n⟩ ir (ds.map .val ++ List.replicate (d.N.length - d.ps.length) .no) S with
        | nx ρ2 S2 => exact fun k Z' σ' H' z g => k Z' H' _ (exitS g z) (by unfold ResN; rw [if_neg (by simp [isBox])]; exact .non)
        | rt x own S2 =>
          intro k Z' ρ' σ' H' v z g r
          dsimp only at k
          by_cases hc : (d.fr && isBox x && !own) = true
          · rw [if_pos hc] at k
            exact k.elim
          · rw [if_neg hc] at k
            have st := exitS g z
            unfold RetV at r
            by_cases ho : (own && isBox x) = true
            · rw [if_pos ho] at r
              have ho := Bool.and_eq_true_iff.mp ho
              obtain ⟨p, o, rfl, bx, hH, nf, nm, n0⟩ := r
              have n0 : H p = none := n0
              by_cases hfr : d.fr = true
              · exact k Z' H' _ st (by unfold ResN; rw [if_pos (by rw [hfr, ho.2]; rfl)]; exact ⟨p, o, rfl, bx, hH, nf, nm, n0⟩)
              · refine k (Z'.fast p o) H' _ (st.fast n0 hH nf nm) ?_
                unfold ResN
                rw [if_neg (by simp [hfr])]
                exact (bx.mono (Zw.fast_le nf)).rel (show upd Z'.F p o p = some o from upd_same)
            · rw [if_neg ho] at r
              refine k Z' H' v st ?_
              unfold ResN
              rw [if_neg ?_]
              · exact r
              · intro hfb
                have hfb := Bool.and_eq_true_iff.mp hfb
                simp only [hfb.1, hfb.2, Bool.true_and, Bool.not_eq_true'] at hc ho
                cases own <;> simp_all
        | ex c ρ2 S2 => exact fun k Z' σ' H' z g => k Z' H' (exitS g z)
        | bk ρ2 S2 => exact fun k => k.elim
        | ct ρ2 S2 => exact fun k => k.elim
        | stuck => exact fun k => k.elim
    · rw [if_neg (by simpa using hl)] at k
      exact k.elim
end
end MP

set_option maxRecDepth 100000
set_option maxHeartbeats 4000000
/-! MiniPy: the head's facts, the law's end. -/
namespace MP
open PySem PySem.Spec L2
open PyProof.Rows hiding St
/-! ### the part of the heap that the facts read: no lists -/
def rfV (v : Value) : List Addr := match v with
  | .ref a => [a]
  | _ => []
def asF (g : Addr → Option Obj) (a : Addr) : List Addr := match g a with
  | some ⟨_, _, .func fd, _⟩ => a :: rfV fd.code ++ rfV fd.defaults
  | _ => []
def asE (g : Addr → Option Obj) (a : Addr) : List Addr := match g a with
  | some ⟨_, _, .dict es _, _⟩ => es.toList.flatMap fun e => (rfV e.val).flatMap (asF g)
  | _ => []
def asC (g : Addr → Option Obj) (a : Addr) : List Addr := match g a with
  | some ⟨_, _, .func fd, _⟩ => a :: rfV fd.code ++ rfV fd.defaults
  | some ⟨_, _, .cls cd, _⟩ => a :: cd.ns :: asE g cd.ns
  | _ => []
def asM (g : Addr → Option Obj) : List Addr := mainGlobals :: (match g mainGlobals with
  | some ⟨_, _, .dict es _, _⟩ => es.toList.flatMap fun e => (rfV e.val).flatMap (asC g)
  | _ => [])
def isLst : Value → Bool
  | .type n => n == "list"
  | _ => false
def frL (g : Addr → Option Obj) : List Addr → PySem.W.Frag
  | [] => []
  | a :: l => match g a with
    | some o => if isLst o.cls then frL g l else (a, o) :: frL g l
    | none => frL g l
theorem frL_at {g : Addr → Option Obj} {a : Addr} {o : Obj} : ∀ as : List Addr, (frL g as).lookup a = some o → g a = some o ∧ isLst o.cls = false
  | [], e => nomatch (show (none : Option Obj) = some o from e)
  | b :: r, e => by
    unfold frL at e
    cases hb : g b with
    | none =>
      rw [hb] at e
      exact frL_at r e
    | some ob =>
      rw [hb] at e
      dsimp only at e
      by_cases hl : isLst ob.cls = true
      · rw [if_pos hl] at e
        exact frL_at r e
      · rw [if_neg hl, List.lookup_cons] at e
        cases q : (a == b) with
        | true =>
          rw [q] at e
          cases e
          rw [beq_iff_eq.mp q]
          exact ⟨hb, by simpa using hl⟩
        | false =>
          rw [q] at e
          exact frL_at r e
def forceA {α : Type} : List Addr → (List Addr → α) → α
  | [], k => k []
  | a :: l, k => HandSHeadRun.frNat a fun a => forceA l fun l => k (a :: l)
theorem forceA_eq {α : Type} : ∀ (l : List Addr) (k : List Addr → α), forceA l k = k l
  | [], k => rfl
  | a :: l, k => by
    show HandSHeadRun.frNat a (fun a => forceA l fun l => k (a :: l)) = k (a :: l)
    rw [HandSHeadRun.frNat_eq, forceA_eq l]
def forceK {α : Type} (g : Addr → Option Obj) : List Addr → (PySem.W.Frag → α) → α
  | [], k => k []
  | a :: l, k => match g a with
    | some ⟨c, d, dt, sl⟩ => if isLst c then forceK g l k else forceK g l fun K => k ((a, ⟨c, d, dt, sl⟩) :: K)
    | none => forceK g l k
theorem forceK_eq {α : Type} (g : Addr → Option Obj) : ∀ (l : List Addr) (k : PySem.W.Frag → α), forceK g l k = k (frL g l)
  | [], k => rfl
  | a :: l, k => by
    unfold forceK frL
    cases e : g a with
    | none => exact forceK_eq g l k
    | some o =>
      obtain ⟨c, d, dt, sl⟩ := o
      dsimp only
      by_cases h : isLst c = true
      · rw [if_pos h, if_pos h]
        exact forceK_eq g l k
      · rw [if_neg h, if_neg h]
        exact forceK_eq g l fun K => k ((a, ⟨c, d, dt, sl⟩) :: K)
abbrev Parts := List (List He.Fa × List He.DefD)
def obM (fa : List He.Fa) (fn : List He.DefD) (g : Addr → Option Obj) : He.AlD := forceA (asM g) fun as => forceK g as fun K => He.obsD fa fn K
def SaysP (parts : Parts) (K : PySem.W.Frag) : Prop := ∀ p ∈ parts, He.SaysD p.1 p.2 K
def NoL (K : PySem.W.Frag) : Prop := ∀ a o, K.lookup a = some o → o.cls ≠ .type "list"
@[reducible] def hookM (parts : Parts) : PySem.W.Hook where
  α := List He.AlD
  obs := fun s => parts.map fun p => He.obsD p.1 p.2 (frL s.heap.get? (asM s.heap.get?))
  val := fun _ => parts.map fun p => He.valD p.2
  says := fun _ h => ∃ K : PySem.W.Frag, K.In h ∧ SaysP parts K ∧ NoL K
  of := fun w s e => ⟨frL s.heap.get? (asM s.heap.get?), fun a o h => (frL_at _ h).1, fun p hp => List.map_inj_left.mp (show (parts.map fun p => He.obsD p.1 p.2 (frL s.heap.get? (asM s.heap.get?))) = parts.map (fun p => He.valD p.2) from e) p hp, fun a o h hc => by
    have := (frL_at _ h).2
    rw [hc] at this
    cases this⟩
  keeps := fun _ _ _ ⟨K, hK, c⟩ k => ⟨K, PySem.W.Frag.In.keeps hK k, c⟩
theorem obM_eq {parts : Parts} {g : Addr → Option Obj} {s : Shared} (h : ∀ a, g a = s.heap.get? a) : (parts.map fun p => obM p.1 p.2 g) = (hookM parts).obs s := by
  have e : g = s.heap.get? := funext h
  show (parts.map fun p => obM p.1 p.2 g) = parts.map fun p => He.obsD p.1 p.2 (frL s.heap.get? (asM s.heap.get?))
  refine List.map_congr_left fun p _ => ?_
  unfold obM
  rw [e, forceA_eq, forceK_eq]
theorem mapL {α β γ δ : Type} {o : Option α} {g : α → γ} {b : γ} {f : δ → α → β} {a : δ → β} (l : List δ) (h : ∀ p ∈ l, o.map (f p) = some (a p)) (h0 : o.map g = some b) : o.map (fun s => l.map fun p => f p s) = some (l.map a) := by
  cases o with
  | none => cases h0
  | some s =>
    show some (l.map fun p => f p s) = _
    exact congrArg some (List.map_congr_left fun p hp => Option.some.inj (h p hp))
theorem map3 {α β γ δ : Type} {o : Option α} {f : α → β} {g : α → γ} {h : α → δ} {a : β} {b : γ} {c : δ} (h1 : o.map f = some a) (h2 : o.map g = some b) (h3 : o.map h = some c) : o.map (fun s => (f s, g s, h s)) = some (a, b, c) := by
  cases o with
  | none => cases h1
  | some s =>
    have e1 : f s = a := Option.some.inj h1
    have e2 : g s = b := Option.some.inj h2
    have e3 : h s = c := Option.some.inj h3
    show some (f s, g s, h s) = _
    rw [e1, e2, e3]
/-! ### facts, by tables -/
structure Xtra where
  ps : List Str
  N : List Str
  own : List Nat
  cels : List (Nat × Nat)
  dts : List (Nat × Nat)
  fr : Bool
def dfnOf (d : He.DefD) (x : Xtra) : Dfn := ⟨d.name, d.qual, d.params, d.body, d.scope, [], x.ps, x.N, x.own, x.cels, x.dts, x.fr⟩
/-- every table that a law's link is made of -/
structure Tbl where
  fa : List He.Fa
  fn : List He.DefD
  xs : List Xtra
  cln : List Str
  exn : List Str
  cl : List ClsI
  kon : List (Str × Int)
  mds : List (Str × Nat × Nat × Bool)
  flds : List Str
  up : List (List Nat)
def Tbl.defs (t : Tbl) : List Dfn := List.zipWith dfnOf t.fn t.xs
def idxS (x : Str) (l : List Str) : Option Nat := l.findIdx? fun y => decide (y = x)
def Tbl.cc (t : Tbl) : Cc where
  N := []
  sc := default
  fn := fun _ => true
  fns := (t.fn.zipIdx.filterMap fun q => match q.1.at_.2 with
    | none => some (q.1.at_.1, q.2)
    | some _ => none)
  cls := t.cln.zipIdx
  exs := t.exn.zipIdx
  kon := t.kon.map fun q => (q.1, .int q.2)
  sig := fun i n => (t.xs[i]?).bind fun x => if x.ps.length = n then some [] else none
  ini := fun c => (t.cl[c]?).bind fun k => k.meths.lookup ("__init__" : Str)
  mds := t.mds.map fun q => (q.1, q.2.1, [], q.2.2.2)
  flds := t.flds
  cels := []
  dts := []
  own := []
def Tbl.tb (t : Tbl) (irs : List (List S)) (fuel : Nat) : Tb where
  fns := List.zipWith (fun (x : Xtra) ir => ⟨x.ps.length, x.N, ir, x.fr⟩) t.xs irs
  clss := t.cl
  excs := List.zipWith (fun n u => ⟨n, u⟩) t.exn t.up
  fuel := fuel
def Tbl.B (t : Tbl) (K : PySem.W.Frag) : Act where
  K := K
  fa := fun i => match t.fn[i]? with
    | some d => He.fAd K d.at_
    | none => 0
  ca := fun c => match t.cln[c]? with
    | some x => He.ga K x
    | none => 0
  xa := fun c => match t.exn[c]? with
    | some x => He.ga K x
    | none => 0
  H0 := fun _ => none
  m0 := []
  F0 := fun _ => none
end MP

set_option maxRecDepth 100000
set_option maxHeartbeats 4000000
/-! MiniPy: the facts of a law's tables; the law's end. -/
namespace MP
open PySem PySem.Spec L2
open PyProof.Rows hiding St
def feq : He.Fa → He.Fa → Bool
  | .glo x, .glo y => decide (x = y)
  | .free x, .free y => decide (x = y)
  | .int x i, .int y j => decide (x = y) && decide (i = j)
  | .cls x, .cls y => decide (x = y)
  | .noat x f, .noat y g => decide (x = y) && decide (f = g)
  | .meth x f, .meth y g => decide (x = y) && decide (f = g)
  | .mkr x, .mkr y => decide (x = y)
  | .exc x, .exc y => decide (x = y)
  | .exm x y a, .exm z w b => decide (x = z) && decide (y = w) && decide (a = b)
  | _, _ => false
theorem feq_eq {a b : He.Fa} (h : feq a b = true) : a = b := by
  cases a <;> cases b <;> first
    | (cases h; done)
    | (simp only [feq, Bool.and_eq_true, decide_eq_true_eq] at h
       first
         | rw [h]
         | (obtain ⟨h1, h2⟩ := h; rw [h1, h2])
         | (obtain ⟨⟨h1, h2⟩, h3⟩ := h; rw [h1, h2, h3]))
def Tbl.has (t : Tbl) (f : He.Fa) : Bool := t.fa.any fun g => feq g f
theorem has_mem {t : Tbl} {f : He.Fa} (h : t.has f = true) : f ∈ t.fa := by
  obtain ⟨g, h1, h2⟩ := List.any_eq_true.mp h
  rw [← feq_eq h2]
  exact h1
def scC (N P : List Str) (sc : Scope) : Bool := (match sc.kind with | .function => true | _ => false) && !sc.isCoroutine && !sc.isGenerator && decide N.Nodup && decide (N.take P.length = P) &&
  (P.all fun x => decide (sc.names.lookup x = some .local) || decide (sc.names.lookup x = some .cell)) && sc.names.all fun y => decide (y.2 ≠ .free)
theorem scC_of {N P : List Str} {sc : Scope} (h : scC N P sc = true) : FnScope N P sc := by
  unfold scC at h
  simp only [Bool.and_eq_true, decide_eq_true_eq, Bool.not_eq_true', List.all_eq_true, Bool.or_eq_true] at h
  obtain ⟨⟨⟨⟨⟨⟨h1, h2⟩, h3⟩, h4⟩, h5⟩, h6⟩, h7⟩ := h
  refine ⟨?_, h2, h3, h4, h5, h6, h7⟩
  revert h1
  cases sc.kind <;> intro h1 <;> first | rfl | cases h1
def Tbl.atIs (t : Tbl) (f : Nat) (a : Str × Option Str) : Bool := (t.fn[f]?).any fun d => decide (d.at_ = a)
theorem atIs_of {t : Tbl} {f : Nat} {a : Str × Option Str} (h : t.atIs f a = true) (K : PySem.W.Frag) : (t.B K).fa f = He.fAd K a := by
  unfold Tbl.atIs at h
  show (match t.fn[f]? with | some d => He.fAd K d.at_ | none => 0) = _
  cases e : t.fn[f]? with
  | none => rw [e] at h; cases h
  | some d =>
    rw [e] at h
    have h : decide (d.at_ = a) = true := h
    show He.fAd K d.at_ = _
    rw [of_decide_eq_true h]
def Tbl.ok (t : Tbl) (T : Tb) : Bool :=
  (t.fn.all fun d => (match d.at_.2 with | none => t.has (.glo d.at_.1) | some _ => true) && d.dfl.isEmpty && d.kwd.isEmpty) &&
  (t.cln.all fun x => t.has (.glo x) && t.has (.cls x)) && (t.exn.all fun x => t.has (.glo x) && t.has (.exc x)) && (t.kon.all fun q => t.has (.int q.1 q.2)) && (bltNames.all fun x => t.has (.free x)) &&
  ((t.cln.zip t.cl).all fun q => (q.2.flds.all fun f => t.has (.noat q.1 f)) && (match q.2.meths.lookup ("__init__" : Str) with
    | some f => t.has (.mkr q.1) && t.atIs f (q.1, some "__init__")
    | none => true)) &&
  (t.mds.all fun m => (t.cln.zip t.cl).all fun q => match q.2.meths.lookup m.1 with
    | some f => t.has (.meth q.1 m.1) && t.atIs f (q.1, some m.1) && decide ((t.xs[f]?).map (fun x => x.ps.length) = some (m.2.1 + 1))
    | none => true) &&
  (t.exn.zipIdx.all fun c => t.exn.zipIdx.all fun k => t.has (.exm k.1 c.1 (under T k.2 c.2))) &&
  decide (t.cln.length = t.cl.length) && decide (t.exn.length = t.up.length) && decide (t.fn.length = t.xs.length) && (t.defs.all fun d => scC d.N d.ps d.scope)
def Tbl.irs (t : Tbl) (fuel : Nat) : List (List S) := t.defs.map fun d => (cB fuel (ccOf t.cc d) d.body).getD []
def Tbl.built (t : Tbl) (fuel : Nat) : Bool := t.defs.all fun d => (cB fuel (ccOf t.cc d) d.body).isSome
def BindOk (d : He.DefD) (ps : List Str) : Prop := ∀ (kV doc pm : Value) (an : Option Addr) (cdv ct : Value) (us : List Value), us.length = ps.length → bindArgs (PySem.W.fnOf d.name d.qual d.params d.body d.scope .none kV doc pm an cdv ct) ⟨us, []⟩ = pure (ps.zip us)
theorem zipIdx_look {l : List Str} {x : Str} {i : Nat} (h : l.zipIdx.lookup x = some i) : l[i]? = some x := by
  have hm : (x, i) ∈ l.zipIdx := PySem.mem_of_lookup h
  have := List.mem_zipIdx_iff_getElem?.mp hm
  simpa using this
theorem defs_at {t : Tbl} {i : Nat} {d : Dfn} (h : t.defs[i]? = some d) : ∃ e x, t.fn[i]? = some e ∧ t.xs[i]? = some x ∧ d = dfnOf e x := by
  unfold Tbl.defs at h
  rw [List.getElem?_zipWith] at h
  cases e : t.fn[i]? with
  | none => rw [e] at h; cases h
  | some a =>
    cases e2 : t.xs[i]? with
    | none => rw [e, e2] at h; cases h
    | some b =>
      rw [e, e2] at h
      cases h
      exact ⟨a, b, rfl, rfl, rfl⟩
theorem facts_of {t : Tbl} {fuel wf : Nat} {P : Program} {w : World} {K : PySem.W.Frag} {mg : Str → Option Value} {base : Heap} {h : Heap} (X : K.In h) (G : h.Ns mainGlobals mg)
    (cfa : ∀ f, f ∈ t.fa → f.ok K = true) (cfn : ∀ d, d ∈ t.fn → ∃ fd, FunD K d.name d.qual d.params d.body d.scope (d.dvs K) (d.kws K) (He.fAd K d.at_) fd)
    (ok : t.ok (t.tb (t.irs fuel) wf) = true) (bu : t.built fuel = true) (bd : ∀ (i : Nat) d x, t.fn[i]? = some d → t.xs[i]? = some x → BindOk d x.ps) :
    Facts P w K mg base (t.B K) (t.tb (t.irs fuel) wf) t.cc t.defs fuel := by
  unfold Tbl.ok at ok
  simp only [Bool.and_eq_true, decide_eq_true_eq] at ok
  obtain ⟨⟨⟨⟨⟨⟨⟨⟨⟨⟨⟨o1, o2⟩, o3⟩, o4⟩, o5⟩, o6⟩, o7⟩, o8⟩, o9⟩, o10⟩, o11⟩, o12⟩ := ok
  have fx : ∀ f, t.has f = true → f.ok K = true := fun f hf => cfa f (has_mem hf)
  have hfn : ∀ d, d ∈ t.fn → (match d.at_.2 with | none => t.has (.glo d.at_.1) | some _ => true) = true ∧ d.dfl = [] ∧ d.kwd = [] := fun d hd => by
    have := List.all_eq_true.mp o1 d hd
    simp only [Bool.and_eq_true, List.isEmpty_iff] at this
    exact ⟨this.1.1, this.1.2, this.2⟩
  have hcl : ∀ (c : Nat) (k : ClsI), t.cl[c]? = some k → ∃ x, t.cln[c]? = some x ∧ (x, k) ∈ t.cln.zip t.cl ∧ (t.B K).ca c = He.ga K x := fun c k hk => by
    have hc : c < t.cl.length := (List.getElem?_eq_some_iff.mp hk).1
    have hx : t.cln[c]? = some (t.cln[c]'(by omega)) := List.getElem?_eq_getElem (by omega)
    refine ⟨_, hx, ?_, ?_⟩
    · have : (t.cln.zip t.cl)[c]? = some (t.cln[c]'(by omega), k) := by
        rw [List.getElem?_zip_eq_some]
        exact ⟨hx, hk⟩
      exact List.mem_of_getElem? this
    · show (match t.cln[c]? with | some x => He.ga K x | none => 0) = _
      rw [hx]
  have hcls : ∀ (c : Nat) (k : ClsI), t.cl[c]? = some k → Cls K ((t.B K).ca c) := fun c k hk => by
    obtain ⟨x, h1, h2, h3⟩ := hcl c k hk
    rw [h3]
    have := List.all_eq_true.mp o2 x (List.mem_of_getElem? h1)
    exact He.cls_ok (fx _ (Bool.and_eq_true_iff.mp this).2)
  refine ⟨rfl, fun i d hd => ?_, fun i n dd hs => ?_, fun i d hd => ?_, fun i d hd => ?_, fun x d hk => ?_, fun x f hf => ?_, fun x c hc => ?_, fun c f hf => ?_, fun x hx => He.free_ok X G (fx _ (List.all_eq_true.mp o5 x hx)), fun f hf c k hk hkf => ?_, fun q hq => ?_, fun x c hc => ?_, fun x c hc k hk => ?_⟩
  · obtain ⟨e, x, h1, h2, rfl⟩ := defs_at hd
    obtain ⟨_, hd2, hd3⟩ := hfn e (List.mem_of_getElem? h1)
    obtain ⟨fd, hfd⟩ := cfn e (List.mem_of_getElem? h1)
    have hfa : (t.B K).fa i = He.fAd K e.at_ := by
      show (match t.fn[i]? with | some d => He.fAd K d.at_ | none => 0) = _
      rw [h1]
    have e1 : e.dvs K = [] := by unfold He.DefD.dvs; rw [hd2]; rfl
    have e2 : e.kws K = [] := by unfold He.DefD.kws; rw [hd3]; rfl
    rw [e1, e2] at hfd
    refine ⟨fd, by rw [hfa]; exact hfd, fun n dd hs => ?_⟩
    obtain ⟨x', hx', h4⟩ := Option.bind_eq_some_iff.mp (show (t.xs[i]?).bind (fun x => if x.ps.length = n then some [] else none) = some dd from hs)
    rw [h2] at hx'
    cases hx'
    split at h4
    · rename_i hl
      cases h4
      exact ⟨[], [], hfd.bindsN fun kV doc pm an cdv ct us hu => bd i e x h1 h2 kV doc pm an cdv ct us hu, .nil, rfl, by show x.ps.length = n + 0; simpa using hl⟩
    · cases h4
  · obtain ⟨x', hx', h4⟩ := Option.bind_eq_some_iff.mp (show (t.xs[i]?).bind (fun x => if x.ps.length = n then some [] else none) = some dd from hs)
    have hi : i < t.xs.length := (List.getElem?_eq_some_iff.mp hx').1
    refine ⟨t.defs[i]'(by unfold Tbl.defs; rw [List.length_zipWith]; omega), List.getElem?_eq_getElem _⟩
  · have := List.all_eq_true.mp o12 d (List.mem_of_getElem? hd)
    exact scC_of this
  · have hb := List.all_eq_true.mp bu d (List.mem_of_getElem? hd)
    obtain ⟨ir, hir⟩ := Option.isSome_iff_exists.mp hb
    refine ⟨ir, hir, ?_⟩
    obtain ⟨e, x, h1, h2, rfl⟩ := defs_at hd
    show (List.zipWith (fun (x : Xtra) ir => (⟨x.ps.length, x.N, ir, x.fr⟩ : FnI)) t.xs (t.irs fuel))[i]? = _
    rw [List.getElem?_zipWith, h2]
    unfold Tbl.irs
    rw [List.getElem?_map, hd]
    have hir' : (cB fuel (ccOf t.cc (dfnOf e x)) (dfnOf e x).body).getD [] = ir := by rw [hir] <;> rfl
    show some (FnI.mk _ _ ((cB fuel (ccOf t.cc (dfnOf e x)) (dfnOf e x).body).getD []) _) = _
    rw [hir']
    rfl
  · -- constants
    have hm := PySem.mem_of_lookup (show (t.kon.map fun q => (q.1, D.int q.2)).lookup x = some d from hk)
    obtain ⟨q, hq, e⟩ := List.mem_map.mp hm
    cases e
    obtain ⟨tk, ht⟩ := He.int_ok X G (fx _ (List.all_eq_true.mp o4 q hq))
    exact ⟨.int q.2, _, rfl, ht, tk, rfl⟩
  · -- defs
    have hm := PySem.mem_of_lookup (show (t.fn.zipIdx.filterMap fun q => match q.1.at_.2 with | none => some (q.1.at_.1, q.2) | some _ => none).lookup x = some f from hf)
    obtain ⟨q, hq, e⟩ := List.mem_filterMap.mp hm
    obtain ⟨d, j⟩ := q
    have hj : t.fn[j]? = some d := by simpa using List.mem_zipIdx_iff_getElem?.mp hq
    obtain ⟨h1, _, _⟩ := hfn d (List.mem_of_getElem? hj)
    cases ea : d.at_.2 with
    | some m => rw [show (match (d, j).1.at_.2 with | none => some ((d, j).1.at_.1, (d, j).2) | some _ => none) = none from by show (match d.at_.2 with | none => some (d.at_.1, j) | some _ => none) = none; rw [ea]] at e; cases e
    | none =>
      rw [show (match (d, j).1.at_.2 with | none => some ((d, j).1.at_.1, (d, j).2) | some _ => none) = some (d.at_.1, j) from by show (match d.at_.2 with | none => some (d.at_.1, j) | some _ => none) = _; rw [ea]] at e
      have e' : d.at_.1 = x ∧ j = f := by simpa using e
      rw [← e'.1, ← e'.2]
      rw [ea] at h1
      have hfa : (t.B K).fa j = He.ga K d.at_.1 := by
        show (match t.fn[j]? with | some d => He.fAd K d.at_ | none => 0) = _
        rw [hj]
        show He.fAd K d.at_ = _
        unfold He.fAd
        rw [ea]
      rw [hfa]
      exact He.glo_ok X G (fx _ h1)
  · -- classes
    have hx := zipIdx_look (show t.cln.zipIdx.lookup x = some c from hc)
    have := List.all_eq_true.mp o2 x (List.mem_of_getElem? hx)
    have hca : (t.B K).ca c = He.ga K x := by
      show (match t.cln[c]? with | some x => He.ga K x | none => 0) = _
      rw [hx]
    rw [hca]
    exact He.glo_ok X G (fx _ (Bool.and_eq_true_iff.mp this).1)
  · -- __init__
    obtain ⟨k, h1, h2⟩ := Option.bind_eq_some_iff.mp (show (t.cl[c]?).bind (fun k => k.meths.lookup ("__init__" : Str)) = some f from hf)
    obtain ⟨x, h3, h4, h5⟩ := hcl c k h1
    have := (Bool.and_eq_true_iff.mp (List.all_eq_true.mp o6 _ h4)).2
    dsimp only at this
    rw [h2] at this
    have := Bool.and_eq_true_iff.mp this
    refine ⟨k, h1, h2, ?_⟩
    rw [h5, atIs_of this.2 K]
    exact He.mkr_ok (fx _ this.1)
  · -- attributes
    obtain ⟨x, h3, h4, h5⟩ := hcl c k hk
    have := (Bool.and_eq_true_iff.mp (List.all_eq_true.mp o6 _ h4)).1
    have := List.all_eq_true.mp this f (by simpa using hkf)
    refine ⟨hcls c k hk, ?_⟩
    rw [h5]
    exact He.noat_ok (fx _ this)
  · -- methods
    obtain ⟨m, hm, rfl⟩ := List.mem_map.mp hq
    refine ⟨hcls, fun c k f hk hf => ?_⟩
    obtain ⟨x, h3, h4, h5⟩ := hcl c k hk
    have := List.all_eq_true.mp (List.all_eq_true.mp o7 m hm) _ h4
    dsimp only at this hf
    rw [hf] at this
    simp only [Bool.and_eq_true, decide_eq_true_eq] at this
    obtain ⟨⟨g1, g2⟩, g3⟩ := this
    refine ⟨?_, ?_⟩
    · rw [h5, atIs_of g2 K]
      exact He.meth_ok (fx _ g1)
    · show (t.xs[f]?).bind (fun x => if x.ps.length = m.2.1 + 1 then some [] else none) = some []
      obtain ⟨x', hx', h6⟩ := Option.map_eq_some_iff.mp g3
      rw [hx']
      show (if x'.ps.length = m.2.1 + 1 then some [] else none) = _
      rw [if_pos h6]
  · -- exceptions
    have hx := zipIdx_look (show t.exn.zipIdx.lookup x = some c from hc)
    have := Bool.and_eq_true_iff.mp (List.all_eq_true.mp o3 x (List.mem_of_getElem? hx))
    have hxa : (t.B K).xa c = He.ga K x := by
      show (match t.exn[c]? with | some x => He.ga K x | none => 0) = _
      rw [hx]
    rw [hxa]
    exact ⟨He.glo_ok X G (fx _ this.1), He.exc_ok (fx _ this.2)⟩
  · have hx := zipIdx_look (show t.exn.zipIdx.lookup x = some c from hc)
    have hk : k < t.exn.length := by
      have : k < (List.zipWith (fun n u => (⟨n, u⟩ : ExcI)) t.exn t.up).length := hk
      rw [List.length_zipWith] at this
      omega
    have hy : t.exn[k]? = some t.exn[k] := List.getElem?_eq_getElem hk
    have hm1 : (x, c) ∈ t.exn.zipIdx := List.mem_zipIdx_iff_getElem?.mpr (by simpa using hx)
    have hm2 : (t.exn[k], k) ∈ t.exn.zipIdx := List.mem_zipIdx_iff_getElem?.mpr (by simpa using hy)
    have := List.all_eq_true.mp (List.all_eq_true.mp o8 _ hm1) _ hm2
    have e1 : (t.B K).xa c = He.ga K x := by
      show (match t.exn[c]? with | some x => He.ga K x | none => 0) = _
      rw [hx]
    have e2 : (t.B K).xa k = He.ga K t.exn[k] := by
      show (match t.exn[k]? with | some x => He.ga K x | none => 0) = _
      rw [hy]
    rw [e1, e2]
    exact He.exm_ok (fx _ this)
end MP

set_option maxRecDepth 100000
set_option maxHeartbeats 4000000
/-! MiniPy: the law's end. -/
namespace MP
open PySem PySem.Spec L2
open PyProof.Rows hiding St
/-- a law's head at the heap behind the top, for a promise that wants no value being written out (law_call with the guards) -/
theorem law_callG {P : Program} {w : World} {K : PySem.W.Frag} {mg mb : Str → Option Value} {CX : CXT} {k : Nat} {fa a : Addr} {fd : FuncData} {x : Str} {sp : Sp} {s₁ : Shared} {vs : List Value} {ns : List Int}
    (KX : K.In s₁.heap) (hns : s₁.heap.Ns mainGlobals mg) (hb : s₁.heap.Ns builtinsNs mb) (hbb : ∀ x : Str, x ≠ "__name__" → mb x = bootBuiltins x) (hlim : s₁.heap.NoLimit) (hg : s₁.gens = #[])
    (ha : s₁.heap.get? a = some { cls := .type "list", data := .seq vs.toArray }) (hi : IntsAre vs ns) (hl : ns.length ≤ sizeLine) (hr : Room k callerA)
    (F : ∀ base : Heap, K.In base → base.Ns mainGlobals mg → FnG P w K mg base CX k fa fd [x] sp) (hbind : ∀ (s : Shared) (u : Value), BindsTo s fd ⟨[u], []⟩ [(x, u)])
    (hsp : ∀ H : Hp, Only H → SqL K H a (ns.map V.int) → sp [.ref a] H (fun v _ => v = .bl true) fun _ _ _ => False)
    (hCX : ∀ H e s', CX [] H s₁ (fun _ _ _ => False) e s' → False) (nk : K.lookup a = none) :
    codeAny (model P w) callerA (.call (.ref fa) ⟨[.ref a], []⟩) (fun r s' => r = .ok (.ret (.bool true)) ∧ OldK s₁.heap s'.heap ∧ s'.os = s₁.os ∧ AllBare s'.gens) s₁ := by
  let H : Hp := fun b => if b = a then some (.frz { cls := .type "list", data := .seq vs.toArray } (.lst (ns.map V.int))) else none
  have Ha : H a = some (.frz { cls := .type "list", data := .seq vs.toArray } (.lst (ns.map V.int))) := if_pos rfl
  have Hn : ∀ b, b ≠ a → H b = none := fun b e => if_neg e
  have hok : HOk P w H s₁.heap := fun b u z => by
    by_cases e : b = a
    · subst e
      rw [Ha] at z
      cases z
      exact ⟨ha, by rw [List.length_map]; exact hl, vs, _, vals_ints hi, ha⟩
    · rw [Hn b e] at z
      cases z
  have old : ∀ {b o}, s₁.heap.get? b = some o → b ≠ a → (hidT s₁.heap H).get? b = some o := fun e1 e2 => hidT_get e1 (Hn _ e2)
  have isD : ∀ {b o es ep}, s₁.heap.get? b = some o → o.data = Data.dict es ep → b ≠ a := fun e1 e2 e => by
    subst e
    rw [ha] at e1
    cases e1
    cases e2
  have nsT : ∀ {b m}, s₁.heap.Ns b m → (hidT s₁.heap H).Ns b m := fun ⟨o, es, ep, e, d, r⟩ => ⟨o, es, ep, old e (isD e d), d, r⟩
  have KT : K.In (hidT s₁.heap H) := fun b o e => old (KX b o e) fun e2 => by
    subst e2
    rw [nk] at e
    cases e
  have md : Mod K mg (hidT s₁.heap H) := by
    obtain ⟨mc, h1, h2⟩ := hlim
    exact ⟨KT, nsT hns, ⟨mb, nsT hb, hbb⟩, ⟨mc, nsT h1, h2⟩⟩
  have e0 : Env0 P w K mg (hidT s₁.heap H) callerA [] s₁ H := ⟨rfl, md, fun b o e => of_hidT e, Nat.le_of_eq (hidT_size _ _), trivial, fun b hb => (by cases hb), hok, .of_eq hg⟩
  have only : Only H := fun b => by
    by_cases e : b = a
    · exact .inr ⟨_, _, by rw [e]; exact Ha⟩
    · exact .inl (Hn b e)
  refine codeAny_mono ((F _ KT (nsT hns)).run callerA [] s₁ H ⟨[.ref a], []⟩ [.ref a] [.ref a] _ _ hr rfl e0 (hbind s₁ (.ref a)) (.cons rfl .nil) (hsp H only (.inl (.inr ⟨_, Ha⟩)))) ?_
  intro r s' h
  cases r with
  | error e => exact (hCX H e s' h).elim
  | ok fl =>
    cases fl with
    | next => exact h.elim
    | brk => exact h.elim
    | cont => exact h.elim
    | ret u =>
      obtain ⟨v, H', os, bare, un, hok', r', q⟩ := h
      have q : v = .bl true := q
      subst q
      have r' : u = Value.bool true := r'
      subst r'
      refine ⟨rfl, OldK.of_keep fun b o e => ?_, os, bare⟩
      by_cases eb : b = a
      · subst eb
        have h2 := (hok' b _ (un.frzs b _ _ Ha)).1
        rw [ha] at e
        cases e
        exact h2
      · exact un.keep b o e (Hn b eb) (fun z => by cases z) (fun z => by cases z)
theorem walk_ofM {l : PySem.W.OpenLaw} {n k : Nat} {q : Program} {loose : List Str} {XP : (Str → Option Value) → Heap → Prop} {YP : World → Heap → Prop} {d : DefRec} {CX : World → CXT} {x : Str}
    (hn : l.most = some n) (hn2 : n ≤ sizeLine) (hdf : d.params.defaults = []) (hr : Room k callerA)
    (F : ∀ (w : World) (mg : Str → Option Value) (fa : Addr) (h : Heap), YP w h → h.Ns mainGlobals mg → mg d.name = some (.ref fa) →
      ∃ (K : PySem.W.Frag) (fd : FuncData) (sp : Sp), K.In h ∧ (∀ (s : Shared) (u : Value), BindsTo s fd ⟨[u], []⟩ [(x, u)]) ∧
        (∀ (H : Hp) (a : Addr) (ns : List Int), ns.length ≤ n → (∀ z ∈ ns, Builtin.Int.intBits z ≤ 1048576) → Only H → SqL K H a (ns.map V.int) → sp [.ref a] H (fun v _ => v = .bl true) fun _ _ _ => False) ∧
        NoL K ∧ ∀ base : Heap, K.In base → base.Ns mainGlobals mg → FnG l.prog w K mg base (CX w) k fa fd [x] sp)
    (hCX : ∀ (w : World) (H : Hp) (s : Shared) (e : Value) (s' : Shared), CX w [] H s (fun _ _ _ => False) e s' → False) :
    PySem.W.WalkO q loose XP YP l.row.toRowW d [] (fun f vs => PySem.call f vs) := by
  refine Att.attach_callB hn hdf fun w s₀ s₁ mg mb fa o pm cd doc a vs ns G Y ho hd hcd hmg hobj hints hlen hbits hg => ?_
  obtain ⟨K, fd, sp, KX, hb, hsp, nl, hF⟩ := F w mg fa _ Y G.T.g hmg
  refine law_callG KX G.T.g G.T.b G.T.builtins G.T.nolimit hg hobj hints (Nat.le_trans hlen hn2) hr hF hb (fun H hO hS => hsp H a ns hlen hbits hO hS) (fun H e s' => hCX w H s₁ e s') ?_
  cases e : K.lookup a with
  | none => rfl
  | some o2 =>
    have e2 := KX a o2 e
    rw [hobj] at e2
    cases e2
    exact (nl a _ e rfl).elim
theorem noCX {P : Program} {w : World} {H : Hp} {s : Shared} {e : Value} {s' : Shared} (h : L2.CX P w [] H s (fun _ _ _ => False) e s') : False := by
  obtain ⟨a, B, H', cls, d, _, _, _, _, _, _, _, w⟩ := h
  exact w
def fastF (a : Addr) (o : HO) : Hp := fun p => if p = a then some o else none
theorem scriptAt {t : Tbl} {K : PySem.W.Frag} {H : Hp} {a : Addr} {ns : List Int} (nl : NoL K) (hS : SqL K H a (ns.map V.int)) : Ahead (t.B K) ⟨K, (t.B K).fa, fastF a (.lst (ns.map V.int)), [], fun _ => none⟩ [] H ∧ RelDs ⟨K, (t.B K).fa, fastF a (.lst (ns.map V.int)), [], fun _ => none⟩ [.lst (ns.map .int)] [.ref a] := by
  have hR : Rd H a (.lst (ns.map V.int)) := by
    rcases hS with h | ⟨o, its, n, h1, h2, _⟩
    · exact h
    · exact absurd h2 (nl a o h1)
  have intsR : ∀ ns : List Int, RelDs ⟨K, (t.B K).fa, fastF a (.lst (ns.map V.int)), [], fun _ => none⟩ (ns.map .int) (ns.map V.int) := fun ns => by
    generalize fastF a (.lst (ns.map V.int)) = F
    induction ns with
    | nil => exact .nil
    | cons n ns ih => exact .cons (.int n) ih
  have hF : ∀ p o, fastF a (.lst (ns.map V.int)) p = some o → p = a ∧ o = .lst (ns.map V.int) := fun p o h => by
    unfold fastF at h
    split at h
    · rename_i e
      cases h
      exact ⟨e, rfl⟩
    · cases h
  refine ⟨⟨rfl, rfl, fun p o h => ?_, fun p o h hd => ?_, fun p o h => (by cases h), ⟨rfl, .nil, fun i c p h1 h2 => (by simp at h1)⟩⟩, .cons (.lst (show fastF a _ a = some _ from if_pos rfl) (intsR ns)) .nil⟩
  · obtain ⟨rfl, rfl⟩ := hF p o h
    exact hR
  · obtain ⟨rfl, rfl⟩ := hF p o h
    cases hd
/-- the law's end, by the interpreter -/
theorem lawF {t : Tbl} {fuel wf n : Nat} {parts : Parts} {P : Program} (hfa : t.fa = parts.flatMap (·.1)) (hfn : t.fn = parts.flatMap (·.2)) (ok : t.ok (t.tb (t.irs fuel) wf) = true) (bu : t.built fuel = true) (bd : ∀ (i : Nat) d x, t.fn[i]? = some d → t.xs[i]? = some x → BindOk d x.ps)
    {li : Nat} {dl : He.DefD} {xl : Xtra} {dn : Str} (h1 : t.fn[li]? = some dl) (h2 : t.xs[li]? = some xl) (hat : dl.at_ = (dn, none)) (hps : xl.ps = [("script" : Str)]) (hfr : xl.fr = false)
    (spec : ∀ ns : List Int, ns.length ≤ 63 → (∀ z ∈ ns, Builtin.Int.intBits z ≤ 1048576) → ∃ S', callD (t.tb (t.irs fuel) wf) n li [.lst (ns.map .int)] [] = .ok (.bl true) S') :
    ∀ (w : World) (mg : Str → Option Value) (fa : Addr) (h : Heap), (hookM parts).says w h → h.Ns mainGlobals mg → mg dn = some (.ref fa) →
      ∃ (K : PySem.W.Frag) (fd : FuncData) (sp : Sp), K.In h ∧ (∀ (s : Shared) (u : Value), BindsTo s fd ⟨[u], []⟩ [(("script" : Str), u)]) ∧
        (∀ (H : Hp) (a : Addr) (ns : List Int), ns.length ≤ 63 → (∀ z ∈ ns, Builtin.Int.intBits z ≤ 1048576) → Only H → SqL K H a (ns.map V.int) → sp [.ref a] H (fun v _ => v = .bl true) fun _ _ _ => False) ∧
        NoL K ∧ ∀ base : Heap, K.In base → base.Ns mainGlobals mg → FnG P w K mg base (L2.CX P w) (2 * n) fa fd [("script" : Str)] sp := by
  intro w mg fa h ⟨K, KX, c, nl⟩ G hmg
  have cfa : ∀ f, f ∈ t.fa → f.ok K = true := fun f hf => by
    rw [hfa] at hf
    obtain ⟨p, hp, hf⟩ := List.mem_flatMap.mp hf
    exact (c p hp).facts hf
  have cfn : ∀ d, d ∈ t.fn → ∃ fd, FunD K d.name d.qual d.params d.body d.scope (d.dvs K) (d.kws K) (He.fAd K d.at_) fd := fun d hd => by
    rw [hfn] at hd
    obtain ⟨p, hp, hd⟩ := List.mem_flatMap.mp hd
    exact (c p hp).defs hd
  have hdl : t.defs[li]? = some (dfnOf dl xl) := by
    unfold Tbl.defs
    rw [List.getElem?_zipWith, h1, h2]
  have F0 : Facts P w K mg h (t.B K) (t.tb (t.irs fuel) wf) t.cc t.defs fuel := facts_of KX G cfa cfn ok bu bd
  obtain ⟨fd, hfd, hb⟩ := F0.fd li _ hdl
  have hga : mg dn = some (.ref (He.ga K dn)) := by
    have ok' := ok
    unfold Tbl.ok at ok'
    simp only [Bool.and_eq_true] at ok'
    have o1 := List.all_eq_true.mp ok'.1.1.1.1.1.1.1.1.1.1.1 dl (List.mem_of_getElem? h1)
    simp only [Bool.and_eq_true] at o1
    have o2 := o1.1.1
    rw [hat] at o2
    exact He.glo_ok KX G (cfa _ (has_mem o2))
  have hfae : fa = (t.B K).fa li := by
    rw [hmg] at hga
    cases hga
    show _ = (match t.fn[li]? with | some d => He.fAd K d.at_ | none => 0)
    rw [h1]
    show _ = He.fAd K dl.at_
    rw [hat]
    rfl
  refine ⟨K, fd, dSp (t.B K) xl.fr (callD (t.tb (t.irs fuel) wf) n li), KX, fun s u => ?_, fun H a ns hl hb _ hS => ?_, nl, fun base KB GB => ?_⟩
  · have := hfd.bindsA (ps := [("script" : Str)]) (fun kV doc pm an cdv ct us hu => ?_) s [u] rfl
    · exact this
    · have := bd li dl xl h1 h2 kV doc pm an cdv ct us (by rw [hps]; exact hu)
      rw [hps] at this
      exact this
  · obtain ⟨a1, a2⟩ := scriptAt (t := t) nl hS
    obtain ⟨S', hs⟩ := spec ns hl hb
    refine ⟨_, _, [], a1, a2, ?_⟩
    rw [hs]
    intro Z' H' v _ r
    unfold ResN at r
    rw [if_neg (by simp [isBox])] at r
    cases r
    rfl
  · have F1 : Facts P w K mg base (t.B K) (t.tb (t.irs fuel) wf) t.cc t.defs fuel := facts_of KB GB cfa cfn ok bu bd
    have := table F1 n li _ hdl fd hfd
    rw [hfae]
    have e : (dfnOf dl xl).ps = [("script" : Str)] := hps
    rw [e] at this
    exact this
end MP

set_option maxRecDepth 100000
set_option maxHeartbeats 4000000
/-! MiniPy: steps, numbers. -/
namespace MP
open PySem PySem.Spec L2
open PyProof.Rows hiding St
theorem callD_succ {T : Tb} {n f : Nat} {i : FnI} (h : T.fns[f]? = some i) (xs : List D) (S : Sto) : callD T (n + 1) f xs S = runF ⟨T, false, callD T n⟩ i xs S := by rw [callD, h]
theorem atI0 {α : Type} (a : α) (l : List α) : atI (a :: l) 0 = some a := by simp [atI, ixN]
theorem atI1 {α : Type} (a b : α) (l : List α) : atI (a :: b :: l) 1 = some b := by
  unfold atI ixN
  rw [if_pos (by omega), if_pos (by simp; omega)]
  rfl
theorem atI2 {α : Type} (a b c : α) (l : List α) : atI (a :: b :: c :: l) 2 = some c := by
  unfold atI ixN
  rw [if_pos (by omega), if_pos (by simp; omega)]
  rfl
theorem atI_nat {α : Type} (l : List α) (k : Nat) : atI l (k : Int) = l[k]? := by
  unfold atI ixN
  rw [if_pos (by omega)]
  split
  · simp
  · rw [List.getElem?_eq_none (by omega)]
    rfl
theorem bind_ok {α β : Type} (a : α) (S : Sto) (f : α → Sto → Res β) : (Res.ok a S).bind f = f a S := rfl
theorem bind_exc {α β : Type} (c : Nat) (S : Sto) (f : α → Sto → Res β) : (Res.exc c S : Res α).bind f = .exc c S := rfl
theorem of_some {α : Type} (a : α) (S : Sto) : Res.of (some a) S = .ok a S := rfl
theorem to_ok {α : Type} (a : α) (S : Sto) (ρ : Frame) (f : α → Sto → SR) : (Res.ok a S).to ρ f = f a S := rfl
theorem to_exc {α : Type} (c : Nat) (S : Sto) (ρ : Frame) (f : α → Sto → SR) : (Res.exc c S : Res α).to ρ f = .ex c ρ S := rfl
theorem seq_nx (ρ : Frame) (S : Sto) (f : Frame → Sto → SR) : (SR.nx ρ S).seq f = f ρ S := rfl
theorem seq_rt (d : D) (o : Bool) (S : Sto) (f : Frame → Sto → SR) : (SR.rt d o S).seq f = .rt d o S := rfl
theorem seq_ex (c : Nat) (ρ : Frame) (S : Sto) (f : Frame → Sto → SR) : (SR.ex c ρ S).seq f = .ex c ρ S := rfl
theorem look_int (S : Sto) (i : Int) : D.look S (.int i) = .int i := rfl
theorem look_bl (S : Sto) (i : Bool) : D.look S (.bl i) = .bl i := rfl
theorem look_non (S : Sto) : D.look S .non = .non := rfl
theorem look_str (S : Sto) (x : Str) : D.look S (.str x) = .str x := rfl
theorem look_tup (S : Sto) (x : List D) : D.look S (.tup x) = .tup x := rfl
theorem look_lst (S : Sto) (x : List D) : D.look S (.lst x) = .lst x := rfl
theorem look_dk (S : Sto) (k : List Key) (x : List D) : D.look S (.dk k x) = .dk k x := rfl
theorem look_dt (S : Sto) (k : List (List Key)) (x : List D) : D.look S (.dt k x) = .dt k x := rfl
theorem look_ref {S : Sto} {i : Nat} {xs : List D} (h : S[i]? = some (.lst xs)) : D.look S (.ref i) = .lst xs := by simp [D.look, h]
theorem bin_int (op : Operator) (i j : Int) : binD op (.int i) (.int j) = (MP.intOp op i j).map .int := rfl
theorem io_add (i j : Int) : MP.intOp .Add i j = some (i + j) := rfl
theorem io_sub (i j : Int) : MP.intOp .Sub i j = some (i - j) := rfl
theorem io_and (i j : Int) : MP.intOp .BitAnd i j = some (Builtin.bitAnd i j) := rfl
theorem io_or (i j : Int) : MP.intOp .BitOr i j = some (Builtin.bitOr i j) := rfl
theorem io_xor (i j : Int) : MP.intOp .BitXor i j = some (Builtin.bitXor i j) := rfl
theorem io_mod (i j : Int) (h : 0 < j) : MP.intOp .Mod i j = some (i % j) := by unfold MP.intOp; simp [h]
theorem io_div (i j : Int) (h : 0 < j) (h2 : j < 1073741824) : MP.intOp .FloorDiv i j = some (i / j) := by unfold MP.intOp; simp [h, h2]
theorem io_shl (i : Nat) (j : Nat) (h : i < 2 ^ 64) (h2 : j ≤ 1000000) : MP.intOp .LShift (i : Int) (j : Int) = some ((i * 2 ^ j : Nat) : Int) := by
  unfold MP.intOp powOk
  dsimp only
  rw [if_pos (by simp; omega)]
  simp
theorem io_shr (i : Nat) (j : Nat) : MP.intOp .RShift (i : Int) (j : Int) = some ((i / 2 ^ j : Nat) : Int) := by
  unfold MP.intOp
  dsimp only
  rw [if_pos (by simp)]
  simp
theorem io_shl1 (j : Nat) (h2 : j ≤ 1000000) : MP.intOp .LShift 1 (j : Int) = some ((2 ^ j : Nat) : Int) := by
  have := io_shl 1 j (by decide) h2
  rwa [Nat.one_mul] at this
theorem iAnd (a b : Nat) : Builtin.bitAnd (a : Int) (b : Int) = ((a &&& b : Nat) : Int) := PySem.W.os_band a b
theorem bitNot_neg (a : Nat) : Builtin.bitNot (Builtin.bitNot (a : Int)) = a := by unfold Builtin.bitNot; omega
theorem iOr (a b : Nat) : Builtin.bitOr (a : Int) (b : Int) = ((a ||| b : Nat) : Int) := by
  unfold Builtin.bitOr
  have h : ∀ a : Nat, decide (0 ≤ Builtin.bitNot (a : Int)) = false := fun a => by unfold Builtin.bitNot; simp; omega
  unfold Builtin.bitAnd
  rw [h a, h b]
  dsimp only
  rw [bitNot_neg, bitNot_neg, bitNot_neg, Int.toNat_natCast, Int.toNat_natCast]
theorem or_add_and : ∀ (a b : Nat), (a ||| b) = (a ^^^ b) + (a &&& b) := by
  intro a
  induction a using Nat.strongRecOn with
  | ind a ih =>
    intro b
    by_cases h : a = 0
    · subst h; simp
    · have h1 := ih (a / 2) (by omega) (b / 2)
      have e1 := Nat.div_add_mod (a ||| b) 2
      have e2 := Nat.div_add_mod (a ^^^ b) 2
      have e3 := Nat.div_add_mod (a &&& b) 2
      rw [← Nat.or_div_two, ← Nat.xor_div_two, ← Nat.and_div_two] at h1
      have m1 : (a ||| b) % 2 = (a % 2) ||| (b % 2) := Nat.or_mod_two_pow (n := 1)
      have m2 : (a ^^^ b) % 2 = (a % 2) ^^^ (b % 2) := Nat.xor_mod_two_pow (n := 1)
      have m3 : (a &&& b) % 2 = (a % 2) &&& (b % 2) := Nat.and_mod_two_pow (n := 1)
      have m : (a ||| b) % 2 = (a ^^^ b) % 2 + (a &&& b) % 2 := by
        rw [m1, m2, m3]
        rcases Nat.mod_two_eq_zero_or_one a with p | p <;> rcases Nat.mod_two_eq_zero_or_one b with q | q <;> rw [p, q] <;> rfl
      omega
theorem iXor (a b : Nat) : Builtin.bitXor (a : Int) (b : Int) = ((a ^^^ b : Nat) : Int) := by
  unfold Builtin.bitXor
  rw [iOr, iAnd, or_add_and]
  omega
theorem whl_true {c : Frame → Sto → Res Bool} {f : Frame → Sto → SR} {k : Nat} {ρ ρ2 : Frame} {S S1 S2 : Sto} (h1 : c ρ S = .ok true S1) (h2 : f ρ S1 = .nx ρ2 S2) : whlL c f (k + 1) ρ S = whlL c f k ρ2 S2 := by
  rw [whlL, h1, to_ok]
  dsimp only
  rw [h2]
theorem whl_false {c : Frame → Sto → Res Bool} {f : Frame → Sto → SR} {k : Nat} {ρ : Frame} {S S1 : Sto} (h1 : c ρ S = .ok false S1) : whlL c f (k + 1) ρ S = .nx ρ S1 := by
  rw [whlL, h1, to_ok]
theorem for_nx {f : D → Frame → Sto → SR} {d : D} {ds : List D} {ρ ρ1 : Frame} {S S1 : Sto} (h : f d ρ S = .nx ρ1 S1) : forL f (d :: ds) ρ S = forL f ds ρ1 S1 := by
  rw [forL, h]
theorem for_rt {f : D → Frame → Sto → SR} {d x : D} {o : Bool} {ds : List D} {ρ : Frame} {S S1 : Sto} (h : f d ρ S = .rt x o S1) : forL f (d :: ds) ρ S = .rt x o S1 := by
  rw [forL, h]
theorem comp_some {f : D → Sto → Res (Option D)} {d y : D} {ds ys : List D} {S S1 S2 : Sto} (h : f d S = .ok (some y) S1) (h2 : compL f ds S1 = .ok ys S2) : compL f (d :: ds) S = .ok (y :: ys) S2 := by
  rw [compL, h, bind_ok, h2, bind_ok]
theorem comp_none {f : D → Sto → Res (Option D)} {d : D} {ds ys : List D} {S S1 S2 : Sto} (h : f d S = .ok none S1) (h2 : compL f ds S1 = .ok ys S2) : compL f (d :: ds) S = .ok ys S2 := by
  rw [compL, h, bind_ok, h2, bind_ok]
end MP

set_option maxRecDepth 100000
set_option maxHeartbeats 4000000
/-! MiniPy: stepping by simp: the congruences tell what is evaluated first; loops are named. -/
namespace MP
open PySem PySem.Spec L2
open PyProof.Rows hiding St
theorem ite_cond {α : Type} (b : Bool) (x y : α) : (if b = true then x else y) = bif b then x else y := by cases b <;> rfl
def slotR (o : Option Slot) (S : Sto) : Res D := match o with
  | some (.own d) => .ok d S
  | some (.val d) => .ok d S
  | _ => .stuck
def slotV (o : Option Slot) (S : Sto) : Res D := match o with
  | some (.val d) => .ok d S
  | _ => .stuck
theorem slotR_o (d : D) (S : Sto) : slotR (some (.own d)) S = .ok d S := rfl
theorem slotR_v (d : D) (S : Sto) : slotR (some (.val d)) S = .ok d S := rfl
theorem slotV_v (d : D) (S : Sto) : slotV (some (.val d)) S = .ok d S := rfl
def rawE (C : Ev) (e : E) (ρ : Frame) (S : Sto) : Res D := raw ρ e (evE C e ρ S) S
def negD : D → Option D
  | .int i => some (.int (-i))
  | _ => none
def mkTup (xs : List D) (S : Sto) : Res D := if decide (xs.length ≤ szB) then .ok (.tup xs) S else .stuck
def mkLst (xs : List D) (S : Sto) : Res D := if decide (xs.length ≤ szB) then .ok (.lst xs) S else .stuck
theorem mkTup_ok {xs : List D} {S : Sto} (h : xs.length ≤ 1000) : mkTup xs S = .ok (.tup xs) S := by unfold mkTup szB; rw [if_pos (by simp; omega)]
theorem mkLst_ok {xs : List D} {S : Sto} (h : xs.length ≤ 1000) : mkLst xs S = .ok (.lst xs) S := by unfold mkLst szB; rw [if_pos (by simp; omega)]
def srevD : D → Option D
  | .lst xs => some (.lst xs.reverse)
  | _ => none
def frs (T : Tb) (f : Nat) : Bool := (T.fns[f]?).any (·.fr)
def mfind (T : Tb) (c : Nat) (m : Str) : Option Nat := (T.clss[c]?).bind fun k => k.meths.lookup m
def hasFd (T : Tb) (c : Nat) (f : Str) : Bool := (T.clss[c]?).any fun k => k.flds.contains f
def fldO (C : Ev) (f : Str) (o : Option Cell) (S : Sto) : Res D := match o with
  | some (.ins c fs) => bif hasFd C.tb c f then Res.of (lookF f fs) S else .stuck
  | _ => .stuck
def fldR (C : Ev) (f : Str) (x : D) (S : Sto) : Res D := match x with
  | .ref i => fldO C f S[i]? S
  | _ => .stuck
theorem fldR_ref (C : Ev) (f : Str) (i : Nat) (S : Sto) : fldR C f (.ref i) S = fldO C f S[i]? S := rfl
theorem fldO_ins (C : Ev) (f : Str) (c : Nat) (fs : List (Str × D)) (S : Sto) : fldO C f (some (.ins c fs)) S = bif hasFd C.tb c f then Res.of (lookF f fs) S else .stuck := rfl
def methG (C : Ev) (m : Str) (es : List E) (dd : List D) (fr : Bool) (i : Nat) (fs : List (Str × D)) (ρ : Frame) (S : Sto) (o : Option Nat) : Res D := match o with
  | some f => bif (fr && !frs C.tb f) || (lookF m fs).isSome then .stuck else (evEs C es ρ S).bind fun xs S => C.call f (.ref i :: (xs ++ dd)) S
  | none => .stuck
def methO (C : Ev) (m : Str) (es : List E) (dd : List D) (fr : Bool) (i : Nat) (ρ : Frame) (S : Sto) (o : Option Cell) : Res D := match o with
  | some (.ins c fs) => methG C m es dd fr i fs ρ S (mfind C.tb c m)
  | _ => .stuck
def methR (C : Ev) (m : Str) (es : List E) (dd : List D) (fr : Bool) (x : D) (ρ : Frame) (S : Sto) : Res D := match x with
  | .ref i => methO C m es dd fr i ρ S S[i]?
  | _ => .stuck
theorem methR_ref (C : Ev) (m : Str) (es : List E) (dd : List D) (fr : Bool) (i : Nat) (ρ : Frame) (S : Sto) : methR C m es dd fr (.ref i) ρ S = methO C m es dd fr i ρ S S[i]? := rfl
theorem methO_ins (C : Ev) (m : Str) (es : List E) (dd : List D) (fr : Bool) (i : Nat) (ρ : Frame) (S : Sto) (c : Nat) (fs : List (Str × D)) : methO C m es dd fr i ρ S (some (.ins c fs)) = methG C m es dd fr i fs ρ S (mfind C.tb c m) := rfl
theorem methG_some (C : Ev) (m : Str) (es : List E) (dd : List D) (fr : Bool) (i : Nat) (fs : List (Str × D)) (ρ : Frame) (S : Sto) (f : Nat) : methG C m es dd fr i fs ρ S (some f) = bif (fr && !frs C.tb f) || (lookF m fs).isSome then .stuck else (evEs C es ρ S).bind fun xs S => C.call f (.ref i :: (xs ++ dd)) S := rfl
def mcK (C : Ev) (f i : Nat) (dd : List D) (r : Res (List D)) : Res D := r.bind fun xs S => C.call f (.ref i :: (xs ++ dd)) S
theorem mcK_ok (C : Ev) (f i : Nat) (dd xs : List D) (S : Sto) : mcK C f i dd (.ok xs S) = C.call f (.ref i :: (xs ++ dd)) S := rfl
theorem mcK_ex (C : Ev) (f i : Nat) (dd : List D) (c : Nat) (S : Sto) : mcK C f i dd (.exc c S) = .exc c S := rfl
theorem methG_ok {C : Ev} {m : Str} {es : List E} {dd : List D} {fr : Bool} {i : Nat} {fs : List (Str × D)} {ρ : Frame} {S : Sto} {f : Nat} (h : (fr && !frs C.tb f) = false) (h2 : lookF m fs = none) : methG C m es dd fr i fs ρ S (some f) = mcK C f i dd (evEs C es ρ S) := by
  rw [methG_some, h, h2]
  rfl
theorem fldO_ok {C : Ev} {f : Str} {c : Nat} {fs : List (Str × D)} {S : Sto} (h : hasFd C.tb c f = true) : fldO C f (some (.ins c fs)) S = Res.of (lookF f fs) S := by
  rw [fldO_ins, h]
  rfl
def madeR (S : Sto) (r : Res D) : Res D := r.bind fun r S' => match r with
  | .non => .ok (.ref S.length) S'
  | _ => .stuck
theorem madeR_ok (S S' : Sto) : madeR S (.ok .non S') = .ok (.ref S.length) S' := rfl
theorem madeR_exc (S S' : Sto) (c : Nat) : madeR S (.exc c S') = .exc c S' := rfl
def newR (C : Ev) (c : Nat) (xs : List D) (S : Sto) (o : Option Nat) : Res D := match o with
  | some f => madeR S (C.call f (.ref S.length :: xs) (S ++ [.ins c []]))
  | none => .stuck
theorem newR_some (C : Ev) (c : Nat) (xs : List D) (S : Sto) (f : Nat) : newR C c xs S (some f) = madeR S (C.call f (.ref S.length :: xs) (S ++ [.ins c []])) := rfl
/-- a comprehension's step, its loop -/
def cmpStep (C : Ev) (elt : E) (ifs : List E) (x : D) (S0 : Sto) (o : Option Frame) (S : Sto) : Res (Option D) := guardS x S0 (match o with
  | some ρ => (evIf C ifs ρ S).bind fun b S' => match b with
    | true => (evE C elt ρ S').bind fun y S' => .ok (some y) S'
    | false => .ok none S'
  | none => .stuck)
def compLoop (C : Ev) (elt : E) (t : Tgt) (own : List Nat) (ifs : List E) (ρ : Frame) (x : D) (S0 : Sto) (xs : List D) (S : Sto) : Res (List D) := compL (fun d S' => cmpStep C elt ifs x S0 (bindT t d (wipeF ρ own)) S') xs S
def lstR (r : Res (List D)) : Res D := calm1 (r.bind fun ys S => .ok (.lst ys) S)
theorem lstR_ok (ys : List D) (S : Sto) : lstR (.ok ys S) = .ok (.lst ys) S := rfl
def compI (C : Ev) (elt : E) (t : Tgt) (own : List Nat) (ifs : List E) (ρ : Frame) (x : D) (o : Option (List D)) (S : Sto) : Res D := match o with
  | some xs => bif decide (xs.length ≤ szB) && ownOk ρ t own then lstR (compLoop C elt t own ifs ρ x S xs S) else .stuck
  | none => .stuck
theorem compI_some {C : Ev} {elt : E} {t : Tgt} {own : List Nat} {ifs : List E} {ρ : Frame} {x : D} {xs : List D} {S : Sto} (h : xs.length ≤ szB) (h2 : ownOk ρ t own = true) : compI C elt t own ifs ρ x (some xs) S = lstR (compLoop C elt t own ifs ρ x S xs S) := by
  unfold compI
  dsimp only
  rw [h2, decide_eq_true h]
  rfl
/-- a for's step, its loop -/
def forStep (C : Ev) (b : List MP.S) (x : D) (S0 : Sto) (o : Option Frame) (S : Sto) : SR := guardR x S0 (match o with
  | some ρ => exB C b ρ S
  | none => .stuck)
def forLoop (C : Ev) (t : Tgt) (b : List MP.S) (x : D) (S0 : Sto) (xs : List D) (ρ : Frame) (S : Sto) : SR := forL (fun d ρ S' => forStep C b x S0 (bindT t d ρ) S') xs ρ S
def forI (C : Ev) (t : Tgt) (b : List MP.S) (x : D) (o : Option (List D)) (ρ : Frame) (S : Sto) : SR := match o with
  | some xs => forLoop C t b x S xs ρ S
  | none => .stuck
theorem forI_some (C : Ev) (t : Tgt) (b : List MP.S) (x : D) (xs : List D) (ρ : Frame) (S : Sto) : forI C t b x (some xs) ρ S = forLoop C t b x S xs ρ S := rfl
def whlLoop (C : Ev) (c : E) (b : List MP.S) (k : Nat) (ρ : Frame) (S : Sto) : SR := whlL (fun ρ S => evT C c ρ S) (fun ρ S => exB C b ρ S) k ρ S
def calmS (C : Ev) (r : SR) : SR := if C.hot then .stuck else r
theorem calmS_ok {T : Tb} {f : Nat → List D → Sto → Res D} (r : SR) : calmS ⟨T, false, f⟩ r = r := rfl
theorem calmly_ok {α : Type} {T : Tb} {f : Nat → List D → Sto → Res D} (r : Res α) : calmly ⟨T, false, f⟩ r = r := rfl
def cellR (d : D) (S : Sto) : Res D := match cellOf d with
    | some c => .ok (.ref S.length) (S ++ [c])
    | none => .stuck
def enmD : D → Option D
  | .lst xs => some (.lst (enumL 0 xs))
  | _ => none
def intR (x : D) (S : Sto) : Res (Option Int) := match x with
    | .int i => .ok (some i) S
    | _ => .stuck
def asgR (o : Option Frame) (S : Sto) : SR := match o with
    | some ρ => .nx ρ S
    | none => .stuck
def augR (op : Operator) (i : Nat) (ρ : Frame) (x : Int) (y : D) (S : Sto) : SR := match y with
      | .int y => (match (if decide (op = .Pow) then none else intOp op x y) with
        | some z => .nx (ρ.set i (.val (.int z))) S
        | none => .stuck)
      | _ => .stuck
def augS (i : Nat) (ρ : Frame) (S : Sto) (o : Option Int) : SR := match o with
  | some z => .nx (ρ.set i (.val (.int z))) S
  | none => .stuck
def ownD (t : Option Tgt) (i : Nat) (ρ : Frame) (S : Sto) (o : Option (D × D)) : SR := match o with
      | some (d', r) => bindTo t r (ρ.set i (.own d')) S
      | none => .stuck
def fldS (C : Ev) (f : Str) (d : D) (ρ : Frame) (i : Nat) (S : Sto) (o : Option Cell) : SR := match o with
      | some (.ins c fs) => bif decide (fs.length < 1000) && hasFd C.tb c f then .nx ρ (S.set i (.ins c (putFd f d fs))) else .stuck
      | _ => .stuck
def fldT (C : Ev) (f : Str) (d : D) (ρ : Frame) (x : D) (S : Sto) : SR := match x with
    | .ref i => fldS C f d ρ i S S[i]?
    | _ => .stuck
def subL (ρ : Frame) (i : Nat) (xs : List D) (d : D) (S : Sto) (o : Option Nat) : SR := match o with
  | some j => .nx ρ (S.set i (.lst (xs.set j d)))
  | none => .stuck
def subO (ρ : Frame) (i : Nat) (y d : D) (S : Sto) (o : Option Cell) : SR := match o, y with
      | some (.lst xs), .int n => subL ρ i xs d S (ixN xs.length n)
      | some (.dk ks vs), y => (match keyD y with
        | some k => if decide (ks.length < szB) then (match cellOf (putB k d ks vs) with
          | some c => .nx ρ (S.set i c)
          | none => .stuck) else .stuck
        | none => .stuck)
      | _, _ => .stuck
def subR (ρ : Frame) (x y d : D) (S : Sto) : SR := match x with
    | .ref i => subO ρ i y d S S[i]?
    | _ => .stuck
def cmpBr (C : Ev) (elt : E) (ρ : Frame) (S : Sto) (b : Bool) : Res (Option D) := match b with
    | true => (evE C elt ρ S).bind fun y S' => .ok (some y) S'
    | false => .ok none S
def binK2 (op : Operator) (x : D) (r : Res (D)) : Res (D) := r.bind fun y S => Res.of (binD op (x.look S) (y.look S)) S
theorem binK2_ok (op : Operator) (x : D) (y : D) (S : Sto) : binK2 op x (.ok y S) = Res.of (binD op (x.look S) (y.look S)) S := rfl
theorem binK2_ex (op : Operator) (x : D) (c : Nat) (S : Sto) : binK2 op x (.exc c S) = .exc c S := rfl
def binK (C : Ev) (op : Operator) (b : E) (ρ : Frame) (r : Res (D)) : Res (D) := r.bind fun x S => binK2 op x (rawE C b ρ S)
theorem binK_ok (C : Ev) (op : Operator) (b : E) (ρ : Frame) (x : D) (S : Sto) : binK C op b ρ (.ok x S) = binK2 op x (rawE C b ρ S) := rfl
theorem binK_ex (C : Ev) (op : Operator) (b : E) (ρ : Frame) (c : Nat) (S : Sto) : binK C op b ρ (.exc c S) = .exc c S := rfl
def negK  (r : Res (D)) : Res (D) := r.bind fun x S => Res.of (negD x) S
theorem negK_ok  (x : D) (S : Sto) : negK  (.ok x S) = Res.of (negD x) S := rfl
theorem negK_ex  (c : Nat) (S : Sto) : negK  (.exc c S) = .exc c S := rfl
def cmpK2 (op : CmpOp) (x : D) (r : Res (D)) : Res (D) := r.bind fun y S => Res.of ((cmpD op (x.look S) (y.look S)).map .bl) S
theorem cmpK2_ok (op : CmpOp) (x : D) (y : D) (S : Sto) : cmpK2 op x (.ok y S) = Res.of ((cmpD op (x.look S) (y.look S)).map .bl) S := rfl
theorem cmpK2_ex (op : CmpOp) (x : D) (c : Nat) (S : Sto) : cmpK2 op x (.exc c S) = .exc c S := rfl
def cmpK (C : Ev) (op : CmpOp) (b : E) (ρ : Frame) (r : Res (D)) : Res (D) := r.bind fun x S => cmpK2 op x (rawE C b ρ S)
theorem cmpK_ok (C : Ev) (op : CmpOp) (b : E) (ρ : Frame) (x : D) (S : Sto) : cmpK C op b ρ (.ok x S) = cmpK2 op x (rawE C b ρ S) := rfl
theorem cmpK_ex (C : Ev) (op : CmpOp) (b : E) (ρ : Frame) (c : Nat) (S : Sto) : cmpK C op b ρ (.exc c S) = .exc c S := rfl
def chK4 (p : CmpOp) (y : D) (r : Res (D)) : Res (D) := r.bind fun z S => Res.of ((cmpD p y z).map .bl) S
theorem chK4_ok (p : CmpOp) (y : D) (z : D) (S : Sto) : chK4 p y (.ok z S) = Res.of ((cmpD p y z).map .bl) S := rfl
theorem chK4_ex (p : CmpOp) (y : D) (c : Nat) (S : Sto) : chK4 p y (.exc c S) = .exc c S := rfl
def chK3 (C : Ev) (p : CmpOp) (c : E) (ρ : Frame) (y : D) (S : Sto) (o : Option Bool) : Res D := match o with
  | some true => chK4 p y (evE C c ρ S)
  | some false => .ok (.bl false) S
  | none => .stuck
theorem chK3_t (C : Ev) (p : CmpOp) (c : E) (ρ : Frame) (y : D) (S : Sto) : chK3 C p c ρ y S (some true) = chK4 p y (evE C c ρ S) := rfl
theorem chK3_f (C : Ev) (p : CmpOp) (c : E) (ρ : Frame) (y : D) (S : Sto) : chK3 C p c ρ y S (some false) = .ok (.bl false) S := rfl
def chK2 (C : Ev) (o p : CmpOp) (c0 : E) (ρ : Frame) (x : D) (r : Res (D)) : Res (D) := r.bind fun y S => chK3 C p c0 ρ y S (cmpD o x y)
theorem chK2_ok (C : Ev) (o p : CmpOp) (c0 : E) (ρ : Frame) (x : D) (y : D) (S : Sto) : chK2 C o p c0 ρ x (.ok y S) = chK3 C p c0 ρ y S (cmpD o x y) := rfl
theorem chK2_ex (C : Ev) (o p : CmpOp) (c0 : E) (ρ : Frame) (x : D) (c : Nat) (S : Sto) : chK2 C o p c0 ρ x (.exc c S) = .exc c S := rfl
def chK (C : Ev) (o p : CmpOp) (b c0 : E) (ρ : Frame) (r : Res (D)) : Res (D) := r.bind fun x S => chK2 C o p c0 ρ x (evE C b ρ S)
theorem chK_ok (C : Ev) (o p : CmpOp) (b c0 : E) (ρ : Frame) (x : D) (S : Sto) : chK C o p b c0 ρ (.ok x S) = chK2 C o p c0 ρ x (evE C b ρ S) := rfl
theorem chK_ex (C : Ev) (o p : CmpOp) (b c0 : E) (ρ : Frame) (c : Nat) (S : Sto) : chK C o p b c0 ρ (.exc c S) = .exc c S := rfl
def andB (C : Ev) (b : E) (ρ : Frame) (x : D) (S : Sto) (o : Option Bool) : Res D := match o with
  | some true => evE C b ρ S
  | some false => .ok x S
  | none => .stuck
theorem andB_t (C : Ev) (b : E) (ρ : Frame) (x : D) (S : Sto) : andB C b ρ x S (some true) = evE C b ρ S := rfl
theorem andB_f (C : Ev) (b : E) (ρ : Frame) (x : D) (S : Sto) : andB C b ρ x S (some false) = .ok x S := rfl
def andK (C : Ev) (b : E) (ρ : Frame) (r : Res (D)) : Res (D) := r.bind fun x S => andB C b ρ x S (truD (x.look S))
theorem andK_ok (C : Ev) (b : E) (ρ : Frame) (x : D) (S : Sto) : andK C b ρ (.ok x S) = andB C b ρ x S (truD (x.look S)) := rfl
theorem andK_ex (C : Ev) (b : E) (ρ : Frame) (c : Nat) (S : Sto) : andK C b ρ (.exc c S) = .exc c S := rfl
def orB (C : Ev) (b : E) (ρ : Frame) (x : D) (S : Sto) (o : Option Bool) : Res D := match o with
  | some true => .ok x S
  | some false => evE C b ρ S
  | none => .stuck
theorem orB_t (C : Ev) (b : E) (ρ : Frame) (x : D) (S : Sto) : orB C b ρ x S (some true) = .ok x S := rfl
theorem orB_f (C : Ev) (b : E) (ρ : Frame) (x : D) (S : Sto) : orB C b ρ x S (some false) = evE C b ρ S := rfl
def orK (C : Ev) (b : E) (ρ : Frame) (r : Res (D)) : Res (D) := r.bind fun x S => orB C b ρ x S (truD (x.look S))
theorem orK_ok (C : Ev) (b : E) (ρ : Frame) (x : D) (S : Sto) : orK C b ρ (.ok x S) = orB C b ρ x S (truD (x.look S)) := rfl
theorem orK_ex (C : Ev) (b : E) (ρ : Frame) (c : Nat) (S : Sto) : orK C b ρ (.exc c S) = .exc c S := rfl
def notK  (r : Res (D)) : Res (D) := r.bind fun x S => Res.of ((truD (x.look S)).map fun b => .bl (!b)) S
theorem notK_ok  (x : D) (S : Sto) : notK  (.ok x S) = Res.of ((truD (x.look S)).map fun b => .bl (!b)) S := rfl
theorem notK_ex  (c : Nat) (S : Sto) : notK  (.exc c S) = .exc c S := rfl
def iteB (C : Ev) (a b : E) (ρ : Frame) (S : Sto) (o : Option Bool) : Res D := match o with
  | some true => evE C a ρ S
  | some false => evE C b ρ S
  | none => .stuck
theorem iteB_t (C : Ev) (a b : E) (ρ : Frame) (S : Sto) : iteB C a b ρ S (some true) = evE C a ρ S := rfl
theorem iteB_f (C : Ev) (a b : E) (ρ : Frame) (S : Sto) : iteB C a b ρ S (some false) = evE C b ρ S := rfl
def iteK (C : Ev) (a b : E) (ρ : Frame) (r : Res (D)) : Res (D) := r.bind fun x S => iteB C a b ρ S (truD (x.look S))
theorem iteK_ok (C : Ev) (a b : E) (ρ : Frame) (x : D) (S : Sto) : iteK C a b ρ (.ok x S) = iteB C a b ρ S (truD (x.look S)) := rfl
theorem iteK_ex (C : Ev) (a b : E) (ρ : Frame) (c : Nat) (S : Sto) : iteK C a b ρ (.exc c S) = .exc c S := rfl
def esK2 (x : D) (r : Res (List D)) : Res (List D) := r.bind fun xs S => .ok (x :: xs) S
theorem esK2_ok (x : D) (xs : List D) (S : Sto) : esK2 x (.ok xs S) = .ok (x :: xs) S := rfl
theorem esK2_ex (x : D) (c : Nat) (S : Sto) : esK2 x (.exc c S) = .exc c S := rfl
def esK (C : Ev) (es : List E) (ρ : Frame) (r : Res (D)) : Res (List D) := r.bind fun x S => esK2 x (evEs C es ρ S)
theorem esK_ok (C : Ev) (es : List E) (ρ : Frame) (x : D) (S : Sto) : esK C es ρ (.ok x S) = esK2 x (evEs C es ρ S) := rfl
theorem esK_ex (C : Ev) (es : List E) (ρ : Frame) (c : Nat) (S : Sto) : esK C es ρ (.exc c S) = .exc c S := rfl
def rsK (C : Ev) (es : List E) (ρ : Frame) (r : Res (D)) : Res (List D) := r.bind fun x S => esK2 x (evRs C es ρ S)
theorem rsK_ok (C : Ev) (es : List E) (ρ : Frame) (x : D) (S : Sto) : rsK C es ρ (.ok x S) = esK2 x (evRs C es ρ S) := rfl
theorem rsK_ex (C : Ev) (es : List E) (ρ : Frame) (c : Nat) (S : Sto) : rsK C es ρ (.exc c S) = .exc c S := rfl
def tupK  (r : Res (List D)) : Res (D) := r.bind fun xs S => mkTup xs S
theorem tupK_ok  (xs : List D) (S : Sto) : tupK  (.ok xs S) = mkTup xs S := rfl
theorem tupK_ex  (c : Nat) (S : Sto) : tupK  (.exc c S) = .exc c S := rfl
def lstK  (r : Res (List D)) : Res (D) := r.bind fun xs S => mkLst xs S
theorem lstK_ok  (xs : List D) (S : Sto) : lstK  (.ok xs S) = mkLst xs S := rfl
theorem lstK_ex  (c : Nat) (S : Sto) : lstK  (.exc c S) = .exc c S := rfl
def idxK2 (x : D) (r : Res (D)) : Res (D) := r.bind fun y S => Res.of (idxD (x.look S) y) S
theorem idxK2_ok (x : D) (y : D) (S : Sto) : idxK2 x (.ok y S) = Res.of (idxD (x.look S) y) S := rfl
theorem idxK2_ex (x : D) (c : Nat) (S : Sto) : idxK2 x (.exc c S) = .exc c S := rfl
def idxK (C : Ev) (i : E) (ρ : Frame) (r : Res (D)) : Res (D) := r.bind fun x S => idxK2 x (evE C i ρ S)
theorem idxK_ok (C : Ev) (i : E) (ρ : Frame) (x : D) (S : Sto) : idxK C i ρ (.ok x S) = idxK2 x (evE C i ρ S) := rfl
theorem idxK_ex (C : Ev) (i : E) (ρ : Frame) (c : Nat) (S : Sto) : idxK C i ρ (.exc c S) = .exc c S := rfl
def slcK3 (x : D) (l : Option Int) (r : Res (Option Int)) : Res (D) := r.bind fun h S => Res.of (slcD (x.look S) l h) S
theorem slcK3_ok (x : D) (l : Option Int) (h : Option Int) (S : Sto) : slcK3 x l (.ok h S) = Res.of (slcD (x.look S) l h) S := rfl
theorem slcK3_ex (x : D) (l : Option Int) (c : Nat) (S : Sto) : slcK3 x l (.exc c S) = .exc c S := rfl
def slcK2 (C : Ev) (hi : Option E) (ρ : Frame) (x : D) (r : Res (Option Int)) : Res (D) := r.bind fun l S => slcK3 x l (evO C hi ρ S)
theorem slcK2_ok (C : Ev) (hi : Option E) (ρ : Frame) (x : D) (l : Option Int) (S : Sto) : slcK2 C hi ρ x (.ok l S) = slcK3 x l (evO C hi ρ S) := rfl
theorem slcK2_ex (C : Ev) (hi : Option E) (ρ : Frame) (x : D) (c : Nat) (S : Sto) : slcK2 C hi ρ x (.exc c S) = .exc c S := rfl
def slcK (C : Ev) (lo hi : Option E) (ρ : Frame) (r : Res (D)) : Res (D) := r.bind fun x S => slcK2 C hi ρ x (evO C lo ρ S)
theorem slcK_ok (C : Ev) (lo hi : Option E) (ρ : Frame) (x : D) (S : Sto) : slcK C lo hi ρ (.ok x S) = slcK2 C hi ρ x (evO C lo ρ S) := rfl
theorem slcK_ex (C : Ev) (lo hi : Option E) (ρ : Frame) (c : Nat) (S : Sto) : slcK C lo hi ρ (.exc c S) = .exc c S := rfl
def intK  (r : Res (D)) : Res (Option Int) := r.bind fun x S => intR x S
theorem intK_ok  (x : D) (S : Sto) : intK  (.ok x S) = intR x S := rfl
theorem intK_ex  (c : Nat) (S : Sto) : intK  (.exc c S) = .exc c S := rfl
def srevK  (r : Res (D)) : Res (D) := r.bind fun x S => Res.of (srevD (x.look S)) S
theorem srevK_ok  (x : D) (S : Sto) : srevK  (.ok x S) = Res.of (srevD (x.look S)) S := rfl
theorem srevK_ex  (c : Nat) (S : Sto) : srevK  (.exc c S) = .exc c S := rfl
def callK (C : Ev) (f : Nat) (dd : List D) (r : Res (List D)) : Res (D) := r.bind fun xs S => C.call f (xs ++ dd) S
theorem callK_ok (C : Ev) (f : Nat) (dd : List D) (xs : List D) (S : Sto) : callK C f dd (.ok xs S) = C.call f (xs ++ dd) S := rfl
theorem callK_ex (C : Ev) (f : Nat) (dd : List D) (c : Nat) (S : Sto) : callK C f dd (.exc c S) = .exc c S := rfl
def newK (C : Ev) (cl : Nat) (dd : List D) (r : Res (List D)) : Res (D) := r.bind fun xs S => newR C cl (xs ++ dd) S (mfind C.tb cl "__init__")
theorem newK_ok (C : Ev) (cl : Nat) (dd : List D) (xs : List D) (S : Sto) : newK C cl dd (.ok xs S) = newR C cl (xs ++ dd) S (mfind C.tb cl "__init__") := rfl
theorem newK_ex (C : Ev) (cl : Nat) (dd : List D) (c : Nat) (S : Sto) : newK C cl dd (.exc c S) = .exc c S := rfl
def fldK (C : Ev) (f : Str) (r : Res (D)) : Res (D) := r.bind fun x S => fldR C f x S
theorem fldK_ok (C : Ev) (f : Str) (x : D) (S : Sto) : fldK C f (.ok x S) = fldR C f x S := rfl
theorem fldK_ex (C : Ev) (f : Str) (c : Nat) (S : Sto) : fldK C f (.exc c S) = .exc c S := rfl
def bltK (f : Bf) (r : Res (List D)) : Res (D) := r.bind fun xs S => Res.of (bltD f (xs.map (D.look S))) S
theorem bltK_ok (f : Bf) (xs : List D) (S : Sto) : bltK f (.ok xs S) = Res.of (bltD f (xs.map (D.look S))) S := rfl
theorem bltK_ex (f : Bf) (c : Nat) (S : Sto) : bltK f (.exc c S) = .exc c S := rfl
def mtK2 (m : Mt) (x : D) (r : Res (List D)) : Res (D) := r.bind fun xs S => Res.of (mtD m (x.look S) (xs.map (D.look S))) S
theorem mtK2_ok (m : Mt) (x : D) (xs : List D) (S : Sto) : mtK2 m x (.ok xs S) = Res.of (mtD m (x.look S) (xs.map (D.look S))) S := rfl
theorem mtK2_ex (m : Mt) (x : D) (c : Nat) (S : Sto) : mtK2 m x (.exc c S) = .exc c S := rfl
def mtK (C : Ev) (m : Mt) (es : List E) (ρ : Frame) (r : Res (D)) : Res (D) := r.bind fun x S => mtK2 m x (evRs C es ρ S)
theorem mtK_ok (C : Ev) (m : Mt) (es : List E) (ρ : Frame) (x : D) (S : Sto) : mtK C m es ρ (.ok x S) = mtK2 m x (evRs C es ρ S) := rfl
theorem mtK_ex (C : Ev) (m : Mt) (es : List E) (ρ : Frame) (c : Nat) (S : Sto) : mtK C m es ρ (.exc c S) = .exc c S := rfl
def compK (C : Ev) (elt : E) (t : Tgt) (own : List Nat) (ifs : List E) (ρ : Frame) (r : Res (D)) : Res (D) := r.bind fun x S => compI C elt t own ifs ρ x (itemsD (x.look S)) S
theorem compK_ok (C : Ev) (elt : E) (t : Tgt) (own : List Nat) (ifs : List E) (ρ : Frame) (x : D) (S : Sto) : compK C elt t own ifs ρ (.ok x S) = compI C elt t own ifs ρ x (itemsD (x.look S)) S := rfl
theorem compK_ex (C : Ev) (elt : E) (t : Tgt) (own : List Nat) (ifs : List E) (ρ : Frame) (c : Nat) (S : Sto) : compK C elt t own ifs ρ (.exc c S) = .exc c S := rfl
def cellK  (r : Res (D)) : Res (D) := r.bind fun x S => cellR x S
theorem cellK_ok  (x : D) (S : Sto) : cellK  (.ok x S) = cellR x S := rfl
theorem cellK_ex  (c : Nat) (S : Sto) : cellK  (.exc c S) = .exc c S := rfl
def rngK  (r : Res (List D)) : Res (D) := r.bind fun xs S => Res.of ((rngD xs).map .lst) S
theorem rngK_ok  (xs : List D) (S : Sto) : rngK  (.ok xs S) = Res.of ((rngD xs).map .lst) S := by unfold rngK; rw [bind_ok]
theorem rngK_ex  (c : Nat) (S : Sto) : rngK  (.exc c S) = .exc c S := rfl
def enmK  (r : Res (D)) : Res (D) := r.bind fun x S => Res.of (enmD x) S
theorem enmK_ok  (x : D) (S : Sto) : enmK  (.ok x S) = Res.of (enmD x) S := rfl
theorem enmK_ex  (c : Nat) (S : Sto) : enmK  (.exc c S) = .exc c S := rfl
def revK  (r : Res (D)) : Res (D) := r.bind fun x S => Res.of (srevD x) S
theorem revK_ok  (x : D) (S : Sto) : revK  (.ok x S) = Res.of (srevD x) S := rfl
theorem revK_ex  (c : Nat) (S : Sto) : revK  (.exc c S) = .exc c S := rfl
def ifB (C : Ev) (es : List E) (ρ : Frame) (S : Sto) (o : Option Bool) : Res Bool := match o with
  | some true => evIf C es ρ S
  | some false => .ok false S
  | none => .stuck
theorem ifB_t (C : Ev) (es : List E) (ρ : Frame) (S : Sto) : ifB C es ρ S (some true) = evIf C es ρ S := rfl
theorem ifB_f (C : Ev) (es : List E) (ρ : Frame) (S : Sto) : ifB C es ρ S (some false) = .ok false S := rfl
def ifK (C : Ev) (es : List E) (ρ : Frame) (r : Res (D)) : Res (Bool) := r.bind fun x S => ifB C es ρ S (truD (x.look S))
theorem ifK_ok (C : Ev) (es : List E) (ρ : Frame) (x : D) (S : Sto) : ifK C es ρ (.ok x S) = ifB C es ρ S (truD (x.look S)) := rfl
theorem ifK_ex (C : Ev) (es : List E) (ρ : Frame) (c : Nat) (S : Sto) : ifK C es ρ (.exc c S) = .exc c S := rfl
def ttK  (r : Res (D)) : Res (Bool) := r.bind fun x S => Res.of (truD (x.look S)) S
theorem ttK_ok  (x : D) (S : Sto) : ttK  (.ok x S) = Res.of (truD (x.look S)) S := rfl
theorem ttK_ex  (c : Nat) (S : Sto) : ttK  (.exc c S) = .exc c S := rfl
def cmK (C : Ev) (elt : E) (ρ : Frame) (r : Res (Bool)) : Res (Option D) := r.bind fun x S => cmpBr C elt ρ S x
theorem cmK_ok (C : Ev) (elt : E) (ρ : Frame) (x : Bool) (S : Sto) : cmK C elt ρ (.ok x S) = cmpBr C elt ρ S x := rfl
theorem cmK_ex (C : Ev) (elt : E) (ρ : Frame) (c : Nat) (S : Sto) : cmK C elt ρ (.exc c S) = .exc c S := rfl
def cmK2  (r : Res (D)) : Res (Option D) := r.bind fun x S => .ok (some x) S
theorem cmK2_ok  (x : D) (S : Sto) : cmK2  (.ok x S) = .ok (some x) S := rfl
theorem cmK2_ex  (c : Nat) (S : Sto) : cmK2  (.exc c S) = .exc c S := rfl
def stK (i : Nat) (f : Bool) (ρ : Frame) (r : Res (D)) : SR := r.to ρ fun x S => .nx (ρ.set i (slotOf f x)) S
theorem stK_ok (i : Nat) (f : Bool) (ρ : Frame) (x : D) (S : Sto) : stK i f ρ (.ok x S) = .nx (ρ.set i (slotOf f x)) S := rfl
theorem stK_ex (i : Nat) (f : Bool) (ρ : Frame) (kx : Nat) (S : Sto) : stK i f ρ (.exc kx S) = .ex kx ρ S := rfl
def asgK (t : Tgt) (ρ : Frame) (r : Res (D)) : SR := r.to ρ fun x S => asgR (bindT t x ρ) S
theorem asgK_ok (t : Tgt) (ρ : Frame) (x : D) (S : Sto) : asgK t ρ (.ok x S) = asgR (bindT t x ρ) S := rfl
theorem asgK_ex (t : Tgt) (ρ : Frame) (kx : Nat) (S : Sto) : asgK t ρ (.exc kx S) = .ex kx ρ S := rfl
def augK (op : Operator) (i : Nat) (x : Int) (ρ : Frame) (r : Res (D)) : SR := r.to ρ fun y S => augR op i ρ x y S
theorem augK_ok (op : Operator) (i : Nat) (x : Int) (ρ : Frame) (y : D) (S : Sto) : augK op i x ρ (.ok y S) = augR op i ρ x y S := rfl
theorem augK_ex (op : Operator) (i : Nat) (x : Int) (ρ : Frame) (kx : Nat) (S : Sto) : augK op i x ρ (.exc kx S) = .ex kx ρ S := rfl
def expK  (ρ : Frame) (r : Res (D)) : SR := r.to ρ fun x S => .nx ρ S
theorem expK_ok  (ρ : Frame) (x : D) (S : Sto) : expK  ρ (.ok x S) = .nx ρ S := rfl
theorem expK_ex  (ρ : Frame) (kx : Nat) (S : Sto) : expK  ρ (.exc kx S) = .ex kx ρ S := rfl
def brSt (C : Ev) (a b : List MP.S) (ρ : Frame) (S : Sto) (x : Bool) : SR := match x with
  | true => exB C a ρ S
  | false => exB C b ρ S
theorem brSt_t (C : Ev) (a b : List MP.S) (ρ : Frame) (S : Sto) : brSt C a b ρ S true = exB C a ρ S := rfl
theorem brSt_f (C : Ev) (a b : List MP.S) (ρ : Frame) (S : Sto) : brSt C a b ρ S false = exB C b ρ S := rfl
def sifK (C : Ev) (a b : List MP.S) (ρ : Frame) (r : Res (Bool)) : SR := r.to ρ fun x S => brSt C a b ρ S x
theorem sifK_ok (C : Ev) (a b : List MP.S) (ρ : Frame) (x : Bool) (S : Sto) : sifK C a b ρ (.ok x S) = brSt C a b ρ S x := rfl
theorem sifK_ex (C : Ev) (a b : List MP.S) (ρ : Frame) (kx : Nat) (S : Sto) : sifK C a b ρ (.exc kx S) = .ex kx ρ S := rfl
def forK (C : Ev) (t : Tgt) (b : List MP.S) (ρ : Frame) (r : Res (D)) : SR := r.to ρ fun x S => forI C t b x (itemsD (x.look S)) ρ S
theorem forK_ok (C : Ev) (t : Tgt) (b : List MP.S) (ρ : Frame) (x : D) (S : Sto) : forK C t b ρ (.ok x S) = forI C t b x (itemsD (x.look S)) ρ S := rfl
theorem forK_ex (C : Ev) (t : Tgt) (b : List MP.S) (ρ : Frame) (kx : Nat) (S : Sto) : forK C t b ρ (.exc kx S) = .ex kx ρ S := rfl
def retK (f : Bool) (ρ : Frame) (r : Res (D)) : SR := r.to ρ fun x S => .rt x f S
theorem retK_ok (f : Bool) (ρ : Frame) (x : D) (S : Sto) : retK f ρ (.ok x S) = .rt x f S := rfl
theorem retK_ex (f : Bool) (ρ : Frame) (kx : Nat) (S : Sto) : retK f ρ (.exc kx S) = .ex kx ρ S := rfl
def fstK2 (C : Ev) (f : Str) (d : D) (ρ : Frame) (r : Res (D)) : SR := r.to ρ fun x S => fldT C f d ρ x S
theorem fstK2_ok (C : Ev) (f : Str) (d : D) (ρ : Frame) (x : D) (S : Sto) : fstK2 C f d ρ (.ok x S) = fldT C f d ρ x S := rfl
theorem fstK2_ex (C : Ev) (f : Str) (d : D) (ρ : Frame) (kx : Nat) (S : Sto) : fstK2 C f d ρ (.exc kx S) = .ex kx ρ S := rfl
def fstK (C : Ev) (o : E) (f : Str) (ρ : Frame) (r : Res (D)) : SR := r.to ρ fun x S => fstK2 C f x ρ (evE C o ρ S)
theorem fstK_ok (C : Ev) (o : E) (f : Str) (ρ : Frame) (x : D) (S : Sto) : fstK C o f ρ (.ok x S) = fstK2 C f x ρ (evE C o ρ S) := rfl
theorem fstK_ex (C : Ev) (o : E) (f : Str) (ρ : Frame) (kx : Nat) (S : Sto) : fstK C o f ρ (.exc kx S) = .ex kx ρ S := rfl
def subK3 (x d : D) (ρ : Frame) (r : Res (D)) : SR := r.to ρ fun y S => subR ρ x y d S
theorem subK3_ok (x d : D) (ρ : Frame) (y : D) (S : Sto) : subK3 x d ρ (.ok y S) = subR ρ x y d S := rfl
theorem subK3_ex (x d : D) (ρ : Frame) (kx : Nat) (S : Sto) : subK3 x d ρ (.exc kx S) = .ex kx ρ S := rfl
def subK2 (C : Ev) (k : E) (d : D) (ρ : Frame) (r : Res (D)) : SR := r.to ρ fun x S => subK3 x d ρ (evE C k ρ S)
theorem subK2_ok (C : Ev) (k : E) (d : D) (ρ : Frame) (x : D) (S : Sto) : subK2 C k d ρ (.ok x S) = subK3 x d ρ (evE C k ρ S) := rfl
theorem subK2_ex (C : Ev) (k : E) (d : D) (ρ : Frame) (kx : Nat) (S : Sto) : subK2 C k d ρ (.exc kx S) = .ex kx ρ S := rfl
def subK (C : Ev) (o k : E) (ρ : Frame) (r : Res (D)) : SR := r.to ρ fun x S => subK2 C k x ρ (evE C o ρ S)
theorem subK_ok (C : Ev) (o k : E) (ρ : Frame) (x : D) (S : Sto) : subK C o k ρ (.ok x S) = subK2 C k x ρ (evE C o ρ S) := rfl
theorem subK_ex (C : Ev) (o k : E) (ρ : Frame) (kx : Nat) (S : Sto) : subK C o k ρ (.exc kx S) = .ex kx ρ S := rfl
def apdK (t : Option Tgt) (i : Nat) (l : D) (ρ : Frame) (r : Res (D)) : SR := r.to ρ fun x S => ownD t i ρ S (appendD l [x])
theorem apdK_ok (t : Option Tgt) (i : Nat) (l : D) (ρ : Frame) (x : D) (S : Sto) : apdK t i l ρ (.ok x S) = ownD t i ρ S (appendD l [x]) := rfl
theorem apdK_ex (t : Option Tgt) (i : Nat) (l : D) (ρ : Frame) (kx : Nat) (S : Sto) : apdK t i l ρ (.exc kx S) = .ex kx ρ S := rfl
def xtdK (t : Option Tgt) (i : Nat) (l : D) (ρ : Frame) (r : Res (D)) : SR := r.to ρ fun x S => ownD t i ρ S (extendD l [x.look S])
theorem xtdK_ok (t : Option Tgt) (i : Nat) (l : D) (ρ : Frame) (x : D) (S : Sto) : xtdK t i l ρ (.ok x S) = ownD t i ρ S (extendD l [x.look S]) := rfl
theorem xtdK_ex (t : Option Tgt) (i : Nat) (l : D) (ρ : Frame) (kx : Nat) (S : Sto) : xtdK t i l ρ (.exc kx S) = .ex kx ρ S := rfl
def popK (t : Option Tgt) (i : Nat) (l : D) (ρ : Frame) (r : Res (D)) : SR := r.to ρ fun x S => ownD t i ρ S (popAtD l [x.look S])
theorem popK_ok (t : Option Tgt) (i : Nat) (l : D) (ρ : Frame) (x : D) (S : Sto) : popK t i l ρ (.ok x S) = ownD t i ρ S (popAtD l [x.look S]) := rfl
theorem popK_ex (t : Option Tgt) (i : Nat) (l : D) (ρ : Frame) (kx : Nat) (S : Sto) : popK t i l ρ (.exc kx S) = .ex kx ρ S := rfl
def sdfK (t : Option Tgt) (i : Nat) (l : D) (ρ : Frame) (r : Res (List D)) : SR := r.to ρ fun xs S => ownD t i ρ S (setdefD l xs)
theorem sdfK_ok (t : Option Tgt) (i : Nat) (l : D) (ρ : Frame) (xs : List D) (S : Sto) : sdfK t i l ρ (.ok xs S) = ownD t i ρ S (setdefD l xs) := rfl
theorem sdfK_ex (t : Option Tgt) (i : Nat) (l : D) (ρ : Frame) (kx : Nat) (S : Sto) : sdfK t i l ρ (.exc kx S) = .ex kx ρ S := rfl
def seqB (C : Ev) (ss : List MP.S) (r : SR) : SR := r.seq fun ρ S => exB C ss ρ S
theorem seqB_nx (C : Ev) (ss : List MP.S) (ρ : Frame) (S : Sto) : seqB C ss (.nx ρ S) = exB C ss ρ S := rfl
theorem seqB_rt (C : Ev) (ss : List MP.S) (d : D) (o : Bool) (S : Sto) : seqB C ss (.rt d o S) = .rt d o S := rfl
theorem seqB_ex (C : Ev) (ss : List MP.S) (c : Nat) (ρ : Frame) (S : Sto) : seqB C ss (.ex c ρ S) = .ex c ρ S := rfl
theorem seqB_bk (C : Ev) (ss : List MP.S) (ρ : Frame) (S : Sto) : seqB C ss (.bk ρ S) = .bk ρ S := rfl
theorem seqB_ct (C : Ev) (ss : List MP.S) (ρ : Frame) (S : Sto) : seqB C ss (.ct ρ S) = .ct ρ S := rfl
def methK (C : Ev) (m : Str) (es : List E) (dd : List D) (fr : Bool) (ρ : Frame) (r : Res D) : Res D := r.bind fun x S => methR C m es dd fr x ρ S
theorem methK_ok (C : Ev) (m : Str) (es : List E) (dd : List D) (fr : Bool) (ρ : Frame) (x : D) (S : Sto) : methK C m es dd fr ρ (.ok x S) = methR C m es dd fr x ρ S := rfl
theorem methK_ex (C : Ev) (m : Str) (es : List E) (dd : List D) (fr : Bool) (ρ : Frame) (c : Nat) (S : Sto) : methK C m es dd fr ρ (.exc c S) = .exc c S := rfl
section
variable {C : Ev} {ρ : Frame} {S : Sto}
theorem rw_e {e : E} (h : ∀ i, e ≠ .var i) : rawE C e ρ S = evE C e ρ S := by
  unfold rawE raw
  split
  · exact (h _ rfl).elim
  · rfl
theorem rw_var (i : Nat) : rawE C (.var i) ρ S = slotR ρ[i]? S := by unfold rawE raw slotR; rfl
theorem rw_const (d : D) : rawE C (.const d) ρ S = .ok d S := by rw [rw_e (by intro i h; cases h), evE_const]
theorem rw_bin (op : Operator) (a b : E) : rawE C (.bin op a b) ρ S = evE C (.bin op a b) ρ S := rfl
theorem rw_neg (a : E) : rawE C (.neg a) ρ S = evE C (.neg a) ρ S := rfl
theorem rw_cmp (op : CmpOp) (a b : E) : rawE C (.cmp op a b) ρ S = evE C (.cmp op a b) ρ S := rfl
theorem rw_chain (o p : CmpOp) (a b c : E) : rawE C (.chain o p a b c) ρ S = evE C (.chain o p a b c) ρ S := rfl
theorem rw_and (a b : E) : rawE C (.and a b) ρ S = evE C (.and a b) ρ S := rfl
theorem rw_or (a b : E) : rawE C (.or a b) ρ S = evE C (.or a b) ρ S := rfl
theorem rw_not (a : E) : rawE C (.not a) ρ S = evE C (.not a) ρ S := rfl
theorem rw_ite (c a b : E) : rawE C (.ite c a b) ρ S = evE C (.ite c a b) ρ S := rfl
theorem rw_tup (es : List E) : rawE C (.tup es) ρ S = evE C (.tup es) ρ S := rfl
theorem rw_lst (es : List E) : rawE C (.lst es) ρ S = evE C (.lst es) ρ S := rfl
theorem rw_dct (t : Bool) (ks vs : List E) : rawE C (.dct t ks vs) ρ S = evE C (.dct t ks vs) ρ S := rfl
theorem rw_idx (a i : E) : rawE C (.idx a i) ρ S = evE C (.idx a i) ρ S := rfl
theorem rw_slc (a : E) (lo hi : Option E) : rawE C (.slc a lo hi) ρ S = evE C (.slc a lo hi) ρ S := rfl
theorem rw_srev (a : E) : rawE C (.srev a) ρ S = evE C (.srev a) ρ S := rfl
theorem rw_call (f : Nat) (es : List E) (dd : List D) : rawE C (.call f es dd) ρ S = evE C (.call f es dd) ρ S := rfl
theorem rw_callv (f : E) (es : List E) : rawE C (.callv f es) ρ S = evE C (.callv f es) ρ S := rfl
theorem rw_new (c : Nat) (es : List E) (dd : List D) : rawE C (.new c es dd) ρ S = evE C (.new c es dd) ρ S := rfl
theorem rw_meth (o : E) (m : Str) (es : List E) (dd : List D) (fr : Bool) : rawE C (.meth o m es dd fr) ρ S = evE C (.meth o m es dd fr) ρ S := rfl
theorem rw_fld (o : E) (f : Str) : rawE C (.fld o f) ρ S = evE C (.fld o f) ρ S := rfl
theorem rw_blt (f : Bf) (es : List E) : rawE C (.blt f es) ρ S = evE C (.blt f es) ρ S := rfl
theorem rw_mt (m : Mt) (o : E) (es : List E) : rawE C (.mt m o es) ρ S = evE C (.mt m o es) ρ S := rfl
theorem rw_mm (m : Mm) (o : E) (es : List E) : rawE C (.mm m o es) ρ S = evE C (.mm m o es) ρ S := rfl
theorem rw_comp (elt : E) (t : Tgt) (own : List Nat) (it : E) (ifs : List E) : rawE C (.comp elt t own it ifs) ρ S = evE C (.comp elt t own it ifs) ρ S := rfl
theorem rw_rng (es : List E) : rawE C (.rng es) ρ S = evE C (.rng es) ρ S := rfl
theorem rw_enm (e : E) : rawE C (.enm e) ρ S = evE C (.enm e) ρ S := rfl
theorem rw_rev (e : E) : rawE C (.rev e) ρ S = evE C (.rev e) ρ S := rfl
theorem rw_itm (e : E) : rawE C (.itm e) ρ S = evE C (.itm e) ρ S := rfl
theorem rw_unc (e : E) : rawE C (.unc e) ρ S = evE C (.unc e) ρ S := rfl
theorem rw_cell (e : E) : rawE C (.cell e) ρ S = evE C (.cell e) ρ S := rfl
theorem ev_var (i : Nat) : evE C (.var i) ρ S = slotV ρ[i]? S := by rw [evE_var]; rfl
theorem ev_const (d : D) : evE C (.const d) ρ S = .ok d S := evE_const
theorem ev_bin (op : Operator) (a b : E) : evE C (.bin op a b) ρ S = binK C op b ρ (rawE C a ρ S) := evE_bin
theorem ev_neg (a : E) : evE C (.neg a) ρ S = negK (evE C a ρ S) := by
  rw [evE_neg]
  unfold negK
  congr 1
  funext x S
  cases x <;> rfl
theorem ev_cmp (op : CmpOp) (a b : E) : evE C (.cmp op a b) ρ S = cmpK C op b ρ (rawE C a ρ S) := evE_cmp
theorem ev_chain (o p : CmpOp) (a b c : E) : evE C (.chain o p a b c) ρ S = chK C o p b c ρ (evE C a ρ S) := by
  rw [evE_chain]; rfl
theorem ev_and (a b : E) : evE C (.and a b) ρ S = andK C b ρ (evE C a ρ S) := by
  rw [evE_and]; rfl
theorem ev_or (a b : E) : evE C (.or a b) ρ S = orK C b ρ (evE C a ρ S) := by
  rw [evE_or]; rfl
theorem rdv_eq (e : E) : rdv ρ e (evE C e ρ S) S = (rawE C e ρ S).bind fun x S => .ok (x.look S) S := rfl
theorem bind_bind {α β γ : Type} (r : Res α) (f : α → Sto → Res β) (g : β → Sto → Res γ) : (r.bind f).bind g = r.bind fun a S => (f a S).bind g := by cases r <;> rfl
theorem ev_not (a : E) : evE C (.not a) ρ S = notK (rawE C a ρ S) := by
  rw [evE_not, rdv_eq, bind_bind]
  unfold notK
  congr 1
  funext x S
  rw [bind_ok]
  cases truD (x.look S) <;> rfl
theorem ev_ite (c a b : E) : evE C (.ite c a b) ρ S = iteK C a b ρ (rawE C c ρ S) := by
  rw [evE_ite, rdv_eq, bind_bind]; rfl
theorem ev_tup (es : List E) : evE C (.tup es) ρ S = tupK (evEs C es ρ S) := evE_tup
theorem ev_lst (es : List E) : evE C (.lst es) ρ S = lstK (evEs C es ρ S) := evE_lst
theorem ev_dct0 : evE C (.dct true [] []) ρ S = .ok (.dt [] []) S := by rw [evE_dct]; simp only [evEs_nil, bind_ok]
theorem ev_dct1 : evE C (.dct false [] []) ρ S = .ok (.dk [] []) S := by rw [evE_dct]; simp only [evEs_nil, bind_ok]; rfl
theorem ev_idx (a i : E) : evE C (.idx a i) ρ S = idxK C i ρ (rawE C a ρ S) := evE_idx
theorem ev_slc (a : E) (lo hi : Option E) : evE C (.slc a lo hi) ρ S = slcK C lo hi ρ (rawE C a ρ S) := evE_slc
theorem ev_srev (a : E) : evE C (.srev a) ρ S = srevK (rawE C a ρ S) := by
  rw [evE_srev, rdv_eq, bind_bind]
  unfold srevK
  congr 1
  funext x S
  rw [bind_ok]
  cases x.look S <;> rfl
theorem ev_call (f : Nat) (es : List E) (dd : List D) : evE C (.call f es dd) ρ S = calmly C (callK C f dd (evEs C es ρ S)) := evE_call
theorem ev_new (c : Nat) (es : List E) (dd : List D) : evE C (.new c es dd) ρ S = calmly C (newK C c dd (evEs C es ρ S)) := evE_new
theorem ev_meth (o : E) (m : Str) (es : List E) (dd : List D) (fr : Bool) : evE C (.meth o m es dd fr) ρ S = calmly C (methK C m es dd fr ρ (evE C o ρ S)) := by
  rw [evE_meth]
  unfold methK
  congr 2
  funext x S
  cases x <;> try rfl
  rename_i i
  rw [methR_ref]
  unfold methO
  dsimp only
  cases S[i]? with
  | none => rfl
  | some c =>
    cases c with
    | ins cl fs =>
      unfold methG mfind frs
      dsimp only
      cases ((C.tb.clss[cl]?).bind fun k : ClsI => k.meths.lookup m) with
      | none => rfl
      | some f => exact ite_cond _ _ _
    | _ => rfl
theorem ev_fld (o : E) (f : Str) : evE C (.fld o f) ρ S = fldK C f (evE C o ρ S) := by
  rw [evE_fld]
  unfold fldK
  congr 1
  funext x S
  cases x <;> try rfl
  rename_i i
  unfold fldR fldO hasFd
  dsimp only
  cases S[i]? <;> try rfl
  rename_i c
  cases c <;> try rfl
  dsimp only
  exact ite_cond _ _ _
theorem ev_blt (f : Bf) (es : List E) : evE C (.blt f es) ρ S = calmly C (bltK f (evRs C es ρ S)) := evE_blt
theorem ev_mt (m : Mt) (o : E) (es : List E) : evE C (.mt m o es) ρ S = calmly C (mtK C m es ρ (rawE C o ρ S)) := evE_mt
theorem ev_comp (elt : E) (t : Tgt) (own : List Nat) (it : E) (ifs : List E) : evE C (.comp elt t own it ifs) ρ S = calmly C (compK C elt t own ifs ρ (rawE C it ρ S)) := by
  rw [evE_comp]
  unfold compK
  congr 2
  funext x S
  cases itemsD (x.look S) <;> try rfl
  rename_i xs
  unfold compI
  dsimp only
  cases (decide (xs.length ≤ szB) && ownOk ρ t own) <;> rfl
theorem cellR_lst (l : List D) (S : Sto) : cellR (.lst l) S = .ok (.ref S.length) (S ++ [.lst l]) := rfl
theorem cellR_dk (k : List Key) (l : List D) (S : Sto) : cellR (.dk k l) S = .ok (.ref S.length) (S ++ [.dk k l]) := rfl
theorem ev_cell (e : E) : evE C (.cell e) ρ S = cellK (evE C e ρ S) := evE_cell
theorem ev_rng (es : List E) : evE C (.rng es) ρ S = rngK (evEs C es ρ S) := evE_rng
theorem enmD_lst (xs : List D) : enmD (.lst xs) = some (.lst (enumL 0 xs)) := rfl
theorem ev_enm (e : E) : evE C (.enm e) ρ S = enmK (evE C e ρ S) := by
  rw [evE_enm]
  unfold enmK
  congr 1
  funext x S
  cases x <;> rfl
theorem srevD_lst (xs : List D) : srevD (.lst xs) = some (.lst xs.reverse) := rfl
theorem ev_rev (e : E) : evE C (.rev e) ρ S = revK (evE C e ρ S) := by
  rw [evE_rev]
  unfold revK
  congr 1
  funext x S
  cases x <;> rfl
def mmE (i : Nat) (S : Sto) (o : Option (D × D)) : Res D := match o with
      | some (d, r) => (match cellOf d with
        | some c => .ok r (S.set i c)
        | none => .stuck)
      | none => .stuck
theorem mmE_lst (i : Nat) (S : Sto) (l : List D) (r : D) : mmE i S (some (.lst l, r)) = .ok r (S.set i (.lst l)) := rfl
theorem mmE_dk (i : Nat) (S : Sto) (k : List Key) (l : List D) (r : D) : mmE i S (some (.dk k l, r)) = .ok r (S.set i (.dk k l)) := rfl
def mmC (m : Mm) (i : Nat) (r : Res (List D)) : Res D := r.bind fun xs S => mmE i S (mmD m (D.look S (.ref i)) xs)
theorem mmC_ok (m : Mm) (i : Nat) (xs : List D) (S : Sto) : mmC m i (.ok xs S) = mmE i S (mmD m (D.look S (.ref i)) xs) := rfl
theorem mmC_ex (m : Mm) (i : Nat) (c : Nat) (S : Sto) : mmC m i (.exc c S) = .exc c S := rfl
def lkK (r : Res (List D)) : Res (List D) := r.bind fun xs S => .ok (xs.map (D.look S)) S
theorem lkK_ok (xs : List D) (S : Sto) : lkK (.ok xs S) = .ok (xs.map (D.look S)) S := rfl
theorem lkK_ex (c : Nat) (S : Sto) : lkK (.exc c S) = .exc c S := rfl
def mmB (C : Ev) (m : Mm) (es : List E) (ρ : Frame) (i : Nat) (S : Sto) (b : Bool) : Res D := match b with
  | true => mmC m i (bif heldM m then evEs C es ρ S else lkK (evRs C es ρ S))
  | false => .stuck
theorem mmB_t (C : Ev) (m : Mm) (es : List E) (ρ : Frame) (i : Nat) (S : Sto) : mmB C m es ρ i S true = mmC m i (bif heldM m then evEs C es ρ S else lkK (evRs C es ρ S)) := rfl
def mmR (C : Ev) (m : Mm) (es : List E) (ρ : Frame) (x : D) (S : Sto) : Res D := match x with
  | .ref i => mmB C m es ρ i S (mmK m (D.look S (.ref i)))
  | _ => .stuck
theorem mmR_ref (C : Ev) (m : Mm) (es : List E) (ρ : Frame) (i : Nat) (S : Sto) : mmR C m es ρ (.ref i) S = mmB C m es ρ i S (mmK m (D.look S (.ref i))) := rfl
def mmV (C : Ev) (m : Mm) (es : List E) (ρ : Frame) (r : Res D) : Res D := r.bind fun x S => mmR C m es ρ x S
theorem mmV_ok (C : Ev) (m : Mm) (es : List E) (ρ : Frame) (x : D) (S : Sto) : mmV C m es ρ (.ok x S) = mmR C m es ρ x S := rfl
theorem mmV_ex (C : Ev) (m : Mm) (es : List E) (ρ : Frame) (c : Nat) (S : Sto) : mmV C m es ρ (.exc c S) = .exc c S := rfl
theorem ev_mm (m : Mm) (o : E) (es : List E) : evE C (.mm m o es) ρ S = calmly C (mmV C m es ρ (evE C o ρ S)) := by
  rw [evE_mm]
  unfold mmV
  congr 2
  funext x S
  cases x <;> try rfl
  rename_i i
  unfold mmR mmB
  dsimp only
  cases mmK m (D.look S (.ref i)) <;> try rfl
  rw [if_pos rfl, ite_cond]
  rfl
theorem es_nil : evEs C [] ρ S = .ok [] S := evEs_nil
theorem es_cons (e : E) (es : List E) : evEs C (e :: es) ρ S = esK C es ρ (evE C e ρ S) := evEs_cons
theorem rs_nil : evRs C [] ρ S = .ok [] S := evRs_nil
theorem rs_cons (e : E) (es : List E) : evRs C (e :: es) ρ S = rsK C es ρ (rawE C e ρ S) := evRs_cons
theorem intR_int (i : Int) (S : Sto) : intR (.int i) S = .ok (some i) S := rfl
theorem zo_none : evO C none ρ S = .ok none S := evO_none
theorem zo_some (e : E) : evO C (some e) ρ S = intK (evE C e ρ S) := evO_some
theorem zif_nil : evIf C [] ρ S = .ok true S := evIf_nil
theorem zif_cons (e : E) (es : List E) : evIf C (e :: es) ρ S = ifK C es ρ (rawE C e ρ S) := by
  rw [evIf_cons, rdv_eq, bind_bind]; rfl
theorem tt_eq (e : E) : evT C e ρ S = ttK (rawE C e ρ S) := by
  unfold evT
  rw [rdv_eq, bind_bind]
  rfl
/-! ### statements -/
theorem zb_nil : exB C [] ρ S = .nx ρ S := exB_nil
theorem zb_cons (s : MP.S) (ss : List MP.S) : exB C (s :: ss) ρ S = seqB C ss (exS C s ρ S) := exB_cons
theorem zs_pass : exS C .pass ρ S = .nx ρ S := by rw [exS]
theorem zs_set (i : Nat) (e : E) : exS C (.set i e) ρ S = stK i (isFresh C.tb e) ρ (evE C e ρ S) := by rw [exS]; rfl
theorem asgR_some (ρ : Frame) (S : Sto) : asgR (some ρ) S = .nx ρ S := rfl
theorem zs_asg (t : Tgt) (e : E) : exS C (.asg t e) ρ S = calmS C (asgK t ρ (evE C e ρ S)) := by rw [exS]; rfl
theorem augR_ok {op : Operator} {i : Nat} {ρ : Frame} {x y z : Int} {S : Sto} (h : op ≠ .Pow) (h2 : MP.intOp op x y = some z) : augR op i ρ x (.int y) S = .nx (ρ.set i (.val (.int z))) S := by
  unfold augR
  dsimp only
  rw [if_neg (by simpa using h), h2]
def augO (C : Ev) (op : Operator) (i : Nat) (e : E) (ρ : Frame) (S : Sto) (o : Option Slot) : SR := match o with
    | some (.val (.int x)) => (evE C e ρ S).to ρ fun y S => augR op i ρ x y S
    | _ => .stuck
theorem augO_ok (C : Ev) (op : Operator) (i : Nat) (e : E) (ρ : Frame) (S : Sto) (x : Int) : augO C op i e ρ S (some (.val (.int x))) = augK op i x ρ (evE C e ρ S) := rfl
theorem zs_aug (i : Nat) (op : Operator) (e : E) : exS C (.aug i op e) ρ S = augO C op i e ρ S ρ[i]? := by rw [exS]; rfl
theorem augS_some (i : Nat) (ρ : Frame) (S : Sto) (z : Int) : augS i ρ S (some z) = .nx (ρ.set i (.val (.int z))) S := rfl
theorem augR_int {op : Operator} {i : Nat} {ρ : Frame} {x y : Int} {S : Sto} (h : op ≠ .Pow) : augR op i ρ x (.int y) S = augS i ρ S (MP.intOp op x y) := by
  unfold augR
  dsimp only
  rw [if_neg (by simpa using h)]
  rfl
theorem zs_expr (e : E) : exS C (.expr e) ρ S = expK ρ (evE C e ρ S) := by rw [exS]; rfl
theorem zs_frz (is : List Nat) : exS C (.frz is) ρ S = .nx (frzF ρ is) S := by rw [exS]
def frz1 (i : Nat) (ρ : Frame) (o : Option Slot) : Frame := match o with
    | some (.own d) => ρ.set i (.val d)
    | _ => ρ
theorem frz1_own (i : Nat) (ρ : Frame) (d : D) : frz1 i ρ (some (.own d)) = ρ.set i (.val d) := rfl
theorem frz1_val (i : Nat) (ρ : Frame) (d : D) : frz1 i ρ (some (.val d)) = ρ := rfl
theorem frz1_no (i : Nat) (ρ : Frame) : frz1 i ρ (some .no) = ρ := rfl
theorem frz_nil (ρ : Frame) : frzF ρ [] = ρ := rfl
theorem frz_cons (ρ : Frame) (i : Nat) (is : List Nat) : frzF ρ (i :: is) = frzF (frz1 i ρ ρ[i]?) is := by
  rw [frzF]
  unfold frz1
  cases ρ[i]? with
  | none => rfl
  | some s => cases s <;> rfl
theorem zs_ite (c : E) (a b : List MP.S) : exS C (.ite c a b) ρ S = sifK C a b ρ (evT C c ρ S) := by rw [exS]; rfl
theorem zs_whl (c : E) (b : List MP.S) : exS C (.whl c b) ρ S = calmS C (whlLoop C c b C.tb.fuel ρ S) := by rw [exS]; rfl
theorem zs_for (t : Tgt) (it : E) (b : List MP.S) : exS C (.for t it b) ρ S = calmS C (forK C t b ρ (evE C it ρ S)) := by rw [exS]; rfl
def retO (o : Option Slot) (S : Sto) : SR := match o with
      | some (.own d) => .rt d true S
      | some (.val d) => .rt d false S
      | _ => .stuck
theorem retO_own (d : D) (S : Sto) : retO (some (.own d)) S = .rt d true S := rfl
theorem retO_val (d : D) (S : Sto) : retO (some (.val d)) S = .rt d false S := rfl
theorem zs_ret_var (i : Nat) : exS C (.ret (.var i)) ρ S = retO ρ[i]? S := by rw [exS]; rfl
theorem zs_ret {e : E} (h : ∀ k, e ≠ .var k) : exS C (.ret e) ρ S = retK (isFresh C.tb e) ρ (evE C e ρ S) := exS_ret h
theorem zs_retN : exS C .retN ρ S = .rt .non false S := by rw [exS]
theorem zs_raise (c : Nat) : exS C (.raise c) ρ S = calmS C (.ex c ρ S) := by rw [exS]; rfl
theorem zs_brk : exS C .brk ρ S = .bk ρ S := by rw [exS]
theorem zs_cnt : exS C .cnt ρ S = .ct ρ S := by rw [exS]
def ownI (C : Ev) (t : Option Tgt) (i : Nat) (m : Mm) (es : List E) (ρ : Frame) (S : Sto) (o : Option Slot) : SR := match o with
    | some (.own d) => if mmK m d then (if heldM m then evEs C es ρ S else (evRs C es ρ S).bind fun xs S => .ok (xs.map (D.look S)) S).to ρ fun xs S => (match mmD m d xs with
      | some (d', r) => bindTo t r (ρ.set i (.own d')) S
      | none => .stuck) else .stuck
    | _ => .stuck
theorem zs_own (t : Option Tgt) (i : Nat) (m : Mm) (es : List E) : exS C (.own t i m es) ρ S = calmS C (ownI C t i m es ρ S ρ[i]?) := by rw [exS]; rfl
theorem ownD_some (t : Option Tgt) (i : Nat) (ρ : Frame) (S : Sto) (d r : D) : ownD t i ρ S (some (d, r)) = bindTo t r (ρ.set i (.own d)) S := rfl
theorem own_append (t : Option Tgt) (i : Nat) (e : E) (l : List D) : ownI C t i .append [e] ρ S (some (.own (.lst l))) = apdK t i (.lst l) ρ (evE C e ρ S) := by
  unfold ownI
  dsimp only
  rw [show mmK .append (.lst l) = true from rfl, if_pos rfl, show heldM .append = true from rfl, if_pos rfl, evEs_cons]
  simp only [evEs_nil]
  cases evE C e ρ S <;> rfl
theorem own_extend (t : Option Tgt) (i : Nat) (e : E) (l : List D) : ownI C t i .extend [e] ρ S (some (.own (.lst l))) = xtdK t i (.lst l) ρ (rawE C e ρ S) := by
  unfold ownI
  dsimp only
  rw [show mmK .extend (.lst l) = true from rfl, if_pos rfl, show heldM .extend = false from rfl, if_neg (by decide), rs_cons]
  cases rawE C e ρ S <;> rfl
theorem own_pop (t : Option Tgt) (i : Nat) (l : List D) : ownI C t i .pop [] ρ S (some (.own (.lst l))) = ownD t i ρ S (popD (.lst l) []) := by
  unfold ownI
  dsimp only
  rw [show mmK .pop (.lst l) = true from rfl, if_pos rfl, show heldM .pop = false from rfl, if_neg (by decide), rs_nil]
  rfl
theorem own_popAt (t : Option Tgt) (i : Nat) (e : E) (l : List D) : ownI C t i .popAt [e] ρ S (some (.own (.lst l))) = popK t i (.lst l) ρ (rawE C e ρ S) := by
  unfold ownI
  dsimp only
  rw [show mmK .popAt (.lst l) = true from rfl, if_pos rfl, show heldM .popAt = false from rfl, if_neg (by decide), rs_cons]
  cases rawE C e ρ S <;> rfl
theorem own_reverse (t : Option Tgt) (i : Nat) (l : List D) : ownI C t i .reverse [] ρ S (some (.own (.lst l))) = bindTo t .non (ρ.set i (.own (.lst l.reverse))) S := by
  unfold ownI
  dsimp only
  rw [show mmK .reverse (.lst l) = true from rfl, if_pos rfl, show heldM .reverse = false from rfl, if_neg (by decide), rs_nil]
  rfl
theorem own_setdefault (t : Option Tgt) (i : Nat) (es : List E) (ks : List (List Key)) (vs : List D) : ownI C t i .setdefault es ρ S (some (.own (.dt ks vs))) = sdfK t i (.dt ks vs) ρ (evEs C es ρ S) := by
  unfold ownI
  dsimp only
  rw [show mmK .setdefault (.dt ks vs) = true from rfl, if_pos rfl, show heldM .setdefault = true from rfl, if_pos rfl]
  cases evEs C es ρ S <;> rfl
theorem bto_none (d : D) : bindTo none d ρ S = .nx ρ S := rfl
theorem bto_some (t : Tgt) (d : D) : bindTo (some t) d ρ S = asgR (bindT t d ρ) S := rfl
theorem bt_v (i : Nat) (d : D) : bindT (.v i) d ρ = some (ρ.set i (.val d)) := rfl
theorem bt_t (ts : List Tgt) (xs : List D) : bindT (.t ts) (.tup xs) ρ = bindTs ts xs ρ := rfl
theorem bts_nil : bindTs [] [] ρ = some ρ := rfl
theorem bts_cons (t : Tgt) (ts : List Tgt) (x : D) (xs : List D) : bindTs (t :: ts) (x :: xs) ρ = (bindT t x ρ).bind fun ρ => bindTs ts xs ρ := rfl
theorem fldT_ref (C : Ev) (f : Str) (d : D) (ρ : Frame) (i : Nat) (S : Sto) : fldT C f d ρ (.ref i) S = fldS C f d ρ i S S[i]? := rfl
theorem fldS_ins (C : Ev) (f : Str) (d : D) (ρ : Frame) (i : Nat) (S : Sto) (c : Nat) (fs : List (Str × D)) : fldS C f d ρ i S (some (.ins c fs)) = bif decide (fs.length < 1000) && hasFd C.tb c f then .nx ρ (S.set i (.ins c (putFd f d fs))) else .stuck := rfl
theorem zs_fld (o : E) (f : Str) (e : E) : exS C (.fld o f e) ρ S = fstK C o f ρ (evE C e ρ S) := by
  rw [exS]
  unfold fstK fstK2
  congr 1
  funext d S
  congr 1
  funext x S
  cases x <;> try rfl
  rename_i i
  unfold fldT fldS hasFd
  dsimp only
  cases S[i]? <;> try rfl
  rename_i c
  cases c <;> try rfl
  dsimp only
  exact ite_cond _ _ _
theorem subL_some (ρ : Frame) (i : Nat) (xs : List D) (d : D) (S : Sto) (j : Nat) : subL ρ i xs d S (some j) = .nx ρ (S.set i (.lst (xs.set j d))) := rfl
theorem subO_lst (ρ : Frame) (i : Nat) (n : Int) (d : D) (S : Sto) (xs : List D) : subO ρ i (.int n) d S (some (.lst xs)) = subL ρ i xs d S (ixN xs.length n) := rfl
theorem subR_ref (ρ : Frame) (i : Nat) (y d : D) (S : Sto) : subR ρ (.ref i) y d S = subO ρ i y d S S[i]? := rfl
theorem zs_sub (o k e : E) : exS C (.sub o k e) ρ S = subK C o k ρ (evE C e ρ S) := by
  rw [exS]
  rfl
def tryR (C : Ev) (c : Nat) (n : Option Nat) (h o : List MP.S) (r : SR) : SR := match r with
    | .ex k ρ S => if decide (k < C.tb.excs.length) then (match under C.tb k c with
      | true => (match n with
        | none => exB { C with hot := true } h ρ S
        | some i => (match exB { C with hot := true } h (ρ.set i (.val (.exn k))) S with
          | .nx ρ S => .nx (ρ.set i .no) S
          | .bk ρ S => .bk (ρ.set i .no) S
          | .ct ρ S => .ct (ρ.set i .no) S
          | r => r))
      | false => .ex k ρ S) else .stuck
    | .nx ρ S => exB C o ρ S
    | r => r
theorem zs_try (b : List MP.S) (c : Nat) (n : Option Nat) (h o : List MP.S) : exS C (.tryx b c n h o) ρ S = calmS C (tryR C c n h o (exB C b ρ S)) := by
  rw [exS]
  rfl
theorem try_nx (c : Nat) (n : Option Nat) (h o : List MP.S) : tryR C c n h o (.nx ρ S) = exB C o ρ S := rfl
theorem try_rt (c : Nat) (n : Option Nat) (h o : List MP.S) (d : D) (w : Bool) : tryR C c n h o (.rt d w S) = .rt d w S := rfl
theorem try_ex0 {c k : Nat} {h o : List MP.S} (h1 : k < C.tb.excs.length) (h2 : under C.tb k c = true) : tryR C c none h o (.ex k ρ S) = exB { C with hot := true } h ρ S := by
  unfold tryR
  dsimp only
  rw [if_pos (by simpa using h1), h2]
theorem try_exn {c k : Nat} {n : Option Nat} {h o : List MP.S} (h1 : k < C.tb.excs.length) (h2 : under C.tb k c = false) : tryR C c n h o (.ex k ρ S) = .ex k ρ S := by
  unfold tryR
  dsimp only
  rw [if_pos (by simpa using h1), h2]
end
/-- what a def's body ends with -/
def retR (f : FnI) (r : SR) : Res D := match r with
    | .nx _ S => .ok .non S
    | .rt d own S => if f.fr && isBox d && !own then .stuck else .ok d S
    | .ex c _ S => .exc c S
    | _ => .stuck
theorem ret_nx (f : FnI) (ρ : Frame) (S : Sto) : retR f (.nx ρ S) = .ok .non S := rfl
theorem ret_ex (f : FnI) (c : Nat) (ρ : Frame) (S : Sto) : retR f (.ex c ρ S) = .exc c S := rfl
theorem ret_rt (f : FnI) (d : D) (own : Bool) (S : Sto) : retR f (.rt d own S) = if f.fr && isBox d && !own then .stuck else .ok d S := rfl
theorem ret_rt_t (f : FnI) (d : D) (S : Sto) : retR f (.rt d true S) = .ok d S := by
  rw [ret_rt]
  simp
theorem ret_rt_f {f : FnI} (h : f.fr = false) (d : D) (S : Sto) (o : Bool) : retR f (.rt d o S) = .ok d S := by
  rw [ret_rt]
  simp [h]
theorem ret_rt_b {f : FnI} {d : D} (h : isBox d = false) (S : Sto) (o : Bool) : retR f (.rt d o S) = .ok d S := by
  rw [ret_rt]
  simp [h]
theorem run_eq (C : Ev) (f : FnI) (xs : List D) (S : Sto) (h : xs.length = f.np) : runF C f xs S = retR f (exB C f.body (xs.map .val ++ List.replicate (f.names.length - f.np) .no) S) := by
  unfold runF
  rw [if_pos (by simpa using h)]
  rfl
/-! ### loops -/
section
variable {C : Ev} {t : Tgt} {b : List MP.S} {x : D} {S0 : Sto} {α : Type} {emb : α → D}
theorem guardR_lst (xs : List D) (S0 : Sto) (r : SR) : guardR (.lst xs) S0 r = r := by cases r <;> rfl
theorem guardR_tup (xs : List D) (S0 : Sto) (r : SR) : guardR (.tup xs) S0 r = r := by cases r <;> rfl
theorem guardR_str (xs : Str) (S0 : Sto) (r : SR) : guardR (.str xs) S0 r = r := by cases r <;> rfl
theorem guardS_lst {α : Type} (xs : List D) (S0 : Sto) (r : Res α) : guardS (.lst xs) S0 r = r := by cases r <;> rfl
theorem guardS_tup {α : Type} (xs : List D) (S0 : Sto) (r : Res α) : guardS (.tup xs) S0 r = r := by cases r <;> rfl
theorem guardS_str {α : Type} (xs : Str) (S0 : Sto) (r : Res α) : guardS (.str xs) S0 r = r := by cases r <;> rfl
theorem guardS_ok {α : Type} (x : D) (S0 S : Sto) (a : α) (h : srcOk x S0 S = true) : guardS x S0 (.ok a S) = .ok a S := by unfold guardS; dsimp only; rw [if_pos h]
theorem guardR_nx (x : D) (S0 S : Sto) (ρ : Frame) (h : srcOk x S0 S = true) : guardR x S0 (.nx ρ S) = .nx ρ S := by unfold guardR; dsimp only; rw [if_pos h]
theorem guardR_rt (x : D) (S0 S : Sto) (d : D) (o : Bool) : guardR x S0 (.rt d o S) = .rt d o S := rfl
theorem for_nil (ρ : Frame) (S : Sto) : forLoop C t b x S0 [] ρ S = .nx ρ S := rfl
theorem for_inv {Q : D → Bool → Sto → Prop} {X : Nat → Frame → Sto → Prop} {I : List α → Frame → Sto → Prop}
    (step : ∀ a r ρ S, I (a :: r) ρ S → (∃ ρ' S', forStep C b x S0 (bindT t (emb a) ρ) S = .nx ρ' S' ∧ I r ρ' S') ∨ (∃ d o S', forStep C b x S0 (bindT t (emb a) ρ) S = .rt d o S' ∧ Q d o S') ∨ (∃ c ρ' S', forStep C b x S0 (bindT t (emb a) ρ) S = .ex c ρ' S' ∧ X c ρ' S')) :
    ∀ (l : List α) ρ S, I l ρ S → (∃ ρ' S', forLoop C t b x S0 (l.map emb) ρ S = .nx ρ' S' ∧ I [] ρ' S') ∨ (∃ d o S', forLoop C t b x S0 (l.map emb) ρ S = .rt d o S' ∧ Q d o S') ∨ (∃ c ρ' S', forLoop C t b x S0 (l.map emb) ρ S = .ex c ρ' S' ∧ X c ρ' S')
  | [], ρ, S, h => .inl ⟨ρ, S, rfl, h⟩
  | a :: l, ρ, S, h => by
    rcases step a l ρ S h with ⟨ρ', S', e, h'⟩ | ⟨d, o, S', e, h'⟩ | ⟨c, ρ', S', e, h'⟩
    · have e2 : forLoop C t b x S0 ((a :: l).map emb) ρ S = forLoop C t b x S0 (l.map emb) ρ' S' := by
        unfold forLoop
        rw [List.map_cons, forL, e]
      rw [e2]
      exact for_inv step l ρ' S' h'
    · have e2 : forLoop C t b x S0 ((a :: l).map emb) ρ S = .rt d o S' := by
        unfold forLoop
        rw [List.map_cons, forL, e]
      rw [e2]
      exact .inr (.inl ⟨d, o, S', rfl, h'⟩)
    · have e2 : forLoop C t b x S0 ((a :: l).map emb) ρ S = .ex c ρ' S' := by
        unfold forLoop
        rw [List.map_cons, forL, e]
      rw [e2]
      exact .inr (.inr ⟨c, ρ', S', rfl, h'⟩)
/-- a loop that always comes to its end -/
theorem for_all {I : List α → Frame → Sto → Prop} (step : ∀ a r ρ S, I (a :: r) ρ S → ∃ ρ' S', forStep C b x S0 (bindT t (emb a) ρ) S = .nx ρ' S' ∧ I r ρ' S') (l : List α) (ρ : Frame) (S : Sto) (h : I l ρ S) :
    ∃ ρ' S', forLoop C t b x S0 (l.map emb) ρ S = .nx ρ' S' ∧ I [] ρ' S' := by
  rcases for_inv (Q := fun _ _ _ => False) (X := fun _ _ _ => False) (fun a r ρ S h => .inl (step a r ρ S h)) l ρ S h with h | ⟨_, _, _, _, h⟩ | ⟨_, _, _, _, h⟩
  · exact h
  · exact h.elim
  · exact h.elim
/-- .. or tells -/
theorem for_or {Q : D → Bool → Sto → Prop} {I : List α → Frame → Sto → Prop} (step : ∀ a r ρ S, I (a :: r) ρ S → (∃ ρ' S', forStep C b x S0 (bindT t (emb a) ρ) S = .nx ρ' S' ∧ I r ρ' S') ∨ (∃ d o S', forStep C b x S0 (bindT t (emb a) ρ) S = .rt d o S' ∧ Q d o S'))
    (l : List α) (ρ : Frame) (S : Sto) (h : I l ρ S) : (∃ ρ' S', forLoop C t b x S0 (l.map emb) ρ S = .nx ρ' S' ∧ I [] ρ' S') ∨ (∃ d o S', forLoop C t b x S0 (l.map emb) ρ S = .rt d o S' ∧ Q d o S') := by
  rcases for_inv (Q := Q) (X := fun _ _ _ => False) (fun a r ρ S h => (step a r ρ S h).elim .inl fun h => .inr (.inl h)) l ρ S h with h | h | ⟨_, _, _, _, h⟩
  · exact .inl h
  · exact .inr h
  · exact h.elim
theorem whl_inv {c : E} {I : Nat → Frame → Sto → Prop} (step : ∀ k ρ S, I k ρ S → (evT C c ρ S = .ok false S) ∨ (∃ j S1 ρ' S', k = j + 1 ∧ evT C c ρ S = .ok true S1 ∧ exB C b ρ S1 = .nx ρ' S' ∧ I j ρ' S')) :
    ∀ (k f : Nat) (ρ : Frame) (S : Sto), k < f → I k ρ S → ∃ j ρ' S', whlLoop C c b f ρ S = .nx ρ' S' ∧ I j ρ' S' ∧ evT C c ρ' S' = .ok false S'
  | k, 0, ρ, S, h, _ => by omega
  | k, f + 1, ρ, S, h, hi => by
    rcases step k ρ S hi with e | ⟨j, S1, ρ', S', rfl, e1, e2, h'⟩
    · exact ⟨k, ρ, S, whl_false e, hi, e⟩
    · obtain ⟨i, ρ2, S2, k1, k2⟩ := whl_inv step j f ρ' S' (by omega) h'
      refine ⟨i, ρ2, S2, ?_, k2⟩
      unfold whlLoop
      rw [whl_true (f := fun ρ S => exB C b ρ S) (c := fun ρ S => evT C c ρ S) e1 e2]
      exact k1
/-! comprehensions -/
variable {elt : E} {own : List Nat} {ifs : List E} {ρ : Frame}
theorem comp_inv {I : List α → List D → Sto → Prop}
    (step : ∀ a r ys S, I (a :: r) ys S → ∃ (o : Option D) (S' : Sto), cmpStep C elt ifs x S0 (bindT t (emb a) (wipeF ρ own)) S = .ok o S' ∧ I r (ys ++ o.toList) S') :
    ∀ (l : List α) ys S, I l ys S → ∃ zs S', compLoop C elt t own ifs ρ x S0 (l.map emb) S = .ok zs S' ∧ I [] (ys ++ zs) S'
  | [], ys, S, h => ⟨[], S, rfl, by rw [List.append_nil]; exact h⟩
  | a :: l, ys, S, h => by
    obtain ⟨o, S', e, h'⟩ := step a l ys S h
    obtain ⟨zs, S2, e2, h2⟩ := comp_inv step l _ S' h'
    refine ⟨o.toList ++ zs, S2, ?_, by rw [← List.append_assoc]; exact h2⟩
    unfold compLoop at e2 ⊢
    rw [List.map_cons]
    cases o with
    | none => exact comp_none e e2
    | some y => exact comp_some e e2
theorem comp_map {g : α → D} {S : Sto} : ∀ {l : List α}, (∀ a, a ∈ l → cmpStep C elt ifs x S0 (bindT t (emb a) (wipeF ρ own)) S = .ok (some (g a)) S) → compLoop C elt t own ifs ρ x S0 (l.map emb) S = .ok (l.map g) S
  | [], _ => rfl
  | a :: l, h => comp_some (h a (List.mem_cons_self ..)) (comp_map fun b hb => h b (List.mem_cons_of_mem _ hb))
theorem comp_filter {p : α → Bool} {g : α → D} {S : Sto} : ∀ {l : List α}, (∀ a, a ∈ l → cmpStep C elt ifs x S0 (bindT t (emb a) (wipeF ρ own)) S = .ok (if p a then some (g a) else none) S) → compLoop C elt t own ifs ρ x S0 (l.map emb) S = .ok ((l.filter p).map g) S
  | [], _ => rfl
  | a :: l, h => by
    have h1 := h a (List.mem_cons_self ..)
    have h2 := comp_filter fun b hb => h b (List.mem_cons_of_mem _ hb)
    rw [List.filter_cons]
    split
    · rename_i hp
      rw [if_pos hp] at h1
      exact comp_some h1 h2
    · rename_i hp
      rw [if_neg hp] at h1
      exact comp_none h1 h2
end
def cmpIn (C : Ev) (elt : E) (ifs : List E) (ρ : Frame) (S : Sto) : Res (Option D) := (evIf C ifs ρ S).bind fun b S' => match b with
    | true => (evE C elt ρ S').bind fun y S' => .ok (some y) S'
    | false => .ok none S'
theorem cs_lst (C : Ev) (elt : E) (ifs : List E) (xs : List D) (S0 : Sto) (ρ : Frame) (S : Sto) : cmpStep C elt ifs (.lst xs) S0 (some ρ) S = cmpIn C elt ifs ρ S := guardS_lst _ _ _
theorem cs_tup (C : Ev) (elt : E) (ifs : List E) (xs : List D) (S0 : Sto) (ρ : Frame) (S : Sto) : cmpStep C elt ifs (.tup xs) S0 (some ρ) S = cmpIn C elt ifs ρ S := guardS_tup _ _ _
theorem cs_str (C : Ev) (elt : E) (ifs : List E) (xs : Str) (S0 : Sto) (ρ : Frame) (S : Sto) : cmpStep C elt ifs (.str xs) S0 (some ρ) S = cmpIn C elt ifs ρ S := guardS_str _ _ _

theorem ci_eq (C : Ev) (elt : E) (ifs : List E) (ρ : Frame) (S : Sto) : cmpIn C elt ifs ρ S = cmK C elt ρ (evIf C ifs ρ S) := rfl
theorem cb_t (C : Ev) (elt : E) (ρ : Frame) (S : Sto) : cmpBr C elt ρ S true = cmK2 (evE C elt ρ S) := rfl
theorem cb_f (C : Ev) (elt : E) (ρ : Frame) (S : Sto) : cmpBr C elt ρ S false = .ok none S := rfl
theorem fs_lst (C : Ev) (b : List MP.S) (xs : List D) (S0 : Sto) (ρ : Frame) (S : Sto) : forStep C b (.lst xs) S0 (some ρ) S = exB C b ρ S := guardR_lst _ _ _
theorem fs_tup (C : Ev) (b : List MP.S) (xs : List D) (S0 : Sto) (ρ : Frame) (S : Sto) : forStep C b (.tup xs) S0 (some ρ) S = exB C b ρ S := guardR_tup _ _ _
theorem fs_str (C : Ev) (b : List MP.S) (xs : Str) (S0 : Sto) (ρ : Frame) (S : Sto) : forStep C b (.str xs) S0 (some ρ) S = exB C b ρ S := guardR_str _ _ _
theorem it_lst (xs : List D) : itemsD (.lst xs) = some xs := rfl
theorem it_tup (xs : List D) : itemsD (.tup xs) = some xs := rfl
theorem wipe_nil (ρ : Frame) : wipeF ρ [] = ρ := rfl
theorem wipe_cons (ρ : Frame) (i : Nat) (is : List Nat) : wipeF ρ (i :: is) = (wipeF ρ is).set i .no := rfl
/-! freshness -/
theorem f_lst (T : Tb) (es : List E) : isFresh T (.lst es) = true := rfl
theorem f_dct (T : Tb) (b : Bool) (es fs : List E) : isFresh T (.dct b es fs) = true := rfl
theorem f_comp (T : Tb) (a : E) (t : Tgt) (o : List Nat) (i : E) (l : List E) : isFresh T (.comp a t o i l) = true := rfl
theorem f_slc (T : Tb) (a : E) (l h : Option E) : isFresh T (.slc a l h) = true := rfl
theorem f_srev (T : Tb) (a : E) : isFresh T (.srev a) = true := rfl
theorem f_bin (T : Tb) (o : Operator) (a b : E) : isFresh T (.bin o a b) = true := rfl
theorem f_listOf (T : Tb) (es : List E) : isFresh T (.blt .listOf es) = true := rfl
theorem f_call (T : Tb) (f : Nat) (es : List E) (dd : List D) : isFresh T (.call f es dd) = frs T f := rfl
theorem f_meth (T : Tb) (o : E) (m : Str) (es : List E) (dd : List D) (fr : Bool) : isFresh T (.meth o m es dd fr) = fr := rfl
theorem f_var (T : Tb) (i : Nat) : isFresh T (.var i) = false := rfl
theorem f_const (T : Tb) (i : D) : isFresh T (.const i) = false := rfl
theorem f_idx (T : Tb) (a b : E) : isFresh T (.idx a b) = false := rfl
theorem f_tup (T : Tb) (a : List E) : isFresh T (.tup a) = false := rfl
theorem f_fld (T : Tb) (a : E) (f : Str) : isFresh T (.fld a f) = false := rfl
theorem f_cmp (T : Tb) (o : CmpOp) (a b : E) : isFresh T (.cmp o a b) = false := rfl
theorem f_and (T : Tb) (a b : E) : isFresh T (.and a b) = false := rfl
theorem f_or (T : Tb) (a b : E) : isFresh T (.or a b) = false := rfl
theorem f_not (T : Tb) (a : E) : isFresh T (.not a) = false := rfl
theorem f_chain (T : Tb) (o p : CmpOp) (a b c : E) : isFresh T (.chain o p a b c) = false := rfl
theorem f_mm (T : Tb) (m : Mm) (a : E) (es : List E) : isFresh T (.mm m a es) = false := rfl
theorem f_cell (T : Tb) (a : E) : isFresh T (.cell a) = false := rfl
theorem f_new (T : Tb) (c : Nat) (es : List E) (dd : List D) : isFresh T (.new c es dd) = false := rfl
theorem f_ite (T : Tb) (c a b : E) : isFresh T (.ite c a b) = (isFresh T a && isFresh T b) := rfl
theorem f_tupleOf (T : Tb) (es : List E) : isFresh T (.blt .tupleOf es) = false := rfl
theorem f_bits (T : Tb) (a : E) (es : List E) : isFresh T (.mt .bitLength a es) = false := rfl
theorem slot_f (d : D) : slotOf false d = .val d := rfl
theorem slot_int (b : Bool) (i : Int) : slotOf b (.int i) = .val (.int i) := by cases b <;> rfl
theorem slot_bl (b : Bool) (i : Bool) : slotOf b (.bl i) = .val (.bl i) := by cases b <;> rfl
theorem slot_str (b : Bool) (i : Str) : slotOf b (.str i) = .val (.str i) := by cases b <;> rfl
theorem slot_tup (b : Bool) (i : List D) : slotOf b (.tup i) = .val (.tup i) := by cases b <;> rfl
theorem slot_ref (b : Bool) (i : Nat) : slotOf b (.ref i) = .val (.ref i) := by cases b <;> rfl
theorem slot_non (b : Bool) : slotOf b .non = .val .non := by cases b <;> rfl
theorem slot_lst (l : List D) : slotOf true (.lst l) = .own (.lst l) := rfl
theorem slot_dt (k : List (List Key)) (l : List D) : slotOf true (.dt k l) = .own (.dt k l) := rfl
theorem slot_dk (k : List Key) (l : List D) : slotOf true (.dk k l) = .own (.dk k l) := rfl
/-! values -/
theorem tru_bl (b : Bool) : truD (.bl b) = some b := rfl
theorem tru_int (i : Int) : truD (.int i) = some (i != 0) := rfl
theorem tru_lst (l : List D) : truD (.lst l) = some (!l.isEmpty) := rfl
theorem c_eqi (i j : Int) : cmpD .Eq (.int i) (.int j) = some (decide (i = j)) := rfl
theorem c_nei (i j : Int) : cmpD .NotEq (.int i) (.int j) = some (!decide (i = j)) := rfl
theorem c_eqb (i j : Bool) : cmpD .Eq (.bl i) (.bl j) = some (decide (i = j)) := rfl
theorem c_neb (i j : Bool) : cmpD .NotEq (.bl i) (.bl j) = some (!decide (i = j)) := rfl
theorem c_eqs (i j : Str) : cmpD .Eq (.str i) (.str j) = some (decide (i = j)) := rfl
theorem c_nes (i j : Str) : cmpD .NotEq (.str i) (.str j) = some (!decide (i = j)) := rfl
theorem c_lt (i j : Int) : cmpD .Lt (.int i) (.int j) = some (decide (i < j)) := rfl
theorem c_le (i j : Int) : cmpD .LtE (.int i) (.int j) = some (decide (i ≤ j)) := rfl
theorem c_gt (i j : Int) : cmpD .Gt (.int i) (.int j) = some (decide (j < i)) := rfl
theorem c_ge (i j : Int) : cmpD .GtE (.int i) (.int j) = some (decide (j ≤ i)) := rfl
theorem c_isn : cmpD .Is .non .non = some true := rfl
theorem c_isn_tup (l : List D) : cmpD .Is (.tup l) .non = some false := rfl
theorem c_isn_int (i : Int) : cmpD .Is (.int i) .non = some false := rfl
theorem c_ntn : cmpD .IsNot .non .non = some false := rfl
theorem c_ntn_tup (l : List D) : cmpD .IsNot (.tup l) .non = some true := rfl
theorem c_ntn_int (i : Int) : cmpD .IsNot (.int i) .non = some true := rfl
theorem c_isb (b c : Bool) : cmpD .Is (.bl c) (.bl b) = some (c == b) := rfl
theorem b_len (x : D) : bltD .len [x] = lenD x := rfl
theorem b_int (x : D) : bltD .int [x] = intD x := rfl
theorem b_str (x : D) : bltD .str [x] = strD x := rfl
theorem b_sum (x : D) : bltD .sum [x] = sumD x := rfl
theorem b_all (x : D) : bltD .all [x] = allD x := rfl
theorem b_min (x y : D) : bltD .min2 [x, y] = minD x y := rfl
theorem b_max (x y : D) : bltD .max2 [x, y] = maxD x y := rfl
theorem b_listOf (x : D) : bltD .listOf [x] = listD x := rfl
theorem b_tupleOf (x : D) : bltD .tupleOf [x] = tupleD x := rfl
theorem b_repr (x : D) : bltD .repr [x] = reprD x := rfl
theorem b_isi (t : String) (x : D) : bltD (.isi t) [x] = (isTyD t x).map .bl := rfl
theorem l_lst (xs : List D) : lenD (.lst xs) = some (.int xs.length) := rfl
theorem l_tup (xs : List D) : lenD (.tup xs) = some (.int xs.length) := rfl
theorem l_str (xs : Str) : lenD (.str xs) = some (.int xs.length) := rfl
theorem i_int (i : Int) : intD (.int i) = some (.int i) := rfl
theorem i_bl (b : Bool) : intD (.bl b) = some (.int (if b then 1 else 0)) := rfl
theorem lo_lst (xs : List D) : listD (.lst xs) = some (.lst xs) := rfl
theorem lo_tup (xs : List D) : listD (.tup xs) = some (.lst xs) := rfl
theorem to_lst (xs : List D) : tupleD (.lst xs) = some (.tup xs) := rfl
theorem to_tup (xs : List D) : tupleD (.tup xs) = some (.tup xs) := rfl
theorem mn_int (i j : Int) : minD (.int i) (.int j) = some (.int (if j < i then j else i)) := rfl
theorem mx_int (i j : Int) : maxD (.int i) (.int j) = some (.int (if j > i then j else i)) := rfl
theorem all_lst (xs : List D) : allD (.lst xs) = (blsD xs).map fun bs => .bl (bs.all id) := rfl
theorem sum_lst (xs : List D) : sumD (.lst xs) = (intsD xs).map fun ns => .int ns.sum := rfl
theorem x_lst (xs : List D) (k : Int) : idxD (.lst xs) (.int k) = atI xs k := rfl
theorem x_tup (xs : List D) (k : Int) : idxD (.tup xs) (.int k) = atI xs k := rfl
theorem sl_lst (xs : List D) (a b : Option Int) : slcD (.lst xs) a b = some (.lst (cutL xs a b)) := rfl
theorem sl_tup (xs : List D) (a b : Option Int) : slcD (.tup xs) a b = some (.tup (cutL xs a b)) := rfl
theorem m_bits (i : Int) : mtD .bitLength (.int i) [] = some (.int (Builtin.Int.intBits i : Nat)) := rfl
theorem bin_lst (xs ys : List D) (h : xs.length + ys.length ≤ szB) : binD .Add (.lst xs) (.lst ys) = some (.lst (xs ++ ys)) := by
  unfold binD
  dsimp only
  rw [if_pos (by simp; exact h)]
theorem ap_lst (l : List D) (y : D) (h : l.length < szB) : appendD (.lst l) [y] = some (.lst (l ++ [y]), .non) := by
  unfold appendD
  dsimp only
  rw [if_pos (by simpa using h)]
theorem xt_lst (l ys : List D) (h : l.length + ys.length ≤ szB) : extendD (.lst l) [.lst ys] = some (.lst (l ++ ys), .non) := by
  unfold extendD
  dsimp only
  rw [if_pos (by simpa using h)]
theorem rng1 (j : Nat) (h : j < 2 ^ 60) : rngD [.int j] = some ((List.range j).map fun k => .int (k : Nat)) := by
  unfold rngD smallI rngL
  dsimp only
  rw [if_pos (by simp; omega), if_pos rfl]
  simp
theorem rng2 (i j : Nat) (h : j < 2 ^ 60) (h2 : i < 2 ^ 60) : rngD [.int i, .int j] = some ((List.range (j - i)).map fun k => .int (i + k : Nat)) := by
  unfold rngD smallI rngL
  dsimp only
  rw [if_pos (by simp; omega), if_pos rfl]
  congr 1
  rw [show ((j : Int) - (i : Int)).toNat = j - i by omega]
  apply List.map_congr_left
  intro k _
  rw [Int.natCast_add]
theorem blsD_mp {α : Type} (l : List α) (f : α → Bool) : blsD (l.map fun a => .bl (f a)) = some (l.map f) := by
  induction l with
  | nil => rfl
  | cons a l ih => simp only [List.map_cons, blsD, ih, Option.map_some]
theorem intsD_mp {α : Type} (l : List α) (f : α → Int) : intsD (l.map fun a => .int (f a)) = some (l.map f) := by
  induction l with
  | nil => rfl
  | cons a l ih => simp only [List.map_cons, intsD, ih, Option.map_some]
theorem ix0 (n : Nat) (h : 0 < n) : ixN n 0 = some 0 := by
  unfold ixN
  rw [if_pos (by omega), if_pos (by simp; omega)]
  rfl
theorem ixk (n k : Nat) (h : k < n) : ixN n (k : Int) = some k := by
  unfold ixN
  rw [if_pos (by omega), if_pos (by simp; omega)]
  simp
end MP

set_option maxRecDepth 100000
set_option maxHeartbeats 4000000
/-! plain: counts of bits. -/
namespace PL
def pc (x : Nat) : Nat := if h : x = 0 then 0 else x % 2 + pc (x / 2)
decreasing_by omega
theorem pc0 : pc 0 = 0 := by rw [pc]; rfl
theorem pc_step (x : Nat) : pc x = x % 2 + pc (x / 2) := by
  by_cases h : x = 0
  · subst h; rw [pc0]
  · rw [pc, dif_neg h]
theorem and_half (a b : Nat) : (a &&& b) = 2 * (a / 2 &&& b / 2) + (a % 2 &&& b % 2) := by
  have h := Nat.div_add_mod (a &&& b) 2
  have m : (a &&& b) % 2 = (a % 2) &&& (b % 2) := Nat.and_mod_two_pow (n := 1)
  rw [Nat.and_div_two, m] at h
  omega
theorem xor_half (a b : Nat) : (a ^^^ b) = 2 * (a / 2 ^^^ b / 2) + (a % 2 ^^^ b % 2) := by
  have h := Nat.div_add_mod (a ^^^ b) 2
  have m : (a ^^^ b) % 2 = (a % 2) ^^^ (b % 2) := Nat.xor_mod_two_pow (n := 1)
  rw [Nat.xor_div_two, m] at h
  omega
theorem pc_pred (x : Nat) (h : 0 < x) : pc x = pc (x &&& (x - 1)) + 1 := by
  induction x using Nat.strongRecOn with
  | ind x ih =>
    rw [pc_step x, pc_step (x &&& (x - 1))]
    have e := and_half x (x - 1)
    rcases Nat.mod_two_eq_zero_or_one x with p | p
    · have h1 : (x - 1) / 2 = x / 2 - 1 := by omega
      have h2 : (x - 1) % 2 = 1 := by omega
      rw [p, h1, h2] at e
      have e0 : (0 &&& 1 : Nat) = 0 := rfl
      rw [e0] at e
      have q := ih (x / 2) (by omega) (by omega)
      have q1 : (x &&& (x - 1)) / 2 = (x / 2 &&& (x / 2 - 1)) := by omega
      have q2 : (x &&& (x - 1)) % 2 = 0 := by omega
      rw [q1, q2, p, q]
      omega
    · have h1 : (x - 1) / 2 = x / 2 := by omega
      have h2 : (x - 1) % 2 = 0 := by omega
      rw [p, h1, h2, Nat.and_self] at e
      have e0 : (1 &&& 0 : Nat) = 0 := rfl
      rw [e0] at e
      have q1 : (x &&& (x - 1)) / 2 = x / 2 := by omega
      have q2 : (x &&& (x - 1)) % 2 = 0 := by omega
      rw [q1, q2, p]
      omega
theorem pc_xor (x y : Nat) : pc (x ^^^ y) % 2 = (pc x + pc y) % 2 := by
  induction x using Nat.strongRecOn generalizing y with
  | ind x ih =>
    by_cases h : x = 0
    · subst h; rw [Nat.zero_xor, pc0, Nat.zero_add]
    · have q := ih (x / 2) (by omega) (y / 2)
      have e := xor_half x y
      rw [pc_step (x ^^^ y), pc_step x, pc_step y]
      have k : (x % 2 ^^^ y % 2) = (x % 2 + y % 2) % 2 := by
        rcases Nat.mod_two_eq_zero_or_one x with p | p <;> rcases Nat.mod_two_eq_zero_or_one y with r | r <;> rw [p, r] <;> rfl
      have q1 : (x ^^^ y) / 2 = (x / 2 ^^^ y / 2) := by omega
      have q2 : (x ^^^ y) % 2 = (x % 2 + y % 2) % 2 := by omega
      rw [q1, q2]
      omega
theorem pc_le (x k : Nat) (h : x < 2 ^ k) : pc x ≤ k := by
  induction k generalizing x with
  | zero =>
    have : x = 0 := by omega
    subst this
    rw [pc0]
    omega
  | succ k ih =>
    rw [pc_step]
    have := ih (x / 2) (by rw [Nat.pow_succ] at h; omega)
    omega
/-- the bits' sum, bit by bit -/
theorem pc_sum (x k : Nat) (h : x < 2 ^ k) : ((List.range k).map fun j => x / 2 ^ j % 2).sum = pc x := by
  induction k generalizing x with
  | zero =>
    have : x = 0 := by omega
    subst this
    rw [pc0]
    rfl
  | succ k ih =>
    rw [List.range_succ_eq_map, List.map_cons, List.map_map, List.sum_cons, pc_step]
    have q := ih (x / 2) (by rw [Nat.pow_succ] at h; omega)
    rw [← q]
    simp only [Nat.pow_zero, Nat.div_one]
    congr 2
    apply List.map_congr_left
    intro j _
    show x / 2 ^ (j + 1) % 2 = x / 2 / 2 ^ j % 2
    rw [Nat.div_div_eq_div_mul, Nat.pow_succ, Nat.mul_comm]
end PL

set_option maxRecDepth 100000
set_option maxHeartbeats 4000000
/-! plain: what rows make by exclusive or; left_over. -/
namespace PL
/-- v is made of some of l -/
def InS : List Nat → Nat → Prop
  | [], v => v = 0
  | r :: l, v => InS l v ∨ InS l (v ^^^ r)
theorem InS.zero : ∀ l, InS l 0
  | [] => rfl
  | r :: l => .inl (InS.zero l)
theorem xorr (a b c : Nat) : (a ^^^ b) ^^^ c = (a ^^^ c) ^^^ b := by rw [Nat.xor_assoc, Nat.xor_comm b c, ← Nat.xor_assoc]
theorem xorc (a b : Nat) : (a ^^^ b) ^^^ b = a := by rw [Nat.xor_assoc, Nat.xor_self, Nat.xor_zero]
theorem InS.xor : ∀ {l : List Nat} {u v : Nat}, InS l u → InS l v → InS l (u ^^^ v)
  | [], u, v, h1, h2 => by cases h1; cases h2; rfl
  | r :: l, u, v, h1, h2 => by
    rcases h1 with h1 | h1 <;> rcases h2 with h2 | h2
    · exact .inl (h1.xor h2)
    · refine .inr ?_
      have := h1.xor h2
      rwa [← Nat.xor_assoc] at this
    · refine .inr ?_
      have := h1.xor h2
      rwa [xorr] at this
    · refine .inl ?_
      have := h1.xor h2
      rwa [← Nat.xor_assoc, xorr u r v, xorc] at this
theorem InS.mem : ∀ {l : List Nat} {r : Nat}, r ∈ l → InS l r
  | a :: l, r, h => by
    rcases List.mem_cons.mp h with rfl | h
    · exact .inr (by rw [Nat.xor_self]; exact InS.zero l)
    · exact .inl (InS.mem h)
/-- the same makings, from elements -/
theorem InS.sub : ∀ {l k : List Nat} {v : Nat}, (∀ r, r ∈ l → InS k r) → InS l v → InS k v
  | [], k, v, _, h => by cases h; exact InS.zero k
  | r :: l, k, v, hs, h => by
    rcases h with h | h
    · exact InS.sub (fun q hq => hs q (List.mem_cons_of_mem _ hq)) h
    · have := (InS.sub (fun q hq => hs q (List.mem_cons_of_mem _ hq)) h).xor (hs r (List.mem_cons_self ..))
      rwa [xorc] at this
theorem InS.bit {l : List Nat} {b v : Nat} (hl : ∀ r, r ∈ l → r.testBit b = false) (h : InS l v) : v.testBit b = false := by
  induction l generalizing v with
  | nil => cases h; simp
  | cons r l ih =>
    have hl' : ∀ q, q ∈ l → q.testBit b = false := fun q hq => hl q (List.mem_cons_of_mem _ hq)
    rcases h with h | h
    · exact ih hl' h
    · have := ih hl' h
      rw [Nat.testBit_xor, hl r (List.mem_cons_self ..), Bool.xor_false] at this
      exact this
/-- the program's way -/
def leftOver (v : Nat) : List (Nat × Nat) → Nat
  | [] => v
  | p :: l => leftOver (if v / 2 ^ p.1 % 2 = 1 then v ^^^ p.2 else v) l
/-- leads: each row's own bit, which no later row has -/
def Ech : List (Nat × Nat) → Prop
  | [] => True
  | p :: l => p.2.testBit p.1 = true ∧ (∀ q, q ∈ l → q.2.testBit p.1 = false) ∧ Ech l
theorem tb_div (v k : Nat) : (v / 2 ^ k % 2 = 1) ↔ v.testBit k = true := by
  rw [Nat.testBit_eq_decide_div_mod_eq]
  simp
theorem leftOver_in : ∀ (l : List (Nat × Nat)) (v : Nat), InS (l.map (·.2)) (v ^^^ leftOver v l)
  | [], v => by rw [leftOver, Nat.xor_self]; rfl
  | p :: l, v => by
    rw [leftOver]
    have h := leftOver_in l (if v / 2 ^ p.1 % 2 = 1 then v ^^^ p.2 else v)
    split
    · rename_i hb
      rw [if_pos hb] at h
      exact .inr (by rw [xorr]; exact h)
    · rename_i hb
      rw [if_neg hb] at h
      exact .inl h
theorem leftOver_keep : ∀ (l : List (Nat × Nat)) (v b : Nat), (∀ q, q ∈ l → q.2.testBit b = false) → (leftOver v l).testBit b = v.testBit b
  | [], v, b, _ => rfl
  | p :: l, v, b, h => by
    rw [leftOver, leftOver_keep l _ b fun q hq => h q (List.mem_cons_of_mem _ hq)]
    split
    · rw [Nat.testBit_xor, h p (List.mem_cons_self ..), Bool.xor_false]
    · rfl
theorem leftOver_bit : ∀ {l : List (Nat × Nat)} (v : Nat), Ech l → ∀ p, p ∈ l → (leftOver v l).testBit p.1 = false
  | q :: l, v, ⟨h1, h2, h3⟩, p, hp => by
    rw [leftOver]
    rcases List.mem_cons.mp hp with rfl | hp
    · rw [leftOver_keep l _ _ h2]
      split
      · rename_i hb
        rw [Nat.testBit_xor, h1, (tb_div _ _).mp hb]
        rfl
      · rename_i hb
        rw [tb_div] at hb
        simpa using hb
    · exact leftOver_bit _ h3 p hp
theorem ech_zero : ∀ {l : List (Nat × Nat)} {u : Nat}, Ech l → InS (l.map (·.2)) u → (∀ p, p ∈ l → u.testBit p.1 = false) → u = 0
  | [], u, _, h, _ => h
  | p :: l, u, ⟨h1, h2, h3⟩, h, hu => by
    rcases h with h | h
    · exact ech_zero h3 h fun q hq => hu q (List.mem_cons_of_mem _ hq)
    · have := InS.bit (b := p.1) (fun r hr => by
        obtain ⟨q, hq, rfl⟩ := List.mem_map.mp hr
        exact h2 q hq) h
      rw [Nat.testBit_xor, hu p (List.mem_cons_self ..), h1] at this
      cases this
theorem leftOver_zero {l : List (Nat × Nat)} (he : Ech l) (v : Nat) : leftOver v l = 0 ↔ InS (l.map (·.2)) v := by
  constructor
  · intro h
    have := leftOver_in l v
    rwa [h, Nat.xor_zero] at this
  · intro h
    refine ech_zero he ?_ (leftOver_bit v he)
    have := h.xor (leftOver_in l v)
    rwa [← Nat.xor_assoc, Nat.xor_self, Nat.zero_xor] at this
theorem InS.app : ∀ {l : List Nat} {r v : Nat}, InS (l ++ [r]) v ↔ InS l v ∨ InS l (v ^^^ r)
  | [], r, v => Iff.rfl
  | a :: l, r, v => by
    show (InS (l ++ [r]) v ∨ InS (l ++ [r]) (v ^^^ a)) ↔ ((InS l v ∨ InS l (v ^^^ a)) ∨ (InS l (v ^^^ r) ∨ InS l (v ^^^ r ^^^ a)))
    rw [InS.app, InS.app, xorr v a r]
    constructor
    · rintro ((h | h) | (h | h))
      · exact .inl (.inl h)
      · exact .inr (.inl h)
      · exact .inl (.inr h)
      · exact .inr (.inr h)
    · rintro ((h | h) | (h | h))
      · exact .inl (.inl h)
      · exact .inr (.inl h)
      · exact .inl (.inr h)
      · exact .inr (.inr h)
theorem Ech.app : ∀ {l : List (Nat × Nat)} {p : Nat × Nat}, Ech l → p.2.testBit p.1 = true → (∀ q, q ∈ l → p.2.testBit q.1 = false) → Ech (l ++ [p])
  | [], p, _, h, _ => ⟨h, fun q hq => (by cases hq), trivial⟩
  | a :: l, p, ⟨h1, h2, h3⟩, h, hp => by
    refine ⟨h1, fun q hq => ?_, h3.app h fun q hq => hp q (List.mem_cons_of_mem _ hq)⟩
    rcases List.mem_append.mp hq with hq | hq
    · exact h2 q hq
    · rw [List.mem_singleton.mp hq]
      exact hp a (List.mem_cons_self ..)
/-- one more row -/
theorem lead_step {l : List (Nat × Nat)} {ns : List Nat} (he : Ech l) (hs : ∀ v, InS (l.map (·.2)) v ↔ InS ns v) {v : Nat} (hv : leftOver v l ≠ 0) :
    Ech (l ++ [(Nat.log2 (leftOver v l), leftOver v l)]) ∧ ∀ u, InS ((l ++ [(Nat.log2 (leftOver v l), leftOver v l)]).map (·.2)) u ↔ InS (ns ++ [v]) u := by
  refine ⟨he.app (Nat.testBit_log2 hv) (leftOver_bit v he), fun u => ?_⟩
  rw [List.map_append, List.map_singleton, InS.app, InS.app, hs, hs]
  have h := (hs _).mp (leftOver_in l v)
  have key : InS ns (u ^^^ leftOver v l) ↔ InS ns (u ^^^ v) := by
    constructor
    · intro k
      have := k.xor h
      rwa [Nat.xor_assoc, Nat.xor_comm v, ← Nat.xor_assoc (leftOver v l), Nat.xor_self, Nat.zero_xor] at this
    · intro k
      have := k.xor h
      rwa [Nat.xor_assoc, ← Nat.xor_assoc v, Nat.xor_self, Nat.zero_xor] at this
  rw [key]
end PL

set_option maxRecDepth 100000
set_option maxHeartbeats 4000000
/-! plain: solved_by. -/
namespace PL
/-- an entry: its own bit, its mask, its value -/
abbrev Ent := Nat × Nat × Nat
def dotp (m u : Nat) : Nat := pc (m &&& u) % 2
theorem and_xor_r (a b c : Nat) : (a ^^^ b) &&& c = (a &&& c) ^^^ (b &&& c) := by
  apply Nat.eq_of_testBit_eq
  intro i
  simp only [Nat.testBit_and, Nat.testBit_xor]
  cases a.testBit i <;> cases b.testBit i <;> cases c.testBit i <;> rfl
theorem dotp_xor (a b u : Nat) : dotp (a ^^^ b) u = (dotp a u + dotp b u) % 2 := by
  unfold dotp
  rw [and_xor_r, pc_xor]
  omega
theorem dotp_lt (a u : Nat) : dotp a u < 2 := Nat.mod_lt _ (by omega)
/-- reduced by the entries -/
def redu (md : Nat × Nat) : List Ent → Nat × Nat
  | [] => md
  | e :: l => redu (if md.1 / 2 ^ e.1 % 2 = 1 then (md.1 ^^^ e.2.1, md.2 ^^^ e.2.2) else md) l
/-- each entry has its own bit, and no other entry has it -/
def Own (l : List Ent) : Prop := ∀ (i j : Nat) (e f : Ent), l[i]? = some e → l[j]? = some f → f.2.1.testBit e.1 = decide (i = j)
def clr (lead m d : Nat) (e : Ent) : Ent := if e.2.1 / 2 ^ lead % 2 = 1 then (e.1, e.2.1 ^^^ m, e.2.2 ^^^ d) else e
def put (l : List Ent) (eq : Nat × Nat) : List Ent :=
  let md := redu eq l
  if md.1 = 0 then l else l.map (clr (Nat.log2 md.1) md.1 md.2) ++ [(Nat.log2 md.1, md.1, md.2)]
def Sol (l : List Ent) (u : Nat) : Prop := ∀ e, e ∈ l → dotp e.2.1 u = e.2.2 ∧ e.2.2 < 2
def found (l : List Ent) : Nat := l.foldl (fun a e => a ||| (e.2.2 * 2 ^ e.1)) 0
theorem x2 (a b : Nat) (ha : a < 2) (hb : b < 2) : a ^^^ b = (a + b) % 2 := by
  have : a = 0 ∨ a = 1 := by omega
  have : b = 0 ∨ b = 1 := by omega
  rcases ‹a = 0 ∨ a = 1› with rfl | rfl <;> rcases ‹b = 0 ∨ b = 1› with rfl | rfl <;> rfl
theorem redu_in : ∀ (l : List Ent) (md : Nat × Nat), InS (l.map (·.2.1)) (md.1 ^^^ (redu md l).1)
  | [], md => by rw [redu, Nat.xor_self]; rfl
  | e :: l, md => by
    rw [redu]
    have h := redu_in l (if md.1 / 2 ^ e.1 % 2 = 1 then (md.1 ^^^ e.2.1, md.2 ^^^ e.2.2) else md)
    split
    · rename_i hb
      rw [if_pos hb] at h
      exact .inr (by rw [xorr]; exact h)
    · rename_i hb
      rw [if_neg hb] at h
      exact .inl h
theorem redu_sol : ∀ (l : List Ent) (md : Nat × Nat) (u : Nat), md.2 < 2 → Sol l u → (redu md l).2 < 2 ∧ (dotp (redu md l).1 u = (redu md l).2 ↔ dotp md.1 u = md.2)
  | [], md, u, hd, _ => ⟨hd, Iff.rfl⟩
  | e :: l, md, u, hd, hs => by
    rw [redu]
    have h0 := hs e (List.mem_cons_self ..)
    have hl : Sol l u := fun f hf => hs f (List.mem_cons_of_mem _ hf)
    split
    · have h := redu_sol l (md.1 ^^^ e.2.1, md.2 ^^^ e.2.2) u (by rw [x2 _ _ hd h0.2]; omega) hl
      refine ⟨h.1, h.2.trans ?_⟩
      show dotp (md.1 ^^^ e.2.1) u = md.2 ^^^ e.2.2 ↔ _
      rw [dotp_xor, x2 _ _ hd h0.2, h0.1]
      have := dotp_lt md.1 u
      have := h0.2
      omega
    · exact redu_sol l md u hd hl
theorem redu_keep : ∀ (l : List Ent) (md : Nat × Nat) (b : Nat), (∀ e, e ∈ l → e.2.1.testBit b = false) → (redu md l).1.testBit b = md.1.testBit b
  | [], md, b, _ => rfl
  | e :: l, md, b, h => by
    rw [redu, redu_keep l _ b fun q hq => h q (List.mem_cons_of_mem _ hq)]
    split
    · show (md.1 ^^^ e.2.1).testBit b = _
      rw [Nat.testBit_xor, h e (List.mem_cons_self ..), Bool.xor_false]
    · rfl
theorem Own.tail {e : Ent} {l : List Ent} (h : Own (e :: l)) : Own l := fun i j a b h1 h2 => by
  have := h (i + 1) (j + 1) a b h1 h2
  simpa using this
theorem Own.head {e : Ent} {l : List Ent} (h : Own (e :: l)) : e.2.1.testBit e.1 = true ∧ ∀ f, f ∈ l → f.2.1.testBit e.1 = false ∧ e.2.1.testBit f.1 = false := by
  refine ⟨by simpa using h 0 0 e e rfl rfl, fun f hf => ?_⟩
  obtain ⟨i, hi⟩ := List.mem_iff_getElem?.mp hf
  exact ⟨by simpa using h 0 (i + 1) e f rfl hi, by simpa using h (i + 1) 0 f e hi rfl⟩
theorem redu_bit : ∀ {l : List Ent} (md : Nat × Nat), Own l → ∀ e, e ∈ l → (redu md l).1.testBit e.1 = false
  | e :: l, md, ho, f, hf => by
    obtain ⟨h1, h2⟩ := ho.head
    rw [redu]
    rcases List.mem_cons.mp hf with rfl | hf
    · rw [redu_keep l _ _ fun q hq => (h2 q hq).1]
      split
      · rename_i hb
        show (md.1 ^^^ _).testBit _ = _
        rw [Nat.testBit_xor, h1, (tb_div _ _).mp hb]
        rfl
      · rename_i hb
        rw [tb_div] at hb
        simpa using hb
    · exact redu_bit _ ho.tail f hf
theorem Own.put {l : List Ent} (ho : Own l) (eq : Nat × Nat) : Own (PL.put l eq) := by
  unfold PL.put
  dsimp only
  split
  · exact ho
  · rename_i hne
    have hz := redu_bit eq ho
    have hlead : (redu eq l).1.testBit (Nat.log2 (redu eq l).1) = true := Nat.testBit_log2 hne
    generalize redu eq l = md at hz hne hlead
    have c1 : ∀ e : Ent, (clr (Nat.log2 md.1) md.1 md.2 e).1 = e.1 := fun e => by unfold clr; split <;> rfl
    have c2 : ∀ (e : Ent) b, md.1.testBit b = false → (clr (Nat.log2 md.1) md.1 md.2 e).2.1.testBit b = e.2.1.testBit b := fun e b hb => by
      unfold clr
      split
      · show (e.2.1 ^^^ md.1).testBit b = _
        rw [Nat.testBit_xor, hb, Bool.xor_false]
      · rfl
    have c3 : ∀ e : Ent, (clr (Nat.log2 md.1) md.1 md.2 e).2.1.testBit (Nat.log2 md.1) = false := fun e => by
      unfold clr
      split
      · rename_i h
        show (e.2.1 ^^^ md.1).testBit _ = _
        rw [Nat.testBit_xor, hlead, (tb_div _ _).mp h]
        rfl
      · rename_i h
        rw [tb_div] at h
        simpa using h
    intro i j e f h1 h2
    rw [List.getElem?_append] at h1 h2
    simp only [List.length_map, List.getElem?_map] at h1 h2
    split at h1
    · rename_i hi
      obtain ⟨e0, he0, rfl⟩ := Option.map_eq_some_iff.mp h1
      have hze := hz e0 (List.mem_of_getElem? he0)
      split at h2
      · obtain ⟨f0, hf0, rfl⟩ := Option.map_eq_some_iff.mp h2
        rw [c1, c2 _ _ hze]
        exact ho i j e0 f0 he0 hf0
      · rename_i hj
        have hj2 : j - l.length = 0 := by
          rcases Nat.eq_zero_or_pos (j - l.length) with h | h
          · exact h
          · rw [List.getElem?_eq_none (by simp; omega)] at h2; cases h2
        rw [hj2] at h2
        cases h2
        rw [c1]
        show md.1.testBit e0.1 = _
        rw [hze]
        simp; omega
    · rename_i hi
      have hi2 : i - l.length = 0 := by
        rcases Nat.eq_zero_or_pos (i - l.length) with h | h
        · exact h
        · rw [List.getElem?_eq_none (by simp; omega)] at h1; cases h1
      rw [hi2] at h1
      cases h1
      split at h2
      · obtain ⟨f0, hf0, rfl⟩ := Option.map_eq_some_iff.mp h2
        show (clr _ _ _ f0).2.1.testBit (Nat.log2 md.1) = _
        rw [c3]
        simp; omega
      · rename_i hj
        have hj2 : j - l.length = 0 := by
          rcases Nat.eq_zero_or_pos (j - l.length) with h | h
          · exact h
          · rw [List.getElem?_eq_none (by simp; omega)] at h2; cases h2
        rw [hj2] at h2
        cases h2
        show md.1.testBit (Nat.log2 md.1) = _
        rw [hlead]
        simp; omega
end PL

set_option maxRecDepth 100000
set_option maxHeartbeats 4000000
/-! plain: solved_by, its solutions. -/
namespace PL
theorem clr_sol {lead m d u : Nat} {e : Ent} (hm : dotp m u = d) (hd : d < 2) (he : e.2.2 < 2) (h : dotp (clr lead m d e).2.1 u = (clr lead m d e).2.2) : dotp e.2.1 u = e.2.2 := by
  unfold clr at h
  split at h
  · have h : dotp (e.2.1 ^^^ m) u = e.2.2 ^^^ d := h
    rw [dotp_xor, x2 _ _ he hd, hm] at h
    have := dotp_lt e.2.1 u
    omega
  · exact h
theorem clr_lt {lead m d : Nat} {e : Ent} (hd : d < 2) (he : e.2.2 < 2) : (clr lead m d e).2.2 < 2 := by
  unfold clr
  split
  · show e.2.2 ^^^ d < 2
    rw [x2 _ _ he hd]
    omega
  · exact he
theorem redu_lt : ∀ (l : List Ent) (md : Nat × Nat), md.2 < 2 → (∀ e, e ∈ l → e.2.2 < 2) → (redu md l).2 < 2
  | [], md, hd, _ => hd
  | e :: l, md, hd, h => by
    rw [redu]
    refine redu_lt l _ ?_ fun f hf => h f (List.mem_cons_of_mem _ hf)
    split
    · show md.2 ^^^ e.2.2 < 2
      rw [x2 _ _ hd (h e (List.mem_cons_self ..))]
      omega
    · exact hd
theorem put_lt {l : List Ent} {eq : Nat × Nat} (hd : eq.2 < 2) (h : ∀ e, e ∈ l → e.2.2 < 2) : ∀ e, e ∈ put l eq → e.2.2 < 2 := by
  unfold put
  dsimp only
  split
  · exact h
  · intro e he
    rcases List.mem_append.mp he with he | he
    · obtain ⟨f, hf, rfl⟩ := List.mem_map.mp he
      exact clr_lt (redu_lt l eq hd h) (h f hf)
    · rw [List.mem_singleton.mp he]
      exact redu_lt l eq hd h
/-- a solution behind solves what was, and the equation -/
theorem put_sol {l : List Ent} {eq : Nat × Nat} {u : Nat} (hd : eq.2 < 2) (h : ∀ e, e ∈ l → e.2.2 < 2) (hne : (redu eq l).1 ≠ 0) (hs : Sol (put l eq) u) : Sol l u ∧ dotp eq.1 u = eq.2 := by
  have hd2 := redu_lt l eq hd h
  unfold put at hs
  dsimp only at hs
  rw [if_neg hne] at hs
  have hm : dotp (redu eq l).1 u = (redu eq l).2 := (hs _ (List.mem_append_right _ (List.mem_singleton.mpr rfl))).1
  have hl : Sol l u := fun e he => ⟨clr_sol hm hd2 (h e he) (hs _ (List.mem_append_left _ (List.mem_map.mpr ⟨e, he, rfl⟩))).1, h e he⟩
  exact ⟨hl, (redu_sol l eq u hd hl).2.mp hm⟩
theorem put_in {l : List Ent} {eq : Nat × Nat} {v : Nat} (hne : (redu eq l).1 ≠ 0) (h : InS ((put l eq).map (·.2.1)) v) : InS (l.map (·.2.1) ++ [eq.1]) v := by
  unfold put at h
  dsimp only at h
  rw [if_neg hne] at h
  have old : ∀ r, InS (l.map (·.2.1)) r → InS (l.map (·.2.1) ++ [eq.1]) r := fun r hr => InS.app.mpr (.inl hr)
  have hm : InS (l.map (·.2.1) ++ [eq.1]) (redu eq l).1 := InS.app.mpr (.inr (by
    have := redu_in l eq
    rwa [Nat.xor_comm] at this))
  refine InS.sub (fun r hr => ?_) h
  rw [List.map_append, List.map_map] at hr
  rcases List.mem_append.mp hr with hr | hr
  · obtain ⟨e, he, rfl⟩ := List.mem_map.mp hr
    have he2 := old _ (InS.mem (List.mem_map.mpr ⟨e, he, rfl⟩))
    show InS _ (clr _ _ _ e).2.1
    unfold clr
    split
    · exact he2.xor hm
    · exact he2
  · rw [List.mem_singleton.mp hr]
    exact hm
/-- independent: none is made of those ahead -/
def Ind : List Nat → List Nat → Prop
  | _, [] => True
  | a, r :: l => ¬ InS a r ∧ Ind (a ++ [r]) l
theorem solve_own : ∀ (eqs : List (Nat × Nat)) {l : List Ent}, Own l → Own (eqs.foldl put l)
  | [], _, h => h
  | q :: eqs, _, h => solve_own eqs (h.put q)
theorem solve_lt : ∀ (eqs : List (Nat × Nat)) {l : List Ent}, (∀ q, q ∈ eqs → q.2 < 2) → (∀ e, e ∈ l → e.2.2 < 2) → ∀ e, e ∈ eqs.foldl put l → e.2.2 < 2
  | [], _, _, h => h
  | q :: eqs, _, hq, h => solve_lt eqs (fun r hr => hq r (List.mem_cons_of_mem _ hr)) (put_lt (hq q (List.mem_cons_self ..)) h)
theorem solve_sol : ∀ (eqs : List (Nat × Nat)) {l : List Ent} {a : List Nat} {u : Nat}, (∀ e, e ∈ l → e.2.2 < 2) → (∀ v, InS (l.map (·.2.1)) v → InS a v) → Ind a (eqs.map (·.1)) → (∀ q, q ∈ eqs → q.2 < 2) →
    Sol (eqs.foldl put l) u → Sol l u ∧ ∀ q, q ∈ eqs → dotp q.1 u = q.2
  | [], l, a, u, _, _, _, _, hs => ⟨hs, fun q hq => by cases hq⟩
  | q :: eqs, l, a, u, hl, ha, ⟨h1, h2⟩, hq, hs => by
    have hne : (redu q l).1 ≠ 0 := fun e => by
      have := redu_in l q
      rw [e, Nat.xor_zero] at this
      exact h1 (ha _ this)
    have hq0 := hq q (List.mem_cons_self ..)
    obtain ⟨k1, k2⟩ := solve_sol eqs (l := put l q) (a := a ++ [q.1]) (put_lt hq0 hl) (fun v hv => by
      have := put_in hne hv
      rcases InS.app.mp this with h | h
      · exact InS.app.mpr (.inl (ha _ h))
      · exact InS.app.mpr (.inr (ha _ h))) h2 (fun r hr => hq r (List.mem_cons_of_mem _ hr)) hs
    obtain ⟨k3, k4⟩ := put_sol hq0 hl hne k1
    refine ⟨k3, fun r hr => ?_⟩
    rcases List.mem_cons.mp hr with rfl | hr
    · exact k4
    · exact k2 r hr
theorem pc_two (k : Nat) : pc (2 ^ k) = 1 := by
  induction k with
  | zero => rw [pc_step]; rw [show (2 ^ 0 / 2 : Nat) = 0 from rfl, pc0]
  | succ k ih =>
    rw [pc_step, Nat.pow_succ, Nat.mul_div_cancel _ (by omega), ih, Nat.mul_mod_left]
theorem foundBit (l : List Ent) (a b : Nat) (h : ∀ e, e ∈ l → e.2.2 < 2) : (l.foldl (fun a e => a ||| (e.2.2 * 2 ^ e.1)) a).testBit b = (a.testBit b || l.any fun e => decide (e.1 = b) && decide (e.2.2 = 1)) := by
  induction l generalizing a with
  | nil => simp
  | cons e l ih =>
    rw [List.foldl_cons, ih _ fun f hf => h f (List.mem_cons_of_mem _ hf), List.any_cons, Nat.testBit_or]
    have he := h e (List.mem_cons_self ..)
    have : e.2.2 = 0 ∨ e.2.2 = 1 := by omega
    rcases this with k | k
    · rw [k]; simp
    · rw [k, Nat.one_mul, Nat.testBit_two_pow]
      simp [Bool.or_assoc]
theorem found_sol {l : List Ent} (ho : Own l) (h : ∀ e, e ∈ l → e.2.2 < 2) : Sol l (found l) := by
  intro e he
  refine ⟨?_, h e he⟩
  obtain ⟨i, hi⟩ := List.mem_iff_getElem?.mp he
  have key : e.2.1 &&& found l = if e.2.2 = 1 then 2 ^ e.1 else 0 := by
    apply Nat.eq_of_testBit_eq
    intro b
    rw [Nat.testBit_and]
    unfold found
    rw [foundBit l 0 b h]
    simp only [Nat.zero_testBit, Bool.false_or]
    by_cases hb : b = e.1
    · subst hb
      have h1 := ho i i e e hi hi
      simp only [decide_true] at h1
      rw [h1, Bool.true_and]
      by_cases hv : e.2.2 = 1
      · rw [if_pos hv, Nat.testBit_two_pow]
        simp only [decide_true, List.any_eq_true, Bool.and_eq_true, decide_eq_true_eq]
        exact ⟨e, he, rfl, hv⟩
      · rw [if_neg hv, Nat.zero_testBit]
        rw [List.any_eq_false]
        intro f hf hc
        simp only [Bool.and_eq_true, decide_eq_true_eq] at hc
        obtain ⟨j, hj⟩ := List.mem_iff_getElem?.mp hf
        have h2 := ho j i f e hj hi
        rw [hc.1, h1] at h2
        have hij : j = i := by simpa using h2.symm
        subst hij
        rw [hi] at hj
        cases hj
        exact hv hc.2
    · have : (if e.2.2 = 1 then 2 ^ e.1 else 0 : Nat).testBit b = false := by
        split
        · rw [Nat.testBit_two_pow]; simp; exact fun h => hb h.symm
        · exact Nat.zero_testBit b
      rw [this, Bool.and_eq_false_iff]
      by_cases ha : (l.any fun e => decide (e.1 = b) && decide (e.2.2 = 1)) = true
      · left
        obtain ⟨f, hf, hc⟩ := List.any_eq_true.mp ha
        simp only [Bool.and_eq_true, decide_eq_true_eq] at hc
        obtain ⟨j, hj⟩ := List.mem_iff_getElem?.mp hf
        have h2 := ho j i f e hj hi
        rw [hc.1] at h2
        rw [h2]
        simp only [decide_eq_false_iff_not]
        intro hij
        subst hij
        rw [hi] at hj
        cases hj
        exact hb hc.1.symm
      · right; exact Bool.eq_false_iff.mpr ha
  unfold dotp
  rw [key]
  have := h e he
  split
  · rename_i hv; rw [pc_two, hv]
  · rw [pc0]; omega
end PL

set_option maxRecDepth 100000
set_option maxHeartbeats 4000000
/-! plain: two halves of a number. -/
namespace PL
theorem pc_split (n : Nat) (v : Nat) : pc v = pc (v % 2 ^ n) + pc (v / 2 ^ n) := by
  induction n generalizing v with
  | zero => rw [Nat.pow_zero, Nat.mod_one, Nat.div_one, pc0, Nat.zero_add]
  | succ n ih =>
    have h := ih (v / 2)
    have e1 : (v % 2 ^ (n + 1)) % 2 = v % 2 := by rw [Nat.pow_succ, Nat.mul_comm]; exact Nat.mod_mul_right_mod v 2 (2 ^ n)
    have e2 : (v % 2 ^ (n + 1)) / 2 = v / 2 % 2 ^ n := by rw [Nat.pow_succ, Nat.mul_comm, Nat.mod_mul_right_div_self]
    have e3 : v / 2 ^ (n + 1) = v / 2 / 2 ^ n := by rw [Nat.pow_succ, Nat.mul_comm, Nat.div_div_eq_div_mul]
    rw [pc_step v, pc_step (v % 2 ^ (n + 1)), e1, e2, e3, h]
    omega
def join (n c d : Nat) : Nat := c ||| (d * 2 ^ n)
theorem join_low {n c d : Nat} (hc : c < 2 ^ n) : join n c d % 2 ^ n = c := by
  apply Nat.eq_of_testBit_eq
  intro i
  unfold join
  rw [Nat.testBit_mod_two_pow, Nat.testBit_or, ← Nat.shiftLeft_eq, Nat.testBit_shiftLeft]
  by_cases h : i < n
  · simp [h, Nat.not_le.mpr h]
  · have : c.testBit i = false := Nat.testBit_lt_two_pow (Nat.lt_of_lt_of_le hc (Nat.pow_le_pow_right (by omega) (by omega)))
    simp [h, this]
theorem join_high {n c d : Nat} (hc : c < 2 ^ n) : join n c d / 2 ^ n = d := by
  apply Nat.eq_of_testBit_eq
  intro i
  unfold join
  rw [← Nat.shiftRight_eq_div_pow, Nat.testBit_shiftRight, Nat.testBit_or, ← Nat.shiftLeft_eq, Nat.testBit_shiftLeft]
  have : c.testBit (n + i) = false := Nat.testBit_lt_two_pow (Nat.lt_of_lt_of_le hc (Nat.pow_le_pow_right (by omega) (by omega)))
  simp [this]
theorem and_low (n a u : Nat) : (a &&& u) % 2 ^ n = (a % 2 ^ n) &&& (u % 2 ^ n) := Nat.and_mod_two_pow
theorem and_high (n a u : Nat) : (a &&& u) / 2 ^ n = (a / 2 ^ n) &&& (u / 2 ^ n) := by
  rw [← Nat.shiftRight_eq_div_pow, ← Nat.shiftRight_eq_div_pow, ← Nat.shiftRight_eq_div_pow, Nat.shiftRight_and_distrib]
theorem pc_join {n c d u : Nat} (hc : c < 2 ^ n) : pc (join n c d &&& u) = pc (c &&& (u % 2 ^ n)) + pc (d &&& (u / 2 ^ n)) := by
  rw [pc_split n, and_low, and_high, join_low hc, join_high hc]
theorem join_xor (n c d c' d' : Nat) : join n (c ^^^ c') (d ^^^ d') = join n c d ^^^ join n c' d' ∨ ¬ (c < 2 ^ n ∧ c' < 2 ^ n) := by
  by_cases h : c < 2 ^ n ∧ c' < 2 ^ n
  · left
    obtain ⟨h1, h2⟩ := h
    apply Nat.eq_of_testBit_eq
    intro i
    unfold join
    simp only [← Nat.shiftLeft_eq, Nat.testBit_or, Nat.testBit_xor, Nat.testBit_shiftLeft]
    by_cases hi : i < n
    · simp [Nat.not_le.mpr hi]
    · have k1 : c.testBit i = false := Nat.testBit_lt_two_pow (Nat.lt_of_lt_of_le h1 (Nat.pow_le_pow_right (by omega) (by omega)))
      have k2 : c'.testBit i = false := Nat.testBit_lt_two_pow (Nat.lt_of_lt_of_le h2 (Nat.pow_le_pow_right (by omega) (by omega)))
      have : n ≤ i := by omega
      simp [k1, k2, this]
  · exact .inr h
end PL

set_option maxRecDepth 100000
set_option maxHeartbeats 4000000
/-! plain: letters as pairs. -/
namespace PL
abbrev Pr := Nat × Nat
def px (a b : Pr) : Pr := (a.1 ^^^ b.1, a.2 ^^^ b.2)
def InP : List Pr → Pr → Prop
  | [], v => v = (0, 0)
  | r :: l, v => InP l v ∨ InP l (px v r)
def madeFrom (f : List Pr) (rows : List Pr) : List Pr := rows.foldl (fun f r => f ++ f.map fun p => px r p) f
def made (rows : List Pr) : List Pr := madeFrom [(0, 0)] rows
theorem px_comm (a b : Pr) : px a b = px b a := by unfold px; rw [Nat.xor_comm, Nat.xor_comm a.2]
theorem px_px (a b : Pr) : px (px a b) b = a := by unfold px; simp only [xorc]
theorem px_assoc (a b c : Pr) : px (px a b) c = px a (px b c) := by unfold px; simp only [Nat.xor_assoc]
theorem mem_madeFrom : ∀ (rows f : List Pr) (v : Pr), v ∈ madeFrom f rows ↔ ∃ a, a ∈ f ∧ InP rows (px v a)
  | [], f, v => by
    show v ∈ f ↔ ∃ a, a ∈ f ∧ px v a = (0, 0)
    constructor
    · exact fun h => ⟨v, h, by unfold px; simp⟩
    · rintro ⟨a, ha, e⟩
      have : v = a := by
        have := px_px v a
        rw [e] at this
        rw [← this]
        unfold px
        simp
      rw [this]
      exact ha
  | r :: rows, f, v => by
    show v ∈ madeFrom (f ++ f.map fun p => px r p) rows ↔ _
    rw [mem_madeFrom rows]
    constructor
    · rintro ⟨a, ha, h⟩
      rcases List.mem_append.mp ha with ha | ha
      · exact ⟨a, ha, .inl h⟩
      · obtain ⟨b, hb, rfl⟩ := List.mem_map.mp ha
        refine ⟨b, hb, .inr ?_⟩
        rwa [px_assoc, px_comm b r]
    · rintro ⟨a, ha, h | h⟩
      · exact ⟨a, List.mem_append_left _ ha, h⟩
      · refine ⟨px r a, List.mem_append_right _ (List.mem_map.mpr ⟨a, ha, rfl⟩), ?_⟩
        rwa [px_assoc, px_comm a r] at h
theorem mem_made (rows : List Pr) (v : Pr) : v ∈ made rows ↔ InP rows v := by
  unfold made
  rw [mem_madeFrom]
  have e : px v (0, 0) = v := by unfold px; simp
  constructor
  · rintro ⟨a, ha, h⟩
    rw [List.mem_singleton.mp ha, e] at h
    exact h
  · exact fun h => ⟨(0, 0), by simp, by rw [e]; exact h⟩
def Bd (n : Nat) (p : Pr) : Prop := p.1 < 2 ^ n ∧ p.2 < 2 ^ n
theorem Bd.px {n : Nat} {a b : Pr} (h : Bd n a) (k : Bd n b) : Bd n (px a b) := ⟨Nat.xor_lt_two_pow h.1 k.1, Nat.xor_lt_two_pow h.2 k.2⟩
def num (n : Nat) (p : Pr) : Nat := join n p.1 p.2
def mir (n : Nat) (p : Pr) : Nat := join n p.2 p.1
theorem join_px {n : Nat} {a b : Pr} (h : Bd n a) (k : Bd n b) : num n (px a b) = num n a ^^^ num n b := by
  rcases join_xor n a.1 a.2 b.1 b.2 with e | e
  · exact e
  · exact (e ⟨h.1, k.1⟩).elim
theorem mir_px {n : Nat} {a b : Pr} (h : Bd n a) (k : Bd n b) : mir n (px a b) = mir n a ^^^ mir n b := by
  rcases join_xor n a.2 a.1 b.2 b.1 with e | e
  · exact e
  · exact (e ⟨h.2, k.2⟩).elim
theorem join_zero {n c d : Nat} (hc : c < 2 ^ n) (h : join n c d = 0) : c = 0 ∧ d = 0 := by
  have h1 := join_low (d := d) hc
  have h2 := join_high (d := d) hc
  rw [h] at h1 h2
  simp at h1 h2
  exact ⟨h1.symm, h2.symm⟩
theorem inP_num {n : Nat} : ∀ {l : List Pr} {v : Pr}, (∀ r, r ∈ l → Bd n r) → Bd n v → (InS (l.map (num n)) (num n v) ↔ InP l v)
  | [], v, _, hv => by
    show num n v = 0 ↔ v = (0, 0)
    constructor
    · intro h
      obtain ⟨h1, h2⟩ := join_zero hv.1 h
      exact Prod.ext h1 h2
    · intro h
      rw [h]
      unfold num join
      simp
  | r :: l, v, hl, hv => by
    have hr := hl r (List.mem_cons_self ..)
    have hl' : ∀ q, q ∈ l → Bd n q := fun q hq => hl q (List.mem_cons_of_mem _ hq)
    show (InS (l.map (num n)) (num n v) ∨ InS (l.map (num n)) (num n v ^^^ num n r)) ↔ _
    rw [← join_px hv hr, inP_num hl' hv, inP_num hl' (hv.px hr)]
    rfl
theorem inP_mir {n : Nat} : ∀ {l : List Pr} {v : Pr}, (∀ r, r ∈ l → Bd n r) → Bd n v → (InS (l.map (mir n)) (mir n v) ↔ InP l v)
  | [], v, _, hv => by
    show mir n v = 0 ↔ v = (0, 0)
    constructor
    · intro h
      obtain ⟨h1, h2⟩ := join_zero hv.2 h
      exact Prod.ext h2 h1
    · intro h
      rw [h]
      unfold mir join
      simp
  | r :: l, v, hl, hv => by
    have hr := hl r (List.mem_cons_self ..)
    have hl' : ∀ q, q ∈ l → Bd n q := fun q hq => hl q (List.mem_cons_of_mem _ hq)
    show (InS (l.map (mir n)) (mir n v) ∨ InS (l.map (mir n)) (mir n v ^^^ mir n r)) ↔ _
    rw [← mir_px hv hr, inP_mir hl' hv, inP_mir hl' (hv.px hr)]
    rfl
/-- none is made of those ahead -/
def IndP : List Pr → List Pr → Prop
  | _, [] => True
  | a, r :: l => ¬ InP a r ∧ IndP (a ++ [r]) l
theorem ind_mir {n : Nat} : ∀ {l a : List Pr}, (∀ r, r ∈ a → Bd n r) → (∀ r, r ∈ l → Bd n r) → IndP a l → Ind (a.map (mir n)) (l.map (mir n))
  | [], a, _, _, _ => trivial
  | r :: l, a, ha, hl, ⟨h1, h2⟩ => by
    have hr := hl r (List.mem_cons_self ..)
    refine ⟨fun h => h1 ((inP_mir ha hr).mp h), ?_⟩
    have := ind_mir (a := a ++ [r]) (fun q hq => by
      rcases List.mem_append.mp hq with hq | hq
      · exact ha q hq
      · rw [List.mem_singleton.mp hq]; exact hr) (fun q hq => hl q (List.mem_cons_of_mem _ hq)) h2
    rw [List.map_append] at this
    exact this
/-- whether two go beside one another -/
def bes (a b : Pr) : Bool := decide ((pc (a.1 &&& b.2) + pc (a.2 &&& b.1)) % 2 = 0)
theorem dot_mir {n u : Nat} {a : Pr} (h : Bd n a) : dotp (mir n a) u = (pc (a.2 &&& (u % 2 ^ n)) + pc (a.1 &&& (u / 2 ^ n))) % 2 := by
  unfold dotp mir
  rw [pc_join h.2]
end PL

set_option maxRecDepth 100000
set_option maxHeartbeats 4000000
/-! MiniPy: whole numbers from 0 on, told as such; equality of what is told. -/
namespace MP
open PySem PySem.Spec PL
open PyProof.Rows hiding St
def dN (n : Nat) : D := .int n
def bitLen (n : Nat) : Nat := if n = 0 then 0 else n.log2 + 1
theorem bits_nat (n : Nat) : Builtin.Int.intBits (n : Int) = bitLen n := by
  unfold Builtin.Int.intBits bitLen
  by_cases h : n = 0
  · subst h; rfl
  · have : ((n : Int) == 0) = false := by simpa using h
    rw [this, if_neg h]
    simp
theorem icast (a b : Nat) : ((a : Int) = (b : Int)) = (a = b) := propext (by omega)
theorem ibeq (a b : Nat) : ((a : Int) == (b : Int)) = decide (a = b) := by
  by_cases h : a = b
  · subst h; simp
  · rw [decide_eq_false h]
    exact beq_false_of_ne (by omega)
theorem nlook (S : Sto) (n : Nat) : D.look S (dN n) = dN n := rfl
theorem n_and (a b : Nat) : binD .BitAnd (dN a) (dN b) = some (dN (a &&& b)) := by unfold dN; rw [bin_int, io_and, iAnd]; rfl
theorem n_or (a b : Nat) : binD .BitOr (dN a) (dN b) = some (dN (a ||| b)) := by unfold dN; rw [bin_int, io_or, iOr]; rfl
theorem n_xor (a b : Nat) : binD .BitXor (dN a) (dN b) = some (dN (a ^^^ b)) := by unfold dN; rw [bin_int, io_xor, iXor]; rfl
theorem n_add (a b : Nat) : binD .Add (dN a) (dN b) = some (dN (a + b)) := by
  unfold dN
  rw [bin_int, io_add]
  simp
theorem n_sub {a b : Nat} (h : b ≤ a) : binD .Sub (dN a) (dN b) = some (dN (a - b)) := by
  unfold dN
  rw [bin_int, io_sub, Int.ofNat_sub h]
  rfl
theorem n_shl1 {b : Nat} (h : b ≤ 1000000) : binD .LShift (dN 1) (dN b) = some (dN (2 ^ b)) := by
  unfold dN
  rw [bin_int, show ((1 : Nat) : Int) = 1 from rfl, io_shl1 b h]
  rfl
theorem n_shl {a b : Nat} (h : a < 2 ^ 64) (h2 : b ≤ 1000000) : binD .LShift (dN a) (dN b) = some (dN (a * 2 ^ b)) := by
  unfold dN
  rw [bin_int, io_shl a b h h2]
  rfl
theorem n_shr (a b : Nat) : binD .RShift (dN a) (dN b) = some (dN (a / 2 ^ b)) := by
  unfold dN
  rw [bin_int, io_shr]
  rfl
theorem n_mod {a b : Nat} (h : 0 < b) : binD .Mod (dN a) (dN b) = some (dN (a % b)) := by
  unfold dN
  rw [bin_int, io_mod _ _ (by omega)]
  simp
theorem n_div {a b : Nat} (h : 0 < b) (h2 : b < 1073741824) : binD .FloorDiv (dN a) (dN b) = some (dN (a / b)) := by
  unfold dN
  rw [bin_int, io_div _ _ (by omega) (by omega)]
  simp
theorem n_mul {a b : Nat} (h : a < 2 ^ 64) : binD .Mult (dN a) (dN b) = some (dN (a * b)) := by
  unfold dN
  rw [bin_int]
  have : mulOk (a : Int) (b : Int) = true := by
    unfold mulOk
    simp only [Bool.or_eq_true, Bool.and_eq_true, decide_eq_true_eq]
    left
    omega
  have e : MP.intOp .Mult (a : Int) (b : Int) = some ((a : Int) * (b : Int)) := by
    unfold MP.intOp
    dsimp only
    rw [this, if_pos rfl]
  rw [e]
  simp
theorem n_eq (a b : Nat) : cmpD .Eq (dN a) (dN b) = some (decide (a = b)) := by
  unfold dN
  rw [c_eqi]
  congr 1
  simp only [icast]
theorem n_ne (a b : Nat) : cmpD .NotEq (dN a) (dN b) = some (!decide (a = b)) := by
  unfold dN
  rw [c_nei]
  congr 2
  simp only [icast]
theorem n_lt (a b : Nat) : cmpD .Lt (dN a) (dN b) = some (decide (a < b)) := by
  unfold dN
  rw [c_lt]
  congr 1
  simp
theorem n_le (a b : Nat) : cmpD .LtE (dN a) (dN b) = some (decide (a ≤ b)) := by
  unfold dN
  rw [c_le]
  congr 1
  simp
theorem n_gt (a b : Nat) : cmpD .Gt (dN a) (dN b) = some (decide (b < a)) := by
  unfold dN
  rw [c_gt]
  congr 1
  simp
theorem n_ge (a b : Nat) : cmpD .GtE (dN a) (dN b) = some (decide (b ≤ a)) := by
  unfold dN
  rw [c_ge]
  congr 1
  simp
theorem n_tru (a : Nat) : truD (dN a) = some (!decide (a = 0)) := by
  unfold dN
  rw [tru_int]
  congr 1
  by_cases h : a = 0 <;> simp [h]
theorem n_len (xs : List D) : lenD (.lst xs) = some (dN xs.length) := rfl
theorem n_lent (xs : List D) : lenD (.tup xs) = some (dN xs.length) := rfl
theorem n_lens (xs : Str) : lenD (.str xs) = some (dN xs.length) := rfl
theorem n_int (a : Nat) : intD (dN a) = some (dN a) := rfl
theorem n_intb (b : Bool) : intD (.bl b) = some (dN b.toNat) := by cases b <;> rfl
theorem n_bits (a : Nat) : mtD .bitLength (dN a) [] = some (dN (bitLen a)) := by
  unfold dN
  rw [m_bits, bits_nat]
theorem n_idx (xs : List D) (k : Nat) : idxD (.lst xs) (dN k) = xs[k]? := by unfold dN; rw [x_lst, atI_nat]
theorem n_idxt (xs : List D) (k : Nat) : idxD (.tup xs) (dN k) = xs[k]? := by unfold dN; rw [x_tup, atI_nat]
theorem n_intR (a : Nat) (S : Sto) : intR (dN a) S = .ok (some (a : Int)) S := rfl
theorem cut_from (xs : List D) (k : Nat) : cutL xs (some (k : Int)) none = xs.drop k := by
  unfold cutL HT.sIx
  dsimp only
  have : ¬ ((k : Int) < 0) := by omega
  simp only [this, if_false, Int.toNat_natCast]
  by_cases h : k ≤ xs.length
  · rw [Nat.min_eq_left h]
    rw [List.take_of_length_le (by simp)]
  · rw [Nat.min_eq_right (by omega)]
    rw [List.drop_eq_nil_of_le (Nat.le_refl _), List.drop_eq_nil_of_le (by omega), List.take_nil]
theorem cut_to (xs : List D) (k : Nat) : cutL xs none (some (k : Int)) = xs.take k := by
  unfold cutL HT.sIx
  dsimp only
  have : ¬ ((k : Int) < 0) := by omega
  simp only [this, if_false, Int.toNat_natCast, List.drop_zero, Nat.sub_zero]
  by_cases h : k ≤ xs.length
  · rw [Nat.min_eq_left h]
  · rw [Nat.min_eq_right (by omega), List.take_of_length_le (Nat.le_refl _), List.take_of_length_le (by omega)]
theorem n_rng1 {j : Nat} (h : j ≤ 1000000) : rngD [dN j] = some ((List.range j).map dN) := rng1 j (Nat.lt_of_le_of_lt h (by decide))
theorem n_rng2 {i j : Nat} (h : j ≤ 1000000) (h2 : i ≤ 1000000) : rngD [dN i, dN j] = some ((List.range (j - i)).map fun k => dN (i + k)) := rng2 i j (Nat.lt_of_le_of_lt h (by decide)) (Nat.lt_of_le_of_lt h2 (by decide))
theorem n_slot (b : Bool) (a : Nat) : slotOf b (dN a) = .val (dN a) := by cases b <;> rfl
theorem n_min (a b : Nat) : minD (dN a) (dN b) = some (dN (min a b)) := by
  unfold dN
  rw [mn_int]
  congr 2
  rw [Nat.min_def]
  split <;> split <;> omega
theorem n_max (a b : Nat) : maxD (dN a) (dN b) = some (dN (max a b)) := by
  unfold dN
  rw [mx_int]
  congr 2
  rw [Nat.max_def]
  split <;> split <;> omega
def augT (i : Nat) (ρ : Frame) (S : Sto) (o : Option D) : SR := match o with
  | some d => .nx (ρ.set i (.val d)) S
  | none => .stuck
theorem augT_some (i : Nat) (ρ : Frame) (S : Sto) (d : D) : augT i ρ S (some d) = .nx (ρ.set i (.val d)) S := rfl
def augM (op : Operator) (i : Nat) (x : Nat) (ρ : Frame) (r : Res D) : SR := augK op i x ρ r
theorem augO_N (C : Ev) (op : Operator) (i : Nat) (e : E) (ρ : Frame) (S : Sto) (x : Nat) : augO C op i e ρ S (some (.val (dN x))) = augM op i x ρ (evE C e ρ S) := rfl
theorem augM_ex (op : Operator) (i : Nat) (x : Nat) (ρ : Frame) (c : Nat) (S : Sto) : augM op i x ρ (.exc c S) = .ex c ρ S := rfl
theorem augM_ok {op : Operator} {i : Nat} {x y : Nat} {ρ : Frame} {S : Sto} (h : op ≠ .Pow) : augM op i x ρ (.ok (dN y) S) = augT i ρ S (binD op (dN x) (dN y)) := by
  unfold augM
  rw [augK_ok]
  unfold dN
  rw [augR_int h, bin_int]
  cases MP.intOp op x y <;> rfl
theorem subO_N (ρ : Frame) (i k : Nat) (d : D) (S : Sto) (xs : List D) : subO ρ i (dN k) d S (some (.lst xs)) = subL ρ i xs d S (L2.ixN xs.length (k : Int)) := rfl
theorem n_popAt {l : List D} {i : Nat} {y : D} (h : l[i]? = some y) (hl : l.length ≤ szB) : popAtD (.lst l) [dN i] = some (.lst (l.eraseIdx i), y) := by
  have hi : i < l.length := (List.getElem?_eq_some_iff.mp h).1
  unfold popAtD dN smallI
  unfold szB at hl
  dsimp only
  rw [if_pos (by simp only [Bool.and_eq_true, decide_eq_true_eq]; omega), ixk _ _ hi]
  simp only [Option.bind_some, h, Option.map_some]
theorem ty_int_N (a : Nat) : isTyD "int" (dN a) = some true := by rfl
theorem ty_bool_N (a : Nat) : isTyD "bool" (dN a) = some false := by rfl
theorem ty_int_i (a : Int) : isTyD "int" (.int a) = some true := by rfl
theorem ty_bool_i (a : Int) : isTyD "bool" (.int a) = some false := by rfl
theorem ty_int_b (a : Bool) : isTyD "int" (.bl a) = some true := by rfl
theorem ty_bool_b (a : Bool) : isTyD "bool" (.bl a) = some true := by rfl
theorem ty_int_n : isTyD "int" .non = some false := by rfl
theorem ty_int_s (x : Str) : isTyD "int" (.str x) = some false := by rfl
theorem ty_int_t (x : List D) : isTyD "int" (.tup x) = some false := by rfl
theorem ty_int_l (x : List D) : isTyD "int" (.lst x) = some false := by rfl
theorem ty_bool_n : isTyD "bool" .non = some false := by rfl
theorem ty_bool_s (x : Str) : isTyD "bool" (.str x) = some false := by rfl
theorem ty_bool_t (x : List D) : isTyD "bool" (.tup x) = some false := by rfl
theorem ty_bool_l (x : List D) : isTyD "bool" (.lst x) = some false := by rfl
theorem ty_tuple_t (x : List D) : isTyD "tuple" (.tup x) = some true := by rfl
theorem ty_tuple_l (x : List D) : isTyD "tuple" (.lst x) = some false := by rfl
theorem ty_tuple_N (a : Nat) : isTyD "tuple" (dN a) = some false := by rfl
theorem ty_tuple_i (a : Int) : isTyD "tuple" (.int a) = some false := by rfl
theorem ty_tuple_b (a : Bool) : isTyD "tuple" (.bl a) = some false := by rfl
theorem ty_tuple_n : isTyD "tuple" .non = some false := by rfl
theorem ty_tuple_s (x : Str) : isTyD "tuple" (.str x) = some false := by rfl
theorem ty_list_l (x : List D) : isTyD "list" (.lst x) = some true := by rfl
theorem ty_list_t (x : List D) : isTyD "list" (.tup x) = some false := by rfl
theorem ty_list_N (a : Nat) : isTyD "list" (dN a) = some false := by rfl
theorem ty_list_b (a : Bool) : isTyD "list" (.bl a) = some false := by rfl
theorem ty_list_n : isTyD "list" .non = some false := by rfl
theorem ty_list_s (x : Str) : isTyD "list" (.str x) = some false := by rfl
theorem ty_str_s (x : Str) : isTyD "str" (.str x) = some true := by rfl
theorem ty_str_N (a : Nat) : isTyD "str" (dN a) = some false := by rfl
theorem ty_str_n : isTyD "str" .non = some false := by rfl
theorem ty_str_b (a : Bool) : isTyD "str" (.bl a) = some false := by rfl
theorem ty_str_t (x : List D) : isTyD "str" (.tup x) = some false := by rfl
theorem ty_str_l (x : List D) : isTyD "str" (.lst x) = some false := by rfl
theorem tru_tup (l : List D) : truD (.tup l) = some (!l.isEmpty) := rfl
theorem tru_non : truD .non = some false := rfl
theorem blsD_nil : blsD [] = some [] := rfl
theorem blsD_cons (b : Bool) (l : List D) : blsD (.bl b :: l) = (blsD l).map (b :: ·) := rfl
theorem sum_nat {α : Type} (l : List α) (f : α → Nat) : sumD (.lst (l.map fun a => dN (f a))) = some (dN (l.map f).sum) := by
  have e : (l.map fun a => dN (f a)) = l.map fun a => D.int (f a : Nat) := rfl
  rw [e, sum_lst, intsD_mp, Option.map_some]
  unfold dN
  congr 2
  clear e
  induction l with
  | nil => rfl
  | cons a l ih => rw [List.map_cons, List.map_cons, List.sum_cons, List.sum_cons, Int.natCast_add, ih]
theorem all_map {α : Type} (l : List α) (f : α → Bool) : allD (.lst (l.map fun a => .bl (f a))) = some (.bl (l.all f)) := by
  rw [all_lst, blsD_mp, Option.map_some]
  simp
theorem n_pow {a b : Nat} (h : a < 2 ^ 64) (h2 : b ≤ 1000000) : binD .Pow (dN a) (dN b) = some (dN (a ^ b)) := by
  have : powOk (a : Int) (b : Int) = true := by
    unfold powOk
    simp only [Bool.and_eq_true, decide_eq_true_eq]
    omega
  unfold dN
  rw [bin_int]
  unfold MP.intOp
  dsimp only
  rw [this, if_pos rfl, Int.toNat_natCast]
  simp
theorem n_ige (i : Int) (a : Nat) : cmpD .GtE (.int i) (dN a) = some (decide ((a : Int) ≤ i)) := rfl
theorem n_igt (i : Int) (a : Nat) : cmpD .Gt (.int i) (dN a) = some (decide ((a : Int) < i)) := rfl
theorem mulOk_r (i : Int) {a : Nat} (h : a < 2 ^ 64) : mulOk i (a : Int) = true := by
  unfold mulOk
  simp only [Bool.or_eq_true, Bool.and_eq_true, decide_eq_true_eq]
  right
  omega
theorem mulOk_l (i : Int) {a : Nat} (h : a < 2 ^ 64) : mulOk (a : Int) i = true := by
  unfold mulOk
  simp only [Bool.or_eq_true, Bool.and_eq_true, decide_eq_true_eq]
  left
  omega
theorem n_imul (i : Int) {a : Nat} (h : a < 2 ^ 64) : binD .Mult (.int i) (dN a) = some (.int (i * a)) := by
  unfold dN
  rw [bin_int]
  unfold MP.intOp
  dsimp only
  rw [mulOk_r i h, if_pos rfl]
  rfl
theorem n_muli (i : Int) {a : Nat} (h : a < 2 ^ 64) : binD .Mult (dN a) (.int i) = some (.int (a * i)) := by
  unfold dN
  rw [bin_int]
  unfold MP.intOp
  dsimp only
  rw [mulOk_l i h, if_pos rfl]
  rfl
theorem n_imod (i : Int) {a : Nat} (h : 0 < a) : binD .Mod (.int i) (dN a) = some (dN (i % (a : Int)).toNat) := by
  unfold dN
  rw [bin_int, io_mod _ _ (by omega), Int.toNat_of_nonneg (Int.emod_nonneg _ (by omega))]
  rfl
theorem n_idiv (i : Int) {a : Nat} (h : 0 < a) (h2 : a < 1073741824) : binD .FloorDiv (.int i) (dN a) = some (.int (i / (a : Int))) := by
  unfold dN
  rw [bin_int, io_div _ _ (by omega) (by omega)]
  rfl
theorem n_iadd (i : Int) (a : Nat) : binD .Add (.int i) (dN a) = some (.int (i + a)) := rfl
theorem n_addi (i : Int) (a : Nat) : binD .Add (dN a) (.int i) = some (.int (a + i)) := rfl
theorem n_addii (i j : Int) : binD .Add (.int i) (.int j) = some (.int (i + j)) := rfl
theorem n_ix30 : L2.ixN 3 ((0 : Nat) : Int) = some 0 := rfl
theorem n_ix31 : L2.ixN 3 ((1 : Nat) : Int) = some 1 := rfl
theorem n_ix32 : L2.ixN 3 ((2 : Nat) : Int) = some 2 := rfl
theorem toNat_mod_lt (i : Int) {a : Nat} (h : 0 < a) : (i % (a : Int)).toNat < a := by
  have h1 := Int.emod_nonneg i (b := (a : Int)) (by omega)
  have h2 := Int.emod_lt_of_pos i (b := (a : Int)) (by omega)
  omega
theorem n_mk_app (l : List D) : mmK .append (.lst l) = true := rfl
theorem n_mk_ext (l : List D) : mmK .extend (.lst l) = true := rfl
theorem n_mk_pop (l : List D) : mmK .pop (.lst l) = true := rfl
theorem n_mk_popAt (l : List D) : mmK .popAt (.lst l) = true := rfl
theorem n_mk_clear (l : List D) : mmK .clear (.lst l) = true := rfl
theorem n_he_app : heldM .append = true := rfl
theorem n_he_ext : heldM .extend = false := rfl
theorem n_he_pop : heldM .pop = false := rfl
theorem n_he_popAt : heldM .popAt = false := rfl
theorem n_he_clear : heldM .clear = false := rfl
theorem n_md_app (d : D) (xs : List D) : mmD .append d xs = appendD d xs := rfl
theorem n_md_ext (d : D) (xs : List D) : mmD .extend d xs = extendD d xs := rfl
theorem n_md_popAt (d : D) (xs : List D) : mmD .popAt d xs = popAtD d xs := rfl
theorem n_md_pop (d : D) (xs : List D) : mmD .pop d xs = popD d xs := rfl
theorem n_md_clear (d : D) (xs : List D) : mmD .clear d xs = clearD d xs := rfl
def slotFree (o : Option Slot) : Bool := match o with
  | some s => s.free
  | none => true
theorem n_free0 : slotFree (some .no) = true := rfl
theorem n_free1 (d : D) : slotFree (some (.val d)) = true := rfl
theorem n_own1 (ρ : Frame) (i : Nat) : ownOk ρ (.v i) [i] = slotFree ρ[i]? := by
  unfold ownOk slotFree
  simp [Tgt.vars] <;> rfl
theorem n_own2 (ρ : Frame) (i j : Nat) : ownOk ρ (.t [.v i, .v j]) [i, j] = (slotFree ρ[i]? && slotFree ρ[j]?) := by
  unfold ownOk slotFree
  simp [Tgt.vars, Tgt.varss] <;> rfl
theorem n_own3 (ρ : Frame) (i j k : Nat) : ownOk ρ (.t [.v i, .v j, .v k]) [i, j, k] = (slotFree ρ[i]? && (slotFree ρ[j]? && slotFree ρ[k]?)) := by
  unfold ownOk slotFree
  simp [Tgt.vars, Tgt.varss] <;> rfl
/-! ### equality -/
/-- a way to tell things of a type: equal just where the things are -/
structure Em {α : Type} [DecidableEq α] (emb : α → D) where
  py : α → PyData
  h1 : ∀ a, (emb a).py = some (py a)
  h2 : ∀ a, PyData.canLay0 (py a) = true
  dp : Nat
  h3 : ∀ a, PyData.depth (py a) ≤ dp
  h4 : ∀ a b, PyData.eqv (py a) (py b) = decide (a = b)
theorem Em.pys {α : Type} [DecidableEq α] {emb : α → D} (m : Em emb) (l : List α) : D.pys (l.map emb) = some (l.map m.py) := by
  induction l with
  | nil => rfl
  | cons a l ih =>
    rw [List.map_cons, D.pys, m.h1, ih]
    rfl
theorem Em.can {α : Type} [DecidableEq α] {emb : α → D} (m : Em emb) (l : List α) : PyData.canLayAll0 (l.map m.py) = true := by
  induction l with
  | nil => rfl
  | cons a l ih => rw [List.map_cons, PyData.canLayAll0, m.h2, ih]; rfl
theorem Em.dep {α : Type} [DecidableEq α] {emb : α → D} (m : Em emb) (l : List α) : PyData.depthAll (l.map m.py) ≤ m.dp := by
  induction l with
  | nil => exact Nat.zero_le _
  | cons a l ih => rw [List.map_cons, PyData.depthAll]; exact Nat.max_le.mpr ⟨m.h3 a, ih⟩
theorem Em.all {α : Type} [DecidableEq α] {emb : α → D} (m : Em emb) : ∀ (l k : List α), PyData.eqvAll (l.map m.py) (k.map m.py) = decide (l = k)
  | [], [] => by rw [List.map_nil, PyData.eqvAll]; rfl
  | [], _ :: _ => by rw [List.map_nil, List.map_cons, PyData.eqvAll]; rfl
  | _ :: _, [] => by rw [List.map_nil, List.map_cons, PyData.eqvAll]; rfl
  | a :: l, b :: k => by
    rw [List.map_cons, List.map_cons, PyData.eqvAll, m.h4, Em.all m l k]
    by_cases h1 : a = b <;> by_cases h2 : l = k <;> simp [h1, h2]
def Em.lst {α : Type} [DecidableEq α] {emb : α → D} (m : Em emb) : Em (fun l : List α => D.lst (l.map emb)) where
  py := fun l => .list (l.map m.py)
  h1 := fun l => by rw [D.py, m.pys]; rfl
  h2 := fun l => by rw [PyData.canLay0]; exact m.can l
  dp := m.dp + 1
  h3 := fun l => by
    have := m.dep l
    rw [PyData.depth]
    omega
  h4 := fun l k => by rw [PyData.eqv]; exact m.all l k
def emN : Em dN where
  py := fun a => .int a
  h1 := fun _ => rfl
  h2 := fun _ => rfl
  dp := 1
  h3 := fun _ => by rw [PyData.depth]; omega
  h4 := fun a b => by
    rw [PyData.eqv, ibeq]
def dP (p : Pr) : D := .tup [dN p.1, dN p.2]
def dR (r : Nat × Pr) : D := .tup [dN r.1, dN r.2.1, dN r.2.2]
def emP : Em dP where
  py := fun p => .tuple [.int p.1, .int p.2]
  h1 := fun _ => rfl
  h2 := fun _ => rfl
  dp := 2
  h3 := fun p => by simp [PyData.depth, PyData.depthAll]
  h4 := fun a b => by
    obtain ⟨a1, a2⟩ := a
    obtain ⟨b1, b2⟩ := b
    simp only [PyData.eqv, PyData.eqvAll, Prod.mk.injEq, Bool.and_true]
    simp only [ibeq]
    by_cases h1 : a1 = b1 <;> by_cases h2 : a2 = b2 <;> simp [h1, h2]
def emR : Em dR where
  py := fun p => .tuple [.int p.1, .int p.2.1, .int p.2.2]
  h1 := fun _ => rfl
  h2 := fun _ => rfl
  dp := 2
  h3 := fun p => by simp [PyData.depth, PyData.depthAll]
  h4 := fun a b => by
    obtain ⟨a1, a2, a3⟩ := a
    obtain ⟨b1, b2, b3⟩ := b
    simp only [PyData.eqv, PyData.eqvAll, Prod.mk.injEq, Bool.and_true]
    simp only [ibeq]
    by_cases h1 : a1 = b1 <;> by_cases h2 : a2 = b2 <;> by_cases h3 : a3 = b3 <;> simp [h1, h2, h3]
theorem Em.eqP {α : Type} [DecidableEq α] {emb : α → D} (m : Em emb) (hd : m.dp ≤ 64) (a b : α) : MP.eqP (emb a) (emb b) = some (decide (a = b)) := by
  have sh : ∀ a, SeqAt.shaped (m.py a) = true := fun a => by
    have := m.h3 a
    unfold SeqAt.shaped
    rw [m.h2, decide_eq_true (by omega)]
    rfl
  unfold MP.eqP
  rw [m.h1, m.h1]
  dsimp only
  rw [sh, sh, m.h4]
  rfl
theorem Em.inD {α : Type} [DecidableEq α] {emb : α → D} (m : Em emb) (hd : m.dp + 1 ≤ 64) (a : α) (l : List α) : MP.inD (emb a) (.lst (l.map emb)) = some (decide (a ∈ l)) := by
  have sh : ∀ a, SeqAt.shaped (m.py a) = true := fun a => by
    have := m.h3 a
    unfold SeqAt.shaped
    rw [m.h2, decide_eq_true (by omega)]
    rfl
  have sl : SeqAt.shaped (.list (l.map m.py)) = true := by
    have := m.lst.h3 l
    unfold SeqAt.shaped
    rw [show PyData.canLay0 (.list (l.map m.py)) = true from m.lst.h2 l, decide_eq_true (show PyData.depth (.list (l.map m.py)) ≤ 64 from Nat.le_trans this hd)]
    rfl
  unfold MP.inD
  dsimp only
  rw [m.h1, m.pys]
  dsimp only
  rw [sh, sl]
  simp only [Bool.and_self, if_true, Option.some.injEq, List.any_map]
  induction l with
  | nil => rfl
  | cons b l ih =>
    have sl2 : SeqAt.shaped (.list (l.map m.py)) = true := by
      have := m.lst.h3 l
      unfold SeqAt.shaped
      rw [show PyData.canLay0 (.list (l.map m.py)) = true from m.lst.h2 l, decide_eq_true (show PyData.depth (.list (l.map m.py)) ≤ 64 from Nat.le_trans this hd)]
      rfl
    rw [List.any_cons, ih sl2]
    show (PyData.eqv (m.py b) (m.py a) || _) = _
    rw [m.h4]
    by_cases h1 : b = a
    · subst h1; simp
    · have h2 : ¬ a = b := fun h => h1 h.symm
      simp [h1, h2]
theorem eq_lst {α : Type} [DecidableEq α] {emb : α → D} (m : Em emb) (hd : m.dp + 1 ≤ 64) (l k : List α) : cmpD .Eq (.lst (l.map emb)) (.lst (k.map emb)) = some (decide (l = k)) := m.lst.eqP hd l k
theorem ne_lst {α : Type} [DecidableEq α] {emb : α → D} (m : Em emb) (hd : m.dp + 1 ≤ 64) (l k : List α) : cmpD .NotEq (.lst (l.map emb)) (.lst (k.map emb)) = some (!decide (l = k)) := by
  have := m.lst.eqP hd l k
  show (MP.eqP _ _).map not = _
  rw [this]
  rfl
theorem in_lst {α : Type} [DecidableEq α] {emb : α → D} (m : Em emb) (hd : m.dp + 1 ≤ 64) (a : α) (l : List α) : cmpD .In (emb a) (.lst (l.map emb)) = some (decide (a ∈ l)) := m.inD hd a l
theorem nin_lst {α : Type} [DecidableEq α] {emb : α → D} (m : Em emb) (hd : m.dp + 1 ≤ 64) (a : α) (l : List α) : cmpD .NotIn (emb a) (.lst (l.map emb)) = some (!decide (a ∈ l)) := by
  show (MP.inD _ _).map not = _
  rw [m.inD hd a l]
  rfl
theorem enum_map {α : Type} (f : α → D) : ∀ (l : List α) (n : Nat), enumL n (l.map f) = (l.zipIdx n).map fun p => .tup [dN p.2, f p.1]
  | [], _ => rfl
  | a :: l, n => by
    rw [List.map_cons, enumL, enum_map f l (n + 1), List.zipIdx_cons, List.map_cons]
    rfl
/-! ### draws -/
/-- the drawer's cell -/
def Wc (S : Sto) (i : Nat) : Prop := ∃ a b c : Int, S[i]? = some (.lst [.int a, .int b, .int c])
/-- only this cell is another one -/
def Dr (i : Nat) (S S' : Sto) : Prop := ∃ a b c : Int, S' = S.set i (.lst [.int a, .int b, .int c])
theorem Wc.lt {S : Sto} {i : Nat} (h : Wc S i) : i < S.length := by
  obtain ⟨a, b, c, h⟩ := h
  exact (List.getElem?_eq_some_iff.mp h).1
theorem Dr.wc {i : Nat} {S S' : Sto} (h : Dr i S S') (hw : i < S.length) : Wc S' i := by
  obtain ⟨a, b, c, rfl⟩ := h
  exact ⟨a, b, c, by rw [List.getElem?_set_self hw]⟩
theorem Dr.trans {i : Nat} {S S' S'' : Sto} (h : Dr i S S') (k : Dr i S' S'') : Dr i S S'' := by
  obtain ⟨a, b, c, rfl⟩ := h
  obtain ⟨d, e, f, rfl⟩ := k
  exact ⟨d, e, f, by rw [List.set_set]⟩
theorem Dr.refl {i : Nat} {S : Sto} (h : Wc S i) : Dr i S S := by
  obtain ⟨a, b, c, h⟩ := h
  refine ⟨a, b, c, ?_⟩
  apply List.ext_getElem?
  intro j
  rw [List.getElem?_set]
  split
  · rename_i e
    subst e
    rw [if_pos (List.getElem?_eq_some_iff.mp h).1, h]
  · rfl
theorem Dr.at {i j : Nat} {S S' : Sto} (h : Dr i S S') (hj : j ≠ i) : S'[j]? = S[j]? := by
  obtain ⟨a, b, c, rfl⟩ := h
  rw [List.getElem?_set_ne (fun e => hj e.symm)]
theorem Dr.len {i : Nat} {S S' : Sto} (h : Dr i S S') : S'.length = S.length := by
  obtain ⟨a, b, c, rfl⟩ := h
  rw [List.length_set]
end MP

set_option maxRecDepth 100000
set_option maxHeartbeats 0
namespace Hd
open PySem PySem.Spec L2 MP
open PyProof.Rows hiding St
def top (i : Nat) : Stmt := PySem.Challenge.pw_twinwires_k77_a_code_in_any_order.main.body.getD i (.Pass ⟨0, 0, 0, 0⟩)
def mkDef (at_ : Str × Option Str) (name qual : Str) (st : Stmt) (dfl : List He.Dv) : He.DefD := ⟨at_, name, qual, defArgs st, defBody st, defScope st, dfl, []⟩
def fn0 : List He.DefD := [
  mkDef ("ones", none) "ones" "ones" (top 1) [],
  mkDef ("whole_below", none) "whole_below" "whole_below" (top 8) [],
  mkDef ("checked_row", none) "checked_row" "checked_row" (top 9) [],
  mkDef ("goes_beside", none) "goes_beside" "goes_beside" (top 10) [],
  mkDef ("letter_number", none) "letter_number" "letter_number" (top 13) [],
  mkDef ("mirror_number", none) "mirror_number" "mirror_number" (top 14) [],
  mkDef ("left_over", none) "left_over" "left_over" (top 15) [],
  mkDef ("solved_by", none) "solved_by" "solved_by" (top 16) [],
  mkDef ("Code", some "__init__") "__init__" "Code.__init__" (inClass (top 17) 0) [],
  mkDef ("Code", some "take") "take" "Code.take" (inClass (top 17) 1) [],
  mkDef ("Code", some "wires") "wires" "Code.wires" (inClass (top 17) 2) [],
  mkDef ("Code", some "rows") "rows" "Code.rows" (inClass (top 17) 3) [],
  mkDef ("Code", some "signs") "signs" "Code.signs" (inClass (top 17) 4) [],
  mkDef ("Code", some "harmless") "harmless" "Code.harmless" (inClass (top 17) 5) [],
  mkDef ("Code", some "wrongs") "wrongs" "Code.wrongs" (inClass (top 17) 6) [],
  mkDef ("Code", some "parting_wrongs") "parting_wrongs" "Code.parting_wrongs" (inClass (top 17) 7) [],
  mkDef ("Code", some "shower") "shower" "Code.shower" (inClass (top 17) 8) [],
  mkDef ("Code", some "guess") "guess" "Code.guess" (inClass (top 17) 9) [],
  mkDef ("_law_source", none) "_law_source" "_law_source" (top 19) [],
  mkDef ("_law_draw", none) "_law_draw" "_law_draw" (top 20) [],
  mkDef ("_law_pick", none) "_law_pick" "_law_pick" (top 21) [],
  mkDef ("_law_ones", none) "_law_ones" "_law_ones" (top 22) [],
  mkDef ("_law_beside", none) "_law_beside" "_law_beside" (top 23) [],
  mkDef ("_law_made", none) "_law_made" "_law_made" (top 24) [],
  mkDef ("_law_drawn_rows", none) "_law_drawn_rows" "_law_drawn_rows" (top 25) [],
  mkDef ("_law_wrong", none) "_law_wrong" "_law_wrong" (top 26) [],
  mkDef ("_law_wrongs", none) "_law_wrongs" "_law_wrongs" (top 27) [],
  mkDef ("_law_signs", none) "_law_signs" "_law_signs" (top 28) [],
  mkDef ("_law_parts", none) "_law_parts" "_law_parts" (top 29) [],
  mkDef ("_law_is_row", none) "_law_is_row" "_law_is_row" (top 30) [],
  mkDef ("_law_is_wrong", none) "_law_is_wrong" "_law_is_wrong" (top 31) [],
  mkDef ("_law_some_part", none) "_law_some_part" "_law_some_part" (top 32) [],
  mkDef ("_law_parting_right", none) "_law_parting_right" "_law_parting_right" (top 33) [],
  mkDef ("_law_guess_right", none) "_law_guess_right" "_law_guess_right" (top 34) [],
  mkDef ("_law_rows_right", none) "_law_rows_right" "_law_rows_right" (top 35) [],
  mkDef ("_law_signs_right", none) "_law_signs_right" "_law_signs_right" (top 36) [],
  mkDef ("_law_asked", none) "_law_asked" "_law_asked" (top 37) [],
  mkDef ("law", none) "law" "law" (top 38) []]
def fa0 : List He.Fa := [
  .glo "ones",
  .glo "WireError",
  .glo "NoRow",
  .glo "NoCode",
  .glo "NoMend",
  .glo "whole_below",
  .glo "checked_row",
  .glo "goes_beside",
  .int "MOST_OF_CODE" 9,
  .glo "letter_number",
  .glo "mirror_number",
  .glo "left_over",
  .glo "solved_by",
  .glo "Code",
  .glo "_law_source",
  .glo "_law_draw",
  .glo "_law_pick",
  .glo "_law_ones",
  .glo "_law_beside",
  .glo "_law_made",
  .glo "_law_drawn_rows",
  .glo "_law_wrong",
  .glo "_law_wrongs",
  .glo "_law_signs",
  .glo "_law_parts",
  .glo "_law_is_row",
  .glo "_law_is_wrong",
  .glo "_law_some_part",
  .glo "_law_parting_right",
  .glo "_law_guess_right",
  .glo "_law_rows_right",
  .glo "_law_signs_right",
  .glo "_law_asked",
  .glo "law",
  .free "all",
  .free "bool",
  .free "dict",
  .free "enumerate",
  .free "int",
  .free "isinstance",
  .free "len",
  .free "list",
  .free "max",
  .free "min",
  .free "range",
  .free "repr",
  .free "reversed",
  .free "str",
  .free "sum",
  .free "tuple",
  .exc "WireError",
  .exc "NoRow",
  .exc "NoCode",
  .exc "NoMend",
  .cls "Code",
  .meth "Code" "__init__",
  .meth "Code" "take",
  .meth "Code" "wires",
  .meth "Code" "rows",
  .meth "Code" "signs",
  .meth "Code" "harmless",
  .meth "Code" "wrongs",
  .meth "Code" "parting_wrongs",
  .meth "Code" "shower",
  .meth "Code" "guess",
  .mkr "Code",
  .noat "Code" "kept",
  .noat "Code" "leads",
  .noat "Code" "many",
  .exm "WireError" "WireError" true,
  .exm "WireError" "NoRow" false,
  .exm "WireError" "NoCode" false,
  .exm "WireError" "NoMend" false,
  .exm "NoRow" "WireError" true,
  .exm "NoRow" "NoRow" true,
  .exm "NoRow" "NoCode" false,
  .exm "NoRow" "NoMend" false,
  .exm "NoCode" "WireError" true,
  .exm "NoCode" "NoRow" false,
  .exm "NoCode" "NoCode" true,
  .exm "NoCode" "NoMend" false,
  .exm "NoMend" "WireError" true,
  .exm "NoMend" "NoRow" false,
  .exm "NoMend" "NoCode" false,
  .exm "NoMend" "NoMend" true]
def names0 : List PySem.Str := ["__name__", "ones", "WireError", "NoRow", "NoCode", "NoMend", "whole_below", "checked_row", "goes_beside", "MOST_OF_CODE", "letter_number", "mirror_number", "left_over", "solved_by", "Code"]
def names1 : List PySem.Str := ["_law_source", "_law_draw", "_law_pick", "_law_ones", "_law_beside", "_law_made", "_law_drawn_rows", "_law_wrong", "_law_wrongs", "_law_signs", "_law_parts", "_law_is_row", "_law_is_wrong", "_law_some_part", "_law_parting_right"]
def names2 : List PySem.Str := ["_law_guess_right", "_law_rows_right", "_law_signs_right", "_law_asked"]
def names : List PySem.Str := names0 ++ names1 ++ names2
abbrev R : PySem.W.OpenRow := PySem.W.OpenLaw.row PySem.Challenge.rw_twinwires_k77_a_code_in_any_order
def parts : List (List He.Fa × List He.DefD) := [(fa0, fn0)]
abbrev hk : PySem.W.Hook := hookM parts
def ob (s : PySem.W.SharedT) : List He.AlD := parts.map fun p => obM p.1 p.2 (HandSHeadRun.getT s)
theorem ob_eq (s : PySem.W.SharedT) : ob s = hk.obs s.abs := obM_eq (HandSHeadRun.getT_eq s)
theorem run1 (w : World) (os : OsState) : (HandSHeadRun.endF (HandSHeadRun.stepQ (HandSHeadRun.denQ HandSHeadRun.tabQ) R.prog w) 20000 R.prog w os).map (fun s => HandSHeadRun.looksF R.prog (PySem.W.boot_heap w.params) s.abs) = some true := by kernel_rfl
theorem run2 (w : World) (os : OsState) : (HandSHeadRun.endF (HandSHeadRun.stepQ (HandSHeadRun.denQ HandSHeadRun.tabQ) R.prog w) 20000 R.prog w os).map (fun s => HandSHeadRun.seenQ (PySem.W.view R.prog [38]) names (importedModules R.prog.main.body) (fun s => PySem.W.xlAt (PySem.W.view R.prog [38]) [] s && PySem.W.recOk R.toRowW.records s) s.abs) = some (PySem.W.openGood (PySem.W.view R.prog [38]) names) := by kernel_rfl
theorem run3_0 (w : World) (os : OsState) : (HandSHeadRun.endF (HandSHeadRun.stepQ (HandSHeadRun.denQ HandSHeadRun.tabQ) R.prog w) 20000 R.prog w os).map (fun s => obM fa0 fn0 (HandSHeadRun.getT s)) = some (He.valD fn0) := by kernel_rfl
theorem run3 (w : World) (os : OsState) : (HandSHeadRun.endF (HandSHeadRun.stepQ (HandSHeadRun.denQ HandSHeadRun.tabQ) R.prog w) 20000 R.prog w os).map ob = some (hk.val w) :=
  mapL (f := fun (p : List He.Fa × List He.DefD) s => obM p.1 p.2 (HandSHeadRun.getT s)) (a := fun p => He.valD p.2) parts (fun p hp => by
    rcases List.mem_cons.mp hp with e | hp
    · rw [e]; exact run3_0 w os
    cases hp) (run1 w os)
theorem run (w : World) : HandSHeadRun.RunEq R (PySem.W.view R.prog [38]) hk ob 20000 names w := fun os => map3 (run1 w os) (run2 w os) (run3 w os)
def x0 : Xtra := ⟨["number"], ["number", "found"], [], [], [], false⟩
def x1 : Xtra := ⟨["thing", "bound"], ["thing", "bound"], [], [], [], false⟩
def x2 : Xtra := ⟨["thing", "n"], ["thing", "n"], [], [], [], false⟩
def x3 : Xtra := ⟨["one", "other"], ["one", "other"], [], [], [], false⟩
def x4 : Xtra := ⟨["row", "n"], ["row", "n"], [], [], [], false⟩
def x5 : Xtra := ⟨["row", "n"], ["row", "n"], [], [], [], false⟩
def x6 : Xtra := ⟨["number", "kept"], ["number", "kept", "lead", "other"], [], [], [], false⟩
def x7 : Xtra := ⟨["equations"], ["equations", "kept", "found", "mask", "due", "lead", "value", "other", "rest", "ahead"], [8], [], [], false⟩
def x8 : Xtra := ⟨["self", "n", "rows"], ["self", "n", "rows", "at", "row"], [], [(66, 21)], [], false⟩
def x9 : Xtra := ⟨["self", "row", "ahead"], ["self", "row", "ahead", "rest", "other"], [], [], [], false⟩
def x10 : Xtra := ⟨["self"], ["self"], [], [], [], false⟩
def x11 : Xtra := ⟨["self"], ["self"], [], [], [], true⟩
def x12 : Xtra := ⟨["self", "wrong"], ["self", "wrong", "row"], [], [], [], true⟩
def x13 : Xtra := ⟨["self", "wrong"], ["self", "wrong"], [], [], [], false⟩
def x14 : Xtra := ⟨["self", "many"], ["self", "many", "found", "heavy", "turn", "more", "minus", "xs", "zs", "k", "bit"], [2, 5], [], [], false⟩
def x15 : Xtra := ⟨["self", "many"], ["self", "many", "firsts", "wrong", "first", "both"], [2], [], [(108, 17)], false⟩
def x16 : Xtra := ⟨["self", "both"], ["self", "both", "equations", "number", "row"], [], [], [], false⟩
def x17 : Xtra := ⟨["self", "signs", "many"], ["self", "signs", "many", "wrong"], [], [], [], false⟩
def x18 : Xtra := ⟨["cell"], ["cell"], [], [(128, 11)], [], false⟩
def x19 : Xtra := ⟨["w", "many"], ["w", "many", "number", "found"], [], [], [], false⟩
def x20 : Xtra := ⟨["w", "some"], ["w", "some"], [], [], [], false⟩
def x21 : Xtra := ⟨["number"], ["number", "k"], [], [], [], false⟩
def x22 : Xtra := ⟨["one", "other"], ["one", "other"], [], [], [], false⟩
def x23 : Xtra := ⟨["rows"], ["rows", "found", "minus", "xs", "zs", "x", "z"], [], [], [], false⟩
def x24 : Xtra := ⟨["w"], ["w", "n", "found", "k", "left", "row", "xs", "zs", "other"], [4], [(158, 12), (152, 16)], [], false⟩
def x25 : Xtra := ⟨["w", "n"], ["w", "n", "xs", "zs", "mask"], [], [], [], false⟩
def x26 : Xtra := ⟨["n", "many"], ["n", "many", "found", "layer", "turn", "later", "minus", "xs", "zs", "k"], [5], [], [], false⟩
def x27 : Xtra := ⟨["rows", "wrong"], ["rows", "wrong", "row"], [], [], [], false⟩
def x28 : Xtra := ⟨["rows", "one", "other"], ["rows", "one", "other"], [], [], [], false⟩
def x29 : Xtra := ⟨["thing", "n"], ["thing", "n", "part"], [], [], [], false⟩
def x30 : Xtra := ⟨["thing", "n", "many"], ["thing", "n", "many"], [], [], [], false⟩
def x31 : Xtra := ⟨["rows", "n", "many"], ["rows", "n", "many", "firsts", "wrong", "first"], [3], [], [(193, 13)], false⟩
def x32 : Xtra := ⟨["found", "rows", "n", "many"], ["found", "rows", "n", "many", "one", "other", "row"], [], [], [], false⟩
def x33 : Xtra := ⟨["code", "rows", "n", "signs", "many"], ["code", "rows", "n", "signs", "many", "some", "found", "wrong"], [], [], [], false⟩
def x34 : Xtra := ⟨["code", "rows"], ["code", "rows", "turn", "found"], [3], [], [], false⟩
def x35 : Xtra := ⟨["code", "rows", "wrong"], ["code", "rows", "wrong", "turn", "found"], [4], [], [], false⟩
def x36 : Xtra := ⟨["w", "code", "rows", "n"], ["w", "code", "rows", "n", "way", "many", "wrong", "signs", "row"], [], [], [], false⟩
def x37 : Xtra := ⟨["script"], ["script", "w", "code", "cell", "n", "rows"], [], [], [], false⟩
def xs : List Xtra := [x0, x1, x2, x3, x4, x5, x6, x7, x8, x9, x10, x11, x12, x13, x14, x15, x16, x17, x18, x19, x20, x21, x22, x23, x24, x25, x26, x27, x28, x29, x30, x31, x32, x33, x34, x35, x36, x37]
def cln : List Str := ["Code"]
def exn : List Str := ["WireError", "NoRow", "NoCode", "NoMend"]
def cl : List ClsI := [⟨"Code", ["kept", "leads", "many"], [("__init__", 8), ("take", 9), ("wires", 10), ("rows", 11), ("signs", 12), ("harmless", 13), ("wrongs", 14), ("parting_wrongs", 15), ("shower", 16), ("guess", 17)]⟩]
def mds : List (Str × Nat × Nat × Bool) := [("take", 2, 0, false), ("wires", 0, 0, false), ("rows", 0, 0, true), ("signs", 1, 0, true), ("harmless", 1, 0, false), ("wrongs", 1, 0, false), ("parting_wrongs", 1, 0, false), ("shower", 1, 0, false), ("guess", 2, 0, false)]
def flds : List Str := ["kept", "leads", "many"]
def kon : List (Str × Int) := [("MOST_OF_CODE", 9)]
def up : List (List Nat) := [[0], [1, 0], [2, 0], [3, 0]]
def t : Tbl := ⟨fa0, fn0, xs, cln, exn, cl, kon, mds, flds, up⟩
def fuel : Nat := 60
theorem built : t.built fuel = true := by kernel_rfl
theorem ok : t.ok (t.tb (t.irs fuel) 100000) = true := by kernel_rfl
theorem bd0 : ∀ d, t.fn[0]? = some d → BindOk d x0.ps := fun d h => by cases h; exact fun _ _ _ _ _ _ us hl => match us, hl with | [_], _ => rfl
theorem bd1 : ∀ d, t.fn[1]? = some d → BindOk d x1.ps := fun d h => by cases h; exact fun _ _ _ _ _ _ us hl => match us, hl with | [_, _], _ => rfl
theorem bd2 : ∀ d, t.fn[2]? = some d → BindOk d x2.ps := fun d h => by cases h; exact fun _ _ _ _ _ _ us hl => match us, hl with | [_, _], _ => rfl
theorem bd3 : ∀ d, t.fn[3]? = some d → BindOk d x3.ps := fun d h => by cases h; exact fun _ _ _ _ _ _ us hl => match us, hl with | [_, _], _ => rfl
theorem bd4 : ∀ d, t.fn[4]? = some d → BindOk d x4.ps := fun d h => by cases h; exact fun _ _ _ _ _ _ us hl => match us, hl with | [_, _], _ => rfl
theorem bd5 : ∀ d, t.fn[5]? = some d → BindOk d x5.ps := fun d h => by cases h; exact fun _ _ _ _ _ _ us hl => match us, hl with | [_, _], _ => rfl
theorem bd6 : ∀ d, t.fn[6]? = some d → BindOk d x6.ps := fun d h => by cases h; exact fun _ _ _ _ _ _ us hl => match us, hl with | [_, _], _ => rfl
theorem bd7 : ∀ d, t.fn[7]? = some d → BindOk d x7.ps := fun d h => by cases h; exact fun _ _ _ _ _ _ us hl => match us, hl with | [_], _ => rfl
theorem bd8 : ∀ d, t.fn[8]? = some d → BindOk d x8.ps := fun d h => by cases h; exact fun _ _ _ _ _ _ us hl => match us, hl with | [_, _, _], _ => rfl
theorem bd9 : ∀ d, t.fn[9]? = some d → BindOk d x9.ps := fun d h => by cases h; exact fun _ _ _ _ _ _ us hl => match us, hl with | [_, _, _], _ => rfl
theorem bd10 : ∀ d, t.fn[10]? = some d → BindOk d x10.ps := fun d h => by cases h; exact fun _ _ _ _ _ _ us hl => match us, hl with | [_], _ => rfl
theorem bd11 : ∀ d, t.fn[11]? = some d → BindOk d x11.ps := fun d h => by cases h; exact fun _ _ _ _ _ _ us hl => match us, hl with | [_], _ => rfl
theorem bd12 : ∀ d, t.fn[12]? = some d → BindOk d x12.ps := fun d h => by cases h; exact fun _ _ _ _ _ _ us hl => match us, hl with | [_, _], _ => rfl
theorem bd13 : ∀ d, t.fn[13]? = some d → BindOk d x13.ps := fun d h => by cases h; exact fun _ _ _ _ _ _ us hl => match us, hl with | [_, _], _ => rfl
theorem bd14 : ∀ d, t.fn[14]? = some d → BindOk d x14.ps := fun d h => by cases h; exact fun _ _ _ _ _ _ us hl => match us, hl with | [_, _], _ => rfl
theorem bd15 : ∀ d, t.fn[15]? = some d → BindOk d x15.ps := fun d h => by cases h; exact fun _ _ _ _ _ _ us hl => match us, hl with | [_, _], _ => rfl
theorem bd16 : ∀ d, t.fn[16]? = some d → BindOk d x16.ps := fun d h => by cases h; exact fun _ _ _ _ _ _ us hl => match us, hl with | [_, _], _ => rfl
theorem bd17 : ∀ d, t.fn[17]? = some d → BindOk d x17.ps := fun d h => by cases h; exact fun _ _ _ _ _ _ us hl => match us, hl with | [_, _, _], _ => rfl
theorem bd18 : ∀ d, t.fn[18]? = some d → BindOk d x18.ps := fun d h => by cases h; exact fun _ _ _ _ _ _ us hl => match us, hl with | [_], _ => rfl
theorem bd19 : ∀ d, t.fn[19]? = some d → BindOk d x19.ps := fun d h => by cases h; exact fun _ _ _ _ _ _ us hl => match us, hl with | [_, _], _ => rfl
theorem bd20 : ∀ d, t.fn[20]? = some d → BindOk d x20.ps := fun d h => by cases h; exact fun _ _ _ _ _ _ us hl => match us, hl with | [_, _], _ => rfl
theorem bd21 : ∀ d, t.fn[21]? = some d → BindOk d x21.ps := fun d h => by cases h; exact fun _ _ _ _ _ _ us hl => match us, hl with | [_], _ => rfl
theorem bd22 : ∀ d, t.fn[22]? = some d → BindOk d x22.ps := fun d h => by cases h; exact fun _ _ _ _ _ _ us hl => match us, hl with | [_, _], _ => rfl
theorem bd23 : ∀ d, t.fn[23]? = some d → BindOk d x23.ps := fun d h => by cases h; exact fun _ _ _ _ _ _ us hl => match us, hl with | [_], _ => rfl
theorem bd24 : ∀ d, t.fn[24]? = some d → BindOk d x24.ps := fun d h => by cases h; exact fun _ _ _ _ _ _ us hl => match us, hl with | [_], _ => rfl
theorem bd25 : ∀ d, t.fn[25]? = some d → BindOk d x25.ps := fun d h => by cases h; exact fun _ _ _ _ _ _ us hl => match us, hl with | [_, _], _ => rfl
theorem bd26 : ∀ d, t.fn[26]? = some d → BindOk d x26.ps := fun d h => by cases h; exact fun _ _ _ _ _ _ us hl => match us, hl with | [_, _], _ => rfl
theorem bd27 : ∀ d, t.fn[27]? = some d → BindOk d x27.ps := fun d h => by cases h; exact fun _ _ _ _ _ _ us hl => match us, hl with | [_, _], _ => rfl
theorem bd28 : ∀ d, t.fn[28]? = some d → BindOk d x28.ps := fun d h => by cases h; exact fun _ _ _ _ _ _ us hl => match us, hl with | [_, _, _], _ => rfl
theorem bd29 : ∀ d, t.fn[29]? = some d → BindOk d x29.ps := fun d h => by cases h; exact fun _ _ _ _ _ _ us hl => match us, hl with | [_, _], _ => rfl
theorem bd30 : ∀ d, t.fn[30]? = some d → BindOk d x30.ps := fun d h => by cases h; exact fun _ _ _ _ _ _ us hl => match us, hl with | [_, _, _], _ => rfl
theorem bd31 : ∀ d, t.fn[31]? = some d → BindOk d x31.ps := fun d h => by cases h; exact fun _ _ _ _ _ _ us hl => match us, hl with | [_, _, _], _ => rfl
theorem bd32 : ∀ d, t.fn[32]? = some d → BindOk d x32.ps := fun d h => by cases h; exact fun _ _ _ _ _ _ us hl => match us, hl with | [_, _, _, _], _ => rfl
theorem bd33 : ∀ d, t.fn[33]? = some d → BindOk d x33.ps := fun d h => by cases h; exact fun _ _ _ _ _ _ us hl => match us, hl with | [_, _, _, _, _], _ => rfl
theorem bd34 : ∀ d, t.fn[34]? = some d → BindOk d x34.ps := fun d h => by cases h; exact fun _ _ _ _ _ _ us hl => match us, hl with | [_, _], _ => rfl
theorem bd35 : ∀ d, t.fn[35]? = some d → BindOk d x35.ps := fun d h => by cases h; exact fun _ _ _ _ _ _ us hl => match us, hl with | [_, _, _], _ => rfl
theorem bd36 : ∀ d, t.fn[36]? = some d → BindOk d x36.ps := fun d h => by cases h; exact fun _ _ _ _ _ _ us hl => match us, hl with | [_, _, _, _], _ => rfl
theorem bd37 : ∀ d, t.fn[37]? = some d → BindOk d x37.ps := fun d h => by cases h; exact fun _ _ _ _ _ _ us hl => match us, hl with | [_], _ => rfl
theorem bd : ∀ (i : Nat) d x, t.fn[i]? = some d → t.xs[i]? = some x → BindOk d x.ps := fun i d x h1 h2 => by
  match i, h1, h2 with
  | 0, h1, h2 => cases h2; exact bd0 d h1
  | 1, h1, h2 => cases h2; exact bd1 d h1
  | 2, h1, h2 => cases h2; exact bd2 d h1
  | 3, h1, h2 => cases h2; exact bd3 d h1
  | 4, h1, h2 => cases h2; exact bd4 d h1
  | 5, h1, h2 => cases h2; exact bd5 d h1
  | 6, h1, h2 => cases h2; exact bd6 d h1
  | 7, h1, h2 => cases h2; exact bd7 d h1
  | 8, h1, h2 => cases h2; exact bd8 d h1
  | 9, h1, h2 => cases h2; exact bd9 d h1
  | 10, h1, h2 => cases h2; exact bd10 d h1
  | 11, h1, h2 => cases h2; exact bd11 d h1
  | 12, h1, h2 => cases h2; exact bd12 d h1
  | 13, h1, h2 => cases h2; exact bd13 d h1
  | 14, h1, h2 => cases h2; exact bd14 d h1
  | 15, h1, h2 => cases h2; exact bd15 d h1
  | 16, h1, h2 => cases h2; exact bd16 d h1
  | 17, h1, h2 => cases h2; exact bd17 d h1
  | 18, h1, h2 => cases h2; exact bd18 d h1
  | 19, h1, h2 => cases h2; exact bd19 d h1
  | 20, h1, h2 => cases h2; exact bd20 d h1
  | 21, h1, h2 => cases h2; exact bd21 d h1
  | 22, h1, h2 => cases h2; exact bd22 d h1
  | 23, h1, h2 => cases h2; exact bd23 d h1
  | 24, h1, h2 => cases h2; exact bd24 d h1
  | 25, h1, h2 => cases h2; exact bd25 d h1
  | 26, h1, h2 => cases h2; exact bd26 d h1
  | 27, h1, h2 => cases h2; exact bd27 d h1
  | 28, h1, h2 => cases h2; exact bd28 d h1
  | 29, h1, h2 => cases h2; exact bd29 d h1
  | 30, h1, h2 => cases h2; exact bd30 d h1
  | 31, h1, h2 => cases h2; exact bd31 d h1
  | 32, h1, h2 => cases h2; exact bd32 d h1
  | 33, h1, h2 => cases h2; exact bd33 d h1
  | 34, h1, h2 => cases h2; exact bd34 d h1
  | 35, h1, h2 => cases h2; exact bd35 d h1
  | 36, h1, h2 => cases h2; exact bd36 d h1
  | 37, h1, h2 => cases h2; exact bd37 d h1
  | n + 38, h1, h2 => cases h2
end Hd


set_option maxRecDepth 100000
set_option maxHeartbeats 0
namespace Wk
open PySem PySem.Spec L2 MP Hd
open PyProof.Rows hiding St
def tb : Tb := Hd.t.tb (Hd.t.irs Hd.fuel) 100000
/-! 0 ones -/
def W0_0 : E := (.cmp .Gt (.var 0) (.const (dN 0)))
def L0_0 : List MP.S := [.frz [], .aug 0 .BitAnd (.bin .Sub (.var 0) (.const (dN 1))), .frz [], .aug 1 .Add (.const (dN 1))]
def B0 : List MP.S := [.frz [], .set 1 (.const (dN 0)), .frz [1], .frz [], .whl W0_0 L0_0, .ret (.var 1)]
def ir0 : FnI := ⟨1, ["number", "found"], B0, false⟩
theorem fns0 : tb.fns[0]? = some ir0 := by kernel_rfl
theorem frs0 : frs tb 0 = false := by kernel_rfl
theorem rt0 (o : Bool) (d : D) (S : Sto) : retR ir0 (.rt d o S) = .ok d S := ret_rt_f rfl d S o
theorem run0 (n : Nat) (a0 : D) (S : Sto) : callD tb (n + 1) 0 [a0] S = retR ir0 (exB ⟨tb, false, callD tb n⟩ B0 [.val a0, .no] S) := by rw [callD_succ fns0, run_eq _ _ _ _ rfl]; rfl
/-! 1 whole_below -/
def B1 : List MP.S := [.frz [], .ret (.and (.blt (.isi "int") [(.var 0)]) (.and (.not (.blt (.isi "bool") [(.var 0)])) (.chain .LtE .Lt (.const (dN 0)) (.var 0) (.var 1))))]
def ir1 : FnI := ⟨2, ["thing", "bound"], B1, false⟩
theorem fns1 : tb.fns[1]? = some ir1 := by kernel_rfl
theorem frs1 : frs tb 1 = false := by kernel_rfl
theorem rt1 (o : Bool) (d : D) (S : Sto) : retR ir1 (.rt d o S) = .ok d S := ret_rt_f rfl d S o
theorem run1 (n : Nat) (a0 a1 : D) (S : Sto) : callD tb (n + 1) 1 [a0, a1] S = retR ir1 (exB ⟨tb, false, callD tb n⟩ B1 [.val a0, .val a1] S) := by rw [callD_succ fns1, run_eq _ _ _ _ rfl]; rfl
/-! 2 checked_row -/
def B2 : List MP.S := [.frz [], .ite (.or (.not (.blt (.isi "tuple") [(.var 0)])) (.or (.cmp .NotEq (.blt .len [(.var 0)]) (.const (dN 3))) (.not (.call 1 [(.idx (.var 0) (.const (dN 0))), (.const (dN 2))] [])))) [.raise 1] [], .frz [], .ite (.or (.not (.call 1 [(.idx (.var 0) (.const (dN 1))), (.bin .LShift (.const (dN 1)) (.var 1))] [])) (.not (.call 1 [(.idx (.var 0) (.const (dN 2))), (.bin .LShift (.const (dN 1)) (.var 1))] []))) [.raise 1] [], .ret (.var 0)]
def ir2 : FnI := ⟨2, ["thing", "n"], B2, false⟩
theorem fns2 : tb.fns[2]? = some ir2 := by kernel_rfl
theorem frs2 : frs tb 2 = false := by kernel_rfl
theorem rt2 (o : Bool) (d : D) (S : Sto) : retR ir2 (.rt d o S) = .ok d S := ret_rt_f rfl d S o
theorem run2 (n : Nat) (a0 a1 : D) (S : Sto) : callD tb (n + 1) 2 [a0, a1] S = retR ir2 (exB ⟨tb, false, callD tb n⟩ B2 [.val a0, .val a1] S) := by rw [callD_succ fns2, run_eq _ _ _ _ rfl]; rfl
/-! 3 goes_beside -/
def B3 : List MP.S := [.frz [], .ret (.cmp .Eq (.bin .Mod (.bin .Add (.call 0 [(.bin .BitAnd (.idx (.var 0) (.const (dN 1))) (.idx (.var 1) (.const (dN 2))))] []) (.call 0 [(.bin .BitAnd (.idx (.var 0) (.const (dN 2))) (.idx (.var 1) (.const (dN 1))))] [])) (.const (dN 2))) (.const (dN 0)))]
def ir3 : FnI := ⟨2, ["one", "other"], B3, false⟩
theorem fns3 : tb.fns[3]? = some ir3 := by kernel_rfl
theorem frs3 : frs tb 3 = false := by kernel_rfl
theorem rt3 (o : Bool) (d : D) (S : Sto) : retR ir3 (.rt d o S) = .ok d S := ret_rt_f rfl d S o
theorem run3 (n : Nat) (a0 a1 : D) (S : Sto) : callD tb (n + 1) 3 [a0, a1] S = retR ir3 (exB ⟨tb, false, callD tb n⟩ B3 [.val a0, .val a1] S) := by rw [callD_succ fns3, run_eq _ _ _ _ rfl]; rfl
/-! 4 letter_number -/
def B4 : List MP.S := [.frz [], .ret (.bin .BitOr (.idx (.var 0) (.const (dN 1))) (.bin .LShift (.idx (.var 0) (.const (dN 2))) (.var 1)))]
def ir4 : FnI := ⟨2, ["row", "n"], B4, false⟩
theorem fns4 : tb.fns[4]? = some ir4 := by kernel_rfl
theorem frs4 : frs tb 4 = false := by kernel_rfl
theorem rt4 (o : Bool) (d : D) (S : Sto) : retR ir4 (.rt d o S) = .ok d S := ret_rt_f rfl d S o
theorem run4 (n : Nat) (a0 a1 : D) (S : Sto) : callD tb (n + 1) 4 [a0, a1] S = retR ir4 (exB ⟨tb, false, callD tb n⟩ B4 [.val a0, .val a1] S) := by rw [callD_succ fns4, run_eq _ _ _ _ rfl]; rfl
/-! 5 mirror_number -/
def B5 : List MP.S := [.frz [], .ret (.bin .BitOr (.idx (.var 0) (.const (dN 2))) (.bin .LShift (.idx (.var 0) (.const (dN 1))) (.var 1)))]
def ir5 : FnI := ⟨2, ["row", "n"], B5, false⟩
theorem fns5 : tb.fns[5]? = some ir5 := by kernel_rfl
theorem frs5 : frs tb 5 = false := by kernel_rfl
theorem rt5 (o : Bool) (d : D) (S : Sto) : retR ir5 (.rt d o S) = .ok d S := ret_rt_f rfl d S o
theorem run5 (n : Nat) (a0 a1 : D) (S : Sto) : callD tb (n + 1) 5 [a0, a1] S = retR ir5 (exB ⟨tb, false, callD tb n⟩ B5 [.val a0, .val a1] S) := by rw [callD_succ fns5, run_eq _ _ _ _ rfl]; rfl
/-! 6 left_over -/
def L6_0 : List MP.S := [.frz [], .ite (.cmp .Eq (.bin .BitAnd (.bin .RShift (.var 0) (.var 2)) (.const (dN 1))) (.const (dN 1))) [.frz [], .aug 0 .BitXor (.var 3)] []]
def B6 : List MP.S := [.frz [], .for (.t [(.v 2), (.v 3)]) (.var 1) L6_0, .ret (.var 0)]
def ir6 : FnI := ⟨2, ["number", "kept", "lead", "other"], B6, false⟩
theorem fns6 : tb.fns[6]? = some ir6 := by kernel_rfl
theorem frs6 : frs tb 6 = false := by kernel_rfl
theorem rt6 (o : Bool) (d : D) (S : Sto) : retR ir6 (.rt d o S) = .ok d S := ret_rt_f rfl d S o
theorem run6 (n : Nat) (a0 a1 : D) (S : Sto) : callD tb (n + 1) 6 [a0, a1] S = retR ir6 (exB ⟨tb, false, callD tb n⟩ B6 [.val a0, .val a1, .no, .no] S) := by rw [callD_succ fns6, run_eq _ _ _ _ rfl]; rfl
/-! 7 solved_by -/
def L7_0 : List MP.S := [.frz [], .ite (.cmp .Eq (.bin .BitAnd (.bin .RShift (.var 3) (.var 5)) (.const (dN 1))) (.const (dN 1))) [.frz [], .aug 3 .BitXor (.var 7), .frz [], .aug 4 .BitXor (.var 6)] []]
def L7_1 : List MP.S := [.frz [], .ite (.cmp .Eq (.bin .BitAnd (.bin .RShift (.var 7) (.var 5)) (.const (dN 1))) (.const (dN 1))) [.frz [], .own none 8 .append [(.tup [(.var 9), (.bin .BitXor (.var 7) (.var 3)), (.bin .BitXor (.var 6) (.var 4))])]] [.frz [], .own none 8 .append [(.tup [(.var 9), (.var 7), (.var 6)])]]]
def L7_2 : List MP.S := [.frz [], .for (.t [(.v 5), (.v 7), (.v 6)]) (.var 1) L7_0, .frz [], .ite (.cmp .NotEq (.var 3) (.const (dN 0))) [.frz [], .set 5 (.bin .Sub (.mt .bitLength (.var 3) []) (.const (dN 1))), .frz [5], .frz [], .set 8 (.lst []), .frz [], .frz [], .for (.t [(.v 9), (.v 7), (.v 6)]) (.var 1) L7_1, .frz [], .set 1 (.bin .Add (.var 8) (.lst [(.tup [(.var 5), (.var 3), (.var 4)])])), .frz [1]] []]
def L7_3 : List MP.S := [.frz [], .aug 2 .BitOr (.bin .LShift (.var 6) (.var 5))]
def B7 : List MP.S := [.frz [], .set 1 (.lst []), .frz [1], .frz [], .for (.t [(.v 3), (.v 4)]) (.var 0) L7_2, .frz [], .set 2 (.const (dN 0)), .frz [2], .frz [], .for (.t [(.v 5), (.v 3), (.v 6)]) (.var 1) L7_3, .ret (.var 2)]
def ir7 : FnI := ⟨1, ["equations", "kept", "found", "mask", "due", "lead", "value", "other", "rest", "ahead"], B7, false⟩
theorem fns7 : tb.fns[7]? = some ir7 := by kernel_rfl
theorem frs7 : frs tb 7 = false := by kernel_rfl
theorem rt7 (o : Bool) (d : D) (S : Sto) : retR ir7 (.rt d o S) = .ok d S := ret_rt_f rfl d S o
theorem run7 (n : Nat) (a0 : D) (S : Sto) : callD tb (n + 1) 7 [a0] S = retR ir7 (exB ⟨tb, false, callD tb n⟩ B7 [.val a0, .no, .no, .no, .no, .no, .no, .no, .no, .no] S) := by rw [callD_succ fns7, run_eq _ _ _ _ rfl]; rfl
/-! 8 Code.__init__ -/
def L8_0 : List MP.S := [.frz [], .expr (.meth (.var 0) "take" [(.var 4), (.slc (.fld (.var 0) "kept") none (some (.var 3)))] [] false)]
def B8 : List MP.S := [.frz [], .ite (.or (.not (.blt (.isi "int") [(.var 1)])) (.or (.blt (.isi "bool") [(.var 1)]) (.or (.not (.chain .LtE .LtE (.const (dN 1)) (.var 1) (.const (dN 9)))) (.not (.blt (.isi "list") [(.var 2)]))))) [.raise 2] [], .frz [], .fld (.var 0) "many" (.var 1), .frz [], .fld (.var 0) "kept" (.blt .listOf [(.var 2)]), .frz [], .fld (.var 0) "leads" (.cell (.lst [])), .frz [], .for (.t [(.v 3), (.v 4)]) (.enm (.fld (.var 0) "kept")) L8_0]
def ir8 : FnI := ⟨3, ["self", "n", "rows", "at", "row"], B8, false⟩
theorem fns8 : tb.fns[8]? = some ir8 := by kernel_rfl
theorem frs8 : frs tb 8 = false := by kernel_rfl
theorem rt8 (o : Bool) (d : D) (S : Sto) : retR ir8 (.rt d o S) = .ok d S := ret_rt_f rfl d S o
theorem run8 (n : Nat) (a0 a1 a2 : D) (S : Sto) : callD tb (n + 1) 8 [a0, a1, a2] S = retR ir8 (exB ⟨tb, false, callD tb n⟩ B8 [.val a0, .val a1, .val a2, .no, .no] S) := by rw [callD_succ fns8, run_eq _ _ _ _ rfl]; rfl
/-! 9 Code.take -/
def K9_0 : E := (.call 3 [(.var 1), (.var 4)] [])
def B9 : List MP.S := [.tryx [.frz [], .expr (.call 2 [(.var 1), (.fld (.var 0) "many")] [])] 1 none [.raise 2] [], .frz [], .ite (.not (.blt .all [(.comp K9_0 (.v 4) [4] (.var 2) [])])) [.raise 2] [], .frz [], .set 3 (.call 6 [(.call 4 [(.var 1), (.fld (.var 0) "many")] []), (.fld (.var 0) "leads")] []), .frz [3], .frz [], .ite (.cmp .Eq (.var 3) (.const (dN 0))) [.raise 2] [], .frz [], .expr (.mm .append (.fld (.var 0) "leads") [(.tup [(.bin .Sub (.mt .bitLength (.var 3) []) (.const (dN 1))), (.var 3)])])]
def ir9 : FnI := ⟨3, ["self", "row", "ahead", "rest", "other"], B9, false⟩
theorem fns9 : tb.fns[9]? = some ir9 := by kernel_rfl
theorem frs9 : frs tb 9 = false := by kernel_rfl
theorem rt9 (o : Bool) (d : D) (S : Sto) : retR ir9 (.rt d o S) = .ok d S := ret_rt_f rfl d S o
theorem run9 (n : Nat) (a0 a1 a2 : D) (S : Sto) : callD tb (n + 1) 9 [a0, a1, a2] S = retR ir9 (exB ⟨tb, false, callD tb n⟩ B9 [.val a0, .val a1, .val a2, .no, .no] S) := by rw [callD_succ fns9, run_eq _ _ _ _ rfl]; rfl
/-! 10 Code.wires -/
def B10 : List MP.S := [.frz [], .ret (.fld (.var 0) "many")]
def ir10 : FnI := ⟨1, ["self"], B10, false⟩
theorem fns10 : tb.fns[10]? = some ir10 := by kernel_rfl
theorem frs10 : frs tb 10 = false := by kernel_rfl
theorem rt10 (o : Bool) (d : D) (S : Sto) : retR ir10 (.rt d o S) = .ok d S := ret_rt_f rfl d S o
theorem run10 (n : Nat) (a0 : D) (S : Sto) : callD tb (n + 1) 10 [a0] S = retR ir10 (exB ⟨tb, false, callD tb n⟩ B10 [.val a0] S) := by rw [callD_succ fns10, run_eq _ _ _ _ rfl]; rfl
/-! 11 Code.rows -/
def B11 : List MP.S := [.frz [], .ret (.blt .listOf [(.fld (.var 0) "kept")])]
def ir11 : FnI := ⟨1, ["self"], B11, true⟩
theorem fns11 : tb.fns[11]? = some ir11 := by kernel_rfl
theorem frs11 : frs tb 11 = true := by kernel_rfl
theorem rt11 (d : D) (S : Sto) : retR ir11 (.rt d true S) = .ok d S := ret_rt_t _ d S
theorem run11 (n : Nat) (a0 : D) (S : Sto) : callD tb (n + 1) 11 [a0] S = retR ir11 (exB ⟨tb, false, callD tb n⟩ B11 [.val a0] S) := by rw [callD_succ fns11, run_eq _ _ _ _ rfl]; rfl
/-! 12 Code.signs -/
def K12_0 : E := (.blt .int [(.not (.call 3 [(.var 1), (.var 2)] []))])
def B12 : List MP.S := [.frz [], .ret (.comp K12_0 (.v 2) [2] (.fld (.var 0) "kept") [])]
def ir12 : FnI := ⟨2, ["self", "wrong", "row"], B12, true⟩
theorem fns12 : tb.fns[12]? = some ir12 := by kernel_rfl
theorem frs12 : frs tb 12 = true := by kernel_rfl
theorem rt12 (d : D) (S : Sto) : retR ir12 (.rt d true S) = .ok d S := ret_rt_t _ d S
theorem run12 (n : Nat) (a0 a1 : D) (S : Sto) : callD tb (n + 1) 12 [a0, a1] S = retR ir12 (exB ⟨tb, false, callD tb n⟩ B12 [.val a0, .val a1, .no] S) := by rw [callD_succ fns12, run_eq _ _ _ _ rfl]; rfl
/-! 13 Code.harmless -/
def B13 : List MP.S := [.frz [], .ret (.cmp .Eq (.call 6 [(.call 4 [(.var 1), (.fld (.var 0) "many")] []), (.fld (.var 0) "leads")] []) (.const (dN 0)))]
def ir13 : FnI := ⟨2, ["self", "wrong"], B13, false⟩
theorem fns13 : tb.fns[13]? = some ir13 := by kernel_rfl
theorem frs13 : frs tb 13 = false := by kernel_rfl
theorem rt13 (o : Bool) (d : D) (S : Sto) : retR ir13 (.rt d o S) = .ok d S := ret_rt_f rfl d S o
theorem run13 (n : Nat) (a0 a1 : D) (S : Sto) : callD tb (n + 1) 13 [a0, a1] S = retR ir13 (exB ⟨tb, false, callD tb n⟩ B13 [.val a0, .val a1] S) := by rw [callD_succ fns13, run_eq _ _ _ _ rfl]; rfl
/-! 14 Code.wrongs -/
def L14_0 : List MP.S := [.frz [], .set 10 (.bin .LShift (.const (dN 1)) (.var 9)), .frz [10], .frz [], .own none 5 .extend [(.lst [(.tup [(.const (dN 0)), (.bin .BitOr (.var 7) (.var 10)), (.var 8)]), (.tup [(.const (dN 0)), (.var 7), (.bin .BitOr (.var 8) (.var 10))]), (.tup [(.const (dN 0)), (.bin .BitOr (.var 7) (.var 10)), (.bin .BitOr (.var 8) (.var 10))])])]]
def L14_1 : List MP.S := [.frz [], .for (.v 9) (.rng [(.mt .bitLength (.bin .BitOr (.var 7) (.var 8)) []), (.fld (.var 0) "many")]) L14_0]
def L14_2 : List MP.S := [.frz [], .set 5 (.lst []), .frz [], .frz [], .for (.t [(.v 6), (.v 7), (.v 8)]) (.var 3) L14_1, .frz [], .own none 2 .extend [(.var 5)], .frz [5], .set 3 (.var 5), .frz [3]]
def B14 : List MP.S := [.frz [], .set 2 (.lst [(.tup [(.const (dN 0)), (.const (dN 0)), (.const (dN 0))])]), .frz [], .frz [], .set 3 (.lst [(.tup [(.const (dN 0)), (.const (dN 0)), (.const (dN 0))])]), .frz [3], .frz [], .for (.v 4) (.rng [(.blt .min2 [(.var 1), (.fld (.var 0) "many")])]) L14_2, .ret (.var 2)]
def ir14 : FnI := ⟨2, ["self", "many", "found", "heavy", "turn", "more", "minus", "xs", "zs", "k", "bit"], B14, false⟩
theorem fns14 : tb.fns[14]? = some ir14 := by kernel_rfl
theorem frs14 : frs tb 14 = false := by kernel_rfl
theorem rt14 (o : Bool) (d : D) (S : Sto) : retR ir14 (.rt d o S) = .ok d S := ret_rt_f rfl d S o
theorem run14 (n : Nat) (a0 a1 : D) (S : Sto) : callD tb (n + 1) 14 [a0, a1] S = retR ir14 (exB ⟨tb, false, callD tb n⟩ B14 [.val a0, .val a1, .no, .no, .no, .no, .no, .no, .no, .no, .no] S) := by rw [callD_succ fns14, run_eq _ _ _ _ rfl]; rfl
/-! 15 Code.parting_wrongs -/
def L15_0 : List MP.S := [.frz [], .own (some (.v 4)) 2 .setdefault [(.blt .tupleOf [(.meth (.var 0) "signs" [(.var 3)] [] true)]), (.var 3)], .frz [], .set 5 (.tup [(.const (dN 0)), (.bin .BitXor (.idx (.var 4) (.const (dN 1))) (.idx (.var 3) (.const (dN 1)))), (.bin .BitXor (.idx (.var 4) (.const (dN 2))) (.idx (.var 3) (.const (dN 2))))]), .frz [5], .frz [], .ite (.not (.meth (.var 0) "harmless" [(.var 5)] [] false)) [.frz [], .ret (.tup [(.var 4), (.var 3), (.meth (.var 0) "shower" [(.var 5)] [] false)])] []]
def B15 : List MP.S := [.frz [], .set 2 (.dct true [] []), .frz [], .frz [], .for (.v 3) (.meth (.var 0) "wrongs" [(.var 1)] [] false) L15_0, .frz [], .ret (.const .non)]
def ir15 : FnI := ⟨2, ["self", "many", "firsts", "wrong", "first", "both"], B15, false⟩
theorem fns15 : tb.fns[15]? = some ir15 := by kernel_rfl
theorem frs15 : frs tb 15 = false := by kernel_rfl
theorem rt15 (o : Bool) (d : D) (S : Sto) : retR ir15 (.rt d o S) = .ok d S := ret_rt_f rfl d S o
theorem run15 (n : Nat) (a0 a1 : D) (S : Sto) : callD tb (n + 1) 15 [a0, a1] S = retR ir15 (exB ⟨tb, false, callD tb n⟩ B15 [.val a0, .val a1, .no, .no, .no, .no] S) := by rw [callD_succ fns15, run_eq _ _ _ _ rfl]; rfl
/-! 16 Code.shower -/
def K16_0 : E := (.tup [(.call 5 [(.var 4), (.fld (.var 0) "many")] []), (.const (dN 0))])
def B16 : List MP.S := [.frz [], .set 2 (.comp K16_0 (.v 4) [4] (.fld (.var 0) "kept") []), .frz [2], .frz [], .set 3 (.call 7 [(.bin .Add (.var 2) (.lst [(.tup [(.call 5 [(.var 1), (.fld (.var 0) "many")] []), (.const (dN 1))])]))] []), .frz [3], .frz [], .ret (.tup [(.const (dN 0)), (.bin .BitAnd (.var 3) (.bin .Sub (.bin .LShift (.const (dN 1)) (.fld (.var 0) "many")) (.const (dN 1)))), (.bin .RShift (.var 3) (.fld (.var 0) "many"))])]
def ir16 : FnI := ⟨2, ["self", "both", "equations", "number", "row"], B16, false⟩
theorem fns16 : tb.fns[16]? = some ir16 := by kernel_rfl
theorem frs16 : frs tb 16 = false := by kernel_rfl
theorem rt16 (o : Bool) (d : D) (S : Sto) : retR ir16 (.rt d o S) = .ok d S := ret_rt_f rfl d S o
theorem run16 (n : Nat) (a0 a1 : D) (S : Sto) : callD tb (n + 1) 16 [a0, a1] S = retR ir16 (exB ⟨tb, false, callD tb n⟩ B16 [.val a0, .val a1, .no, .no, .no] S) := by rw [callD_succ fns16, run_eq _ _ _ _ rfl]; rfl
/-! 17 Code.guess -/
def L17_0 : List MP.S := [.frz [], .ite (.cmp .Eq (.meth (.var 0) "signs" [(.var 3)] [] true) (.blt .listOf [(.var 1)])) [.ret (.var 3)] []]
def B17 : List MP.S := [.frz [], .for (.v 3) (.meth (.var 0) "wrongs" [(.var 2)] [] false) L17_0, .raise 3]
def ir17 : FnI := ⟨3, ["self", "signs", "many", "wrong"], B17, false⟩
theorem fns17 : tb.fns[17]? = some ir17 := by kernel_rfl
theorem frs17 : frs tb 17 = false := by kernel_rfl
theorem rt17 (o : Bool) (d : D) (S : Sto) : retR ir17 (.rt d o S) = .ok d S := ret_rt_f rfl d S o
theorem run17 (n : Nat) (a0 a1 a2 : D) (S : Sto) : callD tb (n + 1) 17 [a0, a1, a2] S = retR ir17 (exB ⟨tb, false, callD tb n⟩ B17 [.val a0, .val a1, .val a2, .no] S) := by rw [callD_succ fns17, run_eq _ _ _ _ rfl]; rfl
/-! 18 _law_source -/
def B18 : List MP.S := [.frz [], .ret (.cell (.lst [(.bin .Mult (.var 0) (.blt .int [(.cmp .GtE (.var 0) (.bin .Pow (.const (dN 10)) (.const (dN 18))))])), (.bin .Mod (.var 0) (.const (dN 2147483629))), (.const (dN 0))]))]
def ir18 : FnI := ⟨1, ["cell"], B18, false⟩
theorem fns18 : tb.fns[18]? = some ir18 := by kernel_rfl
theorem frs18 : frs tb 18 = false := by kernel_rfl
theorem rt18 (o : Bool) (d : D) (S : Sto) : retR ir18 (.rt d o S) = .ok d S := ret_rt_f rfl d S o
theorem run18 (n : Nat) (a0 : D) (S : Sto) : callD tb (n + 1) 18 [a0] S = retR ir18 (exB ⟨tb, false, callD tb n⟩ B18 [.val a0] S) := by rw [callD_succ fns18, run_eq _ _ _ _ rfl]; rfl
/-! 19 _law_draw -/
def B19 : List MP.S := [.frz [], .ite (.cmp .Gt (.idx (.var 0) (.const (dN 0))) (.const (dN 0))) [.frz [], .set 3 (.bin .Mod (.idx (.var 0) (.const (dN 0))) (.var 1)), .frz [3], .frz [], .sub (.var 0) (.const (dN 0)) (.bin .FloorDiv (.idx (.var 0) (.const (dN 0))) (.var 1)), .ret (.var 3)] [], .frz [], .sub (.var 0) (.const (dN 2)) (.bin .Add (.idx (.var 0) (.const (dN 2))) (.const (dN 1))), .frz [], .set 2 (.bin .Mod (.bin .Mult (.bin .Add (.bin .Add (.idx (.var 0) (.const (dN 1))) (.bin .Mult (.const (dN 90289)) (.idx (.var 0) (.const (dN 2))))) (.const (dN 1))) (.const (dN 48271))) (.const (dN 2147483629))), .frz [2], .frz [], .set 2 (.bin .Mod (.bin .Mult (.var 2) (.bin .Add (.bin .Add (.bin .FloorDiv (.var 2) (.const (dN 1013))) (.const (dN 69623))) (.idx (.var 0) (.const (dN 2))))) (.const (dN 2147483587))), .frz [2], .frz [], .ret (.bin .Mod (.bin .FloorDiv (.bin .Mod (.bin .Mult (.var 2) (.bin .Add (.bin .FloorDiv (.var 2) (.const (dN 2003))) (.const (dN 40692)))) (.const (dN 2147483563))) (.const (dN 3))) (.var 1))]
def ir19 : FnI := ⟨2, ["w", "many", "number", "found"], B19, false⟩
theorem fns19 : tb.fns[19]? = some ir19 := by kernel_rfl
theorem frs19 : frs tb 19 = false := by kernel_rfl
theorem rt19 (o : Bool) (d : D) (S : Sto) : retR ir19 (.rt d o S) = .ok d S := ret_rt_f rfl d S o
theorem run19 (n : Nat) (a0 a1 : D) (S : Sto) : callD tb (n + 1) 19 [a0, a1] S = retR ir19 (exB ⟨tb, false, callD tb n⟩ B19 [.val a0, .val a1, .no, .no] S) := by rw [callD_succ fns19, run_eq _ _ _ _ rfl]; rfl
/-! 20 _law_pick -/
def B20 : List MP.S := [.frz [], .ret (.idx (.var 1) (.call 19 [(.var 0), (.blt .len [(.var 1)])] []))]
def ir20 : FnI := ⟨2, ["w", "some"], B20, false⟩
theorem fns20 : tb.fns[20]? = some ir20 := by kernel_rfl
theorem frs20 : frs tb 20 = false := by kernel_rfl
theorem rt20 (o : Bool) (d : D) (S : Sto) : retR ir20 (.rt d o S) = .ok d S := ret_rt_f rfl d S o
theorem run20 (n : Nat) (a0 a1 : D) (S : Sto) : callD tb (n + 1) 20 [a0, a1] S = retR ir20 (exB ⟨tb, false, callD tb n⟩ B20 [.val a0, .val a1] S) := by rw [callD_succ fns20, run_eq _ _ _ _ rfl]; rfl
/-! 21 _law_ones -/
def K21_0 : E := (.bin .BitAnd (.bin .RShift (.var 0) (.var 1)) (.const (dN 1)))
def B21 : List MP.S := [.frz [], .ret (.blt .sum [(.comp K21_0 (.v 1) [1] (.rng [(.mt .bitLength (.var 0) [])]) [])])]
def ir21 : FnI := ⟨1, ["number", "k"], B21, false⟩
theorem fns21 : tb.fns[21]? = some ir21 := by kernel_rfl
theorem frs21 : frs tb 21 = false := by kernel_rfl
theorem rt21 (o : Bool) (d : D) (S : Sto) : retR ir21 (.rt d o S) = .ok d S := ret_rt_f rfl d S o
theorem run21 (n : Nat) (a0 : D) (S : Sto) : callD tb (n + 1) 21 [a0] S = retR ir21 (exB ⟨tb, false, callD tb n⟩ B21 [.val a0, .no] S) := by rw [callD_succ fns21, run_eq _ _ _ _ rfl]; rfl
/-! 22 _law_beside -/
def B22 : List MP.S := [.frz [], .ret (.cmp .Eq (.bin .Mod (.call 21 [(.bin .BitAnd (.idx (.var 0) (.const (dN 1))) (.idx (.var 1) (.const (dN 2))))] []) (.const (dN 2))) (.bin .Mod (.call 21 [(.bin .BitAnd (.idx (.var 0) (.const (dN 2))) (.idx (.var 1) (.const (dN 1))))] []) (.const (dN 2))))]
def ir22 : FnI := ⟨2, ["one", "other"], B22, false⟩
theorem fns22 : tb.fns[22]? = some ir22 := by kernel_rfl
theorem frs22 : frs tb 22 = false := by kernel_rfl
theorem rt22 (o : Bool) (d : D) (S : Sto) : retR ir22 (.rt d o S) = .ok d S := ret_rt_f rfl d S o
theorem run22 (n : Nat) (a0 a1 : D) (S : Sto) : callD tb (n + 1) 22 [a0, a1] S = retR ir22 (exB ⟨tb, false, callD tb n⟩ B22 [.val a0, .val a1] S) := by rw [callD_succ fns22, run_eq _ _ _ _ rfl]; rfl
/-! 23 _law_made -/
def K23_0 : E := (.tup [(.bin .BitXor (.var 3) (.var 5)), (.bin .BitXor (.var 4) (.var 6))])
def L23_0 : List MP.S := [.frz [], .set 1 (.bin .Add (.var 1) (.comp K23_0 (.t [(.v 5), (.v 6)]) [5, 6] (.var 1) [])), .frz [1]]
def B23 : List MP.S := [.frz [], .set 1 (.lst [(.tup [(.const (dN 0)), (.const (dN 0))])]), .frz [1], .frz [], .for (.t [(.v 2), (.v 3), (.v 4)]) (.var 0) L23_0, .ret (.var 1)]
def ir23 : FnI := ⟨1, ["rows", "found", "minus", "xs", "zs", "x", "z"], B23, false⟩
theorem fns23 : tb.fns[23]? = some ir23 := by kernel_rfl
theorem frs23 : frs tb 23 = false := by kernel_rfl
theorem rt23 (o : Bool) (d : D) (S : Sto) : retR ir23 (.rt d o S) = .ok d S := ret_rt_f rfl d S o
theorem run23 (n : Nat) (a0 : D) (S : Sto) : callD tb (n + 1) 23 [a0] S = retR ir23 (exB ⟨tb, false, callD tb n⟩ B23 [.val a0, .no, .no, .no, .no, .no, .no] S) := by rw [callD_succ fns23, run_eq _ _ _ _ rfl]; rfl
/-! 24 _law_drawn_rows -/
def W24_0 : E := (.cmp .NotEq (.var 4) (.lst []))
def L24_0 : List MP.S := [.frz [], .own (some (.t [(.v 6), (.v 7)])) 4 .popAt [(.call 19 [(.var 0), (.blt .len [(.var 4)])] [])], .frz [], .expr (.mm .append (.var 2) [(.tup [(.call 19 [(.var 0), (.const (dN 2))] []), (.var 6), (.var 7)])])]
def K24_0 : E := (.call 22 [(.var 5), (.var 8)] [])
def L24_1 : List MP.S := [.frz [], .set 5 (.tup [(.call 19 [(.var 0), (.const (dN 2))] []), (.call 19 [(.var 0), (.bin .LShift (.const (dN 1)) (.var 1))] []), (.call 19 [(.var 0), (.bin .LShift (.const (dN 1)) (.var 1))] [])]), .frz [5], .frz [], .ite (.and (.cmp .NotIn (.slc (.var 5) (some (.const (dN 1))) none) (.call 23 [(.var 2)] [])) (.blt .all [(.comp K24_0 (.v 8) [8] (.var 2) [])])) [.frz [], .expr (.mm .append (.var 2) [(.var 5)])] []]
def B24 : List MP.S := [.frz [], .ite (.cmp .Eq (.call 19 [(.var 0), (.const (dN 4))] []) (.const (dN 0))) [.frz [], .set 4 (.lst [(.tup [(.const (dN 9)), (.const (dN 6))]), (.tup [(.const (dN 18)), (.const (dN 12))]), (.tup [(.const (dN 5)), (.const (dN 24))]), (.tup [(.const (dN 10)), (.const (dN 17))])]), .frz [], .frz [], .set 2 (.cell (.lst [])), .frz [2], .frz [], .whl W24_0 L24_0, .frz [], .ret (.tup [(.const (dN 5)), (.var 2)])] [], .frz [], .set 1 (.bin .Add (.const (dN 1)) (.call 19 [(.var 0), (.const (dN 6))] [])), .frz [1], .frz [], .set 2 (.cell (.lst [])), .frz [2], .frz [], .for (.v 3) (.rng [(.call 19 [(.var 0), (.const (dN 9))] [])]) L24_1, .frz [], .ret (.tup [(.var 1), (.var 2)])]
def ir24 : FnI := ⟨1, ["w", "n", "found", "k", "left", "row", "xs", "zs", "other"], B24, false⟩
theorem fns24 : tb.fns[24]? = some ir24 := by kernel_rfl
theorem frs24 : frs tb 24 = false := by kernel_rfl
theorem rt24 (o : Bool) (d : D) (S : Sto) : retR ir24 (.rt d o S) = .ok d S := ret_rt_f rfl d S o
theorem run24 (n : Nat) (a0 : D) (S : Sto) : callD tb (n + 1) 24 [a0] S = retR ir24 (exB ⟨tb, false, callD tb n⟩ B24 [.val a0, .no, .no, .no, .no, .no, .no, .no, .no] S) := by rw [callD_succ fns24, run_eq _ _ _ _ rfl]; rfl
/-! 25 _law_wrong -/
def B25 : List MP.S := [.frz [], .set 2 (.call 19 [(.var 0), (.bin .LShift (.const (dN 1)) (.var 1))] []), .frz [2], .frz [], .set 3 (.call 19 [(.var 0), (.bin .LShift (.const (dN 1)) (.var 1))] []), .frz [3], .frz [], .set 4 (.call 20 [(.var 0), (.lst [(.bin .LShift (.const (dN 1)) (.call 19 [(.var 0), (.var 1)] [])), (.bin .BitOr (.bin .LShift (.const (dN 1)) (.call 19 [(.var 0), (.var 1)] [])) (.bin .LShift (.const (dN 1)) (.call 19 [(.var 0), (.var 1)] []))), (.bin .Sub (.bin .LShift (.const (dN 1)) (.var 1)) (.const (dN 1)))])] []), .frz [4], .frz [], .ret (.tup [(.const (dN 0)), (.bin .BitAnd (.var 2) (.var 4)), (.bin .BitAnd (.var 3) (.var 4))])]
def ir25 : FnI := ⟨2, ["w", "n", "xs", "zs", "mask"], B25, false⟩
theorem fns25 : tb.fns[25]? = some ir25 := by kernel_rfl
theorem frs25 : frs tb 25 = false := by kernel_rfl
theorem rt25 (o : Bool) (d : D) (S : Sto) : retR ir25 (.rt d o S) = .ok d S := ret_rt_f rfl d S o
theorem run25 (n : Nat) (a0 a1 : D) (S : Sto) : callD tb (n + 1) 25 [a0, a1] S = retR ir25 (exB ⟨tb, false, callD tb n⟩ B25 [.val a0, .val a1, .no, .no, .no] S) := by rw [callD_succ fns25, run_eq _ _ _ _ rfl]; rfl
/-! 26 _law_wrongs -/
def L26_0 : List MP.S := [.frz [], .own none 5 .extend [(.lst [(.tup [(.const (dN 0)), (.bin .BitOr (.var 7) (.bin .LShift (.const (dN 1)) (.var 9))), (.var 8)]), (.tup [(.const (dN 0)), (.var 7), (.bin .BitOr (.var 8) (.bin .LShift (.const (dN 1)) (.var 9)))]), (.tup [(.const (dN 0)), (.bin .BitOr (.var 7) (.bin .LShift (.const (dN 1)) (.var 9))), (.bin .BitOr (.var 8) (.bin .LShift (.const (dN 1)) (.var 9)))])])]]
def L26_1 : List MP.S := [.frz [], .for (.v 9) (.rng [(.mt .bitLength (.bin .BitOr (.var 7) (.var 8)) []), (.var 0)]) L26_0]
def L26_2 : List MP.S := [.frz [], .set 5 (.lst []), .frz [], .frz [], .for (.t [(.v 6), (.v 7), (.v 8)]) (.var 3) L26_1, .frz [], .set 2 (.bin .Add (.var 2) (.var 5)), .frz [2], .frz [5], .set 3 (.var 5), .frz [3]]
def B26 : List MP.S := [.frz [], .set 2 (.lst [(.tup [(.const (dN 0)), (.const (dN 0)), (.const (dN 0))])]), .frz [2], .frz [], .set 3 (.var 2), .frz [3], .frz [], .for (.v 4) (.rng [(.var 1)]) L26_2, .ret (.var 2)]
def ir26 : FnI := ⟨2, ["n", "many", "found", "layer", "turn", "later", "minus", "xs", "zs", "k"], B26, false⟩
theorem fns26 : tb.fns[26]? = some ir26 := by kernel_rfl
theorem frs26 : frs tb 26 = false := by kernel_rfl
theorem rt26 (o : Bool) (d : D) (S : Sto) : retR ir26 (.rt d o S) = .ok d S := ret_rt_f rfl d S o
theorem run26 (n : Nat) (a0 a1 : D) (S : Sto) : callD tb (n + 1) 26 [a0, a1] S = retR ir26 (exB ⟨tb, false, callD tb n⟩ B26 [.val a0, .val a1, .no, .no, .no, .no, .no, .no, .no, .no] S) := by rw [callD_succ fns26, run_eq _ _ _ _ rfl]; rfl
/-! 27 _law_signs -/
def K27_0 : E := (.blt .int [(.not (.call 22 [(.var 1), (.var 2)] []))])
def B27 : List MP.S := [.frz [], .ret (.comp K27_0 (.v 2) [2] (.var 0) [])]
def ir27 : FnI := ⟨2, ["rows", "wrong", "row"], B27, false⟩
theorem fns27 : tb.fns[27]? = some ir27 := by kernel_rfl
theorem frs27 : frs tb 27 = false := by kernel_rfl
theorem rt27 (o : Bool) (d : D) (S : Sto) : retR ir27 (.rt d o S) = .ok d S := ret_rt_f rfl d S o
theorem run27 (n : Nat) (a0 a1 : D) (S : Sto) : callD tb (n + 1) 27 [a0, a1] S = retR ir27 (exB ⟨tb, false, callD tb n⟩ B27 [.val a0, .val a1, .no] S) := by rw [callD_succ fns27, run_eq _ _ _ _ rfl]; rfl
/-! 28 _law_parts -/
def B28 : List MP.S := [.frz [], .ret (.cmp .NotIn (.tup [(.bin .BitXor (.idx (.var 1) (.const (dN 1))) (.idx (.var 2) (.const (dN 1)))), (.bin .BitXor (.idx (.var 1) (.const (dN 2))) (.idx (.var 2) (.const (dN 2))))]) (.call 23 [(.var 0)] []))]
def ir28 : FnI := ⟨3, ["rows", "one", "other"], B28, false⟩
theorem fns28 : tb.fns[28]? = some ir28 := by kernel_rfl
theorem frs28 : frs tb 28 = false := by kernel_rfl
theorem rt28 (o : Bool) (d : D) (S : Sto) : retR ir28 (.rt d o S) = .ok d S := ret_rt_f rfl d S o
theorem run28 (n : Nat) (a0 a1 a2 : D) (S : Sto) : callD tb (n + 1) 28 [a0, a1, a2] S = retR ir28 (exB ⟨tb, false, callD tb n⟩ B28 [.val a0, .val a1, .val a2] S) := by rw [callD_succ fns28, run_eq _ _ _ _ rfl]; rfl
/-! 29 _law_is_row -/
def K29_0 : E := (.var 2)
def Q29_0 : E := (.or (.blt (.isi "bool") [(.var 2)]) (.not (.blt (.isi "int") [(.var 2)])))
def B29 : List MP.S := [.frz [], .ite (.or (.not (.blt (.isi "tuple") [(.var 0)])) (.cmp .NotEq (.blt .len [(.var 0)]) (.const (dN 3)))) [.frz [], .ret (.const (.bl false))] [], .frz [], .ite (.cmp .NotEq (.comp K29_0 (.v 2) [2] (.var 0) [Q29_0]) (.lst [])) [.frz [], .ret (.const (.bl false))] [], .frz [], .ret (.and (.cmp .In (.idx (.var 0) (.const (dN 0))) (.lst [(.const (dN 0)), (.const (dN 1))])) (.and (.chain .LtE .Lt (.const (dN 0)) (.idx (.var 0) (.const (dN 1))) (.bin .LShift (.const (dN 1)) (.var 1))) (.chain .LtE .Lt (.const (dN 0)) (.idx (.var 0) (.const (dN 2))) (.bin .LShift (.const (dN 1)) (.var 1)))))]
def ir29 : FnI := ⟨2, ["thing", "n", "part"], B29, false⟩
theorem fns29 : tb.fns[29]? = some ir29 := by kernel_rfl
theorem frs29 : frs tb 29 = false := by kernel_rfl
theorem rt29 (o : Bool) (d : D) (S : Sto) : retR ir29 (.rt d o S) = .ok d S := ret_rt_f rfl d S o
theorem run29 (n : Nat) (a0 a1 : D) (S : Sto) : callD tb (n + 1) 29 [a0, a1] S = retR ir29 (exB ⟨tb, false, callD tb n⟩ B29 [.val a0, .val a1, .no] S) := by rw [callD_succ fns29, run_eq _ _ _ _ rfl]; rfl
/-! 30 _law_is_wrong -/
def B30 : List MP.S := [.frz [], .ret (.and (.call 29 [(.var 0), (.var 1)] []) (.and (.cmp .Eq (.idx (.var 0) (.const (dN 0))) (.const (dN 0))) (.cmp .LtE (.call 21 [(.bin .BitOr (.idx (.var 0) (.const (dN 1))) (.idx (.var 0) (.const (dN 2))))] []) (.var 2))))]
def ir30 : FnI := ⟨3, ["thing", "n", "many"], B30, false⟩
theorem fns30 : tb.fns[30]? = some ir30 := by kernel_rfl
theorem frs30 : frs tb 30 = false := by kernel_rfl
theorem rt30 (o : Bool) (d : D) (S : Sto) : retR ir30 (.rt d o S) = .ok d S := ret_rt_f rfl d S o
theorem run30 (n : Nat) (a0 a1 a2 : D) (S : Sto) : callD tb (n + 1) 30 [a0, a1, a2] S = retR ir30 (exB ⟨tb, false, callD tb n⟩ B30 [.val a0, .val a1, .val a2] S) := by rw [callD_succ fns30, run_eq _ _ _ _ rfl]; rfl
/-! 31 _law_some_part -/
def L31_0 : List MP.S := [.frz [], .own (some (.v 5)) 3 .setdefault [(.blt .tupleOf [(.call 27 [(.var 0), (.var 4)] [])]), (.var 4)], .frz [], .ite (.call 28 [(.var 0), (.var 5), (.var 4)] []) [.frz [], .ret (.const (.bl true))] []]
def B31 : List MP.S := [.frz [], .set 3 (.dct true [] []), .frz [], .frz [], .for (.v 4) (.call 26 [(.var 1), (.var 2)] []) L31_0, .frz [], .ret (.const (.bl false))]
def ir31 : FnI := ⟨3, ["rows", "n", "many", "firsts", "wrong", "first"], B31, false⟩
theorem fns31 : tb.fns[31]? = some ir31 := by kernel_rfl
theorem frs31 : frs tb 31 = false := by kernel_rfl
theorem rt31 (o : Bool) (d : D) (S : Sto) : retR ir31 (.rt d o S) = .ok d S := ret_rt_f rfl d S o
theorem run31 (n : Nat) (a0 a1 a2 : D) (S : Sto) : callD tb (n + 1) 31 [a0, a1, a2] S = retR ir31 (exB ⟨tb, false, callD tb n⟩ B31 [.val a0, .val a1, .val a2, .no, .no, .no] S) := by rw [callD_succ fns31, run_eq _ _ _ _ rfl]; rfl
/-! 32 _law_parting_right -/
def B32 : List MP.S := [.frz [], .ite (.or (.cmp .Is (.var 0) (.const .non)) (.not (.call 31 [(.var 1), (.var 2), (.var 3)] []))) [.frz [], .ret (.and (.cmp .Is (.var 0) (.const .non)) (.not (.call 31 [(.var 1), (.var 2), (.var 3)] [])))] [], .frz [], .ite (.or (.not (.blt (.isi "tuple") [(.var 0)])) (.cmp .NotEq (.blt .len [(.var 0)]) (.const (dN 3)))) [.frz [], .ret (.const (.bl false))] [], .frz [], .asg (.t [(.v 4), (.v 5), (.v 6)]) (.var 0), .frz [], .ite (.or (.not (.call 30 [(.var 4), (.var 2), (.var 3)] [])) (.or (.not (.call 30 [(.var 5), (.var 2), (.var 3)] [])) (.not (.call 29 [(.var 6), (.var 2)] [])))) [.frz [], .ret (.const (.bl false))] [], .frz [], .ite (.or (.cmp .NotEq (.call 27 [(.var 1), (.var 4)] []) (.call 27 [(.var 1), (.var 5)] [])) (.not (.call 28 [(.var 1), (.var 4), (.var 5)] []))) [.frz [], .ret (.const (.bl false))] [], .frz [], .ret (.and (.cmp .NotIn (.const (dN 1)) (.call 27 [(.var 1), (.var 6)] [])) (.cmp .NotEq (.call 22 [(.var 6), (.var 4)] []) (.call 22 [(.var 6), (.var 5)] [])))]
def ir32 : FnI := ⟨4, ["found", "rows", "n", "many", "one", "other", "row"], B32, false⟩
theorem fns32 : tb.fns[32]? = some ir32 := by kernel_rfl
theorem frs32 : frs tb 32 = false := by kernel_rfl
theorem rt32 (o : Bool) (d : D) (S : Sto) : retR ir32 (.rt d o S) = .ok d S := ret_rt_f rfl d S o
theorem run32 (n : Nat) (a0 a1 a2 a3 : D) (S : Sto) : callD tb (n + 1) 32 [a0, a1, a2, a3] S = retR ir32 (exB ⟨tb, false, callD tb n⟩ B32 [.val a0, .val a1, .val a2, .val a3, .no, .no, .no] S) := by rw [callD_succ fns32, run_eq _ _ _ _ rfl]; rfl
/-! 33 _law_guess_right -/
def K33_0 : E := (.var 7)
def Q33_0 : E := (.cmp .Eq (.call 27 [(.var 1), (.var 7)] []) (.var 3))
def B33 : List MP.S := [.frz [], .set 5 (.comp K33_0 (.v 7) [7] (.call 26 [(.var 2), (.var 4)] []) [Q33_0]), .frz [5], .tryx [.frz [], .set 6 (.meth (.var 0) "guess" [(.blt .listOf [(.var 3)]), (.var 4)] [] false), .frz [6]] 3 none [.frz [], .ret (.cmp .Eq (.var 5) (.lst []))] [], .frz [], .ite (.or (.cmp .Eq (.var 5) (.lst [])) (.or (.not (.call 30 [(.var 6), (.var 2), (.var 4)] [])) (.cmp .NotEq (.call 27 [(.var 1), (.var 6)] []) (.var 3)))) [.frz [], .ret (.const (.bl false))] [], .frz [], .ret (.cmp .Eq (.call 21 [(.bin .BitOr (.idx (.var 6) (.const (dN 1))) (.idx (.var 6) (.const (dN 2))))] []) (.call 21 [(.bin .BitOr (.idx (.idx (.var 5) (.const (dN 0))) (.const (dN 1))) (.idx (.idx (.var 5) (.const (dN 0))) (.const (dN 2))))] []))]
def ir33 : FnI := ⟨5, ["code", "rows", "n", "signs", "many", "some", "found", "wrong"], B33, false⟩
theorem fns33 : tb.fns[33]? = some ir33 := by kernel_rfl
theorem frs33 : frs tb 33 = false := by kernel_rfl
theorem rt33 (o : Bool) (d : D) (S : Sto) : retR ir33 (.rt d o S) = .ok d S := ret_rt_f rfl d S o
theorem run33 (n : Nat) (a0 a1 a2 a3 a4 : D) (S : Sto) : callD tb (n + 1) 33 [a0, a1, a2, a3, a4] S = retR ir33 (exB ⟨tb, false, callD tb n⟩ B33 [.val a0, .val a1, .val a2, .val a3, .val a4, .no, .no, .no] S) := by rw [callD_succ fns33, run_eq _ _ _ _ rfl]; rfl
/-! 34 _law_rows_right -/
def L34_0 : List MP.S := [.frz [], .set 3 (.meth (.var 0) "rows" [] [] true), .frz [], .frz [], .ite (.or (.not (.blt (.isi "list") [(.var 3)])) (.cmp .NotEq (.var 3) (.var 1))) [.frz [], .ret (.const (.bl false))] [], .frz [], .own none 3 .reverse [], .frz [], .own none 3 .append [(.tup [(.const (dN 0)), (.const (dN 1)), (.const (dN 1))])]]
def B34 : List MP.S := [.frz [], .for (.v 2) (.rng [(.const (dN 2))]) L34_0, .frz [], .ret (.const (.bl true))]
def ir34 : FnI := ⟨2, ["code", "rows", "turn", "found"], B34, false⟩
theorem fns34 : tb.fns[34]? = some ir34 := by kernel_rfl
theorem frs34 : frs tb 34 = false := by kernel_rfl
theorem rt34 (o : Bool) (d : D) (S : Sto) : retR ir34 (.rt d o S) = .ok d S := ret_rt_f rfl d S o
theorem run34 (n : Nat) (a0 a1 : D) (S : Sto) : callD tb (n + 1) 34 [a0, a1] S = retR ir34 (exB ⟨tb, false, callD tb n⟩ B34 [.val a0, .val a1, .no, .no] S) := by rw [callD_succ fns34, run_eq _ _ _ _ rfl]; rfl
/-! 35 _law_signs_right -/
def L35_0 : List MP.S := [.frz [], .set 4 (.meth (.var 0) "signs" [(.var 2)] [] true), .frz [], .frz [], .ite (.or (.not (.blt (.isi "list") [(.var 4)])) (.cmp .NotEq (.blt .repr [(.var 4)]) (.blt .repr [(.call 27 [(.var 1), (.var 2)] [])]))) [.frz [], .ret (.const (.bl false))] [], .frz [], .own none 4 .append [(.const (dN 1))], .frz [], .own none 4 .reverse []]
def B35 : List MP.S := [.frz [], .for (.v 3) (.rng [(.const (dN 2))]) L35_0, .frz [], .ret (.const (.bl true))]
def ir35 : FnI := ⟨3, ["code", "rows", "wrong", "turn", "found"], B35, false⟩
theorem fns35 : tb.fns[35]? = some ir35 := by kernel_rfl
theorem frs35 : frs tb 35 = false := by kernel_rfl
theorem rt35 (o : Bool) (d : D) (S : Sto) : retR ir35 (.rt d o S) = .ok d S := ret_rt_f rfl d S o
theorem run35 (n : Nat) (a0 a1 a2 : D) (S : Sto) : callD tb (n + 1) 35 [a0, a1, a2] S = retR ir35 (exB ⟨tb, false, callD tb n⟩ B35 [.val a0, .val a1, .val a2, .no, .no] S) := by rw [callD_succ fns35, run_eq _ _ _ _ rfl]; rfl
/-! 36 _law_asked -/
def K36_0 : E := (.call 19 [(.var 0), (.const (dN 2))] [])
def B36 : List MP.S := [.frz [], .set 4 (.call 19 [(.var 0), (.const (dN 10))] []), .frz [4], .frz [], .set 5 (.call 19 [(.var 0), (.const (dN 3))] []), .frz [5], .frz [], .set 6 (.call 25 [(.var 0), (.var 3)] []), .frz [6], .frz [], .set 7 (.comp K36_0 (.v 8) [8] (.var 2) []), .frz [7], .frz [], .ite (.cmp .Lt (.var 4) (.const (dN 3))) [.frz [], .ret (.call 32 [(.meth (.var 1) "parting_wrongs" [(.var 5)] [] false), (.var 2), (.var 3), (.var 5)] [])] [], .frz [], .ite (.cmp .Lt (.var 4) (.const (dN 5))) [.frz [], .ret (.call 33 [(.var 1), (.var 2), (.var 3), (.call 27 [(.var 2), (.var 6)] []), (.var 5)] [])] [], .frz [], .ite (.cmp .Lt (.var 4) (.const (dN 7))) [.frz [], .ret (.call 33 [(.var 1), (.var 2), (.var 3), (.var 7), (.var 5)] [])] [], .frz [], .ite (.cmp .Eq (.var 4) (.const (dN 7))) [.frz [], .ret (.cmp .Eq (.blt .repr [(.meth (.var 1) "harmless" [(.var 6)] [] false)]) (.blt .repr [(.cmp .In (.slc (.var 6) (some (.const (dN 1))) none) (.call 23 [(.var 2)] []))]))] [], .frz [], .ite (.cmp .Eq (.var 4) (.const (dN 8))) [.frz [], .ret (.and (.cmp .Eq (.meth (.var 1) "wires" [] [] false) (.var 3)) (.cmp .Is (.meth (.var 1) "harmless" [(.tup [(.const (dN 0)), (.const (dN 0)), (.const (dN 0))])] [] false) (.const (.bl true))))] [], .frz [], .ret (.call 35 [(.var 1), (.var 2), (.var 6)] [])]
def ir36 : FnI := ⟨4, ["w", "code", "rows", "n", "way", "many", "wrong", "signs", "row"], B36, false⟩
theorem fns36 : tb.fns[36]? = some ir36 := by kernel_rfl
theorem frs36 : frs tb 36 = false := by kernel_rfl
theorem rt36 (o : Bool) (d : D) (S : Sto) : retR ir36 (.rt d o S) = .ok d S := ret_rt_f rfl d S o
theorem run36 (n : Nat) (a0 a1 a2 a3 : D) (S : Sto) : callD tb (n + 1) 36 [a0, a1, a2, a3] S = retR ir36 (exB ⟨tb, false, callD tb n⟩ B36 [.val a0, .val a1, .val a2, .val a3, .no, .no, .no, .no, .no] S) := by rw [callD_succ fns36, run_eq _ _ _ _ rfl]; rfl
/-! 37 law -/
def L37_0 : List MP.S := [.frz [], .set 1 (.call 18 [(.var 3)] []), .frz [1], .frz [], .ite (.not (.call 36 [(.var 1), (.var 2), (.var 5), (.var 4)] [])) [.frz [], .ret (.const (.bl false))] [], .frz [], .ite (.or (.not (.call 35 [(.var 2), (.var 5), (.call 25 [(.var 1), (.var 4)] [])] [])) (.not (.call 34 [(.var 2), (.var 5)] []))) [.frz [], .ret (.const (.bl false))] []]
def B37 : List MP.S := [.frz [], .set 1 (.call 18 [(.idx (.bin .Add (.var 0) (.lst [(.const (dN 0))])) (.const (dN 0)))] []), .frz [1], .frz [], .asg (.t [(.v 4), (.v 5)]) (.call 24 [(.var 1)] []), .frz [], .set 2 (.new 0 [(.var 4), (.blt .listOf [(.var 5)])] []), .frz [2], .frz [], .for (.v 3) (.bin .Add (.slc (.var 0) (some (.const (dN 1))) (some (.const (dN 25)))) (.lst [(.const (dN 0)), (.const (dN 1))])) L37_0, .frz [], .ret (.const (.bl true))]
def ir37 : FnI := ⟨1, ["script", "w", "code", "cell", "n", "rows"], B37, false⟩
theorem fns37 : tb.fns[37]? = some ir37 := by kernel_rfl
theorem frs37 : frs tb 37 = false := by kernel_rfl
theorem rt37 (o : Bool) (d : D) (S : Sto) : retR ir37 (.rt d o S) = .ok d S := ret_rt_f rfl d S o
theorem run37 (n : Nat) (a0 : D) (S : Sto) : callD tb (n + 1) 37 [a0] S = retR ir37 (exB ⟨tb, false, callD tb n⟩ B37 [.val a0, .no, .no, .no, .no, .no] S) := by rw [callD_succ fns37, run_eq _ _ _ _ rfl]; rfl
theorem clss : tb.clss = Hd.cl := rfl
theorem excs : tb.excs = [⟨"WireError", [0]⟩, ⟨"NoRow", [1, 0]⟩, ⟨"NoCode", [2, 0]⟩, ⟨"NoMend", [3, 0]⟩] := by kernel_rfl
theorem mf0___init__ : mfind tb 0 "__init__" = some 8 := by kernel_rfl
theorem mf0_take : mfind tb 0 "take" = some 9 := by kernel_rfl
theorem mf0_wires : mfind tb 0 "wires" = some 10 := by kernel_rfl
theorem mf0_rows : mfind tb 0 "rows" = some 11 := by kernel_rfl
theorem mf0_signs : mfind tb 0 "signs" = some 12 := by kernel_rfl
theorem mf0_harmless : mfind tb 0 "harmless" = some 13 := by kernel_rfl
theorem mf0_wrongs : mfind tb 0 "wrongs" = some 14 := by kernel_rfl
theorem mf0_parting_wrongs : mfind tb 0 "parting_wrongs" = some 15 := by kernel_rfl
theorem mf0_shower : mfind tb 0 "shower" = some 16 := by kernel_rfl
theorem mf0_guess : mfind tb 0 "guess" = some 17 := by kernel_rfl
theorem hf0_kept : hasFd tb 0 "kept" = true := by kernel_rfl
theorem hf0_leads : hasFd tb 0 "leads" = true := by kernel_rfl
theorem hf0_many : hasFd tb 0 "many" = true := by kernel_rfl
end Wk

set_option maxRecDepth 100000
set_option maxHeartbeats 0
open PySem PySem.Spec MP PL in
local macro_rules
  | `(tactic| simp_arith only [$xs,*]) => `(tactic| simp -implicitDefEqProofs only [slotR_o, slotR_v, slotV_v, mkTup_ok, mkLst_ok, fldR_ref, methR_ref, mcK_ok, mcK_ex, methG_ok, fldO_ok, madeR_ok, madeR_exc, newR_some, lstR_ok, compI_some, forI_some, calmS_ok, calmly_ok, binK2_ok, binK2_ex, binK_ok, binK_ex, negK_ok, negK_ex, cmpK2_ok, cmpK2_ex, cmpK_ok, cmpK_ex, chK4_ok, chK4_ex, chK3_t, chK3_f, chK2_ok, chK2_ex, chK_ok, chK_ex, andB_t, andB_f, andK_ok, andK_ex, orB_t, orB_f, orK_ok, orK_ex, notK_ok, notK_ex, iteB_t, iteB_f, iteK_ok, iteK_ex, esK2_ok, esK2_ex, esK_ok, esK_ex, rsK_ok, rsK_ex, tupK_ok, tupK_ex, lstK_ok, lstK_ex, idxK2_ok, idxK2_ex, idxK_ok, idxK_ex, slcK3_ok, slcK3_ex, slcK2_ok, slcK2_ex, slcK_ok, slcK_ex, intK_ok, intK_ex, srevK_ok, srevK_ex, callK_ok, callK_ex, newK_ok, newK_ex, fldK_ok, fldK_ex, bltK_ok, bltK_ex, mtK2_ok, mtK2_ex, mtK_ok, mtK_ex, compK_ok, compK_ex, cellK_ok, cellK_ex, rngK_ok, rngK_ex, enmK_ok, enmK_ex, revK_ok, revK_ex, ifB_t, ifB_f, ifK_ok, ifK_ex, ttK_ok, ttK_ex, cmK_ok, cmK_ex, cmK2_ok, cmK2_ex, stK_ok, stK_ex, asgK_ok, asgK_ex, augK_ok, augK_ex, expK_ok, expK_ex, brSt_t, brSt_f, sifK_ok, sifK_ex, forK_ok, forK_ex, retK_ok, retK_ex, fstK2_ok, fstK2_ex, fstK_ok, fstK_ex, subK3_ok, subK3_ex, subK2_ok, subK2_ex, subK_ok, subK_ex, apdK_ok, apdK_ex, xtdK_ok, xtdK_ex, popK_ok, popK_ex, sdfK_ok, sdfK_ex, seqB_nx, seqB_rt, seqB_ex, seqB_bk, seqB_ct, methK_ok, methK_ex, rw_var, rw_const, rw_bin, rw_neg, rw_cmp, rw_chain, rw_and, rw_or, rw_not, rw_ite, rw_tup, rw_lst, rw_dct, rw_idx, rw_slc, rw_srev, rw_call, rw_callv, rw_new, rw_meth, rw_fld, rw_blt, rw_mt, rw_mm, rw_comp, rw_rng, rw_enm, rw_rev, rw_itm, rw_unc, rw_cell, ev_var, ev_const, ev_bin, ev_neg, ev_cmp, ev_chain, ev_and, ev_or, ev_not, ev_ite, ev_tup, ev_lst, ev_dct0, ev_dct1, ev_idx, ev_slc, ev_srev, ev_call, ev_new, ev_meth, ev_fld, ev_blt, ev_mt, ev_comp, cellR_lst, cellR_dk, ev_cell, ev_rng, enmD_lst, ev_enm, srevD_lst, ev_rev, mmE_lst, mmE_dk, mmC_ok, mmC_ex, lkK_ok, lkK_ex, mmB_t, mmR_ref, mmV_ok, mmV_ex, ev_mm, es_nil, es_cons, rs_nil, rs_cons, intR_int, zo_none, zo_some, zif_nil, zif_cons, tt_eq, zb_nil, zb_cons, zs_pass, zs_set, asgR_some, zs_asg, zs_aug, augS_some, augR_int, zs_expr, zs_frz, frz1_own, frz1_val, frz1_no, frz_nil, frz_cons, zs_ite, zs_whl, zs_for, retO_own, retO_val, zs_ret_var, zs_ret, zs_retN, zs_raise, zs_brk, zs_cnt, zs_own, ownD_some, own_append, own_extend, own_pop, own_popAt, own_reverse, own_setdefault, bto_none, bto_some, bt_v, bt_t, bts_nil, bts_cons, fldT_ref, fldS_ins, zs_fld, subL_some, subO_lst, subR_ref, zs_sub, zs_try, try_nx, try_rt, ret_nx, ret_ex, guardR_rt, for_nil, cs_lst, cs_tup, cs_str, ci_eq, cb_t, cb_f, fs_lst, fs_tup, fs_str, it_lst, it_tup, wipe_nil, wipe_cons, f_lst, f_dct, f_comp, f_slc, f_srev, f_bin, f_listOf, f_call, f_meth, f_var, f_const, f_idx, f_tup, f_fld, f_cmp, f_and, f_or, f_not, f_chain, f_mm, f_cell, f_new, f_ite, f_tupleOf, f_bits, slot_f, slot_int, slot_bl, slot_str, slot_tup, slot_ref, slot_non, slot_lst, slot_dt, slot_dk, tru_bl, tru_int, tru_lst, c_eqi, c_nei, c_eqb, c_neb, c_eqs, c_nes, c_lt, c_le, c_gt, c_ge, c_isn, c_isn_tup, c_isn_int, c_ntn, c_ntn_tup, c_ntn_int, c_isb, b_len, b_int, b_str, b_sum, b_all, b_min, b_max, b_listOf, b_tupleOf, b_repr, b_isi, i_int, lo_lst, lo_tup, to_lst, to_tup, mn_int, mx_int, x_lst, x_tup, sl_lst, sl_tup, m_bits, nlook, n_and, n_or, n_xor, n_add, n_sub, n_shl1, n_shr, n_mod, n_div, n_eq, n_ne, n_lt, n_le, n_gt, n_ge, n_tru, n_len, n_lent, n_lens, n_int, n_intb, n_bits, n_idx, n_idxt, n_intR, cut_from, cut_to, n_slot, n_min, n_max, augT_some, augO_N, augM_ex, augM_ok, subO_N, ty_int_N, ty_bool_N, ty_int_i, ty_bool_i, ty_int_b, ty_bool_b, ty_int_n, ty_int_s, ty_int_t, ty_int_l, ty_bool_n, ty_bool_s, ty_bool_t, ty_bool_l, ty_tuple_t, ty_tuple_l, ty_tuple_N, ty_tuple_i, ty_tuple_b, ty_tuple_n, ty_tuple_s, ty_list_l, ty_list_t, ty_list_N, ty_list_b, ty_list_n, ty_list_s, ty_str_s, ty_str_N, ty_str_n, ty_str_b, ty_str_t, ty_str_l, tru_tup, tru_non, blsD_nil, blsD_cons, n_ige, n_igt, n_imod, n_idiv, n_iadd, n_addi, n_addii, n_ix30, n_ix31, n_ix32, n_mk_app, n_mk_ext, n_mk_pop, n_mk_popAt, n_mk_clear, n_he_app, n_he_ext, n_he_pop, n_he_popAt, n_he_clear, n_md_app, n_md_ext, n_md_popAt, n_md_pop, n_md_clear, n_free0, n_free1, n_own1, n_own2, n_own3, of_some, look_int, look_bl, look_non, look_str, look_tup, look_lst, look_dk, look_dt, bin_int, io_add, io_sub, io_and, io_or, io_xor, iAnd, iOr, iXor, atI0, atI1, atI2, List.length_cons, List.length_nil, List.map_cons, List.map_nil, List.getElem?_cons_zero, List.getElem?_cons_succ, List.cons_append, List.nil_append, List.drop_succ_cons, List.drop_zero, List.take_succ_cons, List.take_zero, List.set_cons_zero, List.set_cons_succ, Option.map_some, Option.bind_some, if_true, decide_true, decide_false, Bool.false_and, Bool.and_false, Bool.true_and, Bool.and_true, Bool.not_true, Bool.not_false, cond_true, cond_false, Bool.false_eq_true, if_false, reduceCtorEq, Nat.reduceAdd, Nat.reduceSub, Nat.reduceLeDiff, Nat.reduceLT, reduceIte, ne_eq, not_false_eq_true, implies_true, forall_const, $xs,*])
  | `(tactic| simp_arith only [$xs,*] at $h:ident) => `(tactic| simp -implicitDefEqProofs only [slotR_o, slotR_v, slotV_v, mkTup_ok, mkLst_ok, fldR_ref, methR_ref, mcK_ok, mcK_ex, methG_ok, fldO_ok, madeR_ok, madeR_exc, newR_some, lstR_ok, compI_some, forI_some, calmS_ok, calmly_ok, binK2_ok, binK2_ex, binK_ok, binK_ex, negK_ok, negK_ex, cmpK2_ok, cmpK2_ex, cmpK_ok, cmpK_ex, chK4_ok, chK4_ex, chK3_t, chK3_f, chK2_ok, chK2_ex, chK_ok, chK_ex, andB_t, andB_f, andK_ok, andK_ex, orB_t, orB_f, orK_ok, orK_ex, notK_ok, notK_ex, iteB_t, iteB_f, iteK_ok, iteK_ex, esK2_ok, esK2_ex, esK_ok, esK_ex, rsK_ok, rsK_ex, tupK_ok, tupK_ex, lstK_ok, lstK_ex, idxK2_ok, idxK2_ex, idxK_ok, idxK_ex, slcK3_ok, slcK3_ex, slcK2_ok, slcK2_ex, slcK_ok, slcK_ex, intK_ok, intK_ex, srevK_ok, srevK_ex, callK_ok, callK_ex, newK_ok, newK_ex, fldK_ok, fldK_ex, bltK_ok, bltK_ex, mtK2_ok, mtK2_ex, mtK_ok, mtK_ex, compK_ok, compK_ex, cellK_ok, cellK_ex, rngK_ok, rngK_ex, enmK_ok, enmK_ex, revK_ok, revK_ex, ifB_t, ifB_f, ifK_ok, ifK_ex, ttK_ok, ttK_ex, cmK_ok, cmK_ex, cmK2_ok, cmK2_ex, stK_ok, stK_ex, asgK_ok, asgK_ex, augK_ok, augK_ex, expK_ok, expK_ex, brSt_t, brSt_f, sifK_ok, sifK_ex, forK_ok, forK_ex, retK_ok, retK_ex, fstK2_ok, fstK2_ex, fstK_ok, fstK_ex, subK3_ok, subK3_ex, subK2_ok, subK2_ex, subK_ok, subK_ex, apdK_ok, apdK_ex, xtdK_ok, xtdK_ex, popK_ok, popK_ex, sdfK_ok, sdfK_ex, seqB_nx, seqB_rt, seqB_ex, seqB_bk, seqB_ct, methK_ok, methK_ex, rw_var, rw_const, rw_bin, rw_neg, rw_cmp, rw_chain, rw_and, rw_or, rw_not, rw_ite, rw_tup, rw_lst, rw_dct, rw_idx, rw_slc, rw_srev, rw_call, rw_callv, rw_new, rw_meth, rw_fld, rw_blt, rw_mt, rw_mm, rw_comp, rw_rng, rw_enm, rw_rev, rw_itm, rw_unc, rw_cell, ev_var, ev_const, ev_bin, ev_neg, ev_cmp, ev_chain, ev_and, ev_or, ev_not, ev_ite, ev_tup, ev_lst, ev_dct0, ev_dct1, ev_idx, ev_slc, ev_srev, ev_call, ev_new, ev_meth, ev_fld, ev_blt, ev_mt, ev_comp, cellR_lst, cellR_dk, ev_cell, ev_rng, enmD_lst, ev_enm, srevD_lst, ev_rev, mmE_lst, mmE_dk, mmC_ok, mmC_ex, lkK_ok, lkK_ex, mmB_t, mmR_ref, mmV_ok, mmV_ex, ev_mm, es_nil, es_cons, rs_nil, rs_cons, intR_int, zo_none, zo_some, zif_nil, zif_cons, tt_eq, zb_nil, zb_cons, zs_pass, zs_set, asgR_some, zs_asg, zs_aug, augS_some, augR_int, zs_expr, zs_frz, frz1_own, frz1_val, frz1_no, frz_nil, frz_cons, zs_ite, zs_whl, zs_for, retO_own, retO_val, zs_ret_var, zs_ret, zs_retN, zs_raise, zs_brk, zs_cnt, zs_own, ownD_some, own_append, own_extend, own_pop, own_popAt, own_reverse, own_setdefault, bto_none, bto_some, bt_v, bt_t, bts_nil, bts_cons, fldT_ref, fldS_ins, zs_fld, subL_some, subO_lst, subR_ref, zs_sub, zs_try, try_nx, try_rt, ret_nx, ret_ex, guardR_rt, for_nil, cs_lst, cs_tup, cs_str, ci_eq, cb_t, cb_f, fs_lst, fs_tup, fs_str, it_lst, it_tup, wipe_nil, wipe_cons, f_lst, f_dct, f_comp, f_slc, f_srev, f_bin, f_listOf, f_call, f_meth, f_var, f_const, f_idx, f_tup, f_fld, f_cmp, f_and, f_or, f_not, f_chain, f_mm, f_cell, f_new, f_ite, f_tupleOf, f_bits, slot_f, slot_int, slot_bl, slot_str, slot_tup, slot_ref, slot_non, slot_lst, slot_dt, slot_dk, tru_bl, tru_int, tru_lst, c_eqi, c_nei, c_eqb, c_neb, c_eqs, c_nes, c_lt, c_le, c_gt, c_ge, c_isn, c_isn_tup, c_isn_int, c_ntn, c_ntn_tup, c_ntn_int, c_isb, b_len, b_int, b_str, b_sum, b_all, b_min, b_max, b_listOf, b_tupleOf, b_repr, b_isi, i_int, lo_lst, lo_tup, to_lst, to_tup, mn_int, mx_int, x_lst, x_tup, sl_lst, sl_tup, m_bits, nlook, n_and, n_or, n_xor, n_add, n_sub, n_shl1, n_shr, n_mod, n_div, n_eq, n_ne, n_lt, n_le, n_gt, n_ge, n_tru, n_len, n_lent, n_lens, n_int, n_intb, n_bits, n_idx, n_idxt, n_intR, cut_from, cut_to, n_slot, n_min, n_max, augT_some, augO_N, augM_ex, augM_ok, subO_N, ty_int_N, ty_bool_N, ty_int_i, ty_bool_i, ty_int_b, ty_bool_b, ty_int_n, ty_int_s, ty_int_t, ty_int_l, ty_bool_n, ty_bool_s, ty_bool_t, ty_bool_l, ty_tuple_t, ty_tuple_l, ty_tuple_N, ty_tuple_i, ty_tuple_b, ty_tuple_n, ty_tuple_s, ty_list_l, ty_list_t, ty_list_N, ty_list_b, ty_list_n, ty_list_s, ty_str_s, ty_str_N, ty_str_n, ty_str_b, ty_str_t, ty_str_l, tru_tup, tru_non, blsD_nil, blsD_cons, n_ige, n_igt, n_imod, n_idiv, n_iadd, n_addi, n_addii, n_ix30, n_ix31, n_ix32, n_mk_app, n_mk_ext, n_mk_pop, n_mk_popAt, n_mk_clear, n_he_app, n_he_ext, n_he_pop, n_he_popAt, n_he_clear, n_md_app, n_md_ext, n_md_popAt, n_md_pop, n_md_clear, n_free0, n_free1, n_own1, n_own2, n_own3, of_some, look_int, look_bl, look_non, look_str, look_tup, look_lst, look_dk, look_dt, bin_int, io_add, io_sub, io_and, io_or, io_xor, iAnd, iOr, iXor, atI0, atI1, atI2, List.length_cons, List.length_nil, List.map_cons, List.map_nil, List.getElem?_cons_zero, List.getElem?_cons_succ, List.cons_append, List.nil_append, List.drop_succ_cons, List.drop_zero, List.take_succ_cons, List.take_zero, List.set_cons_zero, List.set_cons_succ, Option.map_some, Option.bind_some, if_true, decide_true, decide_false, Bool.false_and, Bool.and_false, Bool.true_and, Bool.and_true, Bool.not_true, Bool.not_false, cond_true, cond_false, Bool.false_eq_true, if_false, reduceCtorEq, Nat.reduceAdd, Nat.reduceSub, Nat.reduceLeDiff, Nat.reduceLT, reduceIte, ne_eq, not_false_eq_true, implies_true, forall_const, $xs,*] at $h:ident)
namespace Wk
open PySem PySem.Spec MP PL
open PyProof.Rows hiding St
theorem tbfuel : tb.fuel = 100000 := rfl
theorem pc_pos {x : Nat} (h : 0 < x) : 0 < pc x := by rw [pc_pred x h]; omega
theorem l_ones (C : Ev) (hC : C.hot = false) (S : Sto) (x : Nat) (f : Nat) (hf : pc x < f) : whlLoop C W0_0 L0_0 f [.val (dN x), .val (dN 0)] S = .nx [.val (dN 0), .val (dN (pc x))] S := by
  obtain ⟨T, h, f0⟩ := C
  cases hC
  obtain ⟨j, ρ', S', h1, ⟨y, c, rfl, rfl, hc, hj⟩, h3⟩ := whl_inv (C := ⟨T, false, f0⟩) (c := W0_0) (b := L0_0) (I := fun k ρ S' => ∃ y c : Nat, ρ = [.val (dN y), .val (dN c)] ∧ S' = S ∧ pc y + c = pc x ∧ pc y = k) (fun k ρ S' ⟨y, c, e1, e2, e3, e4⟩ => by
    subst e1
    subst e2
    by_cases hy : 0 < y
    · right
      have h2 := pc_pred y hy
      have h1 : 1 ≤ y := hy
      refine ⟨pc (y &&& (y - 1)), S', _, S', by omega, by simp_arith only [W0_0, hy], by simp_arith only [L0_0, h1]; rfl, _, _, rfl, rfl, by omega, rfl⟩
    · left
      simp_arith only [W0_0, hy]) (pc x) f [.val (dN x), .val (dN 0)] S hf ⟨x, 0, rfl, rfl, by omega, rfl⟩
  have hy : y = 0 := by
    by_cases hy : 0 < y
    · simp_arith only [W0_0, hy] at h3
      cases h3
    · omega
  subst hy
  rw [h1, ← hc, pc0, Nat.zero_add]
theorem c_ones (n : Nat) (S : Sto) (x : Nat) (hx : x < 2 ^ 64) : callD tb (n + 1) 0 [dN x] S = .ok (dN (pc x)) S := by
  have := pc_le x 64 hx
  rw [run0]
  simp_arith only [B0, rt0, tbfuel, l_ones ⟨tb, false, callD tb n⟩ rfl S x 100000 (by omega)]
theorem and_lt (a b k : Nat) (h : a < 2 ^ k) : a &&& b < 2 ^ k := Nat.lt_of_le_of_lt Nat.and_le_left h
theorem c_below (n : Nat) (S : Sto) (x y : Nat) : callD tb (n + 1) 1 [dN x, dN y] S = .ok (.bl (decide (x < y))) S := by
  rw [run1]
  simp_arith only [B1, rt1, Nat.zero_le]
theorem c_checked (n : Nat) (S : Sto) (m x z k : Nat) (hm : m < 2) (hx : x < 2 ^ k) (hz : z < 2 ^ k) (hk : k ≤ 1000) : callD tb (n + 2) 2 [.tup [dN m, dN x, dN z], dN k] S = .ok (.tup [dN m, dN x, dN z]) S := by
  have hk2 : k ≤ 1000000 := by omega
  rw [run2]
  simp_arith only [B2, rt2, c_below, hm, hx, hz, hk2]
theorem c_beside (n : Nat) (S : Sto) (m m' : D) (x z x' z' : Nat) (ha : x < 2 ^ 64) (hb : x' < 2 ^ 64) : callD tb (n + 2) 3 [.tup [m, dN x, dN z], .tup [m', dN x', dN z']] S = .ok (.bl (bes (x, z) (x', z'))) S := by
  rw [run3]
  have h1 : x &&& z' < 2 ^ 64 := and_lt _ _ _ ha
  have h2 : z &&& x' < 2 ^ 64 := by rw [Nat.and_comm]; exact and_lt _ _ _ hb
  simp_arith only [B3, rt3, c_ones n S _ h1, c_ones n S _ h2, bes, Nat.reduceLT]
theorem c_letter (n : Nat) (S : Sto) (m : D) (x z k : Nat) (hk : k ≤ 1000) (hz : z < 2 ^ 64) : callD tb (n + 1) 4 [.tup [m, dN x, dN z], dN k] S = .ok (dN (join k x z : Nat)) S := by
  have hk2 : k ≤ 1000000 := by omega
  rw [run4]
  simp_arith only [B4, rt4, n_shl hz hk2, join]
theorem c_mirror (n : Nat) (S : Sto) (m : D) (x z k : Nat) (hk : k ≤ 1000) (hz : x < 2 ^ 64) : callD tb (n + 1) 5 [.tup [m, dN x, dN z], dN k] S = .ok (dN (join k z x : Nat)) S := by
  have hk2 : k ≤ 1000000 := by omega
  rw [run5]
  simp_arith only [B5, rt5, n_shl hz hk2, join]
theorem and1 (a : Nat) : a &&& 1 = a % 2 := Nat.and_one_is_mod a
def dL (p : Nat × Nat) : D := .tup [dN p.1, dN p.2]
theorem c_left (n : Nat) (S : Sto) (v : Nat) (l : List (Nat × Nat)) : callD tb (n + 1) 6 [dN v, .lst (l.map dL)] S = .ok (dN (leftOver v l)) S := by
  rw [run6]
  obtain ⟨ρ', S', h1, w, s1, s2, rfl, rfl, h3⟩ := for_all (C := ⟨tb, false, callD tb n⟩) (t := .t [.v 2, .v 3]) (b := L6_0) (x := .lst (l.map dL)) (S0 := S) (emb := dL) (I := fun r ρ S' => ∃ w s1 s2, ρ = [.val (dN w), .val (.lst (l.map dL)), s1, s2] ∧ S' = S ∧ leftOver w r = leftOver v l) (fun a r ρ S' ⟨w, s1, s2, e1, e2, e3⟩ => by
    subst e1
    subst e2
    by_cases hb : w / 2 ^ a.1 % 2 = 1
    · refine ⟨_, _, by simp_arith only [dL, L6_0, and1, hb]; rfl, _, _, _, rfl, rfl, ?_⟩
      rw [← e3, leftOver, if_pos hb]
    · refine ⟨_, _, by simp_arith only [dL, L6_0, and1, hb]; rfl, _, _, _, rfl, rfl, ?_⟩
      rw [← e3, leftOver, if_neg hb]) l _ S ⟨v, .no, .no, rfl, rfl, rfl⟩
  simp_arith only [B6, rt6, h1]
  rw [← h3]
  rfl
end Wk

set_option maxRecDepth 100000
set_option maxHeartbeats 0
namespace Wk
open PySem PySem.Spec MP PL
open PyProof.Rows hiding St
theorem fs_any (C : Ev) (b : List MP.S) (x : D) (S0 : Sto) (ρ : MP.Frame) (S : Sto) : forStep C b x S0 (some ρ) S = guardR x S0 (exB C b ρ S) := rfl
theorem srcOk_cell {S : Sto} {k : Nat} {xs : List D} (h : S[k]? = some (.lst xs)) : srcOk (.ref k) S S = true := srcOk_refl (xs := xs) (by rw [look_ref h]; rfl)
/-- a list, or a cell that holds it -/
structure Lk (S : Sto) (X : D) (l : List D) : Prop where
  e : D.look S X = .lst l
  s : srcOk X S S = true
theorem lk_lst (S : Sto) (l : List D) : Lk S (.lst l) l := ⟨rfl, rfl⟩
theorem lk_ref {S : Sto} {q : Nat} {l : List D} (h : S[q]? = some (.lst l)) : Lk S (.ref q) l := ⟨look_ref h, srcOk_cell h⟩
theorem cs_any (C : Ev) (elt : E) (ifs : List E) (x : D) (S0 : Sto) (ρ : MP.Frame) (S : Sto) : cmpStep C elt ifs x S0 (some ρ) S = guardS x S0 (cmpIn C elt ifs ρ S) := rfl
theorem c_leftr (n : Nat) (S : Sto) (v k : Nat) (l : List (Nat × Nat)) (hk : S[k]? = some (.lst (l.map dL))) : callD tb (n + 1) 6 [dN v, .ref k] S = .ok (dN (leftOver v l)) S := by
  rw [run6]
  have hs := srcOk_cell hk
  obtain ⟨ρ', S', h1, w, s1, s2, rfl, rfl, h3⟩ := for_all (C := ⟨tb, false, callD tb n⟩) (t := .t [.v 2, .v 3]) (b := L6_0) (x := .ref k) (S0 := S) (emb := dL) (I := fun r ρ S' => ∃ w s1 s2, ρ = [.val (dN w), .val (.ref k), s1, s2] ∧ S' = S ∧ leftOver w r = leftOver v l) (fun a r ρ S' ⟨w, s1, s2, e1, e2, e3⟩ => by
    subst e1
    subst e2
    by_cases hb : w / 2 ^ a.1 % 2 = 1
    · refine ⟨_, _, by simp_arith only [dL, L6_0, and1, hb, fs_any, guardR_nx _ _ _ _ hs]; rfl, _, _, _, rfl, rfl, ?_⟩
      rw [← e3, leftOver, if_pos hb]
    · refine ⟨_, _, by simp_arith only [dL, L6_0, and1, hb, fs_any, guardR_nx _ _ _ _ hs]; rfl, _, _, _, rfl, rfl, ?_⟩
      rw [← e3, leftOver, if_neg hb]) l _ S ⟨v, .no, .no, rfl, rfl, rfl⟩
  simp_arith only [B6, rt6, h1, look_ref hk]
  rw [← h3]
  rfl
/-! solved_by -/
def dE (e : Ent) : D := .tup [dN e.1, dN e.2.1, dN e.2.2]
theorem l7_0 (C : Ev) (hC : C.hot = false) (S : Sto) (kept : List Ent) (m d : Nat) (x0 x1 x2 x5 x6 x7 x8 x9 : Slot) :
    ∃ s5 s6 s7, forLoop C (.t [.v 5, .v 7, .v 6]) L7_0 (.lst (kept.map dE)) S (kept.map dE) [x0, x1, x2, .val (dN m), .val (dN d), x5, x6, x7, x8, x9] S = .nx [x0, x1, x2, .val (dN (redu (m, d) kept).1), .val (dN (redu (m, d) kept).2), s5, s6, s7, x8, x9] S := by
  obtain ⟨T, h, f0⟩ := C
  cases hC
  obtain ⟨ρ', S', h1, q, s5, s6, s7, rfl, rfl, h3⟩ := for_all (C := ⟨T, false, f0⟩) (t := .t [.v 5, .v 7, .v 6]) (b := L7_0) (x := .lst (kept.map dE)) (S0 := S) (emb := dE)
    (I := fun r ρ S' => ∃ (q : Nat × Nat) (s5 s6 s7 : Slot), ρ = [x0, x1, x2, .val (dN q.1), .val (dN q.2), s5, s6, s7, x8, x9] ∧ S' = S ∧ redu q r = redu (m, d) kept) (fun a r ρ S' ⟨q, s5, s6, s7, e1, e2, e3⟩ => by
    subst e1
    subst e2
    by_cases hb : q.1 / 2 ^ a.1 % 2 = 1
    · refine ⟨_, _, by simp_arith only [dE, L7_0, and1, hb]; rfl, (q.1 ^^^ a.2.1, q.2 ^^^ a.2.2), _, _, _, rfl, rfl, ?_⟩
      rw [← e3, redu, if_pos hb]
    · refine ⟨_, _, by simp_arith only [dE, L7_0, and1, hb]; rfl, q, _, _, _, rfl, rfl, ?_⟩
      rw [← e3, redu, if_neg hb]) kept _ S ⟨(m, d), x5, x6, x7, rfl, rfl, rfl⟩
  refine ⟨s5, s6, s7, ?_⟩
  refine h1.trans ?_
  rw [← h3]
  rfl
theorem l7_1 (C : Ev) (hC : C.hot = false) (S : Sto) (kept : List Ent) (hk : kept.length ≤ 1000) (m d lead : Nat) (x0 x1 x2 x6 x7 x9 : Slot) :
    ∃ s6 s7 s9, forLoop C (.t [.v 9, .v 7, .v 6]) L7_1 (.lst (kept.map dE)) S (kept.map dE) [x0, x1, x2, .val (dN m), .val (dN d), .val (dN lead), x6, x7, .own (.lst []), x9] S = .nx [x0, x1, x2, .val (dN m), .val (dN d), .val (dN lead), s6, s7, .own (.lst ((kept.map (clr lead m d)).map dE)), s9] S := by
  obtain ⟨T, h, f0⟩ := C
  cases hC
  obtain ⟨ρ', S', h1, q, s6, s7, s9, rfl, rfl, h3⟩ := for_all (C := ⟨T, false, f0⟩) (t := .t [.v 9, .v 7, .v 6]) (b := L7_1) (x := .lst (kept.map dE)) (S0 := S) (emb := dE)
    (I := fun r ρ S' => ∃ (q : List Ent) (s6 s7 s9 : Slot), ρ = [x0, x1, x2, .val (dN m), .val (dN d), .val (dN lead), s6, s7, .own (.lst (q.map dE)), s9] ∧ S' = S ∧ q ++ r.map (clr lead m d) = kept.map (clr lead m d)) (fun a r ρ S' ⟨q, s6, s7, s9, e1, e2, e3⟩ => by
    subst e1
    subst e2
    have hl : (q.map dE).length < szB := by
      have := congrArg List.length e3
      simp only [List.length_append, List.length_map, List.length_cons] at this ⊢
      unfold szB
      omega
    by_cases hb : a.2.1 / 2 ^ lead % 2 = 1
    · have hm : (q ++ [clr lead m d a]).map dE = q.map dE ++ [.tup [dN a.1, dN (a.2.1 ^^^ m), dN (a.2.2 ^^^ d)]] := by
        rw [List.map_append, clr, if_pos hb]
        rfl
      refine ⟨_, _, by simp_arith only [dE, L7_1, and1, hb, ap_lst _ _ hl]; rw [← hm], q ++ [clr lead m d a], _, _, _, rfl, rfl, ?_⟩
      rw [← e3, List.map_cons, List.append_assoc]
      rfl
    · have hm : (q ++ [clr lead m d a]).map dE = q.map dE ++ [.tup [dN a.1, dN a.2.1, dN a.2.2]] := by
        rw [List.map_append, clr, if_neg hb]
        rfl
      refine ⟨_, _, by simp_arith only [dE, L7_1, and1, hb, ap_lst _ _ hl]; rw [← hm], q ++ [clr lead m d a], _, _, _, rfl, rfl, ?_⟩
      rw [← e3, List.map_cons, List.append_assoc]
      rfl) kept _ S ⟨[], x6, x7, x9, rfl, rfl, rfl⟩
  refine ⟨s6, s7, s9, ?_⟩
  refine h1.trans ?_
  rw [← h3]
  simp only [List.map_nil, List.append_nil]
theorem put_len (l : List Ent) (eq : Nat × Nat) : (put l eq).length ≤ l.length + 1 := by
  unfold put
  dsimp only
  split
  · omega
  · simp
def Ebd (k : Nat) (l : List Ent) : Prop := ∀ e, e ∈ l → e.1 < k ∧ e.2.1 < 2 ^ k
theorem redu_bd {k : Nat} : ∀ (l : List Ent) (md : Nat × Nat), Ebd k l → md.1 < 2 ^ k → (redu md l).1 < 2 ^ k
  | [], md, _, h => h
  | e :: l, md, hl, h => by
    rw [redu]
    refine redu_bd l _ (fun f hf => hl f (List.mem_cons_of_mem _ hf)) ?_
    split
    · exact Nat.xor_lt_two_pow h (hl e (List.mem_cons_self ..)).2
    · exact h
theorem put_bd {k : Nat} {l : List Ent} {eq : Nat × Nat} (hl : Ebd k l) (h : eq.1 < 2 ^ k) : Ebd k (put l eq) := by
  unfold put
  dsimp only
  split
  · exact hl
  · rename_i hne
    have hr := redu_bd l eq hl h
    have hlog : Nat.log2 (redu eq l).1 < k := (Nat.log2_lt hne).mpr hr
    intro e he
    rcases List.mem_append.mp he with he | he
    · obtain ⟨f, hf, rfl⟩ := List.mem_map.mp he
      unfold clr
      split
      · exact ⟨(hl f hf).1, Nat.xor_lt_two_pow (hl f hf).2 hr⟩
      · exact hl f hf
    · rw [List.mem_singleton.mp he]
      exact ⟨hlog, hr⟩
theorem fold_bd {k : Nat} : ∀ (eqs : List (Nat × Nat)) {l : List Ent}, Ebd k l → (∀ q, q ∈ eqs → q.1 < 2 ^ k) → Ebd k (eqs.foldl put l)
  | [], _, h, _ => h
  | q :: eqs, _, h, hq => fold_bd eqs (put_bd h (hq q (List.mem_cons_self ..))) fun r hr => hq r (List.mem_cons_of_mem _ hr)
theorem bitLen_pos {m : Nat} (h : m ≠ 0) : bitLen m = Nat.log2 m + 1 := by unfold bitLen; rw [if_neg h]
theorem l7_2 (C : Ev) (hC : C.hot = false) (S : Sto) (eqs : List (Nat × Nat)) (he : eqs.length ≤ 900) :
    ∃ s3 s4 s5 s6 s7 s8 s9, forLoop C (.t [.v 3, .v 4]) L7_2 (.lst (eqs.map dL)) S (eqs.map dL) [.val (.lst (eqs.map dL)), .val (.lst []), .no, .no, .no, .no, .no, .no, .no, .no] S = .nx [.val (.lst (eqs.map dL)), .val (.lst ((eqs.foldl put []).map dE)), .no, s3, s4, s5, s6, s7, s8, s9] S := by
  obtain ⟨T, h, f0⟩ := C
  cases hC
  obtain ⟨ρ', S', h1, kept, s3, s4, s5, s6, s7, s8, s9, rfl, rfl, h3, _⟩ := for_all (C := ⟨T, false, f0⟩) (t := .t [.v 3, .v 4]) (b := L7_2) (x := .lst (eqs.map dL)) (S0 := S) (emb := dL)
    (I := fun r ρ S' => ∃ (kept : List Ent) (s3 s4 s5 s6 s7 s8 s9 : Slot), ρ = [.val (.lst (eqs.map dL)), .val (.lst (kept.map dE)), .no, s3, s4, s5, s6, s7, s8, s9] ∧ S' = S ∧ r.foldl put kept = eqs.foldl put [] ∧ kept.length + r.length ≤ eqs.length) (fun a r ρ S' ⟨kept, s3, s4, s5, s6, s7, s8, s9, e1, e2, e3, e4⟩ => by
    subst e1
    subst e2
    rw [List.length_cons] at e4
    obtain ⟨t5, t6, t7, q1⟩ := l7_0 ⟨T, false, f0⟩ rfl S' kept a.1 a.2 (.val (.lst (eqs.map dL))) (.val (.lst (kept.map dE))) .no s5 s6 s7 s8 s9
    by_cases hm : (redu (a.1, a.2) kept).1 = 0
    · refine ⟨_, _, by simp_arith only [dL, L7_2, q1, hm]; rfl, kept, _, _, _, _, _, _, _, rfl, rfl, ?_, by omega⟩
      rw [← e3, List.foldl_cons]
      congr 1
      unfold put
      rw [if_pos hm]
    · obtain ⟨u6, u7, u9, q2⟩ := l7_1 ⟨T, false, f0⟩ rfl S' kept (by omega) (redu (a.1, a.2) kept).1 (redu (a.1, a.2) kept).2 (Nat.log2 (redu (a.1, a.2) kept).1) (.val (.lst (eqs.map dL))) (.val (.lst (kept.map dE))) .no t6 t7 s9
      have hb := bitLen_pos hm
      have hb2 : 1 ≤ Nat.log2 (redu (a.1, a.2) kept).1 + 1 := by omega
      have hp : (put kept a).map dE = (kept.map (clr (Nat.log2 (redu (a.1, a.2) kept).1) (redu (a.1, a.2) kept).1 (redu (a.1, a.2) kept).2)).map dE ++ [.tup [dN (Nat.log2 (redu (a.1, a.2) kept).1), dN (redu (a.1, a.2) kept).1, dN (redu (a.1, a.2) kept).2]] := by
        unfold put
        rw [if_neg hm, List.map_append]
        rfl
      refine ⟨_, _, by simp_arith only [dL, L7_2, q1, hm, hb, hb2, Nat.add_sub_cancel, q2]; rw [bin_lst _ _ (by simp only [List.length_map, List.length_cons, List.length_nil]; unfold szB; omega), ← hp]; simp_arith only [true_and]; rfl, put kept a, _, _, _, _, _, _, _, rfl, rfl, ?_, ?_⟩
      · rw [← e3, List.foldl_cons]
      · have := put_len kept a
        omega) eqs _ S ⟨[], .no, .no, .no, .no, .no, .no, .no, rfl, rfl, rfl, by simp⟩
  refine ⟨s3, s4, s5, s6, s7, s8, s9, ?_⟩
  refine h1.trans ?_
  rw [← h3]
  rfl
theorem c_solved (n : Nat) (S : Sto) (k : Nat) (hk : k ≤ 1000) (eqs : List (Nat × Nat)) (he : eqs.length ≤ 900) (hq : ∀ q, q ∈ eqs → q.1 < 2 ^ k ∧ q.2 < 2) :
    callD tb (n + 1) 7 [.lst (eqs.map dL)] S = .ok (dN (found (eqs.foldl put []))) S := by
  rw [run7]
  obtain ⟨s3, s4, s5, s6, s7, s8, s9, h1⟩ := l7_2 ⟨tb, false, callD tb n⟩ rfl S eqs he
  have hlt := solve_lt eqs (l := []) (fun q h => (hq q h).2) (fun e h => by cases h)
  have hbd := fold_bd eqs (l := []) (k := k) (fun e h => by cases h) (fun q h => (hq q h).1)
  simp_arith only [B7, rt7, h1]
  generalize eqs.foldl put [] = kept at hlt hbd ⊢
  obtain ⟨ρ', S', h2, q, t3, t5, t6, rfl, rfl, h3, _⟩ := for_all (C := ⟨tb, false, callD tb n⟩) (t := .t [.v 5, .v 3, .v 6]) (b := L7_3) (x := .lst (kept.map dE)) (S0 := S) (emb := dE)
    (I := fun r ρ S' => ∃ (q : Nat) (t3 t5 t6 : Slot), ρ = [.val (.lst (eqs.map dL)), .val (.lst (kept.map dE)), .val (dN q), t3, s4, t5, t6, s7, s8, s9] ∧ S' = S ∧ r.foldl (fun a e => a ||| (e.2.2 * 2 ^ e.1)) q = found kept ∧ (∀ e, e ∈ r → e ∈ kept)) (fun a r ρ S' ⟨q, t3, t5, t6, e1, e2, e3, e4⟩ => by
    subst e1
    subst e2
    have ha := e4 a (List.mem_cons_self ..)
    have g1 : a.2.2 < 2 ^ 64 := Nat.lt_trans (hlt a ha) (by decide)
    have g2 : a.1 ≤ 1000000 := by have := (hbd a ha).1; omega
    exact ⟨_, _, by simp_arith only [dE, L7_3, n_shl g1 g2]; rfl, _, _, _, _, rfl, rfl, e3, fun e h => e4 e (List.mem_cons_of_mem _ h)⟩) kept [.val (.lst (eqs.map dL)), .val (.lst (kept.map dE)), .val (dN 0), s3, s4, s5, s6, s7, s8, s9] S ⟨0, s3, s5, s6, rfl, rfl, rfl, fun e h => h⟩
  simp_arith only [h2, rt7]
  rw [← h3]
  rfl
end Wk

set_option maxRecDepth 100000
set_option maxHeartbeats 0
namespace Wk
open PySem PySem.Spec MP PL
open PyProof.Rows hiding St
abbrev Rw := Nat × Pr
def Vr (n : Nat) (r : Rw) : Prop := r.1 < 2 ∧ Bd n r.2
def flds (n : Nat) (rows : List Rw) (k : Nat) : List (Str × D) := [("many", dN n), ("kept", .lst (rows.map dR)), ("leads", .ref k)]
theorem lf_many (n : Nat) (rows : List Rw) (k : Nat) : lookF "many" (flds n rows k) = some (dN n) := rfl
theorem lf_kept (n : Nat) (rows : List Rw) (k : Nat) : lookF "kept" (flds n rows k) = some (.lst (rows.map dR)) := rfl
theorem lf_leads (n : Nat) (rows : List Rw) (k : Nat) : lookF "leads" (flds n rows k) = some (.ref k) := rfl
theorem fd_many (g : Nat → List D → Sto → Res D) (fs : List (Str × D)) (S : Sto) : fldO ⟨tb, false, g⟩ "many" (some (.ins 0 fs)) S = Res.of (lookF "many" fs) S := fldO_ok hf0_many
theorem fd_kept (g : Nat → List D → Sto → Res D) (fs : List (Str × D)) (S : Sto) : fldO ⟨tb, false, g⟩ "kept" (some (.ins 0 fs)) S = Res.of (lookF "kept" fs) S := fldO_ok hf0_kept
theorem fd_leads (g : Nat → List D → Sto → Res D) (fs : List (Str × D)) (S : Sto) : fldO ⟨tb, false, g⟩ "leads" (some (.ins 0 fs)) S = Res.of (lookF "leads" fs) S := fldO_ok hf0_leads
theorem mt_any {m : Str} {f : Nat} {fr : Bool} (h : mfind tb 0 m = some f) (h2 : frs tb f = fr) (h3 : ∀ n rows k, lookF m (flds n rows k) = none) (g : Nat → List D → Sto → Res D) (es : List E) (dd : List D) (i : Nat) (ρ : MP.Frame) (S : Sto) (n : Nat) (rows : List Rw) (k : Nat) :
    methO ⟨tb, false, g⟩ m es dd fr i ρ S (some (.ins 0 (flds n rows k))) = mcK ⟨tb, false, g⟩ f i dd (evEs ⟨tb, false, g⟩ es ρ S) := by
  rw [methO_ins]
  show methG _ _ _ _ _ _ _ _ _ (mfind tb 0 m) = _
  rw [h]
  exact methG_ok (by show (fr && !frs tb f) = false; rw [h2]; cases fr <;> rfl) (h3 _ _ _)
theorem mt_take (g : Nat → List D → Sto → Res D) (es : List E) (dd : List D) (i : Nat) (ρ : MP.Frame) (S : Sto) (n : Nat) (rows : List Rw) (k : Nat) : methO ⟨tb, false, g⟩ "take" es dd false i ρ S (some (.ins 0 (flds n rows k))) = mcK ⟨tb, false, g⟩ 9 i dd (evEs ⟨tb, false, g⟩ es ρ S) := mt_any mf0_take frs9 (fun _ _ _ => rfl) g es dd i ρ S n rows k
theorem mt_wires (g : Nat → List D → Sto → Res D) (es : List E) (dd : List D) (i : Nat) (ρ : MP.Frame) (S : Sto) (n : Nat) (rows : List Rw) (k : Nat) : methO ⟨tb, false, g⟩ "wires" es dd false i ρ S (some (.ins 0 (flds n rows k))) = mcK ⟨tb, false, g⟩ 10 i dd (evEs ⟨tb, false, g⟩ es ρ S) := mt_any mf0_wires frs10 (fun _ _ _ => rfl) g es dd i ρ S n rows k
theorem mt_rows (g : Nat → List D → Sto → Res D) (es : List E) (dd : List D) (i : Nat) (ρ : MP.Frame) (S : Sto) (n : Nat) (rows : List Rw) (k : Nat) : methO ⟨tb, false, g⟩ "rows" es dd true i ρ S (some (.ins 0 (flds n rows k))) = mcK ⟨tb, false, g⟩ 11 i dd (evEs ⟨tb, false, g⟩ es ρ S) := mt_any mf0_rows frs11 (fun _ _ _ => rfl) g es dd i ρ S n rows k
theorem mt_signs (g : Nat → List D → Sto → Res D) (es : List E) (dd : List D) (i : Nat) (ρ : MP.Frame) (S : Sto) (n : Nat) (rows : List Rw) (k : Nat) : methO ⟨tb, false, g⟩ "signs" es dd true i ρ S (some (.ins 0 (flds n rows k))) = mcK ⟨tb, false, g⟩ 12 i dd (evEs ⟨tb, false, g⟩ es ρ S) := mt_any mf0_signs frs12 (fun _ _ _ => rfl) g es dd i ρ S n rows k
theorem mt_harmless (g : Nat → List D → Sto → Res D) (es : List E) (dd : List D) (i : Nat) (ρ : MP.Frame) (S : Sto) (n : Nat) (rows : List Rw) (k : Nat) : methO ⟨tb, false, g⟩ "harmless" es dd false i ρ S (some (.ins 0 (flds n rows k))) = mcK ⟨tb, false, g⟩ 13 i dd (evEs ⟨tb, false, g⟩ es ρ S) := mt_any mf0_harmless frs13 (fun _ _ _ => rfl) g es dd i ρ S n rows k
theorem mt_wrongs (g : Nat → List D → Sto → Res D) (es : List E) (dd : List D) (i : Nat) (ρ : MP.Frame) (S : Sto) (n : Nat) (rows : List Rw) (k : Nat) : methO ⟨tb, false, g⟩ "wrongs" es dd false i ρ S (some (.ins 0 (flds n rows k))) = mcK ⟨tb, false, g⟩ 14 i dd (evEs ⟨tb, false, g⟩ es ρ S) := mt_any mf0_wrongs frs14 (fun _ _ _ => rfl) g es dd i ρ S n rows k
theorem mt_parting (g : Nat → List D → Sto → Res D) (es : List E) (dd : List D) (i : Nat) (ρ : MP.Frame) (S : Sto) (n : Nat) (rows : List Rw) (k : Nat) : methO ⟨tb, false, g⟩ "parting_wrongs" es dd false i ρ S (some (.ins 0 (flds n rows k))) = mcK ⟨tb, false, g⟩ 15 i dd (evEs ⟨tb, false, g⟩ es ρ S) := mt_any mf0_parting_wrongs frs15 (fun _ _ _ => rfl) g es dd i ρ S n rows k
theorem mt_shower (g : Nat → List D → Sto → Res D) (es : List E) (dd : List D) (i : Nat) (ρ : MP.Frame) (S : Sto) (n : Nat) (rows : List Rw) (k : Nat) : methO ⟨tb, false, g⟩ "shower" es dd false i ρ S (some (.ins 0 (flds n rows k))) = mcK ⟨tb, false, g⟩ 16 i dd (evEs ⟨tb, false, g⟩ es ρ S) := mt_any mf0_shower frs16 (fun _ _ _ => rfl) g es dd i ρ S n rows k
theorem mt_guess (g : Nat → List D → Sto → Res D) (es : List E) (dd : List D) (i : Nat) (ρ : MP.Frame) (S : Sto) (n : Nat) (rows : List Rw) (k : Nat) : methO ⟨tb, false, g⟩ "guess" es dd false i ρ S (some (.ins 0 (flds n rows k))) = mcK ⟨tb, false, g⟩ 17 i dd (evEs ⟨tb, false, g⟩ es ρ S) := mt_any mf0_guess frs17 (fun _ _ _ => rfl) g es dd i ρ S n rows k
theorem p64 {n x : Nat} (hn : n ≤ 9) (h : x < 2 ^ n) : x < 2 ^ 64 := Nat.lt_of_lt_of_le h (Nat.pow_le_pow_right (by omega) (by omega))
/-- a code -/
structure Kod (S : Sto) (j k n : Nat) (rows : List Rw) (leads : List (Nat × Nat)) : Prop where
  o : S[j]? = some (.ins 0 (flds n rows k))
  l : S[k]? = some (.lst (leads.map dL))
  n9 : n ≤ 9
  n0 : 1 ≤ n
  v : ∀ r, r ∈ rows → Vr n r
  rl : rows.length ≤ 9
  ec : Ech leads
  sp : ∀ v, InS (leads.map (·.2)) v ↔ InS (rows.map (fun r => num n r.2)) v
theorem c_wires (d : Nat) {S : Sto} {j k n : Nat} {rows : List Rw} {leads : List (Nat × Nat)} (K : Kod S j k n rows leads) : callD tb (d + 1) 10 [.ref j] S = .ok (dN n) S := by
  rw [run10]
  simp_arith only [B10, rt10, K.o, fd_many, lf_many]
theorem c_rows (d : Nat) {S : Sto} {j k n : Nat} {rows : List Rw} {leads : List (Nat × Nat)} (K : Kod S j k n rows leads) : callD tb (d + 1) 11 [.ref j] S = .ok (.lst (rows.map dR)) S := by
  rw [run11]
  simp_arith only [B11, rt11, K.o, fd_kept, lf_kept]
def sgn (rows : List Rw) (w : Pr) : List Nat := rows.map fun r => (!bes w r.2).toNat
theorem sgn_map (rows : List Rw) (w : Pr) : (sgn rows w).map dN = rows.map fun r => dN (!bes w r.2).toNat := by unfold sgn; rw [List.map_map]; rfl
theorem c_signs (d : Nat) {S : Sto} {j k n : Nat} {rows : List Rw} {leads : List (Nat × Nat)} (K : Kod S j k n rows leads) (m : D) (x z : Nat) (hx : x < 2 ^ 64) : callD tb (d + 3) 12 [.ref j, .tup [m, dN x, dN z]] S = .ok (.lst ((sgn rows (x, z)).map dN)) S := by
  rw [run12]
  have hl : (rows.map dR).length ≤ szB := by have := K.rl; rw [List.length_map]; unfold szB; omega
  have hc : compLoop ⟨tb, false, callD tb (d + 2)⟩ K12_0 (.v 2) [2] [] [.val (.ref j), .val (.tup [m, dN x, dN z]), .no] (.lst (rows.map dR)) S (rows.map dR) S = .ok (rows.map fun r => dN (!bes (x, z) r.2).toNat) S := comp_map fun r hr => by
    have hv := p64 K.n9 (K.v r hr).2.1
    simp_arith only [K12_0, dR, c_beside d S m _ x z r.2.1 r.2.2 hx hv]
  simp_arith only [B12, rt12, K.o, fd_kept, lf_kept, hl, hc, sgn_map]
theorem c_harmless (d : Nat) {S : Sto} {j k n : Nat} {rows : List Rw} {leads : List (Nat × Nat)} (K : Kod S j k n rows leads) (m : D) (x z : Nat) (hz : z < 2 ^ 64) : callD tb (d + 2) 13 [.ref j, .tup [m, dN x, dN z]] S = .ok (.bl (decide (leftOver (num n (x, z)) leads = 0))) S := by
  rw [run13]
  have hn := K.n9
  have hn2 : n ≤ 1000 := by omega
  simp_arith only [B13, rt13, K.o, fd_many, lf_many, fd_leads, lf_leads, c_letter d S m x z n hn2 hz, c_leftr d S _ k leads K.l]
  rfl
theorem harmless_iff {S : Sto} {j k n : Nat} {rows : List Rw} {leads : List (Nat × Nat)} (K : Kod S j k n rows leads) {w : Pr} (hw : Bd n w) : leftOver (num n w) leads = 0 ↔ w ∈ made (rows.map (·.2)) := by
  rw [leftOver_zero K.ec, K.sp, mem_made, ← inP_num (n := n) (fun r hr => by
    obtain ⟨q, hq, rfl⟩ := List.mem_map.mp hr
    exact (K.v q hq).2) hw, List.map_map]
  rfl
theorem c_shower (d : Nat) {S : Sto} {j k n : Nat} {rows : List Rw} {leads : List (Nat × Nat)} (K : Kod S j k n rows leads) (m : D) (x z : Nat) (hx : x < 2 ^ n) (hz : z < 2 ^ n) :
    callD tb (d + 2) 16 [.ref j, .tup [m, dN x, dN z]] S = .ok (.tup [dN 0, dN (found (((rows.map fun r : Rw => (mir n r.2, 0)) ++ [(mir n (x, z), 1)]).foldl put []) &&& (2 ^ n - 1)), dN (found (((rows.map fun r : Rw => (mir n r.2, 0)) ++ [(mir n (x, z), 1)]).foldl put []) / 2 ^ n)]) S := by
  rw [run16]
  have hn := K.n9
  have hn2 : n ≤ 1000 := by omega
  have hn3 : n ≤ 1000000 := by omega
  have hl : (rows.map dR).length ≤ szB := by have := K.rl; rw [List.length_map]; unfold szB; omega
  have hc : compLoop ⟨tb, false, callD tb (d + 1)⟩ K16_0 (.v 4) [4] [] [.val (.ref j), .val (.tup [m, dN x, dN z]), .no, .no, .no] (.lst (rows.map dR)) S (rows.map dR) S = .ok (rows.map fun r => dL (mir n r.2, 0)) S := comp_map fun r hr => by
    have hv := p64 K.n9 (K.v r hr).2.1
    simp_arith only [K16_0, dR, K.o, fd_many, lf_many, c_mirror d S _ r.2.1 r.2.2 n hn2 hv]
    rfl
  have hm : (rows.map fun r => dL (mir n r.2, 0)) ++ [.tup [dN (mir n (x, z)), dN 1]] = ((rows.map fun r : Rw => (mir n r.2, 0)) ++ [(mir n (x, z), 1)]).map dL := by
    rw [List.map_append, List.map_map]
    rfl
  have hb : ∀ p : Pr, Bd n p → mir n p < 2 ^ (2 * n) := fun p hp => by
    unfold mir join
    rw [show 2 * n = n + n by omega, Nat.pow_add]
    refine Nat.or_lt_two_pow (n := n + n) (by rw [Nat.pow_add]; exact Nat.lt_of_lt_of_le hp.2 (Nat.le_mul_of_pos_left _ (Nat.pow_pos (by omega)))) ?_ |> fun h => by rwa [Nat.pow_add] at h
    rw [Nat.pow_add]
    exact Nat.mul_lt_mul_of_pos_right hp.1 (Nat.pow_pos (by omega))
  have hs := c_solved d S (2 * n) (by omega) ((rows.map fun r : Rw => (mir n r.2, 0)) ++ [(mir n (x, z), 1)]) (by have := K.rl; simp; omega) (fun q hq => by
    rcases List.mem_append.mp hq with hq | hq
    · obtain ⟨r, hr, rfl⟩ := List.mem_map.mp hq
      exact ⟨hb _ (K.v r hr).2, by omega⟩
    · rw [List.mem_singleton.mp hq]
      exact ⟨hb (x, z) ⟨hx, hz⟩, by omega⟩)
  have hmir : join n z x = mir n (x, z) := rfl
  have h1 : 1 ≤ 2 ^ n := Nat.one_le_two_pow
  have hx64 := p64 hn hx
  simp_arith only [B16, rt16, K.o, fd_many, lf_many, fd_kept, lf_kept, hl, hc, c_mirror d S _ x z n hn2 hx64, hmir]
  rw [bin_lst _ _ (by simp only [List.length_map, List.length_cons, List.length_nil]; have := K.rl; unfold szB; omega), hm]
  simp_arith only [hs, K.o, fd_many, lf_many, hn3, h1, rt16]
end Wk

set_option maxRecDepth 100000
set_option maxHeartbeats 0
namespace Wk
open PySem PySem.Spec MP PL
open PyProof.Rows hiding St
theorem c_take (d : Nat) {S : Sto} {j k n : Nat} {rows : List Rw} {leads : List (Nat × Nat)} (o : S[j]? = some (.ins 0 (flds n rows k))) (hk : S[k]? = some (.lst (leads.map dL))) (hn : n ≤ 9) (r : Rw) (hr : Vr n r) (ahead : List Rw)
    (ha : ∀ q, q ∈ ahead → Vr n q ∧ bes r.2 q.2 = true) (hl : ahead.length ≤ 9) (hll : leads.length ≤ 9) (hne : leftOver (num n r.2) leads ≠ 0) :
    callD tb (d + 3) 9 [.ref j, dR r, .lst (ahead.map dR)] S = .ok .non (S.set k (.lst ((leads ++ [(Nat.log2 (leftOver (num n r.2) leads), leftOver (num n r.2) leads)]).map dL))) := by
  rw [run9]
  have hal : (ahead.map dR).length ≤ szB := by rw [List.length_map]; unfold szB; omega
  have hc : compLoop ⟨tb, false, callD tb (d + 2)⟩ K9_0 (.v 4) [4] [] [.val (.ref j), .val (dR r), .val (.lst (ahead.map dR)), .no, .no] (.lst (ahead.map dR)) S (ahead.map dR) S = .ok (ahead.map fun q => .bl (bes r.2 q.2)) S := comp_map fun q hq => by
    simp_arith only [K9_0, dR, c_beside d S _ _ r.2.1 r.2.2 q.2.1 q.2.2 (p64 hn hr.2.1) (p64 hn (ha q hq).1.2.1)]
  have hall : (ahead.all fun q => bes r.2 q.2) = true := List.all_eq_true.mpr fun q hq => (ha q hq).2
  have h1 := c_checked d S r.1 r.2.1 r.2.2 n hr.1 hr.2.1 hr.2.2 (by omega)
  have h2 := fun S => c_letter (d + 1) S (dN r.1) r.2.1 r.2.2 n (by omega) (p64 hn hr.2.2)
  have h3 := c_leftr (d + 1) S (join n r.2.1 r.2.2) k leads hk
  have hv : leftOver (join n r.2.1 r.2.2) leads ≠ 0 := hne
  have hb := bitLen_pos hv
  have hb2 : 1 ≤ Nat.log2 (leftOver (join n r.2.1 r.2.2) leads) + 1 := by omega
  have hap : (leads.map dL).length < szB := by rw [List.length_map]; unfold szB; omega
  have hm : leads.map dL ++ [.tup [dN (Nat.log2 (leftOver (join n r.2.1 r.2.2) leads)), dN (leftOver (join n r.2.1 r.2.2) leads)]] = (leads ++ [(Nat.log2 (leftOver (join n r.2.1 r.2.2) leads), leftOver (join n r.2.1 r.2.2) leads)]).map dL := by
    rw [List.map_append]
    rfl
  have hd : dR r = .tup [dN r.1, dN r.2.1, dN r.2.2] := rfl
  rw [hd] at hc ⊢
  simp_arith only [B9, rt9, o, fd_many, lf_many, fd_leads, lf_leads, h1, h2, h3, hal, hc, all_map, hall, hv, hb, hb2, Nat.add_sub_cancel, look_ref hk, ap_lst _ _ hap, hm]
  rfl
theorem fs_put {f : Str} (h : hasFd tb 0 f = true) (g : Nat → List D → Sto → Res D) (d : D) (ρ : MP.Frame) (i : Nat) (S : Sto) (fs : List (Str × D)) (hl : fs.length < 1000) : fldS ⟨tb, false, g⟩ f d ρ i S (some (.ins 0 fs)) = .nx ρ (S.set i (.ins 0 (putFd f d fs))) := by
  rw [fldS_ins]
  show (bif decide (fs.length < 1000) && hasFd tb 0 f then _ else _) = _
  rw [h, decide_eq_true hl]
  rfl
theorem pf1 (a : D) : putFd "many" a [] = [(("many" : Str), a)] := rfl
theorem pf2 (a b : D) : putFd "kept" b [(("many" : Str), a)] = [(("many" : Str), a), ("kept", b)] := rfl
theorem pf3 (a b c : D) : putFd "leads" c [(("many" : Str), a), ("kept", b)] = [(("many" : Str), a), ("kept", b), ("leads", c)] := rfl
/-- the rows go beside one another, none is of the letters of those ahead -/
structure Rws (n : Nat) (rows : List Rw) : Prop where
  v : ∀ r, r ∈ rows → Vr n r
  b : ∀ (done : List Rw) (r : Rw) (rest : List Rw), rows = done ++ r :: rest → ∀ q, q ∈ done → bes r.2 q.2 = true
  i : ∀ (done : List Rw) (r : Rw) (rest : List Rw), rows = done ++ r :: rest → ¬ InP (done.map (·.2)) r.2
theorem c_init (d : Nat) {S : Sto} {j n : Nat} {rows : List Rw} (hj : S[j]? = some (.ins 0 [])) (hn0 : 1 ≤ n) (hn : n ≤ 9) (hr : Rws n rows) (hl : rows.length ≤ 9) :
    ∃ leads, callD tb (d + 4) 8 [.ref j, dN n, .lst (rows.map dR)] S = .ok .non (S.set j (.ins 0 (flds n rows S.length)) ++ [.lst (leads.map dL)]) ∧ Ech leads ∧ (∀ v, InS (leads.map (·.2)) v ↔ InS (rows.map (fun r => num n r.2)) v) := by
  have hjl : j < S.length := (List.getElem?_eq_some_iff.mp hj).1
  have g1 : ∀ A, (S.set j A)[j]? = some A := fun A => by rw [List.getElem?_set_self hjl]
  have g2 : ∀ A c, (S.set j A ++ [c])[j]? = some A := fun A c => by rw [List.getElem?_append_left (by simpa using hjl), g1]
  have g3 : ∀ A B c, (S.set j A ++ [c]).set j B = S.set j B ++ [c] := fun A B c => by rw [List.set_append_left _ _ (by simpa using hjl), List.set_set]
  have g4 : ∀ A c, (S.set j A ++ [c])[S.length]? = some c := fun A c => by rw [List.getElem?_append_right (by simp)]; simp
  have g5 : ∀ A c B, (S.set j A ++ [c]).set S.length B = S.set j A ++ [B] := fun A c B => by rw [List.set_append_right _ _ (by simp)]; simp
  obtain ⟨ρ', S', h1, leads, done, s3, s4, rfl, rfl, h3, h4, h5, _⟩ := for_all (C := ⟨tb, false, callD tb (d + 3)⟩) (t := .t [.v 3, .v 4]) (b := L8_0) (x := .lst ((rows.zipIdx 0).map fun p => .tup [dN p.2, dR p.1])) (S0 := S.set j (.ins 0 (flds n rows S.length)) ++ [.lst []]) (emb := fun p : Rw × Nat => .tup [dN p.2, dR p.1])
    (I := fun r ρ S' => ∃ (leads : List (Nat × Nat)) (done : List Rw) (s3 s4 : Slot), ρ = [.val (.ref j), .val (dN n), .val (.lst (rows.map dR)), s3, s4] ∧ S' = S.set j (.ins 0 (flds n rows S.length)) ++ [.lst (leads.map dL)] ∧ (∃ rest, rows = done ++ rest ∧ r = rest.zipIdx done.length) ∧ Ech leads ∧ (∀ v, InS (leads.map (·.2)) v ↔ InS (done.map (fun r => num n r.2)) v) ∧ leads.length = done.length) (fun a r ρ S' ⟨leads, done, s3, s4, e1, e2, ⟨rest, e3, e4⟩, e5, e6, e7⟩ => by
    subst e1
    subst e2
    cases rest with
    | nil => cases e4
    | cons r0 rest =>
      rw [List.zipIdx_cons] at e4
      injection e4 with e8 e9
      subst e8
      have hv := hr.v
      have hr0 : r0 ∈ rows := by rw [e3]; exact List.mem_append_right _ (List.mem_cons_self ..)
      have hdl : done.length + rest.length + 1 = rows.length := by rw [e3]; simp; omega
      have hdv : ∀ q, q ∈ done → Vr n q := fun q hq => hv q (by rw [e3]; exact List.mem_append_left _ hq)
      have hlne : leftOver (num n r0.2) leads ≠ 0 := fun e => by
        rw [leftOver_zero e5, e6] at e
        refine hr.i done r0 rest e3 ((inP_num (n := n) (fun r hr => ?_) (hv r0 hr0).2).mp ?_)
        · obtain ⟨q, hq, rfl⟩ := List.mem_map.mp hr
          exact (hdv q hq).2
        · rw [List.map_map]
          exact e
      have ht := c_take d (S := S.set j (.ins 0 (flds n rows S.length)) ++ [.lst (leads.map dL)]) (g2 _ _) (g4 _ _) hn r0 (hv r0 hr0) done (fun q hq => ⟨hdv q hq, hr.b done r0 rest e3 q hq⟩) (by omega) (by omega) hlne
      rw [g5] at ht
      have htk : (rows.map dR).take done.length = done.map dR := by rw [e3, List.map_append, List.take_left' (by simp)]
      obtain ⟨k1, k2⟩ := lead_step e5 e6 hlne
      refine ⟨_, _, by simp_arith only [L8_0, g2, fd_kept, lf_kept, mt_take, htk, ht]; rfl, _, done ++ [r0], _, _, rfl, rfl, ⟨rest, by rw [e3]; simp, by rw [e9]; simp⟩, k1, fun v => by rw [k2, List.map_append]; rfl, by simp [e7]⟩) (rows.zipIdx 0) [.val (.ref j), .val (dN n), .val (.lst (rows.map dR)), .no, .no] (S.set j (.ins 0 (flds n rows S.length)) ++ [.lst []]) ⟨[], [], .no, .no, rfl, rfl, ⟨rows, rfl, rfl⟩, trivial, fun v => Iff.rfl, rfl⟩
  obtain ⟨rest, h6, h7⟩ := h3
  have hd : done = rows := by
    cases rest with
    | nil => rw [h6, List.append_nil]
    | cons a l => rw [List.zipIdx_cons] at h7; cases h7
  subst hd
  refine ⟨leads, ?_, h4, h5⟩
  rw [run8]
  have hn1 : n ≤ 9 := hn
  have a1 := fs_put hf0_many (callD tb (d + 3))
  have a2 := fs_put hf0_kept (callD tb (d + 3))
  have a3 := fs_put hf0_leads (callD tb (d + 3))
  have hfl : ∀ (rows : List Rw) k, [(("many" : Str), dN n), ("kept", .lst (rows.map dR)), ("leads", .ref k)] = flds n rows k := fun _ _ => rfl
  simp_arith only [B8, rt8, hn0, hn1, hj, a1, pf1, g1, a2, pf2, List.set_set, List.length_set, g2, a3, pf3, g3, hfl, fd_kept, lf_kept, enum_map, h1]
end Wk

set_option maxRecDepth 100000
set_option maxHeartbeats 0
namespace Wk
open PySem PySem.Spec MP PL
open PyProof.Rows hiding St
/-! wrongs -/
def three (x z b : Nat) : List Rw := [(0, (x ||| b, z)), (0, (x, z ||| b)), (0, (x ||| b, z ||| b))]
def kidsF (i m x z : Nat) : List Rw := (List.range m).flatMap fun k => three x z (2 ^ (i + k))
def kids (n : Nat) (r : Rw) : List Rw := kidsF (bitLen (r.2.1 ||| r.2.2)) (n - bitLen (r.2.1 ||| r.2.2)) r.2.1 r.2.2
def layer (n : Nat) : Nat → List Rw
  | 0 => [(0, (0, 0))]
  | t + 1 => (layer n t).flatMap (kids n)
def wrs (n : Nat) : Nat → List Rw
  | 0 => [(0, (0, 0))]
  | t + 1 => wrs n t ++ layer n (t + 1)
theorem flat_len {α β : Type} (f : α → List β) (m : Nat) : ∀ (l : List α), (∀ a, a ∈ l → (f a).length ≤ m) → (l.flatMap f).length ≤ m * l.length
  | [], _ => by simp
  | a :: l, h => by
    have h1 := h a (List.mem_cons_self ..)
    have h2 := flat_len f m l fun b hb => h b (List.mem_cons_of_mem _ hb)
    rw [List.flatMap_cons, List.length_append, List.length_cons, Nat.mul_add]
    omega
theorem kidsF_len (i m x z : Nat) : (kidsF i m x z).length ≤ 3 * m := by
  have := flat_len (fun k => three x z (2 ^ (i + k))) 3 (List.range m) fun _ _ => Nat.le_refl _
  rwa [List.length_range] at this
theorem kids_len {n : Nat} (hn : n ≤ 9) (r : Rw) : (kids n r).length ≤ 27 := by
  have := kidsF_len (bitLen (r.2.1 ||| r.2.2)) (n - bitLen (r.2.1 ||| r.2.2)) r.2.1 r.2.2
  unfold kids
  omega
theorem layer_len {n : Nat} (hn : n ≤ 9) : ∀ t, (layer n t).length ≤ 27 ^ t
  | 0 => Nat.le_refl _
  | t + 1 => by
    have h1 := layer_len hn t
    have h2 := flat_len (kids n) 27 (layer n t) fun a _ => kids_len hn a
    show ((layer n t).flatMap (kids n)).length ≤ _
    rw [Nat.pow_succ]
    omega
theorem wrs_len {n : Nat} (hn : n ≤ 9) : ∀ t, t ≤ 2 → (wrs n t).length ≤ 1000
  | 0, _ => by show 1 ≤ 1000; omega
  | 1, _ => by
    have := layer_len hn 1
    show (wrs n 0 ++ layer n 1).length ≤ 1000
    rw [List.length_append]
    have : (wrs n 0).length = 1 := rfl
    omega
  | 2, _ => by
    have h1 := layer_len hn 1
    have h2 := layer_len hn 2
    show ((wrs n 0 ++ layer n 1) ++ layer n 2).length ≤ 1000
    rw [List.length_append, List.length_append]
    have : (wrs n 0).length = 1 := rfl
    omega
  | n + 3, h => by omega
theorem l14_0 (g : Nat → List D → Sto → Res D) (S : Sto) (i m x z : Nat) (him : i + m ≤ 9) (q : List Rw) (hq : q.length ≤ 100000) (x0 x1 x2 x3 x4 x6 x9 x10 : Slot) :
    ∃ s9 s10, forLoop ⟨tb, false, g⟩ (.v 9) L14_0 (.lst ((List.range m).map fun k => dN (i + k))) S ((List.range m).map fun k => dN (i + k)) [x0, x1, x2, x3, x4, .own (.lst (q.map dR)), x6, .val (dN x), .val (dN z), x9, x10] S = .nx [x0, x1, x2, x3, x4, .own (.lst ((q ++ kidsF i m x z).map dR)), x6, .val (dN x), .val (dN z), s9, s10] S := by
  obtain ⟨ρ', S', h1, p, s9, s10, rfl, rfl, h3, _⟩ := for_all (C := ⟨tb, false, g⟩) (t := .v 9) (b := L14_0) (x := .lst ((List.range m).map fun k => dN (i + k))) (S0 := S) (emb := fun k => dN (i + k))
    (I := fun r ρ S' => ∃ (p : List Rw) (s9 s10 : Slot), ρ = [x0, x1, x2, x3, x4, .own (.lst (p.map dR)), x6, .val (dN x), .val (dN z), s9, s10] ∧ S' = S ∧ p ++ r.flatMap (fun k => three x z (2 ^ (i + k))) = q ++ kidsF i m x z ∧ (∀ k, k ∈ r → k < m)) (fun a r ρ S' ⟨p, s9, s10, e1, e2, e3, e4⟩ => by
    subst e1
    subst e2
    have ha := e4 a (List.mem_cons_self ..)
    have hl := congrArg List.length e3
    have hk := kidsF_len i m x z
    simp only [List.length_append, List.flatMap_cons] at hl
    have hb : i + a ≤ 1000000 := by omega
    have h3 : (three x z (2 ^ (i + a))).length = 3 := rfl
    have hx := xt_lst (p.map dR) ((three x z (2 ^ (i + a))).map dR) (by rw [List.length_map, List.length_map]; unfold szB; omega)
    have hm : (p.map dR ++ (three x z (2 ^ (i + a))).map dR) = (p ++ three x z (2 ^ (i + a))).map dR := by rw [List.map_append]
    rw [hm] at hx
    have ht : [D.tup [dN 0, dN (x ||| 2 ^ (i + a)), dN z], .tup [dN 0, dN x, dN (z ||| 2 ^ (i + a))], .tup [dN 0, dN (x ||| 2 ^ (i + a)), dN (z ||| 2 ^ (i + a))]] = (three x z (2 ^ (i + a))).map dR := rfl
    rw [← ht] at hx
    refine ⟨_, _, by simp_arith only [L14_0, hb, hx]; rfl, _, _, _, rfl, rfl, ?_, fun k hk => e4 k (List.mem_cons_of_mem _ hk)⟩
    rw [← e3, List.flatMap_cons, List.append_assoc]) (List.range m) _ S ⟨q, x9, x10, rfl, rfl, rfl, fun k hk => List.mem_range.mp hk⟩
  refine ⟨s9, s10, h1.trans ?_⟩
  rw [← h3, List.flatMap_nil, List.append_nil]
/-- letters below 2^n -/
theorem three_bd {n x z b : Nat} (hx : x < 2 ^ n) (hz : z < 2 ^ n) (hb : b < 2 ^ n) : ∀ r, r ∈ three x z b → Vr n r := by
  intro r hr
  have h1 : x ||| b < 2 ^ n := Nat.or_lt_two_pow hx hb
  have h2 : z ||| b < 2 ^ n := Nat.or_lt_two_pow hz hb
  simp only [three, List.mem_cons, List.not_mem_nil, or_false] at hr
  rcases hr with rfl | rfl | rfl
  · exact ⟨Nat.zero_lt_two, h1, hz⟩
  · exact ⟨Nat.zero_lt_two, hx, h2⟩
  · exact ⟨Nat.zero_lt_two, h1, h2⟩
theorem bitLen_le {n x : Nat} (h : x < 2 ^ n) : bitLen x ≤ n := by
  unfold bitLen
  split
  · omega
  · rename_i h0
    have := (Nat.log2_lt h0).mpr h
    omega
theorem kids_bd {n : Nat} {r : Rw} (hr : Vr n r) : ∀ q, q ∈ kids n r → Vr n q := by
  intro q hq
  unfold kids kidsF at hq
  obtain ⟨k, hk, hq⟩ := List.mem_flatMap.mp hq
  have hk := List.mem_range.mp hk
  exact three_bd hr.2.1 hr.2.2 (Nat.pow_lt_pow_right (by omega) (by omega)) q hq
theorem layer_bd {n : Nat} : ∀ t r, r ∈ layer n t → Vr n r
  | 0, r, h => by
    rw [List.mem_singleton.mp h]
    exact ⟨by decide, Nat.pow_pos (by omega), Nat.pow_pos (by omega)⟩
  | t + 1, r, h => by
    obtain ⟨q, hq, h⟩ := List.mem_flatMap.mp h
    exact kids_bd (layer_bd t q hq) r h
theorem wrs_bd {n : Nat} : ∀ t r, r ∈ wrs n t → Vr n r
  | 0, r, h => layer_bd 0 r h
  | t + 1, r, h => by
    rcases List.mem_append.mp h with h | h
    · exact wrs_bd t r h
    · exact layer_bd (t + 1) r h
theorem l14_1 (g : Nat → List D → Sto → Res D) {S : Sto} {j k n : Nat} {rows : List Rw} {leads : List (Nat × Nat)} (K : Kod S j k n rows leads) (heavy : List Rw) (hh : heavy.length ≤ 1000) (hv : ∀ r, r ∈ heavy → Vr n r) (x1 x2 x3 x4 x6 x7 x8 x9 x10 : Slot) :
    ∃ s6 s7 s8 s9 s10, forLoop ⟨tb, false, g⟩ (.t [.v 6, .v 7, .v 8]) L14_1 (.lst (heavy.map dR)) S (heavy.map dR) [.val (.ref j), x1, x2, x3, x4, .own (.lst []), x6, x7, x8, x9, x10] S = .nx [.val (.ref j), x1, x2, x3, x4, .own (.lst ((heavy.flatMap (kids n)).map dR)), s6, s7, s8, s9, s10] S := by
  obtain ⟨ρ', S', h1, p, s6, s7, s8, s9, s10, rfl, rfl, h3, _⟩ := for_all (C := ⟨tb, false, g⟩) (t := .t [.v 6, .v 7, .v 8]) (b := L14_1) (x := .lst (heavy.map dR)) (S0 := S) (emb := dR)
    (I := fun r ρ S' => ∃ (p : List Rw) (s6 s7 s8 s9 s10 : Slot), ρ = [.val (.ref j), x1, x2, x3, x4, .own (.lst (p.map dR)), s6, s7, s8, s9, s10] ∧ S' = S ∧ p ++ r.flatMap (kids n) = heavy.flatMap (kids n) ∧ (∀ q, q ∈ r → q ∈ heavy)) (fun a r ρ S' ⟨p, s6, s7, s8, s9, s10, e1, e2, e3, e4⟩ => by
    subst e1
    subst e2
    have ha := hv a (e4 a (List.mem_cons_self ..))
    have hn := K.n9
    have hbl : bitLen (a.2.1 ||| a.2.2) ≤ n := bitLen_le (Nat.or_lt_two_pow ha.2.1 ha.2.2)
    have hl := congrArg List.length e3
    have hk := flat_len (kids n) 27 heavy fun b _ => kids_len hn b
    simp only [List.length_append, List.flatMap_cons] at hl
    obtain ⟨t9, t10, q1⟩ := l14_0 g S' (bitLen (a.2.1 ||| a.2.2)) (n - bitLen (a.2.1 ||| a.2.2)) a.2.1 a.2.2 (by omega) p (by omega) (.val (.ref j)) x1 x2 x3 x4 (.val (dN a.1)) s9 s10
    have hr := n_rng2 (i := bitLen (a.2.1 ||| a.2.2)) (j := n) (by omega) (by omega)
    refine ⟨_, _, by simp_arith only [dR, L14_1, K.o, fd_many, lf_many, hr, q1]; rfl, p ++ kids n a, _, _, _, _, _, rfl, rfl, ?_, fun q hq => e4 q (List.mem_cons_of_mem _ hq)⟩
    rw [← e3, List.flatMap_cons, List.append_assoc]) heavy _ S ⟨[], x6, x7, x8, x9, x10, rfl, rfl, rfl, fun q hq => hq⟩
  refine ⟨s6, s7, s8, s9, s10, h1.trans ?_⟩
  rw [← h3, List.flatMap_nil, List.append_nil]
theorem c_wrongs (d : Nat) {S : Sto} {j k n : Nat} {rows : List Rw} {leads : List (Nat × Nat)} (K : Kod S j k n rows leads) (many : Nat) (hm : many ≤ 2) : callD tb (d + 1) 14 [.ref j, dN many] S = .ok (.lst ((wrs n (min many n)).map dR)) S := by
  have hn := K.n9
  rw [run14]
  obtain ⟨ρ', S', h1, t, s4, s5, s6, s7, s8, s9, s10, rfl, rfl, h3, h4⟩ := for_all (C := ⟨tb, false, callD tb d⟩) (t := .v 4) (b := L14_2) (x := .lst ((List.range (min many n)).map dN)) (S0 := S) (emb := dN)
    (I := fun r ρ S' => ∃ (t : Nat) (s4 s5 s6 s7 s8 s9 s10 : Slot), ρ = [.val (.ref j), .val (dN many), .own (.lst ((wrs n t).map dR)), .val (.lst ((layer n t).map dR)), s4, s5, s6, s7, s8, s9, s10] ∧ S' = S ∧ t + r.length = min many n ∧ t ≤ min many n) (fun a r ρ S' ⟨t, s4, s5, s6, s7, s8, s9, s10, e1, e2, e3, e4⟩ => by
    subst e1
    subst e2
    rw [List.length_cons] at e3
    have ht : t ≤ 1 := by omega
    have hll : (layer n t).length ≤ 1000 := Nat.le_trans (layer_len hn t) (Nat.le_trans (Nat.pow_le_pow_right (by omega) ht) (by decide))
    obtain ⟨t6, t7, t8, t9, t10, q1⟩ := l14_1 (callD tb d) K (layer n t) hll (layer_bd t) (.val (dN many)) (.own (.lst ((wrs n t).map dR))) (.val (.lst ((layer n t).map dR))) (.val (dN a)) s6 s7 s8 s9 s10
    have hw := wrs_len hn t (by omega)
    have hw2 := wrs_len hn (t + 1) (by omega)
    have hx := xt_lst ((wrs n t).map dR) (((layer n t).flatMap (kids n)).map dR) (by
      have : (wrs n (t + 1)).length = (wrs n t).length + ((layer n t).flatMap (kids n)).length := by
        show (wrs n t ++ (layer n t).flatMap (kids n)).length = _
        rw [List.length_append]
      rw [List.length_map, List.length_map]; unfold szB; omega)
    have hmm : ((wrs n t).map dR ++ ((layer n t).flatMap (kids n)).map dR) = (wrs n (t + 1)).map dR := by rw [← List.map_append]; rfl
    rw [hmm] at hx
    exact ⟨_, _, by simp_arith only [L14_2, q1, hx]; rfl, t + 1, _, _, _, _, _, _, _, rfl, rfl, by omega, by omega⟩) (List.range (min many n)) [.val (.ref j), .val (dN many), .own (.lst ((wrs n 0).map dR)), .val (.lst ((layer n 0).map dR)), .no, .no, .no, .no, .no, .no, .no] S ⟨0, .no, .no, .no, .no, .no, .no, .no, rfl, rfl, by simp, by omega⟩
  have ht : t = min many n := by simpa using h3
  subst ht
  have e0 : [D.tup [dN 0, dN 0, dN 0]] = (wrs n 0).map dR := rfl
  have e1 : (wrs n 0).map dR = (layer n 0).map dR := rfl
  have hr := n_rng1 (j := min many n) (by omega)
  rw [← e1, ← e0] at h1
  simp_arith only [B14, rt14, K.o, fd_many, lf_many, hr, h1]
end Wk

set_option maxRecDepth 100000
set_option maxHeartbeats 0
namespace Wk
open PySem PySem.Spec MP PL
open PyProof.Rows hiding St
theorem c_source (d : Nat) (S : Sto) (c : Int) : ∃ x y z : Int, callD tb (d + 1) 18 [.int c] S = .ok (.ref S.length) (S ++ [.lst [.int x, .int y, .int z]]) := by
  refine ⟨c * ((decide (((10 ^ 18 : Nat) : Int) ≤ c)).toNat : Nat), ((c % ((2147483629 : Nat) : Int)).toNat : Nat), ((0 : Nat) : Int), ?_⟩
  rw [run18]
  have h1 : (10 : Nat) < 2 ^ 64 := by decide
  have h2 : (18 : Nat) ≤ 1000000 := by decide
  have h3 : ∀ b : Bool, b.toNat < 2 ^ 64 := fun b => by cases b <;> decide
  have h4 : 0 < 2147483629 := by decide
  simp_arith only [B18, rt18, n_pow h1 h2, n_imul _ (h3 _), h4]
  rfl
theorem c_draw (d : Nat) {S : Sto} {i : Nat} (hw : Wc S i) (many : Nat) (h0 : 0 < many) (h1 : many < 1073741824) : ∃ r S', callD tb (d + 1) 19 [.ref i, dN many] S = .ok (dN r) S' ∧ Dr i S S' ∧ r < many := by
  have hi := hw.lt
  obtain ⟨a, b, c, hS⟩ := hw
  have hl := look_ref hS
  rw [run19]
  by_cases ha : ((0 : Nat) : Int) < a
  · refine ⟨_, _, by simp_arith only [B19, rt19, hl, ha, h0, h1, hS]; rfl, ?_, ?_⟩
    · exact ⟨a / (many : Int), b, c, rfl⟩
    · exact toNat_mod_lt a h0
  · have g1 : ∀ A, (S.set i A)[i]? = some A := fun A => by rw [List.getElem?_set_self hi]
    have g2 : ∀ l, D.look (S.set i (.lst l)) (.ref i) = .lst l := fun l => look_ref (g1 _)
    have k1 : 0 < 2147483629 := by decide
    have k2 : 0 < 2147483587 := by decide
    have k3 : 0 < 2147483563 := by decide
    have k4 : (90289 : Nat) < 2 ^ 64 := by decide
    have k5 : (48271 : Nat) < 2 ^ 64 := by decide
    have k6 : ∀ x : Int, (x % ((2147483629 : Nat) : Int)).toNat < 2 ^ 64 := fun x => Nat.lt_trans (toNat_mod_lt x k1) (by decide)
    have k7 : ∀ x : Int, (x % ((2147483587 : Nat) : Int)).toNat < 2 ^ 64 := fun x => Nat.lt_trans (toNat_mod_lt x k2) (by decide)
    have k8 : 0 < 1013 := by decide
    have k9 : 0 < 2003 := by decide
    have k10 : 1013 < 1073741824 := by decide
    have k11 : 2003 < 1073741824 := by decide
    have k12 : 0 < 3 := by decide
    have k13 : 3 < 1073741824 := by decide
    refine ⟨_, _, by simp_arith only [B19, rt19, hl, ha, h0, h1, hS, g1, g2, n_muli _ k4, n_imul _ k5, k1, k2, k3, n_muli _ (k6 _), n_mul (k7 _), k8, k9, k10, k11, k12, k13]; rfl, ?_, ?_⟩
    · exact ⟨a, b, c + (1 : Nat), rfl⟩
    · exact Nat.mod_lt _ h0
theorem c_pick (d : Nat) {S : Sto} {i : Nat} (hw : Wc S i) (l : List D) (h0 : 0 < l.length) (h1 : l.length < 1073741824) : ∃ y S', callD tb (d + 2) 20 [.ref i, .lst l] S = .ok y S' ∧ Dr i S S' ∧ y ∈ l := by
  obtain ⟨r, S', e, dr, hr⟩ := c_draw d hw l.length h0 h1
  have hg : l[r]? = some l[r] := List.getElem?_eq_getElem hr
  refine ⟨l[r], S', ?_, dr, List.getElem_mem hr⟩
  rw [run20]
  simp_arith only [B20, rt20, e, hg]
theorem lt_bitLen (x : Nat) : x < 2 ^ bitLen x := by
  unfold bitLen
  split
  · rename_i h
    subst h
    decide
  · exact Nat.lt_log2_self
theorem c_lones (d : Nat) (S : Sto) (x : Nat) (hx : x < 2 ^ 64) : callD tb (d + 1) 21 [dN x] S = .ok (dN (pc x)) S := by
  rw [run21]
  have hb : bitLen x ≤ 64 := bitLen_le hx
  have hr := n_rng1 (j := bitLen x) (by omega)
  have hl : ((List.range (bitLen x)).map dN).length ≤ szB := by rw [List.length_map, List.length_range]; unfold szB; omega
  have hc : compLoop ⟨tb, false, callD tb d⟩ K21_0 (.v 1) [1] [] [.val (dN x), .no] (.lst ((List.range (bitLen x)).map dN)) S ((List.range (bitLen x)).map dN) S = .ok ((List.range (bitLen x)).map fun k => dN (x / 2 ^ k % 2)) S := comp_map fun k hk => by
    simp_arith only [K21_0, and1]
  simp_arith only [B21, rt21, hr, hl, hc, sum_nat, pc_sum x _ (lt_bitLen x)]
theorem c_lbeside (d : Nat) (S : Sto) (m m' : D) (x z x' z' : Nat) (ha : x < 2 ^ 64) (hb : x' < 2 ^ 64) : callD tb (d + 2) 22 [.tup [m, dN x, dN z], .tup [m', dN x', dN z']] S = .ok (.bl (bes (x, z) (x', z'))) S := by
  rw [run22]
  have h1 : x &&& z' < 2 ^ 64 := and_lt _ _ _ ha
  have h2 : z &&& x' < 2 ^ 64 := by rw [Nat.and_comm]; exact and_lt _ _ _ hb
  have e : decide (pc (x &&& z') % 2 = pc (z &&& x') % 2) = bes (x, z) (x', z') := by
    unfold bes
    congr 1
    apply propext
    dsimp only
    omega
  simp_arith only [B22, rt22, c_lones d S _ h1, c_lones d S _ h2, e, Nat.reduceLT]
theorem mf_len : ∀ (rows f : List Pr), (madeFrom f rows).length = f.length * 2 ^ rows.length
  | [], f => by simp [madeFrom]
  | r :: rows, f => by
    show (madeFrom (f ++ f.map fun p => px r p) rows).length = _
    rw [mf_len rows, List.length_append, List.length_map, List.length_cons, Nat.pow_succ]
    generalize 2 ^ rows.length = q
    rw [Nat.add_mul, ← Nat.mul_assoc]
    omega
theorem c_lmade (d : Nat) (S : Sto) {X : D} (rows : List Rw) (hX : Lk S X (rows.map dR)) (hl : rows.length ≤ 9) : callD tb (d + 1) 23 [X] S = .ok (.lst ((made (rows.map (·.2))).map dP)) S := by
  rw [run23]
  obtain ⟨ρ', S', h1, f, s2, s3, s4, rfl, rfl, h3, _⟩ := for_all (C := ⟨tb, false, callD tb d⟩) (t := .t [.v 2, .v 3, .v 4]) (b := L23_0) (x := X) (S0 := S) (emb := dR)
    (I := fun r ρ S' => ∃ (f : List Pr) (s2 s3 s4 : Slot), ρ = [.val X, .val (.lst (f.map dP)), s2, s3, s4, .no, .no] ∧ S' = S ∧ madeFrom f (r.map (·.2)) = made (rows.map (·.2)) ∧ f.length * 2 ^ r.length ≤ 512) (fun a r ρ S' ⟨f, s2, s3, s4, e1, e2, e3, e4⟩ => by
    subst e1
    subst e2
    rw [List.length_cons, Nat.pow_succ, ← Nat.mul_assoc] at e4
    have e5 : f.length ≤ 256 := by
      have : f.length * 1 ≤ f.length * 2 ^ r.length := Nat.mul_le_mul_left _ Nat.one_le_two_pow
      omega
    have hl : (f.map dP).length ≤ szB := by rw [List.length_map]; unfold szB; omega
    have hc : compLoop ⟨tb, false, callD tb d⟩ K23_0 (.t [.v 5, .v 6]) [5, 6] [] [.val X, .val (.lst (f.map dP)), .val (dN a.1), .val (dN a.2.1), .val (dN a.2.2), .no, .no] (.lst (f.map dP)) S' (f.map dP) S' = .ok (f.map fun p => dP (px a.2 p)) S' := comp_map fun p hp => by
      simp_arith only [K23_0, dP]
      rfl
    have hb := bin_lst (f.map dP) (f.map fun p => dP (px a.2 p)) (by rw [List.length_map, List.length_map]; unfold szB; omega)
    have hm : f.map dP ++ f.map (fun p => dP (px a.2 p)) = (f ++ f.map fun p => px a.2 p).map dP := by
      rw [List.map_append, List.map_map]
      rfl
    rw [hm] at hb
    exact ⟨_, _, by simp_arith only [dR, L23_0, hl, hc, hb, fs_any, guardR_nx _ _ _ _ hX.s]; rfl, _, _, _, _, rfl, rfl, e3, by rw [List.length_append, List.length_map, Nat.add_mul]; omega⟩) rows [.val X, .val (.lst ([(0, 0)].map dP)), .no, .no, .no, .no, .no] S ⟨[(0, 0)], .no, .no, .no, rfl, rfl, rfl, by
      have : 2 ^ rows.length ≤ 2 ^ 9 := Nat.pow_le_pow_right (by omega) hl
      simpa using this⟩
  have e0 : [D.tup [dN 0, dN 0]] = [((0 : Nat), (0 : Nat))].map dP := rfl
  rw [← e0] at h1
  simp_arith only [B23, rt23, h1, hX.e]
  rw [← h3]
  rfl
theorem inP_zero : ∀ l, InP l (0, 0)
  | [] => rfl
  | r :: l => .inl (inP_zero l)
theorem px_mm (u v r : Pr) : px (px u r) (px v r) = px u v := by
  have : px (px u r) (px v r) = px (px u v) (px r r) := by
    unfold px
    simp only [Prod.mk.injEq]
    constructor <;> (apply Nat.eq_of_testBit_eq; intro i; simp only [Nat.testBit_xor]; cases Nat.testBit _ i <;> cases Nat.testBit _ i <;> cases Nat.testBit _ i <;> rfl)
  rw [this]
  unfold px
  simp
theorem px_sw (u v r : Pr) : px (px u v) r = px (px u r) v := by rw [px_assoc, px_comm v, ← px_assoc]
theorem inP_px : ∀ {l : List Pr} {u v : Pr}, InP l u → InP l v → InP l (px u v)
  | [], u, v, h1, h2 => by cases h1; cases h2; rfl
  | r :: l, u, v, h1, h2 => by
    rcases h1 with h1 | h1 <;> rcases h2 with h2 | h2
    · exact .inl (inP_px h1 h2)
    · exact .inr (by rw [px_assoc]; exact inP_px h1 h2)
    · exact .inr (by rw [px_sw]; exact inP_px h1 h2)
    · exact .inl (by
        have := inP_px h1 h2
        rwa [px_mm] at this)
theorem inP_sub : ∀ {l k : List Pr} {v : Pr}, (∀ r, r ∈ l → InP k r) → InP l v → InP k v
  | [], k, v, _, h => by cases h; exact inP_zero k
  | r :: l, k, v, hs, h => by
    rcases h with h | h
    · exact inP_sub (fun q hq => hs q (List.mem_cons_of_mem _ hq)) h
    · have := inP_px (inP_sub (fun q hq => hs q (List.mem_cons_of_mem _ hq)) h) (hs r (List.mem_cons_self ..))
      rwa [px_px] at this
theorem inP_mem {l : List Pr} {v : Pr} (h : v ∈ l) : InP l v := by
  induction l with
  | nil => cases h
  | cons a l ih =>
    rcases List.mem_cons.mp h with rfl | h
    · refine .inr ?_
      have : px v v = (0, 0) := by unfold px; simp
      rw [this]
      exact inP_zero l
    · exact .inl (ih h)
end Wk

set_option maxRecDepth 100000
set_option maxHeartbeats 0
namespace Wk
open PySem PySem.Spec MP PL
open PyProof.Rows hiding St
theorem dec_irrel {p : Prop} (i j : Decidable p) : @decide p i = @decide p j := by cases i <;> cases j <;> first | rfl | contradiction
theorem c_lsigns (d : Nat) (S : Sto) {X : D} (rows : List Rw) (hX : Lk S X (rows.map dR)) (hl : rows.length ≤ 9) (hv : ∀ r, r ∈ rows → r.2.1 < 2 ^ 64) (m : D) (x z : Nat) (hx : x < 2 ^ 64) : callD tb (d + 3) 27 [X, .tup [m, dN x, dN z]] S = .ok (.lst ((sgn rows (x, z)).map dN)) S := by
  rw [run27]
  have hl : (rows.map dR).length ≤ szB := by rw [List.length_map]; unfold szB; omega
  have hc : compLoop ⟨tb, false, callD tb (d + 2)⟩ K27_0 (.v 2) [2] [] [.val X, .val (.tup [m, dN x, dN z]), .no] X S (rows.map dR) S = .ok (rows.map fun r => dN (!bes (x, z) r.2).toNat) S := comp_map fun r hr => by
    simp_arith only [cs_any, guardS_ok _ _ _ _ hX.s, K27_0, dR, c_lbeside d S m _ x z r.2.1 r.2.2 hx (hv r hr)]
  simp_arith only [B27, rt27, hX.e, hl, hc, sgn_map]
theorem c_lparts (d : Nat) (S : Sto) {X : D} (rows : List Rw) (hX : Lk S X (rows.map dR)) (hl : rows.length ≤ 9) (m m' : D) (x z x' z' : Nat) : callD tb (d + 2) 28 [X, .tup [m, dN x, dN z], .tup [m', dN x', dN z']] S = .ok (.bl (!decide (px (x, z) (x', z') ∈ made (rows.map (·.2))))) S := by
  rw [run28]
  have hn : ∀ (a b : Nat) (l : List Pr), cmpD .NotIn (.tup [dN a, dN b]) (.lst (l.map dP)) = some (!decide ((a, b) ∈ l)) := fun a b l => (nin_lst emP (by decide) (a, b) l).trans (by rw [dec_irrel])
  simp_arith only [B28, rt28, c_lmade d S rows hX hl, hn]
  rfl
theorem c_isrow (d : Nat) (S : Sto) (m x z n : Nat) (hn : n ≤ 1000) (hm : m < 2) (hx : x < 2 ^ n) (hz : z < 2 ^ n) : callD tb (d + 1) 29 [.tup [dN m, dN x, dN z], dN n] S = .ok (.bl true) S := by
  rw [run29]
  have hl : ([dN m, dN x, dN z] : List D).length ≤ szB := by show 3 ≤ szB; unfold szB; omega
  have hc : compLoop ⟨tb, false, callD tb d⟩ K29_0 (.v 2) [2] [Q29_0] [.val (.tup [dN m, dN x, dN z]), .val (dN n), .no] (.tup [dN m, dN x, dN z]) S [dN m, dN x, dN z] S = .ok [] S := comp_filter (emb := dN) (l := [m, x, z]) (p := fun _ => false) (g := dN) fun a ha => by
    simp_arith only [K29_0, Q29_0]
  have hn2 : n ≤ 1000000 := by omega
  have hin : cmpD .In (dN m) (.lst [dN 0, dN 1]) = some true := by
    have h := in_lst emN (by decide) m [0, 1]
    have h2 : m ∈ [0, 1] := by
      have : m = 0 ∨ m = 1 := by omega
      simpa using this
    rw [decide_eq_true h2] at h
    exact h
  have hne : cmpD .NotEq (.lst []) (.lst []) = some false := by
    have h := ne_lst emN (by decide) [] []
    simpa using h
  simp_arith only [B29, rt29, hl, hc, hin, hn2, hx, hz, hne, Nat.zero_le, compI_some hl]
theorem c_iswrong (d : Nat) (S : Sto) (x z n many : Nat) (hn : n ≤ 9) (hx : x < 2 ^ n) (hz : z < 2 ^ n) : callD tb (d + 2) 30 [.tup [dN 0, dN x, dN z], dN n, dN many] S = .ok (.bl (decide (pc (x ||| z) ≤ many))) S := by
  rw [run30]
  have h1 : x ||| z < 2 ^ 64 := p64 hn (Nat.or_lt_two_pow hx hz)
  simp_arith only [B30, rt30, c_isrow d S 0 x z n (by omega) (by decide) hx hz, c_lones d S _ h1]
theorem c_wrong (d : Nat) {S : Sto} {i : Nat} (hw : Wc S i) (n : Nat) (hn : n ≤ 9) (hn0 : 1 ≤ n) : ∃ x z S', callD tb (d + 3) 25 [.ref i, dN n] S = .ok (.tup [dN 0, dN x, dN z]) S' ∧ Dr i S S' ∧ x < 2 ^ n ∧ z < 2 ^ n := by
  have hi := hw.lt
  have hn3 : n ≤ 1000000 := by omega
  have h2n : 0 < 2 ^ n := Nat.pow_pos (by omega)
  have h2m : 2 ^ n < 1073741824 := Nat.lt_of_le_of_lt (Nat.pow_le_pow_right (by omega) hn) (by decide)
  have h1n : 1 ≤ 2 ^ n := h2n
  obtain ⟨x, S1, e1, d1, b1⟩ := c_draw (d + 1) hw (2 ^ n) h2n h2m
  obtain ⟨z, S2, e2, d2, b2⟩ := c_draw (d + 1) (d1.wc hi) (2 ^ n) h2n h2m
  have d2 := d1.trans d2
  obtain ⟨r3, S3, e3, d3, b3⟩ := c_draw (d + 1) (d2.wc hi) n hn0 (by omega)
  have d3 := d2.trans d3
  obtain ⟨r4, S4, e4, d4, b4⟩ := c_draw (d + 1) (d3.wc hi) n hn0 (by omega)
  have d4 := d3.trans d4
  obtain ⟨r5, S5, e5, d5, b5⟩ := c_draw (d + 1) (d4.wc hi) n hn0 (by omega)
  have d5 := d4.trans d5
  obtain ⟨y, S6, e6, d6, b6⟩ := c_pick d (d5.wc hi) [dN (2 ^ r3), dN (2 ^ r4 ||| 2 ^ r5), dN (2 ^ n - 1)] (by show 0 < 3; decide) (by show 3 < _; decide)
  have d6 := d5.trans d6
  have hy : ∃ q, y = dN q := by
    simp only [List.mem_cons, List.not_mem_nil, or_false] at b6
    rcases b6 with h | h | h <;> exact ⟨_, h⟩
  obtain ⟨q, rfl⟩ := hy
  have k3 : r3 ≤ 1000000 := by omega
  have k4 : r4 ≤ 1000000 := by omega
  have k5 : r5 ≤ 1000000 := by omega
  refine ⟨x &&& q, z &&& q, S6, ?_, d6, and_lt _ _ _ b1, and_lt _ _ _ b2⟩
  rw [run25]
  simp_arith only [B25, rt25, hn3, frs19, frs20, e1, e2, e3, e4, e5, e6, k3, k4, k5, h1n]
/-! the law's wrongs -/
theorem l26_0 (g : Nat → List D → Sto → Res D) (S : Sto) (i m x z : Nat) (him : i + m ≤ 9) (q : List Rw) (hq : q.length ≤ 100000) (x0 x1 x2 x3 x4 x6 x9 : Slot) :
    ∃ s9, forLoop ⟨tb, false, g⟩ (.v 9) L26_0 (.lst ((List.range m).map fun k => dN (i + k))) S ((List.range m).map fun k => dN (i + k)) [x0, x1, x2, x3, x4, .own (.lst (q.map dR)), x6, .val (dN x), .val (dN z), x9] S = .nx [x0, x1, x2, x3, x4, .own (.lst ((q ++ kidsF i m x z).map dR)), x6, .val (dN x), .val (dN z), s9] S := by
  obtain ⟨ρ', S', h1, p, s9, rfl, rfl, h3, _⟩ := for_all (C := ⟨tb, false, g⟩) (t := .v 9) (b := L26_0) (x := .lst ((List.range m).map fun k => dN (i + k))) (S0 := S) (emb := fun k => dN (i + k))
    (I := fun r ρ S' => ∃ (p : List Rw) (s9 : Slot), ρ = [x0, x1, x2, x3, x4, .own (.lst (p.map dR)), x6, .val (dN x), .val (dN z), s9] ∧ S' = S ∧ p ++ r.flatMap (fun k => three x z (2 ^ (i + k))) = q ++ kidsF i m x z ∧ (∀ k, k ∈ r → k < m)) (fun a r ρ S' ⟨p, s9, e1, e2, e3, e4⟩ => by
    subst e1
    subst e2
    have ha := e4 a (List.mem_cons_self ..)
    have hl := congrArg List.length e3
    have hk := kidsF_len i m x z
    simp only [List.length_append, List.flatMap_cons] at hl
    have hb : i + a ≤ 1000000 := by omega
    have h3 : (three x z (2 ^ (i + a))).length = 3 := rfl
    have hx := xt_lst (p.map dR) ((three x z (2 ^ (i + a))).map dR) (by rw [List.length_map, List.length_map]; unfold szB; omega)
    have hm : (p.map dR ++ (three x z (2 ^ (i + a))).map dR) = (p ++ three x z (2 ^ (i + a))).map dR := by rw [List.map_append]
    rw [hm] at hx
    have ht : [D.tup [dN 0, dN (x ||| 2 ^ (i + a)), dN z], .tup [dN 0, dN x, dN (z ||| 2 ^ (i + a))], .tup [dN 0, dN (x ||| 2 ^ (i + a)), dN (z ||| 2 ^ (i + a))]] = (three x z (2 ^ (i + a))).map dR := rfl
    rw [← ht] at hx
    refine ⟨_, _, by simp_arith only [L26_0, hb, hx]; rfl, _, _, rfl, rfl, ?_, fun k hk => e4 k (List.mem_cons_of_mem _ hk)⟩
    rw [← e3, List.flatMap_cons, List.append_assoc]) (List.range m) _ S ⟨q, x9, rfl, rfl, rfl, fun k hk => List.mem_range.mp hk⟩
  refine ⟨s9, h1.trans ?_⟩
  rw [← h3, List.flatMap_nil, List.append_nil]
theorem l26_1 (g : Nat → List D → Sto → Res D) (S : Sto) (n : Nat) (hn : n ≤ 9) (heavy : List Rw) (hh : heavy.length ≤ 1000) (hv : ∀ r, r ∈ heavy → Vr n r) (x1 x2 x3 x4 x6 x7 x8 x9 : Slot) :
    ∃ s6 s7 s8 s9, forLoop ⟨tb, false, g⟩ (.t [.v 6, .v 7, .v 8]) L26_1 (.lst (heavy.map dR)) S (heavy.map dR) [.val (dN n), x1, x2, x3, x4, .own (.lst []), x6, x7, x8, x9] S = .nx [.val (dN n), x1, x2, x3, x4, .own (.lst ((heavy.flatMap (kids n)).map dR)), s6, s7, s8, s9] S := by
  obtain ⟨ρ', S', h1, p, s6, s7, s8, s9, rfl, rfl, h3, _⟩ := for_all (C := ⟨tb, false, g⟩) (t := .t [.v 6, .v 7, .v 8]) (b := L26_1) (x := .lst (heavy.map dR)) (S0 := S) (emb := dR)
    (I := fun r ρ S' => ∃ (p : List Rw) (s6 s7 s8 s9 : Slot), ρ = [.val (dN n), x1, x2, x3, x4, .own (.lst (p.map dR)), s6, s7, s8, s9] ∧ S' = S ∧ p ++ r.flatMap (kids n) = heavy.flatMap (kids n) ∧ (∀ q, q ∈ r → q ∈ heavy)) (fun a r ρ S' ⟨p, s6, s7, s8, s9, e1, e2, e3, e4⟩ => by
    subst e1
    subst e2
    have ha := hv a (e4 a (List.mem_cons_self ..))
    have hbl : bitLen (a.2.1 ||| a.2.2) ≤ n := bitLen_le (Nat.or_lt_two_pow ha.2.1 ha.2.2)
    have hl := congrArg List.length e3
    have hk := flat_len (kids n) 27 heavy fun b _ => kids_len hn b
    simp only [List.length_append, List.flatMap_cons] at hl
    obtain ⟨t9, q1⟩ := l26_0 g S' (bitLen (a.2.1 ||| a.2.2)) (n - bitLen (a.2.1 ||| a.2.2)) a.2.1 a.2.2 (by omega) p (by omega) (.val (dN n)) x1 x2 x3 x4 (.val (dN a.1)) s9
    have hr := n_rng2 (i := bitLen (a.2.1 ||| a.2.2)) (j := n) (by omega) (by omega)
    refine ⟨_, _, by simp_arith only [dR, L26_1, hr, q1]; rfl, p ++ kids n a, _, _, _, _, rfl, rfl, ?_, fun q hq => e4 q (List.mem_cons_of_mem _ hq)⟩
    rw [← e3, List.flatMap_cons, List.append_assoc]) heavy _ S ⟨[], x6, x7, x8, x9, rfl, rfl, rfl, fun q hq => hq⟩
  refine ⟨s6, s7, s8, s9, h1.trans ?_⟩
  rw [← h3, List.flatMap_nil, List.append_nil]
theorem c_lwrongs (d : Nat) (S : Sto) (n many : Nat) (hn : n ≤ 9) (hm : many ≤ 2) : callD tb (d + 1) 26 [dN n, dN many] S = .ok (.lst ((wrs n many).map dR)) S := by
  rw [run26]
  obtain ⟨ρ', S', h1, t, s4, s5, s6, s7, s8, s9, rfl, rfl, h3, h4⟩ := for_all (C := ⟨tb, false, callD tb d⟩) (t := .v 4) (b := L26_2) (x := .lst ((List.range many).map dN)) (S0 := S) (emb := dN)
    (I := fun r ρ S' => ∃ (t : Nat) (s4 s5 s6 s7 s8 s9 : Slot), ρ = [.val (dN n), .val (dN many), .val (.lst ((wrs n t).map dR)), .val (.lst ((layer n t).map dR)), s4, s5, s6, s7, s8, s9] ∧ S' = S ∧ t + r.length = many ∧ t ≤ many) (fun a r ρ S' ⟨t, s4, s5, s6, s7, s8, s9, e1, e2, e3, e4⟩ => by
    subst e1
    subst e2
    rw [List.length_cons] at e3
    have ht : t ≤ 1 := by omega
    have hll : (layer n t).length ≤ 1000 := Nat.le_trans (layer_len hn t) (Nat.le_trans (Nat.pow_le_pow_right (by omega) ht) (by decide))
    obtain ⟨t6, t7, t8, t9, q1⟩ := l26_1 (callD tb d) S' n hn (layer n t) hll (layer_bd t) (.val (dN many)) (.val (.lst ((wrs n t).map dR))) (.val (.lst ((layer n t).map dR))) (.val (dN a)) s6 s7 s8 s9
    have hw := wrs_len hn t (by omega)
    have hw2 := wrs_len hn (t + 1) (by omega)
    have hx := bin_lst ((wrs n t).map dR) (((layer n t).flatMap (kids n)).map dR) (by
      have : (wrs n (t + 1)).length = (wrs n t).length + ((layer n t).flatMap (kids n)).length := by
        show (wrs n t ++ (layer n t).flatMap (kids n)).length = _
        rw [List.length_append]
      rw [List.length_map, List.length_map]; unfold szB; omega)
    have hmm : ((wrs n t).map dR ++ ((layer n t).flatMap (kids n)).map dR) = (wrs n (t + 1)).map dR := by rw [← List.map_append]; rfl
    rw [hmm] at hx
    exact ⟨_, _, by simp_arith only [L26_2, q1, hx]; rfl, t + 1, _, _, _, _, _, _, rfl, rfl, by omega, by omega⟩) (List.range many) [.val (dN n), .val (dN many), .val (.lst ((wrs n 0).map dR)), .val (.lst ((layer n 0).map dR)), .no, .no, .no, .no, .no, .no] S ⟨0, .no, .no, .no, .no, .no, .no, rfl, rfl, by simp, by omega⟩
  have ht : t = many := by simpa using h3
  subst ht
  have e0 : [D.tup [dN 0, dN 0, dN 0]] = (wrs n 0).map dR := rfl
  have e1 : (wrs n 0).map dR = (layer n 0).map dR := rfl
  have hr := n_rng1 (j := t) (by omega)
  rw [← e1, ← e0] at h1
  simp_arith only [B26, rt26, hr, h1]
theorem wrs_min {n : Nat} (hn : 1 ≤ n) (many : Nat) (hm : many ≤ 2) : wrs n (min many n) = wrs n many := by
  by_cases h : many ≤ n
  · rw [Nat.min_eq_left h]
  · have h1 : n = 1 := by omega
    have h2 : many = 2 := by omega
    subst h1
    subst h2
    decide
/-! weights -/
theorem pc_or (a b : Nat) : pc (a ||| b) ≤ pc a + pc b := by
  induction a using Nat.strongRecOn generalizing b with
  | ind a ih =>
    by_cases h : a = 0
    · subst h; rw [Nat.zero_or]; omega
    · have q := ih (a / 2) (by omega) (b / 2)
      have e1 : (a ||| b) / 2 = (a / 2 ||| b / 2) := Nat.or_div_two
      have e2 : (a ||| b) % 2 = (a % 2 ||| b % 2) := Nat.or_mod_two_pow (n := 1)
      rw [pc_step (a ||| b), pc_step a, pc_step b, e1, e2]
      have : (a % 2 ||| b % 2) ≤ a % 2 + b % 2 := by
        rcases Nat.mod_two_eq_zero_or_one a with p | p <;> rcases Nat.mod_two_eq_zero_or_one b with r | r <;> rw [p, r] <;> decide
      omega
theorem layer_w {n : Nat} : ∀ t r, r ∈ layer n t → r.1 = 0 ∧ pc (r.2.1 ||| r.2.2) ≤ t
  | 0, r, h => by
    rw [List.mem_singleton.mp h]
    exact ⟨rfl, by show pc (0 ||| 0) ≤ 0; rw [Nat.or_self, pc0]; omega⟩
  | t + 1, r, h => by
    obtain ⟨q, hq, h⟩ := List.mem_flatMap.mp h
    have hw := (layer_w t q hq).2
    unfold kids kidsF at h
    obtain ⟨k, hk, h⟩ := List.mem_flatMap.mp h
    have hb := pc_two (bitLen (q.2.1 ||| q.2.2) + k)
    generalize 2 ^ (bitLen (q.2.1 ||| q.2.2) + k) = b at h hb
    have h1 := pc_or (q.2.1 ||| q.2.2) b
    have g1 : (q.2.1 ||| b) ||| q.2.2 = (q.2.1 ||| q.2.2) ||| b := by rw [Nat.or_assoc, Nat.or_comm b, ← Nat.or_assoc]
    have g2 : q.2.1 ||| (q.2.2 ||| b) = (q.2.1 ||| q.2.2) ||| b := by rw [← Nat.or_assoc]
    have g3 : (q.2.1 ||| b) ||| (q.2.2 ||| b) = (q.2.1 ||| q.2.2) ||| b := by rw [← Nat.or_assoc, g1, Nat.or_assoc, Nat.or_self]
    simp only [three, List.mem_cons, List.not_mem_nil, or_false] at h
    rcases h with rfl | rfl | rfl
    · exact ⟨rfl, by show pc ((q.2.1 ||| b) ||| q.2.2) ≤ _; rw [g1]; omega⟩
    · exact ⟨rfl, by show pc (q.2.1 ||| (q.2.2 ||| b)) ≤ _; rw [g2]; omega⟩
    · exact ⟨rfl, by show pc ((q.2.1 ||| b) ||| (q.2.2 ||| b)) ≤ _; rw [g3]; omega⟩
theorem wrs_w {n : Nat} : ∀ t r, r ∈ wrs n t → r.1 = 0 ∧ pc (r.2.1 ||| r.2.2) ≤ t
  | 0, r, h => layer_w (n := n) 0 r h
  | t + 1, r, h => by
    rcases List.mem_append.mp h with h | h
    · have := wrs_w t r h
      exact ⟨this.1, by omega⟩
    · exact layer_w (t + 1) r h
end Wk

set_option maxRecDepth 100000
set_option maxHeartbeats 0
namespace Wk
open PySem PySem.Spec MP PL
open PyProof.Rows hiding St
/-! plain: what shows that two part -/
theorem bes_px (u a b : Pr) : bes u (px a b) = (bes u a == bes u b) := by
  have h1 := pc_xor (u.1 &&& a.2) (u.1 &&& b.2)
  have h2 := pc_xor (u.2 &&& a.1) (u.2 &&& b.1)
  rw [← Nat.and_xor_distrib_left] at h1 h2
  unfold bes px
  dsimp only
  by_cases p : (pc (u.1 &&& a.2) + pc (u.2 &&& a.1)) % 2 = 0 <;> by_cases q : (pc (u.1 &&& b.2) + pc (u.2 &&& b.1)) % 2 = 0
  · rw [decide_eq_true p, decide_eq_true q, decide_eq_true (by omega)]; rfl
  · rw [decide_eq_true p, decide_eq_false q, decide_eq_false (by omega)]; rfl
  · rw [decide_eq_false p, decide_eq_true q, decide_eq_false (by omega)]; rfl
  · rw [decide_eq_false p, decide_eq_false q, decide_eq_true (by omega)]; rfl
theorem bes_dot {n u : Nat} {a : Pr} (h : Bd n a) : bes (u % 2 ^ n, u / 2 ^ n) a = decide (dotp (mir n a) u = 0) := by
  rw [dot_mir h]
  unfold bes
  dsimp only
  rw [Nat.and_comm (u % 2 ^ n), Nat.and_comm (u / 2 ^ n)]
theorem indP_of : ∀ (l a : List Pr), (∀ (done : List Pr) (r : Pr) (rest : List Pr), l = done ++ r :: rest → ¬ InP (a ++ done) r) → IndP a l
  | [], _, _ => trivial
  | r :: l, a, h => ⟨by have := h [] r l rfl; rwa [List.append_nil] at this, indP_of l (a ++ [r]) fun done q rest e => by
      have := h (r :: done) q rest (by rw [e]; rfl)
      rwa [List.append_assoc]⟩
theorem map_split {α β : Type} {f : α → β} : ∀ {l : List α} {d : List β} {r : β} {t : List β}, l.map f = d ++ r :: t → ∃ d' r' t', l = d' ++ r' :: t' ∧ d'.map f = d ∧ f r' = r ∧ t'.map f = t
  | [], d, r, t, h => by cases d <;> cases h
  | a :: l, [], r, t, h => by
    rw [List.map_cons] at h
    injection h with h1 h2
    exact ⟨[], a, l, rfl, rfl, h1, h2⟩
  | a :: l, b :: d, r, t, h => by
    rw [List.map_cons] at h
    injection h with h1 h2
    obtain ⟨d', r', t', e1, e2, e3, e4⟩ := map_split h2
    exact ⟨a :: d', r', t', by rw [e1]; rfl, by rw [List.map_cons, h1, e2], e3, e4⟩
theorem snoc_split {α : Type} {l d t : List α} {b r : α} (h : l ++ [b] = d ++ r :: t) : (d = l ∧ r = b ∧ t = []) ∨ ∃ t', t = t' ++ [b] ∧ l = d ++ r :: t' := by
  rcases List.eq_nil_or_concat t with rfl | ⟨t', c, rfl⟩
  · obtain ⟨h1, h2⟩ := List.append_inj' h rfl
    left
    exact ⟨h1.symm, by simpa using h2.symm, rfl⟩
  · right
    rw [List.concat_eq_append, show d ++ r :: (t' ++ [c]) = (d ++ r :: t') ++ [c] by simp] at h
    obtain ⟨h1, h2⟩ := List.append_inj' h rfl
    have : b = c := by simpa using h2
    subst this
    exact ⟨t', by rw [List.concat_eq_append], h1⟩
theorem rws_ind {n : Nat} {rows : List Rw} (hr : Rws n rows) {b : Pr} (hb : ¬ InP (rows.map (·.2)) b) : IndP [] (rows.map (·.2) ++ [b]) := by
  refine indP_of _ _ fun done r rest e => ?_
  rw [List.nil_append]
  rcases snoc_split e with ⟨rfl, rfl, _⟩ | ⟨t', _, e2⟩
  · exact hb
  · obtain ⟨d', r', t2, e3, e4, e5, _⟩ := map_split e2
    rw [← e4, ← e5]
    exact hr.i d' r' t2 e3
def eqsOf (n : Nat) (rows : List Rw) (b : Pr) : List (Nat × Nat) := (rows.map fun r : Rw => (mir n r.2, 0)) ++ [(mir n b, 1)]
def shw (n : Nat) (rows : List Rw) (b : Pr) : Nat := found ((eqsOf n rows b).foldl put [])
theorem found_lt {k : Nat} {l : List Ent} (h : ∀ e, e ∈ l → e.1 < k) (h2 : ∀ e, e ∈ l → e.2.2 < 2) : found l < 2 ^ k := by
  apply Nat.lt_pow_two_of_testBit
  intro i hi
  unfold found
  rw [foundBit l 0 i h2, Nat.zero_testBit, Bool.false_or, List.any_eq_false]
  intro e he hc
  simp only [Bool.and_eq_true, decide_eq_true_eq] at hc
  have := h e he
  omega
theorem mir_lt {n : Nat} {p : Pr} (hp : Bd n p) : mir n p < 2 ^ (2 * n) := by
  unfold mir join
  have e : 2 ^ (2 * n) = 2 ^ n * 2 ^ n := by rw [show 2 * n = n + n by omega, Nat.pow_add]
  have h0 : 0 < 2 ^ n := Nat.pow_pos (by omega)
  refine Nat.or_lt_two_pow ?_ ?_
  · rw [e]
    exact Nat.lt_of_lt_of_le hp.2 (Nat.le_mul_of_pos_left _ h0)
  · rw [e]
    exact Nat.mul_lt_mul_of_pos_right hp.1 h0
theorem shw_ok {n : Nat} {rows : List Rw} (hr : Rws n rows) {b : Pr} (hbd : Bd n b) (hb : ¬ InP (rows.map (·.2)) b) :
    shw n rows b < 2 ^ (2 * n) ∧ (∀ r, r ∈ rows → bes (shw n rows b % 2 ^ n, shw n rows b / 2 ^ n) r.2 = true) ∧ bes (shw n rows b % 2 ^ n, shw n rows b / 2 ^ n) b = false := by
  have q2 : ∀ q, q ∈ eqsOf n rows b → q.2 < 2 := fun q hq => by
    rcases List.mem_append.mp hq with hq | hq
    · obtain ⟨r, _, rfl⟩ := List.mem_map.mp hq
      show 0 < 2
      omega
    · rw [List.mem_singleton.mp hq]
      show 1 < 2
      omega
  have q1 : ∀ q, q ∈ eqsOf n rows b → q.1 < 2 ^ (2 * n) := fun q hq => by
    rcases List.mem_append.mp hq with hq | hq
    · obtain ⟨r, h, rfl⟩ := List.mem_map.mp hq
      exact mir_lt (hr.v r h).2
    · rw [List.mem_singleton.mp hq]
      exact mir_lt hbd
  have ho := solve_own (eqsOf n rows b) (l := []) (fun i j e f h => by simp at h)
  have hlt := solve_lt (eqsOf n rows b) (l := []) q2 (fun e h => by cases h)
  have hbd2 := fold_bd (eqsOf n rows b) (l := []) (k := 2 * n) (fun e h => by cases h) q1
  have hs := found_sol ho hlt
  have hi : Ind [] ((eqsOf n rows b).map (·.1)) := by
    have h := ind_mir (n := n) (a := []) (l := rows.map (·.2) ++ [b]) (fun r h => by cases h) (fun r h => by
      rcases List.mem_append.mp h with h | h
      · obtain ⟨q, hq, rfl⟩ := List.mem_map.mp h
        exact (hr.v q hq).2
      · rw [List.mem_singleton.mp h]
        exact hbd) (rws_ind hr hb)
    have e : (eqsOf n rows b).map (·.1) = (rows.map (·.2) ++ [b]).map (mir n) := by
      unfold eqsOf
      rw [List.map_append, List.map_append, List.map_map, List.map_map]
      rfl
    rw [e]
    exact h
  obtain ⟨_, hsol⟩ := solve_sol (eqsOf n rows b) (l := []) (a := []) (u := shw n rows b) (fun e h => by cases h) (fun v h => h) hi q2 hs
  refine ⟨found_lt (fun e he => (hbd2 e he).1) hlt, fun r h => ?_, ?_⟩
  · rw [bes_dot (hr.v r h).2, hsol (mir n r.2, 0) (List.mem_append_left _ (List.mem_map.mpr ⟨r, h, rfl⟩))]
    rfl
  · rw [bes_dot hbd, hsol (mir n b, 1) (List.mem_append_right _ (List.mem_singleton.mpr rfl))]
    rfl
/-! the search -/
def fst (fs : List (List Nat × Rw)) (s : List Nat) (w : Rw) : Rw × List (List Nat × Rw) := match fs.lookup s with
  | some r => (r, fs)
  | none => (w, fs ++ [(s, w)])
def partF (rows : List Rw) : List Rw → List (List Nat × Rw) → Option (Rw × Rw)
  | [], _ => none
  | w :: l, fs => if px (fst fs (sgn rows w.2) w).1.2 w.2 ∈ made (rows.map (·.2)) then partF rows l (fst fs (sgn rows w.2) w).2 else some ((fst fs (sgn rows w.2) w).1, w)
theorem look_mem {s : List Nat} {r : Rw} : ∀ {fs : List (List Nat × Rw)}, fs.lookup s = some r → (s, r) ∈ fs
  | p :: fs, h => by
    obtain ⟨a, b⟩ := p
    rw [List.lookup_cons] at h
    by_cases e : s = a
    · subst e
      simp at h
      subst h
      exact List.mem_cons_self ..
    · have : (s == a) = false := by simpa using e
      rw [this] at h
      exact List.mem_cons_of_mem _ (look_mem h)
theorem fst_mem {rows : List Rw} {L : List Rw} {fs : List (List Nat × Rw)} (h : ∀ p, p ∈ fs → p.2 ∈ L ∧ sgn rows p.2.2 = p.1) {w : Rw} (hw : w ∈ L) :
    ((fst fs (sgn rows w.2) w).1 ∈ L ∧ sgn rows (fst fs (sgn rows w.2) w).1.2 = sgn rows w.2) ∧ ∀ p, p ∈ (fst fs (sgn rows w.2) w).2 → p.2 ∈ L ∧ sgn rows p.2.2 = p.1 := by
  unfold fst
  cases e : fs.lookup (sgn rows w.2) with
  | some r => exact ⟨h (sgn rows w.2, r) (look_mem e), h⟩
  | none =>
    refine ⟨⟨hw, rfl⟩, fun p hp => ?_⟩
    rcases List.mem_append.mp hp with hp | hp
    · exact h p hp
    · rw [List.mem_singleton.mp hp]
      exact ⟨hw, rfl⟩
theorem fst_len (fs : List (List Nat × Rw)) (s : List Nat) (w : Rw) : (fst fs s w).2.length ≤ fs.length + 1 := by
  unfold fst
  split
  · exact Nat.le_succ _
  · simp
theorem partF_ok {rows : List Rw} {L : List Rw} : ∀ (l : List Rw) (fs : List (List Nat × Rw)), (∀ p, p ∈ fs → p.2 ∈ L ∧ sgn rows p.2.2 = p.1) → (∀ w, w ∈ l → w ∈ L) → ∀ r w, partF rows l fs = some (r, w) → r ∈ L ∧ w ∈ L ∧ sgn rows r.2 = sgn rows w.2 ∧ px r.2 w.2 ∉ made (rows.map (·.2))
  | [], _, _, _, r, w, e => by cases e
  | a :: l, fs, hf, hl, r, w, e => by
    obtain ⟨⟨k1, k2⟩, k3⟩ := fst_mem hf (hl a (List.mem_cons_self ..))
    rw [partF] at e
    split at e
    · exact partF_ok l _ k3 (fun b hb => hl b (List.mem_cons_of_mem _ hb)) r w e
    · rename_i hn
      cases e
      exact ⟨k1, hl _ (List.mem_cons_self ..), k2, hn⟩
def dkey (s : List Nat) : List L2.Key := s.map fun (n : Nat) => (Sum.inl (n : Int) : L2.Key)
theorem dkey_inj : ∀ {s t : List Nat}, dkey s = dkey t → s = t
  | [], [], _ => rfl
  | [], _ :: _, h => by cases h
  | _ :: _, [], h => by cases h
  | a :: s, b :: t, h => by
    have h : (Sum.inl (a : Int) : L2.Key) :: dkey s = Sum.inl (b : Int) :: dkey t := h
    injection h with h1 h2
    injection h1 with h1
    rw [dkey_inj h2, show a = b by omega]
theorem keysD_N : ∀ s : List Nat, keysD (s.map dN) = some (dkey s)
  | [] => rfl
  | a :: s => by
    rw [List.map_cons, keysD, keysD_N s]
    rfl
theorem look_dt2 (s : List Nat) : ∀ fs : List (List Nat × Rw), lookK (dkey s) (fs.map fun p => dkey p.1) (fs.map fun p => dR p.2) = (fs.lookup s).map dR
  | [] => rfl
  | p :: fs => by
    rw [List.map_cons, List.map_cons, lookK, List.lookup_cons]
    by_cases h : p.1 = s
    · rw [if_pos (by rw [h]), show (s == p.1) = true by simp [h]]
      rfl
    · rw [if_neg (fun e => h (dkey_inj e)), show (s == p.1) = false by simpa using fun e => h e.symm, look_dt2 s fs]
theorem setdef_ok (fs : List (List Nat × Rw)) (s : List Nat) (w : Rw) (hl : fs.length < szB) : setdefD (.dt (fs.map fun p => dkey p.1) (fs.map fun p => dR p.2)) [.tup (s.map dN), dR w] = some (.dt ((fst fs s w).2.map fun p => dkey p.1) ((fst fs s w).2.map fun p => dR p.2), dR (fst fs s w).1) := by
  unfold setdefD
  dsimp only
  rw [keysD_N, Option.bind_some, if_pos (by simpa using hl), look_dt2]
  unfold fst
  cases e : fs.lookup s with
  | some r => rfl
  | none => simp
def shD (n : Nat) (rows : List Rw) (b : Pr) : D := .tup [dN 0, dN (shw n rows b &&& (2 ^ n - 1)), dN (shw n rows b / 2 ^ n)]
def parD (n : Nat) (rows : List Rw) : Option (Rw × Rw) → D
  | none => .non
  | some p => .tup [dR p.1, dR p.2, shD n rows (px p.1.2 p.2.2)]
theorem c_parting (d : Nat) {S : Sto} {j k n : Nat} {rows : List Rw} {leads : List (Nat × Nat)} (K : Kod S j k n rows leads) (many : Nat) (hm : many ≤ 2) :
    callD tb (d + 4) 15 [.ref j, dN many] S = .ok (parD n rows (partF rows (wrs n (min many n)) [])) S := by
  have hn := K.n9
  rw [run15]
  generalize hL : wrs n (min many n) = L
  have hLv : ∀ w, w ∈ L → Vr n w := fun w hw => by rw [← hL] at hw; exact wrs_bd _ w hw
  have hLl : L.length ≤ 1000 := by rw [← hL]; exact wrs_len hn _ (by omega)
  have hw := c_wrongs (d + 2) K many hm
  rw [hL] at hw
  have hlp := for_or (C := ⟨tb, false, callD tb (d + 3)⟩) (t := .v 3) (b := L15_0) (x := .lst (L.map dR)) (S0 := S) (emb := dR)
    (Q := fun v _ S' => S' = S ∧ ∃ r w, partF rows L [] = some (r, w) ∧ v = parD n rows (some (r, w)))
    (I := fun r ρ S' => ∃ (fs : List (List Nat × Rw)) (s3 s4 s5 : Slot), ρ = [.val (.ref j), .val (dN many), .own (.dt (fs.map fun p => dkey p.1) (fs.map fun p => dR p.2)), s3, s4, s5] ∧ S' = S ∧ partF rows r fs = partF rows L [] ∧ (∀ p, p ∈ fs → p.2 ∈ L ∧ sgn rows p.2.2 = p.1) ∧ (∀ w, w ∈ r → w ∈ L) ∧ fs.length + r.length ≤ L.length) (fun a r ρ S' ⟨fs, s3, s4, s5, e1, e2, e3, e4, e5, e6⟩ => by
    subst e1
    subst e2
    rw [List.length_cons] at e6
    have ha := e5 a (List.mem_cons_self ..)
    have hv := hLv a ha
    obtain ⟨⟨k1, k2⟩, k3⟩ := fst_mem e4 ha
    have hs := c_signs d K (dN a.1) a.2.1 a.2.2 (p64 hn hv.2.1)
    have hsd := setdef_ok fs (sgn rows a.2) a (by unfold szB; omega)
    have hfl := fst_len fs (sgn rows a.2) a
    generalize hf : fst fs (sgn rows a.2) a = q at k1 k2 k3 hsd hfl
    have hqv := hLv q.1 k1
    have hpb : Bd n (px q.1.2 a.2) := hqv.2.px hv.2
    have hh := c_harmless (d + 1) K (dN 0) (q.1.2.1 ^^^ a.2.1) (q.1.2.2 ^^^ a.2.2) (p64 hn hpb.2)
    have hsh := c_shower (d + 1) K (dN 0) (q.1.2.1 ^^^ a.2.1) (q.1.2.2 ^^^ a.2.2) hpb.1 hpb.2
    have hiff := harmless_iff K hpb
    have hd : ∀ q : Rw, dR q = .tup [dN q.1, dN q.2.1, dN q.2.2] := fun _ => rfl
    rw [hd, hd] at hsd
    by_cases hin : px q.1.2 a.2 ∈ made (rows.map (·.2))
    · left
      have hz : leftOver (num n (q.1.2.1 ^^^ a.2.1, q.1.2.2 ^^^ a.2.2)) leads = 0 := hiff.mpr hin
      refine ⟨_, _, by simp_arith only [hd a, L15_0, K.o, mt_signs, hs, hsd, mt_harmless, hh, hz]; rfl, q.2, _, _, _, rfl, rfl, ?_, k3, fun w hw => e5 w (List.mem_cons_of_mem _ hw), by omega⟩
      rw [← e3, partF, hf, if_pos hin]
    · right
      have hz : ¬ leftOver (num n (q.1.2.1 ^^^ a.2.1, q.1.2.2 ^^^ a.2.2)) leads = 0 := fun h => hin (hiff.mp h)
      refine ⟨_, _, _, by simp_arith only [hd a, L15_0, K.o, mt_signs, hs, hsd, mt_harmless, hh, hz, mt_shower, hsh]; rfl, rfl, q.1, a, ?_, rfl⟩
      rw [← e3, partF, hf, if_neg hin]) L [.val (.ref j), .val (dN many), .own (.dt [] []), .no, .no, .no] S ⟨[], .no, .no, .no, rfl, rfl, rfl, (fun p hp => by cases hp), fun w hw => hw, by simp⟩
  rcases hlp with ⟨ρ', S', h1, fs, s3, s4, s5, rfl, rfl, h3, _⟩ | ⟨v, o, S', h1, rfl, r, w, h2, rfl⟩
  · simp_arith only [B15, rt15, K.o, mt_wrongs, hw, h1]
    rw [← h3]
    rfl
  · simp_arith only [B15, rt15, K.o, mt_wrongs, hw, h1]
    rw [h2]
theorem c_somepart (d : Nat) (S : Sto) {X : D} {n : Nat} {rows : List Rw} (hX : Lk S X (rows.map dR)) (hn : n ≤ 9) (hr : ∀ r, r ∈ rows → Vr n r) (hl : rows.length ≤ 9) (many : Nat) (hm : many ≤ 2) :
    callD tb (d + 4) 31 [X, dN n, dN many] S = .ok (.bl (partF rows (wrs n many) []).isSome) S := by
  rw [run31]
  generalize hL : wrs n many = L
  have hLv : ∀ w, w ∈ L → Vr n w := fun w hw => by rw [← hL] at hw; exact wrs_bd _ w hw
  have hLl : L.length ≤ 1000 := by rw [← hL]; exact wrs_len hn _ (by omega)
  have hw := c_lwrongs (d + 2) S n many hn hm
  rw [hL] at hw
  have hlp := for_or (C := ⟨tb, false, callD tb (d + 3)⟩) (t := .v 4) (b := L31_0) (x := .lst (L.map dR)) (S0 := S) (emb := dR)
    (Q := fun v _ S' => S' = S ∧ (partF rows L []).isSome = true ∧ v = .bl true)
    (I := fun r ρ S' => ∃ (fs : List (List Nat × Rw)) (s4 s5 : Slot), ρ = [.val X, .val (dN n), .val (dN many), .own (.dt (fs.map fun p => dkey p.1) (fs.map fun p => dR p.2)), s4, s5] ∧ S' = S ∧ partF rows r fs = partF rows L [] ∧ (∀ w, w ∈ r → w ∈ L) ∧ fs.length + r.length ≤ L.length) (fun a r ρ S' ⟨fs, s4, s5, e1, e2, e3, e5, e6⟩ => by
    subst e1
    subst e2
    rw [List.length_cons] at e6
    have ha := e5 a (List.mem_cons_self ..)
    have hv := hLv a ha
    have hs := c_lsigns d S' rows hX hl (fun r h => p64 hn (hr r h).2.1) (dN a.1) a.2.1 a.2.2 (p64 hn hv.2.1)
    have hsd := setdef_ok fs (sgn rows a.2) a (by unfold szB; omega)
    have hfl := fst_len fs (sgn rows a.2) a
    generalize hf : fst fs (sgn rows a.2) a = q at hsd hfl
    have hp := c_lparts (d + 1) S' rows hX hl (dN q.1.1) (dN a.1) q.1.2.1 q.1.2.2 a.2.1 a.2.2
    have hd : ∀ q : Rw, dR q = .tup [dN q.1, dN q.2.1, dN q.2.2] := fun _ => rfl
    rw [hd, hd] at hsd
    by_cases hin : px q.1.2 a.2 ∈ made (rows.map (·.2))
    · left
      have hz : px (q.1.2.1, q.1.2.2) (a.2.1, a.2.2) ∈ made (rows.map (·.2)) := hin
      refine ⟨_, _, by simp_arith only [hd a, L31_0, hs, hsd, hp, hz]; rfl, q.2, _, _, rfl, rfl, ?_, fun w hw => e5 w (List.mem_cons_of_mem _ hw), by omega⟩
      rw [← e3, partF, hf, if_pos hin]
    · right
      have hz : ¬ px (q.1.2.1, q.1.2.2) (a.2.1, a.2.2) ∈ made (rows.map (·.2)) := hin
      refine ⟨_, _, _, by simp_arith only [hd a, L31_0, hs, hsd, hp, hz]; rfl, rfl, ?_, rfl⟩
      rw [← e3, partF, hf, if_neg hin]
      rfl) L [.val X, .val (dN n), .val (dN many), .own (.dt [] []), .no, .no] S ⟨[], .no, .no, rfl, rfl, rfl, fun w hw => hw, by simp⟩
  rcases hlp with ⟨ρ', S', h1, fs, s3, s4, rfl, rfl, h3, _⟩ | ⟨v, o, S', h1, rfl, h2, rfl⟩
  · simp_arith only [B31, rt31, hw, h1]
    rw [← h3]
    rfl
  · simp_arith only [B31, rt31, hw, h1]
    rw [h2]
end Wk

set_option maxRecDepth 100000
set_option maxHeartbeats 0
namespace Wk
open PySem PySem.Spec MP PL
open PyProof.Rows hiding St
theorem sgn_len (rows : List Rw) (w : Pr) : (sgn rows w).length = rows.length := by unfold sgn; rw [List.length_map]
theorem eqN (l k : List Nat) : cmpD .Eq (.lst (l.map dN)) (.lst (k.map dN)) = some (decide (l = k)) := (eq_lst emN (by decide) l k).trans (congrArg some (dec_irrel _ _))
theorem neN (l k : List Nat) : cmpD .NotEq (.lst (l.map dN)) (.lst (k.map dN)) = some (!decide (l = k)) := (ne_lst emN (by decide) l k).trans (congrArg (fun b => some (!b)) (dec_irrel _ _))
theorem eqR (l k : List Rw) : cmpD .Eq (.lst (l.map dR)) (.lst (k.map dR)) = some (decide (l = k)) := (eq_lst emR (by decide) l k).trans (congrArg some (dec_irrel _ _))
theorem neR (l k : List Rw) : cmpD .NotEq (.lst (l.map dR)) (.lst (k.map dR)) = some (!decide (l = k)) := (ne_lst emR (by decide) l k).trans (congrArg (fun b => some (!b)) (dec_irrel _ _))
theorem eqR0 (l : List Rw) : cmpD .Eq (.lst (l.map dR)) (.lst []) = some (decide (l = [])) := eqR l []
theorem ninN (a : Nat) (l : List Nat) : cmpD .NotIn (dN a) (.lst (l.map dN)) = some (!decide (a ∈ l)) := (nin_lst emN (by decide) a l).trans (congrArg (fun b => some (!b)) (dec_irrel _ _))
theorem inP (a b : Nat) (l : List Pr) : cmpD .In (.tup [dN a, dN b]) (.lst (l.map dP)) = some (decide ((a, b) ∈ l)) := (in_lst emP (by decide) (a, b) l).trans (congrArg some (dec_irrel _ _))
/-! guess -/
theorem c_guess (d : Nat) {S : Sto} {j k n : Nat} {rows : List Rw} {leads : List (Nat × Nat)} (K : Kod S j k n rows leads) (many : Nat) (hm : many ≤ 2) (s : List Nat) :
    callD tb (d + 4) 17 [.ref j, .lst (s.map dN), dN many] S = match (wrs n (min many n)).find? (fun w => decide (sgn rows w.2 = s)) with
      | some w => .ok (dR w) S
      | none => .exc 3 S := by
  have hn := K.n9
  rw [run17]
  generalize hL : wrs n (min many n) = L
  have hLv : ∀ w, w ∈ L → Vr n w := fun w hw => by rw [← hL] at hw; exact wrs_bd _ w hw
  have hw := c_wrongs (d + 2) K many hm
  rw [hL] at hw
  have hlp := for_or (C := ⟨tb, false, callD tb (d + 3)⟩) (t := .v 3) (b := L17_0) (x := .lst (L.map dR)) (S0 := S) (emb := dR)
    (Q := fun v _ S' => S' = S ∧ ∃ w, L.find? (fun w => decide (sgn rows w.2 = s)) = some w ∧ v = dR w)
    (I := fun r ρ S' => ∃ (s3 : Slot), ρ = [.val (.ref j), .val (.lst (s.map dN)), .val (dN many), s3] ∧ S' = S ∧ r.find? (fun w => decide (sgn rows w.2 = s)) = L.find? (fun w => decide (sgn rows w.2 = s)) ∧ (∀ w, w ∈ r → w ∈ L)) (fun a r ρ S' ⟨s3, e1, e2, e3, e4⟩ => by
    subst e1
    subst e2
    have ha := e4 a (List.mem_cons_self ..)
    have hv := hLv a ha
    have hs := c_signs d K (dN a.1) a.2.1 a.2.2 (p64 hn hv.2.1)
    have hd : dR a = .tup [dN a.1, dN a.2.1, dN a.2.2] := rfl
    by_cases hin : sgn rows a.2 = s
    · right
      have hin2 : sgn rows (a.2.1, a.2.2) = s := hin
      refine ⟨_, _, _, by simp_arith only [hd, L17_0, K.o, mt_signs, hs, eqN, hin2]; rfl, rfl, a, ?_, rfl⟩
      rw [← e3, List.find?_cons, decide_eq_true hin]
    · left
      have hin2 : ¬ sgn rows (a.2.1, a.2.2) = s := hin
      refine ⟨_, _, by simp_arith only [hd, L17_0, K.o, mt_signs, hs, eqN, hin2]; rfl, _, rfl, rfl, ?_, fun w hw => e4 w (List.mem_cons_of_mem _ hw)⟩
      rw [← e3, List.find?_cons, decide_eq_false hin]) L [.val (.ref j), .val (.lst (s.map dN)), .val (dN many), .no] S ⟨.no, rfl, rfl, rfl, fun w hw => hw⟩
  rcases hlp with ⟨ρ', S', h1, s3, rfl, rfl, h3, _⟩ | ⟨v, o, S', h1, rfl, w, h2, rfl⟩
  · simp_arith only [B17, rt17, K.o, mt_wrongs, hw, h1]
    rw [← h3]
    rfl
  · simp_arith only [B17, rt17, K.o, mt_wrongs, hw, h1]
    rw [h2]
theorem ex3 : 3 < tb.excs.length := by rw [excs]; decide
theorem un33 : under tb 3 3 = true := by kernel_rfl
theorem try3 (g : Nat → List D → Sto → Res D) (h o : List MP.S) (ρ : MP.Frame) (S : Sto) : tryR ⟨tb, false, g⟩ 3 none h o (.ex 3 ρ S) = exB ⟨tb, true, g⟩ h ρ S := try_ex0 ex3 un33
theorem find_filter {α : Type} (p : α → Bool) : ∀ l : List α, l.find? p = (l.filter p).head?
  | [] => rfl
  | a :: l => by
    rw [List.find?_cons, List.filter_cons]
    cases p a with
    | true => rfl
    | false => exact find_filter p l
theorem c_guessright (d : Nat) {S : Sto} {j k n : Nat} {rows : List Rw} {leads : List (Nat × Nat)} {X : D} (K : Kod S j k n rows leads) (hX : Lk S X (rows.map dR)) (many : Nat) (hm : many ≤ 2) (s : List Nat) :
    callD tb (d + 5) 33 [.ref j, X, dN n, .lst (s.map dN), dN many] S = .ok (.bl true) S := by
  have hn := K.n9
  have hx64 : ∀ r, r ∈ rows → r.2.1 < 2 ^ 64 := fun r h => p64 hn (K.v r h).2.1
  rw [run33]
  have hg := c_guess d K many hm s
  rw [wrs_min K.n0 many hm, find_filter] at hg
  have hw := c_lwrongs (d + 3) S n many hn hm
  have hLv : ∀ w, w ∈ wrs n many → Vr n w := fun w hw => wrs_bd _ w hw
  have hl : ((wrs n many).map dR).length ≤ szB := by have := wrs_len hn many hm; rw [List.length_map]; unfold szB; omega
  have hc : compLoop ⟨tb, false, callD tb (d + 4)⟩ K33_0 (.v 7) [7] [Q33_0] [.val (.ref j), .val X, .val (dN n), .val (.lst (s.map dN)), .val (dN many), .no, .no, .no] (.lst ((wrs n many).map dR)) S ((wrs n many).map dR) S = .ok (((wrs n many).filter fun w => decide (sgn rows w.2 = s)).map dR) S := comp_filter fun a ha => by
    have hv := hLv a ha
    have hs := c_lsigns (d + 1) S rows hX K.rl hx64 (dN a.1) a.2.1 a.2.2 (p64 hn hv.2.1)
    have hd : dR a = .tup [dN a.1, dN a.2.1, dN a.2.2] := rfl
    by_cases hin : sgn rows a.2 = s
    · have hin2 : sgn rows (a.2.1, a.2.2) = s := hin
      simp_arith only [hd, K33_0, Q33_0, hs, eqN, hin2, hin]
    · have hin2 : ¬ sgn rows (a.2.1, a.2.2) = s := hin
      simp_arith only [hd, K33_0, Q33_0, hs, eqN, hin2, hin]
  generalize hf : (wrs n many).filter (fun w => decide (sgn rows w.2 = s)) = F at hg hc
  cases F with
  | nil =>
    have hq : cmpD .Eq (.lst []) (.lst []) = some true := eqR0 []
    rw [show ([] : List Rw).map dR = [] from rfl] at hc
    rw [show ([] : List Rw).head? = none from rfl] at hg
    simp_arith only [B33, rt33, hw, hl, hc, K.o, mt_guess, hg, try3, hq]
  | cons a F =>
    have ha : a ∈ (wrs n many).filter (fun w => decide (sgn rows w.2 = s)) := by rw [hf]; exact List.mem_cons_self ..
    obtain ⟨ha1, ha2⟩ := List.mem_filter.mp ha
    have ha2 := of_decide_eq_true ha2
    have hv := hLv a ha1
    obtain ⟨hw0, hw1⟩ := wrs_w many a ha1
    have hd : dR a = .tup [dN a.1, dN a.2.1, dN a.2.2] := rfl
    have hs := c_lsigns (d + 1) S rows hX K.rl hx64 (dN 0) a.2.1 a.2.2 (p64 hn hv.2.1)
    rw [show sgn rows (a.2.1, a.2.2) = s from ha2] at hs
    have hi := c_iswrong (d + 2) S a.2.1 a.2.2 n many hn hv.2.1 hv.2.2
    have ho := c_lones (d + 3) S (a.2.1 ||| a.2.2) (p64 hn (Nat.or_lt_two_pow hv.2.1 hv.2.2))
    rw [show (a :: F).head? = some a from rfl] at hg
    dsimp only at hg
    rw [hd, hw0] at hg
    have hne : cmpD .Eq (.lst ((a :: F).map dR)) (.lst []) = some false := by
      rw [eqR0]
      rfl
    rw [List.map_cons, hd, hw0] at hc hne
    simp_arith only [B33, rt33, hw, hl, hc, K.o, mt_guess, hg, hne, hi, hw1, hs, neN, ho]
theorem c_partright (d : Nat) {S : Sto} {X : D} {n : Nat} {rows : List Rw} (hX : Lk S X (rows.map dR)) (hn : n ≤ 9) (hn0 : 1 ≤ n) (hr : Rws n rows) (hl : rows.length ≤ 9) (many : Nat) (hm : many ≤ 2) :
    callD tb (d + 5) 32 [parD n rows (partF rows (wrs n (min many n)) []), X, dN n, dN many] S = .ok (.bl true) S := by
  have hx64 : ∀ r, r ∈ rows → r.2.1 < 2 ^ 64 := fun r h => p64 hn (hr.v r h).2.1
  have hsp := c_somepart d S hX hn hr.v hl many hm
  rw [wrs_min hn0 many hm]
  rw [run32]
  cases hp : partF rows (wrs n many) [] with
  | none =>
    rw [hp] at hsp
    have hsp : callD tb (d + 4) 31 [X, dN n, dN many] S = .ok (.bl false) S := hsp
    unfold parD
    simp_arith only [B32, rt32, hsp]
  | some p =>
    obtain ⟨r, w⟩ := p
    rw [hp] at hsp
    have hsp : callD tb (d + 4) 31 [X, dN n, dN many] S = .ok (.bl true) S := hsp
    obtain ⟨k1, k2, k3, k4⟩ := partF_ok (L := wrs n many) (wrs n many) [] (fun p hp => by cases hp) (fun w hw => hw) r w hp
    have hv1 := wrs_bd _ r k1
    have hv2 := wrs_bd _ w k2
    obtain ⟨w01, w11⟩ := wrs_w _ r k1
    obtain ⟨w02, w12⟩ := wrs_w _ w k2
    have hb : Bd n (px r.2 w.2) := hv1.2.px hv2.2
    have hnin : ¬ InP (rows.map (·.2)) (px r.2 w.2) := fun h => k4 ((mem_made _ _).mpr h)
    obtain ⟨s1, s2, s3⟩ := shw_ok hr hb hnin
    have hz : shw n rows (px r.2 w.2) / 2 ^ n < 2 ^ n := by
      apply Nat.div_lt_of_lt_mul
      rw [← Nat.pow_add, show n + n = 2 * n by omega]
      exact s1
    have hx : shw n rows (px r.2 w.2) % 2 ^ n < 2 ^ n := Nat.mod_lt _ (Nat.pow_pos (by omega))
    have hD : parD n rows (some (r, w)) = .tup [.tup [dN 0, dN r.2.1, dN r.2.2], .tup [dN 0, dN w.2.1, dN w.2.2], .tup [dN 0, dN (shw n rows (px r.2 w.2) % 2 ^ n), dN (shw n rows (px r.2 w.2) / 2 ^ n)]] := by
      unfold parD shD dR
      dsimp only
      rw [w01, w02, Nat.and_two_pow_sub_one_eq_mod]
    rw [hD]
    generalize shw n rows (px r.2 w.2) % 2 ^ n = ux at s2 s3 hx
    generalize shw n rows (px r.2 w.2) / 2 ^ n = uz at s2 s3 hz
    have i1 := c_iswrong (d + 2) S r.2.1 r.2.2 n many hn hv1.2.1 hv1.2.2
    have i2 := c_iswrong (d + 2) S w.2.1 w.2.2 n many hn hv2.2.1 hv2.2.2
    have i3 := c_isrow (d + 3) S 0 ux uz n (by omega) (by decide) hx hz
    have g1 := c_lsigns (d + 1) S rows hX hl hx64 (dN 0) r.2.1 r.2.2 (p64 hn hv1.2.1)
    have g2 := c_lsigns (d + 1) S rows hX hl hx64 (dN 0) w.2.1 w.2.2 (p64 hn hv2.2.1)
    have g3 := c_lsigns (d + 1) S rows hX hl hx64 (dN 0) ux uz (p64 hn hx)
    have hsame : sgn rows (r.2.1, r.2.2) = sgn rows (w.2.1, w.2.2) := k3
    have hlp := c_lparts (d + 2) S rows hX hl (dN 0) (dN 0) r.2.1 r.2.2 w.2.1 w.2.2
    have hk4 : ¬ px (r.2.1, r.2.2) (w.2.1, w.2.2) ∈ made (rows.map (·.2)) := k4
    have b1 := c_lbeside (d + 2) S (dN 0) (dN 0) ux uz r.2.1 r.2.2 (p64 hn hx) (p64 hn hv1.2.1)
    have b2 := c_lbeside (d + 2) S (dN 0) (dN 0) ux uz w.2.1 w.2.2 (p64 hn hx) (p64 hn hv2.2.1)
    have hno : ¬ 1 ∈ sgn rows (ux, uz) := fun h => by
      unfold sgn at h
      obtain ⟨q, hq, e⟩ := List.mem_map.mp h
      rw [s2 q hq] at e
      cases e
    have hne : ¬ bes (ux, uz) (r.2.1, r.2.2) = bes (ux, uz) (w.2.1, w.2.2) := fun h => by
      have h2 := s3
      rw [bes_px, show bes (ux, uz) r.2 = bes (ux, uz) w.2 from h] at h2
      simp at h2
    simp_arith only [B32, rt32, hsp, i1, i2, i3, w11, w12, g1, g2, g3, hsame, neN, hlp, hk4, ninN, hno, b1, b2, hne]
/-! what is told is changed -/
theorem c_rowsright (d : Nat) {S : Sto} {j k n : Nat} {rows : List Rw} {leads : List (Nat × Nat)} {X : D} (K : Kod S j k n rows leads) (hX : Lk S X (rows.map dR)) : callD tb (d + 2) 34 [.ref j, X] S = .ok (.bl true) S := by
  rw [run34]
  have hr := n_rng1 (j := 2) (by omega)
  have hq : cmpD .NotEq (.lst (rows.map dR)) (.lst (rows.map dR)) = some false := by rw [neR]; simp
  have hl : ((rows.map dR).reverse).length < szB := by have := K.rl; rw [List.length_reverse, List.length_map]; unfold szB; omega
  obtain ⟨ρ', S', h1, s2, s3, rfl, rfl⟩ := for_all (C := ⟨tb, false, callD tb (d + 1)⟩) (t := .v 2) (b := L34_0) (x := .lst ((List.range 2).map dN)) (S0 := S) (emb := dN)
    (I := fun r ρ S' => ∃ (s2 s3 : Slot), ρ = [.val (.ref j), .val X, s2, s3] ∧ S' = S) (fun a r ρ S' ⟨s2, s3, e1, e2⟩ => by
    subst e1
    subst e2
    exact ⟨_, _, by simp_arith only [L34_0, K.o, mt_rows, c_rows d K, hX.e, hq, ap_lst _ _ hl]; rfl, _, _, rfl, rfl⟩) (List.range 2) [.val (.ref j), .val X, .no, .no] S ⟨.no, .no, rfl, rfl⟩
  simp_arith only [B34, rt34, hr, h1]
def allB : Nat → List (List Nat)
  | 0 => [[]]
  | k + 1 => [] :: (allB k).flatMap fun s => [0 :: s, 1 :: s]
theorem mem_allB : ∀ (k : Nat) (s : List Nat), s.length ≤ k → (∀ b, b ∈ s → b < 2) → s ∈ allB k
  | 0, s, h, _ => by
    cases s with
    | nil => exact List.mem_singleton.mpr rfl
    | cons a s => simp at h
  | k + 1, [], _, _ => List.mem_cons_self ..
  | k + 1, a :: s, h, hb => by
    rw [List.length_cons] at h
    have h1 := mem_allB k s (by omega) fun b hb2 => hb b (List.mem_cons_of_mem _ hb2)
    have ha := hb a (List.mem_cons_self ..)
    have : a = 0 ∨ a = 1 := by omega
    refine List.mem_cons_of_mem _ (List.mem_flatMap.mpr ⟨s, h1, ?_⟩)
    rcases this with rfl | rfl <;> simp
theorem repr_all : ((allB 8).all fun s => match reprD (.lst (s.map dN)) with | some (.str _) => true | _ => false) = true := by kernel_rfl
theorem repr_bits {s : List Nat} (h : s.length ≤ 8) (hb : ∀ b, b ∈ s → b < 2) : ∃ x, reprD (.lst (s.map dN)) = some (.str x) := by
  have := List.all_eq_true.mp repr_all s (mem_allB 8 s h hb)
  revert this
  cases reprD (.lst (s.map dN)) with
  | none => exact fun h => by cases h
  | some v => cases v <;> intro h <;> first | exact ⟨_, rfl⟩ | cases h
theorem c_signsright (d : Nat) {S : Sto} {j k n : Nat} {rows : List Rw} {leads : List (Nat × Nat)} {X : D} (K : Kod S j k n rows leads) (hX : Lk S X (rows.map dR)) (hl8 : rows.length ≤ 8) (x z : Nat) (hx : x < 2 ^ n) : callD tb (d + 4) 35 [.ref j, X, .tup [dN 0, dN x, dN z]] S = .ok (.bl true) S := by
  rw [run35]
  have hn := K.n9
  have hr := n_rng1 (j := 2) (by omega)
  have hx64 : ∀ r, r ∈ rows → r.2.1 < 2 ^ 64 := fun r h => p64 hn (K.v r h).2.1
  have g1 := c_lsigns d S rows hX K.rl hx64 (dN 0) x z (p64 hn hx)
  have g2 := c_signs d K (dN 0) x z (p64 hn hx)
  obtain ⟨t, ht⟩ := repr_bits (s := sgn rows (x, z)) (by rw [sgn_len]; exact hl8) (fun b hb => by
    unfold sgn at hb
    obtain ⟨q, _, rfl⟩ := List.mem_map.mp hb
    cases bes (x, z) q.2 <;> decide)
  have hl : ((sgn rows (x, z)).map dN).length < szB := by rw [List.length_map, sgn_len]; unfold szB; omega
  obtain ⟨ρ', S', h1, s2, s3, rfl, rfl⟩ := for_all (C := ⟨tb, false, callD tb (d + 3)⟩) (t := .v 3) (b := L35_0) (x := .lst ((List.range 2).map dN)) (S0 := S) (emb := dN)
    (I := fun r ρ S' => ∃ (s2 s3 : Slot), ρ = [.val (.ref j), .val X, .val (.tup [dN 0, dN x, dN z]), s2, s3] ∧ S' = S) (fun a r ρ S' ⟨s2, s3, e1, e2⟩ => by
    subst e1
    subst e2
    exact ⟨_, _, by simp_arith only [L35_0, K.o, mt_signs, g1, g2, ht, ap_lst _ _ hl]; rfl, _, _, rfl, rfl⟩) (List.range 2) [.val (.ref j), .val X, .val (.tup [dN 0, dN x, dN z]), .no, .no] S ⟨.no, .no, rfl, rfl⟩
  simp_arith only [B35, rt35, hr, h1]
end Wk

set_option maxRecDepth 100000
set_option maxHeartbeats 0
namespace Wk
open PySem PySem.Spec MP PL
open PyProof.Rows hiding St
/-! the rows that the law draws -/
theorem rws_nil (n : Nat) : Rws n [] := ⟨fun r h => (by cases h), fun d r t e => (by cases d <;> cases e), fun d r t e => (by cases d <;> cases e)⟩
theorem rws_snoc {n : Nat} {rows : List Rw} (h : Rws n rows) {r : Rw} (hv : Vr n r) (hb : ∀ q, q ∈ rows → bes r.2 q.2 = true) (hi : ¬ InP (rows.map (·.2)) r.2) : Rws n (rows ++ [r]) := by
  refine ⟨fun q hq => ?_, fun d q t e => ?_, fun d q t e => ?_⟩
  · rcases List.mem_append.mp hq with hq | hq
    · exact h.v q hq
    · rw [List.mem_singleton.mp hq]
      exact hv
  · rcases snoc_split e with ⟨rfl, rfl, _⟩ | ⟨t', _, e2⟩
    · exact hb
    · exact h.b d q t' e2
  · rcases snoc_split e with ⟨rfl, rfl, _⟩ | ⟨t', _, e2⟩
    · exact hi
    · exact h.i d q t' e2
def base : List Pr := [(9, 6), (18, 12), (5, 24), (10, 17)]
def pcF : Nat → Nat → Nat
  | 0, _ => 0
  | k + 1, x => x % 2 + pcF k (x / 2)
theorem pcF_eq : ∀ (k x : Nat), x < 2 ^ k → pcF k x = pc x
  | 0, x, h => by
    have : x = 0 := by simpa using h
    subst this
    rw [pc0]
    rfl
  | k + 1, x, h => by rw [pcF, pcF_eq k (x / 2) (by rw [Nat.pow_succ] at h; omega), ← pc_step]
theorem base_bd : ∀ r, r ∈ base → Bd 5 r := by
  unfold Bd
  decide
theorem base_bes : ∀ r, r ∈ base → ∀ q, q ∈ base → bes r q = true := by
  have h : ∀ r, r ∈ base → ∀ q, q ∈ base → (pcF 5 (r.1 &&& q.2) + pcF 5 (r.2 &&& q.1)) % 2 = 0 := by decide
  intro r hr q hq
  have := h r hr q hq
  rw [pcF_eq 5 _ (and_lt _ _ _ (base_bd r hr).1), pcF_eq 5 _ (and_lt _ _ _ (base_bd r hr).2)] at this
  unfold bes
  exact decide_eq_true this
theorem base_ind : ∀ r, r ∈ base → ¬ InP (base.filter fun q => decide (q ≠ r)) r := by
  have key : ∀ r, r ∈ base → ¬ r ∈ made (base.filter fun q => decide (q ≠ r)) := by decide
  intro r hr h
  exact key r hr ((mem_made _ _).mpr h)
theorem rws_base {rows : List Rw} (h : (rows.map (·.2)).Perm base) (hm : ∀ r, r ∈ rows → r.1 < 2) : Rws 5 rows := by
  have hmem : ∀ r, r ∈ rows → r.2 ∈ base := fun r hr => h.mem_iff.mp (List.mem_map.mpr ⟨r, hr, rfl⟩)
  have hnd : (rows.map (·.2)).Nodup := h.nodup_iff.mpr (by decide)
  refine ⟨fun r hr => ⟨hm r hr, base_bd _ (hmem r hr)⟩, fun d r t e q hq => base_bes _ (hmem r (by rw [e]; simp)) _ (hmem q (by rw [e]; simp [hq])), fun d r t e hi => ?_⟩
  refine base_ind r.2 (hmem r (by rw [e]; simp)) (inP_sub (fun p hp => inP_mem ?_) hi)
  obtain ⟨q, hq, rfl⟩ := List.mem_map.mp hp
  refine List.mem_filter.mpr ⟨hmem q (by rw [e]; simp [hq]), decide_eq_true fun e2 => ?_⟩
  rw [e, List.map_append, List.map_cons] at hnd
  have := (List.nodup_append.mp hnd).2.2 q.2 hp r.2 (List.mem_cons_self ..)
  exact this e2
theorem erase_map {α β : Type} (f : α → β) : ∀ (l : List α) (i : Nat), (l.map f).eraseIdx i = (l.eraseIdx i).map f
  | [], _ => rfl
  | _ :: _, 0 => rfl
  | a :: l, i + 1 => by
    rw [List.map_cons, List.eraseIdx_cons_succ, List.eraseIdx_cons_succ, List.map_cons, erase_map f l i]
theorem erase_perm {α : Type} : ∀ (l : List α) (i : Nat) (h : i < l.length), (l[i] :: l.eraseIdx i).Perm l
  | a :: l, 0, _ => List.Perm.refl _
  | a :: l, i + 1, h => by
    have h2 : i < l.length := by simpa using h
    have := erase_perm l i h2
    exact (List.Perm.swap a l[i] (l.eraseIdx i)).trans (this.cons a)
/-- the drawer's cell changed, one more cell behind -/
def FS (S0 : Sto) (i : Nat) (l : List D) (S : Sto) : Prop := ∃ a b c : Int, S = S0.set i (.lst [.int a, .int b, .int c]) ++ [.lst l]
theorem FS.wc {S0 S : Sto} {i : Nat} {l : List D} (h : FS S0 i l S) (hi : i < S0.length) : Wc S i := by
  obtain ⟨a, b, c, rfl⟩ := h
  exact ⟨a, b, c, by rw [List.getElem?_append_left (by simpa using hi), List.getElem?_set_self hi]⟩
theorem FS.dr {S0 S S' : Sto} {i : Nat} {l : List D} (h : FS S0 i l S) (hi : i < S0.length) (d : Dr i S S') : FS S0 i l S' := by
  obtain ⟨a, b, c, rfl⟩ := h
  obtain ⟨x, y, z, rfl⟩ := d
  exact ⟨x, y, z, by rw [List.set_append_left _ _ (by simpa using hi), List.set_set]⟩
theorem FS.at {S0 S : Sto} {i : Nat} {l : List D} (h : FS S0 i l S) : S[S0.length]? = some (.lst l) := by
  obtain ⟨a, b, c, rfl⟩ := h
  rw [List.getElem?_append_right (by simp)]
  simp
theorem FS.put {S0 S : Sto} {i : Nat} {l k : List D} (h : FS S0 i l S) : FS S0 i k (S.set S0.length (.lst k)) := by
  obtain ⟨a, b, c, rfl⟩ := h
  exact ⟨a, b, c, by rw [List.set_append_right _ _ (by simp)]; simp⟩
theorem FS.init {S0 : Sto} {i : Nat} (h : Wc S0 i) : FS S0 i [] (S0 ++ [.lst []]) := by
  obtain ⟨a, b, c, e⟩ := Dr.refl h
  exact ⟨a, b, c, by rw [← e]⟩
theorem FS.ofDr {S S0 S' : Sto} {i : Nat} {l : List D} (d : Dr i S S0) (h : FS S0 i l S') : FS S i l S' := by
  obtain ⟨a, b, c, rfl⟩ := d
  obtain ⟨x, y, z, rfl⟩ := h
  exact ⟨x, y, z, by rw [List.set_set]⟩
theorem c_drawn (d : Nat) {S : Sto} {i : Nat} (hw : Wc S i) : ∃ n rows S', callD tb (d + 4) 24 [.ref i] S = .ok (.tup [dN n, .ref S.length]) S' ∧ FS S i (rows.map dR) S' ∧ 1 ≤ n ∧ n ≤ 6 ∧ Rws n rows ∧ rows.length ≤ 8 := by
  have hi := hw.lt
  obtain ⟨r0, S0, e0, d0, b0⟩ := c_draw (d + 2) hw 4 (by decide) (by decide)
  have hw0 := d0.wc hi
  have hi0 := hw0.lt
  have hlen0 : S0.length = S.length := d0.len
  by_cases h0 : r0 = 0
  · subst h0
    have hne : ∀ l : List Pr, cmpD .NotEq (.lst (l.map dP)) (.lst []) = some (!decide (l = [])) := fun l => (ne_lst emP (by decide) l []).trans (congrArg (fun b => some (!b)) (dec_irrel _ _))
    have hne0 : cmpD .NotEq (.lst []) (.lst []) = some false := hne []
    obtain ⟨k, ρ', S', h1, ⟨left, fnd, s5, s6, s7, rfl, hfs, hp, hm, hk⟩, h3⟩ := whl_inv (C := ⟨tb, false, callD tb (d + 3)⟩) (c := W24_0) (b := L24_0) (I := fun k ρ S' => ∃ (left : List Pr) (fnd : List Rw) (s5 s6 s7 : Slot), ρ = [.val (.ref i), .no, .val (.ref S0.length), .no, .own (.lst (left.map dP)), s5, s6, s7, .no] ∧ FS S0 i (fnd.map dR) S' ∧ (left ++ fnd.map (·.2)).Perm base ∧ (∀ r, r ∈ fnd → r.1 < 2) ∧ left.length = k) (fun k ρ S' ⟨left, fnd, s5, s6, s7, e1, hfs, hp, hm, hk⟩ => by
      subst e1
      by_cases hl : left = []
      · left
        subst hl
        simp_arith only [W24_0, hne0]
      · right
        have hlen : left.length + fnd.length = 4 := by
          have := hp.length_eq
          rw [List.length_append, List.length_map] at this
          exact this
        have hpos : 0 < left.length := List.length_pos_iff.mpr hl
        have hwk := hfs.wc hi0
        obtain ⟨r, S1, f1, d1, b1⟩ := c_draw (d + 2) hwk left.length hpos (by omega)
        have hfs1 := hfs.dr hi0 d1
        obtain ⟨m, S2, f2, d2, b2⟩ := c_draw (d + 2) (hfs1.wc hi0) 2 (by decide) (by decide)
        have hfs2 := hfs1.dr hi0 d2
        have hge : (left.map dP)[r]? = some (.tup [dN left[r].1, dN left[r].2]) := by
          rw [List.getElem?_map, List.getElem?_eq_getElem b1]
          rfl
        have hpop := n_popAt hge (by rw [List.length_map]; unfold szB; omega)
        rw [erase_map] at hpop
        have happ := ap_lst (fnd.map dR) (.tup [dN m, dN left[r].1, dN left[r].2]) (by rw [List.length_map]; unfold szB; omega)
        have hmp : fnd.map dR ++ [.tup [dN m, dN left[r].1, dN left[r].2]] = (fnd ++ [(m, left[r])]).map dR := by
          rw [List.map_append]
          rfl
        rw [hmp] at happ
        refine ⟨k - 1, S', [.val (.ref i), .no, .val (.ref S0.length), .no, .own (.lst ((left.eraseIdx r).map dP)), s5, .val (dN left[r].1), .val (dN left[r].2), .no], S2.set S0.length (.lst ((fnd ++ [(m, left[r])]).map dR)), by omega, by simp_arith only [W24_0, hne, hl], by simp_arith only [L24_0, List.length_map, f1, hpop, f2, look_ref hfs1.at, look_ref hfs2.at, happ], left.eraseIdx r, fnd ++ [(m, left[r])], _, _, _, rfl, hfs2.put, ?_, fun q hq => ?_, ?_⟩
        · rw [List.map_append]
          refine List.Perm.trans ?_ hp
          have p1 := (erase_perm left r b1).append_right (fnd.map (·.2))
          refine List.Perm.trans ?_ p1
          rw [← List.append_assoc]
          exact (List.perm_append_comm (l₁ := left.eraseIdx r ++ fnd.map (·.2)) (l₂ := [left[r]]))
        · rcases List.mem_append.mp hq with hq | hq
          · exact hm q hq
          · rw [List.mem_singleton.mp hq]
            exact b2
        · rw [List.length_eraseIdx_of_lt b1]
          omega) 4 100000 [.val (.ref i), .no, .val (.ref S0.length), .no, .own (.lst (base.map dP)), .no, .no, .no, .no] (S0 ++ [Cell.lst []]) (by decide) ⟨base, [], .no, .no, .no, rfl, (FS.init hw0 : FS S0 i (([] : List Rw).map dR) (S0 ++ [Cell.lst []])), by simp, (fun r h => by cases h), rfl⟩
    have hl : left = [] := by
      by_cases hl : left = []
      · exact hl
      · simp_arith only [W24_0, hne, hl] at h3
        cases h3
    subst hl
    refine ⟨5, fnd, S', ?_, FS.ofDr d0 hfs, by decide, by decide, rws_base (by simpa using hp) hm, ?_⟩
    · have hb : base.map dP = [.tup [dN 9, dN 6], .tup [dN 18, dN 12], .tup [dN 5, dN 24], .tup [dN 10, dN 17]] := rfl
      rw [hb] at h1
      rw [run24, ← hlen0]
      simp_arith only [B24, rt24, e0, tbfuel, h1]
    · have := hp.length_eq
      rw [List.length_append, List.length_map] at this
      have h4 : base.length = 4 := rfl
      have : fnd.length = 4 := by simpa [h4] using this
      omega
  · obtain ⟨r1, S1, e1, d1, b1⟩ := c_draw (d + 2) hw0 6 (by decide) (by decide)
    have hw1 := d1.wc hi0
    have hi1 := hw1.lt
    have hlen1 : S1.length = S.length := d1.len.trans hlen0
    have hfs1 := FS.init hw1
    obtain ⟨r2, S2, e2, d2, b2⟩ := c_draw (d + 2) (hfs1.wc hi1) 9 (by decide) (by decide)
    have hfs2 := hfs1.dr hi1 d2
    have hn9 : 1 + r1 ≤ 9 := by omega
    have hn3 : 1 + r1 ≤ 1000000 := by omega
    have h2n : 0 < 2 ^ (1 + r1) := Nat.pow_pos (by omega)
    have h2m : 2 ^ (1 + r1) < 1073741824 := Nat.lt_of_le_of_lt (Nat.pow_le_pow_right (by omega) hn9) (by decide)
    have hnin : ∀ (a b : Nat) (l : List Pr), cmpD .NotIn (.tup [dN a, dN b]) (.lst (l.map dP)) = some (!decide ((a, b) ∈ l)) := fun a b l => (nin_lst emP (by decide) (a, b) l).trans (congrArg (fun b => some (!b)) (dec_irrel _ _))
    obtain ⟨ρ', S', h1, fnd, s3, s5, s6, s7, rfl, hfs, hR, hlen⟩ := for_all (C := ⟨tb, false, callD tb (d + 3)⟩) (t := .v 3) (b := L24_1) (x := .lst ((List.range r2).map dN)) (S0 := S2) (emb := dN)
      (I := fun r ρ S' => ∃ (fnd : List Rw) (s3 s5 s6 s7 : Slot), ρ = [.val (.ref i), .val (dN (1 + r1)), .val (.ref S1.length), s3, .no, s5, s6, s7, .no] ∧ FS S1 i (fnd.map dR) S' ∧ Rws (1 + r1) fnd ∧ fnd.length + r.length ≤ 8) (fun a r ρ S' ⟨fnd, s3, s5, s6, s7, f1, hfs, hR, hlen⟩ => by
      subst f1
      rw [List.length_cons] at hlen
      obtain ⟨m, T1, g1, t1, c1⟩ := c_draw (d + 2) (hfs.wc hi1) 2 (by decide) (by decide)
      have hfs := hfs.dr hi1 t1
      obtain ⟨x, T2, g2, t2, c2⟩ := c_draw (d + 2) (hfs.wc hi1) (2 ^ (1 + r1)) h2n h2m
      have hfs := hfs.dr hi1 t2
      obtain ⟨z, T3, g3, t3, c3⟩ := c_draw (d + 2) (hfs.wc hi1) (2 ^ (1 + r1)) h2n h2m
      have hfs := hfs.dr hi1 t3
      have hlk := lk_ref hfs.at
      have hmk := c_lmade (d + 2) T3 fnd hlk (by omega)
      have hl : (fnd.map dR).length ≤ szB := by rw [List.length_map]; unfold szB; omega
      have hc : compLoop ⟨tb, false, callD tb (d + 3)⟩ K24_0 (.v 8) [8] [] [.val (.ref i), .val (dN (1 + r1)), .val (.ref S1.length), .val (dN a), .no, .val (.tup [dN m, dN x, dN z]), s6, s7, .no] (.ref S1.length) T3 (fnd.map dR) T3 = .ok (fnd.map fun q => .bl (bes (x, z) q.2)) T3 := comp_map fun q hq => by
        simp_arith only [cs_any, guardS_ok _ _ _ _ hlk.s, K24_0, dR, c_lbeside (d + 1) T3 (dN m) _ x z q.2.1 q.2.2 (p64 hn9 c2) (p64 hn9 (hR.v q hq).2.1)]
      have happ := ap_lst (fnd.map dR) (.tup [dN m, dN x, dN z]) (by rw [List.length_map]; unfold szB; omega)
      have hmp : fnd.map dR ++ [.tup [dN m, dN x, dN z]] = (fnd ++ [(m, (x, z))]).map dR := by
        rw [List.map_append]
        rfl
      rw [hmp] at happ
      by_cases hin : (x, z) ∈ made (fnd.map (·.2))
      · exact ⟨_, _, by simp_arith only [L24_1, g1, g2, g3, hn3, hmk, hnin, hin]; rfl, fnd, _, _, _, _, rfl, hfs, hR, by omega⟩
      · cases hall : fnd.all fun q => bes (x, z) q.2 with
        | false => exact ⟨_, _, by simp_arith only [L24_1, g1, g2, g3, hn3, hmk, hnin, hin, hlk.e, hl, hc, all_map, hall]; rfl, fnd, _, _, _, _, rfl, hfs, hR, by omega⟩
        | true =>
          refine ⟨_, _, by simp_arith only [L24_1, g1, g2, g3, hn3, hmk, hnin, hin, hlk.e, hl, hc, all_map, hall, happ]; rfl, fnd ++ [(m, (x, z))], _, _, _, _, rfl, hfs.put, rws_snoc hR ⟨c1, c2, c3⟩ (fun q hq => List.all_eq_true.mp hall q hq) (fun h => hin ((mem_made _ _).mpr h)), by simp; omega⟩) (List.range r2) [.val (.ref i), .val (dN (1 + r1)), .val (.ref S1.length), .no, .no, .no, .no, .no, .no] S2 ⟨[], .no, .no, .no, .no, rfl, hfs2, rws_nil _, by simp; omega⟩
    refine ⟨1 + r1, fnd, S', ?_, FS.ofDr (d0.trans d1) hfs, by omega, by omega, hR, by omega⟩
    rw [run24, ← hlen1]
    have hr := n_rng1 (j := r2) (by omega)
    simp_arith only [B24, rt24, e0, h0, e1, e2, hr, h1]
end Wk

set_option maxRecDepth 100000
set_option maxHeartbeats 0
namespace Wk
open PySem PySem.Spec MP PL
open PyProof.Rows hiding St
theorem Kod.mono {S S' : Sto} {j k n : Nat} {rows : List Rw} {leads : List (Nat × Nat)} (K : Kod S j k n rows leads) (h1 : S'[j]? = S[j]?) (h2 : S'[k]? = S[k]?) : Kod S' j k n rows leads := ⟨by rw [h1]; exact K.o, by rw [h2]; exact K.l, K.n9, K.n0, K.v, K.rl, K.ec, K.sp⟩
theorem repr_bl (b : Bool) : reprD (.bl b) = some (.str (bif b then "True" else "False")) := by cases b <;> rfl
theorem srcOk_of {S S' : Sto} {q : Nat} {l : List D} (h : S[q]? = some (.lst l)) (h' : S'[q]? = some (.lst l)) : srcOk (.ref q) S S' = true := by
  have := srcOk_cell h
  unfold srcOk at this ⊢
  dsimp only at this ⊢
  rw [look_ref h] at this ⊢
  rw [look_ref h']
  exact this
theorem c_asked (d : Nat) {S : Sto} {i j k q n : Nat} {rows : List Rw} {leads : List (Nat × Nat)} (hw : Wc S i) (K : Kod S j k n rows leads) (hR : Rws n rows) (hl8 : rows.length ≤ 8) (hq : S[q]? = some (.lst (rows.map dR))) (nj : j ≠ i) (nk : k ≠ i) (nq : q ≠ i) :
    ∃ S', callD tb (d + 6) 36 [.ref i, .ref j, .ref q, dN n] S = .ok (.bl true) S' ∧ Dr i S S' := by
  have hi := hw.lt
  have hn := K.n9
  obtain ⟨way, S1, e1, d1, b1⟩ := c_draw (d + 4) hw 10 (by decide) (by decide)
  obtain ⟨many, S2, e2, d2, b2⟩ := c_draw (d + 4) (d1.wc hi) 3 (by decide) (by decide)
  have d2 := d1.trans d2
  obtain ⟨x, z, S3, e3, d3, b3, b4⟩ := c_wrong (d + 2) (d2.wc hi) n K.n9 K.n0
  have d3 := d2.trans d3
  have hl : (rows.map dR).length ≤ szB := by rw [List.length_map]; unfold szB; omega
  have hq3 : S3[q]? = some (.lst (rows.map dR)) := by rw [d3.at nq]; exact hq
  obtain ⟨zs, S4, e4, ⟨d4, s, hs, hsl, hsb⟩⟩ := comp_inv (C := ⟨tb, false, callD tb (d + 5)⟩) (elt := K36_0) (t := .v 8) (own := [8]) (ifs := []) (ρ := [.val (.ref i), .val (.ref j), .val (.ref q), .val (dN n), .val (dN way), .val (dN many), .val (.tup [dN 0, dN x, dN z]), .no, .no]) (x := .ref q) (S0 := S3) (emb := dR)
    (I := fun r ys S' => Dr i S3 S' ∧ ∃ s : List Nat, ys = s.map dN ∧ s.length + r.length = rows.length ∧ ∀ b, b ∈ s → b < 2) (fun a r ys S' ⟨hd, s, e, hsl, hsb⟩ => by
      obtain ⟨b, S5, f1, d5, g1⟩ := c_draw (d + 4) (hd.wc (d3.wc hi).lt) 2 (by decide) (by decide)
      have d6 := hd.trans d5
      have hok := srcOk_of hq3 (show S5[q]? = _ by rw [d6.at nq]; exact hq3)
      refine ⟨some (dN b), S5, by simp_arith only [cs_any, K36_0, f1, guardS_ok _ _ _ _ hok], d6, s ++ [b], by rw [e, List.map_append]; rfl, by simp at hsl ⊢; omega, fun c hc => ?_⟩
      rcases List.mem_append.mp hc with hc | hc
      · exact hsb c hc
      · rw [List.mem_singleton.mp hc]
        exact g1) rows [] S3 ⟨Dr.refl (d3.wc hi), [], rfl, by simp, fun b h => by cases h⟩
  rw [List.nil_append] at hs
  subst hs
  have d4 := d3.trans d4
  have K4 : Kod S4 j k n rows leads := K.mono (d4.at nj) (d4.at nk)
  have hq4 : S4[q]? = some (.lst (rows.map dR)) := by rw [d4.at nq]; exact hq
  have hX := lk_ref hq4
  have hm : many ≤ 2 := by omega
  have hx64 : ∀ r, r ∈ rows → r.2.1 < 2 ^ 64 := fun r h => p64 hn (K.v r h).2.1
  refine ⟨S4, ?_, d4⟩
  rw [run36]
  have hp := c_parting (d + 1) K4 many hm
  have hpr := c_partright d hX hn K.n0 hR (by omega) many hm
  have hls := c_lsigns (d + 2) S4 rows hX (by omega) hx64 (dN 0) x z (p64 hn b3)
  have hg1 := c_guessright d K4 hX many hm (sgn rows (x, z))
  have hg2 := c_guessright d K4 hX many hm s
  have hh := c_harmless (d + 3) K4 (dN 0) x z (p64 hn b4)
  have hmk := c_lmade (d + 4) S4 rows hX (by omega)
  have hdec : decide (leftOver (num n (x, z)) leads = 0) = decide ((x, z) ∈ made (rows.map (·.2))) := by
    have := harmless_iff K4 (w := (x, z)) ⟨b3, b4⟩
    by_cases h : (x, z) ∈ made (rows.map (·.2))
    · rw [decide_eq_true h, decide_eq_true (this.mpr h)]
    · rw [decide_eq_false h, decide_eq_false (fun h2 => h (this.mp h2))]
  have hwi := c_wires (d + 4) K4
  have hh0 := c_harmless (d + 3) K4 (dN 0) 0 0 (by decide)
  have hz0 : leftOver (num n (0, 0)) leads = 0 := (harmless_iff K4 (w := (0, 0)) ⟨Nat.pow_pos (by omega), Nat.pow_pos (by omega)⟩).mpr ((mem_made _ _).mpr (inP_zero _))
  have hsr := c_signsright (d + 1) K4 hX hl8 x z b3
  by_cases w3 : way < 3
  · simp_arith only [B36, rt36, e1, e2, e3, frs19, frs25, look_ref hq3, hl, e4, w3, K4.o, mt_parting, hp, hpr]
  · by_cases w5 : way < 5
    · simp_arith only [B36, rt36, e1, e2, e3, frs19, frs25, look_ref hq3, hl, e4, w3, w5, hls, hg1]
    · by_cases w7 : way < 7
      · simp_arith only [B36, rt36, e1, e2, e3, frs19, frs25, look_ref hq3, hl, e4, w3, w5, w7, hg2]
      · by_cases w8 : way = 7
        · subst w8
          simp_arith only [B36, rt36, e1, e2, e3, frs19, frs25, look_ref hq3, hl, e4, w3, w5, w7, K4.o, mt_harmless, hh, hmk, inP, repr_bl, hdec]
        · by_cases w9 : way = 8
          · subst w9
            simp_arith only [B36, rt36, e1, e2, e3, frs19, frs25, look_ref hq3, hl, e4, w3, w5, w7, w8, K4.o, mt_wires, hwi, mt_harmless, hh0, hz0, beq_self_eq_true]
          · simp_arith only [B36, rt36, e1, e2, e3, frs19, frs25, look_ref hq3, hl, e4, w3, w5, w7, w8, w9, hsr]
theorem cut_map {α β : Type} (f : α → β) (l : List α) (a b : Option Int) : cutL (l.map f) a b = (cutL l a b).map f := by
  unfold cutL
  rw [List.length_map, List.map_take, List.map_drop]
theorem cut_len {α : Type} (l : List α) (a b : Option Int) : (cutL l a b).length ≤ l.length := by
  unfold cutL
  rw [List.length_take, List.length_drop]
  omega
theorem head_int (ns : List Int) : ∃ c : Int, (ns.map D.int ++ [dN 0])[0]? = some (.int c) := by
  cases ns with
  | nil => exact ⟨0, rfl⟩
  | cons a l => exact ⟨a, rfl⟩
theorem spec (ns : List Int) (hns : ns.length ≤ 63) : ∃ S', callD tb 40 37 [.lst (ns.map .int)] [] = .ok (.bl true) S' := by
  obtain ⟨c0, hc0⟩ := head_int ns
  obtain ⟨a0, a1, a2, e1⟩ := c_source 38 [] c0
  have hw1 : Wc [Cell.lst [.int a0, .int a1, .int a2]] 0 := ⟨a0, a1, a2, rfl⟩
  obtain ⟨n, rows, S2, e2, ⟨f0, f1, f2, rfl⟩, n1, n6, hR, hl8⟩ := c_drawn 35 hw1
  have hadd := bin_lst (ns.map D.int) [dN 0] (by simp; unfold szB; omega)
  have hrow : (rows.map dR).length ≤ szB := by rw [List.length_map]; unfold szB; omega
  obtain ⟨leads, e3, hE, hsp⟩ := c_init 35 (S := [Cell.lst [.int f0, .int f1, .int f2], .lst (rows.map dR), .ins 0 []]) (j := 2) (n := n) (rows := rows) rfl n1 (by omega) hR (by omega)
  have hK0 : Kod [Cell.lst [.int f0, .int f1, .int f2], .lst (rows.map dR), .ins 0 (flds n rows 3), .lst (leads.map dL)] 2 3 n rows leads := ⟨rfl, rfl, by omega, n1, hR.v, by omega, hE, hsp⟩
  have hsl : cutL (ns.map D.int) (some ((1 : Nat) : Int)) (some ((25 : Nat) : Int)) = (cutL ns (some ((1 : Nat) : Int)) (some ((25 : Nat) : Int))).map .int := cut_map _ _ _ _
  have hcl := cut_len ns (some ((1 : Nat) : Int)) (some ((25 : Nat) : Int))
  have hadd2 := bin_lst ((cutL ns (some ((1 : Nat) : Int)) (some ((25 : Nat) : Int))).map D.int) [dN 0, dN 1] (by rw [List.length_map]; show _ + 2 ≤ szB; unfold szB; omega)
  have hall : (cutL ns (some ((1 : Nat) : Int)) (some ((25 : Nat) : Int))).map D.int ++ [dN 0, dN 1] = (cutL ns (some ((1 : Nat) : Int)) (some ((25 : Nat) : Int)) ++ [0, 1]).map D.int := by
    rw [List.map_append]
    rfl
  rw [hall] at hadd2
  generalize cutL ns (some ((1 : Nat) : Int)) (some ((25 : Nat) : Int)) ++ [0, 1] = cells at hadd2
  obtain ⟨ρ', S', h1, s1, s3, rfl, _⟩ := for_all (C := ⟨tb, false, callD tb 39⟩) (t := .v 3) (b := L37_0) (x := .lst (cells.map D.int)) (S0 := [Cell.lst [.int f0, .int f1, .int f2], .lst (rows.map dR), .ins 0 (flds n rows 3), .lst (leads.map dL)]) (emb := D.int)
    (I := fun r ρ S' => ∃ s1 s3 : Slot, ρ = [.val (.lst (ns.map .int)), s1, .val (.ref 2), s3, .val (dN n), .val (.ref 1)] ∧ Kod S' 2 3 n rows leads ∧ S'[1]? = some (.lst (rows.map dR)) ∧ 4 ≤ S'.length) (fun a r ρ S' ⟨s1, s3, f1, K, hq, h4⟩ => by
      subst f1
      obtain ⟨b0, b1, b2, g1⟩ := c_source 38 S' a
      generalize hT : S' ++ [Cell.lst [.int b0, .int b1, .int b2]] = T at g1
      have hTl : T.length = S'.length + 1 := by rw [← hT]; simp
      have hTi : T[S'.length]? = some (.lst [.int b0, .int b1, .int b2]) := by rw [← hT, List.getElem?_append_right (Nat.le_refl _)]; simp
      have hTo : ∀ p, p < 4 → T[p]? = S'[p]? := fun p hp => by rw [← hT, List.getElem?_append_left (by omega)]
      have hwT : Wc T S'.length := ⟨b0, b1, b2, hTi⟩
      have KT : Kod T 2 3 n rows leads := K.mono (hTo 2 (by omega)) (hTo 3 (by omega))
      have hqT : T[1]? = some (.lst (rows.map dR)) := by rw [hTo 1 (by omega)]; exact hq
      obtain ⟨T1, g2, d1⟩ := c_asked 33 hwT KT hR hl8 hqT (by omega) (by omega) (by omega)
      obtain ⟨x, z, T2, g3, d2, bx, bz⟩ := c_wrong 36 (d1.wc hwT.lt) n K.n9 K.n0
      have d2 := d1.trans d2
      have K2 : Kod T2 2 3 n rows leads := KT.mono (d2.at (by omega)) (d2.at (by omega))
      have hq2 : T2[1]? = some (.lst (rows.map dR)) := by rw [d2.at (by omega)]; exact hqT
      have g4 := c_signsright 35 K2 (lk_ref hq2) hl8 x z bx
      have g5 := c_rowsright 37 K2 (lk_ref hq2)
      exact ⟨_, _, by simp_arith only [L37_0, g1, frs18, g2, g3, g4, g5]; rfl, _, _, rfl, K2, hq2, by rw [d2.len, hTl]; omega⟩) cells [.val (.lst (ns.map .int)), .val (.ref 0), .val (.ref 2), .no, .val (dN n), .val (.ref 1)] [Cell.lst [.int f0, .int f1, .int f2], .lst (rows.map dR), .ins 0 (flds n rows 3), .lst (leads.map dL)] ⟨.val (.ref 0), .no, rfl, hK0, rfl, by simp⟩
  refine ⟨S', ?_⟩
  have hsl2 := sl_lst (ns.map D.int) (some ((1 : Nat) : Int)) (some ((25 : Nat) : Int))
  have e1' : callD tb 39 18 [.int c0] [] = .ok (.ref 0) [Cell.lst [.int a0, .int a1, .int a2]] := e1
  have e2' : callD tb 39 24 [.ref 0] [Cell.lst [.int a0, .int a1, .int a2]] = .ok (.tup [dN n, .ref 1]) [Cell.lst [.int f0, .int f1, .int f2], .lst (rows.map dR)] := e2
  have e3' : callD tb 39 8 [.ref 2, dN n, .lst (rows.map dR)] [Cell.lst [.int f0, .int f1, .int f2], .lst (rows.map dR), .ins 0 []] = .ok .non [Cell.lst [.int f0, .int f1, .int f2], .lst (rows.map dR), .ins 0 (flds n rows 3), .lst (leads.map dL)] := e3
  have hlk : D.look [Cell.lst [.int f0, .int f1, .int f2], .lst (rows.map dR)] (.ref 1) = .lst (rows.map dR) := rfl
  rw [run37]
  simp_arith only [B37, rt37, hadd, hc0, e1', frs18, e2', hlk, mf0___init__, e3', hsl2, hsl, hadd2, h1]
end Wk

set_option maxRecDepth 100000
set_option maxHeartbeats 0
open PySem PySem.W PySem.Calls PyProof.Rows
theorem fin77 (spec : ∀ ns : List Int, ns.length ≤ 63 → (∀ z ∈ ns, Builtin.Int.intBits z ≤ 1048576) → ∃ S', MP.callD (Hd.t.tb (Hd.t.irs Hd.fuel) 100000) 40 37 [.lst (ns.map .int)] [] = .ok (.bl true) S') : PySem.Challenge.rw_twinwires_k77_a_code_in_any_order.Holds := by
  w_on; o_law
  refine HandSHeadRun.head_any (r := OpenLaw.row PySem.Challenge.rw_twinwires_k77_a_code_in_any_order) (q := view (OpenLaw.row PySem.Challenge.rw_twinwires_k77_a_code_in_any_order).prog [38]) (H := Hd.hk) (ob := Hd.ob) (M := 20000) (loose := Hd.names) (d := HandSHeadRun.topDef (OpenLaw.row PySem.Challenge.rw_twinwires_k77_a_code_in_any_order).prog 38) (kwd := []) Hd.ob_eq
    (by kernel_rfl) (fun s => by kernel_rfl) Hd.run (by kernel_rfl) (by kernel_rfl) (by kernel_rfl) (by rfl) (by first | assumption | decide +kernel) (by decide +kernel) ⟨rfl, rfl, rfl, rfl, rfl, by decide +kernel⟩ ?hw ?hc
  case hw => w_witness2
  case hc =>
    exact MP.walk_ofM (l := PySem.Challenge.rw_twinwires_k77_a_code_in_any_order) (n := 63) (k := 80) (x := "script") (CX := fun w => L2.CX _ w) rfl (by decide) (by kernel_rfl) ⟨rfl, by decide, by decide⟩
      (MP.lawF (t := Hd.t) (fuel := Hd.fuel) (wf := 100000) (n := 40) (parts := Hd.parts) (li := 37) (dn := "law") (by kernel_rfl) (by kernel_rfl) Hd.ok Hd.built Hd.bd rfl rfl rfl rfl rfl spec) (fun _ _ _ _ _ h => MP.noCX h)
theorem PySem.Challenge.cw_twinwires_k77_a_code_in_any_order_holds : PySem.Challenge.rw_twinwires_k77_a_code_in_any_order.Holds := by
  exact fin77 fun ns h _ => Wk.spec ns h
