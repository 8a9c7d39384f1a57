import PyProof.Rows.All
import PySem.Syntax
import PySem.Spec
import PyProof.P3Statements
import PyProof.EqLayable
import Wide.All
import OpenK.AllK
import Wide.FinOn
import HandS.ForMost
import HandS.ForExc
import HandS.Style
import HandS.Flow
import HandS.IsInst
import HandS.Conv
import HandS.TupLe
import HandS.TupAny
import HandS.Codes
import HandS.Zip
import HandS.Defaults
import HandS.Ends
import HandS.HeadEnd
import KE.KStateDown
import Lean
import HandS.Base
import HandS.Call
import HandS.More
import HandS.Words
import HandS.WordsExc
import HandS.Head0
import HandS.Head1
import HandS.Head2
import HandS.HeadHook1
import HandS.HeadHook2
import PySem.Challenge.RW_alwaysheld_k01_put_together
set_option Elab.async false
set_option linter.all false
set_option maxRecDepth 100000
set_option maxHeartbeats 0
set_option autoImplicit false
/-! Z1: values without a heap, a small language, and what its terms compute. -/
namespace Z
open PySem

inductive D where
  | non | bl (b : Bool) | int (i : Int) | str (s : Str)
  | tup (xs : List D) | lst (xs : List D)
  | dct (kvs : List (D × D)) | ins (c : Str) (fs : List (Str × D)) | exc (c : Str) (fs : List (Str × D))
  | ref (l : Nat)
  | scr (ns : List Int)

/-- what stands in a cell that may be changed -/
inductive Cell where
  | lst (xs : List D) | dct (kvs : List (D × D)) | ins (c : Str) (fs : List (Str × D))

abbrev Store := List Cell
/-- a local's slot: unbound, a value, or an object of its own that nobody else knows -/
inductive Sl where
  | un | val (d : D) | own (c : Cell)
abbrev Env := List Sl

inductive R (α : Type) where
  | ok (a : α) (ρ : Env) (st : Store)
  | exc (x : D) (ρ : Env) (st : Store)
  | bad
abbrev M (α : Type) := Env → Store → R α
def ret {α : Type} (a : α) : M α := fun ρ st => .ok a ρ st
def bind {α β : Type} (m : M α) (f : α → M β) : M β := fun ρ st => match m ρ st with
  | .ok a ρ' st' => f a ρ' st'
  | .exc x ρ' st' => .exc x ρ' st'
  | .bad => .bad
def bad {α : Type} : M α := fun _ _ => .bad
def opt {α : Type} : Option α → M α
  | some a => ret a
  | none => bad

/-- what a def is worth -/
inductive FR where
  | ok (d : D) (st : Store)
  | exc (x : D) (st : Store)
  | bad
abbrev Fn := List D → Store → FR

def Cell.toD : Cell → D
  | .lst xs => .lst xs
  | .dct kvs => .dct kvs
  | .ins c fs => .ins c fs

/-- a value as its content: a cell's content in the place of a cell -/
def view (st : Store) : D → D
  | .ref l => match st[l]? with
    | some c => c.toD
    | none => .ref l
  | d => d

/-! ### data that == compares -/
mutual
def toPy : D → Option PyData
  | .non => some .none
  | .bl b => some (.bool b)
  | .int i => some (.int i)
  | .str s => some (.str s)
  | .tup xs => (toPys xs).map .tuple
  | .lst xs => (toPys xs).map .list
  | .dct _ => none
  | .ins _ _ => none
  | .exc _ _ => none
  | .ref _ => none
  | .scr _ => none
def toPys : List D → Option (List PyData)
  | [] => some []
  | x :: xs => match toPy x, toPys xs with
    | some a, some as => some (a :: as)
    | _, _ => none
end
def eqD (x y : D) : Option Bool := match toPy x, toPy y with
  | some a, some b => if SeqAt.shaped a && SeqAt.shaped b then some (PyData.eqv a b) else none
  | _, _ => none

def line : Nat := 16777216
def mulOk (i j : Int) : Bool := (decide (-(2 ^ 64) < i) && decide (i < 2 ^ 64)) || (decide (-(2 ^ 64) < j) && decide (j < 2 ^ 64))
def powOk (i j : Int) : Bool := decide (0 ≤ j) && (decide (j ≤ 1000000) && decide (i.natAbs < 2 ^ 64))
def opD (op : Operator) (x y : D) : Option D := match x, y with
  | .int i, .int j => match op with
    | .Add => some (.int (i + j))
    | .Sub => some (.int (i - j))
    | .Mult => if mulOk i j then some (.int (i * j)) else none
    | .Mod => if 0 < j then some (.int (i % j)) else none
    | .FloorDiv => if 0 < j ∧ j < 1073741824 then some (.int (i / j)) else none
    | .Pow => if powOk i j then some (.int (i ^ j.toNat)) else none
    | .LShift => if powOk i j then some (.int (i * 2 ^ j.toNat)) else none
    | .RShift => if 0 ≤ j then some (.int (i / 2 ^ j.toNat)) else none
    | .BitAnd => some (.int (Builtin.bitAnd i j))
    | .BitOr => some (.int (Builtin.bitOr i j))
    | .BitXor => some (.int (Builtin.bitXor i j))
    | _ => none
  | .str a, .str b => match op with
    | .Add => if a.length + b.length ≤ line then some (.str (a ++ b)) else none
    | _ => none
  | .tup a, .tup b => match op with
    | .Add => if a.length + b.length ≤ line then some (.tup (a ++ b)) else none
    | _ => none
  | .lst a, .lst b => match op with
    | .Add => if a.length + b.length ≤ line then some (.lst (a ++ b)) else none
    | _ => none
  | _, _ => none
def unD (op : UnaryOp) (x : D) : Option D := match x with
  | .int i => match op with
    | .USub => some (.int (-i))
    | .Invert => some (.int (Builtin.bitNot i))
    | _ => none
  | _ => none
def truD : D → Option Bool
  | .non => some false
  | .bl b => some b
  | .int i => some (i != 0)
  | .str s => if s.length ≤ line then some ((s.length : Int) != 0) else none
  | .tup xs => some (!xs.isEmpty)
  | .lst xs => some (!xs.isEmpty)
  | _ => none
/-- flat things, for «in» -/
def flatD : D → Bool
  | .non | .bl _ | .int _ | .str _ => true
  | _ => false
def cmpD (op : CmpOp) (x y : D) : Option Bool := match op with
  | .Eq => eqD x y
  | .NotEq => (eqD x y).map (!·)
  | .Lt => match x, y with
    | .int i, .int j => some (decide (i < j))
    | _, _ => none
  | .LtE => match x, y with
    | .int i, .int j => some (decide (i ≤ j))
    | _, _ => none
  | .Gt => match x, y with
    | .int i, .int j => some (decide (j < i))
    | _, _ => none
  | .GtE => match x, y with
    | .int i, .int j => some (decide (j ≤ i))
    | _, _ => none
  | .Is => match x, y with
    | .non, .non => some true
    | _, .non => some false
    | .bl a, .bl b => some (decide (a = b))
    | _, _ => none
  | .IsNot => match x, y with
    | .non, .non => some false
    | _, .non => some true
    | .bl a, .bl b => some (!decide (a = b))
    | _, _ => none
  | _ => none

/-- a place from the front or the back -/
def ixN (n : Nat) (i : Int) : Option Nat := if 0 ≤ i then (if i < n then some i.toNat else none) else if -(n : Int) ≤ i then some (i + n).toNat else none
def subD (x i : D) : Option D := match i with
  | .int i => match x with
    | .tup xs => (ixN xs.length i).bind fun j => xs[j]?
    | .lst xs => (ixN xs.length i).bind fun j => xs[j]?
    | .scr ns => (ixN ns.length i).bind fun j => ns[j]?.map .int
    | _ => none
  | _ => none
def sIx (n d : Nat) : Option Int → Nat
  | none => d
  | some v => if v < 0 then (v + (n : Int)).toNat else min v.toNat n
def cut {α : Type} (xs : List α) (lo hi : Option Int) : List α := (xs.drop (sIx xs.length 0 lo)).take (sIx xs.length xs.length hi - sIx xs.length 0 lo)
def slcD (x : D) (lo hi : Option Int) : Option D := match x with
  | .tup xs => some (.tup (cut xs lo hi))
  | .lst xs => some (.lst (cut xs lo hi))
  | .scr ns => some (.lst ((cut ns lo hi).map .int))
  | .str s => if s.length ≤ line then some (.str ⟨(cut s.cps.toList lo hi).toArray⟩) else none
  | _ => none

/-! ### built-ins by values -/
inductive Ty where
  | bool | int | str | list | tuple | dict
  deriving DecidableEq
def tyD : D → Option Ty
  | .bl _ => some .bool
  | .int _ => some .int
  | .str _ => some .str
  | .lst _ => some .list
  | .tup _ => some .tuple
  | .dct _ => some .dict
  | _ => none
/-- isinstance, for what the framework knows -/
def isiD (x : D) (t : Ty) : Option Bool := match x with
  | .non => some false
  | .bl _ => some (decide (t = .bool ∨ t = .int))
  | .int _ => some (decide (t = .int))
  | .str _ => some (decide (t = .str))
  | .lst _ => some (decide (t = .list))
  | .tup _ => some (decide (t = .tuple))
  | .dct _ => some (decide (t = .dict))
  | _ => none

def intsD : List D → Option (List Int)
  | [] => some []
  | .int i :: r => (intsD r).map (i :: ·)
  | _ :: _ => none
def blsD : List D → Option (List Bool)
  | [] => some []
  | .bl b :: r => (blsD r).map (b :: ·)
  | _ :: _ => none

inductive BI where
  | len | sum | all | any | abs | int | tuple
  deriving DecidableEq
def biD (f : BI) (x : D) : Option D := match f with
  | .len => match x with
    | .tup xs => some (.int xs.length)
    | .lst xs => some (.int xs.length)
    | .scr ns => some (.int ns.length)
    | .str s => if s.length ≤ line then some (.int s.length) else none
    | _ => none
  | .sum => match x with
    | .lst xs => (intsD xs).map fun ns => .int ns.sum
    | _ => none
  | .all => match x with
    | .lst xs => (blsD xs).map fun bs => .bl (bs.all id)
    | _ => none
  | .any => match x with
    | .lst xs => (blsD xs).map fun bs => .bl (bs.any id)
    | _ => none
  | .abs => match x with
    | .int i => some (.int (if i < 0 then -i else i))
    | _ => none
  | .int => match x with
    | .int i => some (.int i)
    | .bl b => some (.int (if b then 1 else 0))
    | _ => none
  | .tuple => match x with
    | .tup xs => some (.tup xs)
    | .lst xs => some (.tup xs)
    | _ => none
/-- two ints -/
inductive BI2 where
  | max | min
  deriving DecidableEq
def bi2D (f : BI2) (x y : D) : Option D := match x, y with
  | .int i, .int j => match f with
    | .max => some (.int (if j > i then j else i))
    | .min => some (.int (if j < i then j else i))
  | _, _ => none

/-! ### the language -/
inductive Kd where
  | pure | cell
  deriving DecidableEq
mutual
/-- a target -/
inductive Tg where
  | nm (i : Nat) | tp (ts : Tgs)
inductive Tgs where
  | nil | cons (t : Tg) (r : Tgs)
end

mutual
inductive IE where
  | lit (d : D)
  | var (i : Nat)
  | con (i : Nat)
  | bin (op : Operator) (a b : IE)
  | un (op : UnaryOp) (a : IE)
  | not (a : IE)
  | and (a b : IE)
  | or (a b : IE)
  | one (a : IE)
  | ite (c a b : IE)
  | cmp (op : CmpOp) (a b : IE)
  | chain (op op' : CmpOp) (a b c : IE)
  | tup (es : IEs)
  | mk (k : Kd) (f : IF)
  | call (j : Nat) (es : IEs) (kws : IEs) (ord : List Nat)
  | bi (f : BI) (a : IE)
  | bi2 (f : BI2) (a b : IE)
  | isi (a : IE) (t : Ty)
  | sub (a b : IE)
  | slc (a : IE) (lo hi : IO)
  | pop (i : Nat) (e : IO)
  | cmpV (op : CmpOp) (i : Nat) (b : IE)
  | subV (i : Nat) (b : IE)
  | biV (f : BI) (i : Nat)
  | cellV (i : Nat)
inductive IEs where
  | nil | cons (e : IE) (r : IEs)
inductive IO where
  | none | some (e : IE)
/-- what makes a new list -/
inductive IF where
  | disp (es : IEs)
  | lc (elt : IE) (t : Tg) (it : II) (ifs : IO) (vs : List Nat)
  | lc2 (elt : IE) (t : Tg) (it : II) (ifs : IO) (t1 : Tg) (it1 : II) (ifs1 : IO) (vs vs1 : List Nat)
  | cat (a b : IE)
  | rep (a b : IE)
  | list (a : IE)
  | listR (a : IE)
/-- what is walked -/
inductive II where
  | seq (e : IE) | range1 (a : IE) | range2 (a b : IE) | enum (e : IE) | zip (a b : IE)
end

/-- the numbers of a range -/
def rng (lo hi : Int) : List D := (List.range (hi - lo).toNat).map fun i => .int (lo + (i : Nat))
def small (i : Int) : Bool := decide (-(2 ^ 62) ≤ i) && decide (i < 2 ^ 62)

def setSl (i : Nat) (s : Sl) : M Unit := fun ρ st => if i < ρ.length then .ok () (ρ.set i s) st else .bad
/-- a local's value; an object of its own becomes a value -/
def getV (i : Nat) : M D := fun ρ st => match ρ[i]? with
  | some (.val d) => .ok d ρ st
  | some (.own c) => .ok c.toD (ρ.set i (.val c.toD)) st
  | _ => .bad
/-- a local's content, the local left as it is -/
def peek (i : Nat) : M D := fun ρ st => match ρ[i]? with
  | some (.val d) => .ok (view st d) ρ st
  | some (.own c) => .ok c.toD ρ st
  | _ => .bad
/-- the local's object is changed -/
def upM {α : Type} (i : Nat) (f : Cell → Option (Cell × α)) : M α := fun ρ st => match ρ[i]? with
  | some (.own c) => match f c with
    | some (c', a) => .ok a (ρ.set i (.own c')) st
    | none => .bad
  | some (.val (.ref l)) => match st[l]? with
    | some c => match f c with
      | some (c', a) => .ok a ρ (st.set l c')
      | none => .bad
    | none => .bad
  | _ => .bad
/-- the local's list is there -/
def cellAt (i : Nat) : M Unit := fun ρ st => match ρ[i]? with
  | some (.own (.lst _)) => .ok () ρ st
  | some (.val (.ref l)) => match st[l]? with
    | some (.lst _) => .ok () ρ st
    | _ => .bad
  | _ => .bad
/-- an object of its own goes into a cell -/
def cellM (i : Nat) : M D := fun ρ st => match ρ[i]? with
  | some (.own c) => .ok (.ref st.length) (ρ.set i (.val (.ref st.length))) (st ++ [c])
  | _ => .bad
def viewM (d : D) : M D := fun ρ st => .ok (view st d) ρ st
def alloc (c : Cell) : M D := fun ρ st => .ok (.ref st.length) ρ (st ++ [c])
def mkC (k : Kd) (c : Cell) : M D := match k with
  | .pure => ret c.toD
  | .cell => alloc c

def itemsD : D → Option (List D)
  | .tup xs => some xs
  | .lst xs => some xs
  | _ => none
mutual
def bindT : Tg → D → M Unit
  | .nm i, d => setSl i (.val d)
  | .tp ts, d => bind (viewM d) fun d => bind (opt (itemsD d)) fun ds => bindTs ts ds
def bindTs : Tgs → List D → M Unit
  | .nil, [] => ret ()
  | .cons t r, d :: ds => bind (bindT t d) fun _ => bindTs r ds
  | _, _ => bad
end

/-- the slots of a block's own names are forgotten -/
def wipe (ρ : Env) : List Nat → Env
  | [] => ρ
  | v :: vs => (wipe ρ vs).set v .un
def wipeM (vs : List Nat) : M Unit := fun ρ st => .ok () (wipe ρ vs) st
/-- nothing is raised within -/
def calm {α : Type} (m : M α) : M α := fun ρ st => match m ρ st with
  | .ok a ρ' st' => .ok a ρ' st'
  | _ => .bad
/-- the turns of a comprehension -/
def turns (go : D → M (List D)) : List D → M (List D)
  | [] => ret []
  | x :: xs => bind (go x) fun a => bind (turns go xs) fun b => ret (a ++ b)
/-- the slots of a block's own names are as they were ahead of it -/
def restore (ρ : Env) (ρ' : Env) : List Nat → Env
  | [] => ρ'
  | v :: vs => (restore ρ ρ' vs).set v ((ρ[v]?).getD .un)
def isOwn : Option Sl → Bool
  | some (.own _) => true
  | _ => false
def block {α : Type} (vs : List Nat) (m : M α) : M α := fun ρ st => if vs.any (fun i => isOwn ρ[i]?) then .bad else match m ρ st with
  | .ok a ρ' st' => .ok a (restore ρ ρ' vs) st'
  | _ => .bad
def seqItems (d : D) : Option (List D) := match d with
  | .tup xs => some xs
  | .lst xs => some xs
  | _ => none
def fits (xs : List D) : M (List D) := if xs.length ≤ line then ret xs else bad

def popC (k : Option Int) : Cell → Option (Cell × D)
  | .lst xs => match k with
    | none => match xs[xs.length - 1]? with
      | some y => some (.lst xs.dropLast, y)
      | none => none
    | some i => match ixN xs.length i with
      | some j => match xs[j]? with
        | some y => some (.lst (xs.eraseIdx j), y)
        | none => none
      | none => none
  | _ => none
def popS (k : Option Int) (c : Cell) : Option (Cell × D) := match k with
  | some j => if small j then popC (some j) c else none
  | none => popC none c
def setC (i v : D) : Cell → Option (Cell × Unit)
  | .lst xs => match i with
    | .int k => match ixN xs.length k with
      | some j => some (.lst (xs.set j v), ())
      | none => none
    | _ => none
  | _ => none
inductive MT where
  | append | extend | insert | reverse | clear
  deriving DecidableEq
def mtC (m : MT) (as : List D) : Cell → Option (Cell × Unit)
  | .lst xs => match m, as with
    | .append, [d] => if xs.length < line then some (.lst (xs ++ [d]), ()) else none
    | .reverse, [] => some (.lst xs.reverse, ())
    | .clear, [] => some (.lst [], ())
    | _, _ => none
  | _ => none
def pickO (ds : List D) (ord : List Nat) : Option (List D) := match ord with
  | [] => some ds
  | _ => ord.mapM fun i => ds[i]?
def callM (F : Fn) (ds : List D) : M D := fun ρ st => match F ds st with
  | .ok d st' => .ok d ρ st'
  | .exc x st' => .exc x ρ st'
  | .bad => .bad

/-- what a def sees of the module: the defs that it calls, the constants that it names -/
structure Gm where
  fs : List Fn
  cs : List D
def fnAt (Fs : List Fn) (j : Nat) : Fn := match Fs[j]? with
  | some F => F
  | none => fun _ _ => .bad
section
variable (G : Gm)
mutual
def evE : IE → M D
  | .lit d => ret d
  | .var i => getV i
  | .con i => opt G.cs[i]?
  | .bin op a b => bind (evE a) fun x => bind (evE b) fun y => bind (viewM x) fun x => bind (viewM y) fun y => opt (opD op x y)
  | .un op a => bind (evE a) fun x => opt (unD op x)
  | .not a => bind (evE a) fun x => bind (viewM x) fun x => bind (opt (truD x)) fun b => ret (.bl (!b))
  | .and a b => bind (evE a) fun x => bind (viewM x) fun v => bind (opt (truD v)) fun t => if t then evE b else ret x
  | .or a b => bind (evE a) fun x => bind (viewM x) fun v => bind (opt (truD v)) fun t => if t then ret x else evE b
  | .one a => evE a
  | .ite c a b => bind (evE c) fun x => bind (viewM x) fun x => bind (opt (truD x)) fun t => if t then evE a else evE b
  | .cmp op a b => bind (evE a) fun x => bind (evE b) fun y => bind (viewM x) fun x => bind (viewM y) fun y => bind (opt (cmpD op x y)) fun t => ret (.bl t)
  | .chain op op' a b c => bind (evE a) fun x => bind (evE b) fun y => bind (opt (cmpD op x y)) fun t => if t then bind (evE c) fun z => bind (opt (cmpD op' y z)) fun t => ret (.bl t) else ret (.bl false)
  | .tup es => bind (evEs es) fun ds => bind (fits ds) fun ds => ret (.tup ds)
  | .mk k f => bind (evF f) fun c => mkC k c
  | .call j es kws ord => bind (evEs es) fun ds => bind (evEs kws) fun ks => bind (opt (pickO (ds ++ ks) ord)) fun as => callM (fnAt G.fs j) as
  | .bi f a => bind (evE a) fun x => bind (viewM x) fun x => opt (biD f x)
  | .bi2 f a b => bind (evE a) fun x => bind (evE b) fun y => opt (bi2D f x y)
  | .isi a t => bind (evE a) fun x => bind (viewM x) fun x => bind (opt (isiD x t)) fun b => ret (.bl b)
  | .sub a b => bind (evE a) fun x => bind (evE b) fun y => bind (viewM x) fun x => opt (subD x y)
  | .slc a lo hi => bind (evE a) fun x => bind (evO lo) fun l => bind (evO hi) fun h => bind (viewM x) fun x => opt (slcD x l h)
  | .pop i e => bind (cellAt i) fun _ => bind (evO e) fun k => upM i (popS k)
  | .cmpV op i b => bind (peek i) fun _ => bind (evE b) fun y => bind (peek i) fun x => bind (viewM y) fun y => bind (opt (cmpD op x y)) fun t => ret (.bl t)
  | .subV i b => bind (peek i) fun _ => bind (evE b) fun y => bind (peek i) fun x => opt (subD x y)
  | .biV f i => bind (peek i) fun x => opt (biD f x)
  | .cellV i => cellM i
def evEs : IEs → M (List D)
  | .nil => ret []
  | .cons e r => bind (evE e) fun d => bind (evEs r) fun ds => ret (d :: ds)
def evO : IO → M (Option Int)
  | .none => ret none
  | .some e => bind (evE e) fun d => match d with
    | .int i => ret (some i)
    | _ => bad
def evF : IF → M Cell
  | .disp es => bind (evEs es) fun ds => bind (fits ds) fun ds => ret (.lst ds)
  | .lc elt t it ifs vs => bind (evI it) fun xs => bind (block vs (turns (fun x => bind (wipeM vs) fun _ => bind (bindT t x) fun _ => bind (evT ifs) fun b => if b then bind (evE elt) fun d => ret [d] else ret []) xs)) fun ds => bind (fits ds) fun ds => ret (.lst ds)
  | .lc2 elt t it ifs t1 it1 ifs1 vs vs1 => bind (evI it) fun xs => bind (block vs (turns (fun x => bind (wipeM vs) fun _ => bind (bindT t x) fun _ => bind (evT ifs) fun b => if b then
      bind (evI it1) fun ys => turns (fun y => bind (wipeM vs1) fun _ => bind (bindT t1 y) fun _ => bind (evT ifs1) fun b => if b then bind (evE elt) fun d => ret [d] else ret []) ys else ret []) xs)) fun ds => bind (fits ds) fun ds => ret (.lst ds)
  | .cat a b => bind (evE a) fun x => bind (evE b) fun y => bind (viewM x) fun x => bind (viewM y) fun y => match x, y with
    | .lst xs, .lst ys => bind (fits (xs ++ ys)) fun ds => ret (.lst ds)
    | _, _ => bad
  | .rep a b => bind (evE a) fun x => bind (evE b) fun y => match x, y with
    | .lst xs, .int k => if small k && decide (xs.length * k.toNat ≤ line) then ret (.lst (List.replicate k.toNat xs).flatten) else bad
    | _, _ => bad
  | .list a => bind (evE a) fun x => bind (viewM x) fun x => match x with
    | .lst xs => ret (.lst xs)
    | .tup xs => ret (.lst xs)
    | _ => bad
  | .listR a => bind (evE a) fun x => match x with
    | .int n => if small n && decide (n.toNat ≤ line) then ret (.lst (rng 0 n)) else bad
    | _ => bad
/-- a clause's test -/
def evT : IO → M Bool
  | .none => ret true
  | .some e => bind (evE e) fun x => bind (viewM x) fun x => opt (truD x)
def evI : II → M (List D)
  | .seq e => bind (evE e) fun x => opt (seqItems x)
  | .range1 a => bind (evE a) fun x => match x with
    | .int n => if small n then ret (rng 0 n) else bad
    | _ => bad
  | .range2 a b => bind (evE a) fun x => bind (evE b) fun y => match x, y with
    | .int i, .int j => if small i && small j then ret (rng i j) else bad
    | _, _ => bad
  | .enum e => bind (evE e) fun x => bind (opt (seqItems x)) fun xs => ret ((List.range xs.length).zip xs |>.map fun p => .tup [.int (p.1 : Nat), p.2])
  | .zip a b => bind (evE a) fun x => bind (evE b) fun y => bind (opt (seqItems x)) fun xs => bind (opt (seqItems y)) fun ys => ret ((xs.zip ys).map fun p => .tup [p.1, p.2])
end
end

/-! ### statements -/
mutual
inductive IS where
  | asg (t : Tg) (e : IE)
  | par (is : List Nat) (es : IEs)
  | own (i : Nat) (f : IF)
  | expr (e : IE) | ret (e : IE) | retN | pass | brk | cnt
  | ite (c : IE) (a b : ISs)
  | for (t : Tg) (it : II) (b : ISs)
  | whl (c : IE) (b : ISs)
  | set (i : Nat) (ix e : IE)
  | mth (i : Nat) (m : MT) (es : IEs)
inductive ISs where
  | nil | cons (s : IS) (r : ISs)
end
inductive Fl where
  | next | ret (d : D) | brk | cnt

/-- the stores of a, b = x, y: all is evaluated first -/
def stores : List Nat → List D → M Unit
  | [], [] => ret ()
  | i :: is, d :: ds => bind (setSl i (.val d)) fun _ => stores is ds
  | _, _ => bad
/-- the turns of a for -/
def loopF (go : D → M Fl) : List D → M Fl
  | [] => ret .next
  | x :: xs => bind (go x) fun f => match f with
    | .next => loopF go xs
    | .cnt => loopF go xs
    | .brk => ret .next
    | .ret d => ret (.ret d)
/-- the turns of a while, so many at most -/
def loopW (c : M Bool) (b : M Fl) : Nat → M Fl
  | 0 => bad
  | n + 1 => bind c fun t => if t then bind b fun f => match f with
    | .next => loopW c b n
    | .cnt => loopW c b n
    | .brk => ret .next
    | .ret d => ret (.ret d) else ret .next
def many : Nat := 1000000000

section
variable (G : Gm)
mutual
def evS : IS → M Fl
  | .asg t e => bind (evE G e) fun d => bind (bindT t d) fun _ => ret .next
  | .par is es => bind (evEs G es) fun ds => bind (stores is ds) fun _ => ret .next
  | .own i f => bind (evF G f) fun c => bind (setSl i (.own c)) fun _ => ret .next
  | .expr e => bind (evE G e) fun _ => ret .next
  | .ret e => bind (evE G e) fun d => ret (.ret d)
  | .retN => ret (.ret .non)
  | .pass => ret .next
  | .brk => ret .brk
  | .cnt => ret .cnt
  | .ite c a b => bind (evT G (.some c)) fun t => if t then evSs a else evSs b
  | .for t it b => bind (evI G it) fun xs => loopF (fun x => bind (bindT t x) fun _ => evSs b) xs
  | .whl c b => loopW (evT G (.some c)) (evSs b) many
  | .set i ix e => bind (bind (evE G e) fun d => bind (cellAt i) fun _ => bind (evE G ix) fun k => upM i (setC k d)) fun _ => ret .next
  | .mth i m es => bind (bind (cellAt i) fun _ => bind (evEs G es) fun ds => upM i (mtC m ds)) fun _ => ret .next
def evSs : ISs → M Fl
  | .nil => ret .next
  | .cons s r => bind (evS s) fun f => match f with
    | .next => evSs r
    | f => ret f
end
end
/-- a def: how many parameters, how many names, its body -/
structure Def where
  np : Nat
  nn : Nat
  body : ISs
def startE (n : Nat) (ds : List D) : Env := ds.map .val ++ List.replicate (n - ds.length) .un
def run (G : Gm) (d : Def) : Fn := fun ds st => if ds.length = d.np then match evSs G d.body (startE d.nn ds) st with
  | .ok (.ret v) _ st' => .ok v st'
  | .ok .next _ st' => .ok .non st'
  | .exc x _ st' => .exc x st'
  | _ => .bad else .bad
/-- a def that calls itself, so deep at most -/
def runRec (G : Gm) (d : Def) : Nat → Fn
  | 0 => fun _ _ => .bad
  | n + 1 => run ⟨runRec G d n :: G.fs, G.cs⟩ d
end Z

/-! Z2: how the values of Z1 lie in the layer's heap; one rule a construct. -/
namespace Z
open PySem PySem.Spec L2
open PyProof.Rows hiding St

/-- the written part and the module's names -/
structure Ct where
  K : PySem.W.Frag
  mg : Str → Option Value
abbrev ct (X : Cx) : Ct := ⟨X.K, X.mg⟩

mutual
/-- a value as the machine has it: F: what is never changed, L: where the cells lie -/
inductive RelD (C : Ct) (F : Hp) (L : List Addr) : V → D → Prop
  | non : RelD C F L .non .non
  | bl (b : Bool) : RelD C F L (.bl b) (.bl b)
  | int (i : Int) : RelD C F L (.int i) (.int i)
  | str (s : Str) : RelD C F L (.str s) (.str s)
  | tup {a : Addr} {vs : List V} {ds : List D} (h : SqT C.K F a vs) (r : RelDs C F L vs ds) : RelD C F L (.ref a) (.tup ds)
  | lst {a : Addr} {vs : List V} {ds : List D} (h : F a = some (.lst vs)) (r : RelDs C F L vs ds) : RelD C F L (.ref a) (.lst ds)
  | ref {a : Addr} {l : Nat} (h : L[l]? = some a) : RelD C F L (.ref a) (.ref l)
  | scr {a : Addr} {ns : List Int} (h : SqL C.K F a (ns.map V.int)) : RelD C F L (.ref a) (.scr ns)
inductive RelDs (C : Ct) (F : Hp) (L : List Addr) : List V → List D → Prop
  | nil : RelDs C F L [] []
  | cons {v : V} {d : D} {vs : List V} {ds : List D} (h : RelD C F L v d) (r : RelDs C F L vs ds) : RelDs C F L (v :: vs) (d :: ds)
end

structure Wd where
  F : Hp
  L : List Addr
def RelC (C : Ct) (w : Wd) (H : Hp) (a : Addr) : Cell → Prop
  | .lst ds => ∃ vs, H a = some (.lst vs) ∧ RelDs C w.F w.L vs ds
  | _ => False

/-- the world grows -/
structure Gr (w w' : Wd) : Prop where
  f : ∀ a o, w.F a = some o → w'.F a = some o
  l : ∃ more, w'.L = w.L ++ more
theorem Gr.refl (w : Wd) : Gr w w := ⟨fun _ _ h => h, [], by simp⟩
theorem Gr.trans {a b c : Wd} (h : Gr a b) (g : Gr b c) : Gr a c := ⟨fun x o e => g.f x o (h.f x o e), by
  obtain ⟨m, e⟩ := h.l
  obtain ⟨n, e'⟩ := g.l
  exact ⟨m ++ n, by rw [e', e, List.append_assoc]⟩⟩
theorem sqT_mono {K : PySem.W.Frag} {F F' : Hp} (hf : ∀ a o, F a = some o → F' a = some o) {a : Addr} {vs : List V} (h : SqT K F a vs) : SqT K F' a vs := by
  rcases h with (h | ⟨o, h⟩) | h
  · exact .inl (.inl (hf _ _ h))
  · exact .inl (.inr ⟨o, hf _ _ h⟩)
  · exact .inr h
theorem sqL_mono {K : PySem.W.Frag} {F F' : Hp} (hf : ∀ a o, F a = some o → F' a = some o) {a : Addr} {vs : List V} (h : SqL K F a vs) : SqL K F' a vs := by
  rcases h with (h | ⟨o, h⟩) | h
  · exact .inl (.inl (hf _ _ h))
  · exact .inl (.inr ⟨o, hf _ _ h⟩)
  · exact .inr h
mutual
theorem RelD.mono {C : Ct} {w w' : Wd} (g : Gr w w') : ∀ {v : V} {d : D}, RelD C w.F w.L v d → RelD C w'.F w'.L v d
  | _, _, .non => .non
  | _, _, .bl b => .bl b
  | _, _, .int i => .int i
  | _, _, .str s => .str s
  | _, _, .tup h r => .tup (sqT_mono g.f h) (RelDs.mono g r)
  | _, _, .lst h r => .lst (g.f _ _ h) (RelDs.mono g r)
  | _, _, .scr h => .scr (sqL_mono g.f h)
  | _, _, .ref h => .ref (by obtain ⟨m, e⟩ := g.l; rw [e]; exact (List.getElem?_append_left (List.getElem?_eq_some_iff.mp h).1).trans h)
theorem RelDs.mono {C : Ct} {w w' : Wd} (g : Gr w w') : ∀ {vs : List V} {ds : List D}, RelDs C w.F w.L vs ds → RelDs C w'.F w'.L vs ds
  | _, _, .nil => .nil
  | _, _, .cons h r => .cons (RelD.mono g h) (RelDs.mono g r)
end
theorem RelDs.length {C : Ct} {F : Hp} {L : List Addr} : ∀ {vs : List V} {ds : List D}, RelDs C F L vs ds → vs.length = ds.length
  | _, _, .nil => rfl
  | _, _, .cons _ r => by simp [RelDs.length r]
theorem RelDs.get {C : Ct} {F : Hp} {L : List Addr} : ∀ {vs : List V} {ds : List D} {i : Nat} {d : D}, RelDs C F L vs ds → ds[i]? = some d → ∃ v, vs[i]? = some v ∧ RelD C F L v d
  | _, _, _, _, .nil, e => by simp at e
  | _, _, 0, _, .cons h _, e => by simp at e; subst e; exact ⟨_, rfl, h⟩
  | _, _, i + 1, _, .cons _ r, e => by
    obtain ⟨v, h1, h2⟩ := RelDs.get (i := i) r (by simpa using e)
    exact ⟨v, by simpa using h1, h2⟩
theorem RelDs.append {C : Ct} {F : Hp} {L : List Addr} : ∀ {vs us : List V} {ds es : List D}, RelDs C F L vs ds → RelDs C F L us es → RelDs C F L (vs ++ us) (ds ++ es)
  | _, _, _, _, .nil, s => s
  | _, _, _, _, .cons h r, s => .cons h (r.append s)
theorem RelDs.take {C : Ct} {F : Hp} {L : List Addr} : ∀ {vs : List V} {ds : List D} (n : Nat), RelDs C F L vs ds → RelDs C F L (vs.take n) (ds.take n)
  | _, _, 0, _ => .nil
  | _, _, _ + 1, .nil => .nil
  | _, _, n + 1, .cons h r => .cons h (r.take n)
theorem RelDs.drop {C : Ct} {F : Hp} {L : List Addr} : ∀ {vs : List V} {ds : List D} (n : Nat), RelDs C F L vs ds → RelDs C F L (vs.drop n) (ds.drop n)
  | _, _, 0, r => r
  | _, _, _ + 1, .nil => .nil
  | _, _, n + 1, .cons _ r => r.drop n
theorem RelDs.set {C : Ct} {F : Hp} {L : List Addr} {v : V} {d : D} (h : RelD C F L v d) : ∀ {vs : List V} {ds : List D} (n : Nat), RelDs C F L vs ds → RelDs C F L (vs.set n v) (ds.set n d)
  | _, _, _, .nil => .nil
  | _, _, 0, .cons _ r => .cons h r
  | _, _, n + 1, .cons h' r => .cons h' (r.set h n)
theorem RelDs.eraseIdx {C : Ct} {F : Hp} {L : List Addr} : ∀ {vs : List V} {ds : List D} (n : Nat), RelDs C F L vs ds → RelDs C F L (vs.eraseIdx n) (ds.eraseIdx n)
  | _, _, _, .nil => .nil
  | _, _, 0, .cons _ r => r
  | _, _, n + 1, .cons h r => .cons h (r.eraseIdx n)
theorem RelDs.dropLast {C : Ct} {F : Hp} {L : List Addr} {vs : List V} {ds : List D} (h : RelDs C F L vs ds) : RelDs C F L vs.dropLast ds.dropLast := by
  rw [List.dropLast_eq_take, List.dropLast_eq_take, h.length]
  exact h.take _
theorem RelDs.reverse {C : Ct} {F : Hp} {L : List Addr} : ∀ {vs : List V} {ds : List D}, RelDs C F L vs ds → RelDs C F L vs.reverse ds.reverse
  | _, _, .nil => .nil
  | _, _, .cons h r => by
    rw [List.reverse_cons, List.reverse_cons]
    exact r.reverse.append (.cons h .nil)
theorem RelDs.rep {C : Ct} {F : Hp} {L : List Addr} {vs : List V} {ds : List D} (h : RelDs C F L vs ds) : ∀ k : Nat, RelDs C F L (List.replicate k vs).flatten (List.replicate k ds).flatten
  | 0 => .nil
  | k + 1 => by
    rw [List.replicate_succ, List.replicate_succ, List.flatten_cons, List.flatten_cons]
    exact h.append (h.rep k)
theorem RelDs.ints {C : Ct} {F : Hp} {L : List Addr} : ∀ {vs : List V} {ds : List D} {ns : List Int}, RelDs C F L vs ds → intsD ds = some ns → vs = ns.map V.int
  | _, _, _, .nil, e => by simp [intsD] at e; subst e; rfl
  | _, _, ns, .cons h r, e => by
    cases h <;> simp [intsD] at e
    obtain ⟨ms, e1, e2⟩ := e
    subst e2
    rw [RelDs.ints r e1]; rfl
theorem RelDs.bls {C : Ct} {F : Hp} {L : List Addr} : ∀ {vs : List V} {ds : List D} {ns : List Bool}, RelDs C F L vs ds → blsD ds = some ns → vs = ns.map V.bl
  | _, _, _, .nil, e => by simp [blsD] at e; subst e; rfl
  | _, _, ns, .cons h r, e => by
    cases h <;> simp [blsD] at e
    obtain ⟨ms, e1, e2⟩ := e
    subst e2
    rw [RelDs.bls r e1]; rfl
theorem RelC.mono {C : Ct} {w w' : Wd} {H H' : Hp} {a : Addr} {c : Cell} (g : Gr w w') (h : ∀ o, H a = some o → H' a = some o) (r : RelC C w H a c) : RelC C w' H' a c := by
  cases c with
  | lst ds =>
    obtain ⟨vs, e, r⟩ := r
    exact ⟨vs, h _ e, r.mono g⟩
  | _ => exact r.elim
theorem RelC.there {C : Ct} {w : Wd} {H : Hp} {a : Addr} {c : Cell} (r : RelC C w H a c) : ∃ o, H a = some o := by
  cases c with
  | lst ds =>
    obtain ⟨vs, e, r⟩ := r
    exact ⟨_, e⟩
  | _ => exact r.elim

/-- the cells -/
structure RelSt (C : Ct) (w : Wd) (H : Hp) (st : Store) : Prop where
  len : st.length = w.L.length
  nd : w.L.Nodup
  fh : ∀ a o, w.F a = some o → H a = some o
  fl : ∀ a ∈ w.L, w.F a = none
  cell : ∀ (l : Nat) (c : Cell) (a : Addr), st[l]? = some c → w.L[l]? = some a → RelC C w H a c
/-- the slots -/
structure RelE (C : Ct) (w : Wd) (H : Hp) (σ : St) (ρ : Env) : Prop where
  len : ρ.length = σ.length
  val : ∀ (i : Nat) (d : D), ρ[i]? = some (.val d) → ∃ v, σ[i]? = some (some v) ∧ RelD C w.F w.L v d
  own : ∀ (i : Nat) (c : Cell), ρ[i]? = some (.own c) → ∃ a, σ[i]? = some (some (.ref a)) ∧ RelC C w H a c ∧ w.F a = none ∧ a ∉ w.L
  ap : ∀ (i j : Nat) (c c' : Cell) (a : Addr), ρ[i]? = some (.own c) → ρ[j]? = some (.own c') → σ[i]? = some (some (.ref a)) → σ[j]? = some (some (.ref a)) → i = j
def Own (σ : St) (ρ : Env) (a : Addr) : Prop := ∃ (i : Nat) (c : Cell), ρ[i]? = some (.own c) ∧ σ[i]? = some (some (.ref a))
/-- what a run may do -/
structure Step (w : Wd) (H : Hp) (O : Addr → Prop) (w' : Wd) (H' : Hp) (O' : Addr → Prop) : Prop where
  gr : Gr w w'
  keep : ∀ a o, H a = some o → a ∉ w.L → ¬ O a → H' a = some o
  newF : ∀ a o, w'.F a = some o → w.F a = some o ∨ O a ∨ H a = none
  newL : ∀ a ∈ w'.L, a ∈ w.L ∨ O a ∨ H a = none
  newO : ∀ a, O' a → O a ∨ H a = none
  dom : ∀ a, H' a = none → H a = none
theorem Step.refl {w : Wd} {H : Hp} {O : Addr → Prop} : Step w H O w H O := ⟨Gr.refl w, fun _ _ h _ _ => h, fun _ _ h => .inl h, fun _ h => .inl h, fun _ h => .inl h, fun _ h => h⟩
theorem Step.trans {w w1 w2 : Wd} {H H1 H2 : Hp} {O O1 O2 : Addr → Prop} (a : Step w H O w1 H1 O1) (b : Step w1 H1 O1 w2 H2 O2) : Step w H O w2 H2 O2 where
  gr := a.gr.trans b.gr
  keep := fun x o h hl ho => b.keep x o (a.keep x o h hl ho) (fun z => by
    rcases a.newL x z with z | z | z
    · exact hl z
    · exact ho z
    · rw [z] at h; cases h) fun z => by
    rcases a.newO x z with z | z
    · exact ho z
    · rw [z] at h; cases h
  newF := fun x o h => by
    rcases b.newF x o h with h | h | h
    · exact a.newF x o h
    · rcases a.newO x h with h | h
      · exact .inr (.inl h)
      · exact .inr (.inr h)
    · exact .inr (.inr (a.dom x h))
  newL := fun x h => by
    rcases b.newL x h with h | h | h
    · exact a.newL x h
    · rcases a.newO x h with h | h
      · exact .inr (.inl h)
      · exact .inr (.inr h)
    · exact .inr (.inr (a.dom x h))
  newO := fun x h => by
    rcases b.newO x h with h | h
    · exact a.newO x h
    · exact .inr (a.dom x h)
  dom := fun x h => a.dom x (b.dom x h)

/-- an exception: its class, its own dict -/
def RelX (C : Ct) (w : Wd) (H : Hp) (cls : Value) (d : Option Addr) (x : D) : Prop := False

/-- the reading of a run -/
def tW {α β : Type} (C : Ct) (W : WX) (rel : Wd → β → α → Prop) (w : Wd) (ρ : Env) (st : Store) (m : M α) (σ : St) (H : Hp) (Q : β → Hp → Prop) : Prop :=
  RelSt C w H st ∧ RelE C w H σ ρ ∧ match m ρ st with
    | .ok a ρ' st' => ∀ b w' H', RelSt C w' H' st' → RelE C w' H' σ ρ' → Step w H (Own σ ρ) w' H' (Own σ ρ') → rel w' b a → Q b H'
    | .exc x ρ' st' => ∀ cls d w' H', RelSt C w' H' st' → RelE C w' H' σ ρ' → Step w H (Own σ ρ) w' H' (Own σ ρ') → RelX C w' H' cls d x → W cls d σ H'
    | .bad => False
def tM {α β : Type} (C : Ct) (W : WX) (rel : Wd → β → α → Prop) (m : M α) : St → Hp → (β → Hp → Prop) → Prop := fun σ H Q => ∃ w ρ st, tW C W rel w ρ st m σ H Q
abbrev rD (C : Ct) : Wd → V → D → Prop := fun w v d => RelD C w.F w.L v d
abbrev rDs (C : Ct) : Wd → List V → List D → Prop := fun w v d => RelDs C w.F w.L v d
abbrev rB : Wd → Bool → Bool → Prop := fun _ a b => a = b
abbrev rO : Wd → Option Int → Option Int → Prop := fun _ a b => a = b

section
variable {C : Ct} {W : WX} {α β γ δ : Type} {rel : Wd → β → α → Prop} {rel2 : Wd → δ → γ → Prop} {w : Wd} {ρ : Env} {st : Store} {σ : St} {H : Hp}
theorem tW.imp {m : M α} {Q Q' : β → Hp → Prop} (h : tW C W rel w ρ st m σ H Q) (hq : ∀ b H', Q b H' → Q' b H') : tW C W rel w ρ st m σ H Q' := by
  obtain ⟨h1, h2, h3⟩ := h
  refine ⟨h1, h2, ?_⟩
  split at h3
  · exact fun b w' H' a1 a2 a3 a4 => hq _ _ (h3 b w' H' a1 a2 a3 a4)
  · exact h3
  · exact h3
/-- one run, then another -/
theorem tW.bindE {m : M α} {f : α → M γ} {Q : δ → Hp → Prop} (h : tW C W rel2 w ρ st (Z.bind m f) σ H Q) :
    tW C W rel w ρ st m σ H fun b H1 => ∃ a w1 ρ1 st1, m ρ st = .ok a ρ1 st1 ∧ rel w1 b a ∧ Step w H (Own σ ρ) w1 H1 (Own σ ρ1) ∧ tW C W rel2 w1 ρ1 st1 (f a) σ H1 Q := by
  obtain ⟨h1, h2, h3⟩ := h
  refine ⟨h1, h2, ?_⟩
  unfold Z.bind at h3
  cases e : m ρ st with
  | ok a ρ1 st1 =>
    rw [e] at h3
    intro b w1 H1 r1 r2 s1 rb
    refine ⟨a, w1, ρ1, st1, rfl, rb, s1, r1, r2, ?_⟩
    simp only at h3
    cases e2 : f a ρ1 st1 with
    | ok c ρ2 st2 =>
      rw [e2] at h3
      exact fun d w2 H2 q1 q2 s2 rd => h3 d w2 H2 q1 q2 (s1.trans s2) rd
    | exc x ρ2 st2 =>
      rw [e2] at h3
      exact fun cls d w2 H2 q1 q2 s2 rx => h3 cls d w2 H2 q1 q2 (s1.trans s2) rx
    | bad => rw [e2] at h3; exact h3
  | exc x ρ1 st1 =>
    rw [e] at h3
    exact h3
  | bad => rw [e] at h3; exact h3
theorem tW.bind {m : M α} {f : α → M γ} {Q : δ → Hp → Prop} (h : tW C W rel2 w ρ st (Z.bind m f) σ H Q) :
    tW C W rel w ρ st m σ H fun b H1 => ∃ a w1 ρ1 st1, rel w1 b a ∧ Step w H (Own σ ρ) w1 H1 (Own σ ρ1) ∧ tW C W rel2 w1 ρ1 st1 (f a) σ H1 Q :=
  h.bindE.imp fun b H1 ⟨a, w1, ρ1, st1, _, q⟩ => ⟨a, w1, ρ1, st1, q⟩
/-- the end of a run that asks nothing -/
theorem tW.ret {a : α} {Q : β → Hp → Prop} (h : tW C W rel w ρ st (Z.ret a) σ H Q) {b : β} (r : rel w b a) : Q b H :=
  h.2.2 b w H h.1 h.2.1 Step.refl r
theorem tW.opt {o : Option α} {Q : β → Hp → Prop} (h : tW C W rel w ρ st (Z.opt o) σ H Q) : ∃ a, o = some a ∧ tW C W rel w ρ st (Z.ret a) σ H Q := by
  cases o with
  | none => exact h.2.2.elim
  | some a => exact ⟨a, rfl, h⟩
theorem tW.optBind {o : Option α} {f : α → M γ} {Q : δ → Hp → Prop} (h : tW C W rel2 w ρ st (Z.bind (Z.opt o) f) σ H Q) : ∃ a, o = some a ∧ tW C W rel2 w ρ st (f a) σ H Q := by
  cases o with
  | none => exact h.2.2.elim
  | some a => exact ⟨a, rfl, h⟩
theorem tW.retBind {a : α} {f : α → M γ} {Q : δ → Hp → Prop} (h : tW C W rel2 w ρ st (Z.bind (Z.ret a) f) σ H Q) : tW C W rel2 w ρ st (f a) σ H Q := h
theorem tW.viewBind {a : D} {f : D → M γ} {Q : δ → Hp → Prop} (h : tW C W rel2 w ρ st (Z.bind (Z.viewM a) f) σ H Q) : tW C W rel2 w ρ st (f (view st a)) σ H Q := h
end

theorem _root_.L2.PE.imp {X : Cx} {e : Expr} {t t' : TE} (h : PE X e t) (hi : ∀ σ H Q, t' σ H Q → t σ H Q) : PE X e t' :=
  ⟨fun pins s σ H Q I q => h.run pins s σ H Q I (hi σ H Q q)⟩
theorem _root_.L2.PT.imp {X : Cx} {e : Expr} {t t' : TT} (h : PT X e t) (hi : ∀ σ H Q, t' σ H Q → t σ H Q) : PT X e t' :=
  ⟨fun pins s σ H Q I q => h.run pins s σ H Q I (hi σ H Q q)⟩
theorem _root_.L2.PW.imp {X : Cx} {e : Expr} {t t' : TT} (h : PW X e t) (hi : ∀ σ H Q, t' σ H Q → t σ H Q) : PW X e t' :=
  ⟨fun wh pins s σ H Q I q => h.run wh pins s σ H Q I (hi σ H Q q)⟩
theorem _root_.L2.PA.imp {X : Cx} {e : List Expr} {t t' : TA} (h : PA X e t) (hi : ∀ σ H Q, t' σ H Q → t σ H Q) : PA X e t' :=
  ⟨fun pos pins s σ H Q I q => h.run pos pins s σ H Q I (hi σ H Q q)⟩
theorem _root_.L2.PK.imp {X : Cx} {e : List Keyword} {t t' : TA} (h : PK X e t) (hi : ∀ σ H Q, t' σ H Q → t σ H Q) : PK X e t' :=
  ⟨fun pos pins s σ H Q I q => h.run pos pins s σ H Q I (hi σ H Q q)⟩
theorem _root_.L2.PO.imp {X : Cx} {e : Option Expr} {t t' : TO} (h : PO X e t) (hi : ∀ σ H Q, t' σ H Q → t σ H Q) : PO X e t' :=
  ⟨fun pins s σ H Q I q => h.run pins s σ H Q I (hi σ H Q q)⟩
theorem _root_.L2.PS.imp {X : Cx} {e : Stmt} {t t' : TS} (h : PS X e t) (hi : ∀ D σ H, t' D σ H → t D σ H) : PS X e t' :=
  ⟨fun pins s σ H D I q => h.run pins s σ H D I (hi D σ H q)⟩
theorem _root_.L2.PSs.imp {X : Cx} {e : List Stmt} {t t' : TS} (h : PSs X e t) (hi : ∀ D σ H, t' D σ H → t D σ H) : PSs X e t' :=
  ⟨fun pins s σ H D I q => h.run pins s σ H D I (hi D σ H q)⟩

/-- an expression computes what the run computes -/
abbrev DE (X : Cx) (W : WX) (e : Expr) (m : M D) : Prop := PE X e (tM (ct X) W (rD (ct X)) m)
abbrev DEs (X : Cx) (W : WX) (es : List Expr) (m : M (List D)) : Prop := PA X es (tM (ct X) W (rDs (ct X)) m)
abbrev DT (X : Cx) (W : WX) (e : Expr) (m : M Bool) : Prop := PT X e (tM (ct X) W rB m)
abbrev DO (X : Cx) (W : WX) (e : Option Expr) (m : M (Option Int)) : Prop := PO X e (tM (ct X) W rO m)

/-! ### names and constants -/
section
variable {X : Cx} {W : WX} {pos : Pos}
theorem de_ret {e : Expr} {v : V} {d : D} (h : PE X e (tC v)) (r : ∀ w : Wd, RelD (ct X) w.F w.L v d) : DE X W e (ret d) :=
  h.imp fun σ H Q ⟨w, ρ, st, q⟩ => q.ret (r w)
theorem RelC.toD {C : Ct} {w : Wd} {H : Hp} {a : Addr} {c : Cell} (r : RelC C w H a c) (hl : a ∉ w.L) : ∀ (F' : Hp) , (∀ x o, w.F x = some o → F' x = some o) → (∀ o, H a = some o → F' a = some o) → RelD C F' w.L (.ref a) c.toD := by
  intro F' h1 h2
  cases c with
  | lst ds =>
    obtain ⟨vs, e, r⟩ := r
    exact .lst (h2 _ e) (RelDs.mono (w := w) (w' := ⟨F', w.L⟩) ⟨h1, [], by simp⟩ r)
  | _ => exact r.elim
theorem own_set_val {σ : St} {ρ : Env} {i : Nat} {d : D} {a : Addr} (h : Own σ (ρ.set i (.val d)) a) : Own σ ρ a ∧ ∃ j c, j ≠ i ∧ ρ[j]? = some (.own c) ∧ σ[j]? = some (some (.ref a)) := by
  obtain ⟨j, c, e1, e2⟩ := h
  by_cases hj : i = j
  · subst hj
    by_cases hl : i < ρ.length
    · rw [List.getElem?_set_self hl] at e1; cases e1
    · rw [List.getElem?_eq_none (by simpa using hl)] at e1; cases e1
  · rw [List.getElem?_set_ne hj] at e1
    exact ⟨⟨j, c, e1, e2⟩, j, c, fun z => hj z.symm, e1, e2⟩
/-- an object of its own is let go: it becomes a value -/
theorem thaw {C : Ct} {w : Wd} {H : Hp} {σ : St} {ρ : Env} {st : Store} {i : Nat} {c : Cell} (hs : RelSt C w H st) (he : RelE C w H σ ρ) (e : ρ[i]? = some (.own c)) :
    ∃ a w', σ[i]? = some (some (.ref a)) ∧ RelSt C w' H st ∧ RelE C w' H σ (ρ.set i (.val c.toD)) ∧ Step w H (Own σ ρ) w' H (Own σ (ρ.set i (.val c.toD))) ∧ RelD C w'.F w'.L (.ref a) c.toD := by
  obtain ⟨a, e1, rc, hf, hl⟩ := he.own i c e
  obtain ⟨o, ho⟩ := rc.there
  have hg : Gr w ⟨upd w.F a o, w.L⟩ := ⟨fun x u hx => by
    show upd w.F a o x = some u
    rw [upd_ne (fun z => by rw [z, hf] at hx; cases hx)]
    exact hx, [], by simp⟩
  have rd : RelD C (upd w.F a o) w.L (.ref a) c.toD := rc.toD hl _ hg.f (fun u hu => by rw [upd_same]; rw [ho] at hu; exact hu)
  refine ⟨a, ⟨upd w.F a o, w.L⟩, e1, ⟨hs.len, hs.nd, fun x u hx => ?_, fun x hx => ?_, fun l d x h1 h2 => (hs.cell l d x h1 h2).mono hg fun _ z => z⟩, ⟨by simpa using he.len, fun j d h => ?_, fun j d h => ?_, fun j k c1 c2 x h1 h2 h3 h4 => ?_⟩, ⟨hg, fun x u h _ _ => h, fun x u h => ?_, fun x h => .inl h, fun x h => .inl (own_set_val h).1, fun x h => h⟩, rd⟩
  · have hx : upd w.F a o x = some u := hx
    by_cases hx' : x = a
    · rw [hx', upd_same] at hx; cases hx; rw [hx']; exact ho
    · rw [upd_ne hx'] at hx; exact hs.fh x u hx
  · show upd w.F a o x = none
    rw [upd_ne (fun z : x = a => hl (by rw [← z]; exact hx))]
    exact hs.fl x hx
  · by_cases hj : i = j
    · subst hj
      rw [List.getElem?_set_self (List.getElem?_eq_some_iff.mp e).1] at h
      cases h
      exact ⟨_, e1, rd⟩
    · rw [List.getElem?_set_ne hj] at h
      obtain ⟨v, h1, h2⟩ := he.val j d h
      exact ⟨v, h1, h2.mono hg⟩
  · by_cases hj : i = j
    · subst hj
      rw [List.getElem?_set_self (List.getElem?_eq_some_iff.mp e).1] at h
      cases h
    · rw [List.getElem?_set_ne hj] at h
      obtain ⟨b, h1, h2, h3, h4⟩ := he.own j d h
      refine ⟨b, h1, h2.mono hg (fun _ z => z), ?_, h4⟩
      show upd w.F a o b = none
      rw [upd_ne (fun z => hj (by subst z; exact he.ap i j c d b e h e1 h1))]
      exact h3
  · by_cases hj : i = j
    · subst hj
      rw [List.getElem?_set_self (List.getElem?_eq_some_iff.mp e).1] at h1; cases h1
    · by_cases hk : i = k
      · subst hk
        rw [List.getElem?_set_self (List.getElem?_eq_some_iff.mp e).1] at h2; cases h2
      · rw [List.getElem?_set_ne hj] at h1
        rw [List.getElem?_set_ne hk] at h2
        exact he.ap j k c1 c2 x h1 h2 h3 h4
  · by_cases hx : x = a
    · subst hx; exact .inr (.inl ⟨i, c, e, e1⟩)
    · exact .inl (by have h' : upd w.F a o x = some u := h; rw [upd_ne hx] at h'; exact h')
theorem de_var {i : Nat} {x : Str} (hN : X.N[i]? = some x) (hv : Vis X.env.scope x) (hd : (x == ("__debug__" : Str)) = false) (hcd : (x == ("__classdict__" : Str)) = false) : DE X W (.Name x pos) (getV i) :=
  (pe_var hN hv hd hcd).imp fun σ H Q ⟨w, ρ, st, hs, he, q⟩ => by
    unfold getV at q
    cases e : ρ[i]? with
    | none => rw [e] at q; exact q.elim
    | some sl =>
      rw [e] at q
      cases sl with
      | un => exact q.elim
      | val d =>
        obtain ⟨v, h1, h2⟩ := he.val i d e
        exact ⟨v, h1, q v w H hs he Step.refl h2⟩
      | own c =>
        obtain ⟨a, w', h1, h2, h3, h4, h5⟩ := thaw hs he e
        exact ⟨_, h1, q _ w' H h2 h3 h4 h5⟩
end

/-! ### a new object -/
section
variable {C : Ct} {w : Wd} {H : Hp} {σ : St} {ρ : Env} {st : Store} {p : Addr} {o : HO}
theorem RelSt.none_F (hs : RelSt C w H st) (hp : H p = none) : w.F p = none := by
  cases e : w.F p with
  | none => rfl
  | some u => rw [hs.fh _ _ e] at hp; cases hp
theorem RelSt.none_L (hs : RelSt C w H st) (hp : H p = none) : p ∉ w.L := fun h => by
  obtain ⟨l, hl, e⟩ := List.mem_iff_getElem.mp h
  have hl' : l < st.length := by rw [hs.len]; exact hl
  have r := hs.cell l st[l] p (by simp [hl']) (by rw [← e]; simp)
  obtain ⟨u, hu⟩ := r.there
  rw [hp] at hu; cases hu
theorem keep_of (hp : H p = none) : ∀ a u, H a = some u → upd H p o a = some u := fun a u h => by
  rw [upd_ne (fun z => by rw [z, hp] at h; cases h)]; exact h
/-- laid, not told of -/
theorem laid0 (hs : RelSt C w H st) (he : RelE C w H σ ρ) (hp : H p = none) : RelSt C w (upd H p o) st ∧ RelE C w (upd H p o) σ ρ ∧ Step w H (Own σ ρ) w (upd H p o) (Own σ ρ) := by
  have k := keep_of (o := o) hp
  refine ⟨⟨hs.len, hs.nd, fun a u h => k a u (hs.fh a u h), hs.fl, fun l c a h1 h2 => (hs.cell l c a h1 h2).mono (Gr.refl w) (k a)⟩, ⟨he.len, he.val, fun i c h => ?_, he.ap⟩, ⟨Gr.refl w, fun a u h _ _ => k a u h, fun _ _ h => .inl h, fun _ h => .inl h, fun _ h => .inl h, fun a h => ?_⟩⟩
  · obtain ⟨a, h1, h2, h3, h4⟩ := he.own i c h
    exact ⟨a, h1, h2.mono (Gr.refl w) (k a), h3, h4⟩
  · by_cases ha : a = p
    · rw [ha]; exact hp
    · rw [upd_ne ha] at h; exact h
/-- an object that nobody owns is never changed from now on -/
theorem toF (hs : RelSt C w H st) (he : RelE C w H σ ρ) (ho : H p = some o) (hf : w.F p = none) (hl : p ∉ w.L) (hn : ¬ Own σ ρ p) :
    RelSt C ⟨upd w.F p o, w.L⟩ H st ∧ RelE C ⟨upd w.F p o, w.L⟩ H σ ρ ∧ Gr w ⟨upd w.F p o, w.L⟩ := by
  have g : Gr w ⟨upd w.F p o, w.L⟩ := ⟨fun a u h => by
    show upd w.F p o a = some u
    rw [upd_ne (fun z => by rw [z, hf] at h; cases h)]; exact h, [], by simp⟩
  refine ⟨⟨hs.len, hs.nd, fun a u h => ?_, fun a h => ?_, fun l c a h1 h2 => (hs.cell l c a h1 h2).mono g fun _ z => z⟩, ⟨he.len, fun i d h => ?_, fun i c h => ?_, he.ap⟩, g⟩
  · have h : upd w.F p o a = some u := h
    by_cases ha : a = p
    · rw [ha, upd_same] at h; cases h; rw [ha]; exact ho
    · rw [upd_ne ha] at h; exact hs.fh a u h
  · show upd w.F p o a = none
    rw [upd_ne (fun z : a = p => hl (by rw [← z]; exact h))]; exact hs.fl a h
  · obtain ⟨v, h1, h2⟩ := he.val i d h
    exact ⟨v, h1, h2.mono g⟩
  · obtain ⟨a, h1, h2, h3, h4⟩ := he.own i c h
    refine ⟨a, h1, h2.mono g fun _ z => z, ?_, h4⟩
    show upd w.F p o a = none
    rw [upd_ne (fun z : a = p => hn ⟨i, c, h, by rw [← z]; exact h1⟩)]; exact h3
/-- a new object, never changed from now on -/
theorem laidF (hs : RelSt C w H st) (he : RelE C w H σ ρ) (hp : H p = none) :
    RelSt C ⟨upd w.F p o, w.L⟩ (upd H p o) st ∧ RelE C ⟨upd w.F p o, w.L⟩ (upd H p o) σ ρ ∧ Step w H (Own σ ρ) ⟨upd w.F p o, w.L⟩ (upd H p o) (Own σ ρ) := by
  obtain ⟨a1, a2, a3⟩ := laid0 (o := o) hs he hp
  have hn : ¬ Own σ ρ p := fun ⟨i, c, h1, h2⟩ => by
    obtain ⟨a, e1, e2, _⟩ := he.own i c h1
    rw [h2] at e1; cases e1
    obtain ⟨u, hu⟩ := e2.there
    rw [hp] at hu; cases hu
  obtain ⟨b1, b2, b3⟩ := toF a1 a2 upd_same (hs.none_F hp) (hs.none_L hp) hn
  refine ⟨b1, b2, ⟨b3, a3.keep, fun a u h => ?_, a3.newL, a3.newO, a3.dom⟩⟩
  have h : upd w.F p o a = some u := h
  by_cases ha : a = p
  · rw [ha]; exact .inr (.inr hp)
  · rw [upd_ne ha] at h; exact .inl h
/-- an object that nobody owns becomes a cell -/
theorem toL {c : Cell} (hs : RelSt C w H st) (he : RelE C w H σ ρ) (hc : RelC C w H p c) (hf : w.F p = none) (hl : p ∉ w.L) (hn : ¬ Own σ ρ p) :
    RelSt C ⟨w.F, w.L ++ [p]⟩ H (st ++ [c]) ∧ RelE C ⟨w.F, w.L ++ [p]⟩ H σ ρ ∧ Gr w ⟨w.F, w.L ++ [p]⟩ ∧ RelD C w.F (w.L ++ [p]) (.ref p) (.ref st.length) := by
  have g : Gr w ⟨w.F, w.L ++ [p]⟩ := ⟨fun _ _ h => h, [p], rfl⟩
  refine ⟨⟨by simp [hs.len], ?_, hs.fh, fun a h => ?_, fun l d a h1 h2 => ?_⟩, ⟨he.len, fun i d h => ?_, fun i d h => ?_, he.ap⟩, g, .ref ?_⟩
  · exact List.nodup_append.mpr ⟨hs.nd, by simp, fun a ha b hb => by simp at hb; subst hb; exact fun z => hl (z ▸ ha)⟩
  · rcases List.mem_append.mp h with h | h
    · exact hs.fl a h
    · simp at h; subst h; exact hf
  · by_cases hl2 : l < st.length
    · rw [List.getElem?_append_left hl2] at h1
      rw [show (⟨w.F, w.L ++ [p]⟩ : Wd).L = w.L ++ [p] from rfl, List.getElem?_append_left (by rw [← hs.len]; exact hl2)] at h2
      exact (hs.cell l d a h1 h2).mono g fun _ z => z
    · rw [List.getElem?_append_right (by omega)] at h1
      rw [show (⟨w.F, w.L ++ [p]⟩ : Wd).L = w.L ++ [p] from rfl, List.getElem?_append_right (by rw [← hs.len]; omega), ← hs.len] at h2
      have e0 : l - st.length = 0 := by
        cases e : l - st.length with
        | zero => rfl
        | succ n => rw [e] at h1; simp at h1
      rw [e0] at h1 h2
      simp at h1 h2
      subst h1 h2
      exact hc.mono g fun _ z => z
  · obtain ⟨v, h1, h2⟩ := he.val i d h
    exact ⟨v, h1, h2.mono g⟩
  · obtain ⟨a, h1, h2, h3, h4⟩ := he.own i d h
    refine ⟨a, h1, h2.mono g fun _ z => z, h3, fun z => ?_⟩
    rcases List.mem_append.mp z with z | z
    · exact h4 z
    · simp at z; subst z; exact hn ⟨i, d, h, h1⟩
  · rw [hs.len]; simp
end
end Z

/-! Z3: operators and built-ins by values. -/
namespace Z
open PySem PySem.Spec L2
open PyProof.Rows hiding St

/-- what a value reads as -/
inductive Sees (C : Ct) (w : Wd) (H : Hp) : V → D → Prop
  | non : Sees C w H .non .non
  | bl (b : Bool) : Sees C w H (.bl b) (.bl b)
  | int (i : Int) : Sees C w H (.int i) (.int i)
  | str (s : Str) : Sees C w H (.str s) (.str s)
  | tup {a : Addr} {vs : List V} {ds : List D} (h : SqT C.K w.F a vs) (r : RelDs C w.F w.L vs ds) : Sees C w H (.ref a) (.tup ds)
  | lst {a : Addr} {vs : List V} {ds : List D} (h : H a = some (.lst vs)) (r : RelDs C w.F w.L vs ds) : Sees C w H (.ref a) (.lst ds)
  | scr {a : Addr} {ns : List Int} (h : SqL C.K w.F a (ns.map V.int)) : Sees C w H (.ref a) (.scr ns)
section
variable {C : Ct} {w : Wd} {H : Hp} {st : Store}
theorem RelC.sees {a : Addr} {c : Cell} (h : RelC C w H a c) : Sees C w H (.ref a) c.toD := by
  cases c with
  | lst ds => obtain ⟨vs, e, r⟩ := h; exact .lst e r
  | _ => exact h.elim
theorem sees (hs : RelSt C w H st) {v : V} {d : D} (r : RelD C w.F w.L v d) : Sees C w H v (view st d) := by
  cases r with
  | non => exact .non
  | bl b => exact .bl b
  | int i => exact .int i
  | str s => exact .str s
  | tup h r => exact .tup h r
  | lst h r => exact .lst (hs.fh _ _ h) r
  | scr h => exact .scr h
  | @ref a l h =>
    have hl : l < st.length := by rw [hs.len]; exact (List.getElem?_eq_some_iff.mp h).1
    have e : st[l]? = some st[l] := by simp [hl]
    show Sees C w H (.ref a) (match st[l]? with | some c => c.toD | none => .ref l)
    rw [e]
    exact (hs.cell l _ a e h).sees
mutual
/-- data of a value, for == -/
theorem toPy_dp (hs : ∀ a o, w.F a = some o → H a = some o) : ∀ {v : V} {d : D} {p : PyData}, RelD C w.F w.L v d → toPy d = some p → Dp C.K H v p
  | _, _, _, .non, e => by simp [toPy] at e; subst e; exact .non
  | _, _, _, .bl b, e => by simp [toPy] at e; subst e; exact .bl b
  | _, _, _, .int b, e => by simp [toPy] at e; subst e; exact .int b
  | _, _, _, .str b, e => by simp [toPy] at e; subst e; exact .str b
  | _, _, _, .tup h r, e => by
    simp [toPy] at e
    obtain ⟨ps, e1, e2⟩ := e
    subst e2
    exact .tup (sqT_mono hs h) (toPys_dp hs r e1)
  | _, _, _, .lst h r, e => by
    simp [toPy] at e
    obtain ⟨ps, e1, e2⟩ := e
    subst e2
    exact .lst (SqL.of (hs _ _ h)) (toPys_dp hs r e1)
  | _, _, _, .ref h, e => by simp [toPy] at e
  | _, _, _, .scr h, e => by simp [toPy] at e
theorem toPys_dp (hs : ∀ a o, w.F a = some o → H a = some o) : ∀ {vs : List V} {ds : List D} {ps : List PyData}, RelDs C w.F w.L vs ds → toPys ds = some ps → DpAll C.K H vs ps
  | _, _, _, .nil, e => by simp [toPys] at e; subst e; exact .nil
  | _, _, _, .cons h r, e => by
    unfold toPys at e
    split at e
    · rename_i a as e1 e2
      cases e
      exact .cons (toPy_dp hs h e1) (toPys_dp hs r e2)
    · cases e
end
theorem Sees.dp (hs : ∀ a o, w.F a = some o → H a = some o) {v : V} {d : D} {p : PyData} (r : Sees C w H v d) (e : toPy d = some p) : Dp C.K H v p := by
  cases r with
  | non => simp [toPy] at e; subst e; exact .non
  | bl b => simp [toPy] at e; subst e; exact .bl b
  | int b => simp [toPy] at e; subst e; exact .int b
  | str b => simp [toPy] at e; subst e; exact .str b
  | tup h r =>
    simp [toPy] at e
    obtain ⟨ps, e1, e2⟩ := e
    subst e2
    exact .tup (sqT_mono hs h) (toPys_dp hs r e1)
  | scr h => simp [toPy] at e
  | lst h r =>
    simp [toPy] at e
    obtain ⟨ps, e1, e2⟩ := e
    subst e2
    exact .lst (SqL.of h) (toPys_dp hs r e1)
end

/-- a value that is z comes out: as it stands, or a new object -/
def Gives (C : Ct) (w : Wd) (H : Hp) (z : D) (Q : VK) : Prop :=
  (∀ v, (∀ w', Gr w w' → (∀ a o, w'.F a = some o → H a = some o) → RelD C w'.F w'.L v z) → Q v H) ∧
  (∀ v p o, H p = none → (∀ w', Gr w w' → w'.F p = some o → RelD C w'.F w'.L v z) → Q v (upd H p o))
theorem gives_of {C : Ct} {W : WX} {w : Wd} {ρ : Env} {st : Store} {σ : St} {H : Hp} {z : D} {Q : VK} (h : tW C W (rD C) w ρ st (ret z) σ H Q) : Gives C w H z Q := by
  refine ⟨fun v r => h.ret (r w (Gr.refl w) h.1.fh), fun v p o hp r => ?_⟩
  obtain ⟨a1, a2, a3⟩ := laidF (o := o) h.1 h.2.1 hp
  exact h.2.2 _ _ _ a1 a2 a3 (r _ a3.gr upd_same)
theorem Gives.sc {C : Ct} {w : Wd} {H : Hp} {z : D} {Q : VK} (h : Gives C w H z Q) {v : V} (r : ∀ F L, RelD C F L v z) : Q v H := h.1 v fun w' _ _ => r _ _

section
variable {X : Cx}
/-- a two-place operation that computes g -/
def OpD (X : Cx) (f : Value → Value → Sem Value) (g : D → D → Option D) : Prop :=
  OpR X f fun v u H Q => ∃ w x y z, Sees (ct X) w H v x ∧ Sees (ct X) w H u y ∧ (∀ a o, w.F a = some o → H a = some o) ∧ g x y = some z ∧ Gives (ct X) w H z Q
theorem opD_of {f : Value → Value → Sem Value} {g : D → D → Option D} {r : R2} (h : OpR X f r)
    (hr : ∀ v u H Q w x y z, Sees (ct X) w H v x → Sees (ct X) w H u y → (∀ a o, w.F a = some o → H a = some o) → g x y = some z → Gives (ct X) w H z Q → r v u H Q) : OpD X f g := by
  intro pins s σ H v u a b Q I ra rb ⟨w, x, y, z, h1, h2, h3, h4, h5⟩
  exact h pins s σ H v u a b Q I ra rb (hr v u H Q w x y z h1 h2 h3 h4 h5)
theorem mulOk_c {i j : Int} (h : mulOk i j = true) : CMul i j := by
  unfold mulOk at h
  simp only [Bool.or_eq_true, Bool.and_eq_true, decide_eq_true_eq] at h
  exact h
theorem powOk_c {i j : Int} (h : powOk i j = true) : CPow i j := by
  unfold powOk at h
  simp only [Bool.and_eq_true, decide_eq_true_eq] at h
  exact ⟨h.1, h.2.1, h.2.2⟩
theorem line_eq : line = sizeLine := by rw [sizeLine_eq]; rfl

theorem relDs_nil {C : Ct} {F : Hp} {L : List Addr} {vs : List V} {ds : List D} (r : RelDs C F L vs ds) : vs = [] ↔ ds = [] := by
  cases r <;> simp
/-- the pure union for + -/
theorem op_addD : OpD X (binaryOp .Add) (opD .Add) := by
  refine opD_of ((op_add (X := X)).or ((op_add_str (X := X)).or ((op_catA (X := X)).or (op_cat (X := X))))) ?_
  intro v u H Q w x y z h1 h2 h3 h4 g
  cases h1 <;> cases h2 <;> simp [opD] at h4
  · subst h4; exact .inl ⟨_, _, rfl, rfl, g.sc fun _ _ => .int _⟩
  · obtain ⟨h5, h4⟩ := h4
    subst h4; exact .inr (.inl ⟨_, _, rfl, rfl, by rw [← line_eq]; exact h5, g.sc fun _ _ => .str _⟩)
  · rename_i a vs ds h r a' vs' ds' h' r'
    obtain ⟨h5, h4⟩ := h4
    subst h4
    refine .inr (.inr (.inl ⟨_, _, _, _, rfl, rfl, sqT_mono h3 h, sqT_mono h3 h', by rw [← line_eq, r.length, r'.length]; exact h5, fun e => ?_, fun e e' => ?_, fun e e' p hp => ?_⟩))
    · have e2 := (relDs_nil r).mp e
      subst e2
      exact g.1 _ fun w' gr _ => .tup (sqT_mono gr.f h') (r'.mono gr)
    · have e2 := (relDs_nil r').mp e'
      subst e2
      refine g.1 _ fun w' gr _ => ?_
      rw [List.append_nil]
      exact .tup (sqT_mono gr.f h) (r.mono gr)
    · exact g.2 _ _ _ hp fun w' gr e => .tup (SqT.of e) ((r.append r').mono gr)
  · rename_i a vs ds h r a' vs' ds' h' r'
    obtain ⟨h5, h4⟩ := h4
    subst h4
    exact .inr (.inr (.inr ⟨_, _, _, _, rfl, rfl, h, h', by rw [← line_eq, r.length, r'.length]; exact h5, fun p hp => g.2 _ _ _ hp fun w' gr e => .lst e ((r.append r').mono gr)⟩))
theorem op_intD {f : Value → Value → Sem Value} {op : Operator} {Cc : Int → Int → Prop} {k : Int → Int → Int} (h : OpR X f (rI Cc fun i j => .int (k i j)))
    (hk : ∀ i j z, opD op (.int i) (.int j) = some z → Cc i j ∧ z = .int (k i j)) (hn : ∀ x y z, opD op x y = some z → (∃ i j, x = .int i ∧ y = .int j)) : OpD X f (opD op) := by
  refine opD_of h ?_
  intro v u H Q w x y z h1 h2 h3 h4 g
  obtain ⟨i, j, rfl, rfl⟩ := hn x y z h4
  obtain ⟨c, rfl⟩ := hk i j z h4
  cases h1
  cases h2
  exact ⟨_, _, rfl, rfl, c, g.sc fun _ _ => .int _⟩
theorem int_only {op : Operator} (h : op ≠ .Add) : ∀ x y z, opD op x y = some z → (∃ i j, x = .int i ∧ y = .int j) := by
  intro x y z e
  cases x <;> cases y <;> simp [opD] at e <;> first | exact ⟨_, _, rfl, rfl⟩ | (cases op <;> simp at e <;> exact absurd rfl h)
theorem rI_of {f : Value → Value → Sem Value} {g : Int → Int → V} (h : OpR X f (rI0 g)) : OpR X f (rI (fun _ _ => True) g) := by
  intro pins s σ H v u a b Q I ra rb ⟨i, j, e1, e2, _, q⟩
  exact h pins s σ H v u a b Q I ra rb ⟨i, j, e1, e2, q⟩
theorem op_subD : OpD X (binaryOp .Sub) (opD .Sub) := op_intD (rI_of op_sub) (fun i j z e => by simp [opD] at e; exact ⟨trivial, e.symm⟩) (int_only (by decide))
theorem op_mulD : OpD X (binaryOp .Mult) (opD .Mult) := op_intD op_mul (fun i j z e => by simp [opD] at e; exact ⟨mulOk_c e.1, e.2.symm⟩) (int_only (by decide))
theorem op_modD : OpD X (binaryOp .Mod) (opD .Mod) := op_intD op_mod (fun i j z e => by simp [opD] at e; exact ⟨e.1, e.2.symm⟩) (int_only (by decide))
theorem op_fdivD : OpD X (binaryOp .FloorDiv) (opD .FloorDiv) := op_intD op_fdiv (fun i j z e => by simp [opD] at e; exact ⟨e.1, e.2.symm⟩) (int_only (by decide))
theorem op_powD : OpD X (binaryOp .Pow) (opD .Pow) := op_intD op_pow (fun i j z e => by simp [opD] at e; exact ⟨powOk_c e.1, e.2.symm⟩) (int_only (by decide))
theorem op_shlD : OpD X (binaryOp .LShift) (opD .LShift) := op_intD op_shl (fun i j z e => by simp [opD] at e; exact ⟨powOk_c e.1, e.2.symm⟩) (int_only (by decide))
theorem op_shrD : OpD X (binaryOp .RShift) (opD .RShift) := op_intD op_shr (fun i j z e => by simp [opD] at e; exact ⟨e.1, e.2.symm⟩) (int_only (by decide))
theorem op_andD : OpD X (binaryOp .BitAnd) (opD .BitAnd) := op_intD (rI_of op_and) (fun i j z e => by simp [opD] at e; exact ⟨trivial, e.symm⟩) (int_only (by decide))
theorem op_orD : OpD X (binaryOp .BitOr) (opD .BitOr) := op_intD (rI_of op_or) (fun i j z e => by simp [opD] at e; exact ⟨trivial, e.symm⟩) (int_only (by decide))
theorem op_xorD : OpD X (binaryOp .BitXor) (opD .BitXor) := op_intD (rI_of op_xor) (fun i j z e => by simp [opD] at e; exact ⟨trivial, e.symm⟩) (int_only (by decide))
theorem op_noneD {op : Operator} {f : Value → Value → Sem Value} (h : ∀ x y, opD op x y = none) : OpD X f (opD op) := by
  intro pins s σ H v u a b Q I ra rb ⟨w, x, y, z, h1, h2, h3, h4, h5⟩
  rw [h] at h4; cases h4
theorem op_D (op : Operator) : OpD X (binaryOp op) (opD op) := by
  cases op with
  | Add => exact op_addD
  | Sub => exact op_subD
  | Mult => exact op_mulD
  | Mod => exact op_modD
  | FloorDiv => exact op_fdivD
  | Pow => exact op_powD
  | LShift => exact op_shlD
  | RShift => exact op_shrD
  | BitAnd => exact op_andD
  | BitOr => exact op_orD
  | BitXor => exact op_xorD
  | MatMult => exact op_noneD fun x y => by cases x <;> cases y <;> rfl
  | Div => exact op_noneD fun x y => by cases x <;> cases y <;> rfl
/-- a comparison that computes g -/
def CmD (X : Cx) (f : Value → Value → Sem Value) (g : D → D → Option Bool) : Prop :=
  OpR X f fun v u H Q => ∃ w x y z, Sees (ct X) w H v x ∧ Sees (ct X) w H u y ∧ (∀ a o, w.F a = some o → H a = some o) ∧ g x y = some z ∧ Q (.bl z) H
theorem cmD_of {f : Value → Value → Sem Value} {g : D → D → Option Bool} {r : R2} (h : OpR X f r)
    (hr : ∀ v u H Q w x y z, Sees (ct X) w H v x → Sees (ct X) w H u y → (∀ a o, w.F a = some o → H a = some o) → g x y = some z → Q (.bl z) H → r v u H Q) : CmD X f g := by
  intro pins s σ H v u a b Q I ra rb ⟨w, x, y, z, h1, h2, h3, h4, h5⟩
  exact h pins s σ H v u a b Q I ra rb (hr v u H Q w x y z h1 h2 h3 h4 h5)
theorem cm_none {f : Value → Value → Sem Value} {g : D → D → Option Bool} (h : ∀ x y, g x y = none) : CmD X f g := by
  intro pins s σ H v u a b Q I ra rb ⟨w, x, y, z, h1, h2, h3, h4, h5⟩
  rw [h] at h4; cases h4
theorem cm_D (op : CmpOp) (hu : X.A.units + 64 < cLine) : CmD X (compareOp op) (cmpD op) := by
  cases op with
  | Eq =>
    refine cmD_of (op_eqD hu) ?_
    intro v u H Q w x y z h1 h2 h3 h4 q
    simp only [cmpD, eqD] at h4
    split at h4
    · rename_i a b e1 e2
      split at h4
      · rename_i hb
        cases h4
        simp only [Bool.and_eq_true] at hb
        exact ⟨a, b, h1.dp h3 e1, h2.dp h3 e2, hb.1, hb.2, q⟩
      · cases h4
    · cases h4
  | NotEq =>
    refine cmD_of (op_neD hu) ?_
    intro v u H Q w x y z h1 h2 h3 h4 q
    simp only [cmpD, eqD] at h4
    split at h4
    · rename_i a b e1 e2
      split at h4
      · rename_i hb
        cases h4
        simp only [Bool.and_eq_true] at hb
        exact ⟨a, b, h1.dp h3 e1, h2.dp h3 e2, hb.1, hb.2, q⟩
      · cases h4
    · cases h4
  | Lt =>
    refine cmD_of op_lt ?_
    intro v u H Q w x y z h1 h2 h3 h4 q
    cases h1 <;> cases h2 <;> simp [cmpD] at h4
    subst h4; exact ⟨_, _, rfl, rfl, q⟩
  | LtE =>
    refine cmD_of op_le ?_
    intro v u H Q w x y z h1 h2 h3 h4 q
    cases h1 <;> cases h2 <;> simp [cmpD] at h4
    subst h4; exact ⟨_, _, rfl, rfl, q⟩
  | Gt =>
    refine cmD_of op_gt ?_
    intro v u H Q w x y z h1 h2 h3 h4 q
    cases h1 <;> cases h2 <;> simp [cmpD] at h4
    subst h4; exact ⟨_, _, rfl, rfl, q⟩
  | GtE =>
    refine cmD_of op_ge ?_
    intro v u H Q w x y z h1 h2 h3 h4 q
    cases h1 <;> cases h2 <;> simp [cmpD] at h4
    subst h4; exact ⟨_, _, rfl, rfl, q⟩
  | Is =>
    refine cmD_of (op_isN.or op_isBl) ?_
    intro v u H Q w x y z h1 h2 h3 h4 q
    cases h1 <;> cases h2 <;> simp [cmpD] at h4 <;> subst h4 <;> first | exact .inl ⟨rfl, by simpa using q⟩ | exact .inr ⟨_, _, rfl, rfl, by simpa using q⟩
  | IsNot =>
    refine cmD_of (op_notN.or op_notBl) ?_
    intro v u H Q w x y z h1 h2 h3 h4 q
    cases h1 <;> cases h2 <;> simp [cmpD] at h4 <;> first | (subst h4; exact .inl ⟨rfl, by simpa using q⟩) | (refine .inr ⟨_, _, rfl, rfl, ?_⟩; rw [h4]; simpa using q)
  | In => exact cm_none fun x y => rfl
  | NotIn => exact cm_none fun x y => rfl
theorem un_D (op : UnaryOp) : UnR X (unaryOp op) fun v H Q => ∃ w x z, Sees (ct X) w H v x ∧ unD op x = some z ∧ Q (match z with | .int i => .int i | _ => .non) H := by
  intro pins s σ H v u Q I r ⟨w, x, z, h1, h2, q⟩
  cases op with
  | USub =>
    cases h1 <;> simp [unD] at h2
    subst h2
    exact un_neg pins s σ H _ u Q I r ⟨_, rfl, q⟩
  | Invert =>
    cases h1 <;> simp [unD] at h2
    subst h2
    exact un_inv pins s σ H _ u Q I r ⟨_, rfl, q⟩
  | Not => cases x <;> simp [unD] at h2
  | UAdd => cases x <;> simp [unD] at h2
theorem tru_D {w : Wd} {H : Hp} {v : V} {d : D} {b : Bool} (h : Sees (ct X) w H v d) (hf : ∀ a o, w.F a = some o → H a = some o) (e : truD d = some b) : TruV X.K v H b := by
  cases h with
  | non => simp [truD] at e; subst e; rfl
  | bl b => simp [truD] at e; subst e; rfl
  | int b => simp [truD] at e; subst e; rfl
  | str b => simp [truD] at e; exact ⟨by rw [← line_eq]; exact e.1, e.2.symm⟩
  | tup h r =>
    simp [truD] at e
    have e := (Bool.not_not b).symm.trans (congrArg (!·) e.symm)
    subst e
    refine .inr (.inl ⟨_, sqT_mono hf h, ?_⟩)
    have := relDs_nil r
    rw [Bool.eq_iff_iff]
    simp [List.isEmpty_iff, this]
  | scr h => simp [truD] at e
  | lst h r =>
    simp [truD] at e
    have e := (Bool.not_not b).symm.trans (congrArg (!·) e.symm)
    subst e
    refine .inl ⟨_, SqL.of h, ?_⟩
    have := relDs_nil r
    rw [Bool.eq_iff_iff]
    simp [List.isEmpty_iff, this]
end
end Z

/-! Z4: built-in calls, subscripts, slices by values. -/
namespace Z
open PySem PySem.Spec L2
open PyProof.Rows hiding St

section
variable {X : Cx}
def tyN : Ty → String
  | .bool => "bool" | .int => "int" | .str => "str" | .list => "list" | .tuple => "tuple" | .dict => "dict"
theorem sqT_ty {K : PySem.W.Frag} {H : Hp} {a : Addr} {vs : List V} (h : SqT K H a vs) : TyX K H (.ref a) (.type "tuple") := by
  rcases h with (h | ⟨o, h⟩) | ⟨o, its, n, h, c, _⟩
  · exact .base (.tup h)
  · exact .fTuple h
  · exact .kTuple h c
theorem kit_all : ∀ t : Ty, kitB "NoneType" (tyN t) = some false ∧ kitB "bool" (tyN t) = some (decide (t = .bool ∨ t = .int)) ∧ kitB "int" (tyN t) = some (decide (t = .int)) ∧ kitB "str" (tyN t) = some (decide (t = .str)) ∧
    kitB "list" (tyN t) = some (decide (t = .list)) ∧ kitB "tuple" (tyN t) = some (decide (t = .tuple)) ∧ kitB "dict" (tyN t) = some (decide (t = .dict)) := by
  intro t
  cases t <;> decide +kernel
theorem isi_D {w : Wd} {H : Hp} {v : V} {x : D} {t : Ty} {b : Bool} (h : Sees (ct X) w H v x) (hf : ∀ a o, w.F a = some o → H a = some o) (e : isiD x t = some b) :
    ∃ u, TyX X.K H v u ∧ PySem.W.kitOne X.K u (.type (tyN t)) = some b := by
  obtain ⟨k0, k1, k2, k3, k4, k5, k6⟩ := kit_all t
  cases h with
  | non => simp only [isiD, Option.some.injEq] at e; subst e; exact ⟨_, .base .non, kit_ty k0⟩
  | bl b => simp only [isiD, Option.some.injEq] at e; subst e; exact ⟨_, .base (.bl _), kit_ty k1⟩
  | int b => simp only [isiD, Option.some.injEq] at e; subst e; exact ⟨_, .base (.int _), kit_ty k2⟩
  | str b => simp only [isiD, Option.some.injEq] at e; subst e; exact ⟨_, .base (.str _), kit_ty k3⟩
  | tup h r => simp only [isiD, Option.some.injEq] at e; subst e; exact ⟨_, sqT_ty (sqT_mono hf h), kit_ty k5⟩
  | lst h r => simp only [isiD, Option.some.injEq] at e; subst e; exact ⟨_, .base (.lst h), kit_ty k4⟩
  | scr h => simp [isiD] at e
/-- a subscript -/
theorem ix_eq {n : Nat} {i : Int} : ixN n i = L2.ixN n i := rfl
theorem sub_D : IxR X fun v u H Q => ∃ w x y z, Sees (ct X) w H v x ∧ Sees (ct X) w H u y ∧ (∀ a o, w.F a = some o → H a = some o) ∧ subD x y = some z ∧ Gives (ct X) w H z Q := by
  intro value slice pins s σ H v u a b Q I ra rb ⟨w, x, y, z, h1, h2, h3, h4, g⟩ hs
  refine ix_seq value slice pins s σ H v u a b Q I ra rb ?_ hs
  cases h2 <;> simp [subD] at h4
  rename_i i
  cases h1 <;> simp at h4
  · rename_i p vs ds h r
    cases e : ixN ds.length i with
    | none => rw [e] at h4; simp at h4
    | some j =>
      rw [e] at h4
      simp at h4
      obtain ⟨v', h5, h6⟩ := r.get h4
      refine .inr (.inl ⟨_, _, _, v', rfl, rfl, sqT_mono h3 h, ?_, g.1 _ fun w' gr _ => h6.mono gr⟩)
      unfold atI
      rw [r.length, ← ix_eq, e]
      exact h5
  · rename_i p vs ds h r
    cases e : ixN ds.length i with
    | none => rw [e] at h4; simp at h4
    | some j =>
      rw [e] at h4
      simp at h4
      obtain ⟨v', h5, h6⟩ := r.get h4
      refine .inl ⟨_, _, _, v', rfl, rfl, SqL.of h, ?_, g.1 _ fun w' gr _ => h6.mono gr⟩
      unfold atI
      rw [r.length, ← ix_eq, e]
      exact h5
  · rename_i p ns h
    cases e : ixN ns.length i with
    | none => rw [e] at h4; simp at h4
    | some j =>
      rw [e] at h4
      simp at h4
      obtain ⟨n, h5, h6⟩ := h4
      subst h6
      refine .inl ⟨_, _, _, .int n, rfl, rfl, sqL_mono h3 h, ?_, g.sc fun _ _ => .int n⟩
      unfold atI
      rw [List.length_map, ← ix_eq, e]
      simp [h5]
/-- a slice -/
theorem cut_map {α β : Type} (f : α → β) (xs : List α) (lo hi : Option Int) : cut (xs.map f) lo hi = (cut xs lo hi).map f := by
  unfold cut
  rw [List.length_map, List.map_take, List.map_drop]
theorem ints_rel {C : Ct} {F : Hp} {L : List Addr} : ∀ ns : List Int, RelDs C F L (ns.map V.int) (ns.map D.int)
  | [] => .nil
  | n :: ns => .cons (.int n) (ints_rel ns)
theorem six_eq {n d : Nat} {o : Option Int} : sIx n d o = HT.sIx n d o := by cases o <;> rfl
theorem cut_rel {C : Ct} {F : Hp} {L : List Addr} {vs : List V} {ds : List D} (r : RelDs C F L vs ds) (lo hi : Option Int) : RelDs C F L (cutV vs lo hi) (cut ds lo hi) := by
  unfold cutV cut
  rw [r.length, six_eq, six_eq]
  exact (r.drop _).take _
theorem slc_D : SlR X fun v lo hi H Q => ∃ w x z, Sees (ct X) w H v x ∧ (∀ a o, w.F a = some o → H a = some o) ∧ slcD x lo hi = some z ∧ Gives (ct X) w H z Q := by
  intro pins s σ H v a vl vu lo hi sl Q I ra hs pl pu ⟨w, x, z, h1, h3, h4, g⟩
  cases h1 <;> simp [slcD] at h4
  · rename_i t
    obtain ⟨h5, h4⟩ := h4
    subst h4
    refine sl_str pins s σ H _ a vl vu lo hi sl Q I ra hs pl pu ⟨t, rfl, by rw [← line_eq]; exact h5, ?_⟩
    have e : cutS t lo hi = (⟨(cut t.cps.toList lo hi).toArray⟩ : Str) := by
      unfold cutS cut
      rw [Array.length_toList]
      simp only [six_eq]
      rfl
    rw [e]
    exact g.sc fun _ _ => .str _
  · rename_i p vs ds h r
    subst h4
    refine sl_tupA pins s σ H _ a vl vu lo hi sl Q I ra hs pl pu ⟨_, _, rfl, sqT_mono h3 h, fun e => ?_, fun _ q hq => g.2 _ _ _ hq fun w' gr e => .tup (SqT.of e) ((cut_rel r lo hi).mono gr)⟩
    refine g.1 _ fun w' gr _ => .tup (sqT_mono gr.f h) ?_
    have e2 : cut ds lo hi = ds := by
      unfold cut
      rw [six_eq, six_eq, ← r.length, e.1, e.2, List.drop_zero, Nat.sub_zero, r.length, List.take_length]
    rw [e2]
    exact r.mono gr
  · rename_i p vs ds h r
    subst h4
    exact sl_list pins s σ H _ a vl vu lo hi sl Q I ra hs pl pu ⟨_, _, rfl, SqL.of h, fun q hq => g.2 _ _ _ hq fun w' gr e => .lst e ((cut_rel r lo hi).mono gr)⟩
  · rename_i p ns h
    subst h4
    refine sl_list pins s σ H _ a vl vu lo hi sl Q I ra hs pl pu ⟨_, _, rfl, sqL_mono h3 h, fun q hq => g.2 _ _ _ hq fun w' gr e => .lst e ?_⟩
    have e2 : cutV (ns.map V.int) lo hi = (cut ns lo hi).map V.int := by
      rw [← cut_map]
      unfold cutV cut
      rw [six_eq, six_eq]
    rw [e2]
    exact ints_rel _
/-- the built-in calls of one argument -/
def biN : BI → String
  | .len => "len" | .sum => "sum" | .all => "all" | .any => "any" | .abs => "abs" | .int => "int" | .tuple => "tuple"
def biV : BI → Value
  | .int => .type "int" | .tuple => .type "tuple" | f => .builtin (biN f)
theorem bi_D (f : BI) (hc : X.calm = true) : CallR X (biV f) fun vs H Q => ∃ w v x z, vs = [v] ∧ Sees (ct X) w H v x ∧ (∀ a o, w.F a = some o → H a = some o) ∧ biD f x = some z ∧ Gives (ct X) w H z Q := by
  intro pins s σ H vs us Q I rv ⟨w, v, x, z, e, h1, h3, h4, g⟩
  subst e
  cases f with
  | len =>
    refine call_len pins s σ H _ us Q I rv ?_
    cases h1 <;> simp [biD] at h4
    · obtain ⟨h5, h4⟩ := h4
      subst h4
      exact ⟨_, _, rfl, ⟨by rw [← line_eq]; exact h5, rfl⟩, g.sc fun _ _ => .int _⟩
    · rename_i p vs ds h r
      subst h4
      exact ⟨_, _, rfl, .inr ⟨_, sqT_mono h3 h, rfl⟩, g.sc fun _ _ => by rw [r.length]; exact .int _⟩
    · rename_i p vs ds h r
      subst h4
      exact ⟨_, _, rfl, .inl ⟨_, SqL.of h, rfl⟩, g.sc fun _ _ => by rw [r.length]; exact .int _⟩
    · rename_i p ns h
      subst h4
      exact ⟨_, _, rfl, .inl ⟨_, sqL_mono h3 h, rfl⟩, g.sc fun _ _ => by rw [List.length_map]; exact .int _⟩
  | sum =>
    refine cr_sum hc pins s σ H _ us Q I rv ?_
    cases h1 <;> simp [biD] at h4
    rename_i p vs ds h r
    obtain ⟨ns, e1, e2⟩ := h4
    subst e2
    have e3 := r.ints e1
    subst e3
    exact ⟨_, _, rfl, SqL.of h, g.sc fun _ _ => .int _⟩
  | all =>
    refine cr_all hc pins s σ H _ us Q I rv ?_
    cases h1 <;> simp [biD] at h4
    rename_i p vs ds h r
    obtain ⟨ns, e1, e2⟩ := h4
    subst e2
    have e3 := r.bls e1
    subst e3
    refine ⟨_, _, rfl, SqL.of h, ?_⟩
    have := g.sc (v := .bl (ns.all id)) fun _ _ => by simpa using RelD.bl (C := ct X) _
    exact this
  | any =>
    refine cr_any hc pins s σ H _ us Q I rv ?_
    cases h1 <;> simp [biD] at h4
    rename_i p vs ds h r
    obtain ⟨ns, e1, e2⟩ := h4
    subst e2
    have e3 := r.bls e1
    subst e3
    refine ⟨_, _, rfl, SqL.of h, ?_⟩
    have := g.sc (v := .bl (ns.any id)) fun _ _ => by simpa using RelD.bl (C := ct X) _
    exact this
  | abs =>
    refine call_abs pins s σ H _ us Q I rv ?_
    cases h1 <;> simp [biD] at h4
    subst h4
    exact ⟨_, rfl, g.sc fun _ _ => .int _⟩
  | int =>
    refine call_int1 pins s σ H _ us Q I rv ?_
    cases h1 <;> simp [biD] at h4
    · subst h4
      exact .inr ⟨_, rfl, g.sc fun _ _ => .int _⟩
    · subst h4
      exact .inl ⟨_, rfl, g.sc fun _ _ => .int _⟩
  | tuple =>
    refine call_tuple_of pins s σ H _ us Q I rv ?_
    cases h1 <;> simp [biD] at h4
    · rename_i p vs ds h r
      subst h4
      exact ⟨_, _, rfl, .inr ⟨sqT_mono h3 h, g.1 _ fun w' gr _ => .tup (sqT_mono gr.f h) (r.mono gr)⟩⟩
    · rename_i p vs ds h r
      subst h4
      exact ⟨_, _, rfl, .inl ⟨SqL.of h, fun l hl => g.2 _ _ _ hl fun w' gr e => .tup (SqT.of e) (r.mono gr)⟩⟩
def bi2N : BI2 → String
  | .max => "max" | .min => "min"
theorem bi2_D (f : BI2) (hc : X.calm = true) : CallR X (.builtin (bi2N f)) fun vs H Q => ∃ w v u x y z, vs = [v, u] ∧ Sees (ct X) w H v x ∧ Sees (ct X) w H u y ∧ bi2D f x y = some z ∧ Gives (ct X) w H z Q := by
  intro pins s σ H vs us Q I r ⟨w, v, u, x, y, z, e, h1, h2, h4, g⟩
  subst e
  cases f with
  | max =>
    cases h1 <;> cases h2 <;> simp [bi2D] at h4
    subst h4
    exact call_max2 hc pins s σ H _ us Q I r ⟨_, _, rfl, g.sc fun _ _ => .int _⟩
  | min =>
    cases h1 <;> cases h2 <;> simp [bi2D] at h4
    subst h4
    exact call_min2 hc pins s σ H _ us Q I r ⟨_, _, rfl, g.sc fun _ _ => .int _⟩
end
end Z

/-! Z5: expressions, construct by construct. -/
namespace Z
open PySem PySem.Spec L2
open PyProof.Rows hiding St

section
variable {C : Ct} {W : WX} {α β γ δ ε ζ : Type} {rel : Wd → β → α → Prop} {rel2 : Wd → δ → γ → Prop} {rel3 : Wd → ζ → ε → Prop} {σ : St} {H : Hp}
theorem tM.imp {m : M α} {Q Q' : β → Hp → Prop} (h : tM C W rel m σ H Q) (hq : ∀ b H', Q b H' → Q' b H') : tM C W rel m σ H Q' := by
  obtain ⟨w, ρ, st, h⟩ := h
  exact ⟨w, ρ, st, h.imp hq⟩
/-- one run, and what follows it -/
theorem tM.one {m : M α} {k : α → M γ} {Q : δ → Hp → Prop} (h : tM C W rel2 (bind m k) σ H Q) :
    tM C W rel m σ H fun b H1 => ∃ a w ρ st, rel w b a ∧ tW C W rel2 w ρ st (k a) σ H1 Q := by
  obtain ⟨w, ρ, st, h⟩ := h
  exact ⟨w, ρ, st, h.bind.imp fun b H1 ⟨a, w1, ρ1, st1, r, _, q⟩ => ⟨a, w1, ρ1, st1, r, q⟩⟩
/-- two runs, and what follows them -/
theorem tM.two {ma : M D} {mb : M ε} {k : D → ε → M γ} {Q : δ → Hp → Prop} (h : tM C W rel2 (bind ma fun x => bind mb fun y => k x y) σ H Q) :
    tM C W (rD C) ma σ H fun v H1 => tM C W rel3 mb σ H1 fun u H2 => ∃ x y w ρ st, RelD C w.F w.L v x ∧ rel3 w u y ∧ tW C W rel2 w ρ st (k x y) σ H2 Q := by
  obtain ⟨w, ρ, st, h⟩ := h
  refine ⟨w, ρ, st, h.bind.imp fun v H1 ⟨x, w1, ρ1, st1, r, _, q⟩ => ⟨w1, ρ1, st1, q.bind.imp fun u H2 ⟨y, w2, ρ2, st2, r2, s2, q2⟩ => ⟨x, y, w2, ρ2, st2, r.mono s2.gr, r2, q2⟩⟩⟩
theorem tM.rw {m m' : M α} {Q : β → Hp → Prop} (e : m = m') (h : tM C W rel m σ H Q) : tM C W rel m' σ H Q := by rw [← e]; exact h
end

section
variable {X : Cx} {W : WX} {pos : Pos} {a b c : Expr} {ma mb mc : M D}
theorem de_bin {op : Operator} (ha : DE X W a ma) (hb : DE X W b mb) :
    DE X W (.BinOp a op b pos) (bind ma fun x => bind mb fun y => bind (viewM x) fun x => bind (viewM y) fun y => opt (opD op x y)) :=
  (pe_op (op_D op) ha hb).imp fun σ H Q h => h.two.imp fun v H1 h => h.imp fun u H2 ⟨x, y, w, ρ, st, r1, r2, q⟩ => by
    obtain ⟨z, e, q⟩ := q.viewBind.viewBind.opt
    exact ⟨w, _, _, z, sees q.1 r1, sees q.1 r2, q.1.fh, e, gives_of q⟩
theorem de_un {op : UnaryOp} (ha : DE X W a ma) : DE X W (.UnaryOp op a pos) (bind ma fun x => opt (unD op x)) :=
  (pe_un (un_D op) ha).imp fun σ H Q h => h.one.imp fun v H1 ⟨x, w, ρ, st, r, q⟩ => by
    obtain ⟨z, e, q⟩ := q.opt
    have hx : view st x = x := by cases x <;> first | rfl | simp [unD] at e
    refine ⟨w, x, z, hx ▸ sees q.1 r, e, q.ret ?_⟩
    cases x <;> simp [unD] at e
    cases op <;> simp at e <;> subst e <;> exact .int _

/-! ### tests -/
/-- the truth of what a run gives -/
def testM (m : M D) : M Bool := bind m fun x => bind (viewM x) fun x => opt (truD x)
def andM (ma mb : M D) : M D := bind ma fun x => bind (viewM x) fun v => bind (opt (truD v)) fun t => if t then mb else ret x
def orM (ma mb : M D) : M D := bind ma fun x => bind (viewM x) fun v => bind (opt (truD v)) fun t => if t then ret x else mb
def notM (ma : M D) : M D := bind ma fun x => bind (viewM x) fun x => bind (opt (truD x)) fun b => ret (.bl (!b))
theorem opt_some {α : Type} (a : α) : opt (some a) = ret a := rfl
theorem opt_none {α : Type} : (opt none : M α) = bad := rfl
theorem testM_and : testM (andM ma mb) = bind (testM ma) fun t => if t then testM mb else ret false := by
  funext ρ st
  simp only [testM, andM, bind, viewM]
  cases ma ρ st with
  | ok x ρ1 st1 =>
    simp only
    cases e : truD (view st1 x) with
    | none => rfl
    | some t =>
      cases t with
      | true => rfl
      | false => simp [opt_some, e, ret]
  | exc => rfl
  | bad => rfl
theorem testM_or : testM (orM ma mb) = bind (testM ma) fun t => if t then ret true else testM mb := by
  funext ρ st
  simp only [testM, orM, bind, viewM]
  cases ma ρ st with
  | ok x ρ1 st1 =>
    simp only
    cases e : truD (view st1 x) with
    | none => rfl
    | some t =>
      cases t with
      | false => rfl
      | true => simp [opt_some, e, ret]
  | exc => rfl
  | bad => rfl
theorem testM_not : testM (notM ma) = bind (testM ma) fun t => ret (!t) := by
  funext ρ st
  simp only [testM, notM, bind, viewM, opt, ret]
  cases ma ρ st with
  | ok x ρ1 st1 =>
    simp only
    cases e : truD (view st1 x) with
    | none => rfl
    | some t => rfl
  | exc => rfl
  | bad => rfl
theorem testM_bl {m : M Bool} : testM (bind m fun t => ret (.bl t)) = m := by
  funext ρ st
  simp only [testM, bind, viewM, opt, ret]
  cases m ρ st with
  | ok x ρ1 st1 => rfl
  | exc => rfl
  | bad => rfl
/-- a plain test: the truth of a value -/
def PlainT (X : Cx) (e : Expr) : Prop := ∀ whole, isTrue e X.env whole = (do let v ← whole; standAt e.pos; holding [v] (truthy v))
theorem dt_of (ha : DE X W a ma) (hp : PlainT X a) : DT X W a (testM ma) :=
  (pt_truth ha hp).imp fun σ H Q h => h.one.imp fun v H1 ⟨x, w, ρ, st, r, q⟩ => by
    obtain ⟨z, e, q⟩ := q.viewBind.opt
    exact ⟨z, tru_D (X := X) (sees q.1 r) q.1.fh e, q.ret rfl⟩
/-- a test, whatever its whole is -/
abbrev DW (X : Cx) (W : WX) (e : Expr) (m : M Bool) : Prop := PW X e (tM (ct X) W rB m)
theorem dw_and1 {op : BoolOp} (h : DT X W a (testM ma)) : DW X W (.BoolOp op [a] pos) (testM ma) := by
  cases op with
  | And => exact pw_and1 h
  | Or => exact pw_or1 h
theorem dw_and {rest : List Expr} (ha : DT X W a (testM ma)) (hb : DW X W (.BoolOp .And (b :: rest) pos) (testM mb)) : DW X W (.BoolOp .And (a :: b :: rest) pos) (testM (andM ma mb)) :=
  (pw_and ha hb).imp fun σ H Q h => (tM.rw testM_and h).one.imp fun t H1 ⟨t', w, ρ, st, r, q⟩ => by
    cases r
    cases t with
    | true => exact ⟨w, ρ, st, q⟩
    | false => exact q.ret rfl
theorem dw_or {rest : List Expr} (ha : DT X W a (testM ma)) (hb : DW X W (.BoolOp .Or (b :: rest) pos) (testM mb)) : DW X W (.BoolOp .Or (a :: b :: rest) pos) (testM (orM ma mb)) :=
  (pw_or ha hb).imp fun σ H Q h => (tM.rw testM_or h).one.imp fun t H1 ⟨t', w, ρ, st, r, q⟩ => by
    cases r
    cases t with
    | true => exact q.ret rfl
    | false => exact ⟨w, ρ, st, q⟩
theorem de_one {op : BoolOp} (h : DE X W a ma) : DE X W (.BoolOp op [a] pos) ma := pe_one h
theorem de_and {rest : List Expr} (ha : DE X W a ma) (hb : DE X W (.BoolOp .And (b :: rest) pos) mb) : DE X W (.BoolOp .And (a :: b :: rest) pos) (andM ma mb) :=
  (pe_andT ha hb).imp fun σ H Q h => h.one.imp fun v H1 ⟨x, w, ρ, st, r, q⟩ => by
    obtain ⟨z, e, q⟩ := q.viewBind.optBind
    refine ⟨z, tru_D (X := X) (sees q.1 r) q.1.fh e, ?_⟩
    cases z with
    | true => exact ⟨w, ρ, st, q⟩
    | false => exact q.ret r
theorem de_or {rest : List Expr} (ha : DE X W a ma) (hb : DE X W (.BoolOp .Or (b :: rest) pos) mb) : DE X W (.BoolOp .Or (a :: b :: rest) pos) (orM ma mb) :=
  (pe_orT ha hb).imp fun σ H Q h => h.one.imp fun v H1 ⟨x, w, ρ, st, r, q⟩ => by
    obtain ⟨z, e, q⟩ := q.viewBind.optBind
    refine ⟨z, tru_D (X := X) (sees q.1 r) q.1.fh e, ?_⟩
    cases z with
    | true => exact q.ret r
    | false => exact ⟨w, ρ, st, q⟩
theorem de_not (ha : DE X W a ma) : DE X W (.UnaryOp .Not a pos) (notM ma) :=
  (pe_notT ha).imp fun σ H Q h => h.one.imp fun v H1 ⟨x, w, ρ, st, r, q⟩ => by
    obtain ⟨z, e, q⟩ := q.viewBind.optBind
    exact ⟨z, tru_D (X := X) (sees q.1 r) q.1.fh e, q.ret (.bl _)⟩
theorem dt_not (ha : DT X W a (testM ma)) : DT X W (.UnaryOp .Not a pos) (testM (notM ma)) :=
  (pt_not ha).imp fun σ H Q h => (tM.rw testM_not h).one.imp fun t H1 ⟨t', w, ρ, st, r, q⟩ => by
    cases r
    exact q.ret rfl
theorem de_ite (hc : DT X W c (testM mc)) (ha : DE X W a ma) (hb : DE X W b mb) :
    DE X W (.IfExp c a b pos) (bind mc fun x => bind (viewM x) fun x => bind (opt (truD x)) fun t => if t then ma else mb) :=
  (pe_ifExp hc ha hb).imp fun σ H Q h => by
    have e : (bind mc fun x => bind (viewM x) fun x => bind (opt (truD x)) fun t => if t then ma else mb) = bind (testM mc) fun t => if t then ma else mb := by
      funext ρ st
      simp only [testM, bind, viewM, opt, ret]
      cases mc ρ st with
      | ok x ρ1 st1 => simp only
      | exc => rfl
      | bad => rfl
    refine (tM.rw e h).one.imp fun t H1 ⟨t', w, ρ, st, r, q⟩ => ?_
    cases r
    cases t with
    | true => exact ⟨w, ρ, st, q⟩
    | false => exact ⟨w, ρ, st, q⟩

/-! ### comparisons -/
def cmpM (op : CmpOp) (ma mb : M D) : M Bool := bind ma fun x => bind mb fun y => bind (viewM x) fun x => bind (viewM y) fun y => opt (cmpD op x y)
theorem cmp_read {op : CmpOp} {σ : St} {H : Hp} {Q : Bool → Hp → Prop} (h : tM (ct X) W rB (cmpM op ma mb) σ H Q) :
    tM (ct X) W (rD (ct X)) ma σ H fun v H1 => tM (ct X) W (rD (ct X)) mb σ H1 fun u H2 => ∃ w x y z, Sees (ct X) w H2 v x ∧ Sees (ct X) w H2 u y ∧ (∀ a o, w.F a = some o → H2 a = some o) ∧ cmpD op x y = some z ∧ Q z H2 :=
  h.two.imp fun v H1 h => h.imp fun u H2 ⟨x, y, w, ρ, st, r1, r2, q⟩ => by
    obtain ⟨z, e, q⟩ := q.viewBind.viewBind.opt
    exact ⟨w, _, _, z, sees q.1 r1, sees q.1 r2, q.1.fh, e, q.ret rfl⟩
theorem dt_bl {m : M Bool} {e : Expr} (h : PE X e fun σ H Q => tM (ct X) W rB m σ H fun t H' => Q (.bl t) H') : DE X W e (bind m fun t => ret (.bl t)) :=
  h.imp fun σ H Q h => h.one.imp fun t H1 ⟨t', w, ρ, st, r, q⟩ => by
    cases r
    exact q.ret (.bl _)
theorem de_cmp {op : CmpOp} (hu : X.A.units + 64 < cLine) (ha : DE X W a ma) (hb : DE X W b mb) (hm : behindInMarks op b = false) :
    DE X W (.Compare a [op] [b] pos) (bind (cmpM op ma mb) fun t => ret (.bl t)) :=
  dt_bl ((pe_cmpR (cm_D op hu) ha hb hm).imp fun σ H Q h => cmp_read h)
theorem dt_cmp {op : CmpOp} (hu : X.A.units + 64 < cLine) (ha : DE X W a ma) (hb : DE X W b mb) (hm : behindInMarks op b = false) :
    DT X W (.Compare a [op] [b] pos) (testM (bind (cmpM op ma mb) fun t => ret (.bl t))) := by
  rw [testM_bl]
  refine (pt_cmpR (cm_D op hu) ha hb hm).imp fun σ H Q h => ?_
  exact (cmp_read h).imp fun v H1 h => h.imp fun u H2 ⟨w, x, y, z, h1, h2, h3, h4, h5⟩ => ⟨w, x, y, z, h1, h2, h3, h4, z, rfl, h5⟩
/-- a < b < c -/
def chainM (op op' : CmpOp) (ma mb mc : M D) : M Bool := bind ma fun x => bind mb fun y => bind (opt (cmpD op x y)) fun t => if t then bind mc fun z => opt (cmpD op' y z) else ret false
theorem cmp_scal {op : CmpOp} {x y : D} {z : Bool} (ho : op ≠ .Eq ∧ op ≠ .NotEq ∧ op ≠ .Is ∧ op ≠ .IsNot) (e : cmpD op x y = some z) : ∃ i j, x = .int i ∧ y = .int j := by
  cases op <;> simp at ho <;> cases x <;> cases y <;> simp [cmpD] at e <;> exact ⟨_, _, rfl, rfl⟩
theorem chain_read {op op' : CmpOp} (h1 : op ≠ .Eq ∧ op ≠ .NotEq ∧ op ≠ .Is ∧ op ≠ .IsNot) (h2 : op' ≠ .Eq ∧ op' ≠ .NotEq ∧ op' ≠ .Is ∧ op' ≠ .IsNot) {σ : St} {H : Hp} {Q : Bool → Hp → Prop} (h : tM (ct X) W rB (chainM op op' ma mb mc) σ H Q) :
    tChain (fun v u H Q => ∃ w x y z, Sees (ct X) w H v x ∧ Sees (ct X) w H u y ∧ (∀ a o, w.F a = some o → H a = some o) ∧ cmpD op x y = some z ∧ Q (.bl z) H)
      (fun v u H Q => ∃ w x y z, Sees (ct X) w H v x ∧ Sees (ct X) w H u y ∧ (∀ a o, w.F a = some o → H a = some o) ∧ cmpD op' x y = some z ∧ Q (.bl z) H)
      (tM (ct X) W (rD (ct X)) ma) (tM (ct X) W (rD (ct X)) mb) (tM (ct X) W (rD (ct X)) mc) σ H fun v H' => ∃ t, v = .bl t ∧ Q t H' := by
  refine h.two.imp fun v H1 h => h.imp fun u H2 ⟨x, y, w, ρ, st, r1, r2, q⟩ => ?_
  obtain ⟨z, e, q⟩ := q.optBind
  obtain ⟨i, j, rfl, rfl⟩ := cmp_scal h1 e
  cases r1
  cases r2
  refine ⟨w, _, _, z, .int i, .int j, q.1.fh, e, z, rfl, ?_⟩
  cases z with
  | true =>
    rw [if_pos rfl] at q ⊢
    refine ⟨w, ρ, st, q.bind.imp fun t H3 ⟨d, w1, ρ1, st1, r, s, q⟩ => ?_⟩
    obtain ⟨z2, e2, q2⟩ := q.opt
    obtain ⟨i', j', e1, rfl⟩ := cmp_scal h2 e2
    cases e1
    cases r
    exact ⟨w1, _, _, z2, .int _, .int _, q2.1.fh, e2, z2, rfl, q2.ret (rel := rB) rfl⟩
  | false =>
    rw [if_neg Bool.false_ne_true] at q ⊢
    exact ⟨false, rfl, q.ret rfl⟩
/-- kinds of order, for chains -/
def Ordr (op : CmpOp) : Prop := op ≠ .Eq ∧ op ≠ .NotEq ∧ op ≠ .Is ∧ op ≠ .IsNot
theorem de_chain {op op' : CmpOp} (h1 : Ordr op) (h2 : Ordr op') (hu : X.A.units + 64 < cLine) (ha : DE X W a ma) (hb : DE X W b mb) (hc : DE X W c mc) (hm : lastMarks [op, op'] [b, c] = false) :
    DE X W (.Compare a [op, op'] [b, c] pos) (bind (chainM op op' ma mb mc) fun t => ret (.bl t)) := by
  refine dt_bl ((pe_chain (cm_D op hu) (cm_D op' hu) ha hb hc hm).imp fun σ H Q h => ?_)
  have q := chain_read h1 h2 h
  unfold tChain at q ⊢
  refine tM.imp q fun v H1 h => tM.imp h fun u H2 ⟨w, x, y, z, a1, a2, a3, a4, k, e, q⟩ => ⟨w, x, y, z, a1, a2, a3, a4, k, e, ?_⟩
  cases k with
  | true =>
    rw [if_pos rfl] at q ⊢
    refine tM.imp q fun t H3 ⟨w, x, y, z, b1, b2, b3, b4, t', e, q⟩ => ⟨w, x, y, z, b1, b2, b3, b4, ?_⟩
    cases e; exact q
  | false =>
    rw [if_neg Bool.false_ne_true] at q ⊢
    obtain ⟨t', e, q⟩ := q
    cases e; exact q
theorem dt_chain {op op' : CmpOp} (h1 : Ordr op) (h2 : Ordr op') (hu : X.A.units + 64 < cLine) (ha : DE X W a ma) (hb : DE X W b mb) (hc : DE X W c mc) (hm : lastMarks [op, op'] [b, c] = false) :
    DT X W (.Compare a [op, op'] [b, c] pos) (testM (bind (chainM op op' ma mb mc) fun t => ret (.bl t))) := by
  rw [testM_bl]
  exact (pt_chain (cm_D op hu) (cm_D op' hu) ha hb hc hm).imp fun σ H Q h => chain_read h1 h2 h

/-! ### argument lists, displays, slices -/
variable {es : List Expr} {ms : M (List D)}
theorem ds_nil : DEs X W [] (ret []) := pa_nil.imp fun σ H Q ⟨w, ρ, st, q⟩ => q.ret .nil
theorem ds_cons (ha : DE X W a ma) (hr : DEs X W es ms) (hs : starEach (a :: es) X.env = (false, eval a X.env) :: starEach es X.env) : DEs X W (a :: es) (bind ma fun d => bind ms fun ds => ret (d :: ds)) :=
  (pa_cons ha hr hs).imp fun σ H Q h => h.two.imp fun v H1 h => h.imp fun vs H2 ⟨x, y, w, ρ, st, r1, r2, q⟩ => q.ret (.cons r1 r2)
abbrev DKs (X : Cx) (W : WX) (ks : List Keyword) (m : M (List D)) : Prop := PK X ks (tM (ct X) W (rDs (ct X)) m)
theorem dk_nil : DKs X W [] (ret []) := pk_nil.imp fun σ H Q ⟨w, ρ, st, q⟩ => q.ret .nil
theorem dk_cons {nm : Option Str} {kp : Pos} {ks : List Keyword} (ha : DE X W a ma) (hr : DKs X W ks ms) : DKs X W (⟨nm, a, kp⟩ :: ks) (bind ma fun d => bind ms fun ds => ret (d :: ds)) :=
  (pk_cons ha hr).imp fun σ H Q h => h.two.imp fun v H1 h => h.imp fun vs H2 ⟨x, y, w, ρ, st, r1, r2, q⟩ => q.ret (.cons r1 r2)
theorem tW.fits {C : Ct} {δ γ : Type} {rel2 : Wd → δ → γ → Prop} {w : Wd} {ρ : Env} {st : Store} {σ : St} {H : Hp} {xs : List D} {k : List D → M γ} {Q : δ → Hp → Prop} (h : tW C W rel2 w ρ st (Z.bind (Z.fits xs) k) σ H Q) : xs.length ≤ sizeLine ∧ tW C W rel2 w ρ st (k xs) σ H Q := by
  unfold Z.fits at h
  split at h
  · rename_i hl
    exact ⟨by rw [← line_eq]; exact hl, h⟩
  · exact h.2.2.elim
theorem de_tup {k : Nat} (h : DEs X W es ms) : DE X W (.Tuple es k pos) (bind ms fun ds => bind (fits ds) fun ds => ret (.tup ds)) :=
  (pe_tup h).imp fun σ H Q h => h.one.imp fun vs H1 ⟨ds, w, ρ, st, r, q⟩ => by
    obtain ⟨hl, q⟩ := q.fits
    exact ⟨by rw [r.length]; exact hl, fun p hp => (gives_of q).2 _ p _ hp fun w' gr e => .tup (SqT.of e) (RelDs.mono gr r)⟩
theorem do_none : DO X W none (ret none) := ⟨fun pins s σ H Q I ⟨w, ρ, st, q⟩ => po_none.run pins s σ H Q I (q.ret rfl)⟩
theorem do_some (ha : DE X W a ma) : DO X W (some a) (bind ma fun d => match d with | .int i => ret (some i) | _ => bad) :=
  (po_some ha).imp fun σ H Q h => h.one.imp fun v H1 ⟨x, w, ρ, st, r, q⟩ => by
    cases r with
    | int i => exact ⟨i, rfl, q.ret rfl⟩
    | _ => exact q.2.2.elim
theorem de_sub (ha : DE X W a ma) (hb : DE X W b mb) (hs : PlainIx b) : DE X W (.Subscript a b pos) (bind ma fun x => bind mb fun y => bind (viewM x) fun x => opt (subD x y)) :=
  (pe_ix sub_D ha hb hs).imp fun σ H Q h => h.two.imp fun v H1 h => h.imp fun u H2 ⟨x, y, w, ρ, st, r1, r2, q⟩ => by
    obtain ⟨z, e, q⟩ := q.viewBind.opt
    have hy : view st y = y := by cases y <;> first | rfl | simp [subD] at e
    exact ⟨w, _, y, z, sees q.1 r1, hy ▸ sees q.1 r2, q.1.fh, e, gives_of q⟩
theorem de_slc {lo hi : Option Expr} {ml mh : M (Option Int)} {p2 : Pos} (ha : DE X W a ma) (hl : DO X W lo ml) (hh : DO X W hi mh) :
    DE X W (.Subscript a (.Slice lo hi none p2) pos) (bind ma fun x => bind ml fun l => bind mh fun h => bind (viewM x) fun x => opt (slcD x l h)) :=
  (pe_slice slc_D ha hl hh).imp fun σ H Q ⟨w, ρ, st, h⟩ => by
    refine ⟨w, ρ, st, h.bind.imp fun v H1 ⟨x, w1, ρ1, st1, r, _, q⟩ => ?_⟩
    refine ⟨w1, ρ1, st1, q.bind.imp fun l H2 ⟨l', w2, ρ2, st2, e1, s2, q⟩ => ?_⟩
    refine ⟨w2, ρ2, st2, q.bind.imp fun u H3 ⟨u', w3, ρ3, st3, e2, s3, q⟩ => ?_⟩
    cases e1
    cases e2
    obtain ⟨z, e, q⟩ := q.viewBind.opt
    exact ⟨w3, _, z, sees q.1 ((RelD.mono s2.gr r).mono s3.gr), q.1.fh, e, gives_of q⟩

/-! ### built-in calls -/
/-- a built-in's name -/
structure BName (X : Cx) (x : Str) (u : Value) : Prop where
  gl : Gl X x
  mg : X.mg x = none
  bt : bootBuiltins x = some u
  nn : x ≠ "__name__"
  nd : (x == ("__debug__" : Str)) = false
theorem callV {x : Str} {u : Value} {p : Pos} {e : Expr} {es : List Expr} {t : TA} {r : List V → Hp → VK → Prop} (hn : BName X x u) (hty : (∃ id, u = .builtin id) ∨ ∃ T, u = .type T) (hc : CallR X u r) (ha : PA X (e :: es) t)
    (he : starEach (e :: es) X.env = (false, eval e X.env) :: starEach es X.env) (hpl : (backTo pos (starEach es X.env)).any (·.1) = false) : PE X (.Call (.Name x p) (e :: es) [] pos) (tCB r t) := by
  rcases hty with ⟨id, rfl⟩ | ⟨T, rfl⟩
  · exact pe_callB hc hn.gl hn.mg hn.bt ha hn.nn hn.nd he hpl
  · exact pe_callTy hc hn.gl hn.mg hn.bt ha hn.nn hn.nd he hpl
theorem biV_ty (f : BI) : (∃ id, biV f = .builtin id) ∨ ∃ T, biV f = .type T := by cases f <;> first | exact .inl ⟨_, rfl⟩ | exact .inr ⟨_, rfl⟩
/-- no star ahead of an argument -/
def NoStar (X : Cx) (e : Expr) : Prop := ∀ es, starEach (e :: es) X.env = (false, eval e X.env) :: starEach es X.env
theorem de_bi {f : BI} {x : Str} {p : Pos} (hn : BName X x (biV f)) (hc : X.calm = true) (ha : DE X W a ma) (hs : NoStar X a) :
    DE X W (.Call (.Name x p) [a] [] pos) (bind ma fun x => bind (viewM x) fun x => opt (biD f x)) :=
  (callV hn (biV_ty f) (bi_D f hc) (pa_cons ha pa_nil (hs [])) (hs []) rfl).imp fun σ H Q h => h.one.imp fun v H1 ⟨x, w, ρ, st, r, q⟩ => by
    obtain ⟨z, e, q⟩ := q.viewBind.opt
    exact ⟨w, v, _, z, rfl, sees q.1 r, q.1.fh, e, gives_of q⟩
theorem de_bi2 {f : BI2} {x : Str} {p : Pos} (hn : BName X x (.builtin (bi2N f))) (hc : X.calm = true) (ha : DE X W a ma) (hb : DE X W b mb) (hs : NoStar X a) (hs2 : NoStar X b) :
    DE X W (.Call (.Name x p) [a, b] [] pos) (bind ma fun x => bind mb fun y => opt (bi2D f x y)) :=
  (callV hn (.inl ⟨_, rfl⟩) (bi2_D f hc) (pa_cons ha (pa_cons hb pa_nil (hs2 [])) (hs [b])) (hs [b]) (by rw [hs2 []]; rfl)).imp fun σ H Q h => h.two.imp fun v H1 h => h.imp fun u H2 ⟨x, y, w, ρ, st, r1, r2, q⟩ => by
    obtain ⟨z, e, q⟩ := q.opt
    have hx : view st x = x := by cases x <;> first | rfl | simp [bi2D] at e
    have hy : view st y = y := by cases y <;> first | rfl | (cases x <;> simp [bi2D] at e)
    exact ⟨w, v, u, x, y, z, rfl, hx ▸ sees q.1 r1, hy ▸ sees q.1 r2, e, gives_of q⟩
/-- isinstance(a, T) -/
theorem de_isi {x y : Str} {p p2 : Pos} {t : Ty} (hn : BName X x (.builtin "isinstance")) (ht : BName X y (.type (tyN t))) (ha : DE X W a ma) (hs : NoStar X a) (hs2 : NoStar X (.Name y p2)) :
    DE X W (.Call (.Name x p) [a, .Name y p2] [] pos) (bind ma fun x => bind (viewM x) fun x => bind (opt (isiD x t)) fun b => ret (.bl b)) :=
  (callV hn (.inl ⟨_, rfl⟩) call_isi (pa_cons ha (pa_cons (pe_bltn (v := .ty (tyN t)) ht.gl ht.mg ht.bt rfl ht.nn ht.nd) pa_nil (hs2 [])) (hs _)) (hs _) (by rw [hs2 []]; rfl)).imp fun σ H Q h => h.one.imp fun v H1 ⟨x, w, ρ, st, r, q⟩ => by
    obtain ⟨z, e, q⟩ := q.viewBind.optBind
    obtain ⟨u, k1, k2⟩ := isi_D (X := X) (sees q.1 r) q.1.fh e
    exact ⟨v, _, u, _, z, rfl, .ty _, k1, k2, q.ret (.bl _)⟩
end

/-! ### own defs -/
/-- what a def promises: it hands back what F computes -/
def spF (C : Ct) (n : Nat) (F : Fn) : Sp := fun vs H Q E => vs.length = n ∧ ∃ w ds st, RelSt C w H st ∧ RelDs C w.F w.L vs ds ∧ match F ds st with
  | .ok d st' => ∀ v w' H', RelSt C w' H' st' → Step w H (fun _ => False) w' H' (fun _ => False) → RelD C w'.F w'.L v d → Q v H'
  | .exc x st' => ∀ cls dd w' H', RelSt C w' H' st' → Step w H (fun _ => False) w' H' (fun _ => False) → RelX C w' H' cls dd x → E cls dd H'
  | .bad => False
theorem callE {C : Ct} {w w' : Wd} {H H' : Hp} {σ : St} {ρ : Env} (he : RelE C w H σ ρ) (s : Step w H (fun _ => False) w' H' (fun _ => False)) : RelE C w' H' σ ρ ∧ Step w H (Own σ ρ) w' H' (Own σ ρ) := by
  refine ⟨⟨he.len, fun i d h => ?_, fun i c h => ?_, he.ap⟩, s.gr, fun a o h hl _ => s.keep a o h hl (fun z => z), fun a o h => ?_, fun a h => ?_, fun a h => .inl h, s.dom⟩
  · obtain ⟨v, h1, h2⟩ := he.val i d h
    exact ⟨v, h1, h2.mono s.gr⟩
  · obtain ⟨a, h1, h2, h3, h4⟩ := he.own i c h
    obtain ⟨o, ho⟩ := h2.there
    refine ⟨a, h1, h2.mono s.gr fun u hu => s.keep a u hu h4 (fun z => z), ?_, fun z => ?_⟩
    · cases e : w'.F a with
      | none => rfl
      | some u =>
        rcases s.newF a u e with z | z | z
        · rw [h3] at z; cases z
        · exact z.elim
        · rw [ho] at z; cases z
    · rcases s.newL a z with z | z | z
      · exact h4 z
      · exact z.elim
      · rw [ho] at z; cases z
  · rcases s.newF a o h with z | z | z
    · exact .inl z
    · exact z.elim
    · exact .inr (.inr z)
  · rcases s.newL a h with z | z | z
    · exact .inl z
    · exact z.elim
    · exact .inr (.inr z)
/-- a pattern of a call with keywords: so many by position, these names, and which of all each parameter gets -/
structure Pat where
  np : Nat
  ks : List Str
  ord : List Nat
  deriving DecidableEq
def pickV (ord : List Nat) (us : List Value) : List Value := ord.map fun i => us.getD i .none
/-- a def of the module by its name -/
structure Callee (P : Program) (W₀ : World) (C : Ct) (base : Heap) (k : Nat) (x : Str) (F : Fn) (pats : List Pat) : Prop where
  ex : ∃ (f : Addr) (fd : FuncData) (ps : List Str), C.mg x = some (.ref f) ∧ FnOk P W₀ C.K C.mg base (L2.CX P W₀) k f fd ps (spF C ps.length F) ∧ PySem.W.keepIn C.K (.ref f) = true ∧
    (∀ ds st, F ds st ≠ .bad → ds.length = ps.length) ∧ (∀ us : List Value, us.length = ps.length → bindArgs fd ⟨us, []⟩ = pure (ps.zip us)) ∧
    (∀ p ∈ pats, p.ord.length = ps.length ∧ (∀ i ∈ p.ord, i < p.np + p.ks.length) ∧ p.ord ≠ [] ∧ ∀ us ws : List Value, us.length = p.np → ws.length = p.ks.length → bindArgs fd ⟨us, p.ks.zip ws⟩ = pure (ps.zip (pickV p.ord (us ++ ws))))
theorem vals_pick {vs : List V} {us : List Value} (r : Vals vs us) {ord : List Nat} : Vals (ord.map fun i => vs.getD i .non) (pickV ord us) := by
  induction ord with
  | nil => exact .nil
  | cons i o ih =>
    refine .cons ?_ ih
    show RelV (vs.getD i .non) (us.getD i .none)
    rw [List.getD_eq_getElem?_getD, List.getD_eq_getElem?_getD]
    cases e : vs[i]? with
    | some v =>
      obtain ⟨u, h1, h2⟩ := r.get e
      rw [h1]; exact h2
    | none =>
      rw [r.none_of e]; rfl
theorem rel_pick {C : Ct} {F : Hp} {L : List Addr} {vs : List V} {ds as : List D} (r : RelDs C F L vs ds) : ∀ {ord : List Nat}, ord.mapM (fun i => ds[i]?) = some as → RelDs C F L (ord.map fun i => vs.getD i .non) as := by
  intro ord
  induction ord generalizing as with
  | nil => intro e; simp at e; subst e; exact .nil
  | cons i o ih =>
    intro e
    rw [List.mapM_cons] at e
    cases e1 : ds[i]? with
    | none => rw [e1] at e; simp at e
    | some d =>
      rw [e1] at e
      cases e2 : o.mapM (fun i => ds[i]?) with
      | none => rw [e2] at e; simp at e
      | some as' =>
        rw [e2] at e
        simp at e
        subst e
        obtain ⟨v, h1, h2⟩ := r.get e1
        refine .cons ?_ (ih e2)
        show RelD C F L (vs.getD i .non) d
        rw [List.getD_eq_getElem?_getD, h1]
        exact h2
section
variable {X : Cx} {W : WX} {pos : Pos} {x : Str} {F : Fn} {pats : List Pat} {k : Nat}
/-- the callee's run, from the caller -/
theorem run_own {pins : List (Addr × Obj)} {σ : St} {H : Hp} {s : Shared} {Q : VK} {f : Addr} {fd : FuncData} {ps : List Str} {vs : List V} {args : Args} {us : List Value} (hF : FnOk X.prog X.w X.K X.mg X.base (L2.CX X.prog X.w) k f fd ps (spF (ct X) ps.length F)) (hr : Room k X.A) (tk : Takes X W)
    (I : L2.Inv X pins σ H s) (hb : BindsTo s fd args (ps.zip us)) (rv : Vals vs us) {w : Wd} {ρ : Env} {st : Store} {ds : List D} (hl : vs.length = ps.length) (rd : RelDs (ct X) w.F w.L vs ds)
    (q : tW (ct X) W (rD (ct X)) w ρ st (callM F ds) σ H Q) : codeAny (model X.prog X.w) X.A (.call (.ref f) args) (fun r s' => match r with | .ok (.ret u) => EP X pins σ Q u s' | .ok _ => False | .error e => X.xe e s') s := by
  obtain ⟨hs, he, q⟩ := q
  refine codeAny_mono (hF.run X.A X.stack s H args us vs Q (WE W σ) hr I.env0 hb rv ⟨hl, w, ds, st, hs, rd, ?_⟩) fun r s' hq => ?_
  · unfold callM at q
    cases e : F ds st with
    | ok d st' =>
      rw [e] at q
      intro v w' H' h1 h2 h3
      obtain ⟨e1, e2⟩ := callE he h2
      exact q v w' H' h1 e1 e2 h3
    | exc y st' =>
      rw [e] at q
      intro cls dd w' H' h1 h2 h3
      obtain ⟨e1, e2⟩ := callE he h2
      exact q cls dd w' H' h1 e1 e2 h3
    | bad => rw [e] at q; exact q
  · cases r with
    | error e => exact passAt tk σ pins H s e s' I hq
    | ok fl =>
      cases fl with
      | ret u => exact I.after hq
      | next => exact hq
      | brk => exact hq
      | cont => exact hq
theorem backTo_any {pos : Pos} {es : List Expr} {env : PySem.Env} (h : (starEach es env).any (·.1) = false) : (backTo pos (starEach es env)).any (·.1) = false := by
  unfold backTo
  rw [List.any_map]
  exact h
/-- the arguments by position, none of them starred -/
def NoStars (X : Cx) (es : List Expr) : Prop := (starEach es X.env).any (·.1) = false ∧ ∀ e r, es = e :: r → starEach (e :: r) X.env = (false, eval e X.env) :: starEach r X.env
theorem NoStars.tail {e : Expr} {es : List Expr} (h : NoStars X (e :: es)) : (starEach es X.env).any (·.1) = false := by
  have h1 := h.1
  rw [h.2 e es rfl] at h1
  simpa using h1
def callD (F : Fn) (ma mk : M (List D)) (ord : List Nat) : M D := bind ma fun ds => bind mk fun ks => bind (opt (pickO (ds ++ ks) ord)) fun as => callM F as
theorem callM_len {C : Ct} {w : Wd} {ρ : Env} {st : Store} {σ : St} {H : Hp} {Q : VK} {ds : List D} {n : Nat} (hn : ∀ ds st, F ds st ≠ .bad → ds.length = n) (q : tW C W (rD C) w ρ st (callM F ds) σ H Q) : ds.length = n := by
  refine hn ds st fun e => ?_
  have := q.2.2
  unfold callM at this
  rw [e] at this
  exact this
theorem call_end {pins : List (Addr × Obj)} {σ : St} {H : Hp} {s : Shared} {Q : VK} {f : Addr} {fd : FuncData} {ps : List Str} {vs : List V} {us gs : List Value} {kw : List (Str × Value)} (hF : FnOk X.prog X.w X.K X.mg X.base (L2.CX X.prog X.w) k f fd ps (spF (ct X) ps.length F)) (hr : Room k X.A) (tk : Takes X W)
    (hn : ∀ ds st, F ds st ≠ .bad → ds.length = ps.length) (I : L2.Inv X pins σ H s) (hb : gs.length = ps.length → bindArgs fd ⟨us, kw⟩ = pure (ps.zip gs)) (rv : Vals vs gs) {w : Wd} {ρ : Env} {st : Store} {ds : List D} (rd : RelDs (ct X) w.F w.L vs ds)
    (q : tW (ct X) W (rD (ct X)) w ρ st (callM F ds) σ H Q) : wpAny (model X.prog X.w) X.A (call (.ref f) us kw) (EP X pins σ Q) X.xe s := by
  have hl : vs.length = ps.length := by rw [rd.length]; exact callM_len hn q
  refine wpAny_call (codeAny_mono (run_own hF hr tk I (.of_eq (hb (by rw [← rv.length]; exact hl))) rv hl rd q) fun r s' hq => ?_)
  cases r with
  | error e => exact hq
  | ok fl => cases fl <;> exact hq
theorem de_call0 {p : Pos} (c : Callee X.prog X.w (ct X) X.base k x F pats) (hr : Room k X.A) (tk : Takes X W) (hg : Gl X x) (hd : (x == ("__debug__" : Str)) = false) :
    DE X W (.Call (.Name x p) [] [] pos) (callD F (ret []) (ret []) []) := by
  obtain ⟨f, fd, ps, hm, hF, hk, hn, hb, _⟩ := c.ex
  refine ⟨fun pins s σ H Q I ⟨w, ρ, st, q⟩ => ?_⟩
  refine wpAny_Call_Name_kw (ld_glob I hg hm ?_ hd)
  have q : tW (ct X) W (rD (ct X)) w ρ st (callM F []) σ H Q := q
  exact PySem.W.callWith_K0 I.kIn hk (call_end hF hr tk hn I (hb []) (vs := []) .nil .nil q)
theorem de_call {p : Pos} {e : Expr} {es : List Expr} {ma : M (List D)} (c : Callee X.prog X.w (ct X) X.base k x F pats) (hr : Room k X.A) (tk : Takes X W) (hg : Gl X x) (hd : (x == ("__debug__" : Str)) = false) (ha : DEs X W (e :: es) ma) (hs : NoStars X (e :: es)) :
    DE X W (.Call (.Name x p) (e :: es) [] pos) (callD F ma (ret []) []) := by
  obtain ⟨f, fd, ps, hm, hF, hk, hn, hb, _⟩ := c.ex
  refine ⟨fun pins s σ H Q I h => ?_⟩
  refine wpAny_Call_Name_kw (ld_glob I hg hm ?_ hd)
  have h := tM.one (rel := rDs (ct X)) h
  refine PySem.W.callWith_K (h₀ := X.base) I.ok.mod.kin hk (thn (ha.run pos pins s σ H _ I h) fun us s1 ⟨vs, H1, I1, rv, ds, w, ρ, st, rd, q⟩ => ⟨I1.kIn, ?_⟩) (hs.2 e es rfl) (backTo_any hs.tail)
  have q : tW (ct X) W (rD (ct X)) w ρ st (callM F (ds ++ [])) σ H1 Q := q
  rw [List.append_nil] at q
  exact call_end hF hr tk hn I1 (hb us) rv rd q
/-- the keywords' names -/
def kwN (ks : List Keyword) : Option (List Str) := ks.mapM (·.arg)
theorem kw_facts {env : PySem.Env} {pos : Pos} : ∀ {ks : List Keyword} {ns : List Str}, kwN ks = some ns →
    (backToKw pos (keywordEach ks env)).all (·.1.isSome) = true ∧ (backToKw pos (keywordEach ks env)).filterMap (·.1) = ns ∧ (backToKw pos (keywordEach ks env)).any (·.1.isNone) = false := by
  intro ks
  induction ks with
  | nil => intro ns e; simp [kwN] at e; subst e; exact ⟨rfl, rfl, rfl⟩
  | cons a r ih =>
    intro ns e
    obtain ⟨nm, v, p⟩ := a
    unfold kwN at e ih
    rw [List.mapM_cons] at e
    cases nm with
    | none => simp at e
    | some n =>
      cases e2 : List.mapM (·.arg) r with
      | none => rw [e2] at e; simp at e
      | some ms =>
        rw [e2] at e
        simp at e
        subst e
        obtain ⟨h1, h2, h3⟩ := ih e2
        refine ⟨?_, ?_, ?_⟩
        · show (true && (backToKw pos (keywordEach r env)).all (·.1.isSome)) = true
          rw [h1]; rfl
        · show n :: (backToKw pos (keywordEach r env)).filterMap (·.1) = n :: ms
          rw [h2]
        · show (false || (backToKw pos (keywordEach r env)).any (·.1.isNone)) = false
          rw [h3]; rfl
theorem pick_some {ds as : List D} {ord : List Nat} (ho : ord ≠ []) (e : pickO ds ord = some as) : ord.mapM (fun i => ds[i]?) = some as := by
  cases ord with
  | nil => exact absurd rfl ho
  | cons i o => exact e
theorem de_callK {p : Pos} {es : List Expr} {kws : List Keyword} {ma mk : M (List D)} {pt : Pat} (c : Callee X.prog X.w (ct X) X.base k x F pats) (hr : Room k X.A) (tk : Takes X W) (hg : Gl X x) (hd : (x == ("__debug__" : Str)) = false) (ha : DEs X W es ma) (hk : DKs X W kws mk) (hs : NoStars X es)
    (hp : pt ∈ pats) (hks : kwN kws = some pt.ks) (hnp : es.length = pt.np) (hla : ∀ ρ st ds ρ' st', ma ρ st = .ok ds ρ' st' → ds.length = es.length) (hlk : ∀ ρ st ds ρ' st', mk ρ st = .ok ds ρ' st' → ds.length = kws.length) (hnil : es = [] → ma = ret []) :
    DE X W (.Call (.Name x p) es kws pos) (callD F ma mk pt.ord) := by
  obtain ⟨f, fd, ps, hm, hF, hkp, hn, _, hb⟩ := c.ex
  obtain ⟨ho, hi, hne, hb⟩ := hb pt hp
  obtain ⟨f1, f2, f3⟩ := kw_facts (env := X.env) (pos := pos) hks
  refine ⟨fun pins s σ H Q I h => ?_⟩
  refine wpAny_Call_Name_kw (ld_glob I hg hm ?_ hd)
  obtain ⟨w0, ρ0, st0, h⟩ := h
  -- the lengths are told by the runs
  have fin : ∀ {s2 : Shared} {H2 : Hp} {us ws : List Value} {vs zs : List V} {ds ks : List D} {w : Wd} {ρ : Env} {st : Store}, L2.Inv X pins σ H2 s2 → Vals vs us → Vals zs ws → RelDs (ct X) w.F w.L vs ds → RelDs (ct X) w.F w.L zs ks → ds.length = pt.np → ks.length = pt.ks.length →
      tW (ct X) W (rD (ct X)) w ρ st (bind (opt (pickO (ds ++ ks) pt.ord)) fun as => callM F as) σ H2 Q → X.K.In s2.heap ∧ wpAny (model X.prog X.w) X.A (call (.ref f) ([] ++ us) (((backToKw pos (keywordEach kws X.env)).filterMap (·.1)).zip ws)) (EP X pins σ Q) X.xe s2 := by
    intro s2 H2 us ws vs zs ds ks w ρ st I2 rv rz rd rk l1 l2 q
    obtain ⟨as, e, q⟩ := q.optBind
    refine ⟨I2.kIn, ?_⟩
    rw [f2]
    have r2 := rel_pick (rd.append rk) (pick_some hne e)
    exact call_end hF hr tk hn I2 (gs := pickV pt.ord (us ++ ws)) (fun _ => hb us ws (by rw [← rv.length, rd.length]; exact l1) (by rw [← rz.length, rk.length]; exact l2)) (vals_pick (rv.append rz)) r2 q
  have hlen2 : kws.length = pt.ks.length := by
    have : ∀ {l : List Keyword} {ns : List Str}, kwN l = some ns → l.length = ns.length := by
      intro l
      induction l with
      | nil => intro ns e; simp [kwN] at e; subst e; rfl
      | cons a r ih =>
        intro ns e
        unfold kwN at e ih
        rw [List.mapM_cons] at e
        cases e1 : a.arg with
        | none => rw [e1] at e; simp at e
        | some n =>
          cases e2 : List.mapM (·.arg) r with
          | none => rw [e1, e2] at e; simp at e
          | some ms =>
            rw [e1, e2] at e
            simp at e
            subst e
            simp [ih e2]
    exact this hks
  cases es with
  | nil =>
    have em := hnil rfl
    subst em
    have h : tW (ct X) W (rD (ct X)) w0 ρ0 st0 (bind mk fun ks => bind (opt (pickO ([] ++ ks) pt.ord)) fun as => callM F as) σ H Q := h
    exact PySem.W.callWith_KW0 (h₀ := X.base) (first := []) I.ok.mod.kin hkp f1 (thn (hk.run pos pins s σ H _ I ⟨w0, ρ0, st0, h.bindE⟩) fun ws s2 ⟨zs, H2, I2, rz, ks, w, ρ, st, ek, rk, _, q⟩ =>
      fin (us := []) (vs := []) (ds := []) I2 .nil rz .nil rk hnp ((hlk _ _ _ _ _ ek).trans hlen2) q) (by rw [f3]; rfl)
  | cons e r =>
    exact PySem.W.callWith_KW (h₀ := X.base) (first := []) I.ok.mod.kin hkp f1 (thn (ha.run pos pins s σ H _ I ⟨w0, ρ0, st0, h.bindE⟩) fun us s1 ⟨vs, H1, I1, rv, ds, w1, ρ1, st1, ea, rd, _, q1⟩ =>
      thn (hk.run pos pins s1 σ H1 _ I1 ⟨w1, ρ1, st1, q1.bindE⟩) fun ws s2 ⟨zs, H2, I2, rz, ks, w, ρ, st, ek, rk, s12, q⟩ =>
        fin I2 rv rz (RelDs.mono s12.gr rd) rk ((hla _ _ _ _ _ ea).trans hnp) ((hlk _ _ _ _ _ ek).trans hlen2) q) (by rw [f3, backTo_any hs.1]; rfl) (hs.2 e r rfl)
end
end Z

/-! Z6: targets, new lists, what is walked. -/
namespace Z
open PySem PySem.Spec L2
open PyProof.Rows hiding St

/-! ### what a term is checked against -/
structure Cc where
  sc : Scope
  fn : Str → Bool
  N : List Str
  gn : List Str
  gp : List (List Pat)
  gc : List Str
def bltNames : List Str := ["len", "sum", "all", "any", "abs", "int", "tuple", "max", "min", "isinstance", "range", "list", "bool", "str", "dict", "enumerate", "zip", "sorted", "set", "reversed"]
structure Sc (X : Cx) (c : Cc) (G : Gm) : Prop where
  sc : X.env.scope = c.sc
  fn : ∀ x, X.fn x = c.fn x
  N : X.N = c.N
  nd : c.N.Nodup
  calm : X.calm = true
  un : X.A.units + 64 < cLine
  blt : ∀ x ∈ bltNames, X.mg x = none
  fs : ∀ (j : Nat) (x : Str), c.gn[j]? = some x → ∃ F k, G.fs[j]? = some F ∧ Callee X.prog X.w (ct X) X.base k x F (c.gp.getD j []) ∧ Room k X.A
  cs : ∀ (j : Nat) (x : Str), c.gc[j]? = some x → ∃ d u v, G.cs[j]? = some d ∧ X.mg x = some u ∧ RelV v u ∧ ∀ F L, RelD (ct X) F L v d
def visB (c : Cc) (x : Str) : Bool := match c.sc.names.lookup x with
  | some .local => true | some .cell => true | some .free => true | _ => false
def locB (c : Cc) (x : Str) : Bool := match c.sc.names.lookup x with
  | some .local => true | some .cell => c.fn x | _ => false
def glB (c : Cc) (x : Str) : Bool := match c.sc.names.lookup x with
  | some .globalImplicit => true | _ => false
def okN (x : Str) : Bool := !(x == ("__debug__" : Str)) && (!(x == ("__classdict__" : Str)) && !(x == ("__name__" : Str)))
section
variable {X : Cx} {c : Cc} {G : Gm}
theorem Sc.vis (S : Sc X c G) {x : Str} (h : visB c x = true) : Vis X.env.scope x := by
  unfold visB at h
  unfold Vis
  rw [S.sc]
  split at h
  · exact .inl (by assumption)
  · exact .inr (.inl (by assumption))
  · exact .inr (.inr (by assumption))
  · cases h
theorem Sc.loc (S : Sc X c G) {x : Str} (h : locB c x = true) : L2.Loc X.env.scope x ∧ (X.fn x = true ∨ X.env.scope.names.lookup x = some .local) := by
  unfold locB at h
  unfold L2.Loc
  rw [S.sc, S.fn]
  split at h
  · exact ⟨.inl (by assumption), .inr (by assumption)⟩
  · exact ⟨.inr (by assumption), .inl h⟩
  · cases h
theorem Sc.gl (S : Sc X c G) {x : Str} (h : glB c x = true) : Gl X x := by
  unfold glB at h
  show X.env.scope.names.lookup x = some .globalImplicit
  rw [S.sc]
  split at h
  · assumption
  · cases h
theorem okN_d {x : Str} (h : okN x = true) : (x == ("__debug__" : Str)) = false ∧ (x == ("__classdict__" : Str)) = false ∧ x ≠ "__name__" := by
  unfold okN at h
  simp only [Bool.and_eq_true, Bool.not_eq_true'] at h
  exact ⟨h.1, h.2.1, fun e => by rw [e] at h; exact absurd h.2.2 (by simp)⟩
theorem Sc.bn (S : Sc X c G) {x : Str} {u : Value} (h1 : glB c x = true) (h2 : x ∈ bltNames) (h3 : bootBuiltins x = some u) (h4 : okN x = true) : BName X x u :=
  ⟨S.gl h1, S.blt x h2, h3, (okN_d h4).2.2, (okN_d h4).1⟩
end

/-! ### targets -/
mutual
def tgS : Tg → List Nat
  | .nm i => [i]
  | .tp ts => tgsS ts
def tgsS : Tgs → List Nat
  | .nil => []
  | .cons t r => tgS t ++ tgsS r
end
def noStar : Expr → Bool
  | .Starred _ _ => false
  | _ => true
mutual
def chkT (c : Cc) : Tg → Expr → Bool
  | .nm i, .Name x _ => decide (c.N[i]? = some x) && locB c x
  | .tp ts, .Tuple es _ _ => chkTs c ts es
  | _, _ => false
def chkTs (c : Cc) : Tgs → List Expr → Bool
  | .nil, [] => true
  | .cons t r, e :: es => noStar e && (chkT c t e && chkTs c r es)
  | _, _ => false
end
theorem setE {C : Ct} {w : Wd} {H : Hp} {σ : St} {ρ : Env} {i : Nat} {v : V} {d : D} (he : RelE C w H σ ρ) (r : RelD C w.F w.L v d) : RelE C w H (σ.set i (some v)) (ρ.set i (.val d)) := by
  refine ⟨by simp [he.len], fun j e h => ?_, fun j e h => ?_, fun j k c1 c2 a h1 h2 h3 h4 => ?_⟩
  · by_cases hj : i = j
    · subst hj
      have hl : i < ρ.length := by
        have := (List.getElem?_eq_some_iff.mp h).1
        simpa using this
      rw [List.getElem?_set_self hl] at h
      cases h
      exact ⟨v, by rw [List.getElem?_set_self (by rw [← he.len]; exact hl)], r⟩
    · rw [List.getElem?_set_ne hj] at h
      obtain ⟨u, h1, h2⟩ := he.val j e h
      exact ⟨u, by rw [List.getElem?_set_ne hj]; exact h1, h2⟩
  · by_cases hj : i = j
    · subst hj
      have hl : i < ρ.length := by
        have := (List.getElem?_eq_some_iff.mp h).1
        simpa using this
      rw [List.getElem?_set_self hl] at h
      cases h
    · rw [List.getElem?_set_ne hj] at h
      obtain ⟨a, h1, h2⟩ := he.own j e h
      exact ⟨a, by rw [List.getElem?_set_ne hj]; exact h1, h2⟩
  · have ne : ∀ {m : Nat} {c0 : Cell}, (ρ.set i (.val d))[m]? = some (.own c0) → i ≠ m := fun {m c0} h z => by
      subst z
      have hl : i < ρ.length := by
        have := (List.getElem?_eq_some_iff.mp h).1
        simpa using this
      rw [List.getElem?_set_self hl] at h
      cases h
    have n1 := ne h1
    have n2 := ne h2
    rw [List.getElem?_set_ne n1] at h1 h3
    rw [List.getElem?_set_ne n2] at h2 h4
    exact he.ap j k c1 c2 a h1 h2 h3 h4
theorem own_set {σ : St} {ρ : Env} {i : Nat} {v : Option V} {d : D} {a : Addr} (h : Own (σ.set i v) (ρ.set i (.val d)) a) : Own σ ρ a := by
  obtain ⟨j, c, h1, h2⟩ := h
  have n : i ≠ j := fun z => by
    subst z
    have hl : i < ρ.length := by
      have := (List.getElem?_eq_some_iff.mp h1).1
      simpa using this
    rw [List.getElem?_set_self hl] at h1
    cases h1
  rw [List.getElem?_set_ne n] at h1 h2
  exact ⟨j, c, h1, h2⟩
def GoodT (C : Ct) (w : Wd) (H : Hp) (st : Store) (σ : St) (ρ : Env) (m : M Unit) (S : List Nat) (Q : St → Hp → Prop) : Prop :=
  ∃ ρ', m ρ st = .ok () ρ' st ∧ ∀ σ', RelE C w H σ' ρ' → (∀ a, Own σ' ρ' a → Own σ ρ a) → (∀ i, i ∉ S → σ'[i]? = σ[i]?) → σ'.length = σ.length → Q σ' H
def gM (C : Ct) (t : Tg) : TG := fun v σ H Q => ∃ w ρ st d, RelSt C w H st ∧ RelE C w H σ ρ ∧ RelD C w.F w.L v d ∧ GoodT C w H st σ ρ (bindT t d) (tgS t) Q
def gMs (C : Ct) (t : Tgs) : TGs := fun vs σ H Q => ∃ w ρ st ds, RelSt C w H st ∧ RelE C w H σ ρ ∧ RelDs C w.F w.L vs ds ∧ GoodT C w H st σ ρ (bindTs t ds) (tgsS t) Q
theorem assignEach_cons {e : Expr} {es : List Expr} {env : PySem.Env} (h : noStar e = true) : (assignEach (e :: es) env).map (·.2) = assign e env :: (assignEach es env).map (·.2) ∧ (assignEach (e :: es) env).map (·.1) = false :: (assignEach es env).map (·.1) := by
  cases e <;> first | exact ⟨rfl, rfl⟩ | cases h
theorem assignEach_len : ∀ (es : List Expr) (env : PySem.Env), (assignEach es env).length = es.length
  | [], _ => rfl
  | e :: es, env => by
    have ih := assignEach_len es env
    cases e <;> (show (assignEach es env).length + 1 = es.length + 1; rw [ih])
theorem _root_.L2.PG.imp {X : Cx} {e : Expr} {t t' : TG} (h : PG X e t) (hi : ∀ v σ H Q, t' v σ H Q → t v σ H Q) : PG X e t' :=
  ⟨fun pins s σ H v u Q I r q => h.run pins s σ H v u Q I r (hi v σ H Q q)⟩
theorem _root_.L2.PGs.imp {X : Cx} {e : List Expr} {t t' : TGs} (h : PGs X e t) (hi : ∀ v σ H Q, t' v σ H Q → t v σ H Q) : PGs X e t' :=
  ⟨fun pins s σ H v u Q I r q => h.run pins s σ H v u Q I r (hi v σ H Q q)⟩
theorem _root_.L2.PG.or {X : Cx} {e : Expr} {t t' : TG} (h : PG X e t) (h' : PG X e t') : PG X e (fun v σ H Q => t v σ H Q ∨ t' v σ H Q) :=
  ⟨fun pins s σ H v u Q I r q => q.elim (h.run pins s σ H v u Q I r) (h'.run pins s σ H v u Q I r)⟩
mutual
/-- a target leaves the cells as they are -/
theorem bindT_st : ∀ (t : Tg) (d : D) (ρ : Env) (st : Store) {u : Unit} {ρ1 : Env} {st1 : Store}, bindT t d ρ st = .ok u ρ1 st1 → st1 = st
  | .nm i, d, ρ, st, u, ρ1, st1, e => by
    simp only [bindT, setSl] at e
    split at e
    · cases e; rfl
    · cases e
  | .tp ts, d, ρ, st, u, ρ1, st1, e => by
    simp only [bindT, bind, viewM] at e
    cases e1 : itemsD (view st d) with
    | none => rw [e1] at e; cases e
    | some ds =>
      rw [e1] at e
      exact bindTs_st ts ds ρ st e
theorem bindTs_st : ∀ (t : Tgs) (d : List D) (ρ : Env) (st : Store) {u : Unit} {ρ1 : Env} {st1 : Store}, bindTs t d ρ st = .ok u ρ1 st1 → st1 = st
  | .nil, [], ρ, st, u, ρ1, st1, e => by cases e; rfl
  | .nil, _ :: _, ρ, st, u, ρ1, st1, e => by cases e
  | .cons _ _, [], ρ, st, u, ρ1, st1, e => by cases e
  | .cons t r, d :: ds, ρ, st, u, ρ1, st1, e => by
    simp only [bindTs, bind] at e
    split at e
    · rename_i a ρ2 st2 e1
      exact (bindTs_st r ds ρ2 st2 e).trans (bindT_st t d ρ st e1)
    · cases e
    · cases e
end
theorem bindTs_len {r : Tgs} : ∀ {es : List Expr} {c : Cc} {ds : List D} {ρ ρ' : Env} {st st' : Store}, chkTs c r es = true → bindTs r ds ρ st = .ok () ρ' st' → ds.length = es.length := by
  induction r using Tgs.rec (motive_1 := fun _ => True) with
  | nm i => trivial
  | tp ts _ => trivial
  | nil =>
    intro es c ds ρ ρ' st st' h1 h2
    cases es with
    | nil => cases ds with
      | nil => rfl
      | cons d ds => simp [bindTs, bad] at h2
    | cons e es => simp [chkTs] at h1
  | cons t r _ ih =>
    intro es c ds ρ ρ' st st' h1 h2
    cases es with
    | nil => simp [chkTs] at h1
    | cons e es =>
      cases ds with
      | nil => simp [bindTs, bad] at h2
      | cons d ds =>
        simp only [chkTs, Bool.and_eq_true] at h1
        simp only [bindTs, bind] at h2
        split at h2
        · rw [List.length_cons, List.length_cons, ih h1.2.2 h2]
        · cases h2
        · cases h2
section
variable {X : Cx} {c : Cc} {G : Gm}
mutual
theorem dg (S : Sc X c G) : ∀ (t : Tg) (e : Expr), chkT c t e = true → PG X e (gM (ct X) t)
  | .nm i, .Name x p, h => by
    simp only [chkT, Bool.and_eq_true, decide_eq_true_eq] at h
    obtain ⟨h1, h2⟩ := S.loc h.2
    refine (pg_name (by rw [S.N]; exact S.nd) (by rw [S.N]; exact h.1) h1 h2).imp fun v σ H Q ⟨w, ρ, st, d, hs, he, rd, ρ', e, q⟩ => ?_
    simp only [bindT, setSl] at e
    split at e
    · cases e
      refine q (σ.set i (some v)) (setE he rd) (fun a => own_set) (fun j hj => ?_) (by simp)
      rw [List.getElem?_set_ne (fun z => hj (by simp [tgS, z]))]
    · cases e
  | .tp ts, .Tuple es k p, h => by
    have h : chkTs c ts es = true := h
    have hh := dgs S ts es h
    have hst : (assignEach es X.env).findIdx? (·.1) = none := by
      rw [List.findIdx?_eq_none_iff]
      intro x hx
      have : x.1 ∈ (assignEach es X.env).map (·.1) := List.mem_map.mpr ⟨x, hx, rfl⟩
      rw [hh.2] at this
      exact (List.mem_replicate.mp this).2
    refine ((pg_tup S.calm hh.1 rfl hst).or (pg_lst S.calm hh.1 rfl hst)).imp fun v σ H Q ⟨w, ρ, st, d, hs, he, rd, ρ', e, q⟩ => ?_
    have sv := sees hs rd
    simp only [bindT, bind, viewM] at e
    cases e1 : itemsD (view st d) with
    | none => rw [e1] at e; cases e
    | some ds =>
      rw [e1] at e
      have e : bindTs ts ds ρ st = .ok () ρ' st := e
      have hl : ds.length = es.length := bindTs_len h e
      cases e2 : view st d with
      | tup xs =>
        rw [e2] at e1 sv
        cases e1
        cases sv with
        | tup hq rq => exact .inl ⟨_, _, rfl, sqT_mono hs.fh hq, by rw [rq.length, hl, assignEach_len], w, ρ, st, ds, hs, he, rq, ρ', e, q⟩
      | lst xs =>
        rw [e2] at e1 sv
        cases e1
        cases sv with
        | lst hq rq => exact .inr ⟨_, _, rfl, SqL.of hq, by rw [rq.length, hl, assignEach_len], w, ρ, st, ds, hs, he, rq, ρ', e, q⟩
      | _ => rw [e2] at e1; cases e1
theorem dgs (S : Sc X c G) : ∀ (t : Tgs) (es : List Expr), chkTs c t es = true → PGs X es (gMs (ct X) t) ∧ (assignEach es X.env).map (·.1) = List.replicate es.length false
  | .nil, [], _ => by
    refine ⟨pgs_nil.imp fun v σ H Q ⟨w, ρ, st, ds, hs, he, rd, ρ', e, q⟩ => ?_, rfl⟩
    cases rd with
    | nil =>
      have e : R.ok () ρ st = .ok () ρ' st := e
      cases e
      exact ⟨rfl, q σ he (fun _ z => z) (fun _ _ => rfl) rfl⟩
    | cons _ _ => cases e
  | .cons t r, e :: es, h => by
    simp only [chkTs, Bool.and_eq_true] at h
    obtain ⟨g1, g2⟩ := dgs S r es h.2.2
    obtain ⟨a1, a2⟩ := assignEach_cons (es := es) (env := X.env) h.1
    refine ⟨(pgs_cons (dg S t e h.2.1) g1 a1).imp fun v σ H Q ⟨w, ρ, st, ds, hs, he, rd, ρ', eq, q⟩ => ?_, by rw [a2, g2]; rfl⟩
    cases rd with
    | nil => cases eq
    | cons rd rr =>
      simp only [bindTs, bind] at eq
      refine ⟨_, _, rfl, w, ρ, st, _, hs, he, rd, ?_⟩
      split at eq
      · rename_i a ρ1 st1 e1
        have hst : st1 = st := by
          exact bindT_st _ _ _ _ e1
        subst hst
        refine ⟨ρ1, e1, fun σ1 he1 o1 k1 l1 => ⟨w, ρ1, st1, _, hs, he1, rr, ρ', eq, fun σ' he' o' k' l' => q σ' he' (fun a z => o1 a (o' a z)) (fun i hi => ?_) (l'.trans l1)⟩⟩
        simp only [tgsS, List.mem_append, not_or] at hi
        rw [k' i hi.2, k1 i hi.1]
      · cases eq
      · cases eq
end
end
end Z

/-! Z7: what is walked; new lists; comprehensions. -/
namespace Z
open PySem PySem.Spec L2
open PyProof.Rows hiding St

/-! ### what is walked -/
/-- at each turn the items xs come -/
def ItOk (C : Ct) (w0 : Wd) (J : It) (xs : List D) : Prop := ∀ (w : Wd) (H : Hp) (st : Store) (σ : St) (ρ : Env) (i : Nat), Gr w0 w → RelSt C w H st → RelE C w H σ ρ →
  (∀ d, xs[i]? = some d → J.go i H ∧ ∀ v H', J.yld i H v H' → ∃ w', RelSt C w' H' st ∧ RelE C w' H' σ ρ ∧ Step w H (Own σ ρ) w' H' (Own σ ρ) ∧ RelD C w'.F w'.L v d) ∧ (i = xs.length → J.stop i H)
def tI (C : Ct) (W : WX) (m : M (List D)) : TI := fun σ H R => ∃ w ρ st, RelSt C w H st ∧ RelE C w H σ ρ ∧ match m ρ st with
  | .ok xs ρ' st' => ∀ J w' H', RelSt C w' H' st' → RelE C w' H' σ ρ' → Step w H (Own σ ρ) w' H' (Own σ ρ') → ItOk C w' J xs → R J H'
  | .exc x ρ' st' => ∀ cls d w' H', RelSt C w' H' st' → RelE C w' H' σ ρ' → Step w H (Own σ ρ) w' H' (Own σ ρ') → RelX C w' H' cls d x → W cls d σ H'
  | .bad => False
/-- as tI, where the world is known -/
def tIW (C : Ct) (W : WX) (w : Wd) (ρ : Env) (st : Store) (m : M (List D)) (σ : St) (H : Hp) (R : It → Hp → Prop) : Prop := RelSt C w H st ∧ RelE C w H σ ρ ∧ match m ρ st with
  | .ok xs ρ' st' => ∀ J w' H', RelSt C w' H' st' → RelE C w' H' σ ρ' → Step w H (Own σ ρ) w' H' (Own σ ρ') → ItOk C w' J xs → R J H'
  | .exc x ρ' st' => ∀ cls d w' H', RelSt C w' H' st' → RelE C w' H' σ ρ' → Step w H (Own σ ρ) w' H' (Own σ ρ') → RelX C w' H' cls d x → W cls d σ H'
  | .bad => False
theorem tIW.bind {α β : Type} {C : Ct} {W : WX} {rel : Wd → β → α → Prop} {w : Wd} {ρ : Env} {st : Store} {σ : St} {H : Hp} {m : M α} {f : α → M (List D)} {R : It → Hp → Prop} (h : tIW C W w ρ st (Z.bind m f) σ H R) :
    tW C W rel w ρ st m σ H fun b H1 => ∃ a w1 ρ1 st1, rel w1 b a ∧ Step w H (Own σ ρ) w1 H1 (Own σ ρ1) ∧ tIW C W w1 ρ1 st1 (f a) σ H1 R := by
  obtain ⟨h1, h2, h3⟩ := h
  refine ⟨h1, h2, ?_⟩
  unfold Z.bind at h3
  cases e : m ρ st with
  | ok a ρ1 st1 =>
    rw [e] at h3
    intro b w1 H1 r1 r2 s1 rb
    refine ⟨a, w1, ρ1, st1, rb, s1, r1, r2, ?_⟩
    simp only at h3
    cases e2 : f a ρ1 st1 with
    | ok c ρ2 st2 =>
      rw [e2] at h3
      exact fun d w2 H2 q1 q2 s2 rd => h3 d w2 H2 q1 q2 (s1.trans s2) rd
    | exc x ρ2 st2 =>
      rw [e2] at h3
      exact fun cls d w2 H2 q1 q2 s2 rx => h3 cls d w2 H2 q1 q2 (s1.trans s2) rx
    | bad => rw [e2] at h3; exact h3
  | exc x ρ1 st1 =>
    rw [e] at h3
    exact h3
  | bad => rw [e] at h3; exact h3
theorem tIW.ret {C : Ct} {W : WX} {w : Wd} {ρ : Env} {st : Store} {σ : St} {H : Hp} {xs : List D} {R : It → Hp → Prop} (h : tIW C W w ρ st (Z.ret xs) σ H R) {J : It} (hj : ItOk C w J xs) : R J H :=
  h.2.2 J w H h.1 h.2.1 Step.refl hj
theorem tIW.optBind {α : Type} {C : Ct} {W : WX} {w : Wd} {ρ : Env} {st : Store} {σ : St} {H : Hp} {o : Option α} {f : α → M (List D)} {R : It → Hp → Prop} (h : tIW C W w ρ st (Z.bind (Z.opt o) f) σ H R) : ∃ a, o = some a ∧ tIW C W w ρ st (f a) σ H R := by
  cases o with
  | none => exact h.2.2.elim
  | some a => exact ⟨a, rfl, h⟩
theorem tIW.opt {C : Ct} {W : WX} {w : Wd} {ρ : Env} {st : Store} {σ : St} {H : Hp} {o : Option (List D)} {R : It → Hp → Prop} (h : tIW C W w ρ st (Z.opt o) σ H R) : ∃ a, o = some a ∧ tIW C W w ρ st (Z.ret a) σ H R := by
  cases o with
  | none => exact h.2.2.elim
  | some a => exact ⟨a, rfl, h⟩
theorem _root_.L2.PI.imp {X : Cx} {tg e : Expr} {t t' : TI} (h : PI X tg e t) (hi : ∀ σ H R, t' σ H R → t σ H R) : PI X tg e t' :=
  ⟨fun pins s σ H R I q => h.run pins s σ H R I (hi σ H R q)⟩
theorem _root_.L2.PI.or {X : Cx} {tg e : Expr} {t t' : TI} (h : PI X tg e t) (h' : PI X tg e t') : PI X tg e (fun σ H R => t σ H R ∨ t' σ H R) :=
  ⟨fun pins s σ H R I q => q.elim (h.run pins s σ H R I) (h'.run pins s σ H R I)⟩
theorem it_list {C : Ct} {w0 : Wd} {a : Addr} {vs : List V} {ds : List D} (h : w0.F a = some (.lst vs)) (r : RelDs C w0.F w0.L vs ds) : ItOk C w0 (Itl C.K a) ds := by
  intro w H st σ ρ i g hs he
  have hq : SqL C.K H a vs := SqL.of (hs.fh _ _ (g.f _ _ h))
  refine ⟨fun d hd => ?_, fun hi => ⟨vs, hq, by rw [r.length]; omega⟩⟩
  obtain ⟨v, h1, h2⟩ := r.get hd
  refine ⟨⟨vs, v, hq, h1⟩, fun v' H' y => ?_⟩
  obtain ⟨e, y⟩ := y
  subst e
  have e := y vs hq
  rw [h1] at e
  cases e
  exact ⟨w, hs, he, Step.refl, h2.mono g⟩
theorem it_tup {C : Ct} {w0 : Wd} {a : Addr} {vs : List V} {ds : List D} (h : SqT C.K w0.F a vs) (r : RelDs C w0.F w0.L vs ds) : ItOk C w0 (Itt C.K a) ds := by
  intro w H st σ ρ i g hs he
  have hq : SqT C.K H a vs := sqT_mono hs.fh (sqT_mono g.f h)
  refine ⟨fun d hd => ?_, fun hi => ⟨vs, hq, by rw [r.length]; omega⟩⟩
  obtain ⟨v, h1, h2⟩ := r.get hd
  refine ⟨⟨vs, v, hq, h1⟩, fun v' H' y => ?_⟩
  obtain ⟨e, y⟩ := y
  subst e
  have e := y vs hq
  rw [h1] at e
  cases e
  exact ⟨w, hs, he, Step.refl, h2.mono g⟩
theorem rng_length (lo hi : Int) : (rng lo hi).length = (hi - lo).toNat := by unfold rng; simp
theorem it_rng {C : Ct} {w0 : Wd} (lo hi : Int) : ItOk C w0 (Itr lo (hi - lo).toNat) (rng lo hi) := by
  intro w H st σ ρ i g hs he
  refine ⟨fun d hd => ?_, fun h => ?_⟩
  · have hi' : i < (hi - lo).toNat := by rw [← rng_length]; exact (List.getElem?_eq_some_iff.mp hd).1
    have e : d = .int (lo + (i : Nat)) := by
      unfold rng at hd
      rw [List.getElem?_map, List.getElem?_range hi'] at hd
      cases hd; rfl
    subst e
    exact ⟨hi', fun v H' y => by
      obtain ⟨e1, e2⟩ := y
      subst e1 e2
      exact ⟨w, hs, he, Step.refl, .int _⟩⟩
  · rw [rng_length] at h
    show (hi - lo).toNat ≤ i
    omega
section
variable {X : Cx} {W : WX} {pos p : Pos} {tg a b : Expr} {ma mb : M D}
abbrev DI (X : Cx) (W : WX) (tg e : Expr) (m : M (List D)) : Prop := PI X tg e (tI (ct X) W m)
/-- a list or a tuple, walked -/
theorem pi_seqU {l : Expr} {tl : TE} (hl : PE X l tl) : PI X tg l (fun σ H R => tl σ H fun x H1 => (∃ a, x = .ref a ∧ (∃ xs, SqL X.K H1 a xs) ∧ R (Itl X.K a) H1) ∨ ∃ a, x = .ref a ∧ (∃ xs, SqT X.K H1 a xs) ∧ R (Itt X.K a) H1) := by
  refine ⟨fun pins s σ H R I h => ?_⟩
  refine thn (hl.run pins s σ H _ I h) fun v s1 ⟨x, H1, I1, r1, q1⟩ => ?_
  rcases q1 with ⟨a, e, ⟨xs, hq⟩, q⟩ | ⟨a, e, ⟨xs, hq⟩, q⟩
  · subst e
    cases r1
    obtain ⟨its, rv, p, hz⟩ := I1.list hq
    refine wpAny_pyIter_list p.isList ?_
    refine ⟨s1.heap.objs.size, [s1.heap.objs.size], _, _, H1, rfl, I1.kept (t' := s1.toks) fun b o e => Heap.get?_push_of_some _ e, turn_list a _, ⟨_, Heap.get?_push_size _ rfl, rfl, rfl⟩, fun b hb => ?_, q⟩
    have e : b = s1.heap.objs.size := by simpa using hb
    subst e
    exact I1.fpOk (Nat.le_refl _) (I1.hok.fresh (Nat.le_refl _))
  · subst e
    cases r1
    obtain ⟨its, rv, p, hz⟩ := I1.tuple hq
    refine wpAny_pyIter_tuple (show s1.heap.IsTuple a its.toArray from p) ?_
    refine ⟨s1.heap.objs.size, [s1.heap.objs.size], _, _, H1, rfl, I1.kept (t' := s1.toks) fun b o e => Heap.get?_push_of_some _ e, turn_tuple a _, ⟨_, Heap.get?_push_size _ rfl, rfl, rfl⟩, fun b hb => ?_, q⟩
    have e : b = s1.heap.objs.size := by simpa using hb
    subst e
    exact I1.fpOk (Nat.le_refl _) (I1.hok.fresh (Nat.le_refl _))
theorem di_seq (ha : DE X W a ma) : DI X W tg a (bind ma fun x => opt (seqItems x)) :=
  (pi_seqU ha).imp fun σ H R ⟨w, ρ, st, h⟩ => ⟨w, ρ, st, (tIW.bind (rel := rD (ct X)) h).imp fun v H1 ⟨x, w1, ρ1, st1, r, _, q⟩ => by
    obtain ⟨ds, e, q⟩ := q.opt
    cases r with
    | tup hh rr =>
      cases e
      exact .inr ⟨_, rfl, ⟨_, sqT_mono q.1.fh hh⟩, q.ret (it_tup hh rr)⟩
    | lst hh rr =>
      cases e
      exact .inl ⟨_, rfl, ⟨_, SqL.of (q.1.fh _ _ hh)⟩, q.ret (it_list hh rr)⟩
    | _ => simp [seqItems] at e⟩
theorem small_d {n : Int} (h : small n = true) : -(2 ^ 62) ≤ n ∧ n < 2 ^ 62 := by
  unfold small at h
  simpa using h
theorem di_range1 (hg : Gl X "range") (hm : X.mg "range" = none) (ha : DE X W a ma) (hs : NoStar X a) :
    DI X W tg (.Call (.Name "range" p) [a] [] pos) (bind ma fun x => match x with | .int n => if small n then ret (rng 0 n) else bad | _ => bad) :=
  (pi_range1 hg hm (pa_cons ha pa_nil (hs [])) (hs [])).imp fun σ H R ⟨w, ρ, st, h⟩ => ⟨w, ρ, st, (tIW.bind (rel := rD (ct X)) h).imp fun v H1 ⟨x, w1, ρ1, st1, r, _, q⟩ => by
    cases r with
    | int n =>
      have q : tIW (ct X) W w1 ρ1 st1 (if small n then ret (rng 0 n) else bad) σ H1 R := q
      split at q
      · rename_i hn
        obtain ⟨a1, a2⟩ := small_d hn
        refine ⟨n, rfl, a1, a2, ?_⟩
        have := q.ret (it_rng 0 n)
        rw [Int.sub_zero] at this
        exact this
      · exact q.2.2.elim
    | _ => exact q.2.2.elim⟩
theorem di_range2 (hg : Gl X "range") (hm : X.mg "range" = none) (ha : DE X W a ma) (hb : DE X W b mb) (hs : NoStar X a) (hs2 : NoStar X b) :
    DI X W tg (.Call (.Name "range" p) [a, b] [] pos) (bind ma fun x => bind mb fun y => match x, y with | .int i, .int j => if small i && small j then ret (rng i j) else bad | _, _ => bad) :=
  (pi_range2 hg hm (pa_cons ha (pa_cons hb pa_nil (hs2 [])) (hs [b])) (by rw [hs [b], hs2 []]; rfl) (hs2 [])).imp fun σ H R ⟨w, ρ, st, h⟩ => ⟨w, ρ, st, (tIW.bind (rel := rD (ct X)) h).imp fun v H1 ⟨x, w1, ρ1, st1, r, _, q⟩ => ⟨w1, ρ1, st1, (tIW.bind (rel := rD (ct X)) q).imp fun u H2 ⟨y, w2, ρ2, st2, r2, s2, q⟩ => by
    cases r with
    | int i =>
      cases r2 with
      | int j =>
        have q : tIW (ct X) W w2 ρ2 st2 (if small i && small j then ret (rng i j) else bad) σ H2 R := q
        split at q
        · rename_i hn
          simp only [Bool.and_eq_true] at hn
          obtain ⟨a1, a2⟩ := small_d hn.1
          obtain ⟨b1, b2⟩ := small_d hn.2
          exact ⟨i, j, rfl, ⟨a1, a2, b1, b2⟩, q.ret (it_rng i j)⟩
        · exact q.2.2.elim
      | _ => exact q.2.2.elim
    | _ => exact q.2.2.elim⟩⟩
end

/-! ### a new list -/
/-- a new object that nobody else knows -/
structure Alone (C : Ct) (w : Wd) (H : Hp) (σ : St) (ρ : Env) (p : Addr) (c : Cell) : Prop where
  rc : RelC C w H p c
  nf : w.F p = none
  nl : p ∉ w.L
  no : ¬ Own σ ρ p
def tFW (C : Ct) (W : WX) (w : Wd) (ρ : Env) (st : Store) (m : M Cell) (σ : St) (H : Hp) (Q : VK) : Prop := RelSt C w H st ∧ RelE C w H σ ρ ∧ match m ρ st with
  | .ok c ρ' st' => ∀ p w' H', RelSt C w' H' st' → RelE C w' H' σ ρ' → Step w H (Own σ ρ) w' H' (Own σ ρ') → Alone C w' H' σ ρ' p c → H p = none → Q (.ref p) H'
  | .exc x ρ' st' => ∀ cls d w' H', RelSt C w' H' st' → RelE C w' H' σ ρ' → Step w H (Own σ ρ) w' H' (Own σ ρ') → RelX C w' H' cls d x → W cls d σ H'
  | .bad => False
def tF (C : Ct) (W : WX) (m : M Cell) : TE := fun σ H Q => ∃ w ρ st, tFW C W w ρ st m σ H Q
abbrev DF (X : Cx) (W : WX) (e : Expr) (m : M Cell) : Prop := PE X e (tF (ct X) W m)
section
variable {C : Ct} {W : WX} {w : Wd} {ρ : Env} {st : Store} {σ : St} {H : Hp} {Q : VK}
theorem tFW.bindE {α β : Type} {rel : Wd → β → α → Prop} {m : M α} {f : α → M Cell} (h : tFW C W w ρ st (Z.bind m f) σ H Q) :
    tW C W rel w ρ st m σ H fun b H1 => ∃ a w1 ρ1 st1, m ρ st = .ok a ρ1 st1 ∧ rel w1 b a ∧ Step w H (Own σ ρ) w1 H1 (Own σ ρ1) ∧ tFW C W w1 ρ1 st1 (f a) σ H1 Q := by
  obtain ⟨h1, h2, h3⟩ := h
  refine ⟨h1, h2, ?_⟩
  unfold Z.bind at h3
  cases e : m ρ st with
  | ok a ρ1 st1 =>
    rw [e] at h3
    intro b w1 H1 r1 r2 s1 rb
    refine ⟨a, w1, ρ1, st1, rfl, rb, s1, r1, r2, ?_⟩
    simp only at h3
    cases e2 : f a ρ1 st1 with
    | ok c ρ2 st2 =>
      rw [e2] at h3
      exact fun d w2 H2 q1 q2 s2 rd hd => h3 d w2 H2 q1 q2 (s1.trans s2) rd (s1.dom _ hd)
    | exc x ρ2 st2 =>
      rw [e2] at h3
      exact fun cls d w2 H2 q1 q2 s2 rx => h3 cls d w2 H2 q1 q2 (s1.trans s2) rx
    | bad => rw [e2] at h3; exact h3
  | exc x ρ1 st1 =>
    rw [e] at h3
    exact h3
  | bad => rw [e] at h3; exact h3
theorem tFW.optBind {α : Type} {o : Option α} {f : α → M Cell} (h : tFW C W w ρ st (Z.bind (Z.opt o) f) σ H Q) : ∃ a, o = some a ∧ tFW C W w ρ st (f a) σ H Q := by
  cases o with
  | none => exact h.2.2.elim
  | some a => exact ⟨a, rfl, h⟩
theorem tFW.fits {xs : List D} {k : List D → M Cell} (h : tFW C W w ρ st (Z.bind (Z.fits xs) k) σ H Q) : xs.length ≤ sizeLine ∧ tFW C W w ρ st (k xs) σ H Q := by
  unfold Z.fits at h
  split at h
  · rename_i hl
    exact ⟨by rw [← line_eq]; exact hl, h⟩
  · exact h.2.2.elim
/-- a new list is laid -/
theorem tFW.ret {ds : List D} {vs : List V} (h : tFW C W w ρ st (Z.ret (.lst ds)) σ H Q) (r : RelDs C w.F w.L vs ds) : ∀ p, H p = none → Q (.ref p) (upd H p (.lst vs)) := by
  intro p hp
  obtain ⟨a1, a2, a3⟩ := laid0 (o := .lst vs) h.1 h.2.1 hp
  refine h.2.2 p w _ a1 a2 a3 ⟨⟨vs, upd_same, r⟩, h.1.none_F hp, h.1.none_L hp, fun ⟨i, c, h1, h2⟩ => ?_⟩ hp
  obtain ⟨a, e1, e2, _⟩ := h.2.1.own i c h1
  rw [h2] at e1; cases e1
  obtain ⟨u, hu⟩ := e2.there
  rw [hp] at hu; cases hu
end
section
variable {X : Cx} {W : WX} {pos p : Pos} {a b e : Expr} {ma mb : M D} {ms : M (List D)} {mc : M Cell}
/-- a new list as a value, or in a cell -/
theorem de_mk {k : Kd} (h : DF X W e mc) : DE X W e (bind mc fun c => mkC k c) :=
  h.imp fun σ H Q ⟨w, ρ, st, h1, h2, h3⟩ => ⟨w, ρ, st, h1, h2, by
    unfold bind at h3
    cases em : mc ρ st with
    | ok c ρ1 st1 =>
      rw [em] at h3
      intro p w1 H1 r1 r2 s1 al hp
      obtain ⟨o, ho⟩ := al.rc.there
      cases k with
      | pure =>
        obtain ⟨b1, b2, b3⟩ := toF r1 r2 ho al.nf al.nl al.no
        refine h3 _ _ _ b1 b2 ⟨s1.gr.trans b3, s1.keep, fun x u hx => ?_, s1.newL, s1.newO, s1.dom⟩ (al.rc.toD al.nl _ b3.f fun u hu => by rw [ho] at hu; cases hu; exact upd_same)
        have hx : upd w1.F p o x = some u := hx
        by_cases hxp : x = p
        · rw [hxp]; exact .inr (.inr hp)
        · rw [upd_ne hxp] at hx; exact s1.newF x u hx
      | cell =>
        obtain ⟨b1, b2, b3, b4⟩ := toL r1 r2 al.rc al.nf al.nl al.no
        refine h3 _ _ _ b1 b2 ⟨s1.gr.trans b3, s1.keep, s1.newF, fun x hx => ?_, s1.newO, s1.dom⟩ b4
        rcases List.mem_append.mp hx with hx | hx
        · exact s1.newL x hx
        · simp at hx; rw [hx]; exact .inr (.inr hp)
    | exc x ρ1 st1 => rw [em] at h3; exact h3
    | bad => rw [em] at h3; exact h3⟩
theorem df_disp {es : List Expr} (h : DEs X W es ms) : DF X W (.List es pos) (bind ms fun ds => bind (fits ds) fun ds => ret (.lst ds)) :=
  (pe_lst h).imp fun σ H Q ⟨w, ρ, st, h⟩ => ⟨w, ρ, st, (h.bindE (rel := rDs (ct X))).imp fun vs H1 ⟨ds, w1, ρ1, st1, _, r, _, q⟩ => by
    obtain ⟨hl, q⟩ := q.fits
    exact ⟨by rw [r.length]; exact hl, q.ret r⟩⟩
theorem tFW.viewBind {C : Ct} {W : WX} {w : Wd} {ρ : Env} {st : Store} {σ : St} {H : Hp} {Q : VK} {d : D} {f : D → M Cell} (h : tFW C W w ρ st (Z.bind (Z.viewM d) f) σ H Q) : tFW C W w ρ st (f (view st d)) σ H Q := h
theorem df_cat (ha : DE X W a ma) (hb : DE X W b mb) : DF X W (.BinOp a .Add b pos) (bind ma fun x => bind mb fun y => bind (viewM x) fun x => bind (viewM y) fun y => match x, y with
    | .lst xs, .lst ys => bind (fits (xs ++ ys)) fun ds => ret (.lst ds)
    | _, _ => bad) :=
  (pe_op op_cat ha hb).imp fun σ H Q ⟨w, ρ, st, h⟩ => ⟨w, ρ, st, (h.bindE (rel := rD (ct X))).imp fun v H1 ⟨x, w1, ρ1, st1, _, r, _, q⟩ => ⟨w1, ρ1, st1, (q.bindE (rel := rD (ct X))).imp fun u H2 ⟨y, w2, ρ2, st2, _, r2, s2, q⟩ => by
    have q := q.viewBind.viewBind
    have v1 := sees q.1 (RelD.mono s2.gr r)
    have v2 := sees q.1 r2
    cases ex : view st2 x with
    | lst xs =>
      rw [ex] at v1 q
      cases ey : view st2 y with
      | lst ys =>
        rw [ey] at v2 q
        cases v1 with
        | lst h1 q1 =>
          cases v2 with
          | lst h2 q2 =>
            obtain ⟨hl, q⟩ := tFW.fits q
            exact ⟨_, _, _, _, rfl, rfl, h1, h2, by rw [q1.length, q2.length, ← List.length_append]; exact hl, q.ret (q1.append q2)⟩
      | _ => rw [ey] at q; exact q.2.2.elim
    | _ => rw [ex] at q; exact q.2.2.elim⟩⟩
theorem df_rep (ha : DE X W a ma) (hb : DE X W b mb) : DF X W (.BinOp a .Mult b pos) (bind ma fun x => bind mb fun y => match x, y with
    | .lst xs, .int k => if small k && decide (xs.length * k.toNat ≤ line) then ret (.lst (List.replicate k.toNat xs).flatten) else bad
    | _, _ => bad) :=
  (pe_op op_rep ha hb).imp fun σ H Q ⟨w, ρ, st, h⟩ => ⟨w, ρ, st, (h.bindE (rel := rD (ct X))).imp fun v H1 ⟨x, w1, ρ1, st1, _, r, _, q⟩ => ⟨w1, ρ1, st1, (q.bindE (rel := rD (ct X))).imp fun u H2 ⟨y, w2, ρ2, st2, _, r2, s2, q⟩ => by
    have r := RelD.mono s2.gr r
    cases r with
    | lst h1 q1 =>
      cases r2 with
      | int k =>
        have q : tFW (ct X) W w2 ρ2 st2 (if small k && decide (_ * k.toNat ≤ line) then ret (.lst (List.replicate k.toNat _).flatten) else bad) σ H2 Q := q
        split at q
        · rename_i hn
          simp only [Bool.and_eq_true, decide_eq_true_eq] at hn
          obtain ⟨a1, a2⟩ := small_d hn.1
          exact ⟨_, _, _, rfl, rfl, q.1.fh _ _ h1, by omega, by omega, by rw [q1.length, ← line_eq]; exact hn.2, q.ret (q1.rep _)⟩
        · exact q.2.2.elim
      | _ => exact q.2.2.elim
    | _ => exact q.2.2.elim⟩⟩
theorem df_list {x : Str} (hn : BName X x (.type "list")) (ha : DE X W a ma) (hs : NoStar X a) : DF X W (.Call (.Name x p) [a] [] pos) (bind ma fun x => bind (viewM x) fun x => match x with
    | .lst xs => ret (.lst xs)
    | .tup xs => ret (.lst xs)
    | _ => bad) :=
  (callV hn (.inr ⟨_, rfl⟩) call_list_of (pa_cons ha pa_nil (hs [])) (hs []) rfl).imp fun σ H Q ⟨w, ρ, st, h⟩ => ⟨w, ρ, st, (h.bindE (rel := rD (ct X))).imp fun v H1 ⟨x, w1, ρ1, st1, _, r, _, q⟩ => by
    have q := q.viewBind
    have v1 := sees q.1 r
    cases ex : view st1 x with
    | lst xs =>
      rw [ex] at v1 q
      cases v1 with
      | lst h1 q1 => exact ⟨_, _, rfl, .inl (SqL.of h1), q.ret q1⟩
    | tup xs =>
      rw [ex] at v1 q
      cases v1 with
      | tup h1 q1 => exact ⟨_, _, rfl, .inr (sqT_mono q.1.fh h1), q.ret q1⟩
    | _ => rw [ex] at q; exact q.2.2.elim⟩
theorem rgV_rel {C : Ct} {F : Hp} {L : List Addr} (n : Int) : RelDs C F L (rgV 0 n) (rng 0 n) := by
  unfold rgV rng
  generalize (n - 0).toNat = k
  generalize hl : List.range k = l
  clear hl
  induction l with
  | nil => exact .nil
  | cons i l ih => exact .cons (.int _) ih
theorem df_listR {p2 pos2 : Pos} (hc : X.calm = true) (hn : BName X "list" (.type "list")) (hr : BName X "range" (.type "range")) (ha : DE X W a ma) (hs : NoStar X a) (hs2 : NoStar X (.Call (.Name "range" p2) [a] [] pos2)) :
    DF X W (.Call (.Name "list" p) [.Call (.Name "range" p2) [a] [] pos2] [] pos) (bind ma fun x => match x with
    | .int n => if small n && decide (n.toNat ≤ line) then ret (.lst (rng 0 n)) else bad
    | _ => bad) :=
  (pe_listRg hc hn.gl hn.mg (prg_1 hr.gl hr.mg ha (hs [])) (hs2 [])).imp fun σ H Q ⟨w, ρ, st, h⟩ => ⟨w, ρ, st, (h.bindE (rel := rD (ct X))).imp fun v H1 ⟨x, w1, ρ1, st1, _, r, _, q⟩ => by
    cases r with
    | int n =>
      have q : tFW (ct X) W w1 ρ1 st1 (if small n && decide (n.toNat ≤ line) then ret (.lst (rng 0 n)) else bad) σ H1 Q := q
      split at q
      · rename_i hn
        simp only [Bool.and_eq_true, decide_eq_true_eq] at hn
        obtain ⟨a1, a2⟩ := small_d hn.1
        have h3 : n.toNat ≤ 16777216 := hn.2
        exact ⟨n, rfl, ⟨by omega, by omega, by omega, by omega, by omega⟩, q.ret (rgV_rel n)⟩
      · exact q.2.2.elim
    | _ => exact q.2.2.elim⟩
end
end Z

/-! Z8: comprehensions. -/
namespace Z
open PySem PySem.Spec L2
open PyProof.Rows hiding St

theorem zwipe_length (ρ : Env) : ∀ vs : List Nat, (Z.wipe ρ vs).length = ρ.length
  | [] => rfl
  | v :: vs => by unfold Z.wipe; rw [List.length_set, zwipe_length ρ vs]
theorem zwipe_out {ρ : Env} {i : Nat} : ∀ {vs : List Nat}, i ∉ vs → (Z.wipe ρ vs)[i]? = ρ[i]?
  | [], _ => rfl
  | v :: vs, h => by
    simp only [List.mem_cons, not_or] at h
    unfold Z.wipe
    rw [List.getElem?_set_ne (fun z => h.1 z.symm)]
    exact zwipe_out h.2
theorem zwipe_in {ρ : Env} {i : Nat} : ∀ {vs : List Nat}, i ∈ vs → i < ρ.length → (Z.wipe ρ vs)[i]? = some .un
  | [], h, _ => by cases h
  | v :: vs, h, hl => by
    unfold Z.wipe
    by_cases e : v = i
    · subst e
      rw [List.getElem?_set_self (by rw [zwipe_length]; exact hl)]
    · rw [List.getElem?_set_ne e]
      rcases List.mem_cons.mp h with z | z
      · exact absurd z.symm e
      · exact zwipe_in z hl
theorem lwipe_in {σ : St} {i : Nat} : ∀ {vs : List Nat}, i ∈ vs → i < σ.length → (L2.wipe σ vs)[i]? = some none
  | [], h, _ => by cases h
  | v :: vs, h, hl => by
    unfold L2.wipe
    by_cases e : v = i
    · subst e
      rw [List.getElem?_set_self (by rw [L2.wipe_length]; exact hl)]
    · rw [List.getElem?_set_ne e]
      rcases List.mem_cons.mp h with z | z
      · exact absurd z.symm e
      · exact lwipe_in z hl
theorem lwipe_out {σ : St} {i : Nat} {vs : List Nat} (h : i ∉ vs) : (L2.wipe σ vs)[i]? = σ[i]? := L2.wipe_out h
theorem wipe_eq {σ σ2 : St} {vs : List Nat} (hl : σ2.length = σ.length) (h : ∀ i, i ∉ vs → σ2[i]? = (L2.wipe σ vs)[i]?) : L2.wipe σ2 vs = L2.wipe σ vs := by
  refine List.ext_getElem? fun i => ?_
  by_cases hi : i ∈ vs
  · by_cases hn : i < σ.length
    · rw [lwipe_in hi hn, lwipe_in hi (by rw [hl]; exact hn)]
    · rw [List.getElem?_eq_none (by rw [L2.wipe_length]; omega), List.getElem?_eq_none (by rw [L2.wipe_length]; omega)]
  · rw [lwipe_out hi, h i hi]
section
variable {C : Ct} {w w' : Wd} {H H' : Hp} {σ : St} {ρ ρ' : Env} {vs : List Nat}
theorem unE {i : Nat} (he : RelE C w H σ ρ) : RelE C w H (σ.set i none) (ρ.set i .un) := by
  have ne : ∀ {m : Nat} {s0 : Sl}, s0 ≠ .un → (ρ.set i .un)[m]? = some s0 → i ≠ m := fun {m s0} hs h z => by
    subst z
    have hl : i < ρ.length := by
      have := (List.getElem?_eq_some_iff.mp h).1
      simpa using this
    rw [List.getElem?_set_self hl] at h
    cases h
    exact hs rfl
  refine ⟨by simp [he.len], fun j e h => ?_, fun j e h => ?_, fun j k c1 c2 a h1 h2 h3 h4 => ?_⟩
  · have n := ne (by intro z; cases z) h
    rw [List.getElem?_set_ne n] at h
    obtain ⟨u, h1, h2⟩ := he.val j e h
    exact ⟨u, by rw [List.getElem?_set_ne n]; exact h1, h2⟩
  · have n := ne (by intro z; cases z) h
    rw [List.getElem?_set_ne n] at h
    obtain ⟨a, h1, h2⟩ := he.own j e h
    exact ⟨a, by rw [List.getElem?_set_ne n]; exact h1, h2⟩
  · have n1 := ne (by intro z; cases z) h1
    have n2 := ne (by intro z; cases z) h2
    rw [List.getElem?_set_ne n1] at h1 h3
    rw [List.getElem?_set_ne n2] at h2 h4
    exact he.ap j k c1 c2 a h1 h2 h3 h4
theorem wipeE (he : RelE C w H σ ρ) : ∀ vs : List Nat, RelE C w H (L2.wipe σ vs) (Z.wipe ρ vs)
  | [] => he
  | v :: vs => unE (wipeE he vs)
theorem own_unwipe (he : RelE C w H σ ρ) {a : Addr} (h : Own (L2.wipe σ vs) (Z.wipe ρ vs) a) : Own σ ρ a := by
  obtain ⟨i, c, h1, h2⟩ := h
  have hi : i ∉ vs := fun z => by
    have hl : i < ρ.length := by
      have := (List.getElem?_eq_some_iff.mp h1).1
      rwa [zwipe_length] at this
    rw [zwipe_in z hl] at h1
    cases h1
  rw [zwipe_out hi] at h1
  rw [lwipe_out hi] at h2
  exact ⟨i, c, h1, h2⟩
theorem own_wipe (hn : ∀ i ∈ vs, isOwn ρ[i]? = false) {a : Addr} (h : Own σ ρ a) : Own (L2.wipe σ vs) (Z.wipe ρ vs) a := by
  obtain ⟨i, c, h1, h2⟩ := h
  have hi : i ∉ vs := fun z => by
    have := hn i z
    rw [h1] at this
    cases this
  exact ⟨i, c, by rw [zwipe_out hi]; exact h1, by rw [lwipe_out hi]; exact h2⟩
theorem restore_length (ρ ρ' : Env) : ∀ vs : List Nat, (restore ρ ρ' vs).length = ρ'.length
  | [] => rfl
  | v :: vs => by unfold restore; rw [List.length_set, restore_length ρ ρ' vs]
theorem restore_out {i : Nat} : ∀ {vs : List Nat}, i ∉ vs → (restore ρ ρ' vs)[i]? = ρ'[i]?
  | [], _ => rfl
  | v :: vs, h => by
    simp only [List.mem_cons, not_or] at h
    unfold restore
    rw [List.getElem?_set_ne (fun z => h.1 z.symm)]
    exact restore_out h.2
theorem restore_in {i : Nat} : ∀ {vs : List Nat}, i ∈ vs → i < ρ'.length → (restore ρ ρ' vs)[i]? = some ((ρ[i]?).getD .un)
  | [], h, _ => by cases h
  | v :: vs, h, hl => by
    unfold restore
    by_cases e : v = i
    · subst e
      rw [List.getElem?_set_self (by rw [restore_length]; exact hl)]
    · rw [List.getElem?_set_ne e]
      rcases List.mem_cons.mp h with z | z
      · exact absurd z.symm e
      · exact restore_in z hl
theorem restoreE (h0 : RelE C w H σ ρ) (g : Gr w w') (hn : ∀ i ∈ vs, isOwn ρ[i]? = false) (he : RelE C w' H' (L2.wipe σ vs) (Z.wipe ρ' vs)) :
    RelE C w' H' σ (restore ρ ρ' vs) ∧ (∀ a, Own σ (restore ρ ρ' vs) a → Own (L2.wipe σ vs) (Z.wipe ρ' vs) a) := by
  have hl : ρ'.length = σ.length := by
    have := he.len
    rwa [zwipe_length, L2.wipe_length] at this
  have noO : ∀ {i : Nat} {c : Cell}, (restore ρ ρ' vs)[i]? = some (.own c) → i ∉ vs := fun {i c} h z => by
    have hli : i < ρ'.length := by
      have := (List.getElem?_eq_some_iff.mp h).1
      rwa [restore_length] at this
    rw [restore_in z hli] at h
    have := hn i z
    cases e : ρ[i]? with
    | none => rw [e] at h; simp at h
    | some s =>
      rw [e] at h this
      simp at h
      subst h
      cases this
  have ownT : ∀ {i : Nat} {c : Cell}, (restore ρ ρ' vs)[i]? = some (.own c) → (Z.wipe ρ' vs)[i]? = some (.own c) ∧ (L2.wipe σ vs)[i]? = σ[i]? := fun {i c} h => by
    have z := noO h
    rw [restore_out z] at h
    exact ⟨by rw [zwipe_out z]; exact h, lwipe_out z⟩
  refine ⟨⟨by rw [restore_length]; exact hl, fun i d h => ?_, fun i c h => ?_, fun i j c c' a h1 h2 h3 h4 => ?_⟩, fun a ⟨i, c, h1, h2⟩ => ?_⟩
  · by_cases hi : i ∈ vs
    · have hli : i < ρ'.length := by
        have := (List.getElem?_eq_some_iff.mp h).1
        rwa [restore_length] at this
      rw [restore_in hi hli] at h
      cases e : ρ[i]? with
      | none => rw [e] at h; simp at h
      | some s =>
        rw [e] at h
        simp at h
        subst h
        obtain ⟨v, h1, h2⟩ := h0.val i d e
        exact ⟨v, h1, h2.mono g⟩
    · rw [restore_out hi] at h
      obtain ⟨v, h1, h2⟩ := he.val i d (by rw [zwipe_out hi]; exact h)
      rw [lwipe_out hi] at h1
      exact ⟨v, h1, h2⟩
  · obtain ⟨k1, k2⟩ := ownT h
    obtain ⟨a, q1, q2⟩ := he.own i c k1
    rw [k2] at q1
    exact ⟨a, q1, q2⟩
  · obtain ⟨k1, k2⟩ := ownT h1
    obtain ⟨k3, k4⟩ := ownT h2
    exact he.ap i j c c' a k1 k3 (by rw [k2]; exact h3) (by rw [k4]; exact h4)
  · obtain ⟨k1, k2⟩ := ownT h1
    exact ⟨i, c, k1, by rw [k2]; exact h2⟩
theorem Step.sub {O O' : Addr → Prop} (h : ∀ a, O' a → O a) : Step w H O w H O' := ⟨Gr.refl w, fun _ _ h _ _ => h, fun _ _ h => .inl h, fun _ h => .inl h, fun a z => .inl (h a z), fun _ h => h⟩
/-- one object more that is ours -/
theorem Step.plus {O O' : Addr → Prop} (s : Step w H O w' H' O') (D : Addr) : Step w H (fun a => O a ∨ a = D) w' H' (fun a => O' a ∨ a = D) :=
  ⟨s.gr, fun a o h hl ho => s.keep a o h hl fun z => ho (.inl z), fun a o h => by
    rcases s.newF a o h with z | z | z
    · exact .inl z
    · exact .inr (.inl (.inl z))
    · exact .inr (.inr z), fun a h => by
    rcases s.newL a h with z | z | z
    · exact .inl z
    · exact .inr (.inl (.inl z))
    · exact .inr (.inr z), fun a h => by
    rcases h with h | h
    · rcases s.newO a h with z | z
      · exact .inl (.inl z)
      · exact .inr z
    · exact .inl (.inr h), s.dom⟩
/-- an object of ours is changed -/
theorem updE {st : Store} {D : Addr} {o : HO} (hs : RelSt C w H st) (he : RelE C w H σ ρ) (hf : w.F D = none) (hl : D ∉ w.L) (hn : ¬ Own σ ρ D) (hd : ∃ u, H D = some u) :
    RelSt C w (upd H D o) st ∧ RelE C w (upd H D o) σ ρ ∧ ∀ O : Addr → Prop, Step w H (fun a => O a ∨ a = D) w (upd H D o) (fun a => O a ∨ a = D) := by
  have k : ∀ a u, a ≠ D → H a = some u → upd H D o a = some u := fun a u z h => by rw [upd_ne z]; exact h
  refine ⟨⟨hs.len, hs.nd, fun a u h => k a u (fun z => by rw [z, hf] at h; cases h) (hs.fh a u h), hs.fl, fun l c a h1 h2 => (hs.cell l c a h1 h2).mono (Gr.refl w) fun u => k a u fun z => hl (by rw [← z]; exact List.mem_of_getElem? h2)⟩, ⟨he.len, he.val, fun i c h => ?_, he.ap⟩, fun O => ⟨Gr.refl w, fun a u h _ z => k a u (fun e => z (.inr e)) h, fun _ _ h => .inl h, fun _ h => .inl h, fun _ h => .inl h, fun a h => ?_⟩⟩
  · obtain ⟨a, h1, h2, h3, h4⟩ := he.own i c h
    exact ⟨a, h1, h2.mono (Gr.refl w) fun u => k a u fun z => hn ⟨i, c, h, by rw [← z]; exact h1⟩, h3, h4⟩
  · by_cases e : a = D
    · rw [e, upd_same] at h; cases h
    · rw [upd_ne e] at h; exact h
/-- what is ours stays ours over a step -/
theorem Step.mine {O O' : Addr → Prop} {D : Addr} {u : HO} (s : Step w H O w' H' O') (hd : H D = some u) (hf : w.F D = none) (hl : D ∉ w.L) (hn : ¬ O D) : H' D = some u ∧ w'.F D = none ∧ D ∉ w'.L ∧ ¬ O' D := by
  refine ⟨s.keep D u hd hl hn, ?_, fun z => ?_, fun z => ?_⟩
  · cases e : w'.F D with
    | none => rfl
    | some v =>
      rcases s.newF D v e with z | z | z
      · rw [hf] at z; cases z
      · exact absurd z hn
      · rw [hd] at z; cases z
  · rcases s.newL D z with z | z | z
    · exact hl z
    · exact hn z
    · rw [hd] at z; cases z
  · rcases s.newO D z with z | z
    · exact hn z
    · rw [hd] at z; cases z
end

/-- a turn of a comprehension -/
def goLc (t : Tg) (mt : M Bool) (me : M D) (vs : List Nat) (x : D) : M (List D) := bind (wipeM vs) fun _ => bind (bindT t x) fun _ => bind mt fun b => if b then bind me fun d => ret [d] else ret []
def lcM (mi : M (List D)) (t : Tg) (mt : M Bool) (me : M D) (vs : List Nat) : M Cell := bind mi fun xs => bind (block vs (turns (goLc t mt me vs) xs)) fun ds => bind (fits ds) fun ds => ret (.lst ds)
abbrev W0 : WX := fun _ _ _ _ => False
abbrev DTs (X : Cx) (W : WX) (ifs : List Expr) (m : M Bool) : Prop := PTs X ifs (tM (ct X) W rB m)
theorem turns_cons {go : D → M (List D)} {x : D} {xs : List D} {ρ : Env} {st : Store} {ds : List D} {ρ' : Env} {st' : Store} (h : turns go (x :: xs) ρ st = .ok ds ρ' st') :
    ∃ a ρ1 st1 b, go x ρ st = .ok a ρ1 st1 ∧ turns go xs ρ1 st1 = .ok b ρ' st' ∧ ds = a ++ b := by
  unfold turns at h
  simp only [bind, ret] at h
  split at h
  · rename_i a ρ1 st1 e1
    split at h
    · rename_i b ρ2 st2 e2
      cases h
      exact ⟨a, ρ1, st1, b, e1, e2, rfl⟩
    · cases h
    · cases h
  · cases h
  · cases h
theorem bind_ok {α β : Type} {m : M α} {f : α → M β} {ρ : Env} {st : Store} {b : β} {ρ' : Env} {st' : Store} (h : bind m f ρ st = .ok b ρ' st') : ∃ a ρ1 st1, m ρ st = .ok a ρ1 st1 ∧ f a ρ1 st1 = .ok b ρ' st' := by
  unfold bind at h
  split at h
  · rename_i a ρ1 st1 e1
    exact ⟨a, ρ1, st1, e1, h⟩
  · cases h
  · cases h
theorem block_ok {α : Type} {vs : List Nat} {m : M α} {ρ : Env} {st : Store} (h : ∀ a ρ' st', block vs m ρ st = .ok a ρ' st' → False) (hx : ∀ x ρ' st', block vs m ρ st = .exc x ρ' st' → False) : block vs m ρ st = .bad := by
  cases e : block vs m ρ st with
  | ok a ρ' st' => exact (h _ _ _ e).elim
  | exc a ρ' st' => exact (hx _ _ _ e).elim
  | bad => rfl
theorem block_inv {α : Type} {vs : List Nat} {m : M α} {ρ : Env} {st : Store} : (∃ a ρ' st', block vs m ρ st = .ok a (restore ρ ρ' vs) st' ∧ m ρ st = .ok a ρ' st' ∧ ∀ i ∈ vs, isOwn ρ[i]? = false) ∨ block vs m ρ st = .bad := by
  unfold block
  by_cases h : (vs.any fun i => isOwn ρ[i]?) = true
  · rw [if_pos h]; exact .inr rfl
  · rw [if_neg h]
    cases e : m ρ st with
    | ok a ρ' st' =>
      refine .inl ⟨a, ρ', st', rfl, rfl, fun i hi => ?_⟩
      cases q : isOwn ρ[i]? with
      | false => rfl
      | true => exact absurd (List.any_eq_true.mpr ⟨i, hi, q⟩) h
    | exc x ρ' st' => exact .inr rfl
    | bad => exact .inr rfl
section
variable {X : Cx} {W : WX} {pos : Pos}
/-- the reading of a comprehension's body -/
theorem lc_read {mi : M (List D)} {t : Tg} {mt : M Bool} {me : M D} {vs : List Nat} (hts : ∀ i ∈ tgS t, i ∈ vs) {σ : St} {H : Hp} {Q : VK} (h : tF (ct X) W (lcM mi t mt me vs) σ H Q) :
    tLc (tI (ct X) W mi) (gM (ct X) t) (tM (ct X) W0 rB mt) (tM (ct X) W0 (rD (ct X)) me) vs σ H Q := by
  obtain ⟨w, ρ, st, h1, h2, h3⟩ := h
  refine ⟨w, ρ, st, h1, h2, ?_⟩
  unfold lcM at h3
  cases e0 : mi ρ st with
  | exc x ρ1 st1 => simp only [bind, e0] at h3; exact h3
  | bad => simp only [bind, e0] at h3
  | ok xs ρ1 st1 =>
    simp only [bind, e0] at h3
    intro J w1 H1 r1 r2 s1 itok D hD
    rcases block_inv (vs := vs) (m := turns (goLc t mt me vs) xs) (ρ := ρ1) (st := st1) with ⟨ds, ρn, stn, eb, et, hno⟩ | eb
    · rw [eb] at h3
      simp only at h3
      unfold fits at h3
      by_cases hfit : ds.length ≤ line
      · rw [if_pos hfit] at h3
        simp only [ret] at h3
        -- the invariant
        have s0 := s1
        obtain ⟨l1, l2, l3⟩ := laid0 (o := .lst []) r1 (wipeE r2 vs) hD
        have nown : ¬ Own (L2.wipe σ vs) (Z.wipe ρ1 vs) D := fun z => by
          obtain ⟨i, c, q1, q2⟩ := own_unwipe r2 z
          obtain ⟨a, e1, e2, _⟩ := r2.own i c q1
          rw [q2] at e1; cases e1
          obtain ⟨u, hu⟩ := e2.there
          rw [hD] at hu; cases hu
        let Inv : Nat → Hp → Prop := fun i H' => ∃ w' ρi sti accv acc rest, RelSt (ct X) w' H' sti ∧ RelE (ct X) w' H' (L2.wipe σ vs) (Z.wipe ρi vs) ∧
          Step w1 (upd H1 D (.lst [])) (fun a => Own (L2.wipe σ vs) (Z.wipe ρ1 vs) a ∨ a = D) w' H' (fun a => Own (L2.wipe σ vs) (Z.wipe ρi vs) a ∨ a = D) ∧
          H' D = some (.lst accv) ∧ RelDs (ct X) w'.F w'.L accv acc ∧ w'.F D = none ∧ D ∉ w'.L ∧ ¬ Own (L2.wipe σ vs) (Z.wipe ρi vs) D ∧ turns (goLc t mt me vs) (xs.drop i) ρi sti = .ok rest ρn stn ∧ acc ++ rest = ds
        refine ⟨fun i m H' => m = xs.length - i ∧ i ≤ xs.length ∧ Inv i H', ⟨xs.length, by simp, Nat.zero_le _, w1, ρ1, st1, [], [], ds, l1, l2, Step.refl, upd_same, .nil, r1.none_F hD, r1.none_L hD, nown, by simpa using et, by simp⟩, ?_⟩
        rintro i m H' ⟨rfl, hi, w', ρi, sti, accv, acc, rest, q1, q2, q3, q4, q5, q6, q7, q8, q9, q10⟩
        by_cases hlt : i < xs.length
        · -- a turn
          have ex : xs[i]? = some xs[i] := by simp [hlt]
          obtain ⟨g1, g2⟩ := (itok w' H' sti (L2.wipe σ vs) (Z.wipe ρi vs) i (q3.gr) q1 q2).1 _ ex
          refine .inr ⟨g1, Inv (i + 1), fun H2 p => ⟨xs.length - (i + 1), by omega, rfl, hlt, p⟩, fun v H2 y => ?_⟩
          obtain ⟨w2, a1, a2, a3, a4⟩ := g2 v H2 y
          rw [List.drop_eq_getElem_cons hlt] at q9
          obtain ⟨b1, ρ3, st3, b2, e1, e2, e3⟩ := turns_cons q9
          obtain ⟨_, ρ4, st4, f1, f2⟩ := bind_ok e1
          cases f1
          obtain ⟨_, ρ5, st5, f3, f4⟩ := bind_ok f2
          have est := bindT_st _ _ _ _ f3
          subst est
          obtain ⟨m1, m2, m3, m4⟩ := a3.mine q4 q6 q7 q8
          refine ⟨w2, Z.wipe ρi vs, st5, xs[i], a1, a2, a4, ρ5, f3, fun σ2 he2 ho2 hk2 hl2 => ?_⟩
          have hw2 : L2.wipe σ2 vs = L2.wipe σ vs := wipe_eq (by rw [hl2, L2.wipe_length]) fun j hj => hk2 j fun z => hj (hts j z)
          refine ⟨hw2, ?_⟩
          obtain ⟨b, ρ6, st6, f5, f6⟩ := bind_ok f4
          have n2 : ¬ Own σ2 ρ5 D := fun z => m4 (ho2 D z)
          refine ⟨w2, ρ5, st5, a1, he2, ?_⟩
          rw [f5]
          intro b' w3 H3 c1 c2 c3 c4
          have c4 : b' = b := c4
          subst c4
          obtain ⟨m5, m6, m7, m8⟩ := c3.mine m1 m2 m3 n2
          have sAll : Step w1 (upd H1 D (.lst [])) (fun a => Own (L2.wipe σ vs) (Z.wipe ρ1 vs) a ∨ a = D) w3 H3 (fun a => Own σ2 ρ6 a ∨ a = D) :=
            q3.trans ((a3.plus D).trans (((Step.sub ho2).plus D).trans (c3.plus D)))
          cases b' with
          | false =>
            rw [if_neg Bool.false_ne_true] at f6 ⊢
            cases f6
            have he6 : RelE (ct X) w3 H3 (L2.wipe σ vs) (Z.wipe ρ3 vs) := by rw [← hw2]; exact wipeE c2 vs
            have on6 : ∀ a, Own (L2.wipe σ vs) (Z.wipe ρ3 vs) a → Own σ2 ρ3 a := fun a z => own_unwipe c2 (by rw [hw2]; exact z)
            refine ⟨w3, ρ3, st3, accv, acc, b2, c1, he6, sAll.trans ((Step.sub on6).plus D), m5, RelDs.mono (a3.gr.trans c3.gr) q5, m6, m7, fun z => m8 (on6 D z), e2, ?_⟩
            rw [← q10, e3]; rfl
          | true =>
            rw [if_pos rfl] at f6 ⊢
            obtain ⟨d, ρ7, st7, f7, f8⟩ := bind_ok f6
            cases f8
            refine ⟨w3, ρ6, st6, c1, c2, ?_⟩
            rw [f7]
            intro y w4 H4 d1 d2 d3 d4
            obtain ⟨m9, m10, m11, m12⟩ := d3.mine m5 m6 m7 m8
            have r5 : RelDs (ct X) w4.F w4.L accv acc := RelDs.mono (a3.gr.trans (c3.gr.trans d3.gr)) q5
            have hlen : accv.length < sizeLine := by
              rw [r5.length]
              have e5 : ds.length = acc.length + (1 + b2.length) := by rw [← q10, e3]; simp; omega
              have : ds.length ≤ sizeLine := by rw [← line_eq]; exact hfit
              omega
            refine ⟨accv, m9, hlen, ?_⟩
            have he7 : RelE (ct X) w4 H4 (L2.wipe σ vs) (Z.wipe ρ3 vs) := by rw [← hw2]; exact wipeE d2 vs
            have on7 : ∀ a, Own (L2.wipe σ vs) (Z.wipe ρ3 vs) a → Own σ2 ρ3 a := fun a z => own_unwipe d2 (by rw [hw2]; exact z)
            obtain ⟨u1, u2, u3⟩ := updE (o := .lst (accv ++ [y])) d1 he7 m10 m11 (fun z => m12 (on7 D z)) ⟨_, m9⟩
            refine ⟨w4, ρ3, st3, accv ++ [y], acc ++ [d], b2, u1, u2, sAll.trans ((d3.plus D).trans (((Step.sub on7).plus D).trans (u3 _))), upd_same, r5.append (.cons d4 .nil), m10, m11, fun z => m12 (on7 D z), e2, ?_⟩
            rw [← q10, e3]; simp
        · -- the end
          have e : i = xs.length := by omega
          subst e
          rw [List.drop_length] at q9
          cases q9
          rw [List.append_nil] at q10
          subst q10
          refine .inl ⟨(itok w' H' stn (L2.wipe σ vs) (Z.wipe ρn vs) xs.length q3.gr q1 q2).2 rfl, ?_⟩
          obtain ⟨z1, z2⟩ := restoreE r2 q3.gr hno q2
          refine h3 D w' H' q1 z1 ⟨s1.gr.trans q3.gr, fun a o ha hl ho => ?_, fun a o ha => ?_, fun a ha => ?_, fun a ha => ?_, fun a ha => ?_⟩ ⟨⟨accv, q4, q5⟩, q6, q7, fun z => q8 (z2 D z)⟩ (s1.dom D hD)
          · have h' := s1.keep a o ha hl ho
            have hne : a ≠ D := fun z => by rw [z, hD] at h'; cases h'
            have nl1 : a ∉ w1.L := fun z => by
              rcases s1.newL a z with z | z | z
              · exact hl z
              · exact ho z
              · rw [z] at ha; cases ha
            refine q3.keep a o (by rw [upd_ne hne]; exact h') nl1 fun z => ?_
            rcases z with z | z
            · rcases s1.newO a (own_unwipe r2 z) with z | z
              · exact ho z
              · rw [z] at ha; cases ha
            · exact hne z
          · rcases q3.newF a o ha with z | (z | z) | z
            · exact s1.newF a o z
            · rcases s1.newO a (own_unwipe r2 z) with z | z
              · exact .inr (.inl z)
              · exact .inr (.inr z)
            · rw [z, q6] at ha; cases ha
            · by_cases hne : a = D
              · rw [hne, q6] at ha; cases ha
              · rw [upd_ne hne] at z; exact .inr (.inr (s1.dom a z))
          · rcases q3.newL a ha with z | (z | z) | z
            · exact s1.newL a z
            · rcases s1.newO a (own_unwipe r2 z) with z | z
              · exact .inr (.inl z)
              · exact .inr (.inr z)
            · rw [z] at ha; exact absurd ha q7
            · by_cases hne : a = D
              · rw [hne] at ha; exact absurd ha q7
              · rw [upd_ne hne] at z; exact .inr (.inr (s1.dom a z))
          · rcases q3.newO a (.inl (z2 a ha)) with (z | z) | z
            · rcases s1.newO a (own_unwipe r2 z) with z | z
              · exact .inl z
              · exact .inr z
            · rw [z] at ha; exact absurd (z2 D ha) q8
            · by_cases hne : a = D
              · rw [hne] at ha; exact absurd (z2 D ha) q8
              · rw [upd_ne hne] at z; exact .inr (s1.dom a z)
          · have z := q3.dom a ha
            by_cases hne : a = D
            · rw [hne, upd_same] at z; cases z
            · rw [upd_ne hne] at z; exact s1.dom a z
      · rw [if_neg hfit] at h3
        exact h3.elim
    · rw [eb] at h3
      exact h3.elim
end
end Z

/-! Z9: statements. -/
namespace Z
open PySem PySem.Spec L2
open PyProof.Rows hiding St

section
variable {X : Cx} {W : WX} {pos : Pos}
theorem df_lc {elt tg iter : Expr} {ifs : List Expr} {scope : Scope} {own : List (Str × Nat)} {mi : M (List D)} {t : Tg} {mt : M Bool} {me : M D} (hc : X.calm = true) (hN : X.N.Nodup) (hi : DI X W tg iter mi) (ok : BlkOk X.N X.env.scope scope own)
    (hg : ∀ (s : Shared) (H : Hp) (C : Addr) (cl : List (Str × Addr)) (fp : List Addr), PG (X.blk s H scope (compEnvC scope cl C X.env) fp) tg (gM (ct X) t))
    (ht : ∀ (s : Shared) (H : Hp) (C : Addr) (cl : List (Str × Addr)) (fp : List Addr), DTs (X.blk s H scope (compEnvC scope cl C X.env) fp) W0 ifs mt)
    (he : ∀ (s : Shared) (H : Hp) (C : Addr) (cl : List (Str × Addr)) (fp : List Addr), DE (X.blk s H scope (compEnvC scope cl C X.env) fp) W0 elt me) (hs : ∀ x, foldedSetIterable iter X.env x = pure x) (hts : ∀ i ∈ tgS t, i ∈ own.map (·.2)) :
    DF X W (.ListComp elt [⟨tg, iter, ifs, 0⟩] scope pos) (lcM mi t mt me (own.map (·.2))) :=
  (pe_lc hc hN hi ok hg ht he hs).imp fun σ H Q h => lc_read hts h
theorem dts_nil : DTs X W [] (ret true) := ⟨fun pins s σ H Q I ⟨w, ρ, st, q⟩ => pts_nil.run pins s σ H Q I (q.ret rfl)⟩
theorem dts_one {c : Expr} {m : M Bool} (h : DT X W c m) : DTs X W [c] m := pts_one h
end

/-! ### statements -/
def Fl.wants {C : Ct} (D : Ends) (σ' : St) (w' : Wd) (H' : Hp) : Fl → Prop
  | .next => D.nx σ' H'
  | .brk => D.bk σ' H'
  | .cnt => D.ct σ' H'
  | .ret d => ∀ v, RelD C w'.F w'.L v d → D.rt v H'
def tSW (C : Ct) (W : WX) (w : Wd) (ρ : Env) (st : Store) (m : M Fl) (D : Ends) (σ : St) (H : Hp) : Prop := RelSt C w H st ∧ RelE C w H σ ρ ∧ match m ρ st with
  | .ok f ρ' st' => ∀ σ' w' H', RelSt C w' H' st' → RelE C w' H' σ' ρ' → Step w H (Own σ ρ) w' H' (Own σ' ρ') → f.wants (C := C) D σ' w' H'
  | .exc x ρ' st' => ∀ σ' cls d w' H', RelSt C w' H' st' → RelE C w' H' σ' ρ' → Step w H (Own σ ρ) w' H' (Own σ' ρ') → RelX C w' H' cls d x → W cls d σ' H'
  | .bad => False
def tS (C : Ct) (W : WX) (m : M Fl) : TS := fun D σ H => ∃ w ρ st, tSW C W w ρ st m D σ H
abbrev DS (X : Cx) (W : WX) (s : Stmt) (m : M Fl) : Prop := PS X s (tS (ct X) W m)
abbrev DSs (X : Cx) (W : WX) (s : List Stmt) (m : M Fl) : Prop := PSs X s (tS (ct X) W m)
section
variable {C : Ct} {W : WX} {w : Wd} {ρ : Env} {st : Store} {σ : St} {H : Hp} {En : Ends}
/-- an expression's run ahead of a statement's -/
theorem tSW.bindE {α β : Type} {rel : Wd → β → α → Prop} {m : M α} {f : α → M Fl} (h : tSW C W w ρ st (Z.bind m f) En σ H) :
    tW C W rel w ρ st m σ H fun b H1 => ∃ a w1 ρ1 st1, m ρ st = .ok a ρ1 st1 ∧ rel w1 b a ∧ Step w H (Own σ ρ) w1 H1 (Own σ ρ1) ∧ tSW C W w1 ρ1 st1 (f a) En σ H1 := by
  obtain ⟨h1, h2, h3⟩ := h
  refine ⟨h1, h2, ?_⟩
  unfold Z.bind at h3
  cases e : m ρ st with
  | ok a ρ1 st1 =>
    rw [e] at h3
    intro b w1 H1 r1 r2 s1 rb
    refine ⟨a, w1, ρ1, st1, rfl, rb, s1, r1, r2, ?_⟩
    simp only at h3
    cases e2 : f a ρ1 st1 with
    | ok c ρ2 st2 =>
      rw [e2] at h3
      exact fun d w2 H2 q1 q2 s2 => h3 d w2 H2 q1 q2 (s1.trans s2)
    | exc x ρ2 st2 =>
      rw [e2] at h3
      exact fun σ' cls d w2 H2 q1 q2 s2 rx => h3 σ' cls d w2 H2 q1 q2 (s1.trans s2) rx
    | bad => rw [e2] at h3; exact h3
  | exc x ρ1 st1 =>
    rw [e] at h3
    exact fun cls d w2 H2 q1 q2 s2 rx => h3 σ cls d w2 H2 q1 q2 s2 rx
  | bad => rw [e] at h3; exact h3
theorem tSW.next (h : tSW C W w ρ st (Z.ret .next) En σ H) : En.nx σ H := h.2.2 σ w H h.1 h.2.1 Step.refl
theorem tSW.retV {d : D} {v : V} (h : tSW C W w ρ st (Z.ret (.ret d)) En σ H) (r : RelD C w.F w.L v d) : En.rt v H := h.2.2 σ w H h.1 h.2.1 Step.refl v r
/-- a target's store ahead of a statement's run -/
theorem tSW.bindT {t : Tg} {d : D} {f : Unit → M Fl} (h : tSW C W w ρ st (Z.bind (Z.bindT t d) f) En σ H) {v : V} (r : RelD C w.F w.L v d) :
    gM C t v σ H fun σ' H' => ∃ w1 ρ1 st1, Step w H (Own σ ρ) w1 H' (Own σ' ρ1) ∧ tSW C W w1 ρ1 st1 (f ()) En σ' H' := by
  obtain ⟨h1, h2, h3⟩ := h
  unfold Z.bind at h3
  cases e : Z.bindT t d ρ st with
  | ok u ρ1 st1 =>
    have e1 := bindT_st _ _ _ _ e
    subst e1
    refine ⟨w, ρ, st1, d, h1, h2, r, ρ1, e, fun σ' he' ho hk hl => ⟨w, ρ1, st1, Step.sub ho, h1, he', ?_⟩⟩
    rw [e] at h3
    simp only at h3
    cases e2 : f () ρ1 st1 with
    | ok c ρ2 st2 =>
      rw [e2] at h3
      exact fun d w2 H2 q1 q2 s2 => h3 d w2 H2 q1 q2 ((Step.sub ho).trans s2)
    | exc x ρ2 st2 =>
      rw [e2] at h3
      exact fun σ' cls d w2 H2 q1 q2 s2 rx => h3 σ' cls d w2 H2 q1 q2 ((Step.sub ho).trans s2) rx
    | bad => rw [e2] at h3; exact h3
  | exc x ρ1 st1 =>
    have : ∀ (t : Tg) (d : D) (ρ : Env) (st : Store) (x : D) (ρ1 : Env) (st1 : Store), Z.bindT t d ρ st ≠ .exc x ρ1 st1 := by
      intro t
      refine Tg.rec (motive_1 := fun t => ∀ (d : D) (ρ : Env) (st : Store) (x : D) (ρ1 : Env) (st1 : Store), Z.bindT t d ρ st ≠ .exc x ρ1 st1) (motive_2 := fun t => ∀ (d : List D) (ρ : Env) (st : Store) (x : D) (ρ1 : Env) (st1 : Store), Z.bindTs t d ρ st ≠ .exc x ρ1 st1) ?_ ?_ ?_ ?_ t
      · intro i d ρ st x ρ1 st1 e
        simp only [Z.bindT, setSl] at e
        split at e <;> cases e
      · intro ts ih d ρ st x ρ1 st1 e
        simp only [Z.bindT, Z.bind, viewM] at e
        cases e1 : itemsD (view st d) with
        | none => rw [e1] at e; cases e
        | some ds => rw [e1] at e; exact ih ds ρ st x ρ1 st1 e
      · intro d ρ st x ρ1 st1 e
        cases d <;> cases e
      · intro t r iht ihr d ρ st x ρ1 st1 e
        cases d with
        | nil => cases e
        | cons d ds =>
          simp only [bindTs, Z.bind] at e
          split at e
          · exact ihr _ _ _ _ _ _ e
          · rename_i e1
            exact iht _ _ _ _ _ _ e1
          · cases e
    exact absurd e (this _ _ _ _ _ _ _)
  | bad => rw [e] at h3; exact h3.elim
end
section
variable {X : Cx} {W : WX} {pos : Pos} {e : Expr} {me : M D} {s : Stmt} {ss : List Stmt} {m m' : M Fl}
def seqM (m m' : M Fl) : M Fl := bind m fun f => match f with | .next => m' | f => ret f
theorem tSW.seq {C : Ct} {w : Wd} {ρ : Env} {st : Store} {σ : St} {H : Hp} {D : Ends} (h : tSW C W w ρ st (seqM m m') D σ H) : tSW C W w ρ st m { D with nx := fun σ' H' => tS C W m' D σ' H' } σ H := by
  obtain ⟨h1, h2, h3⟩ := h
  refine ⟨h1, h2, ?_⟩
  unfold seqM bind at h3
  cases e : m ρ st with
  | ok f ρ1 st1 =>
    rw [e] at h3
    intro σ1 w1 H1 r1 r2 s1
    cases f with
    | next =>
      refine ⟨w1, ρ1, st1, r1, r2, ?_⟩
      simp only at h3
      cases e2 : m' ρ1 st1 with
      | ok c ρ2 st2 =>
        rw [e2] at h3
        exact fun d w2 H2 q1 q2 s2 => h3 d w2 H2 q1 q2 (s1.trans s2)
      | exc x ρ2 st2 =>
        rw [e2] at h3
        exact fun σ' cls d w2 H2 q1 q2 s2 rx => h3 σ' cls d w2 H2 q1 q2 (s1.trans s2) rx
      | bad => rw [e2] at h3; exact h3
    | brk => exact h3 σ1 w1 H1 r1 r2 s1
    | cnt => exact h3 σ1 w1 H1 r1 r2 s1
    | ret d => exact h3 σ1 w1 H1 r1 r2 s1
  | exc x ρ1 st1 => rw [e] at h3; exact h3
  | bad => rw [e] at h3; exact h3
theorem dss_nil : DSs X W [] (ret .next) := pss_nil.imp fun D σ H ⟨w, ρ, st, h⟩ => h.next
theorem dss_cons (h1 : DS X W s m) (h2 : DSs X W ss m') : DSs X W (s :: ss) (seqM m m') :=
  (pss_cons h1 h2).imp fun D σ H ⟨w, ρ, st, h⟩ => ⟨w, ρ, st, h.seq⟩
theorem ds_expr (h : DE X W e me) (hs : swapsWith e none pos.line X.env = pure false) : DS X W (.Expr e pos) (bind me fun _ => ret .next) :=
  (ps_expr h hs).imp fun D σ H ⟨w, ρ, st, h⟩ => ⟨w, ρ, st, (h.bindE (rel := rD (ct X))).imp fun b H1 ⟨a, w1, ρ1, st1, _, r, _, q⟩ => q.next⟩
theorem ds_ret (h : DE X W e me) : DS X W (.Return (some e) pos) (bind me fun d => ret (.ret d)) :=
  (ps_ret h).imp fun D σ H ⟨w, ρ, st, h⟩ => ⟨w, ρ, st, (h.bindE (rel := rD (ct X))).imp fun b H1 ⟨a, w1, ρ1, st1, _, r, _, q⟩ => q.retV r⟩
theorem ds_retN : DS X W (.Return none pos) (ret (.ret .non)) := ps_retN.imp fun D σ H ⟨w, ρ, st, h⟩ => h.retV .non
theorem ds_pass : DS X W (.Pass pos) (ret .next) := ps_pass.imp fun D σ H ⟨w, ρ, st, h⟩ => h.next
theorem ds_brk : DS X W (.Break pos) (ret .brk) := ps_break.imp fun D σ H ⟨w, ρ, st, h⟩ => h.2.2 σ w H h.1 h.2.1 Step.refl
theorem ds_cnt : DS X W (.Continue pos) (ret .cnt) := ps_continue.imp fun D σ H ⟨w, ρ, st, h⟩ => h.2.2 σ w H h.1 h.2.1 Step.refl
theorem ds_doc {x : Str} {k : Nat} {p : Pos} : DS X W (.Expr (.Constant (.str x) k p) pos) (ret .next) := ps_doc.imp fun D σ H ⟨w, ρ, st, h⟩ => h.next
theorem ds_ite {c : Expr} {mc : M Bool} {a b : List Stmt} {ma mb : M Fl} (hc : DT X W c mc) (ha : DSs X W a ma) (hb : DSs X W b mb) : DS X W (.If c a b pos) (bind mc fun t => if t then ma else mb) :=
  (ps_if hc ha hb).imp fun D σ H ⟨w, ρ, st, h⟩ => ⟨w, ρ, st, (h.bindE (rel := rB)).imp fun t H1 ⟨t', w1, ρ1, st1, _, r, _, q⟩ => by
    cases r
    cases t with
    | true => exact ⟨w1, ρ1, st1, q⟩
    | false => exact ⟨w1, ρ1, st1, q⟩⟩
/-- target = e -/
theorem ds_asg {tg : Expr} {t : Tg} (h : DE X W e me) (hg : PG X tg (gM (ct X) t)) (hs : swapsWithSole [tg] e pos.line X.env = pure false) (hw : swappedStores [tg] e X.env = pure none) (h1 : (assignEach [tg] X.env).map (·.2) = [assign tg X.env]) :
    DS X W (.Assign [tg] e pos) (bind me fun d => bind (bindT t d) fun _ => ret .next) :=
  (ps_asg h hg hs hw h1).imp fun D σ H ⟨w, ρ, st, h⟩ => ⟨w, ρ, st, (h.bindE (rel := rD (ct X))).imp fun v H1 ⟨d, w1, ρ1, st1, _, r, _, q⟩ => by
    obtain ⟨w2, ρ2, st2, d2, b1, b2, b3, ρ', b4, b5⟩ := q.bindT r
    exact ⟨w2, ρ2, st2, d2, b1, b2, b3, ρ', b4, fun σ' c1 c2 c3 c4 => by
      obtain ⟨w3, ρ3, st3, _, q⟩ := b5 σ' c1 c2 c3 c4
      exact q.next⟩⟩
end
end Z

/-! Z10: what is changed; loops. -/
namespace Z
open PySem PySem.Spec L2
open PyProof.Rows hiding St

section
variable {C : Ct} {W : WX} {α β γ δ : Type} {rel : Wd → β → α → Prop} {rel2 : Wd → δ → γ → Prop} {w : Wd} {ρ : Env} {st : Store} {σ : St} {H : Hp}
/-- the list of a local -/
theorem tW.cellAt {i : Nat} {f : Unit → M γ} {Q : δ → Hp → Prop} (h : tW C W rel2 w ρ st (Z.bind (Z.cellAt i) f) σ H Q) :
    ∃ a vs, σ[i]? = some (some (.ref a)) ∧ H a = some (.lst vs) ∧ tW C W rel2 w ρ st (f ()) σ H Q := by
  obtain ⟨hs, he, h3⟩ := h
  unfold Z.bind Z.cellAt at h3
  cases e : ρ[i]? with
  | none => rw [e] at h3; exact h3.elim
  | some sl =>
    rw [e] at h3
    cases sl with
    | un => exact h3.elim
    | own c =>
      cases c with
      | lst xs =>
        obtain ⟨a, e1, ⟨vs, rc, _⟩, _⟩ := he.own i _ e
        exact ⟨a, vs, e1, rc, hs, he, h3⟩
      | _ => exact h3.elim
    | val d =>
      cases d with
      | ref l =>
        cases e2 : st[l]? with
        | none => simp only [e2] at h3
        | some c =>
          simp only [e2] at h3
          cases c with
          | lst xs =>
            obtain ⟨v, e1, r⟩ := he.val i _ e
            cases r with
            | ref hl =>
              obtain ⟨vs, rc, _⟩ := hs.cell l _ _ e2 hl
              exact ⟨_, vs, e1, rc, hs, he, h3⟩
          | _ => exact h3.elim
      | _ => exact h3.elim
/-- an object of ours gets a new content -/
theorem upd_own {i : Nat} {c c' : Cell} {a : Addr} {o : HO} (hs : RelSt C w H st) (he : RelE C w H σ ρ) (e : ρ[i]? = some (.own c)) (ea : σ[i]? = some (some (.ref a))) (rc : RelC C w (upd H a o) a c') :
    RelSt C w (upd H a o) st ∧ RelE C w (upd H a o) σ (ρ.set i (.own c')) ∧ Step w H (Own σ ρ) w (upd H a o) (Own σ (ρ.set i (.own c'))) := by
  obtain ⟨a', e1, r1, hf, hl⟩ := he.own i c e
  rw [ea] at e1
  cases e1
  have hil : i < ρ.length := (List.getElem?_eq_some_iff.mp e).1
  have k : ∀ x u, x ≠ a → H x = some u → upd H a o x = some u := fun x u z h => by rw [upd_ne z]; exact h
  refine ⟨⟨hs.len, hs.nd, fun x u h => k x u (fun z => by rw [z, hf] at h; cases h) (hs.fh x u h), hs.fl, fun l d x h1 h2 => (hs.cell l d x h1 h2).mono (Gr.refl w) fun u => k x u fun z => hl (by rw [← z]; exact List.mem_of_getElem? h2)⟩,
    ⟨by simpa using he.len, fun j d h => ?_, fun j d h => ?_, fun j m c1 c2 x h1 h2 h3 h4 => ?_⟩, ⟨Gr.refl w, fun x u h _ z => k x u (fun q => z ⟨i, c, e, by rw [q]; exact ea⟩) h, fun _ _ h => .inl h, fun _ h => .inl h, fun x h => .inl ?_, fun x h => ?_⟩⟩
  · by_cases hj : i = j
    · subst hj
      rw [List.getElem?_set_self hil] at h; cases h
    · rw [List.getElem?_set_ne hj] at h
      exact he.val j d h
  · by_cases hj : i = j
    · subst hj
      rw [List.getElem?_set_self hil] at h
      cases h
      exact ⟨a, ea, rc, hf, hl⟩
    · rw [List.getElem?_set_ne hj] at h
      obtain ⟨b, h1, h2, h3, h4⟩ := he.own j d h
      exact ⟨b, h1, h2.mono (Gr.refl w) (fun u => k b u fun z => hj (he.ap i j c d a e h ea (by rw [← z]; exact h1))), h3, h4⟩
  · have pre : ∀ {n : Nat} {c3 : Cell}, (ρ.set i (.own c'))[n]? = some (.own c3) → ∃ c4, ρ[n]? = some (.own c4) := fun {n c3} hn => by
      by_cases hj : i = n
      · subst hj; exact ⟨c, e⟩
      · rw [List.getElem?_set_ne hj] at hn; exact ⟨c3, hn⟩
    obtain ⟨c4, p1⟩ := pre h1
    obtain ⟨c5, p2⟩ := pre h2
    exact he.ap j m c4 c5 x p1 p2 h3 h4
  · obtain ⟨j, d, h1, h2⟩ := h
    by_cases hj : i = j
    · subst hj; exact ⟨i, c, e, h2⟩
    · rw [List.getElem?_set_ne hj] at h1; exact ⟨j, d, h1, h2⟩
  · by_cases q : x = a
    · rw [q, upd_same] at h; cases h
    · rw [upd_ne q] at h; exact h
/-- a cell gets a new content -/
theorem upd_cell {l : Nat} {c c' : Cell} {a : Addr} {o : HO} (hs : RelSt C w H st) (he : RelE C w H σ ρ) (e : st[l]? = some c) (ea : w.L[l]? = some a) (rc : RelC C w (upd H a o) a c') :
    RelSt C w (upd H a o) (st.set l c') ∧ RelE C w (upd H a o) σ ρ ∧ Step w H (Own σ ρ) w (upd H a o) (Own σ ρ) := by
  have hm : a ∈ w.L := List.mem_of_getElem? ea
  have hf := hs.fl a hm
  have hll : l < st.length := (List.getElem?_eq_some_iff.mp e).1
  have k : ∀ x u, x ≠ a → H x = some u → upd H a o x = some u := fun x u z h => by rw [upd_ne z]; exact h
  refine ⟨⟨by simpa using hs.len, hs.nd, fun x u h => k x u (fun z => by rw [z, hf] at h; cases h) (hs.fh x u h), hs.fl, fun m d x h1 h2 => ?_⟩, ⟨he.len, he.val, fun j d h => ?_, he.ap⟩, ⟨Gr.refl w, fun x u h hl _ => k x u (fun q => hl (by rw [q]; exact hm)) h, fun _ _ h => .inl h, fun _ h => .inl h, fun x h => .inl h, fun x h => ?_⟩⟩
  · by_cases hj : l = m
    · subst hj
      rw [List.getElem?_set_self hll] at h1
      cases h1
      rw [ea] at h2
      cases h2
      exact rc
    · rw [List.getElem?_set_ne hj] at h1
      refine (hs.cell m d x h1 h2).mono (Gr.refl w) fun u => k x u fun z => hj ?_
      obtain ⟨q1, q2⟩ := List.getElem?_eq_some_iff.mp ea
      obtain ⟨q3, q4⟩ := List.getElem?_eq_some_iff.mp h2
      exact (List.getElem_inj hs.nd).mp (by rw [q2, q4, z])
  · obtain ⟨b, h1, h2, h3, h4⟩ := he.own j d h
    exact ⟨b, h1, h2.mono (Gr.refl w) (fun u => k b u fun z => h4 (by rw [z]; exact hm)), h3, h4⟩
  · by_cases q : x = a
    · rw [q, upd_same] at h; cases h
    · rw [upd_ne q] at h; exact h
/-- a local's object is changed -/
theorem tW.up {i : Nat} {f : Cell → Option (Cell × α)} {Q : β → Hp → Prop} (h : tW C W rel w ρ st (upM i f) σ H Q) :
    ∃ a c c' x, σ[i]? = some (some (.ref a)) ∧ RelC C w H a c ∧ f c = some (c', x) ∧ ∀ o b, RelC C w (upd H a o) a c' → rel w b x → Q b (upd H a o) := by
  obtain ⟨hs, he, h3⟩ := h
  unfold upM at h3
  cases e : ρ[i]? with
  | none => rw [e] at h3; exact h3.elim
  | some sl =>
    rw [e] at h3
    cases sl with
    | un => exact h3.elim
    | own c =>
      obtain ⟨a, e1, rc, _⟩ := he.own i _ e
      simp only at h3
      cases ef : f c with
      | none => rw [ef] at h3; exact h3.elim
      | some p =>
        obtain ⟨c', x⟩ := p
        rw [ef] at h3
        refine ⟨a, c, c', x, e1, rc, ef, fun o b r' rb => ?_⟩
        obtain ⟨a1, a2, a3⟩ := upd_own hs he e e1 r'
        exact h3 b w _ a1 a2 a3 rb
    | val d =>
      cases d with
      | ref l =>
        cases e2 : st[l]? with
        | none => simp only [e2] at h3
        | some c =>
          simp only [e2] at h3
          obtain ⟨v, e1, r⟩ := he.val i _ e
          cases r with
          | @ref a _ hl =>
            have rc := hs.cell l _ _ e2 hl
            cases ef : f c with
            | none => rw [ef] at h3; exact h3.elim
            | some p =>
              obtain ⟨c', x⟩ := p
              rw [ef] at h3
              refine ⟨a, c, c', x, e1, rc, ef, fun o b r' rb => ?_⟩
              obtain ⟨a1, a2, a3⟩ := upd_cell hs he e2 hl r'
              exact h3 b w _ a1 a2 a3 rb
      | _ => exact h3.elim
/-- a local's content -/
theorem tW.peek {i : Nat} {f : D → M γ} {Q : δ → Hp → Prop} (h : tW C W rel2 w ρ st (Z.bind (Z.peek i) f) σ H Q) :
    ∃ v x, σ[i]? = some (some v) ∧ Sees C w H v x ∧ tW C W rel2 w ρ st (f x) σ H Q := by
  obtain ⟨hs, he, h3⟩ := h
  unfold Z.bind Z.peek at h3
  cases e : ρ[i]? with
  | none => rw [e] at h3; exact h3.elim
  | some sl =>
    rw [e] at h3
    cases sl with
    | un => exact h3.elim
    | own c =>
      obtain ⟨a, e1, rc, _⟩ := he.own i _ e
      exact ⟨_, _, e1, rc.sees, hs, he, h3⟩
    | val d =>
      obtain ⟨v, e1, r⟩ := he.val i _ e
      exact ⟨v, _, e1, sees hs r, hs, he, h3⟩
end
section
variable {X : Cx} {W : WX} {pos : Pos} {b : Expr} {mb : M D} {i : Nat} {x : Str} {p : Pos}
structure Nm (X : Cx) (i : Nat) (x : Str) : Prop where
  n : X.N[i]? = some x
  v : Vis X.env.scope x
  d : (x == ("__debug__" : Str)) = false
  c : (x == ("__classdict__" : Str)) = false
theorem Nm.pe (h : Nm X i x) : PE X (.Name x p) (tVar i) := pe_var h.n h.v h.d h.c
/-- an item of a local's list -/
theorem de_subV (n : Nm X i x) (hb : DE X W b mb) (hs : PlainIx b) : DE X W (.Subscript (.Name x p) b pos) (bind (peek i) fun _ => bind mb fun y => bind (peek i) fun x => opt (subD x y)) :=
  (pe_ix sub_D n.pe hb hs).imp fun σ H Q ⟨w, ρ, st, h⟩ => by
    obtain ⟨v, x0, e1, _, h⟩ := h.peek
    refine ⟨v, e1, w, ρ, st, h.bind.imp fun u H1 ⟨y, w1, ρ1, st1, r, _, q⟩ => ?_⟩
    obtain ⟨v', x1, e2, s1, q⟩ := q.peek
    rw [e1] at e2
    cases e2
    obtain ⟨z, e, q⟩ := q.opt
    have hy : view st1 y = y := by cases y <;> first | rfl | simp [subD] at e
    exact ⟨w1, x1, y, z, s1, hy ▸ sees q.1 r, q.1.fh, e, gives_of q⟩
theorem de_biV {f : BI} {y : Str} {p2 : Pos} (hn : BName X y (biV f)) (hc : X.calm = true) (n : Nm X i x) (hs : NoStar X (.Name x p)) :
    DE X W (.Call (.Name y p2) [.Name x p] [] pos) (bind (peek i) fun x => opt (biD f x)) :=
  (callV hn (biV_ty f) (bi_D f hc) (pa_cons n.pe pa_nil (hs [])) (hs []) rfl).imp fun σ H Q ⟨w, ρ, st, h⟩ => by
    obtain ⟨v, x1, e1, s1, q⟩ := h.peek
    obtain ⟨z, e, q⟩ := q.opt
    exact ⟨v, e1, w, v, x1, z, rfl, s1, q.1.fh, e, gives_of q⟩
def cmpVM (op : CmpOp) (i : Nat) (mb : M D) : M Bool := bind (peek i) fun _ => bind mb fun y => bind (peek i) fun x => bind (viewM y) fun y => opt (cmpD op x y)
theorem cmpV_read {op : CmpOp} {σ : St} {H : Hp} {Q : Bool → Hp → Prop} (h : tM (ct X) W rB (cmpVM op i mb) σ H Q) :
    tVar i σ H fun v H1 => tM (ct X) W (rD (ct X)) mb σ H1 fun u H2 => ∃ w x y z, Sees (ct X) w H2 v x ∧ Sees (ct X) w H2 u y ∧ (∀ a o, w.F a = some o → H2 a = some o) ∧ cmpD op x y = some z ∧ Q z H2 := by
  obtain ⟨w, ρ, st, h⟩ := h
  obtain ⟨v, x0, e1, _, h⟩ := h.peek
  refine ⟨v, e1, w, ρ, st, h.bind.imp fun u H1 ⟨y, w1, ρ1, st1, r, _, q⟩ => ?_⟩
  obtain ⟨v', x1, e2, s1, q⟩ := q.peek
  rw [e1] at e2
  cases e2
  obtain ⟨z, e, q⟩ := q.viewBind.opt
  exact ⟨w1, x1, _, z, s1, sees q.1 r, q.1.fh, e, q.ret rfl⟩
theorem de_cmpV {op : CmpOp} (hu : X.A.units + 64 < cLine) (n : Nm X i x) (hb : DE X W b mb) (hm : behindInMarks op b = false) :
    DE X W (.Compare (.Name x p) [op] [b] pos) (bind (cmpVM op i mb) fun t => ret (.bl t)) :=
  dt_bl ((pe_cmpR (cm_D op hu) n.pe hb hm).imp fun σ H Q h => cmpV_read h)
theorem dt_cmpV {op : CmpOp} (hu : X.A.units + 64 < cLine) (n : Nm X i x) (hb : DE X W b mb) (hm : behindInMarks op b = false) :
    DT X W (.Compare (.Name x p) [op] [b] pos) (testM (bind (cmpVM op i mb) fun t => ret (.bl t))) := by
  rw [testM_bl]
  refine (pt_cmpR (cm_D op hu) n.pe hb hm).imp fun σ H Q h => ?_
  obtain ⟨v, e, h⟩ := cmpV_read h
  exact ⟨v, e, h.imp fun u H2 ⟨w, x, y, z, h1, h2, h3, h4, h5⟩ => ⟨w, x, y, z, h1, h2, h3, h4, z, rfl, h5⟩⟩
end
end Z

/-! Z11: methods, stores, loops. -/
namespace Z
open PySem PySem.Spec L2
open PyProof.Rows hiding St

theorem bind_assoc {α β γ : Type} (m : M α) (f : α → M β) (g : β → M γ) : bind (bind m f) g = bind m fun a => bind (f a) g := by
  funext ρ st
  simp only [bind]
  cases m ρ st with
  | ok a ρ' st' => rfl
  | exc => rfl
  | bad => rfl
section
variable {X : Cx} {W : WX} {pos apos : Pos} {b e : Expr} {es : List Expr} {mb me : M D} {ms : M (List D)} {mc : M Cell} {i : Nat} {x : Str} {p : Pos}
/-- the facts of a method's call, but the method -/
structure Mcall (X : Cx) (x : Str) (p : Pos) (name : Str) (apos cpos : Pos) : Prop where
  base : attributeBase (.Name x p) name X.env (eval (.Name x p) X.env) = eval (.Name x p) X.env
  line : (apos.endLine == cpos.line) = true
theorem ty_lst {K : PySem.W.Frag} {a : Addr} {H : Hp} {vs : List V} (h : H a = some (.lst vs)) : tyV K "list" (.ref a) H := .inl ⟨rfl, _, SqL.of h⟩
abbrev rU : Wd → V → Unit → Prop := fun _ v _ => v = .non
theorem rel1 {C : Ct} {F : Hp} {L : List Addr} {vs : List V} {d : D} (r : RelDs C F L vs [d]) : ∃ v, vs = [v] ∧ RelD C F L v d := by
  cases r with
  | cons h r => cases r; exact ⟨_, rfl, h⟩
/-- the list's method with one argument -/
theorem pe_append (n : Nm X i x) (k : Mcall X x p "append" apos pos) (ha : DEs X W [e] ms) (hs : NoStar X e) :
    PE X (.Call (.Attribute (.Name x p) "append" apos) [e] [] pos) (tM (ct X) W rU (bind (cellAt i) fun _ => bind ms fun ds => upM i (mtC .append ds))) :=
  (pe_bm PySem.F.plainAttrs_list PySem.F.slot_list_append PySem.F.type_list_append mt_append n.pe ha k.base (by rw [hs []]; rfl) k.line (hs []) rfl).imp fun σ H Q ⟨w, ρ, st, h⟩ => by
    obtain ⟨a, vs, e1, e2, h⟩ := h.cellAt
    refine ⟨_, e1, ty_lst e2, w, ρ, st, h.bind.imp fun us H1 ⟨ds, w1, ρ1, st1, r, _, q⟩ => ?_⟩
    obtain ⟨a', c, c', u, f1, rc, f2, q⟩ := q.up
    rw [e1] at f1
    cases f1
    cases c with
    | lst xs =>
      obtain ⟨zs, g1, g2⟩ := rc
      cases ds with
      | nil => simp [mtC] at f2
      | cons d ds =>
        cases ds with
        | cons _ _ => simp [mtC] at f2
        | nil =>
          obtain ⟨v, rfl, rv⟩ := rel1 r
          simp only [mtC] at f2
          split at f2
          · rename_i hl
            cases f2
            refine ⟨a, zs, v, rfl, rfl, g1, by rw [g2.length, ← line_eq]; exact hl, q _ _ ⟨_, upd_same, g2.append (.cons rv .nil)⟩ rfl⟩
          · cases f2
    | _ => exact rc.elim
theorem pe_reverse (n : Nm X i x) (k : Mcall X x p "reverse" apos pos) :
    PE X (.Call (.Attribute (.Name x p) "reverse" apos) [] [] pos) (tM (ct X) W rU (bind (cellAt i) fun _ => bind (ret []) fun ds => upM i (mtC .reverse ds))) :=
  (pe_bm0 PySem.F.plainAttrs_list PySem.F.slot_list_reverse PySem.F.type_list_reverse mt_reverse n.pe k.base k.line).imp fun σ H Q ⟨w, ρ, st, h⟩ => by
    obtain ⟨a, vs, e1, e2, h⟩ := h.cellAt
    have h : tW (ct X) W rU w ρ st (upM i (mtC .reverse [])) σ H Q := h
    obtain ⟨a', c, c', u, f1, rc, f2, q⟩ := h.up
    rw [e1] at f1
    cases f1
    cases c with
    | lst xs =>
      obtain ⟨zs, g1, g2⟩ := rc
      simp only [mtC] at f2
      cases f2
      exact ⟨_, e1, ty_lst e2, a, zs, rfl, rfl, g1, q _ _ ⟨_, upd_same, g2.reverse⟩ rfl⟩
    | _ => exact rc.elim
theorem ds_mth {m : M Unit} (h : PE X e (tM (ct X) W rU m)) (hs : swapsWith e none pos.line X.env = pure false) : DS X W (.Expr e pos) (bind m fun _ => ret .next) :=
  (ps_expr h hs).imp fun D σ H ⟨w, ρ, st, h⟩ => ⟨w, ρ, st, (h.bindE (rel := rU)).imp fun b H1 ⟨a, w1, ρ1, st1, _, r, _, q⟩ => q.next⟩
/-- x.pop() -/
theorem de_pop0 (n : Nm X i x) (k : Mcall X x p "pop" apos pos) :
    DE X W (.Call (.Attribute (.Name x p) "pop" apos) [] [] pos) (bind (cellAt i) fun _ => bind (ret none) fun k => upM i (popS k)) :=
  (pe_bm0 PySem.F.plainAttrs_list PySem.F.slot_list_pop PySem.F.type_list_pop mt_pop n.pe k.base k.line).imp fun σ H Q ⟨w, ρ, st, h⟩ => by
    obtain ⟨a, vs, e1, e2, h⟩ := h.cellAt
    have h : tW (ct X) W (rD (ct X)) w ρ st (upM i (popS none)) σ H Q := h
    obtain ⟨a', c, c', u, f1, rc, f2, q⟩ := h.up
    rw [e1] at f1
    cases f1
    cases c with
    | lst xs =>
      obtain ⟨zs, g1, g2⟩ := rc
      simp only [popS, popC] at f2
      split at f2
      · rename_i y hy
        cases f2
        obtain ⟨v, hv, rv⟩ := g2.get hy
        exact ⟨_, e1, ty_lst e2, a, zs, v, rfl, rfl, g1, by rw [g2.length]; exact hv, q _ _ ⟨_, upd_same, g2.dropLast⟩ rv⟩
      · cases f2
    | _ => exact rc.elim
theorem ixN_small {n : Nat} {i : Int} {j : Nat} (h : ixN n i = some j) (hn : n ≤ sizeLine) : -(2 ^ 63) ≤ i ∧ i < 2 ^ 63 := by
  obtain ⟨_, h2, h3, h4⟩ := ixN_seq (ix_eq (n := n) (i := i) ▸ h)
  have e : (sizeLine : Nat) = 16777216 := rfl
  omega
/-- x.pop(k), k small -/
theorem de_pop1 (n : Nm X i x) (k : Mcall X x p "pop" apos pos) (hb : DE X W b mb) (hs : NoStar X b) :
    DE X W (.Call (.Attribute (.Name x p) "pop" apos) [b] [] pos) (bind (cellAt i) fun _ => bind (bind mb fun d => match d with | .int i => ret (some i) | _ => bad) fun k => upM i (popS k)) :=
  (pe_bm PySem.F.plainAttrs_list PySem.F.slot_list_pop PySem.F.type_list_pop mt_popAt n.pe (pa_cons hb pa_nil (hs [])) k.base (by rw [hs []]; rfl) k.line (hs []) rfl).imp fun σ H Q ⟨w, ρ, st, h⟩ => by
    obtain ⟨a, vs, e1, e2, h⟩ := h.cellAt
    rw [bind_assoc] at h
    refine ⟨_, e1, ty_lst e2, w, ρ, st, (h.bind (rel := rD (ct X))).imp fun v H1 ⟨d, w1, ρ1, st1, r, _, q⟩ => ?_⟩
    cases r with
    | int k =>
      have q : tW (ct X) W (rD (ct X)) w1 ρ1 st1 (upM i fun c => popS (some k) c) σ H1 Q := q
      obtain ⟨a', c, c', u, f1, rc, f2, q⟩ := q.up
      rw [e1] at f1
      cases f1
      unfold popS at f2
      simp only at f2
      split at f2
      · rename_i hsm
        cases c with
        | lst xs =>
          obtain ⟨zs, g1, g2⟩ := rc
          simp only [popC] at f2
          split at f2
          · rename_i j hj
            split at f2
            · rename_i y hy
              cases f2
              obtain ⟨v, hv, rv⟩ := g2.get hy
              obtain ⟨s1, s2⟩ := small_d hsm
              exact ⟨a, zs, k, j, v, rfl, rfl, g1, by omega, by omega, by rw [g2.length]; exact (ixN_seq (ix_eq (n := xs.length) (i := k) ▸ hj)).1, hv, q _ _ ⟨_, upd_same, g2.eraseIdx j⟩ rv⟩
            · cases f2
          · cases f2
        | _ => exact rc.elim
      · cases f2
    | _ => exact q.2.2.elim
/-- x[k] = e -/
theorem ds_set {pn pt : Pos} (n : Nm X i x) (he : DE X W e me) (hb : DE X W b mb) (hs : swapsWithSole [.Subscript (.Name x pn) b pt] e pos.line X.env = pure false) (hw : swappedStores [.Subscript (.Name x pn) b pt] e X.env = pure none)
    (h1 : (assignEach [.Subscript (.Name x pn) b pt] X.env).map (·.2) = [assign (.Subscript (.Name x pn) b pt) X.env])
    (ha : ∀ v, assign (.Subscript (.Name x pn) b pt) X.env v = (do
      let ov ← holding [v] (eval (.Name x pn) X.env)
      let iv ← holding [v, ov] (eval b X.env)
      standAt pt
      holding [v, ov, iv] (setItem ov iv v)
      release [v, ov, iv] [])) :
    DS X W (.Assign [.Subscript (.Name x pn) b pt] e pos) (bind (bind me fun d => bind (cellAt i) fun _ => bind mb fun k => upM i (setC k d)) fun _ => ret .next) :=
  (ps_asg he (pg_sub n.pe hb set_list ha) hs hw h1).imp fun D σ H ⟨w, ρ, st, h⟩ => by
    have h := (h.bindE (rel := rU)).imp (Q' := fun _ H1 => D.nx σ H1) fun b H1 ⟨a, w1, ρ1, st1, _, r, _, q⟩ => q.next
    refine ⟨w, ρ, st, (h.bind (rel := rD (ct X))).imp fun v H1 ⟨d, w1, ρ1, st1, r, _, h⟩ => ?_⟩
    obtain ⟨a, vs, e1, e2, h⟩ := h.cellAt
    refine ⟨_, e1, w1, ρ1, st1, (h.bind (rel := rD (ct X))).imp fun u H2 ⟨kd, w2, ρ2, st2, r2, s2, q⟩ => ?_⟩
    obtain ⟨a', c, c', y, f1, rc, f2, q⟩ := q.up
    rw [e1] at f1
    cases f1
    cases c with
    | lst xs =>
      obtain ⟨zs, g1, g2⟩ := rc
      cases r2 with
      | int k =>
        simp only [setC] at f2
        split at f2
        · rename_i j hj
          cases f2
          exact ⟨a, zs, k, j, rfl, rfl, g1, by rw [g2.length, ← ix_eq]; exact hj, q _ _ ⟨_, upd_same, RelDs.set (RelD.mono s2.gr r) j g2⟩ rfl⟩
        · cases f2
      | _ => simp [setC] at f2
    | _ => exact rc.elim
end
end Z

/-! Z12: loops; stores of objects of one's own. -/
namespace Z
open PySem PySem.Spec L2
open PyProof.Rows hiding St

def kL (rest : M Fl) : Fl → M Fl
  | .next => rest
  | .cnt => rest
  | .brk => ret .next
  | .ret d => ret (.ret d)
section
variable {C : Ct} {W : WX} {w w2 : Wd} {ρ : Env} {st : Store} {σ : St} {H H2 : Hp} {En : Ends}
/-- the run is begun a little later -/
theorem tSW.shift {m : M Fl} (h : tSW C W w ρ st m En σ H) (r1 : RelSt C w2 H2 st) (r2 : RelE C w2 H2 σ ρ) (s : Step w H (Own σ ρ) w2 H2 (Own σ ρ)) : tSW C W w2 ρ st m En σ H2 := by
  obtain ⟨h1, h2, h3⟩ := h
  refine ⟨r1, r2, ?_⟩
  split at h3
  · exact fun σ' w' H' q1 q2 s2 => h3 σ' w' H' q1 q2 (s.trans s2)
  · exact fun σ' cls d w' H' q1 q2 s2 rx => h3 σ' cls d w' H' q1 q2 (s.trans s2) rx
  · exact h3
/-- a body's run in a loop -/
theorem tSW.body {mb : M Fl} {rest : M Fl} (h : tSW C W w ρ st (bind mb (kL rest)) En σ H) : tSW C W w ρ st mb { En with
      nx := fun σ' H' => ∃ w' ρ' st', tSW C W w' ρ' st' rest En σ' H' ∧ Gr w w'
      ct := fun σ' H' => ∃ w' ρ' st', tSW C W w' ρ' st' rest En σ' H' ∧ Gr w w'
      bk := En.nx } σ H := by
  obtain ⟨h1, h2, h3⟩ := h
  refine ⟨h1, h2, ?_⟩
  unfold Z.bind at h3
  have go : ∀ {ρ1 : Env} {st1 : Store} {σ1 : St} {w1 : Wd} {H1 : Hp}, RelSt C w1 H1 st1 → RelE C w1 H1 σ1 ρ1 → Step w H (Own σ ρ) w1 H1 (Own σ1 ρ1) →
      (match rest ρ1 st1 with
      | .ok f ρ' st' => ∀ σ' w' H', RelSt C w' H' st' → RelE C w' H' σ' ρ' → Step w H (Own σ ρ) w' H' (Own σ' ρ') → f.wants (C := C) En σ' w' H'
      | .exc x ρ' st' => ∀ σ' cls d w' H', RelSt C w' H' st' → RelE C w' H' σ' ρ' → Step w H (Own σ ρ) w' H' (Own σ' ρ') → RelX C w' H' cls d x → W cls d σ' H'
      | .bad => False) → ∃ w' ρ' st', tSW C W w' ρ' st' rest En σ1 H1 ∧ Gr w w' := by
    intro ρ1 st1 σ1 w1 H1 r1 r2 s1 q
    refine ⟨w1, ρ1, st1, ⟨r1, r2, ?_⟩, s1.gr⟩
    cases e2 : rest ρ1 st1 with
    | ok c ρ2 st2 =>
      rw [e2] at q
      exact fun d w2 H2 q1 q2 s2 => q d w2 H2 q1 q2 (s1.trans s2)
    | exc x ρ2 st2 =>
      rw [e2] at q
      exact fun σ' cls d w2 H2 q1 q2 s2 rx => q σ' cls d w2 H2 q1 q2 (s1.trans s2) rx
    | bad => rw [e2] at q; exact q
  cases e : mb ρ st with
  | ok f ρ1 st1 =>
    rw [e] at h3
    intro σ1 w1 H1 r1 r2 s1
    cases f with
    | next =>
      simp only [kL] at h3
      exact go r1 r2 s1 h3
    | cnt =>
      simp only [kL] at h3
      exact go r1 r2 s1 h3
    | brk =>
      simp only [kL, ret] at h3
      exact h3 σ1 w1 H1 r1 r2 s1
    | ret d =>
      simp only [kL, ret] at h3
      exact h3 σ1 w1 H1 r1 r2 s1
  | exc x ρ1 st1 => rw [e] at h3; exact h3
  | bad => rw [e] at h3; exact h3
end
section
variable {X : Cx} {W : WX} {pos : Pos} {tg iter e : Expr} {me mb : M D} {mi : M (List D)} {t : Tg} {body : List Stmt} {mf : M Fl}
def goFor (t : Tg) (mf : M Fl) (x : D) : M Fl := bind (bindT t x) fun _ => mf
theorem for_read {σ : St} {H : Hp} {D : Ends} (h : tS (ct X) W (bind mi fun xs => loopF (goFor t mf) xs) D σ H) : tFor (tI (ct X) W mi) (gM (ct X) t) (tS (ct X) W mf) D σ H := by
  obtain ⟨w, ρ, st, h1, h2, h3⟩ := h
  refine ⟨w, ρ, st, h1, h2, ?_⟩
  unfold Z.bind at h3
  cases e : mi ρ st with
  | exc x ρ1 st1 => rw [e] at h3; exact fun cls d w' H' a1 a2 a3 a4 => h3 σ cls d w' H' a1 a2 a3 a4
  | bad => rw [e] at h3; exact h3
  | ok xs ρ1 st1 =>
    rw [e] at h3
    intro J w1 H1 r1 r2 s1 itok
    have start : tSW (ct X) W w1 ρ1 st1 (loopF (goFor t mf) (xs.drop 0)) D σ H1 := by
      refine ⟨r1, r2, ?_⟩
      rw [List.drop_zero]
      simp only at h3
      cases e2 : loopF (goFor t mf) xs ρ1 st1 with
      | ok c ρ2 st2 =>
        rw [e2] at h3
        exact fun d w2 H2 q1 q2 s2 => h3 d w2 H2 q1 q2 (s1.trans s2)
      | exc x ρ2 st2 =>
        rw [e2] at h3
        exact fun σ' cls d w2 H2 q1 q2 s2 rx => h3 σ' cls d w2 H2 q1 q2 (s1.trans s2) rx
      | bad => rw [e2] at h3; exact h3
    refine ⟨fun i m σ' H' => m = xs.length - i ∧ i ≤ xs.length ∧ ∃ w' ρ' st', tSW (ct X) W w' ρ' st' (loopF (goFor t mf) (xs.drop i)) D σ' H' ∧ Gr w1 w', ⟨xs.length, by simp, Nat.zero_le _, w1, ρ1, st1, start, Gr.refl w1⟩, ?_⟩
    rintro i m σ' H' ⟨rfl, hi, w', ρ', st', q, g⟩
    by_cases hlt : i < xs.length
    · have ex : xs[i]? = some xs[i] := by simp [hlt]
      obtain ⟨g1, g2⟩ := (itok w' H' st' σ' ρ' i g q.1 q.2.1).1 _ ex
      refine .inr ⟨g1, fun σ2 H2 => ∃ w2 ρ2 st2, tSW (ct X) W w2 ρ2 st2 (loopF (goFor t mf) (xs.drop (i + 1))) D σ2 H2 ∧ Gr w1 w2, fun σ2 H2 p => ⟨xs.length - (i + 1), by omega, rfl, hlt, p⟩, fun v H2 y => ?_⟩
      obtain ⟨w2, a1, a2, a3, a4⟩ := g2 v H2 y
      have q := q.shift a1 a2 a3
      rw [List.drop_eq_getElem_cons hlt] at q
      have q : tSW (ct X) W w2 ρ' st' (bind (goFor t mf xs[i]) (kL (loopF (goFor t mf) (xs.drop (i + 1))))) D σ' H2 := q
      rw [show goFor t mf xs[i] = bind (bindT t xs[i]) fun _ => mf from rfl, bind_assoc] at q
      obtain ⟨w3, ρ3, st3, d3, b1, b2, b3, ρ4, b4, b5⟩ := q.bindT a4
      refine ⟨w3, ρ3, st3, d3, b1, b2, b3, ρ4, b4, fun σ4 c1 c2 c3 c4 => ?_⟩
      obtain ⟨w5, ρ5, st5, s5, q⟩ := b5 σ4 c1 c2 c3 c4
      have q2 := q.body
      refine ⟨w5, ρ5, st5, q2.1, q2.2.1, ?_⟩
      have q3 := q2.2.2
      split at q3
      · rename_i f ρ6 st6 e6
        intro σ6 w6 H6 z1 z2 z3
        have q4 := q3 σ6 w6 H6 z1 z2 z3
        have gg : Gr w1 w5 := (g.trans a3.gr).trans s5.gr
        cases f with
        | next => obtain ⟨w7, ρ7, st7, t1, t2⟩ := q4; exact ⟨w7, ρ7, st7, t1, gg.trans t2⟩
        | cnt => obtain ⟨w7, ρ7, st7, t1, t2⟩ := q4; exact ⟨w7, ρ7, st7, t1, gg.trans t2⟩
        | brk => exact q4
        | ret d => exact q4
      · rename_i x ρ6 st6 e6
        exact q3
      · exact q3.elim
    · have e : i = xs.length := by omega
      subst e
      rw [List.drop_length] at q
      exact .inl ⟨(itok w' H' st' σ' ρ' xs.length g q.1 q.2.1).2 rfl, q.next⟩
theorem ds_for (hp : PassesOwn (model X.prog X.w) X.A X.env X.xe) (hc : X.calm = true) (hi : DI X W tg iter mi) (hg : PG X tg (gM (ct X) t)) (hb : DSs X W body mf) (hs : ∀ x, foldedSetIterable iter X.env x = pure x) :
    DS X W (.For tg iter body [] pos) (bind mi fun xs => loopF (goFor t mf) xs) :=
  (ps_for hp hc hi hg hb hs).imp fun D σ H h => for_read h
theorem ds_whl {mc : M Bool} (hp : PassesOwn (model X.prog X.w) X.A X.env X.xe) (hc : DT X W e mc) (hb : DSs X W body mf) : DS X W (.While e body [] pos) (loopW mc mf many) :=
  (ps_while hp hc hb).imp fun D σ H ⟨w, ρ, st, h⟩ => by
    refine ⟨fun m σ H => ∃ w ρ st, tSW (ct X) W w ρ st (loopW mc mf m) D σ H, ⟨many, w, ρ, st, h⟩, ?_⟩
    clear h
    rintro m σ H ⟨w, ρ, st, h⟩
    cases m with
    | zero => exact h.2.2.elim
    | succ n =>
      have h : tSW (ct X) W w ρ st (bind mc fun t => if t then bind mf (kL (loopW mc mf n)) else ret .next) D σ H := h
      refine ⟨w, ρ, st, (h.bindE (rel := rB)).imp fun b H1 ⟨b', w1, ρ1, st1, _, r, _, q⟩ => ?_⟩
      cases r
      cases b with
      | false =>
        rw [if_neg Bool.false_ne_true] at q ⊢
        exact q.next
      | true =>
        rw [if_pos rfl]
        rw [if_pos rfl] at q
        have q2 := q.body
        exact ⟨_, fun σ' H' ⟨w', ρ', st', t1, t2⟩ => ⟨n, Nat.lt_succ_self n, w', ρ', st', t1⟩, w1, ρ1, st1, q2⟩
end
end Z

/-! Z13: stores of objects of one's own; a, b = x, y. -/
namespace Z
open PySem PySem.Spec L2
open PyProof.Rows hiding St

section
variable {C : Ct} {W : WX} {w : Wd} {ρ : Env} {st : Store} {σ : St} {H : Hp} {En : Ends}
/-- an object that nobody knows goes into a slot -/
theorem ownE {i : Nat} {c : Cell} {p : Addr} (he : RelE C w H σ ρ) (al : Alone C w H σ ρ p c) : RelE C w H (σ.set i (some (.ref p))) (ρ.set i (.own c)) ∧ ∀ a, Own (σ.set i (some (.ref p))) (ρ.set i (.own c)) a → Own σ ρ a ∨ a = p := by
  have hl : ∀ {s : Sl}, (ρ.set i s)[i]? = none ∨ (ρ.set i s)[i]? = some s := fun {s} => by
    by_cases h : i < ρ.length
    · exact .inr (List.getElem?_set_self h)
    · exact .inl (List.getElem?_eq_none (by simp; omega))
  have hs : ∀ {s : Sl}, (ρ.set i s)[i]? = some s → (σ.set i (some (V.ref p)))[i]? = some (some (.ref p)) := fun {s} h => by
    have : i < ρ.length := by
      have := (List.getElem?_eq_some_iff.mp h).1
      simpa using this
    exact List.getElem?_set_self (by rw [← he.len]; exact this)
  have old : ∀ {j : Nat} {c0 : Cell} {a : Addr}, i ≠ j → (ρ.set i (.own c))[j]? = some (.own c0) → (σ.set i (some (V.ref p)))[j]? = some (some (.ref a)) → a ≠ p := fun {j c0 a} hj h1 h2 z => by
    rw [List.getElem?_set_ne hj] at h1 h2
    exact al.no ⟨j, c0, h1, by rw [← z]; exact h2⟩
  refine ⟨⟨by simp [he.len], fun j d h => ?_, fun j d h => ?_, fun j k c1 c2 a h1 h2 h3 h4 => ?_⟩, fun a ⟨j, c0, h1, h2⟩ => ?_⟩
  · by_cases hj : i = j
    · subst hj
      rcases hl (s := .own c) with z | z
      · rw [z] at h; cases h
      · rw [z] at h; cases h
    · rw [List.getElem?_set_ne hj] at h
      obtain ⟨v, h1, h2⟩ := he.val j d h
      exact ⟨v, by rw [List.getElem?_set_ne hj]; exact h1, h2⟩
  · by_cases hj : i = j
    · subst hj
      rcases hl (s := .own c) with z | z
      · rw [z] at h; cases h
      · have z' := z
        rw [h] at z
        cases z
        exact ⟨p, hs z', al.rc, al.nf, al.nl⟩
    · rw [List.getElem?_set_ne hj] at h
      obtain ⟨a, h1, h2⟩ := he.own j d h
      exact ⟨a, by rw [List.getElem?_set_ne hj]; exact h1, h2⟩
  · by_cases hj : i = j
    · by_cases hk : i = k
      · rw [← hj, ← hk]
      · subst hj
        rcases hl (s := .own c) with z | z
        · rw [z] at h1; cases h1
        · rw [hs z] at h3
          cases h3
          exact absurd rfl (old hk h2 h4)
    · by_cases hk : i = k
      · subst hk
        rcases hl (s := .own c) with z | z
        · rw [z] at h2; cases h2
        · rw [hs z] at h4
          cases h4
          exact absurd rfl (old hj h1 h3)
      · rw [List.getElem?_set_ne hj] at h1 h3
        rw [List.getElem?_set_ne hk] at h2 h4
        exact he.ap j k c1 c2 a h1 h2 h3 h4
  · by_cases hj : i = j
    · subst hj
      rcases hl (s := .own c) with z | z
      · rw [z] at h1; cases h1
      · rw [hs z] at h2
        cases h2
        exact .inr rfl
    · rw [List.getElem?_set_ne hj] at h1 h2
      exact .inl ⟨j, c0, h1, h2⟩
/-- a new object as a value, or in a cell: the reading -/
theorem mk_read {mc : M Cell} {k : Kd} {Q : VK} (h : tM C W (rD C) (bind mc fun c => mkC k c) σ H Q) : tF C W mc σ H Q := by
  obtain ⟨w, ρ, st, h1, h2, h3⟩ := h
  refine ⟨w, ρ, st, h1, h2, ?_⟩
  unfold bind at h3
  cases em : mc ρ st with
  | ok c ρ1 st1 =>
    rw [em] at h3
    intro p w1 H1 r1 r2 s1 al hp
    obtain ⟨o, ho⟩ := al.rc.there
    cases k with
    | pure =>
      obtain ⟨b1, b2, b3⟩ := toF r1 r2 ho al.nf al.nl al.no
      refine h3 _ _ _ b1 b2 ⟨s1.gr.trans b3, s1.keep, fun x u hx => ?_, s1.newL, s1.newO, s1.dom⟩ (al.rc.toD al.nl _ b3.f fun u hu => by rw [ho] at hu; cases hu; exact upd_same)
      have hx : upd w1.F p o x = some u := hx
      by_cases hxp : x = p
      · rw [hxp]; exact .inr (.inr hp)
      · rw [upd_ne hxp] at hx; exact s1.newF x u hx
    | cell =>
      obtain ⟨b1, b2, b3, b4⟩ := toL r1 r2 al.rc al.nf al.nl al.no
      refine h3 _ _ _ b1 b2 ⟨s1.gr.trans b3, s1.keep, s1.newF, fun x hx => ?_, s1.newO, s1.dom⟩ b4
      rcases List.mem_append.mp hx with hx | hx
      · exact s1.newL x hx
      · simp at hx; rw [hx]; exact .inr (.inr hp)
  | exc x ρ1 st1 => rw [em] at h3; exact h3
  | bad => rw [em] at h3; exact h3
end
section
variable {X : Cx} {W : WX} {s : Stmt} {mc : M Cell} {i : Nat}
/-- name = a new object, of one's own -/
theorem ds_own (h : PS X s (tAsg (tF (ct X) W mc) (gName i))) : DS X W s (bind mc fun c => bind (setSl i (.own c)) fun _ => ret .next) :=
  h.imp fun D σ H ⟨w, ρ, st, h1, h2, h3⟩ => ⟨w, ρ, st, h1, h2, by
    unfold bind at h3
    cases em : mc ρ st with
    | exc x ρ1 st1 => rw [em] at h3; exact fun cls d w' H' a1 a2 a3 a4 => h3 σ cls d w' H' a1 a2 a3 a4
    | bad => rw [em] at h3; exact h3
    | ok c ρ1 st1 =>
      rw [em] at h3
      simp only [setSl] at h3
      intro p w1 H1 r1 r2 s1 al hp
      by_cases hl : i < ρ1.length
      · rw [if_pos hl] at h3
        simp only [ret] at h3
        obtain ⟨o1, o2⟩ := ownE (i := i) r2 al
        exact h3 _ w1 H1 r1 o1 ⟨s1.gr, s1.keep, s1.newF, s1.newL, fun a ha => by
          rcases o2 a ha with z | z
          · exact s1.newO a z
          · rw [z]; exact .inr hp, s1.dom⟩
      · rw [if_neg hl] at h3
        exact h3.elim⟩
/-- name = a new object, as a value or in a cell -/
theorem ds_asgF {k : Kd} (h : PS X s (tAsg (tF (ct X) W mc) (gName i))) : DS X W s (bind (bind mc fun c => mkC k c) fun d => bind (bindT (.nm i) d) fun _ => ret .next) :=
  h.imp fun D σ H ⟨w, ρ, st, h⟩ => mk_read (k := k) (Q := fun v H1 => D.nx (σ.set i (some v)) H1) ⟨w, ρ, st, (h.bindE (rel := rD (ct X))).imp fun v H1 ⟨d, w1, ρ1, st1, _, r, _, q⟩ => by
    obtain ⟨w2, ρ2, st2, d2, b1, b2, b3, ρ', b4, b5⟩ := q.bindT r
    simp only [bindT, setSl] at b4
    split at b4
    · cases b4
      obtain ⟨w3, ρ3, st3, _, q⟩ := b5 (σ.set i (some v)) (setE b2 b3) (fun a => own_set) (fun j hj => by rw [List.getElem?_set_ne (fun z => hj (by simp [tgS, z]))]) (by simp)
      exact q.next
    · cases b4⟩
end

/-! ### a, b = x, y -/
def setAll : St → List Nat → List V → St
  | σ, i :: is, v :: vs => setAll (σ.set i (some v)) is vs
  | σ, _, _ => σ
theorem stores_E {C : Ct} {w : Wd} {H : Hp} : ∀ {is : List Nat} {vs : List V} {ds : List D} {σ : St} {ρ ρ' : Env} {st st' : Store}, RelE C w H σ ρ → RelDs C w.F w.L vs ds → stores is ds ρ st = .ok () ρ' st' →
    st' = st ∧ vs.length = is.length ∧ RelE C w H (setAll σ is vs) ρ' ∧ ∀ a, Own (setAll σ is vs) ρ' a → Own σ ρ a
  | [], _, _, σ, ρ, ρ', st, st', he, .nil, e => by cases e; exact ⟨rfl, rfl, he, fun _ z => z⟩
  | [], _, _, σ, ρ, ρ', st, st', he, .cons _ _, e => by cases e
  | i :: is, _, _, σ, ρ, ρ', st, st', he, .nil, e => by cases e
  | i :: is, _, _, σ, ρ, ρ', st, st', he, .cons (v := v) (d := d) h r, e => by
    obtain ⟨u, ρ1, st1, e1, e2⟩ := bind_ok e
    simp only [setSl] at e1
    split at e1
    · cases e1
      obtain ⟨q1, q2, q3, q4⟩ := stores_E (setE he h) r e2
      exact ⟨q1, by simp [q2], q3, fun a z => own_set (q4 a z)⟩
    · cases e1
theorem stores_exc : ∀ {is : List Nat} {ds : List D} {ρ ρ' : Env} {st st' : Store} {x : D}, stores is ds ρ st ≠ .exc x ρ' st'
  | [], [], _, _, _, _, _, e => by cases e
  | [], _ :: _, _, _, _, _, _, e => by cases e
  | _ :: _, [], _, _, _, _, _, e => by cases e
  | i :: is, d :: ds, ρ, _, st, _, _, e => by
    simp only [stores, bind, setSl] at e
    split at e
    · exact stores_exc e
    · rename_i e1
      split at e1
      · cases e1
      · cases e1
    · cases e
section
variable {X : Cx} {W : WX} {s : Stmt} {ms : M (List D)}
theorem ds_par {is : List Nat} {t : TS} (h : PS X s t) (ht : ∀ D σ H, tM (ct X) W (rDs (ct X)) ms σ H (fun vs H1 => vs.length = is.length ∧ D.nx (setAll σ is vs) H1) → t D σ H) : DS X W s (bind ms fun ds => bind (stores is ds) fun _ => ret .next) :=
  h.imp fun D σ H ⟨w, ρ, st, h⟩ => ht D σ H ⟨w, ρ, st, (h.bindE (rel := rDs (ct X))).imp fun vs H1 ⟨ds, w1, ρ1, st1, _, r, _, q⟩ => by
    obtain ⟨h1, h2, h3⟩ := q
    unfold bind at h3
    cases e : stores is ds ρ1 st1 with
    | ok u ρ2 st2 =>
      rw [e] at h3
      obtain ⟨q1, q2, q3, q4⟩ := stores_E h2 r e
      subst q1
      exact ⟨q2, h3 _ w1 H1 h1 q3 (Step.sub q4)⟩
    | exc x ρ2 st2 => exact absurd e stores_exc
    | bad => rw [e] at h3; exact h3.elim⟩
end
/-- a target that is a plain local's name on that line -/
def parN (c : Cc) (line : Nat) : Expr → Option Str
  | .Name id pos => if c.sc.names.lookup id == some .local && pos.line == line then some id else none
  | _ => none
def starB : Expr → Bool
  | .Starred .. => true
  | _ => false
def parNs (c : Cc) (ts : List Expr) : List Str := ts.filterMap (parN c ((ts.head?.map (·.pos.line)).getD 0))
/-- are the stores swapped, and of which names -/
def swapped (c : Cc) (ts vs : List Expr) : Option (Option (List Str)) :=
  if !(ts.length == 2 || ts.length == 3) || vs.length != ts.length then some none
  else if vs.any starB then some none
  else if (parNs c ts).length != ts.length || (parNs c ts).eraseDups.length != (parNs c ts).length then some none
  else if vs.all (foldedForSure 8) then some none
  else if vs.all (constantsAlone 8) then none
  else some (some (parNs c ts))
theorem swapped_ok {c : Cc} {env : PySem.Env} (hs : env.scope = c.sc) (hk : c.sc.kind = .function) {ts vs : List Expr} {kt k2 pt pt2 r} (h : swapped c ts vs = some r) : swappedStores [.Tuple ts kt pt] (.Tuple vs k2 pt2) env = pure r := by
  have hb : env.blockKind = .function := by unfold Env.blockKind; rw [hs, hk]; rfl
  have hp : ∀ line, (fun e => parN c line e) = (fun | .Name id pos => if env.kindOf id == some .local && pos.line == line then some id else none | _ => none) := fun line => by
    funext e
    cases e <;> first | rfl | skip
    rename_i id pos
    show (if c.sc.names.lookup id == some .local && pos.line == line then some id else none) = _
    rw [← hs]; rfl
  have hst : (fun e => starB e) = (fun | .Starred .. => true | _ => false) := by
    funext e
    cases e <;> rfl
  unfold swapped parNs at h
  unfold swappedStores
  rw [hb]
  have hp := hp ((ts.head?.map (·.pos.line)).getD 0)
  have hp' : parN c ((ts.head?.map (·.pos.line)).getD 0) = _ := hp
  have hst' : starB = _ := hst
  rw [hp', hst'] at h
  simp only [bne_self_eq_false, Bool.or_false]
  split at h
  · rename_i h1; cases h; exact if_pos h1
  · rename_i h1
    refine (if_neg h1).trans ?_
    split at h
    · rename_i h2; cases h; exact if_pos h2
    · rename_i h2
      refine (if_neg h2).trans ?_
      split at h
      · rename_i h3; cases h; exact if_pos h3
      · rename_i h3
        refine (if_neg h3).trans ?_
        split at h
        · rename_i h4; cases h; exact if_pos h4
        · rename_i h4
          refine (if_neg h4).trans ?_
          split at h
          · cases h
          · rename_i h5
            cases h
            exact if_neg h5
end Z

/-! Z14: terms against the program's text. -/
namespace Z
open PySem PySem.Spec L2
open PyProof.Rows hiding St

/-! ### small checks -/
def litB : D → Const → Bool
  | .non, .none => true
  | .bl a, .bool b => decide (a = b)
  | .int a, .int b => decide (a = b)
  | .str a, .str b => decide (a = b)
  | _, _ => false
def nmB (c : Cc) (i : Nat) (x : Str) : Bool := decide (c.N[i]? = some x) && (visB c x && okN x)
def ordB : CmpOp → Bool
  | .Lt | .LtE | .Gt | .GtE => true
  | _ => false
def plainIx : Expr → Bool
  | .Slice .. => false
  | _ => true
def setFree : Expr → Bool
  | .Set .. => false
  | _ => true
def plainTB : Expr → Bool
  | .UnaryOp .Not _ _ => false
  | .BoolOp .. => false
  | .IfExp .. => false
  | .Compare .. => false
  | _ => true
def callB (e : Expr) : Bool := match e with
  | .Call _ _ _ _ => false
  | _ => true
def bltB (c : Cc) (x : Str) (n : Str) : Bool := decide (x = n) && (glB c x && (decide (x ∈ bltNames) && okN x))
def swB : Expr → Bool
  | .ListComp .. => true
  | .SetComp .. => true
  | .DictComp .. => true
  | _ => false
theorem swB_ok {e : Expr} (h : swB e = false) (t : Option Expr) (l : Nat) (env : PySem.Env) : swapsWith e t l env = pure false := by
  cases e <;> first | rfl | cases h
def calB (c : Cc) (j : Nat) (x : Str) (n : Nat) (ks : List Keyword) (ord : List Nat) : Bool :=
  decide (c.gn[j]? = some x) && (glB c x && (okN x && (match ks with
    | [] => ord.isEmpty
    | _ => match kwN ks with
      | some ns => decide ((⟨n, ns, ord⟩ : Pat) ∈ c.gp.getD j [])
      | none => false)))
def subB (xs ys : List Nat) : Bool := xs.all fun i => ys.contains i
/-- the context of a comprehension's block -/
def blkCc (c : Cc) (scope : Scope) : Cc := { c with sc := relS scope c.sc, fn := fun x => scope.names.lookup x == some .cell }
def ownOf (c : Cc) (vs : List Nat) : List (Str × Nat) := vs.map fun i => (c.N.getD i "", i)
theorem ownOf_snd (c : Cc) (vs : List Nat) : (ownOf c vs).map (·.2) = vs := by
  unfold ownOf
  rw [List.map_map]
  exact List.map_id _
section
variable {X : Cx} {W : WX} {c : Cc} {G : Gm}
theorem Sc.nm (S : Sc X c G) {i : Nat} {x : Str} (h : nmB c i x = true) : Nm X i x := by
  unfold nmB at h
  simp only [Bool.and_eq_true, decide_eq_true_eq] at h
  obtain ⟨k1, k2, _⟩ := okN_d h.2.2
  exact ⟨by rw [S.N]; exact h.1, S.vis h.2.1, k1, k2⟩
theorem Sc.bl (S : Sc X c G) {x n : Str} {u : Value} (h : bltB c x n = true) (hu : bootBuiltins n = some u) : BName X x u ∧ x = n := by
  unfold bltB at h
  simp only [Bool.and_eq_true, decide_eq_true_eq] at h
  obtain ⟨h1, h2, h3, h4⟩ := h
  subst h1
  exact ⟨S.bn h2 h3 hu h4, rfl⟩
theorem ordB_ok {op : CmpOp} (h : ordB op = true) : Ordr op := by
  cases op <;> first | exact ⟨by decide, by decide, by decide, by decide⟩ | cases h
theorem plainIx_ok {e : Expr} (h : plainIx e = true) : PlainIx e := by
  intro o i
  cases e <;> first | rfl | cases h
theorem setFree_in {e : Expr} {op : CmpOp} (h : setFree e = true) : behindInMarks op e = false := by
  cases e <;> first | rfl | cases h
theorem setFree_it {e : Expr} (h : setFree e = true) (env : PySem.Env) (x : Value) : foldedSetIterable e env x = pure x := by
  cases e <;> first | rfl | cases h
theorem plainTB_ok {e : Expr} (h : plainTB e = true) : PlainT X e := by
  intro whole
  cases e with
  | UnaryOp op a p => cases op <;> first | rfl | cases h
  | _ => first | rfl | cases h
theorem noStar_ok {e : Expr} (h : noStar e = true) : NoStar X e := by
  intro es
  cases e <;> first | rfl | (exact absurd h (by simp [noStar]))

/-- what is shown of a term -/
structure Ok (X : Cx) (W : WX) (e : Expr) (m : M D) : Prop where
  d : DE X W e m
  t : DT X W e (testM m)
  w : (∃ op es p, e = .BoolOp op es p) → DW X W e (testM m)
theorem good_plain {e : Expr} {m : M D} (h : DE X W e m) (hp : plainTB e = true) : Ok X W e m :=
  ⟨h, dt_of h (plainTB_ok hp), fun ⟨op, es, p, e⟩ => by subst e; cases hp⟩
theorem dt_ite {t a b : Expr} {mt ma mb : M D} {pos : Pos} (ht : DT X W t (testM mt)) (ha : DT X W a (testM ma)) (hb : DT X W b (testM mb)) :
    DT X W (.IfExp t a b pos) (testM (bind mt fun x => bind (viewM x) fun x => bind (opt (truD x)) fun t => if t then ma else mb)) := by
  have e : testM (bind mt fun x => bind (viewM x) fun x => bind (opt (truD x)) fun t => if t then ma else mb) = bind (testM mt) fun t => if t then testM ma else testM mb := by
    funext ρ st
    simp only [testM, bind, viewM, opt, ret]
    cases mt ρ st with
    | ok x ρ1 st1 =>
      simp only
      cases truD (view st1 x) with
      | none => rfl
      | some t => cases t <;> rfl
    | exc => rfl
    | bad => rfl
  rw [e]
  refine ⟨fun pins s σ H Q I h => ?_⟩
  have h : tM (ct X) W rB (testM mt) σ H fun t H1 => tM (ct X) W rB (if t then testM ma else testM mb) σ H1 Q := h.one.imp fun t H1 ⟨t', w, ρ, st, r, q⟩ => by
    cases r
    exact ⟨w, ρ, st, q⟩
  refine wpAny_bind (thn (ht.run pins s σ H _ I h) fun t s1 ⟨H1, I1, q⟩ => ?_)
  cases t with
  | true => exact ha.run pins s1 σ H1 Q I1 q
  | false => exact hb.run pins s1 σ H1 Q I1 q
/-- a new list's term: by itself, or stored at once -/
structure GoodF (X : Cx) (W : WX) (c : Cc) (e : Expr) (m : M Cell) : Prop where
  d : DF X W e m
  p : plainTB e = true
  s : ∀ (i : Nat) (y : Str) (py spos : Pos), c.N[i]? = some y → locB c y = true → PS X (.Assign [.Name y py] e spos) (tAsg (tF (ct X) W m) (gName i))
theorem goodF_plain (S : Sc X c G) {e : Expr} {m : M Cell} (h : DF X W e m) (hp : plainTB e = true) (hw : swB e = false) : GoodF X W c e m :=
  ⟨h, hp, fun i y py spos hi hl => by
    obtain ⟨h1, h2⟩ := S.loc hl
    exact ps_set (by rw [S.N]; exact S.nd) (by rw [S.N]; exact hi) h1 h (swB_ok hw _ _ _) h2⟩
end
end Z

/-! Z15: terms against the program's text; they compute what their runs compute. -/
namespace Z
open PySem PySem.Spec L2
open PyProof.Rows hiding St

def biS : BI → Str
  | .len => "len" | .sum => "sum" | .all => "all" | .any => "any" | .abs => "abs" | .int => "int" | .tuple => "tuple"
def bi2S : BI2 → Str
  | .max => "max" | .min => "min"
def tyS : Ty → Str
  | .bool => "bool" | .int => "int" | .str => "str" | .list => "list" | .tuple => "tuple" | .dict => "dict"
mutual
def chkE (c : Cc) : IE → Expr → Bool
  | .lit d, e0 => match e0 with
    | .Constant k _ _ => litB d k
    | _ => false
  | .var i, e0 => match e0 with
    | .Name x _ => nmB c i x
    | _ => false
  | .con i, e0 => match e0 with
    | .Name x _ => decide (c.gc[i]? = some x) && (glB c x && okN x)
    | _ => false
  | .bin op a b, e0 => match e0 with
    | .BinOp l op' r _ => decide (op = op') && (chkE c a l && chkE c b r)
    | _ => false
  | .un op a, e0 => match e0 with
    | .UnaryOp op' e _ => decide (op = op') && (decide (op ≠ .Not) && chkE c a e)
    | _ => false
  | .not a, e0 => match e0 with
    | .UnaryOp .Not e _ => chkE c a e
    | _ => false
  | .and a b, e0 => match e0 with
    | .BoolOp .And (e :: e2 :: r) p => chkE c a e && chkE c b (.BoolOp .And (e2 :: r) p)
    | _ => false
  | .or a b, e0 => match e0 with
    | .BoolOp .Or (e :: e2 :: r) p => chkE c a e && chkE c b (.BoolOp .Or (e2 :: r) p)
    | _ => false
  | .one a, e0 => match e0 with
    | .BoolOp _ [e] _ => chkE c a e
    | _ => false
  | .ite t a b, e0 => match e0 with
    | .IfExp et x y _ => chkE c t et && (chkE c a x && chkE c b y)
    | _ => false
  | .cmp op a b, e0 => match e0 with
    | .Compare l [op'] [r] _ => decide (op = op') && (setFree r && (chkE c a l && chkE c b r))
    | _ => false
  | .chain op op2 a b d, e0 => match e0 with
    | .Compare l [o1, o2] [r, s] _ => decide (op = o1) && (decide (op2 = o2) && (ordB op && (ordB op2 && (setFree s && (chkE c a l && (chkE c b r && chkE c d s))))))
    | _ => false
  | .tup es, e0 => match e0 with
    | .Tuple xs _ _ => chkEs c es xs
    | _ => false
  | .mk _ f, e => chkF c f e
  | .call j es kws ord, e0 => match e0 with
    | .Call (.Name x _) as ks _ => calB c j x as.length ks ord && (chkEs c es as && chkKs c kws ks)
    | _ => false
  | .bi f a, e0 => match e0 with
    | .Call (.Name x _) [e] [] _ => bltB c x (biS f) && (noStar e && chkE c a e)
    | _ => false
  | .bi2 f a b, e0 => match e0 with
    | .Call (.Name x _) [e, e2] [] _ => bltB c x (bi2S f) && (noStar e && (noStar e2 && (chkE c a e && chkE c b e2)))
    | _ => false
  | .isi a t, e0 => match e0 with
    | .Call (.Name x _) [e, .Name y _] [] _ => bltB c x "isinstance" && (bltB c y (tyS t) && (noStar e && chkE c a e))
    | _ => false
  | .sub a b, e0 => match e0 with
    | .Subscript l r _ => plainIx r && (chkE c a l && chkE c b r)
    | _ => false
  | .slc a lo hi, e0 => match e0 with
    | .Subscript l (.Slice x y none _) _ => chkE c a l && (chkO c lo x && chkO c hi y)
    | _ => false
  | .pop i e, e0 => match e0 with
    | .Call (.Attribute (.Name x _) m ap) as [] cp => decide (m = "pop") && (nmB c i x && ((ap.endLine == cp.line) && chkP c e as))
    | _ => false
  | .cmpV op i b, e0 => match e0 with
    | .Compare (.Name x _) [op'] [r] _ => decide (op = op') && (setFree r && (nmB c i x && chkE c b r))
    | _ => false
  | .subV i b, e0 => match e0 with
    | .Subscript (.Name x _) r _ => plainIx r && (nmB c i x && chkE c b r)
    | _ => false
  | .biV f i, e0 => match e0 with
    | .Call (.Name y _) [.Name x _] [] _ => bltB c y (biS f) && nmB c i x
    | _ => false
  | .cellV i, e0 => match e0 with
    | .Name x _ => nmB c i x
    | _ => false
def chkP (c : Cc) : IO → List Expr → Bool
  | .none, e0 => match e0 with
    | [] => true
    | _ => false
  | .some a, e0 => match e0 with
    | [e] => noStar e && chkE c a e
    | _ => false
def chkEs (c : Cc) : IEs → List Expr → Bool
  | .nil, e0 => match e0 with
    | [] => true
    | _ => false
  | .cons a r, e0 => match e0 with
    | e :: es => noStar e && (chkE c a e && chkEs c r es)
    | _ => false
def chkKs (c : Cc) : IEs → List Keyword → Bool
  | .nil, e0 => match e0 with
    | [] => true
    | _ => false
  | .cons a r, e0 => match e0 with
    | ⟨_, e, _⟩ :: es => chkE c a e && chkKs c r es
    | _ => false
def chkO (c : Cc) : IO → Option Expr → Bool
  | .none, e0 => match e0 with
    | none => true
    | _ => false
  | .some a, e0 => match e0 with
    | some e => chkE c a e
    | _ => false
def chkTst (c : Cc) : IO → List Expr → Bool
  | .none, e0 => match e0 with
    | [] => true
    | _ => false
  | .some a, e0 => match e0 with
    | [e] => chkE c a e
    | _ => false
def chkF (c : Cc) : IF → Expr → Bool
  | .disp es, e0 => match e0 with
    | .List xs _ => chkEs c es xs
    | _ => false
  | .lc elt t it ifs vs, e0 => match e0 with
    | .ListComp e [⟨tg, iter, is, n⟩] scope _ => decide (n = 0) && (setFree iter && (chkI c it iter && (blkC c.N c.sc scope (ownOf c vs) && (subB (tgS t) vs && (chkT (blkCc c scope) t tg && (chkTst (blkCc c scope) ifs is && chkE (blkCc c scope) elt e))))))
    | _ => false
  | .cat a b, e0 => match e0 with
    | .BinOp l .Add r _ => chkE c a l && chkE c b r
    | _ => false
  | .rep a b, e0 => match e0 with
    | .BinOp l .Mult r _ => chkE c a l && chkE c b r
    | _ => false
  | .list a, e0 => match e0 with
    | .Call (.Name x _) [e] [] _ => bltB c x "list" && (noStar e && chkE c a e)
    | _ => false
  | .listR a, e0 => match e0 with
    | .Call (.Name x _) [.Call (.Name y _) [e] [] _] [] _ => bltB c x "list" && (bltB c y "range" && (noStar e && chkE c a e))
    | _ => false
  | .lc2 .., _ => false
def chkI (c : Cc) : II → Expr → Bool
  | .seq a, e => chkE c a e
  | .range1 a, e0 => match e0 with
    | .Call (.Name x _) [e] [] _ => bltB c x "range" && (noStar e && chkE c a e)
    | _ => false
  | .range2 a b, e0 => match e0 with
    | .Call (.Name x _) [e, e2] [] _ => bltB c x "range" && (noStar e && (noStar e2 && (chkE c a e && chkE c b e2)))
    | _ => false
  | .enum .., _ => false
  | .zip .., _ => false
end
def IEs.length : IEs → Nat
  | .nil => 0
  | .cons _ r => r.length + 1
theorem evEs_len {G : Gm} : ∀ (es : IEs) {ρ : Env} {st : Store} {ds : List D} {ρ' : Env} {st' : Store}, evEs G es ρ st = .ok ds ρ' st' → ds.length = es.length
  | .nil, _, _, _, _, _, e => by cases e; rfl
  | .cons a r, _, _, _, _, _, e => by
    obtain ⟨d, ρ1, st1, e1, e2⟩ := bind_ok e
    obtain ⟨ds, ρ2, st2, e3, e4⟩ := bind_ok e2
    cases e4
    simp [IEs.length, evEs_len r e3]
theorem chkEs_len {c : Cc} : ∀ {is : IEs} {es : List Expr}, chkEs c is es = true → is.length = es.length
  | .nil, [], _ => rfl
  | .nil, _ :: _, h => by simp [chkEs] at h
  | .cons _ _, [], h => by simp [chkEs] at h
  | .cons a r, e :: es, h => by
    simp only [chkEs, Bool.and_eq_true] at h
    simp [IEs.length, chkEs_len h.2.2]
theorem chkKs_len {c : Cc} : ∀ {is : IEs} {es : List Keyword}, chkKs c is es = true → is.length = es.length
  | .nil, [], _ => rfl
  | .nil, _ :: _, h => by simp [chkKs] at h
  | .cons _ _, [], h => by simp [chkKs] at h
  | .cons a r, ⟨_, e, _⟩ :: es, h => by
    simp only [chkKs, Bool.and_eq_true] at h
    simp [IEs.length, chkKs_len h.2]
theorem chkEs_star {X : Cx} {c : Cc} : ∀ {is : IEs} {es : List Expr}, chkEs c is es = true → NoStars X es
  | .nil, [], _ => ⟨rfl, fun e r h => by cases h⟩
  | .nil, _ :: _, h => by simp [chkEs] at h
  | .cons _ _, [], h => by simp [chkEs] at h
  | .cons a r, e :: es, h => by
    simp only [chkEs, Bool.and_eq_true] at h
    have h1 := noStar_ok (X := X) h.1
    refine ⟨?_, fun e' r' he => by cases he; exact h1 es⟩
    rw [h1 es]
    have := (chkEs_star (X := X) h.2.2).1
    simp [this]
theorem litB_rel {C : Ct} {d : D} {k : Const} (h : litB d k = true) {X : Cx} {n : Nat} {pos : Pos} : ∃ v, PE X (.Constant k n pos) (tC v) ∧ ∀ F L, RelD C F L v d := by
  unfold litB at h
  split at h
  · exact ⟨_, pe_non, fun _ _ => .non⟩
  · simp only [decide_eq_true_eq] at h; subst h; exact ⟨_, pe_bl, fun _ _ => .bl _⟩
  · simp only [decide_eq_true_eq] at h; subst h; exact ⟨_, pe_int, fun _ _ => .int _⟩
  · simp only [decide_eq_true_eq] at h; subst h; exact ⟨_, pe_str, fun _ _ => .str _⟩
  · cases h
theorem boot_bi (f : BI) : bootBuiltins (biS f) = some (biV f) := by cases f <;> decide +kernel
theorem boot_bi2 (f : BI2) : bootBuiltins (bi2S f) = some (.builtin (bi2N f)) := by cases f <;> decide +kernel
theorem boot_ty (t : Ty) : bootBuiltins (tyS t) = some (.type (tyN t)) := by cases t <;> decide +kernel
theorem boot_isi : bootBuiltins "isinstance" = some (.builtin "isinstance") := by decide +kernel
theorem boot_list : bootBuiltins "list" = some (.type "list") := by decide +kernel
theorem boot_range : bootBuiltins "range" = some (.type "range") := by decide +kernel
theorem Sc.blk {X : Cx} {c : Cc} {G : Gm} (S : Sc X c G) {vs : List Nat} {scope : Scope} (h : blkC c.N c.sc scope (ownOf c vs) = true) (s : Shared) (H : Hp) (C : Addr) (cl : List (Str × Addr)) (fp : List Addr) :
    Sc (X.blk s H scope (compEnvC scope cl C X.env) fp) (blkCc c scope) G := by
  refine ⟨?_, fun x => rfl, S.N, S.nd, S.calm, S.un, S.blt, S.fs, S.cs⟩
  show relabel scope X.env = relS scope c.sc
  unfold relabel relS Env.kindOf
  rw [S.sc]
theorem takes0 {X : Cx} (s : Shared) (H : Hp) (scope : Scope) (env : PySem.Env) (fp : List Addr) : Takes (X.blk s H scope env fp) W0 := by
  intro u s' h
  obtain ⟨a, B, sI, pins, σ, H, cls, d, e, I, nb, up, sky, na, os, ag, w⟩ := h
  exact w.elim
theorem set_self {σ : St} {i : Nat} {v : V} (h : σ[i]? = some (some v)) : σ.set i (some v) = σ := by
  refine List.ext_getElem? fun j => ?_
  by_cases hj : i = j
  · subst hj
    rw [List.getElem?_set_self (List.getElem?_eq_some_iff.mp h).1, h]
  · rw [List.getElem?_set_ne hj]
/-- an object of its own is let into a cell -/
theorem unOwn {C : Ct} {w : Wd} {H : Hp} {σ : St} {ρ : Env} {i : Nat} (he : RelE C w H σ ρ) : RelE C w H σ (ρ.set i .un) := by
  have ne : ∀ {m : Nat} {s0 : Sl}, s0 ≠ .un → (ρ.set i .un)[m]? = some s0 → i ≠ m ∧ ρ[m]? = some s0 := fun {m s0} hs h => by
    have n : i ≠ m := fun z => by
      subst z
      have hl : i < ρ.length := by
        have := (List.getElem?_eq_some_iff.mp h).1
        simpa using this
      rw [List.getElem?_set_self hl] at h
      cases h
      exact hs rfl
    rw [List.getElem?_set_ne n] at h
    exact ⟨n, h⟩
  refine ⟨by simp [he.len], fun j e h => he.val j e (ne (by intro z; cases z) h).2, fun j e h => he.own j e (ne (by intro z; cases z) h).2, fun j k c1 c2 a h1 h2 h3 h4 => he.ap j k c1 c2 a (ne (by intro z; cases z) h1).2 (ne (by intro z; cases z) h2).2 h3 h4⟩
theorem de_cellV {X : Cx} {W : WX} {i : Nat} {x : Str} {pos : Pos} (n : Nm X i x) : DE X W (.Name x pos) (cellM i) :=
  n.pe.imp fun σ H Q ⟨w, ρ, st, hs, he, q⟩ => by
    unfold cellM at q
    cases e : ρ[i]? with
    | none => rw [e] at q; exact q.elim
    | some sl =>
      rw [e] at q
      cases sl with
      | un => exact q.elim
      | val d => exact q.elim
      | own c =>
        obtain ⟨a, e1, rc, hf, hl⟩ := he.own i c e
        have hil : i < ρ.length := (List.getElem?_eq_some_iff.mp e).1
        have h1 := unOwn (i := i) he
        have hn : ¬ Own σ (ρ.set i .un) a := fun ⟨j, d, k1, k2⟩ => by
          by_cases hj : i = j
          · subst hj
            rw [List.getElem?_set_self hil] at k1; cases k1
          · rw [List.getElem?_set_ne hj] at k1
            exact hj (he.ap i j c d a e k1 e1 k2)
        obtain ⟨b1, b2, b3, b4⟩ := toL hs h1 rc hf hl hn
        have b5 := setE (i := i) b2 b4
        rw [set_self e1, List.set_set] at b5
        refine ⟨_, e1, q _ _ H b1 b5 ⟨b3, fun x u h _ _ => h, fun x u h => .inl h, fun x h => ?_, fun x h => .inl (own_set_val h).1, fun x h => h⟩ b4⟩
        rcases List.mem_append.mp h with h | h
        · exact .inl h
        · simp at h; rw [h]; exact .inr (.inl ⟨i, c, e, e1⟩)
end Z

/-! Z16: checked terms compute what their runs compute. -/
namespace Z
open PySem PySem.Spec L2
open PyProof.Rows hiding St

theorem noF {p : Prop} (h : false = true) : p := absurd h Bool.false_ne_true
theorem subB_ok {xs ys : List Nat} (h : subB xs ys = true) : ∀ i ∈ xs, i ∈ ys := fun i hi => by
  unfold subB at h
  exact List.contains_iff_mem.mp (List.all_eq_true.mp h i hi)
section
variable {G : Gm}
theorem evE_chain {op op2 : CmpOp} {a b d : IE} : evE G (.chain op op2 a b d) = bind (chainM op op2 (evE G a) (evE G b) (evE G d)) fun t => ret (.bl t) := by
  unfold chainM
  simp only [bind_assoc]
  show (bind (evE G a) fun x => bind (evE G b) fun y => bind (opt (cmpD op x y)) fun t => if t then bind (evE G d) fun z => bind (opt (cmpD op2 y z)) fun t => ret (D.bl t) else ret (D.bl false)) = _
  congr 1; funext x; congr 1; funext y; congr 1; funext t
  cases t with
  | true => rw [if_pos rfl, if_pos rfl, bind_assoc]
  | false => rw [if_neg Bool.false_ne_true, if_neg Bool.false_ne_true]; rfl
theorem pop_none : evO G .none = ret none := rfl
mutual
theorem soE {X : Cx} {W : WX} {c : Cc} (S : Sc X c G) (tk : Takes X W) : ∀ (i : IE) (e : Expr), chkE c i e = true → Ok X W e (evE G i)
  | .lit d, e, h => by
    unfold chkE at h
    split at h
    · rename_i k n p
      obtain ⟨v, h1, h2⟩ := litB_rel (C := ct X) h (X := X) (n := n) (pos := p)
      exact good_plain (de_ret h1 fun w => h2 _ _) rfl
    · exact noF h
  | .var i, e, h => by
    unfold chkE at h
    split at h
    · have n := S.nm h
      exact good_plain (de_var n.n n.v n.d n.c) rfl
    · exact noF h
  | .con i, e, h => by
    unfold chkE at h
    split at h
    · simp only [Bool.and_eq_true, decide_eq_true_eq] at h
      obtain ⟨d, u, v, h1, h2, h3, h4⟩ := S.cs _ _ h.1
      refine good_plain ?_ rfl
      show DE X W _ (opt G.cs[i]?)
      rw [h1]
      exact de_ret (pe_glob (S.gl h.2.1) h2 h3 (okN_d h.2.2).1) fun w => h4 _ _
    · exact noF h
  | .bin op a b, e, h => by
    unfold chkE at h
    split at h
    · simp only [Bool.and_eq_true, decide_eq_true_eq] at h
      obtain ⟨rfl, h1, h2⟩ := h
      exact good_plain (de_bin (soE S tk a _ h1).d (soE S tk b _ h2).d) rfl
    · exact noF h
  | .un op a, e, h => by
    unfold chkE at h
    split at h
    · simp only [Bool.and_eq_true, decide_eq_true_eq] at h
      obtain ⟨rfl, h0, h1⟩ := h
      refine good_plain (de_un (soE S tk a _ h1).d) ?_
      cases op <;> first | rfl | exact absurd rfl h0
    · exact noF h
  | .not a, e, h => by
    unfold chkE at h
    split at h
    · have g := soE S tk a _ h
      exact ⟨de_not g.d, dt_not g.t, fun ⟨_, _, _, e⟩ => by cases e⟩
    · exact noF h
  | .and a b, e, h => by
    unfold chkE at h
    split at h
    · simp only [Bool.and_eq_true] at h
      have ga := soE S tk a _ h.1
      have gb := soE S tk b _ h.2
      have w := dw_and ga.t (gb.w ⟨_, _, _, rfl⟩)
      exact ⟨de_and ga.d gb.d, w.pt, fun _ => w⟩
    · exact noF h
  | .or a b, e, h => by
    unfold chkE at h
    split at h
    · simp only [Bool.and_eq_true] at h
      have ga := soE S tk a _ h.1
      have gb := soE S tk b _ h.2
      have w := dw_or ga.t (gb.w ⟨_, _, _, rfl⟩)
      exact ⟨de_or ga.d gb.d, w.pt, fun _ => w⟩
    · exact noF h
  | .one a, e, h => by
    unfold chkE at h
    split at h
    · have g := soE S tk a _ h
      exact ⟨de_one g.d, (dw_and1 g.t).pt, fun _ => dw_and1 g.t⟩
    · exact noF h
  | .ite t a b, e, h => by
    unfold chkE at h
    split at h
    · simp only [Bool.and_eq_true] at h
      have g1 := soE S tk t _ h.1
      have g2 := soE S tk a _ h.2.1
      have g3 := soE S tk b _ h.2.2
      exact ⟨de_ite g1.t g2.d g3.d, dt_ite g1.t g2.t g3.t, fun ⟨_, _, _, e⟩ => by cases e⟩
    · exact noF h
  | .cmp op a b, e, h => by
    unfold chkE at h
    split at h
    · simp only [Bool.and_eq_true, decide_eq_true_eq] at h
      obtain ⟨rfl, h0, h1, h2⟩ := h
      have g1 := (soE S tk a _ h1).d
      have g2 := (soE S tk b _ h2).d
      have e : evE G (.cmp op a b) = bind (cmpM op (evE G a) (evE G b)) fun t => ret (.bl t) := by
        unfold cmpM
        simp only [bind_assoc]
        rfl
      rw [e]
      exact ⟨de_cmp S.un g1 g2 (setFree_in h0), dt_cmp S.un g1 g2 (setFree_in h0), fun ⟨_, _, _, e⟩ => by cases e⟩
    · exact noF h
  | .chain op op2 a b d, e, h => by
    unfold chkE at h
    split at h
    · simp only [Bool.and_eq_true, decide_eq_true_eq] at h
      obtain ⟨rfl, rfl, k1, k2, h0, h1, h2, h3⟩ := h
      have g1 := (soE S tk a _ h1).d
      have g2 := (soE S tk b _ h2).d
      have g3 := (soE S tk d _ h3).d
      rw [evE_chain]
      exact ⟨de_chain (ordB_ok k1) (ordB_ok k2) S.un g1 g2 g3 (setFree_in h0), dt_chain (ordB_ok k1) (ordB_ok k2) S.un g1 g2 g3 (setFree_in h0), fun ⟨_, _, _, e⟩ => by cases e⟩
    · exact noF h
  | .tup es, e, h => by
    unfold chkE at h
    split at h
    · exact good_plain (de_tup ((soEs S tk es).1 _ h)) rfl
    · exact noF h
  | .mk k f, e, h => by
    have g := soF S tk f e h
    exact good_plain (de_mk g.d) g.p
  | .call j es kws ord, e, h => by
    unfold chkE at h
    split at h
    · rename_i x p as ks p2
      simp only [Bool.and_eq_true] at h
      obtain ⟨h1, h2, h3⟩ := h
      unfold calB at h1
      simp only [Bool.and_eq_true, decide_eq_true_eq] at h1
      obtain ⟨k1, k2, k3, k4⟩ := h1
      obtain ⟨F, lv, q1, q2, q3⟩ := S.fs j x k1
      have hF : fnAt G.fs j = F := by unfold fnAt; rw [q1]
      have gl := S.gl k2
      have nd := (okN_d k3).1
      have ga := (soEs S tk es).1 _ h2
      have gk := (soEs S tk kws).2 _ h3
      have key : DE X W (.Call (.Name x p) as ks p2) (callD F (evEs G es) (evEs G kws) ord) := by
        cases ks with
        | nil =>
          have k4 : ord.isEmpty = true := k4
          rw [List.isEmpty_iff] at k4
          subst k4
          cases kws with
          | cons a r => simp [chkKs] at h3
          | nil =>
            cases as with
            | nil =>
              cases es with
              | cons a r => simp [chkEs] at h2
              | nil => exact de_call0 q2 q3 tk gl nd
            | cons a r => exact de_call q2 q3 tk gl nd ga (chkEs_star h2)
        | cons kw kr =>
          simp only at k4
          split at k4
          · rename_i ns hk
            simp only [decide_eq_true_eq] at k4
            exact de_callK q2 q3 tk gl nd ga gk (chkEs_star h2) k4 hk rfl (fun ρ st ds ρ' st' e => (evEs_len es e).trans (chkEs_len h2)) (fun ρ st ds ρ' st' e => (evEs_len kws e).trans (chkKs_len h3)) (fun e => by
              subst e
              cases es with
              | cons a r => simp [chkEs] at h2
              | nil => rfl)
          · cases k4
      have key : DE X W (.Call (.Name x p) as ks p2) (evE G (.call j es kws ord)) := by
        show DE X W _ (callD (fnAt G.fs j) (evEs G es) (evEs G kws) ord)
        rw [hF]
        exact key
      exact good_plain key rfl
    · exact noF h
  | .bi f a, e, h => by
    unfold chkE at h
    split at h
    · simp only [Bool.and_eq_true] at h
      obtain ⟨h1, h2, h3⟩ := h
      obtain ⟨n, rfl⟩ := S.bl h1 (boot_bi f)
      exact good_plain (de_bi n S.calm (soE S tk a _ h3).d (noStar_ok h2)) rfl
    · exact noF h
  | .bi2 f a b, e, h => by
    unfold chkE at h
    split at h
    · simp only [Bool.and_eq_true] at h
      obtain ⟨h1, h2, h3, h4, h5⟩ := h
      obtain ⟨n, rfl⟩ := S.bl h1 (boot_bi2 f)
      exact good_plain (de_bi2 n S.calm (soE S tk a _ h4).d (soE S tk b _ h5).d (noStar_ok h2) (noStar_ok h3)) rfl
    · exact noF h
  | .isi a t, e, h => by
    unfold chkE at h
    split at h
    · simp only [Bool.and_eq_true] at h
      obtain ⟨h1, h2, h3, h4⟩ := h
      obtain ⟨n, rfl⟩ := S.bl h1 boot_isi
      obtain ⟨n2, rfl⟩ := S.bl h2 (boot_ty t)
      exact good_plain (de_isi n n2 (soE S tk a _ h4).d (noStar_ok h3) (noStar_ok rfl)) rfl
    · exact noF h
  | .sub a b, e, h => by
    unfold chkE at h
    split at h
    · simp only [Bool.and_eq_true] at h
      obtain ⟨h1, h2, h3⟩ := h
      exact good_plain (de_sub (soE S tk a _ h2).d (soE S tk b _ h3).d (plainIx_ok h1)) rfl
    · exact noF h
  | .slc a lo hi, e, h => by
    unfold chkE at h
    split at h
    · simp only [Bool.and_eq_true] at h
      obtain ⟨h1, h2, h3⟩ := h
      exact good_plain (de_slc (soE S tk a _ h1).d ((soO S tk lo).1 _ h2) ((soO S tk hi).1 _ h3)) rfl
    · exact noF h
  | .pop i o, e, h => by
    unfold chkE at h
    split at h
    · rename_i x p m ap as cp
      simp only [Bool.and_eq_true, decide_eq_true_eq] at h
      obtain ⟨rfl, h1, h2, h3⟩ := h
      have n := S.nm h1
      have k : Mcall X x p "pop" ap cp := ⟨rfl, h2⟩
      rcases (soO S tk o).2.2 _ h3 with ⟨rfl, rfl⟩ | ⟨a, b, rfl, rfl, hs, hb⟩
      · exact good_plain (de_pop0 n k) rfl
      · exact good_plain (de_pop1 n k hb (noStar_ok hs)) rfl
    · exact noF h
  | .cmpV op i b, e, h => by
    unfold chkE at h
    split at h
    · simp only [Bool.and_eq_true, decide_eq_true_eq] at h
      obtain ⟨rfl, h0, h1, h2⟩ := h
      have n := S.nm h1
      have g := (soE S tk b _ h2).d
      have e : evE G (.cmpV op i b) = bind (cmpVM op i (evE G b)) fun t => ret (.bl t) := by
        unfold cmpVM
        simp only [bind_assoc]
        rfl
      rw [e]
      exact ⟨de_cmpV S.un n g (setFree_in h0), dt_cmpV S.un n g (setFree_in h0), fun ⟨_, _, _, e⟩ => by cases e⟩
    · exact noF h
  | .subV i b, e, h => by
    unfold chkE at h
    split at h
    · simp only [Bool.and_eq_true] at h
      obtain ⟨h1, h2, h3⟩ := h
      exact good_plain (de_subV (S.nm h2) (soE S tk b _ h3).d (plainIx_ok h1)) rfl
    · exact noF h
  | .biV f i, e, h => by
    unfold chkE at h
    split at h
    · simp only [Bool.and_eq_true] at h
      obtain ⟨n, rfl⟩ := S.bl h.1 (boot_bi f)
      exact good_plain (de_biV n S.calm (S.nm h.2) (noStar_ok rfl)) rfl
    · exact noF h
  | .cellV i, e, h => by
    unfold chkE at h
    split at h
    · exact good_plain (de_cellV (S.nm h)) rfl
    · exact noF h
theorem soEs {X : Cx} {W : WX} {c : Cc} (S : Sc X c G) (tk : Takes X W) : ∀ (i : IEs), (∀ es, chkEs c i es = true → DEs X W es (evEs G i)) ∧ (∀ ks, chkKs c i ks = true → DKs X W ks (evEs G i))
  | .nil => ⟨fun es h => by
    cases es with
    | nil => exact ds_nil
    | cons _ _ => simp [chkEs] at h, fun es h => by
    cases es with
    | nil => exact dk_nil
    | cons _ _ => simp [chkKs] at h⟩
  | .cons a r => ⟨fun es h => by
    cases es with
    | nil => simp [chkEs] at h
    | cons e es =>
      simp only [chkEs, Bool.and_eq_true] at h
      exact ds_cons (soE S tk a _ h.2.1).d ((soEs S tk r).1 _ h.2.2) (noStar_ok h.1 es), fun es h => by
    cases es with
    | nil => simp [chkKs] at h
    | cons e es =>
      obtain ⟨nm, e, p⟩ := e
      simp only [chkKs, Bool.and_eq_true] at h
      exact dk_cons (soE S tk a _ h.1).d ((soEs S tk r).2 _ h.2)⟩
theorem soO {X : Cx} {W : WX} {c : Cc} (S : Sc X c G) (tk : Takes X W) : ∀ (i : IO), (∀ e, chkO c i e = true → DO X W e (evO G i)) ∧ (∀ is, chkTst c i is = true → DTs X W is (evT G i)) ∧
    (∀ as, chkP c i as = true → (i = .none ∧ as = []) ∨ ∃ a e, i = .some a ∧ as = [e] ∧ noStar e = true ∧ DE X W e (evE G a))
  | .none => ⟨fun e h => by
    cases e with
    | none => exact do_none
    | some _ => simp [chkO] at h, fun is h => by
    cases is with
    | nil => exact dts_nil
    | cons _ _ => simp [chkTst] at h, fun is h => by
    cases is with
    | nil => exact .inl ⟨rfl, rfl⟩
    | cons _ _ => simp [chkP] at h⟩
  | .some a => ⟨fun e h => by
    cases e with
    | none => simp [chkO] at h
    | some e =>
      simp only [chkO] at h
      exact do_some (soE S tk a _ h).d, fun is h => by
    unfold chkTst at h
    split at h
    · exact dts_one (soE S tk a _ h).t
    · exact noF h, fun is h => by
    unfold chkP at h
    split at h
    · simp only [Bool.and_eq_true] at h
      exact .inr ⟨a, _, rfl, rfl, h.1, (soE S tk a _ h.2).d⟩
    · exact noF h⟩
theorem soF {X : Cx} {W : WX} {c : Cc} (S : Sc X c G) (tk : Takes X W) : ∀ (i : IF) (e : Expr), chkF c i e = true → GoodF X W c e (evF G i)
  | .disp es, e, h => by
    unfold chkF at h
    split at h
    · exact goodF_plain S (df_disp ((soEs S tk es).1 _ h)) rfl rfl
    · exact noF h
  | .lc elt t it ifs vs, e, h => by
    unfold chkF at h
    split at h
    · rename_i e tg iter is n scope pos
      simp only [Bool.and_eq_true, decide_eq_true_eq] at h
      obtain ⟨rfl, h0, h1, h2, h3, h4, h5, h6⟩ := h
      have hi : DI X W tg iter (evI G it) := soI S tk it tg iter h1
      have ok : BlkOk X.N X.env.scope scope (ownOf c vs) := by
        rw [S.N, S.sc]
        exact blkOk_by h2
      have hN : X.N.Nodup := by rw [S.N]; exact S.nd
      have hb := fun s H C cl fp => S.blk h2 s H C cl fp
      have hg : ∀ (s : Shared) (H : Hp) (C : Addr) (cl : List (Str × Addr)) (fp : List Addr), PG (X.blk s H scope (compEnvC scope cl C X.env) fp) tg (gM (ct X) t) := fun s H C cl fp => dg (hb s H C cl fp) t tg h4
      have ht : ∀ (s : Shared) (H : Hp) (C : Addr) (cl : List (Str × Addr)) (fp : List Addr), DTs (X.blk s H scope (compEnvC scope cl C X.env) fp) W0 is (evT G ifs) := fun s H C cl fp => (soO (hb s H C cl fp) (takes0 _ _ _ _ _) ifs).2.1 _ h5
      have he : ∀ (s : Shared) (H : Hp) (C : Addr) (cl : List (Str × Addr)) (fp : List Addr), DE (X.blk s H scope (compEnvC scope cl C X.env) fp) W0 e (evE G elt) := fun s H C cl fp => (soE (hb s H C cl fp) (takes0 _ _ _ _ _) elt _ h6).d
      have hs := setFree_it h0 X.env
      have hv := ownOf_snd c vs
      have hts : ∀ i ∈ tgS t, i ∈ (ownOf c vs).map (·.2) := by rw [hv]; exact subB_ok h3
      have hd : DF X W (.ListComp e [⟨tg, iter, is, 0⟩] scope pos) (lcM (evI G it) t (evT G ifs) (evE G elt) ((ownOf c vs).map (·.2))) := df_lc S.calm hN hi ok hg ht he hs hts
      rw [hv] at hd
      refine ⟨hd, rfl, fun i y py spos hy hl => ?_⟩
      obtain ⟨l1, l2⟩ := S.loc hl
      have hyN : X.N[i]? = some y := by rw [S.N]; exact hy
      have hb0 : X.env.blockKind = .function ∨ X.env.blockKind ≠ .function := Classical.em _
      have sw : ∃ b, swapsWith (.ListComp e [⟨tg, iter, is, 0⟩] scope pos) (some (.Name y py)) spos.line X.env = pure b ∧ (b = true → X.env.scope.names.lookup y = some .local) := by
        unfold swapsWith
        refine ⟨_, rfl, fun h => ?_⟩
        simp only [Bool.and_eq_true] at h
        have := h.1.1.2
        unfold Env.kindOf at this
        simpa using this
      obtain ⟨b, e1, e2⟩ := sw
      cases b with
      | false => exact ps_set hN hyN l1 hd e1 l2
      | true =>
        refine (ps_setLc (tt := tM (ct X) W0 rB (evT G ifs)) (te := tM (ct X) W0 (rD (ct X)) (evE G elt)) S.calm hN hyN (e2 rfl) e1 hi ok hg ht he hs).imp fun D σ H q => ?_
        have q2 : tF (ct X) W (lcM (evI G it) t (evT G ifs) (evE G elt) vs) σ H (fun x H1 => gName i x σ H1 D.nx) := q
        rw [← hv] at q2
        exact lc_read hts q2
    · exact noF h
  | .lc2 .., e, h => by
    unfold chkF at h
    exact noF h
  | .cat a b, e, h => by
    unfold chkF at h
    split at h
    · simp only [Bool.and_eq_true] at h
      exact goodF_plain S (df_cat (soE S tk a _ h.1).d (soE S tk b _ h.2).d) rfl rfl
    · exact noF h
  | .rep a b, e, h => by
    unfold chkF at h
    split at h
    · simp only [Bool.and_eq_true] at h
      exact goodF_plain S (df_rep (soE S tk a _ h.1).d (soE S tk b _ h.2).d) rfl rfl
    · exact noF h
  | .list a, e, h => by
    unfold chkF at h
    split at h
    · simp only [Bool.and_eq_true] at h
      obtain ⟨h1, h2, h3⟩ := h
      obtain ⟨n, rfl⟩ := S.bl h1 boot_list
      exact goodF_plain S (df_list n (soE S tk a _ h3).d (noStar_ok h2)) rfl rfl
    · exact noF h
  | .listR a, e, h => by
    unfold chkF at h
    split at h
    · simp only [Bool.and_eq_true] at h
      obtain ⟨h1, h2, h3, h4⟩ := h
      obtain ⟨n, rfl⟩ := S.bl h1 boot_list
      obtain ⟨n2, rfl⟩ := S.bl h2 boot_range
      exact goodF_plain S (df_listR S.calm n n2 (soE S tk a _ h4).d (noStar_ok h3) (noStar_ok rfl)) rfl rfl
    · exact noF h
theorem soI {X : Cx} {W : WX} {c : Cc} (S : Sc X c G) (tk : Takes X W) : ∀ (i : II) (tg e : Expr), chkI c i e = true → DI X W tg e (evI G i)
  | .seq a, tg, e, h => by
    unfold chkI at h
    exact di_seq (soE S tk a _ h).d
  | .range1 a, tg, e, h => by
    unfold chkI at h
    split at h
    · simp only [Bool.and_eq_true] at h
      obtain ⟨h1, h2, h3⟩ := h
      obtain ⟨n, rfl⟩ := S.bl h1 boot_range
      exact di_range1 n.gl n.mg (soE S tk a _ h3).d (noStar_ok h2)
    · exact noF h
  | .range2 a b, tg, e, h => by
    unfold chkI at h
    split at h
    · simp only [Bool.and_eq_true] at h
      obtain ⟨h1, h2, h3, h4, h5⟩ := h
      obtain ⟨n, rfl⟩ := S.bl h1 boot_range
      exact di_range2 n.gl n.mg (soE S tk a _ h4).d (soE S tk b _ h5).d (noStar_ok h2) (noStar_ok h3)
    · exact noF h
  | .enum .., tg, e, h => by
    unfold chkI at h
    exact noF h
  | .zip .., tg, e, h => by
    unfold chkI at h
    exact noF h
end
end
end Z

/-! Z17: statements against the program's text. -/
namespace Z
open PySem PySem.Spec L2
open PyProof.Rows hiding St

def nmsB (c : Cc) (is : List Nat) (xs : List Str) : Bool := decide (is.map (fun i => c.N[i]?) = xs.map some) && decide (is.Nodup)
def locs (c : Cc) (xs : List Str) : Bool := xs.all fun x => decide (c.sc.names.lookup x = some .local)
def nameE : Expr → Option Str
  | .Name x _ => some x
  | _ => none
mutual
def chkS (c : Cc) : IS → Stmt → Bool
  | .asg t e, s => match s with
    | .Assign [tg] v _ => match tg with
      | .Name y _ => match swB v with
        | true => match t, e with
          | .nm i, .mk _ f => decide (c.N[i]? = some y) && (locB c y && chkF c f v)
          | _, _ => false
        | false => chkT c t tg && chkE c e v
      | .Tuple ts _ _ => !swB v && (chkT c t tg && (chkE c e v && (match v with
        | .Tuple vs _ _ => decide (swapped c ts vs = some none)
        | _ => true)))
      | _ => false
    | _ => false
  | .par is es, s => match s with
    | .Assign [.Tuple ts _ _] (.Tuple vs _ _) _ => match ts.map nameE, is with
      | [some x, some y], [i, j] => decide (vs.length = 2) && (decide (swapped c ts vs = some (some [x, y])) && (nmsB c is [x, y] && (locs c [x, y] && chkEs c es vs)))
      | [some x, some y, some z], [i, j, l] => decide (vs.length = 3) && (decide (swapped c ts vs = some (some [x, y, z])) && (nmsB c is [x, y, z] && (locs c [x, y, z] && chkEs c es vs)))
      | _, _ => false
    | _ => false
  | .own i f, s => match s with
    | .Assign [.Name y _] v _ => decide (c.N[i]? = some y) && (locB c y && chkF c f v)
    | _ => false
  | .expr e, s => match s with
    | .Expr v _ => !swB v && chkE c e v
    | _ => false
  | .ret e, s => match s with
    | .Return (some v) _ => chkE c e v
    | _ => false
  | .retN, s => match s with
    | .Return none _ => true
    | _ => false
  | .pass, s => match s with
    | .Pass _ => true
    | .Expr (.Constant (.str _) _ _) _ => true
    | _ => false
  | .brk, s => match s with
    | .Break _ => true
    | _ => false
  | .cnt, s => match s with
    | .Continue _ => true
    | _ => false
  | .ite t a b, s => match s with
    | .If e x y _ => chkE c t e && (chkSs c a x && chkSs c b y)
    | _ => false
  | .for t it b, s => match s with
    | .For tg iter body [] _ => chkT c t tg && (chkI c it iter && (setFree iter && chkSs c b body))
    | _ => false
  | .whl t b, s => match s with
    | .While e body [] _ => chkE c t e && chkSs c b body
    | _ => false
  | .set i ix e, s => match s with
    | .Assign [.Subscript (.Name x _) b _] v _ => plainIx b && (nmB c i x && (chkE c ix b && chkE c e v))
    | _ => false
  | .mth i m es, s => match s with
    | .Expr (.Call (.Attribute (.Name x _) a ap) as [] cp) _ => nmB c i x && ((ap.endLine == cp.line) && (chkEs c es as && (match m with
      | .append => decide (a = "append") && decide (as.length = 1)
      | .reverse => decide (a = "reverse") && as.isEmpty
      | _ => false)))
    | _ => false
def chkSs (c : Cc) : ISs → List Stmt → Bool
  | .nil, [] => true
  | .cons a r, s :: ss => chkS c a s && chkSs c r ss
  | _, _ => false
end
theorem sole {tg e : Expr} {l : Nat} {env : PySem.Env} {r : Sem Bool} (h : swapsWith e (some tg) l env = r) : swapsWithSole [tg] e l env = r := h
theorem nameE_inv {e : Expr} {x : Str} (h : nameE e = some x) : ∃ p, e = .Name x p := by
  cases e <;> simp [nameE] at h
  subst h
  exact ⟨_, rfl⟩
theorem names2 {ts : List Expr} {x y : Str} (h : ts.map nameE = [some x, some y]) : ∃ p q, ts = [.Name x p, .Name y q] := by
  obtain ⟨a, r, rfl, h1, h2⟩ := List.map_eq_cons_iff.mp h
  obtain ⟨b, r, rfl, h3, h4⟩ := List.map_eq_cons_iff.mp h2
  rw [List.map_eq_nil_iff] at h4
  subst h4
  obtain ⟨p, rfl⟩ := nameE_inv h1
  obtain ⟨q, rfl⟩ := nameE_inv h3
  exact ⟨p, q, rfl⟩
theorem names3 {ts : List Expr} {x y z : Str} (h : ts.map nameE = [some x, some y, some z]) : ∃ p q r, ts = [.Name x p, .Name y q, .Name z r] := by
  obtain ⟨a, r, rfl, h1, h2⟩ := List.map_eq_cons_iff.mp h
  obtain ⟨p, q, rfl⟩ := names2 h2
  obtain ⟨o, rfl⟩ := nameE_inv h1
  exact ⟨o, p, q, rfl⟩
theorem swNot {e tg : Expr} (h : nameE tg = none) (l : Nat) (env : PySem.Env) : swapsWith e (some tg) l env = pure false := by
  cases e <;> first | rfl | (cases tg <;> first | rfl | cases h)
section
variable {G : Gm} {X : Cx} {W : WX} {c : Cc}
theorem par2_ok (S : Sc X c G) (hk : c.sc.kind = .function) {ts vs : List Expr} {kt k2 pt pt2 pos} {i j : Nat} {x y : Str} {es : IEs} (hx : ts.map nameE = [some x, some y]) (h1 : vs.length = 2) (h2 : swapped c ts vs = some (some [x, y])) (h3 : nmsB c [i, j] [x, y] = true) (h4 : locs c [x, y] = true)
    (ha : DEs X W vs (evEs G es)) : DS X W (.Assign [.Tuple ts kt pt] (.Tuple vs k2 pt2) pos) (evS G (.par [i, j] es)) := by
  obtain ⟨px, py, rfl⟩ := names2 hx
  · match vs, h1 with
    | [a, b], _ =>
      unfold nmsB at h3
      simp only [Bool.and_eq_true, decide_eq_true_eq, List.map_cons, List.map_nil, List.cons.injEq, and_true] at h3
      unfold locs at h4
      simp only [List.all_cons, List.all_nil, Bool.and_true, Bool.and_eq_true, decide_eq_true_eq] at h4
      have hij : i ≠ j := fun z => by
        have := h3.2
        simp [z] at this
      refine ds_par (is := [i, j]) (ps_par S.calm (by rw [S.N]; exact S.nd) (by rw [S.N]; exact h3.1.1) (by rw [S.N]; exact h3.1.2) hij (by rw [S.sc]; exact h4.1) (by rw [S.sc]; exact h4.2) ha (swapped_ok S.sc hk h2) rfl) fun D σ H q => ?_
      refine tM.imp q fun us H1 ⟨hl, q⟩ => ?_
      match us, hl, q with
      | [v, w], _, q => exact ⟨v, w, rfl, q⟩
theorem par3_ok (S : Sc X c G) (hk : c.sc.kind = .function) {ts vs : List Expr} {kt k2 pt pt2 pos} {i j l : Nat} {x y z : Str} {es : IEs} (hx : ts.map nameE = [some x, some y, some z]) (h1 : vs.length = 3) (h2 : swapped c ts vs = some (some [x, y, z])) (h3 : nmsB c [i, j, l] [x, y, z] = true) (h4 : locs c [x, y, z] = true)
    (ha : DEs X W vs (evEs G es)) : DS X W (.Assign [.Tuple ts kt pt] (.Tuple vs k2 pt2) pos) (evS G (.par [i, j, l] es)) := by
  obtain ⟨px, py, pz, rfl⟩ := names3 hx
  · match vs, h1 with
    | [a, b, c'], _ =>
      unfold nmsB at h3
      simp only [Bool.and_eq_true, decide_eq_true_eq, List.map_cons, List.map_nil, List.cons.injEq, and_true] at h3
      unfold locs at h4
      simp only [List.all_cons, List.all_nil, Bool.and_true, Bool.and_eq_true, decide_eq_true_eq] at h4
      have hnd := h3.2
      simp only [List.nodup_cons, List.mem_cons, List.not_mem_nil, or_false, not_or, not_false_eq_true, List.nodup_nil, and_true] at hnd
      refine ds_par (is := [i, j, l]) (ps_par3 S.calm (by rw [S.N]; exact S.nd) (by rw [S.N]; exact h3.1.1) (by rw [S.N]; exact h3.1.2.1) (by rw [S.N]; exact h3.1.2.2) hnd.1.1 hnd.1.2 hnd.2 (by rw [S.sc]; exact h4.1) (by rw [S.sc]; exact h4.2.1) (by rw [S.sc]; exact h4.2.2) ha (swapped_ok S.sc hk h2) rfl) fun D σ H q => ?_
      refine tM.imp q fun us H1 ⟨hl, q⟩ => ?_
      match us, hl, q with
      | [v, w, u], _, q => exact ⟨v, w, u, rfl, q⟩
mutual
theorem soS (S : Sc X c G) (hk : c.sc.kind = .function) (tk : Takes X W) (hp : PassesOwn (model X.prog X.w) X.A X.env X.xe) : ∀ (i : IS) (s : Stmt), chkS c i s = true → DS X W s (evS G i)
  | .asg t e, s, h => by
    unfold chkS at h
    split at h
    · rename_i tg v pos
      split at h
      · rename_i y py
        split at h
        · rename_i hsw
          split at h
          · simp only [Bool.and_eq_true, decide_eq_true_eq] at h
            exact ds_asgF ((soF S tk _ v h.2.2).s _ _ _ _ h.1 h.2.1)
          · exact noF h
        · rename_i hsw
          simp only [Bool.and_eq_true] at h
          exact ds_asg (soE S tk e v h.2).d (dg S t _ h.1) (sole (swB_ok hsw _ _ _)) rfl rfl
      · rename_i ts kt pt
        simp only [Bool.and_eq_true, Bool.not_eq_true'] at h
        obtain ⟨h0, h1, h2, h3⟩ := h
        refine ds_asg (soE S tk e v h2).d (dg S t _ h1) (sole (swB_ok h0 _ _ _)) ?_ rfl
        cases v <;> first | rfl | skip
        simp only [decide_eq_true_eq] at h3
        exact swapped_ok S.sc hk h3
      · exact noF h
    · exact noF h
  | .par is es, s, h => by
    unfold chkS at h
    split at h
    · rename_i ts kt pt vs k2 pt2 pos
      split at h
      · rename_i x y i j hx
        simp only [Bool.and_eq_true, decide_eq_true_eq] at h
        obtain ⟨h1, h2, h3, h4, h5⟩ := h
        exact par2_ok S hk hx h1 h2 h3 h4 ((soEs S tk es).1 _ h5)
      · rename_i x y z i j l hx
        simp only [Bool.and_eq_true, decide_eq_true_eq] at h
        obtain ⟨h1, h2, h3, h4, h5⟩ := h
        exact par3_ok S hk hx h1 h2 h3 h4 ((soEs S tk es).1 _ h5)
      · exact noF h
    · exact noF h
  | .own i f, s, h => by
    unfold chkS at h
    split at h
    · simp only [Bool.and_eq_true, decide_eq_true_eq] at h
      exact ds_own ((soF S tk f _ h.2.2).s _ _ _ _ h.1 h.2.1)
    · exact noF h
  | .expr e, s, h => by
    unfold chkS at h
    split at h
    · simp only [Bool.and_eq_true, Bool.not_eq_true'] at h
      exact ds_expr (soE S tk e _ h.2).d (swB_ok h.1 _ _ _)
    · exact noF h
  | .ret e, s, h => by
    unfold chkS at h
    split at h
    · exact ds_ret (soE S tk e _ h).d
    · exact noF h
  | .retN, s, h => by
    unfold chkS at h
    split at h
    · exact ds_retN
    · exact noF h
  | .pass, s, h => by
    unfold chkS at h
    split at h
    · exact ds_pass
    · exact ds_doc
    · exact noF h
  | .brk, s, h => by
    unfold chkS at h
    split at h
    · exact ds_brk
    · exact noF h
  | .cnt, s, h => by
    unfold chkS at h
    split at h
    · exact ds_cnt
    · exact noF h
  | .ite t a b, s, h => by
    unfold chkS at h
    split at h
    · simp only [Bool.and_eq_true] at h
      exact ds_ite (soE S tk t _ h.1).t (soSs S hk tk hp a _ h.2.1) (soSs S hk tk hp b _ h.2.2)
    · exact noF h
  | .for t it b, s, h => by
    unfold chkS at h
    split at h
    · simp only [Bool.and_eq_true] at h
      obtain ⟨h1, h2, h3, h4⟩ := h
      exact ds_for hp S.calm (soI S tk it _ _ h2) (dg S t _ h1) (soSs S hk tk hp b _ h4) (setFree_it h3 _)
    · exact noF h
  | .whl t b, s, h => by
    unfold chkS at h
    split at h
    · simp only [Bool.and_eq_true] at h
      exact ds_whl hp (soE S tk t _ h.1).t (soSs S hk tk hp b _ h.2)
    · exact noF h
  | .set i ix e, s, h => by
    unfold chkS at h
    split at h
    · rename_i x pn b pt v pos
      simp only [Bool.and_eq_true] at h
      obtain ⟨h0, h1, h2, h3⟩ := h
      refine ds_set (S.nm h1) (soE S tk e _ h3).d (soE S tk ix _ h2).d (sole (swNot rfl _ _)) rfl rfl fun w => ?_
      cases b <;> first | rfl | cases h0
    · exact noF h
  | .mth i m es, s, h => by
    unfold chkS at h
    split at h
    · rename_i x p a ap as cp pos
      simp only [Bool.and_eq_true] at h
      obtain ⟨h1, h2, h3, h4⟩ := h
      have n := S.nm h1
      cases m with
      | append =>
        simp only [Bool.and_eq_true, decide_eq_true_eq] at h4
        obtain ⟨rfl, h4⟩ := h4
        match as, h4 with
        | [e], _ =>
          have hs : noStar e = true := by
            cases es with
            | nil => simp [chkEs] at h3
            | cons a r =>
              simp only [chkEs, Bool.and_eq_true] at h3
              exact h3.1
          exact ds_mth (pe_append n ⟨rfl, h2⟩ ((soEs S tk es).1 _ h3) (noStar_ok hs)) (swB_ok rfl _ _ _)
      | reverse =>
        simp only [Bool.and_eq_true, decide_eq_true_eq, List.isEmpty_iff] at h4
        obtain ⟨rfl, rfl⟩ := h4
        cases es with
        | nil => exact ds_mth (pe_reverse n ⟨rfl, h2⟩) (swB_ok rfl _ _ _)
        | cons a r => simp [chkEs] at h3
      | _ => exact noF h4
    · exact noF h
theorem soSs (S : Sc X c G) (hk : c.sc.kind = .function) (tk : Takes X W) (hp : PassesOwn (model X.prog X.w) X.A X.env X.xe) : ∀ (i : ISs) (s : List Stmt), chkSs c i s = true → DSs X W s (evSs G i)
  | .nil, s, h => by
    cases s with
    | nil => exact dss_nil
    | cons _ _ => simp [chkSs] at h
  | .cons a r, s, h => by
    cases s with
    | nil => simp [chkSs] at h
    | cons s ss =>
      simp only [chkSs, Bool.and_eq_true] at h
      exact dss_cons (soS S hk tk hp a s h.1) (soSs S hk tk hp r ss h.2)
end
end
end Z

/-! Z18: defs. -/
namespace Z
open PySem PySem.Spec L2
open PyProof.Rows hiding St

theorem relDs_get' {C : Ct} {F : Hp} {L : List Addr} : ∀ {vs : List V} {ds : List D}, RelDs C F L vs ds → ∀ (i : Nat) (d : D), ds[i]? = some d → ∃ v, vs[i]? = some v ∧ RelD C F L v d := fun r i d h => r.get h
theorem start_E {C : Ct} {w : Wd} {H : Hp} {N : List Str} {vs : List V} {ds : List D} (r : RelDs C w.F w.L vs ds) : RelE C w H (L2.start N vs) (startE N.length ds) ∧ ∀ a, ¬ Own (L2.start N vs) (startE N.length ds) a := by
  have hl := r.length
  have get : ∀ (i : Nat) (s : Sl), (startE N.length ds)[i]? = some s → (∃ d, ds[i]? = some d ∧ s = .val d) ∨ s = .un := by
    intro i s h
    unfold startE at h
    by_cases hi : i < ds.length
    · rw [List.getElem?_append_left (by simpa using hi), List.getElem?_map] at h
      rw [List.getElem?_eq_getElem hi] at h
      exact .inl ⟨_, List.getElem?_eq_getElem hi, by simpa using h.symm⟩
    · rw [List.getElem?_append_right (by simp; omega)] at h
      exact .inr (List.eq_of_mem_replicate (List.mem_of_getElem? h))
  refine ⟨⟨?_, fun i d h => ?_, fun i c h => ?_, fun i j c c' a h => ?_⟩, fun a ⟨i, c, h, _⟩ => ?_⟩
  · unfold startE L2.start
    simp [hl]
  · rcases get i _ h with ⟨d', h1, h2⟩ | h1
    · cases h2
      obtain ⟨v, h3, h4⟩ := r.get h1
      refine ⟨v, ?_, h4⟩
      unfold L2.start
      rw [List.getElem?_append_left (by rw [List.length_map]; exact (List.getElem?_eq_some_iff.mp h3).1), List.getElem?_map, h3]
      rfl
    · cases h1
  · rcases get i _ h with ⟨d', h1, h2⟩ | h1
    · cases h2
    · cases h1
  · rcases get i _ h with ⟨d', h1, h2⟩ | h1
    · cases h2
    · cases h1
  · rcases get i _ h with ⟨d', h1, h2⟩ | h1
    · cases h2
    · cases h1
theorem Step.none {w w' : Wd} {H H' : Hp} {O O' : Addr → Prop} (s : Step w H O w' H' O') (h : ∀ a, ¬ O a) : Step w H (fun _ => False) w' H' (fun _ => False) :=
  ⟨s.gr, fun a o h1 h2 _ => s.keep a o h1 h2 (h a), fun a o h1 => by
    rcases s.newF a o h1 with z | z | z
    · exact .inl z
    · exact absurd z (h a)
    · exact .inr (.inr z), fun a h1 => by
    rcases s.newL a h1 with z | z | z
    · exact .inl z
    · exact absurd z (h a)
    · exact .inr (.inr z), fun a z => z.elim, s.dom⟩
theorem run_len {G : Gm} {d : Def} (ds : List D) (st : Store) (h : run G d ds st ≠ .bad) : ds.length = d.np := by
  unfold run at h
  by_cases hl : ds.length = d.np
  · exact hl
  · rw [if_neg hl] at h
    exact absurd rfl h
theorem def_run {C : Ct} {G : Gm} {d : Def} {N : List Str} {vs : List V} {H : Hp} {Q : VK} {E : XK} (hn : d.nn = N.length) (h : spF C d.np (run G d) vs H Q E) :
    tS C (fun cls dd _ H => E cls dd H) (evSs G d.body) { nx := fun _ H' => Q .non H', rt := Q } (L2.start N vs) H := by
  obtain ⟨hl, w, ds, st, hs, rd, h⟩ := h
  obtain ⟨he, hno⟩ := start_E (C := C) (w := w) (H := H) (N := N) rd
  refine ⟨w, startE N.length ds, st, hs, he, ?_⟩
  unfold run at h
  rw [if_pos (by rw [← rd.length]; exact hl), hn] at h
  cases e : evSs G d.body (startE N.length ds) st with
  | ok f ρ' st' =>
    rw [e] at h
    cases f with
    | ret v => exact fun σ' w' H' r1 r2 s u ru => h u w' H' r1 (s.none hno) ru
    | next => exact fun σ' w' H' r1 r2 s => h .non w' H' r1 (s.none hno) .non
    | brk => exact h.elim
    | cnt => exact h.elim
  | exc x ρ' st' =>
    rw [e] at h
    exact fun σ' cls dd w' H' r1 r2 s rx => h cls dd w' H' r1 (s.none hno) rx
  | bad => rw [e] at h; exact h.elim
/-- what is known of the module's names -/
structure Sg (P : Program) (W₀ : World) (C : Ct) (base : Heap) (k : Nat) (gn : List Str) (gp : List (List Pat)) (gc : List Str) (G : Gm) : Prop where
  blt : ∀ x ∈ bltNames, C.mg x = none
  fs : ∀ (j : Nat) (x : Str), gn[j]? = some x → ∃ F k', G.fs[j]? = some F ∧ Callee P W₀ C base k' x F (gp.getD j []) ∧ k' ≤ k
  cs : ∀ (j : Nat) (x : Str), gc[j]? = some x → ∃ d u v, G.cs[j]? = some d ∧ C.mg x = some u ∧ RelV v u ∧ ∀ F L, RelD C F L v d
/-- the text of a def -/
structure Txt where
  x : Str
  params : Arguments
  body : List Stmt
  scope : Scope
  ps : List Str
  N : List Str
def Txt.cc (t : Txt) (gn : List Str) (gp : List (List Pat)) (gc : List Str) : Cc := ⟨t.scope, fun _ => true, t.N, gn, gp, gc⟩
section
variable {P : Program} {W₀ : World} {K : PySem.W.Frag} {mg : Str → Option Value} {base : Heap} {k : Nat} {f : Addr} {fd : FuncData} {t : Txt} {d : Def} {gn : List Str} {gp : List (List Pat)} {gc : List Str} {G : Gm}
theorem def_ok (F : FunD K t.x t.x t.params t.body t.scope [] [] f fd) (S : FnScope t.N t.ps t.scope) (h1 : d.np = t.ps.length) (h2 : d.nn = t.N.length) (g : Sg P W₀ ⟨K, mg⟩ base k gn gp gc G) (chk : chkSs (t.cc gn gp gc) d.body t.body = true) :
    FnOk P W₀ K mg base (L2.CX P W₀) (k + 1) f fd t.ps (spF ⟨K, mg⟩ t.ps.length (run G d)) := by
  refine F.ok S (fun vs H Q E h => h.1) fun cdv A outer s H vs Q E hr h => ⟨tS ⟨K, mg⟩ (fun cls dd _ H => E cls dd H) (evSs G d.body), ?_, ?_⟩
  · have sc : Sc (cxOf (L2.CX P W₀) P W₀ K mg base t.N t.x t.scope f cdv A outer s H E) (t.cc gn gp gc) G := by
      refine ⟨rfl, fun _ => rfl, rfl, S.nd, rfl, hr.units, g.blt, fun j x hj => ?_, g.cs⟩
      obtain ⟨F', k', q1, q2, q3⟩ := g.fs j x hj
      exact ⟨F', k', q1, q2, hr.mono q3⟩
    exact soSs (W := fun cls dd _ H => E cls dd H) sc S.kind (takes_of rfl rfl rfl rfl) (passes_of rfl) d.body t.body chk
  · exact def_run (C := ⟨K, mg⟩) h2 (by rw [h1]; exact h)
/-- how a def's arguments bind -/
structure Bnd (t : Txt) (pats : List Pat) : Prop where
  pos : ∀ (kV doc pm : Value) (an : Option Addr) (cdv ct : Value) (us : List Value), us.length = t.ps.length → bindArgs (PySem.W.fnOf t.x t.x t.params t.body t.scope .none kV doc pm an cdv ct) ⟨us, []⟩ = pure (t.ps.zip us)
  kw : ∀ p ∈ pats, p.ord.length = t.ps.length ∧ (∀ i ∈ p.ord, i < p.np + p.ks.length) ∧ p.ord ≠ [] ∧ ∀ (kV doc pm : Value) (an : Option Addr) (cdv ct : Value) (us ws : List Value), us.length = p.np → ws.length = p.ks.length →
    bindArgs (PySem.W.fnOf t.x t.x t.params t.body t.scope .none kV doc pm an cdv ct) ⟨us, p.ks.zip ws⟩ = pure (t.ps.zip (pickV p.ord (us ++ ws)))
theorem callee_mk {pats : List Pat} {Fn' : Fn} (hm : mg t.x = some (.ref f)) (F : FunD K t.x t.x t.params t.body t.scope [] [] f fd) (b : Bnd t pats) (ok : FnOk P W₀ K mg base (L2.CX P W₀) k f fd t.ps (spF ⟨K, mg⟩ t.ps.length Fn')) (hl : ∀ ds st, Fn' ds st ≠ .bad → ds.length = t.ps.length) :
    Callee P W₀ ⟨K, mg⟩ base k t.x Fn' pats := by
  obtain ⟨oc, od, dV, kV, doc, pm, an, cdv, ct, osl, e, _, _, hD, _⟩ := F.ex
  have e0 : dV = .none := by
    rcases hD with ⟨_, e0⟩ | ⟨e0, _⟩
    · exact e0
    · exact absurd rfl e0
  subst e0
  refine ⟨f, fd, t.ps, hm, ok, F.kp, hl, fun us h => ?_, fun p hp => ?_⟩
  · rw [e]; exact b.pos _ _ _ _ _ _ us h
  · obtain ⟨q1, q2, q3, q4⟩ := b.kw p hp
    exact ⟨q1, q2, q3, fun us ws h1 h2 => by rw [e]; exact q4 _ _ _ _ _ _ us ws h1 h2⟩
theorem callee_of {pats : List Pat} (hm : mg t.x = some (.ref f)) (F : FunD K t.x t.x t.params t.body t.scope [] [] f fd) (S : FnScope t.N t.ps t.scope) (h1 : d.np = t.ps.length) (h2 : d.nn = t.N.length) (b : Bnd t pats) (g : Sg P W₀ ⟨K, mg⟩ base k gn gp gc G)
    (chk : chkSs (t.cc gn gp gc) d.body t.body = true) : Callee P W₀ ⟨K, mg⟩ base (k + 1) t.x (run G d) pats :=
  callee_mk hm F b (def_ok F S h1 h2 g chk) fun ds st h => (run_len ds st h).trans h1
theorem Callee.up {C : Ct} {x : Str} {F : Fn} {pats : List Pat} {j : Nat} (c : Callee P W₀ C base k x F pats) (h : k ≤ j) : Callee P W₀ C base j x F pats := by
  obtain ⟨f, fd, ps, q1, q2, q3⟩ := c.ex
  exact ⟨f, fd, ps, q1, q2.mono h, q3⟩
/-- a def that calls itself, so deep at most -/
theorem callee_rec {pats : List Pat} (hm : mg t.x = some (.ref f)) (F : FunD K t.x t.x t.params t.body t.scope [] [] f fd) (S : FnScope t.N t.ps t.scope) (h1 : d.np = t.ps.length) (h2 : d.nn = t.N.length) (b : Bnd t pats) (g : Sg P W₀ ⟨K, mg⟩ base k gn gp gc G)
    (chk : chkSs (t.cc (t.x :: gn) (pats :: gp) gc) d.body t.body = true) : ∀ n, Callee P W₀ ⟨K, mg⟩ base (k + n) t.x (runRec G d n) pats
  | 0 => callee_mk hm F b ⟨fun vs H Q E h => h.1, fun A outer s H args us vs Q E hr e0 hb rv h => by
      obtain ⟨_, w, ds, st, _, _, h⟩ := h
      exact h.elim⟩ fun ds st h => absurd rfl h
  | n + 1 => by
    have ih := callee_rec hm F S h1 h2 b g chk n
    refine callee_of (k := k + n) (gn := t.x :: gn) (gp := pats :: gp) (gc := gc) (G := ⟨runRec G d n :: G.fs, G.cs⟩) hm F S h1 h2 b ⟨g.blt, fun j x hj => ?_, g.cs⟩ chk
    cases j with
    | zero =>
      cases hj
      exact ⟨_, k + n, rfl, ih, Nat.le_refl _⟩
    | succ j =>
      obtain ⟨F', k', q1, q2, q3⟩ := g.fs j x hj
      exact ⟨F', k', q1, q2, Nat.le_trans q3 (Nat.le_add_right _ _)⟩
end
section
variable {P : Program} {W₀ : World} {C : Ct} {base : Heap} {k : Nat} {gn : List Str} {gp : List (List Pat)} {gc : List Str} {G : Gm}
theorem Sg.nil (h : ∀ x ∈ bltNames, C.mg x = none) : Sg P W₀ C base k [] [] [] ⟨[], []⟩ := ⟨h, fun j x e => (by cases e), fun j x e => (by cases e)⟩
theorem Sg.addF (g : Sg P W₀ C base k gn gp gc G) {k' : Nat} {x : Str} {F : Fn} {pats : List Pat} (c : Callee P W₀ C base k' x F pats) (h : k' ≤ k) : Sg P W₀ C base k (x :: gn) (pats :: gp) gc ⟨F :: G.fs, G.cs⟩ :=
  ⟨g.blt, fun j y e => by
    cases j with
    | zero => cases e; exact ⟨F, k', rfl, c, h⟩
    | succ j => exact g.fs j y e, g.cs⟩
theorem Sg.addC (g : Sg P W₀ C base k gn gp gc G) {x : Str} {d : D} {u : Value} {v : V} (hm : C.mg x = some u) (r : RelV v u) (rd : ∀ F L, RelD C F L v d) : Sg P W₀ C base k gn gp (x :: gc) ⟨G.fs, d :: G.cs⟩ :=
  ⟨g.blt, g.fs, fun j y e => by
    cases j with
    | zero => cases e; exact ⟨d, u, v, rfl, hm, r, rd⟩
    | succ j => exact g.cs j y e⟩
theorem law_end {F : Fn} (ns : List Int) {n : Nat} (hl : ns.length ≤ n) {H : Hp} {a : Addr} (hS : SqL C.K H a (ns.map V.int)) (ht : ∀ ns : List Int, ns.length ≤ n → ∃ st, F [.scr ns] [] = .ok (.bl true) st) :
    spF C 1 F [.ref a] H (fun v _ => v = .bl true) fun _ _ _ => False := by
  obtain ⟨st, e⟩ := ht ns hl
  refine ⟨rfl, ⟨H, []⟩, [.scr ns], [], ⟨rfl, List.nodup_nil, fun _ _ z => z, fun _ z => (by cases z), fun _ _ _ z => (by cases z)⟩, .cons (.scr hS) .nil, ?_⟩
  rw [e]
  intro v w' H' _ _ r
  cases r
  rfl
end
end Z

/-! Z19: the end. -/
namespace Z
open PySem PySem.Spec L2
open PyProof.Rows hiding St
theorem walk_ofW {l : PySem.W.OpenLaw} {n k : Nat} {q : Program} {loose : List Str} {XP : (Str → Option Value) → Heap → Prop} {YP : World → Heap → Prop} {d : DefRec} {CX : World → CXT} {x : Str}
    (hn : l.most = some n) (hn2 : n ≤ sizeLine) (hdf : d.params.defaults = []) (hr : Room k callerA)
    (F : ∀ (w : World) (mg : Str → Option Value) (fa : Addr) (h : Heap), YP w h → h.Ns mainGlobals mg → mg d.name = some (.ref fa) →
      ∃ (K : PySem.W.Frag) (fd : FuncData) (sp : Sp), K.In h ∧ (∀ (s : Shared) (u : Value), BindsTo s fd ⟨[u], []⟩ [(x, u)]) ∧
        (∀ (H : Hp) (a : Addr) (ns : List Int), ns.length ≤ n → SqL K H a (ns.map V.int) → sp [.ref a] H (fun v _ => v = .bl true) fun _ _ _ => False) ∧
        ∀ base : Heap, K.In base → base.Ns mainGlobals mg → FnOk l.prog w K mg base (CX w) k fa fd [x] sp)
    (hCX : ∀ (w : World) (H : Hp) (s : Shared) (e : Value) (s' : Shared), CX w [] H s (fun _ _ _ => False) e s' → False) :
    PySem.W.WalkO q loose XP YP l.row.toRowW d [] (fun f vs => PySem.call f vs) := by
  refine Att.attach_call hn hdf fun w s₀ s₁ mg mb fa o pm cd doc a vs ns G Y ho hd hcd hmg hobj hints hlen hg => ?_
  obtain ⟨K, fd, sp, KX, hb, hsp, hF⟩ := F w mg fa _ Y G.T.g hmg
  exact law_call KX G.T.g G.T.b G.T.builtins G.T.nolimit hg hobj hints (Nat.le_trans hlen hn2) hr hF hb (fun H hO hS => hsp H a ns hlen hS) fun H e s' => hCX w H s₁ e s'
theorem cx_end {P : Program} (w : World) (H : Hp) (s : Shared) (e : Value) (s' : Shared) (h : L2.CX P w [] H s (fun _ _ _ => False) e s') : False := by
  obtain ⟨_, _, _, _, _, _, _, _, _, _, _, _, z⟩ := h
  exact z
end Z

/-! ZM: big steps of runs. -/
namespace Z
open PySem
section
variable {G : Gm} {ρ ρ1 ρ2 ρ3 : Env} {st st1 st2 st3 : Store} {α β : Type}
theorem mBind {m : M α} {f : α → M β} {a : α} (h : m ρ st = .ok a ρ1 st1) : bind m f ρ st = f a ρ1 st1 := by
  unfold bind; rw [h]
theorem xEs {e : IE} {r : IEs} {d : D} {ds : List D} (h1 : evE G e ρ st = .ok d ρ1 st1) (h2 : evEs G r ρ1 st1 = .ok ds ρ2 st2) : evEs G (.cons e r) ρ st = .ok (d :: ds) ρ2 st2 :=
  (mBind h1).trans (mBind h2)
theorem xCall {j : Nat} {es : IEs} {ds : List D} {d : D} (h1 : evEs G es ρ st = .ok ds ρ1 st1) (h2 : fnAt G.fs j ds st1 = .ok d st2) : evE G (.call j es .nil []) ρ st = .ok d ρ1 st2 := by
  refine (mBind h1).trans ?_
  show callM (fnAt G.fs j) (ds ++ []) ρ1 st1 = _
  rw [List.append_nil]
  unfold callM
  rw [h2]
theorem xCallK {j : Nat} {es kws : IEs} {ds ks as : List D} {ord : List Nat} {d : D} (h1 : evEs G es ρ st = .ok ds ρ1 st1) (hk : evEs G kws ρ1 st1 = .ok ks ρ2 st2) (hp : pickO (ds ++ ks) ord = some as) (h2 : fnAt G.fs j as st2 = .ok d st3) :
    evE G (.call j es kws ord) ρ st = .ok d ρ2 st3 := by
  refine (mBind h1).trans ((mBind hk).trans ?_)
  rw [hp]
  show callM (fnAt G.fs j) as ρ2 st2 = _
  unfold callM
  rw [h2]
theorem xBin {op : Operator} {a b : IE} {x y z : D} (h1 : evE G a ρ st = .ok x ρ1 st1) (h2 : evE G b ρ1 st1 = .ok y ρ2 st2) (h3 : opD op (view st2 x) (view st2 y) = some z) : evE G (.bin op a b) ρ st = .ok z ρ2 st2 := by
  refine (mBind h1).trans ((mBind h2).trans ?_)
  show opt (opD op (view st2 x) (view st2 y)) ρ2 st2 = _
  rw [h3]; rfl
theorem xCmp {op : CmpOp} {a b : IE} {x y : D} {z : Bool} (h1 : evE G a ρ st = .ok x ρ1 st1) (h2 : evE G b ρ1 st1 = .ok y ρ2 st2) (h3 : cmpD op (view st2 x) (view st2 y) = some z) : evE G (.cmp op a b) ρ st = .ok (.bl z) ρ2 st2 := by
  refine (mBind h1).trans ((mBind h2).trans ?_)
  show bind (opt (cmpD op (view st2 x) (view st2 y))) (fun t => ret (D.bl t)) ρ2 st2 = _
  rw [h3]; rfl
theorem xUn {op : UnaryOp} {a : IE} {x z : D} (h1 : evE G a ρ st = .ok x ρ1 st1) (h2 : unD op x = some z) : evE G (.un op a) ρ st = .ok z ρ1 st1 := by
  refine (mBind h1).trans ?_
  show opt (unD op x) ρ1 st1 = _
  rw [h2]; rfl
theorem xNot {a : IE} {x : D} {b : Bool} (h1 : evE G a ρ st = .ok x ρ1 st1) (h2 : truD (view st1 x) = some b) : evE G (.not a) ρ st = .ok (.bl (!b)) ρ1 st1 := by
  refine (mBind h1).trans ?_
  show bind (opt (truD (view st1 x))) (fun b => ret (D.bl (!b))) ρ1 st1 = _
  rw [h2]; rfl
theorem xAndT {a b : IE} {x : D} {r : R D} (h1 : evE G a ρ st = .ok x ρ1 st1) (h2 : truD (view st1 x) = some true) (h3 : evE G b ρ1 st1 = r) : evE G (.and a b) ρ st = r := by
  refine (mBind h1).trans ?_
  show bind (opt (truD (view st1 x))) (fun t => if t then evE G b else ret x) ρ1 st1 = _
  rw [h2]; exact h3
theorem xAndF {a b : IE} {x : D} (h1 : evE G a ρ st = .ok x ρ1 st1) (h2 : truD (view st1 x) = some false) : evE G (.and a b) ρ st = .ok x ρ1 st1 := by
  refine (mBind h1).trans ?_
  show bind (opt (truD (view st1 x))) (fun t => if t then evE G b else ret x) ρ1 st1 = _
  rw [h2]; rfl
theorem xOrT {a b : IE} {x : D} (h1 : evE G a ρ st = .ok x ρ1 st1) (h2 : truD (view st1 x) = some true) : evE G (.or a b) ρ st = .ok x ρ1 st1 := by
  refine (mBind h1).trans ?_
  show bind (opt (truD (view st1 x))) (fun t => if t then ret x else evE G b) ρ1 st1 = _
  rw [h2]; rfl
theorem xOrF {a b : IE} {x : D} {r : R D} (h1 : evE G a ρ st = .ok x ρ1 st1) (h2 : truD (view st1 x) = some false) (h3 : evE G b ρ1 st1 = r) : evE G (.or a b) ρ st = r := by
  refine (mBind h1).trans ?_
  show bind (opt (truD (view st1 x))) (fun t => if t then ret x else evE G b) ρ1 st1 = _
  rw [h2]; exact h3
theorem xIfT {c a b : IE} {x : D} {r : R D} (h1 : evE G c ρ st = .ok x ρ1 st1) (h2 : truD (view st1 x) = some true) (h3 : evE G a ρ1 st1 = r) : evE G (.ite c a b) ρ st = r := by
  refine (mBind h1).trans ?_
  show bind (opt (truD (view st1 x))) (fun t => if t then evE G a else evE G b) ρ1 st1 = _
  rw [h2]; exact h3
theorem xIfF {c a b : IE} {x : D} {r : R D} (h1 : evE G c ρ st = .ok x ρ1 st1) (h2 : truD (view st1 x) = some false) (h3 : evE G b ρ1 st1 = r) : evE G (.ite c a b) ρ st = r := by
  refine (mBind h1).trans ?_
  show bind (opt (truD (view st1 x))) (fun t => if t then evE G a else evE G b) ρ1 st1 = _
  rw [h2]; exact h3
theorem xBi {f : BI} {a : IE} {x z : D} (h1 : evE G a ρ st = .ok x ρ1 st1) (h2 : biD f (view st1 x) = some z) : evE G (.bi f a) ρ st = .ok z ρ1 st1 := by
  refine (mBind h1).trans ?_
  show opt (biD f (view st1 x)) ρ1 st1 = _
  rw [h2]; rfl
theorem xBi2 {f : BI2} {a b : IE} {x y z : D} (h1 : evE G a ρ st = .ok x ρ1 st1) (h2 : evE G b ρ1 st1 = .ok y ρ2 st2) (h3 : bi2D f x y = some z) : evE G (.bi2 f a b) ρ st = .ok z ρ2 st2 := by
  refine (mBind h1).trans ((mBind h2).trans ?_)
  show opt (bi2D f x y) ρ2 st2 = _
  rw [h3]; rfl
theorem xSub {a b : IE} {x y z : D} (h1 : evE G a ρ st = .ok x ρ1 st1) (h2 : evE G b ρ1 st1 = .ok y ρ2 st2) (h3 : subD (view st2 x) y = some z) : evE G (.sub a b) ρ st = .ok z ρ2 st2 := by
  refine (mBind h1).trans ((mBind h2).trans ?_)
  show opt (subD (view st2 x) y) ρ2 st2 = _
  rw [h3]; rfl
theorem xTup {es : IEs} {ds : List D} (h1 : evEs G es ρ st = .ok ds ρ1 st1) (h2 : ds.length ≤ line) : evE G (.tup es) ρ st = .ok (.tup ds) ρ1 st1 := by
  refine (mBind h1).trans ?_
  show bind (fits ds) (fun ds => ret (D.tup ds)) ρ1 st1 = _
  unfold fits
  rw [if_pos h2]; rfl
theorem xMkP {f : IF} {c : Cell} (h : evF G f ρ st = .ok c ρ1 st1) : evE G (.mk .pure f) ρ st = .ok c.toD ρ1 st1 := mBind h
theorem xMkC {f : IF} {c : Cell} (h : evF G f ρ st = .ok c ρ1 st1) : evE G (.mk .cell f) ρ st = .ok (.ref st1.length) ρ1 (st1 ++ [c]) := mBind h
theorem xT {e : IE} {d : D} {b : Bool} (h1 : evE G e ρ st = .ok d ρ1 st1) (h2 : truD (view st1 d) = some b) : evT G (.some e) ρ st = .ok b ρ1 st1 := by
  refine (mBind h1).trans ?_
  show opt (truD (view st1 d)) ρ1 st1 = _
  rw [h2]; rfl
theorem xRange1 {a : IE} {n : Int} (h : evE G a ρ st = .ok (.int n) ρ1 st1) (hs : small n = true) : evI G (.range1 a) ρ st = .ok (rng 0 n) ρ1 st1 := by
  refine (mBind h).trans ?_
  show (if small n then ret (rng 0 n) else bad) ρ1 st1 = _
  rw [if_pos hs]; rfl
theorem xSeq {a : IE} {x : D} {xs : List D} (h : evE G a ρ st = .ok x ρ1 st1) (hs : seqItems x = some xs) : evI G (.seq a) ρ st = .ok xs ρ1 st1 := by
  refine (mBind h).trans ?_
  show opt (seqItems x) ρ1 st1 = _
  rw [hs]; rfl
theorem small_nat {n : Nat} (h : n ≤ line) : small (n : Int) = true := by
  unfold small
  have : n ≤ 16777216 := h
  simp only [Bool.and_eq_true, decide_eq_true_eq]
  omega
theorem tru_eq {p : Prop} [Decidable p] (h : p) : truD (.bl (decide p)) = some true := by rw [decide_eq_true h]; rfl
/-! statements -/
theorem xSs {s : IS} {r : ISs} (h : evS G s ρ st = .ok .next ρ1 st1) : evSs G (.cons s r) ρ st = evSs G r ρ1 st1 := mBind h
theorem xSsR {s : IS} {r : ISs} {d : D} (h : evS G s ρ st = .ok (.ret d) ρ1 st1) : evSs G (.cons s r) ρ st = .ok (.ret d) ρ1 st1 := mBind h
theorem xRet {e : IE} {d : D} (h : evE G e ρ st = .ok d ρ1 st1) : evS G (.ret e) ρ st = .ok (.ret d) ρ1 st1 := mBind h
theorem xAsg {t : Tg} {e : IE} {d : D} (h : evE G e ρ st = .ok d ρ1 st1) (hb : bindT t d ρ1 st1 = .ok () ρ2 st2) : evS G (.asg t e) ρ st = .ok .next ρ2 st2 := (mBind h).trans (mBind hb)
theorem xPar {is : List Nat} {es : IEs} {ds : List D} (h : evEs G es ρ st = .ok ds ρ1 st1) (hb : stores is ds ρ1 st1 = .ok () ρ2 st2) : evS G (.par is es) ρ st = .ok .next ρ2 st2 := (mBind h).trans (mBind hb)
theorem xSet {i : Nat} {ix e : IE} {d k : D} (h : evE G e ρ st = .ok d ρ1 st1) (ha : cellAt i ρ1 st1 = .ok () ρ1 st1) (hx : evE G ix ρ1 st1 = .ok k ρ2 st2) (hu : upM i (setC k d) ρ2 st2 = .ok () ρ3 st3) : evS G (.set i ix e) ρ st = .ok .next ρ3 st3 :=
  mBind ((mBind h).trans ((mBind ha).trans ((mBind hx).trans hu)))
theorem xExpr {e : IE} {d : D} (h : evE G e ρ st = .ok d ρ1 st1) : evS G (.expr e) ρ st = .ok .next ρ1 st1 := mBind h
theorem xIteT {c : IE} {a b : ISs} (h : evT G (.some c) ρ st = .ok true ρ1 st1) : evS G (.ite c a b) ρ st = evSs G a ρ1 st1 := mBind h
theorem xIteF {c : IE} {a b : ISs} (h : evT G (.some c) ρ st = .ok false ρ1 st1) : evS G (.ite c a b) ρ st = evSs G b ρ1 st1 := mBind h
theorem xFor {t : Tg} {it : II} {b : ISs} {xs : List D} (h : evI G it ρ st = .ok xs ρ1 st1) : evS G (.for t it b) ρ st = loopF (fun x => bind (bindT t x) fun _ => evSs G b) xs ρ1 st1 := mBind h
theorem xRun {d : Def} {ds : List D} {v : D} (hl : ds.length = d.np) (h : evSs G d.body (startE d.nn ds) st = .ok (.ret v) ρ1 st1) : run G d ds st = .ok v st1 := by
  unfold run
  rw [if_pos hl, h]
/-- a for that goes on to its end -/
theorem loop_inv {go : D → M Fl} {xs : List D} (Inv : Nat → Env → Store → Prop) (hs : ∀ i x ρ st, xs[i]? = some x → Inv i ρ st → ∃ ρ' st', go x ρ st = .ok .next ρ' st' ∧ Inv (i + 1) ρ' st') (h0 : Inv 0 ρ st) :
    ∃ ρ' st', loopF go xs ρ st = .ok .next ρ' st' ∧ Inv xs.length ρ' st' := by
  have key : ∀ (n i : Nat) (ρ : Env) (st : Store), xs.length - i = n → i ≤ xs.length → Inv i ρ st → ∃ ρ' st', loopF go (xs.drop i) ρ st = .ok .next ρ' st' ∧ Inv xs.length ρ' st' := by
    intro n
    induction n with
    | zero =>
      intro i ρ st h1 h2 h3
      have e : i = xs.length := by omega
      subst e
      exact ⟨ρ, st, by rw [List.drop_length]; rfl, h3⟩
    | succ n ih =>
      intro i ρ st h1 h2 h3
      have hlt : i < xs.length := by omega
      obtain ⟨ρ', st', e1, e2⟩ := hs i xs[i] ρ st (by simp [hlt]) h3
      obtain ⟨ρ2, st2, e3, e4⟩ := ih (i + 1) ρ' st' (by omega) hlt e2
      refine ⟨ρ2, st2, ?_, e4⟩
      rw [List.drop_eq_getElem_cons hlt]
      exact (mBind e1).trans e3
  have := key xs.length 0 ρ st (by simp) (Nat.zero_le _) h0
  rwa [List.drop_zero] at this

/-! comprehensions -/
theorem mwipe_length (ρ : Env) : ∀ vs : List Nat, (wipe ρ vs).length = ρ.length
  | [] => rfl
  | v :: vs => by unfold wipe; rw [List.length_set, mwipe_length ρ vs]
theorem restore_same {vs : List Nat} (h : wipe ρ1 vs = wipe ρ vs) : restore ρ ρ1 vs = ρ := by
  have hl : ρ1.length = ρ.length := by rw [← mwipe_length ρ1 vs, h, mwipe_length]
  have g : ∀ (us : List Nat) (i : Nat), (∀ v ∈ us, v ∈ vs) → (restore ρ ρ1 us).length = ρ.length ∧ (i < ρ.length → i ∈ us → (restore ρ ρ1 us)[i]? = ρ[i]?) ∧ (i ∉ us → (restore ρ ρ1 us)[i]? = ρ1[i]?) := by
    intro us i
    induction us with
    | nil => intro _; exact ⟨hl, fun _ h => (by cases h), fun _ => rfl⟩
    | cons v us ih =>
      intro hv
      obtain ⟨a1, a2, a3⟩ := ih fun v h => hv v (List.mem_cons_of_mem _ h)
      refine ⟨by unfold restore; rw [List.length_set]; exact a1, fun hi hm => ?_, fun hm => ?_⟩
      · unfold restore
        by_cases e : v = i
        · subst e
          rw [List.getElem?_set_self (by rw [a1]; exact hi), List.getElem?_eq_getElem hi]; rfl
        · rw [List.getElem?_set_ne e]
          rcases List.mem_cons.mp hm with z | z
          · exact absurd z.symm e
          · exact a2 hi z
      · simp only [List.mem_cons, not_or] at hm
        unfold restore
        rw [List.getElem?_set_ne (fun z => hm.1 z.symm)]
        exact a3 hm.2
  have w : ∀ (us : List Nat) (i : Nat) (ρ : Env), i ∉ us → (wipe ρ us)[i]? = ρ[i]? := by
    intro us i ρ
    induction us with
    | nil => intro _; rfl
    | cons v us ih =>
      intro hm
      simp only [List.mem_cons, not_or] at hm
      unfold wipe
      rw [List.getElem?_set_ne (fun z => hm.1 z.symm)]
      exact ih hm.2
  refine List.ext_getElem? fun i => ?_
  obtain ⟨a1, a2, a3⟩ := g vs i fun v h => h
  by_cases hi : i < ρ.length
  · by_cases hm : i ∈ vs
    · exact a2 hi hm
    · rw [a3 hm, ← w vs i ρ1 hm, h, w vs i ρ hm]
  · rw [List.getElem?_eq_none (by rw [a1]; omega), List.getElem?_eq_none (by omega)]
/-- a comprehension whose turns change nothing -/
theorem xLc {elt : IE} {t : Tg} {it : II} {ifs : IO} {vs : List Nat} {xs : List D} (p : D → Bool) (f : D → D) (hi : evI G it ρ st = .ok xs ρ1 st1) (hown : (vs.any fun i => isOwn ρ1[i]?) = false)
    (ht : ∀ x ∈ xs, ∃ ρ', bindT t x (wipe ρ1 vs) st1 = .ok () ρ' st1 ∧ wipe ρ' vs = wipe ρ1 vs ∧ evT G ifs ρ' st1 = .ok (p x) ρ' st1 ∧ (p x = true → evE G elt ρ' st1 = .ok (f x) ρ' st1)) (hl : xs.length ≤ line) :
    evF G (.lc elt t it ifs vs) ρ st = .ok (.lst ((xs.filter p).map f)) ρ1 st1 := by
  refine (mBind hi).trans ?_
  have key : ∀ (ys : List D) (ρ' : Env), (∀ x ∈ ys, x ∈ xs) → wipe ρ' vs = wipe ρ1 vs → ∃ ρ'', turns (fun x => bind (wipeM vs) fun _ => bind (bindT t x) fun _ => bind (evT G ifs) fun b => if b then bind (evE G elt) fun d => ret [d] else ret []) ys ρ' st1 = .ok ((ys.filter p).map f) ρ'' st1 ∧ wipe ρ'' vs = wipe ρ1 vs := by
    intro ys
    induction ys with
    | nil => intro ρ' _ h; exact ⟨ρ', rfl, h⟩
    | cons y ys ih =>
      intro ρ' hm h
      obtain ⟨ρ2, e1, e2, e3, e4⟩ := ht y (hm y List.mem_cons_self)
      obtain ⟨ρ3, e5, e6⟩ := ih ρ2 (fun x hx => hm x (List.mem_cons_of_mem _ hx)) e2
      refine ⟨ρ3, ?_, e6⟩
      have go : (bind (wipeM vs) fun _ => bind (bindT t y) fun _ => bind (evT G ifs) fun b => if b then bind (evE G elt) fun d => ret [d] else ret []) ρ' st1 = .ok (if p y then [f y] else []) ρ2 st1 := by
        show (bind (bindT t y) fun _ => bind (evT G ifs) fun b => if b then bind (evE G elt) fun d => ret [d] else ret []) (wipe ρ' vs) st1 = _
        rw [h]
        refine (mBind e1).trans ((mBind e3).trans ?_)
        cases hp : p y with
        | true => rw [if_pos rfl, if_pos rfl]; exact mBind (e4 hp)
        | false => rw [if_neg Bool.false_ne_true, if_neg Bool.false_ne_true]; rfl
      refine (mBind go).trans ((mBind e5).trans ?_)
      show R.ok _ ρ3 st1 = _
      cases hp : p y with
      | true => rw [if_pos rfl, List.filter_cons_of_pos hp]; rfl
      | false => rw [if_neg Bool.false_ne_true, List.filter_cons_of_neg (by simp [hp])]; rfl
  obtain ⟨ρ2, e1, e2⟩ := key xs ρ1 (fun x h => h) rfl
  have hb : block vs (turns (fun x => bind (wipeM vs) fun _ => bind (bindT t x) fun _ => bind (evT G ifs) fun b => if b then bind (evE G elt) fun d => ret [d] else ret []) xs) ρ1 st1 = .ok ((xs.filter p).map f) ρ1 st1 := by
    unfold block
    rw [hown, if_neg Bool.false_ne_true, e1]
    show R.ok _ (restore ρ1 ρ2 vs) st1 = _
    rw [restore_same e2]
  refine (mBind hb).trans ?_
  show bind (fits ((xs.filter p).map f)) (fun ds => ret (Cell.lst ds)) ρ1 st1 = _
  unfold fits
  rw [if_pos (by rw [List.length_map]; exact Nat.le_trans (List.length_filter_le _ _) hl)]
  rfl
end
end Z
namespace Z
open PySem
section
variable {st : Store} {l : Nat} {c c' : Cell} {ρ : Env} {i : Nat} {α : Type}
theorem view_ref (h : st[l]? = some c) : view st (.ref l) = c.toD := by
  show (match st[l]? with | some c => c.toD | none => D.ref l) = _
  rw [h]
theorem sub_ref {y z : D} (h : st[l]? = some c) (e : subD c.toD y = some z) : subD (view st (.ref l)) y = some z := by rw [view_ref h]; exact e
theorem upM_ref {f : Cell → Option (Cell × α)} {a : α} (hr : ρ[i]? = some (.val (.ref l))) (h : st[l]? = some c) (e : f c = some (c', a)) : upM i f ρ st = .ok a ρ (st.set l c') := by
  unfold upM
  rw [hr]
  simp only [h, e]
theorem cellAt_ref {xs : List D} (hr : ρ[i]? = some (.val (.ref l))) (h : st[l]? = some (.lst xs)) : cellAt i ρ st = .ok () ρ st := by
  unfold cellAt
  rw [hr]
  simp only [h]
theorem set_get (h : st[l]? = some c) : (st.set l c')[l]? = some c' := List.getElem?_set_self (List.getElem?_eq_some_iff.mp h).1
theorem op_pow {i j : Int} (h : powOk i j = true) : opD .Pow (.int i) (.int j) = some (.int (i ^ j.toNat)) := by
  show (if powOk i j then some (D.int (i ^ j.toNat)) else none) = _
  rw [if_pos h]
theorem op_mod {i j : Int} (h : 0 < j) : opD .Mod (.int i) (.int j) = some (.int (i % j)) := by
  show (if 0 < j then some (D.int (i % j)) else none) = _
  rw [if_pos h]
theorem op_div {i j : Int} (h : 0 < j ∧ j < 1073741824) : opD .FloorDiv (.int i) (.int j) = some (.int (i / j)) := by
  show (if 0 < j ∧ j < 1073741824 then some (D.int (i / j)) else none) = _
  rw [if_pos h]
theorem op_mul {i j : Int} (h : mulOk i j = true) : opD .Mult (.int i) (.int j) = some (.int (i * j)) := by
  show (if mulOk i j then some (D.int (i * j)) else none) = _
  rw [if_pos h]
theorem op_shl {i j : Int} (h : powOk i j = true) : opD .LShift (.int i) (.int j) = some (.int (i * 2 ^ j.toNat)) := by
  show (if powOk i j then some (D.int (i * 2 ^ j.toNat)) else none) = _
  rw [if_pos h]
theorem powOk_of {i j : Int} (h0 : 0 ≤ j) (h1 : j ≤ 1000000) (h2 : -(2 ^ 64) < i) (h3 : i < 2 ^ 64) : powOk i j = true := by
  unfold powOk
  simp only [Bool.and_eq_true, decide_eq_true_eq]
  exact ⟨h0, h1, by omega⟩
theorem eq_int (a b : Int) : cmpD .Eq (.int a) (.int b) = some (decide (a = b)) := by
  show (match toPy (.int a), toPy (.int b) with | some a, some b => if SeqAt.shaped a && SeqAt.shaped b then some (PyData.eqv a b) else none | _, _ => none) = _
  simp only [toPy]
  rw [if_pos (by rfl)]
  congr 1
end
/-- the draw box of the laws, at most n draws behind -/
def Box (st : Store) (l : Nat) (n : Int) : Prop := ∃ (g : Int) (b : Bool) (c d : Int), st[l]? = some (.lst [.int g, .bl b, .int c, .int d]) ∧ 0 ≤ c ∧ c < 2147483629 ∧ 0 ≤ d ∧ d ≤ n
/-- the draw, as each law has it -/
def takeDef : Def := ⟨2, 4, .cons (.ite (.and (.sub (.var 0) (.lit (.int 1))) (.one (.cmp .Gt (.sub (.var 0) (.lit (.int 0))) (.lit (.int 0))))) (.cons (.asg (.nm 3) (.bin .Mod (.bi .int (.sub (.var 0) (.lit (.int 0)))) (.var 1))) (.cons (.set 0 (.lit (.int 0)) (.bin .FloorDiv (.sub (.var 0) (.lit (.int 0))) (.var 1))) (.cons (.ret (.var 3)) .nil))) .nil) (.cons (.set 0 (.lit (.int 3)) (.bin .Add (.sub (.var 0) (.lit (.int 3))) (.lit (.int 1)))) (.cons (.asg (.nm 2) (.bin .Mod (.bi .int (.bin .Pow (.bin .Add (.bin .Add (.sub (.var 0) (.lit (.int 2))) (.bin .Mult (.lit (.int 15485863)) (.sub (.var 0) (.lit (.int 3))))) (.lit (.int 179424673))) (.lit (.int 5)))) (.lit (.int 2147483647)))) (.cons (.ret (.bin .Mod (.bi .int (.bin .FloorDiv (.bin .Mod (.bi .int (.bin .Pow (.bin .Add (.bin .Mult (.var 2) (.lit (.int 48271))) (.bin .Mult (.lit (.int 104729)) (.sub (.var 0) (.lit (.int 3))))) (.lit (.int 3)))) (.lit (.int 2147483587))) (.lit (.int 64)))) (.var 1))) .nil)))⟩
theorem take_ok {G : Gm} {st : Store} {l : Nat} {n m : Int} (hb : Box st l n) (hn : n ≤ 1000000) (h0 : 0 < m) (h1 : m < 1073741824) :
    ∃ v st', run G takeDef [.ref l, .int m] st = .ok (.int v) st' ∧ 0 ≤ v ∧ v < m ∧ Box st' l (n + 1) ∧ ∀ k, k ≠ l → st'[k]? = st[k]? := by
  obtain ⟨g, b, c, d, h, hc0, hc1, hd0, hd1⟩ := hb
  have hs : ∀ {ρ : Env} {k : Int} {z : D}, ρ[0]? = some (.val (.ref l)) → subD (.lst [.int g, .bl b, .int c, .int d]) (.int k) = some z → evE G (.sub (.var 0) (.lit (.int k))) ρ st = .ok z ρ st := fun {ρ k z} h1 h2 =>
    xSub (x := .ref l) (y := .int k) (by show getV 0 ρ st = _; unfold getV; rw [h1]) rfl (sub_ref h h2)
  by_cases hg : b = true ∧ 0 < g
  · -- a digit of the great number
    obtain ⟨rfl, hg⟩ := hg
    refine ⟨g % m, _, xRun (ρ1 := [.val (.ref l), .val (.int m), .un, .val (.int (g % m))]) (st1 := st.set l (.lst [.int (g / m), .bl true, .int c, .int d])) rfl ?_, Int.emod_nonneg _ (by omega), Int.emod_lt_of_pos _ h0, ⟨g / m, true, c, d, set_get h, hc0, hc1, hd0, by omega⟩, fun k hk => List.getElem?_set_ne (Ne.symm hk)⟩
    show evSs G takeDef.body [.val (.ref l), .val (.int m), .un, .un] st = _
    refine xSsR ((xIteT (ρ1 := [.val (.ref l), .val (.int m), .un, .un]) (st1 := st) (xT (xAndT (hs rfl rfl) rfl (xCmp (x := .int g) (y := .int 0) (hs rfl rfl) rfl rfl)) ?_)).trans ?_)
    · show some (decide (0 < g)) = some true
      rw [decide_eq_true hg]
    · refine (xSs (xAsg (xBin (z := .int (g % m)) (xBi (x := .int g) (hs rfl rfl) rfl) rfl (op_mod h0)) rfl)).trans ?_
      refine (xSs (xSet (xBin (z := .int (g / m)) (hs rfl rfl) rfl (op_div ⟨h0, h1⟩)) (cellAt_ref rfl h) rfl (upM_ref rfl h rfl))).trans ?_
      exact xSsR (xRet rfl)
  · -- a mixed number
    have hset : (st.set l (.lst [.int g, .bl b, .int c, .int (d + 1)]))[l]? = some (.lst [.int g, .bl b, .int c, .int (d + 1)]) := set_get h
    have hs2 : ∀ {ρ : Env} {k : Int} {z : D}, ρ[0]? = some (.val (.ref l)) → subD (.lst [.int g, .bl b, .int c, .int (d + 1)]) (.int k) = some z → evE G (.sub (.var 0) (.lit (.int k))) ρ (st.set l (.lst [.int g, .bl b, .int c, .int (d + 1)])) = .ok z ρ (st.set l (.lst [.int g, .bl b, .int c, .int (d + 1)])) := fun {ρ k z} h1 h2 =>
      xSub (x := .ref l) (y := .int k) (by show getV 0 ρ _ = _; unfold getV; rw [h1]) rfl (sub_ref hset h2)
    generalize hM : (c + 15485863 * (d + 1) + 179424673) ^ (5 : Int).toNat % 2147483647 = M
    have hM0 : 0 ≤ M := by rw [← hM]; exact Int.emod_nonneg _ (by decide)
    have hM1 : M < 2147483647 := by rw [← hM]; exact Int.emod_lt_of_pos _ (by decide)
    refine ⟨(M * 48271 + 104729 * (d + 1)) ^ (3 : Int).toNat % 2147483587 / 64 % m, _, xRun (ρ1 := [.val (.ref l), .val (.int m), .val (.int M), .un]) (st1 := st.set l (.lst [.int g, .bl b, .int c, .int (d + 1)])) rfl ?_, Int.emod_nonneg _ (by omega), Int.emod_lt_of_pos _ h0, ⟨g, b, c, d + 1, set_get h, hc0, hc1, by omega, by omega⟩, fun k hk => List.getElem?_set_ne (Ne.symm hk)⟩
    show evSs G takeDef.body [.val (.ref l), .val (.int m), .un, .un] st = _
    refine (xSs (ρ1 := [.val (.ref l), .val (.int m), .un, .un]) (st1 := st) ((xIteF (ρ1 := [.val (.ref l), .val (.int m), .un, .un]) (st1 := st) ?_).trans rfl)).trans ?_
    · cases b with
      | false => exact xT (xAndF (x := .bl false) (hs rfl rfl) rfl) rfl
      | true =>
        refine xT (xAndT (hs rfl rfl) rfl (xCmp (x := .int g) (y := .int 0) (hs rfl rfl) rfl rfl)) ?_
        show some (decide (0 < g)) = some false
        rw [decide_eq_false fun z => hg ⟨rfl, z⟩]
    refine (xSs (xSet (xBin (z := .int (d + 1)) (hs rfl rfl) rfl rfl) (cellAt_ref rfl h) rfl (upM_ref rfl h rfl))).trans ?_
    refine (xSs (xAsg (d := .int M) (xBin (xBi (z := .int ((c + 15485863 * (d + 1) + 179424673) ^ (5 : Int).toNat)) (xBin (xBin (xBin (z := .int (c + 15485863 * (d + 1))) (hs2 rfl rfl) (xBin (y := .int (d + 1)) rfl (hs2 rfl rfl) (op_mul rfl)) rfl) rfl rfl) rfl (op_pow (powOk_of (by decide) (by decide) (by omega) (by omega)))) rfl) rfl ((op_mod (by decide)).trans (by rw [hM]))) rfl)).trans ?_
    exact xSsR (xRet (xBin (xBi (xBin (xBin (xBi (z := .int ((M * 48271 + 104729 * (d + 1)) ^ (3 : Int).toNat)) (xBin (xBin (z := .int (M * 48271 + 104729 * (d + 1))) (xBin (x := .int M) rfl rfl (op_mul (by simp [mulOk]))) (xBin (y := .int (d + 1)) rfl (hs2 rfl rfl) (op_mul rfl)) rfl) rfl (op_pow (powOk_of (by decide) (by decide) (by omega) (by omega)))) rfl) rfl (op_mod (by decide))) rfl (op_div (by decide))) rfl) rfl (op_mod h0)))
end Z
namespace Z
def forB : IS → ISs
  | .for _ _ b => b
  | _ => .nil
def nthS : ISs → Nat → IS
  | .nil, _ => .pass
  | .cons s _, 0 => s
  | .cons _ r, n + 1 => nthS r n
def goF (G : Gm) (t : Tg) (b : ISs) (x : D) : M Fl := bind (bindT t x) fun _ => evSs G b
theorem xFor' {G : Gm} {ρ ρ1 ρ2 : Env} {st st1 st2 : Store} {t : Tg} {it : II} {b : ISs} {xs : List D} {f : Fl} (h : evI G it ρ st = .ok xs ρ1 st1) (hl : loopF (goF G t b) xs ρ1 st1 = .ok f ρ2 st2) : evS G (.for t it b) ρ st = .ok f ρ2 st2 := (xFor h).trans hl
end Z

/-! ### the defs -/
namespace Z
open PySem
def f_law_box : Def := ⟨1, 1, .cons (.ret (.mk .cell (.disp (.cons (.bi .abs (.var 0)) (.cons (.cmp .GtE (.bi .abs (.var 0)) (.bin .Pow (.lit (.int 10)) (.lit (.int 18)))) (.cons (.bin .Mod (.bi .int (.bi .abs (.var 0))) (.lit (.int 2147483629))) (.cons (.lit (.int 0)) .nil))))))) .nil⟩
def F_law_box : Fn := run ⟨[], []⟩ f_law_box
def f_law_cell : Def := ⟨2, 2, .cons (.ret (.ite (.cmp .Lt (.var 1) (.bi .len (.var 0))) (.sub (.var 0) (.var 1)) (.bin .Add (.bin .Mult (.lit (.int 6007)) (.var 1)) (.bin .Mod (.bi .int (.bi .sum (.slc (.var 0) .none (.some (.lit (.int 1)))))) (.lit (.int 1000033)))))) .nil⟩
def F_law_cell : Fn := run ⟨[], []⟩ f_law_cell
def f_law_take : Def := ⟨2, 4, .cons (.ite (.and (.sub (.var 0) (.lit (.int 1))) (.one (.cmp .Gt (.sub (.var 0) (.lit (.int 0))) (.lit (.int 0))))) (.cons (.asg (.nm 3) (.bin .Mod (.bi .int (.sub (.var 0) (.lit (.int 0)))) (.var 1))) (.cons (.set 0 (.lit (.int 0)) (.bin .FloorDiv (.sub (.var 0) (.lit (.int 0))) (.var 1))) (.cons (.ret (.var 3)) .nil))) .nil) (.cons (.set 0 (.lit (.int 3)) (.bin .Add (.sub (.var 0) (.lit (.int 3))) (.lit (.int 1)))) (.cons (.asg (.nm 2) (.bin .Mod (.bi .int (.bin .Pow (.bin .Add (.bin .Add (.sub (.var 0) (.lit (.int 2))) (.bin .Mult (.lit (.int 15485863)) (.sub (.var 0) (.lit (.int 3))))) (.lit (.int 179424673))) (.lit (.int 5)))) (.lit (.int 2147483647)))) (.cons (.ret (.bin .Mod (.bi .int (.bin .FloorDiv (.bin .Mod (.bi .int (.bin .Pow (.bin .Add (.bin .Mult (.var 2) (.lit (.int 48271))) (.bin .Mult (.lit (.int 104729)) (.sub (.var 0) (.lit (.int 3))))) (.lit (.int 3)))) (.lit (.int 2147483587))) (.lit (.int 64)))) (.var 1))) .nil)))⟩
def F_law_take : Fn := run ⟨[], []⟩ f_law_take
def f_law_pair : Def := ⟨2, 6, .cons (.par [3, 4, 5] (.cons (.call 0 (.cons (.var 0) (.cons (.lit (.int 1024)) .nil)) .nil []) (.cons (.call 0 (.cons (.var 0) (.cons (.lit (.int 1024)) .nil)) .nil []) (.cons (.bin .LShift (.lit (.int 1)) (.call 0 (.cons (.var 0) (.cons (.lit (.int 10)) .nil)) .nil [])) .nil)))) (.cons (.asg (.nm 2) (.mk .pure (.disp (.cons (.tup (.cons (.var 3) (.cons (.var 4) .nil))) (.cons (.tup (.cons (.var 3) (.cons (.bin .BitAnd (.var 3) (.var 4)) .nil))) (.cons (.tup (.cons (.var 3) (.cons (.bin .BitAnd (.var 4) (.un .Invert (.var 3))) .nil))) (.cons (.tup (.cons (.var 3) (.cons (.var 3) .nil))) (.cons (.tup (.cons (.var 3) (.cons (.lit (.int 0)) .nil))) (.cons (.tup (.cons (.lit (.int 0)) (.cons (.var 3) .nil))) (.cons (.tup (.cons (.var 3) (.cons (.lit (.int 1023)) .nil))) .nil)))))))))) (.cons (.asg (.nm 2) (.mk .pure (.cat (.var 2) (.mk .pure (.disp (.cons (.tup (.cons (.var 3) (.cons (.bin .BitAnd (.lit (.int 1023)) (.un .Invert (.var 3))) .nil))) (.cons (.tup (.cons (.bin .BitOr (.var 3) (.var 5)) (.cons (.bin .BitAnd (.var 3) (.un .Invert (.var 5))) .nil))) (.cons (.tup (.cons (.bin .BitAnd (.var 3) (.un .Invert (.var 5))) (.cons (.bin .BitOr (.var 3) (.var 5)) .nil))) (.cons (.tup (.cons (.var 5) (.cons (.var 3) .nil))) (.cons (.tup (.cons (.var 3) (.cons (.bin .BitXor (.var 3) (.var 5)) .nil))) .nil)))))))))) (.cons (.ret (.sub (.var 2) (.var 1))) .nil)))⟩
def F_law_pair : Fn := run ⟨[F_law_take], []⟩ f_law_pair
def f_law_people : Def := ⟨1, 2, .cons (.ret (.bi .tuple (.mk .pure (.lc (.var 1) (.nm 1) (.range1 (.lit (.int 10))) (.some (.bin .BitAnd (.bin .RShift (.var 0) (.var 1)) (.lit (.int 1)))) [1])))) .nil⟩
def F_law_people : Fn := run ⟨[], []⟩ f_law_people
def f_law_due : Def := ⟨3, 3, .cons (.ret (.sub (.mk .pure (.disp (.cons (.bin .BitOr (.var 1) (.var 2)) (.cons (.bin .BitAnd (.var 1) (.var 2)) (.cons (.bin .BitAnd (.var 1) (.un .Invert (.var 2))) .nil))))) (.var 0))) .nil⟩
def F_law_due : Fn := run ⟨[], []⟩ f_law_due
def f_set_of : Def := ⟨1, 2, .cons (.ret (.bi .tuple (.mk .pure (.lc (.var 1) (.nm 1) (.range1 (.con 0)) (.some (.bin .BitAnd (.bin .RShift (.var 0) (.var 1)) (.lit (.int 1)))) [1])))) .nil⟩
def F_set_of : Fn := run ⟨[], [.int 10]⟩ f_set_of
def f_number_of : Def := ⟨1, 2, .cons (.ret (.bi .sum (.mk .pure (.lc (.bin .LShift (.lit (.int 1)) (.var 1)) (.nm 1) (.seq (.var 0)) .none [1])))) .nil⟩
def F_number_of : Fn := run ⟨[], []⟩ f_number_of
def f_joined : Def := ⟨2, 2, .cons (.ret (.call 0 (.cons (.bin .BitOr (.call 1 (.cons (.var 0) .nil) .nil []) (.call 1 (.cons (.var 1) .nil) .nil [])) .nil) .nil [])) .nil⟩
def F_joined : Fn := run ⟨[F_set_of, F_number_of], []⟩ f_joined
def f_shared : Def := ⟨2, 2, .cons (.ret (.call 0 (.cons (.bin .BitAnd (.call 1 (.cons (.var 0) .nil) .nil []) (.call 1 (.cons (.var 1) .nil) .nil [])) .nil) .nil [])) .nil⟩
def F_shared : Fn := run ⟨[F_set_of, F_number_of], []⟩ f_shared
def f_less : Def := ⟨2, 2, .cons (.ret (.call 0 (.cons (.bin .BitAnd (.call 1 (.cons (.var 0) .nil) .nil []) (.un .Invert (.call 1 (.cons (.var 1) .nil) .nil []))) .nil) .nil [])) .nil⟩
def F_less : Fn := run ⟨[F_set_of, F_number_of], []⟩ f_less
def f_law_put : Def := ⟨4, 4, .cons (.ite (.cmp .Eq (.var 0) (.lit (.int 0))) (.cons (.ret (.ite (.cmp .Eq (.var 3) (.lit (.int 0))) (.call 0 (.cons (.var 1) (.cons (.var 2) .nil)) .nil []) (.call 0 .nil (.cons (.var 2) (.cons (.var 1) .nil)) [1, 0]))) .nil) .nil) (.cons (.ite (.cmp .Eq (.var 0) (.lit (.int 1))) (.cons (.ret (.ite (.cmp .Eq (.var 3) (.lit (.int 0))) (.call 1 (.cons (.var 1) (.cons (.var 2) .nil)) .nil []) (.call 1 .nil (.cons (.var 2) (.cons (.var 1) .nil)) [1, 0]))) .nil) .nil) (.cons (.ret (.ite (.cmp .Eq (.var 3) (.lit (.int 0))) (.call 2 (.cons (.var 1) (.cons (.var 2) .nil)) .nil []) (.call 2 .nil (.cons (.var 2) (.cons (.var 1) .nil)) [1, 0]))) .nil))⟩
def F_law_put : Fn := run ⟨[F_joined, F_shared, F_less], []⟩ f_law_put
def f_law_same : Def := ⟨2, 4, .cons (.ite (.or (.cmp .Is (.var 1) (.lit .non)) (.one (.isi (.var 1) .bool))) (.cons (.ret (.ite (.cmp .Is (.var 1) (.lit .non)) (.cmp .Is (.var 0) (.lit .non)) (.and (.isi (.var 0) .bool) (.one (.cmp .Eq (.cmp .Is (.var 0) (.lit (.bl true))) (.cmp .Is (.var 1) (.lit (.bl true)))))))) .nil) .nil) (.cons (.ite (.isi (.var 1) .int) (.cons (.ret (.and (.isi (.var 0) .int) (.and (.not (.isi (.var 0) .bool)) (.one (.cmp .Eq (.bin .Sub (.bi .int (.var 0)) (.var 1)) (.lit (.int 0))))))) .nil) .nil) (.cons (.ite (.isi (.var 1) .str) (.cons (.asg (.nm 2) (.and (.isi (.var 0) .str) (.one (.cmp .Eq (.bi .len (.var 0)) (.bi .len (.var 1)))))) (.cons (.ret (.and (.var 2) (.one (.cmp .Eq (.mk .pure (.lc (.var 3) (.nm 3) (.range1 (.bi .len (.var 1))) (.some (.cmp .NotEq (.slc (.var 0) (.some (.var 3)) (.some (.bin .Add (.var 3) (.lit (.int 1))))) (.sub (.var 1) (.var 3)))) [3])) (.mk .pure (.disp .nil)))))) .nil)) .nil) (.cons (.ite (.or (.cmp .NotEq (.isi (.var 0) .list) (.isi (.var 1) .list)) (.one (.cmp .NotEq (.isi (.var 0) .tuple) (.isi (.var 1) .tuple)))) (.cons (.ret (.lit (.bl false))) .nil) .nil) (.cons (.ret (.and (.cmp .Eq (.bi .len (.var 0)) (.bi .len (.var 1))) (.one (.cmp .Eq (.mk .pure (.lc (.var 3) (.nm 3) (.range1 (.bi .len (.var 1))) (.some (.not (.call 0 (.cons (.sub (.var 0) (.var 3)) (.cons (.sub (.var 1) (.var 3)) .nil)) .nil []))) [3])) (.mk .pure (.disp .nil)))))) .nil))))⟩
def F_law_same : Fn := runRec ⟨[], []⟩ f_law_same 8
def f_law_right : Def := ⟨3, 13, .cons (.par [5, 6] (.cons (.call 0 (.cons (.var 0) (.cons (.var 1) .nil)) .nil []) (.cons (.call 1 (.cons (.var 0) (.cons (.lit (.int 1024)) .nil)) .nil []) .nil))) (.cons (.asg (.nm 3) (.mk .pure (.lc (.call 2 (.cons (.var 8) .nil) .nil []) (.nm 8) (.seq (.var 5)) .none [8]))) (.cons (.for (.nm 4) (.range1 (.lit (.int 3))) (.cons (.for (.nm 7) (.range1 (.lit (.int 2))) (.cons (.asg (.nm 9) (.call 3 (.cons (.var 4) (.cons (.sub (.var 5) (.var 7)) (.cons (.sub (.var 5) (.bin .Sub (.lit (.int 1)) (.var 7))) .nil))) .nil [])) (.cons (.asg (.nm 10) (.call 4 (.cons (.var 4) (.cons (.sub (.var 3) (.var 7)) (.cons (.sub (.var 3) (.bin .Sub (.lit (.int 1)) (.var 7))) (.cons (.bin .Mod (.bi .int (.bin .Add (.var 2) (.var 7))) (.lit (.int 2))) .nil)))) .nil [])) (.cons (.ite (.not (.call 5 (.cons (.var 10) (.cons (.call 2 (.cons (.var 9) .nil) .nil []) .nil)) .nil [])) (.cons (.ret (.lit (.bl false))) .nil) .nil) (.cons (.asg (.nm 11) (.call 1 (.cons (.var 0) (.cons (.lit (.int 3)) .nil)) .nil [])) (.cons (.asg (.nm 12) (.call 4 (.cons (.var 11) (.cons (.var 10) (.cons (.call 2 (.cons (.var 6) .nil) .nil []) (.cons (.var 2) .nil)))) .nil [])) (.cons (.ite (.not (.call 5 (.cons (.var 12) (.cons (.call 2 (.cons (.call 3 (.cons (.var 11) (.cons (.var 9) (.cons (.var 6) .nil))) .nil []) .nil) .nil []) .nil)) .nil [])) (.cons (.ret (.lit (.bl false))) .nil) .nil) (.cons (.asg (.nm 12) (.call 4 (.cons (.var 11) (.cons (.call 2 (.cons (.var 6) .nil) .nil []) (.cons (.var 10) (.cons (.bin .Sub (.lit (.int 1)) (.var 2)) .nil)))) .nil [])) (.cons (.ite (.not (.call 5 (.cons (.var 12) (.cons (.call 2 (.cons (.call 3 (.cons (.var 11) (.cons (.var 6) (.cons (.var 9) .nil))) .nil []) .nil) .nil []) .nil)) .nil [])) (.cons (.ret (.lit (.bl false))) .nil) .nil) .nil))))))))) .nil)) (.cons (.ret (.call 5 (.cons (.var 3) (.cons (.mk .pure (.lc (.call 2 (.cons (.var 8) .nil) .nil []) (.nm 8) (.seq (.var 5)) .none [8])) .nil)) .nil [])) .nil)))⟩
def F_law_right : Fn := run ⟨[F_law_pair, F_law_take, F_law_people, F_law_due, F_law_put, F_law_same], []⟩ f_law_right
def f_law : Def := ⟨1, 4, .cons (.for (.nm 1) (.range1 (.bi2 .max (.lit (.int 2)) (.bi2 .min (.lit (.int 4)) (.bi .len (.var 0))))) (.cons (.asg (.nm 2) (.call 0 (.cons (.call 1 (.cons (.var 0) (.cons (.var 1) .nil)) .nil []) .nil) .nil [])) (.cons (.for (.nm 3) (.range1 (.lit (.int 12))) (.cons (.ite (.not (.call 2 (.cons (.var 2) (.cons (.var 3) (.cons (.call 3 (.cons (.var 2) (.cons (.lit (.int 2)) .nil)) .nil []) .nil))) .nil [])) (.cons (.ret (.lit (.bl false))) .nil) .nil) .nil)) .nil))) (.cons (.ret (.lit (.bl true))) .nil)⟩
def F_law : Fn := run ⟨[F_law_box, F_law_cell, F_law_right, F_law_take], []⟩ f_law
end Z

namespace Z
open PySem
/-! ### sets of people by numbers -/
def pbit (n : Int) : D → Bool
  | .int p => Builtin.bitAnd (n / 2 ^ p.toNat) 1 != 0
  | _ => false
def ten : List D := [.int 0, .int 1, .int 2, .int 3, .int 4, .int 5, .int 6, .int 7, .int 8, .int 9]
def ppl (n : Int) : List D := ten.filter (pbit n)
theorem mem_ten {x : D} (h : x ∈ ten) : x = .int 0 ∨ x = .int 1 ∨ x = .int 2 ∨ x = .int 3 ∨ x = .int 4 ∨ x = .int 5 ∨ x = .int 6 ∨ x = .int 7 ∨ x = .int 8 ∨ x = .int 9 := by
  simpa [ten] using h
theorem people_eq (n : Int) (st : Store) : F_law_people [.int n] st = .ok (.tup (ppl n)) st := by
  refine xRun (ρ1 := [.val (.int n), .un]) rfl (xSsR (xRet (xBi (x := .lst ((ten.filter (pbit n)).map id)) (xMkP (c := .lst ((ten.filter (pbit n)).map id)) (xLc (ρ1 := [.val (.int n), .un]) (st1 := st) (pbit n) id rfl rfl (fun x hx => ?_) (by decide))) ?_)))
  · rcases mem_ten hx with rfl | rfl | rfl | rfl | rfl | rfl | rfl | rfl | rfl | rfl <;> exact ⟨_, rfl, rfl, rfl, fun _ => rfl⟩
  · rw [List.map_id]; rfl
theorem set_of_eq (n : Int) (st : Store) : F_set_of [.int n] st = .ok (.tup (ppl n)) st := by
  refine xRun (ρ1 := [.val (.int n), .un]) rfl (xSsR (xRet (xBi (x := .lst ((ten.filter (pbit n)).map id)) (xMkP (c := .lst ((ten.filter (pbit n)).map id)) (xLc (ρ1 := [.val (.int n), .un]) (st1 := st) (pbit n) id rfl rfl (fun x hx => ?_) (by decide))) ?_)))
  · rcases mem_ten hx with rfl | rfl | rfl | rfl | rfl | rfl | rfl | rfl | rfl | rfl <;> exact ⟨_, rfl, rfl, rfl, fun _ => rfl⟩
  · rw [List.map_id]; rfl
def pw : D → Int
  | .int p => 1 * 2 ^ p.toNat
  | _ => 0
theorem ints_map : ∀ xs : List D, intsD (xs.map fun x => .int (pw x)) = some (xs.map pw)
  | [] => rfl
  | x :: xs => by
    show (intsD (xs.map fun x => .int (pw x))).map (pw x :: ·) = _
    rw [ints_map xs]; rfl
theorem ppl_sub (n : Int) : ∀ x ∈ ppl n, x ∈ ten := fun x h => (List.mem_filter.mp h).1
theorem ppl_len (n : Int) : (ppl n).length ≤ 10 := List.length_filter_le _ _
theorem number_eq0 (xs : List D) (h : ∀ x ∈ xs, x ∈ ten) (hl : xs.length ≤ 10) (st : Store) : F_number_of [.tup xs] st = .ok (.int (xs.map pw).sum) st := by
  refine xRun (ρ1 := [.val (.tup xs), .un]) rfl (xSsR (xRet (xBi (x := .lst ((xs.filter fun _ => true).map fun x => .int (pw x))) (xMkP (c := .lst ((xs.filter fun _ => true).map fun x => .int (pw x))) (xLc (ρ1 := [.val (.tup xs), .un]) (st1 := st) (fun _ => true) (fun x => .int (pw x)) rfl rfl (fun x hx => ?_) (by show xs.length ≤ 16777216; omega))) ?_)))
  · rcases mem_ten (h x hx) with rfl | rfl | rfl | rfl | rfl | rfl | rfl | rfl | rfl | rfl <;> exact ⟨_, rfl, rfl, rfl, fun _ => rfl⟩
  · have e : (xs.filter fun _ => true) = xs := List.filter_eq_self.mpr fun _ _ => rfl
    rw [e]
    show (intsD (xs.map fun x => .int (pw x))).map (fun ns => D.int ns.sum) = _
    rw [ints_map]; rfl
theorem ppl_sum : ∀ m < 1024, ((ppl (m : Nat)).map pw).sum = ((m : Nat) : Int) := by decide +kernel
def Small (n : Int) : Prop := 0 ≤ n ∧ n < 1024
theorem Small.nat {n : Int} (h : Small n) : ∃ m : Nat, n = m ∧ m < 1024 := ⟨n.toNat, by have := h.1; omega, by have := h.1; have := h.2; omega⟩
theorem number_eq {n : Int} (h : Small n) (st : Store) : F_number_of [.tup (ppl n)] st = .ok (.int n) st := by
  rw [number_eq0 _ (ppl_sub n) (ppl_len n)]
  obtain ⟨m, rfl, hm⟩ := h.nat
  rw [ppl_sum m hm]
theorem and_nat (a b : Nat) : Builtin.bitAnd a b = ((a &&& b : Nat) : Int) := by
  unfold Builtin.bitAnd
  rw [decide_eq_true (by omega), decide_eq_true (by omega)]
  simp
theorem and_small {a b : Int} (ha : Small a) (hb : Small b) : Small (Builtin.bitAnd a b) := by
  obtain ⟨m, rfl, hm⟩ := ha.nat
  obtain ⟨k, rfl, hk⟩ := hb.nat
  rw [and_nat]
  have := Nat.and_lt_two_pow m (n := 10) hk
  exact ⟨by omega, by omega⟩
theorem and_not (a b : Nat) : Builtin.bitAnd a (Builtin.bitNot b) = (a : Int) - ((a &&& b : Nat) : Int) := by
  unfold Builtin.bitAnd Builtin.bitNot
  rw [decide_eq_true (by omega), decide_eq_false (by omega)]
  simp
  congr 2
  omega
theorem less_small {a b : Int} (ha : Small a) (hb : Small b) : Small (Builtin.bitAnd a (Builtin.bitNot b)) := by
  obtain ⟨m, rfl, hm⟩ := ha.nat
  obtain ⟨k, rfl, hk⟩ := hb.nat
  rw [and_not]
  have : m &&& k ≤ m := Nat.and_le_left
  exact ⟨by omega, by omega⟩
theorem or_nat (a b : Nat) : Builtin.bitOr a b = ((a ||| b : Nat) : Int) := by
  unfold Builtin.bitOr Builtin.bitAnd Builtin.bitNot
  rw [decide_eq_false (by omega), decide_eq_false (by omega)]
  simp
  have e1 : (-(-(a : Int) - 1)).toNat - 1 = a := by omega
  have e2 : (-(-(b : Int) - 1)).toNat - 1 = b := by omega
  rw [e1, e2]
  omega
theorem or_small {a b : Int} (ha : Small a) (hb : Small b) : Small (Builtin.bitOr a b) := by
  obtain ⟨m, rfl, hm⟩ := ha.nat
  obtain ⟨k, rfl, hk⟩ := hb.nat
  rw [or_nat]
  have := Nat.or_lt_two_pow (n := 10) hm hk
  exact ⟨by omega, by omega⟩
theorem xor_small {a b : Int} (ha : Small a) (hb : Small b) : Small (Builtin.bitXor a b) := by
  obtain ⟨m, rfl, hm⟩ := ha.nat
  obtain ⟨k, rfl, hk⟩ := hb.nat
  unfold Builtin.bitXor
  rw [or_nat, and_nat]
  have := Nat.or_lt_two_pow (n := 10) hm hk
  have h2 : m &&& k ≤ m ||| k := Nat.le_trans Nat.and_le_left Nat.left_le_or
  exact ⟨by omega, by omega⟩
theorem joined_eq {a b : Int} (ha : Small a) (hb : Small b) (st : Store) : F_joined [.tup (ppl a), .tup (ppl b)] st = .ok (.tup (ppl (Builtin.bitOr a b))) st :=
  xRun (ρ1 := [.val (.tup (ppl a)), .val (.tup (ppl b))]) rfl (xSsR (xRet (xCall (xEs (xBin (xCall rfl (number_eq ha st)) (xCall rfl (number_eq hb st)) rfl) rfl) (set_of_eq _ st))))
theorem shared_eq {a b : Int} (ha : Small a) (hb : Small b) (st : Store) : F_shared [.tup (ppl a), .tup (ppl b)] st = .ok (.tup (ppl (Builtin.bitAnd a b))) st :=
  xRun (ρ1 := [.val (.tup (ppl a)), .val (.tup (ppl b))]) rfl (xSsR (xRet (xCall (xEs (xBin (xCall rfl (number_eq ha st)) (xCall rfl (number_eq hb st)) rfl) rfl) (set_of_eq _ st))))
theorem less_eq {a b : Int} (ha : Small a) (hb : Small b) (st : Store) : F_less [.tup (ppl a), .tup (ppl b)] st = .ok (.tup (ppl (Builtin.bitAnd a (Builtin.bitNot b)))) st :=
  xRun (ρ1 := [.val (.tup (ppl a)), .val (.tup (ppl b))]) rfl (xSsR (xRet (xCall (xEs (xBin (x := .int a) (y := .int (Builtin.bitNot b)) (xCall rfl (number_eq ha st)) (xUn (xCall rfl (number_eq hb st)) rfl) rfl) rfl) (set_of_eq _ st))))
/-- the three doors, by numbers -/
def due (door : Int) (a b : Int) : Int := if door = 0 then Builtin.bitOr a b else if door = 1 then Builtin.bitAnd a b else Builtin.bitAnd a (Builtin.bitNot b)
def Door (d : Int) : Prop := d = 0 ∨ d = 1 ∨ d = 2
def Way (d : Int) : Prop := d = 0 ∨ d = 1
theorem due_small {d a b : Int} (hd : Door d) (ha : Small a) (hb : Small b) : Small (due d a b) := by
  rcases hd with rfl | rfl | rfl
  · exact or_small ha hb
  · exact and_small ha hb
  · exact less_small ha hb
theorem due_eq {d : Int} (hd : Door d) (a b : Int) (st : Store) : F_law_due [.int d, .int a, .int b] st = .ok (.int (due d a b)) st := by
  rcases hd with rfl | rfl | rfl <;> rfl
theorem put_eq {d w a b : Int} (hd : Door d) (hw : Way w) (ha : Small a) (hb : Small b) (st : Store) : F_law_put [.int d, .tup (ppl a), .tup (ppl b), .int w] st = .ok (.tup (ppl (due d a b))) st := by
  have c : ∀ i v r, ([.val (.int d), .val (.tup (ppl a)), .val (.tup (ppl b)), .val (.int w)] : Env)[i]? = some (.val (.int v)) → evE ⟨[F_joined, F_shared, F_less], []⟩ (.cmp .Eq (.var i) (.lit (.int r))) [.val (.int d), .val (.tup (ppl a)), .val (.tup (ppl b)), .val (.int w)] st = .ok (.bl (decide (v = r))) [.val (.int d), .val (.tup (ppl a)), .val (.tup (ppl b)), .val (.int w)] st := fun i v r h =>
    xCmp (x := .int v) (y := .int r) (by show getV i _ st = _; unfold getV; rw [h]) rfl (eq_int v r)
  have fin : ∀ (j : Nat) (z : Int), fnAt [F_joined, F_shared, F_less] j [.tup (ppl a), .tup (ppl b)] st = .ok (.tup (ppl z)) st →
      evE ⟨[F_joined, F_shared, F_less], []⟩ (.ite (.cmp .Eq (.var 3) (.lit (.int 0))) (.call j (.cons (.var 1) (.cons (.var 2) .nil)) .nil []) (.call j .nil (.cons (.var 2) (.cons (.var 1) .nil)) [1, 0])) [.val (.int d), .val (.tup (ppl a)), .val (.tup (ppl b)), .val (.int w)] st = .ok (.tup (ppl z)) [.val (.int d), .val (.tup (ppl a)), .val (.tup (ppl b)), .val (.int w)] st := fun j z h => by
    rcases hw with rfl | rfl
    · exact xIfT (c 3 _ _ rfl) rfl (xCall rfl h)
    · exact xIfF (c 3 _ _ rfl) rfl (xCallK rfl rfl rfl h)
  refine xRun (ρ1 := [.val (.int d), .val (.tup (ppl a)), .val (.tup (ppl b)), .val (.int w)]) rfl ?_
  rcases hd with rfl | rfl | rfl
  · exact xSsR ((xIteT (xT (c 0 _ _ rfl) rfl)).trans (xSsR (xRet (fin 0 _ (joined_eq ha hb st)))))
  · exact (xSs ((xIteF (xT (c 0 _ _ rfl) rfl)).trans rfl)).trans (xSsR ((xIteT (xT (c 0 _ _ rfl) rfl)).trans (xSsR (xRet (fin 1 _ (shared_eq ha hb st))))))
  · exact (xSs ((xIteF (xT (c 0 _ _ rfl) rfl)).trans rfl)).trans ((xSs ((xIteF (xT (c 0 _ _ rfl) rfl)).trans rfl)).trans (xSsR (xRet (fin 2 _ (less_eq ha hb st)))))
/-! ### the same -/
theorem rng_mem {n : Nat} {x : D} (h : x ∈ rng 0 n) : ∃ i < n, x = .int (i : Nat) := by
  unfold rng at h
  simp only [List.mem_map, List.mem_range] at h
  obtain ⟨i, h1, rfl⟩ := h
  exact ⟨i, by omega, by simp⟩
theorem ixN_nat {n i : Nat} (h : i < n) : ixN n (i : Int) = some i := by
  unfold ixN
  rw [if_pos (by omega), if_pos (by omega)]
  simp
abbrev same (k : Nat) : Fn := runRec ⟨[], []⟩ f_law_same k
theorem same_int (k : Nat) (i : Int) (st : Store) : same (k + 1) [.int i, .int i] st = .ok (.bl true) st := by
  refine xRun (ρ1 := [.val (.int i), .val (.int i), .un, .un]) rfl ?_
  refine (xSs (ρ1 := [.val (.int i), .val (.int i), .un, .un]) (st1 := st) ((xIteF (xT (xOrF rfl rfl rfl) rfl)).trans rfl)).trans ?_
  refine xSsR ((xIteT (xT rfl rfl)).trans (xSsR (xRet (xAndT rfl rfl (xAndT rfl rfl (?_ : evE _ (.cmp _ _ _) _ _ = _))))))
  have e : decide (i - i = 0) = true := decide_eq_true (by omega)
  rw [← e]
  exact xCmp (x := .int (i - i)) (y := .int 0) rfl rfl (eq_int _ _)
theorem same_tup (k : Nat) (xs : List D) (st : Store) (hl : xs.length ≤ line) (h : ∀ x ∈ xs, same k [x, x] st = .ok (.bl true) st) : same (k + 1) [.tup xs, .tup xs] st = .ok (.bl true) st := by
  refine xRun (ρ1 := [.val (.tup xs), .val (.tup xs), .un, .un]) rfl ?_
  refine (xSs (ρ1 := [.val (.tup xs), .val (.tup xs), .un, .un]) (st1 := st) ((xIteF (xT (xOrF rfl rfl rfl) rfl)).trans rfl)).trans ?_
  refine (xSs (ρ1 := [.val (.tup xs), .val (.tup xs), .un, .un]) (st1 := st) ((xIteF (xT rfl rfl)).trans rfl)).trans ?_
  refine (xSs (ρ1 := [.val (.tup xs), .val (.tup xs), .un, .un]) (st1 := st) ((xIteF (xT rfl rfl)).trans rfl)).trans ?_
  refine (xSs (ρ1 := [.val (.tup xs), .val (.tup xs), .un, .un]) (st1 := st) ((xIteF (xT (xOrF rfl rfl rfl) rfl)).trans rfl)).trans ?_
  refine xSsR (xRet (xAndT (xCmp (x := .int xs.length) (y := .int xs.length) rfl rfl (eq_int _ _)) (tru_eq rfl) (?_ : evE _ (.cmp _ _ _) _ _ = _)))
  refine xCmp (x := .lst []) (y := .lst []) (xMkP (c := .lst []) ?_) rfl rfl
  have q := xLc (G := ⟨same k :: [], []⟩) (elt := .var 3) (t := .nm 3) (it := .range1 (.bi .len (.var 1))) (ifs := .some (.not (.call 0 (.cons (.sub (.var 0) (.var 3)) (.cons (.sub (.var 1) (.var 3)) .nil)) .nil []))) (vs := [3]) (ρ := [.val (.tup xs), .val (.tup xs), .un, .un]) (st := st)
    (fun _ => false) id (xRange1 (n := xs.length) rfl (small_nat hl)) rfl (fun x hx => ?_) (by rw [show (rng 0 (xs.length : Int)).length = xs.length by unfold rng; simp]; exact hl)
  · rw [List.filter_eq_nil_iff.mpr fun _ _ => by simp] at q
    exact q
  · obtain ⟨i, hi, rfl⟩ := rng_mem hx
    have hx2 : xs[i]? = some xs[i] := by simp [hi]
    have hsub : subD (.tup xs) (.int (i : Nat)) = some xs[i] := by
      show (ixN xs.length (i : Int)).bind (fun j => xs[j]?) = _
      rw [ixN_nat hi]; exact hx2
    exact ⟨[.val (.tup xs), .val (.tup xs), .un, .val (.int (i : Nat))], rfl, rfl, xT (xNot (xCall (xEs (xSub rfl rfl hsub) (xEs (xSub rfl rfl hsub) rfl)) (h _ (List.getElem_mem hi))) rfl) rfl, fun z => by cases z⟩
theorem same_lst (k : Nat) (xs : List D) (st : Store) (hl : xs.length ≤ line) (h : ∀ x ∈ xs, same k [x, x] st = .ok (.bl true) st) : same (k + 1) [.lst xs, .lst xs] st = .ok (.bl true) st := by
  refine xRun (ρ1 := [.val (.lst xs), .val (.lst xs), .un, .un]) rfl ?_
  refine (xSs (ρ1 := [.val (.lst xs), .val (.lst xs), .un, .un]) (st1 := st) ((xIteF (xT (xOrF rfl rfl rfl) rfl)).trans rfl)).trans ?_
  refine (xSs (ρ1 := [.val (.lst xs), .val (.lst xs), .un, .un]) (st1 := st) ((xIteF (xT rfl rfl)).trans rfl)).trans ?_
  refine (xSs (ρ1 := [.val (.lst xs), .val (.lst xs), .un, .un]) (st1 := st) ((xIteF (xT rfl rfl)).trans rfl)).trans ?_
  refine (xSs (ρ1 := [.val (.lst xs), .val (.lst xs), .un, .un]) (st1 := st) ((xIteF (xT (xOrF rfl rfl rfl) rfl)).trans rfl)).trans ?_
  refine xSsR (xRet (xAndT (xCmp (x := .int xs.length) (y := .int xs.length) rfl rfl (eq_int _ _)) (tru_eq rfl) (?_ : evE _ (.cmp _ _ _) _ _ = _)))
  refine xCmp (x := .lst []) (y := .lst []) (xMkP (c := .lst []) ?_) rfl rfl
  have q := xLc (G := ⟨same k :: [], []⟩) (elt := .var 3) (t := .nm 3) (it := .range1 (.bi .len (.var 1))) (ifs := .some (.not (.call 0 (.cons (.sub (.var 0) (.var 3)) (.cons (.sub (.var 1) (.var 3)) .nil)) .nil []))) (vs := [3]) (ρ := [.val (.lst xs), .val (.lst xs), .un, .un]) (st := st)
    (fun _ => false) id (xRange1 (n := xs.length) rfl (small_nat hl)) rfl (fun x hx => ?_) (by rw [show (rng 0 (xs.length : Int)).length = xs.length by unfold rng; simp]; exact hl)
  · rw [List.filter_eq_nil_iff.mpr fun _ _ => by simp] at q
    exact q
  · obtain ⟨i, hi, rfl⟩ := rng_mem hx
    have hx2 : xs[i]? = some xs[i] := by simp [hi]
    have hsub : subD (.lst xs) (.int (i : Nat)) = some xs[i] := by
      show (ixN xs.length (i : Int)).bind (fun j => xs[j]?) = _
      rw [ixN_nat hi]; exact hx2
    exact ⟨[.val (.lst xs), .val (.lst xs), .un, .val (.int (i : Nat))], rfl, rfl, xT (xNot (xCall (xEs (xSub rfl rfl hsub) (xEs (xSub rfl rfl hsub) rfl)) (h _ (List.getElem_mem hi))) rfl) rfl, fun z => by cases z⟩
theorem same_ppl (k : Nat) (n : Int) (st : Store) : same (k + 2) [.tup (ppl n), .tup (ppl n)] st = .ok (.bl true) st :=
  same_tup (k + 1) _ st (Nat.le_trans (ppl_len n) (by decide)) fun x hx => by
    rcases mem_ten (ppl_sub n x hx) with rfl | rfl | rfl | rfl | rfl | rfl | rfl | rfl | rfl | rfl <;> exact same_int k _ st

theorem pow_small {v : Int} (h0 : 0 ≤ v) (h1 : v < 10) : Small (1 * 2 ^ v.toNat) ∧ powOk 1 v = true := by
  have : ∀ m < 10, Small (1 * 2 ^ ((m : Nat) : Int).toNat) ∧ powOk 1 ((m : Nat) : Int) = true := by
    intro m hm
    refine ⟨⟨?_, ?_⟩, ?_⟩
    · show (0 : Int) ≤ 1 * 2 ^ m
      have : (0 : Int) < 2 ^ m := Int.pow_pos (by decide)
      omega
    · show (1 : Int) * 2 ^ m < 1024
      rw [Int.one_mul]
      exact_mod_cast Nat.pow_lt_pow_right (a := 2) (by decide) hm
    · exact powOk_of (by omega) (by omega) (by decide) (by decide)
  have q := this v.toNat (by omega)
  rw [show ((v.toNat : Nat) : Int) = v by omega] at q
  exact q
theorem take_eq {st : Store} {l : Nat} {n m : Int} (hb : Box st l n) (hn : n ≤ 1000000) (h0 : 0 < m) (h1 : m < 1073741824) :
    ∃ v st', F_law_take [.ref l, .int m] st = .ok (.int v) st' ∧ 0 ≤ v ∧ v < m ∧ Box st' l (n + 1) := by
  obtain ⟨v, st', e, a, b, c, _⟩ := take_ok (G := ⟨[], []⟩) hb hn h0 h1
  exact ⟨v, st', e, a, b, c⟩
abbrev A2 (a b : Int) : D := .tup [.int a, .int b]
abbrev plist (v1 v2 t : Int) : List D := [A2 v1 v2, A2 v1 (Builtin.bitAnd v1 v2), A2 v1 (Builtin.bitAnd v2 (Builtin.bitNot v1)), A2 v1 v1, A2 v1 0, A2 0 v1, A2 v1 1023, A2 v1 (Builtin.bitAnd 1023 (Builtin.bitNot v1)), A2 (Builtin.bitOr v1 t) (Builtin.bitAnd v1 (Builtin.bitNot t)), A2 (Builtin.bitAnd v1 (Builtin.bitNot t)) (Builtin.bitOr v1 t), A2 t v1, A2 v1 (Builtin.bitXor v1 t)]
theorem pair_ok {st : Store} {l : Nat} {n : Int} (hb : Box st l n) (hn : n ≤ 1000) {k : D} (hk : k ∈ rng 0 12) :
    ∃ a b st', F_law_pair [.ref l, k] st = .ok (A2 a b) st' ∧ Small a ∧ Small b ∧ Box st' l (n + 3) := by
  obtain ⟨v1, st1, e1, a1, b1, c1⟩ := take_eq (m := 1024) hb (by omega) (by decide) (by decide)
  obtain ⟨v2, st2, e2, a2, b2, c2⟩ := take_eq (m := 1024) c1 (by omega) (by decide) (by decide)
  obtain ⟨v3, st3, e3, a3, b3, c3⟩ := take_eq (m := 10) c2 (by omega) (by decide) (by decide)
  obtain ⟨ht, hp⟩ := pow_small a3 b3
  have s1 : Small v1 := ⟨a1, b1⟩
  have s2 : Small v2 := ⟨a2, b2⟩
  generalize hT : (1 * 2 ^ v3.toNat : Int) = t at ht
  have hop : opD .LShift (.int 1) (.int v3) = some (.int t) := by rw [← hT]; exact op_shl hp
  have sN : Small 1023 := ⟨by decide, by decide⟩
  have s0 : Small 0 := ⟨by decide, by decide⟩
  have key : ∀ z, subD (.lst (plist v1 v2 t)) k = some z → F_law_pair [.ref l, k] st = .ok z st3 := by
    intro z hz
    refine xRun (ρ1 := [.val (.ref l), .val k, .val (.lst (plist v1 v2 t)), .val (.int v1), .val (.int v2), .val (.int t)]) rfl ?_
    refine Eq.trans (xSs (xPar (xEs (xCall rfl e1) (xEs (xCall rfl e2) (xEs (xBin (z := .int t) rfl (xCall rfl e3) hop) rfl))) rfl)) ?_
    refine Eq.trans (xSs (xAsg rfl rfl)) ?_
    refine Eq.trans (xSs (xAsg rfl rfl)) ?_
    exact xSsR (xRet (xSub rfl rfl hz))
  have fin : ∀ {a b : Int}, subD _ k = some (A2 a b) → Small a → Small b → ∃ a b st', F_law_pair [.ref l, k] st = .ok (A2 a b) st' ∧ Small a ∧ Small b ∧ Box st' l (n + 3) := fun {a b} h ha hb' => ⟨a, b, st3, key _ h, ha, hb', by
    rw [show n + 3 = n + 1 + 1 + 1 by omega]; exact c3⟩
  have hk' : k = .int 0 ∨ k = .int 1 ∨ k = .int 2 ∨ k = .int 3 ∨ k = .int 4 ∨ k = .int 5 ∨ k = .int 6 ∨ k = .int 7 ∨ k = .int 8 ∨ k = .int 9 ∨ k = .int 10 ∨ k = .int 11 := by
    have : rng 0 12 = [.int 0, .int 1, .int 2, .int 3, .int 4, .int 5, .int 6, .int 7, .int 8, .int 9, .int 10, .int 11] := rfl
    rw [this] at hk
    simpa using hk
  rcases hk' with rfl | rfl | rfl | rfl | rfl | rfl | rfl | rfl | rfl | rfl | rfl | rfl
  · exact fin rfl s1 s2
  · exact fin rfl s1 (and_small s1 s2)
  · exact fin rfl s1 (less_small s2 s1)
  · exact fin rfl s1 s1
  · exact fin rfl s1 s0
  · exact fin rfl s0 s1
  · exact fin rfl s1 sN
  · exact fin rfl s1 (less_small sN s1)
  · exact fin rfl (or_small s1 ht) (less_small s1 ht)
  · exact fin rfl (less_small s1 ht) (or_small s1 ht)
  · exact fin rfl ht s1
  · exact fin rfl s1 (xor_small s1 ht)

theorem fst_bind {t : Tg} {x : D} {f : M Fl} {ρ ρ1 ρ2 : Env} {st st1 : Store} {r : Fl} (h : bindT t x ρ st = .ok () ρ1 st) (h2 : f ρ1 st = .ok r ρ2 st1) : (bind (bindT t x) fun _ => f) ρ st = .ok r ρ2 st1 := (mBind h).trans h2
abbrev GR : Gm := ⟨[F_law_pair, F_law_take, F_law_people, F_law_due, F_law_put, F_law_same], []⟩
def env (l : Nat) (k w sets pair third : D) (s4 s7 s9 s10 s11 s12 : Sl) : Env := [.val (.ref l), .val k, .val w, .val sets, s4, .val pair, .val third, s7, .un, s9, s10, s11, s12]
theorem same_nf {ρ ρ1 : Env} {st st1 : Store} {a b : IE} {n : Int} (h : evEs GR (.cons a (.cons b .nil)) ρ st = .ok [.tup (ppl n), .tup (ppl n)] ρ1 st1) : evT GR (.some (.not (.call 5 (.cons a (.cons b .nil)) .nil []))) ρ st = .ok false ρ1 st1 :=
  xT (xNot (xCall h (same_ppl 6 n st1)) rfl) rfl
theorem step_F {G : Gm} {c : IE} {a r : ISs} {ρ ρ1 : Env} {st st1 : Store} (h : evT G (.some c) ρ st = .ok false ρ1 st1) : evSs G (.cons (.ite c a .nil) r) ρ st = evSs G r ρ1 st1 := xSs ((xIteF h).trans rfl)
/-- a turn of the inner loop -/
theorem turn_ok {st : Store} {l : Nat} {n : Int} (hb : Box st l n) (hn : n ≤ 1000) {k : D} {w d t third : Int} {sets pair : D} {x y : Int} {s7 s9 s10 s11 s12 : Sl} (hd : Door d) (hw : Way w) (hw1 : Way (1 - w)) (hw2 : Way ((w + t) % 2)) (hx : Small x) (hy : Small y) (h3 : Small third)
    (p1 : subD pair (.int t) = some (.int x)) (p2 : subD pair (.int (1 - t)) = some (.int y)) (q1 : subD sets (.int t) = some (.tup (ppl x))) (q2 : subD sets (.int (1 - t)) = some (.tup (ppl y))) (v1 : ∀ st : Store, view st pair = pair) (v2 : ∀ st : Store, view st sets = sets) {b : ISs} {r1 r2 r3 : ISs}
    (hbody : b = .cons (.asg (.nm 9) (.call 3 (.cons (.var 4) (.cons (.sub (.var 5) (.var 7)) (.cons (.sub (.var 5) (.bin .Sub (.lit (.int 1)) (.var 7))) .nil))) .nil [])) (.cons (.asg (.nm 10) (.call 4 (.cons (.var 4) (.cons (.sub (.var 3) (.var 7)) (.cons (.sub (.var 3) (.bin .Sub (.lit (.int 1)) (.var 7))) (.cons (.bin .Mod (.bi .int (.bin .Add (.var 2) (.var 7))) (.lit (.int 2))) .nil)))) .nil [])) (.cons (.ite (.not (.call 5 (.cons (.var 10) (.cons (.call 2 (.cons (.var 9) .nil) .nil []) .nil)) .nil [])) r1 .nil) (.cons (.asg (.nm 11) (.call 1 (.cons (.var 0) (.cons (.lit (.int 3)) .nil)) .nil [])) (.cons (.asg (.nm 12) (.call 4 (.cons (.var 11) (.cons (.var 10) (.cons (.call 2 (.cons (.var 6) .nil) .nil []) (.cons (.var 2) .nil)))) .nil [])) (.cons (.ite (.not (.call 5 (.cons (.var 12) (.cons (.call 2 (.cons (.call 3 (.cons (.var 11) (.cons (.var 9) (.cons (.var 6) .nil))) .nil []) .nil) .nil []) .nil)) .nil [])) r2 .nil) (.cons (.asg (.nm 12) (.call 4 (.cons (.var 11) (.cons (.call 2 (.cons (.var 6) .nil) .nil []) (.cons (.var 10) (.cons (.bin .Sub (.lit (.int 1)) (.var 2)) .nil)))) .nil [])) (.cons (.ite (.not (.call 5 (.cons (.var 12) (.cons (.call 2 (.cons (.call 3 (.cons (.var 11) (.cons (.var 6) (.cons (.var 9) .nil))) .nil []) .nil) .nil []) .nil)) .nil [])) r3 .nil) .nil)))))))) :
    ∃ s7' s9' s10' s11' s12' st', (bind (bindT (.nm 7) (.int t)) fun _ => evSs GR b) (env l k (.int w) sets pair (.int third) (.val (.int d)) s7 s9 s10 s11 s12) st = .ok .next (env l k (.int w) sets pair (.int third) (.val (.int d)) s7' s9' s10' s11' s12') st' ∧ Box st' l (n + 1) := by
  obtain ⟨f, st1, e1, a1, b1, c1⟩ := take_eq (m := 3) hb (by omega) (by decide) (by decide)
  have hf : Door f := by unfold Door; omega
  have hD := due_small hd hx hy
  subst hbody
  refine ⟨.val (.int t), .val (.int (due d x y)), .val (.tup (ppl (due d x y))), .val (.int f), .val (.tup (ppl (due f third (due d x y)))), st1, fst_bind (ρ1 := env l k (.int w) sets pair (.int third) (.val (.int d)) (.val (.int t)) s9 s10 s11 s12) rfl ?_, c1⟩
  have g1 : ∀ {ρ : Env} {st : Store} {i : IE} {z : D} {j : Int}, ρ[5]? = some (.val pair) → evE GR i ρ st = .ok (.int j) ρ st → subD pair (.int j) = some z → evE GR (.sub (.var 5) i) ρ st = .ok z ρ st := fun {ρ st i z j} h1 h2 h3 => xSub (x := pair) (by show getV 5 ρ st = _; unfold getV; rw [h1]) h2 (by rw [v1]; exact h3)
  have g2 : ∀ {ρ : Env} {st : Store} {i : IE} {z : D} {j : Int}, ρ[3]? = some (.val sets) → evE GR i ρ st = .ok (.int j) ρ st → subD sets (.int j) = some z → evE GR (.sub (.var 3) i) ρ st = .ok z ρ st := fun {ρ st i z j} h1 h2 h3 => xSub (x := sets) (by show getV 3 ρ st = _; unfold getV; rw [h1]) h2 (by rw [v2]; exact h3)
  refine Eq.trans (xSs (xAsg (xCall (xEs rfl (xEs (g1 rfl rfl p1) (xEs (g1 rfl rfl p2) rfl))) (due_eq hd x y st)) rfl)) ?_
  refine Eq.trans (xSs (xAsg (xCall (xEs rfl (xEs (g2 rfl rfl q1) (xEs (g2 rfl rfl q2) (xEs (d := .int ((w + t) % 2)) rfl rfl)))) (put_eq hd hw2 hx hy st)) rfl)) ?_
  refine Eq.trans (step_F (same_nf (xEs rfl (xEs (xCall rfl (people_eq _ st)) rfl)))) ?_
  refine Eq.trans (xSs (xAsg (xCall rfl e1) rfl)) ?_
  refine Eq.trans (xSs (xAsg (xCall (xEs rfl (xEs rfl (xEs (xCall rfl (people_eq _ st1)) rfl))) (put_eq hf hw hD h3 st1)) rfl)) ?_
  refine Eq.trans (step_F (same_nf (xEs rfl (xEs (xCall (xEs (xCall rfl (due_eq hf _ _ st1)) rfl) (people_eq _ st1)) rfl)))) ?_
  refine Eq.trans (xSs (xAsg (xCall (xEs rfl (xEs (xCall rfl (people_eq _ st1)) rfl)) (put_eq hf hw1 h3 hD st1)) rfl)) ?_
  refine Eq.trans (step_F (same_nf (xEs rfl (xEs (xCall (xEs (xCall rfl (due_eq hf _ _ st1)) rfl) (people_eq _ st1)) rfl)))) ?_
  rfl

def tp : D → D
  | .int n => .tup (ppl n)
  | _ => .non
theorem sets_lc {l : Nat} {k w third : D} {a b : Int} {s3 s4 s7 s9 s10 s11 s12 : Sl} {st : Store} :
    evF GR (.lc (.call 2 (.cons (.var 8) .nil) .nil []) (.nm 8) (.seq (.var 5)) .none [8]) [.val (.ref l), .val k, .val w, s3, s4, .val (A2 a b), .val third, s7, .un, s9, s10, s11, s12] st = .ok (.lst [.tup (ppl a), .tup (ppl b)]) [.val (.ref l), .val k, .val w, s3, s4, .val (A2 a b), .val third, s7, .un, s9, s10, s11, s12] st := by
  refine xLc (xs := [.int a, .int b]) (fun _ => true) tp (xSeq (x := A2 a b) rfl rfl) rfl (fun x hx => ?_) (show 2 ≤ 16777216 by decide)
  simp only [List.mem_cons, List.not_mem_nil, or_false] at hx
  rcases hx with rfl | rfl
  · exact ⟨_, rfl, rfl, rfl, fun _ => xCall (xEs rfl rfl) (people_eq a st)⟩
  · exact ⟨_, rfl, rfl, rfl, fun _ => xCall (xEs rfl rfl) (people_eq b st)⟩
abbrev outB : ISs := forB (nthS f_law_right.body 2)
abbrev inB : ISs := forB (nthS outB 0)
theorem same_two (st : Store) (a b : Int) : F_law_same [.lst [.tup (ppl a), .tup (ppl b)], .lst [.tup (ppl a), .tup (ppl b)]] st = .ok (.bl true) st :=
  same_lst 7 [.tup (ppl a), .tup (ppl b)] st (show 2 ≤ 16777216 by decide) fun x hx => by
    simp only [List.mem_cons, List.not_mem_nil, or_false] at hx
    rcases hx with rfl | rfl
    · exact same_ppl 5 a st
    · exact same_ppl 5 b st
theorem right_ok {st : Store} {l : Nat} {n : Int} (hb : Box st l n) (hn : n ≤ 900) {k : D} (hk : k ∈ rng 0 12) {w : Int} (hw : Way w) :
    ∃ st', F_law_right [.ref l, k, .int w] st = .ok (.bl true) st' ∧ Box st' l (n + 10) := by
  obtain ⟨a, b, st1, e1, sa, sb, c1⟩ := pair_ok hb (by omega) hk
  obtain ⟨third, st2, e2, a2, b2, c2⟩ := take_eq (m := 1024) c1 (by omega) (by decide) (by decide)
  have h3 : Small third := ⟨a2, b2⟩
  have hw1 : Way (1 - w) := by unfold Way at hw ⊢; omega
  -- the loops
  have step : ∀ (i : Nat) (x : D) (ρ : Env) (st : Store), [D.int 0, D.int 1, D.int 2][i]? = some x → (fun i ρ st => ∃ s4 s7 s9 s10 s11 s12, ρ = env l k (.int w) (.lst [.tup (ppl a), .tup (ppl b)]) (A2 a b) (.int third) s4 s7 s9 s10 s11 s12 ∧ Box st l (n + 4 + 2 * i) : Nat → Env → Store → Prop) i ρ st → ∃ ρ' st', goF GR (.nm 4) outB x ρ st = .ok .next ρ' st' ∧ (fun i ρ st => ∃ s4 s7 s9 s10 s11 s12, ρ = env l k (.int w) (.lst [.tup (ppl a), .tup (ppl b)]) (A2 a b) (.int third) s4 s7 s9 s10 s11 s12 ∧ Box st l (n + 4 + 2 * i) : Nat → Env → Store → Prop) (i + 1) ρ' st' := by
    intro i x ρ st hx h
    obtain ⟨s4, s7, s9, s10, s11, s12, rfl, c⟩ := h
    have hi : i < 3 := (List.getElem?_eq_some_iff.mp hx).1
    have hxd : ∃ d, x = .int d ∧ Door d := by
      have := List.mem_of_getElem? hx
      simp only [List.mem_cons, List.not_mem_nil, or_false] at this
      rcases this with rfl | rfl | rfl
      · exact ⟨_, rfl, .inl rfl⟩
      · exact ⟨_, rfl, .inr (.inl rfl)⟩
      · exact ⟨_, rfl, .inr (.inr rfl)⟩
    obtain ⟨d, rfl, hd⟩ := hxd
    have istep : ∀ (j : Nat) (y : D) (ρ : Env) (st : Store), [D.int 0, D.int 1][j]? = some y → (fun j ρ st => ∃ s7 s9 s10 s11 s12, ρ = env l k (.int w) (.lst [.tup (ppl a), .tup (ppl b)]) (A2 a b) (.int third) (.val (.int d)) s7 s9 s10 s11 s12 ∧ Box st l (n + 4 + 2 * i + j) : Nat → Env → Store → Prop) j ρ st → ∃ ρ' st', goF GR (.nm 7) inB y ρ st = .ok .next ρ' st' ∧ (fun j ρ st => ∃ s7 s9 s10 s11 s12, ρ = env l k (.int w) (.lst [.tup (ppl a), .tup (ppl b)]) (A2 a b) (.int third) (.val (.int d)) s7 s9 s10 s11 s12 ∧ Box st l (n + 4 + 2 * i + j) : Nat → Env → Store → Prop) (j + 1) ρ' st' := by
      intro j y ρ st hy h
      obtain ⟨s7, s9, s10, s11, s12, rfl, c⟩ := h
      have hj : j < 2 := (List.getElem?_eq_some_iff.mp hy).1
      have := List.mem_of_getElem? hy
      simp only [List.mem_cons, List.not_mem_nil, or_false] at this
      have fin : ∀ {t x y : Int}, Way ((w + t) % 2) → Small x → Small y → subD (A2 a b) (.int t) = some (.int x) → subD (A2 a b) (.int (1 - t)) = some (.int y) → subD (.lst [.tup (ppl a), .tup (ppl b)]) (.int t) = some (.tup (ppl x)) → subD (.lst [.tup (ppl a), .tup (ppl b)]) (.int (1 - t)) = some (.tup (ppl y)) →
          ∃ ρ' st', goF GR (.nm 7) inB (.int t) (env l k (.int w) (.lst [.tup (ppl a), .tup (ppl b)]) (A2 a b) (.int third) (.val (.int d)) s7 s9 s10 s11 s12) st = .ok .next ρ' st' ∧ ∃ s7 s9 s10 s11 s12, ρ' = env l k (.int w) (.lst [.tup (ppl a), .tup (ppl b)]) (A2 a b) (.int third) (.val (.int d)) s7 s9 s10 s11 s12 ∧ Box st' l (n + 4 + 2 * i + (j + 1 : Nat)) := by
        intro t x y h1 h2 h2' p1 p2 q1 q2
        obtain ⟨r7, r9, r10, r11, r12, st', e, c'⟩ := turn_ok c (by omega) hd hw hw1 h1 h2 h2' h3 p1 p2 q1 q2 (fun _ => rfl) (fun _ => rfl) (b := inB) rfl (s7 := s7) (s9 := s9) (s10 := s10) (s11 := s11) (s12 := s12) (k := k)
        exact ⟨_, st', e, r7, r9, r10, r11, r12, rfl, by rw [show n + 4 + 2 * (i : Int) + ((j + 1 : Nat) : Int) = n + 4 + 2 * i + j + 1 by omega]; exact c'⟩
      rcases this with rfl | rfl
      · exact fin (by unfold Way at hw ⊢; omega) sa sb rfl rfl rfl rfl
      · exact fin (by unfold Way at hw ⊢; omega) sb sa rfl rfl rfl rfl
    obtain ⟨ρ', st', eI, t7, t9, t10, t11, t12, rfl, c4⟩ := loop_inv (ρ := env l k (.int w) (.lst [.tup (ppl a), .tup (ppl b)]) (A2 a b) (.int third) (.val (.int d)) s7 s9 s10 s11 s12) (st := st) _ istep ⟨_, _, _, _, _, rfl, by rw [show n + 4 + 2 * (i : Int) + ((0 : Nat) : Int) = n + 4 + 2 * i by omega]; exact c⟩
    refine ⟨_, st', ?_, .val (.int d), t7, t9, t10, t11, t12, rfl, by rw [show n + 4 + 2 * ((i + 1 : Nat) : Int) = n + 4 + 2 * i + (([D.int 0, D.int 1].length : Nat) : Int) by show n + 4 + 2 * ((i + 1 : Nat) : Int) = n + 4 + 2 * i + 2; omega]; exact c4⟩
    refine Eq.trans (mBind rfl) ?_
    exact Eq.trans (xSs (xFor' (xs := [.int 0, .int 1]) rfl eI)) rfl
  obtain ⟨ρ', st', eL, s4, s7, s9, s10, s11, s12, rfl, c3⟩ := loop_inv (ρ := env l k (.int w) (.lst [.tup (ppl a), .tup (ppl b)]) (A2 a b) (.int third) .un .un .un .un .un .un) (st := st2) _ step ⟨_, _, _, _, _, _, rfl, by rw [show n + 4 + 2 * ((0 : Nat) : Int) = n + 3 + 1 by omega]; exact c2⟩
  refine ⟨st', ?_, by rw [show n + 10 = n + 4 + 2 * (([D.int 0, D.int 1, D.int 2].length : Nat) : Int) by show n + 10 = n + 4 + 2 * 3; omega]; exact c3⟩
  refine xRun (ρ1 := env l k (.int w) (.lst [.tup (ppl a), .tup (ppl b)]) (A2 a b) (.int third) s4 s7 s9 s10 s11 s12) rfl ?_
  refine Eq.trans (xSs (xPar (xEs (xCall rfl e1) (xEs (xCall rfl e2) rfl)) rfl)) ?_
  refine Eq.trans (xSs (xAsg (xMkP sets_lc) rfl)) ?_
  refine Eq.trans (xSs (xFor' (xs := [.int 0, .int 1, .int 2]) rfl eL)) ?_
  refine xSsR (xRet (xCall (ds := [.lst [.tup (ppl a), .tup (ppl b)], .lst [.tup (ppl a), .tup (ppl b)]]) (xEs rfl (xEs (xMkP sets_lc) rfl)) (same_two st' a b)))
/-! ### the law -/
theorem ints_of : ∀ ns : List Int, intsD (ns.map .int) = some ns
  | [] => rfl
  | n :: ns => by
    show (intsD (ns.map .int)).map (n :: ·) = _
    rw [ints_of ns]; rfl
theorem cell_ok (ns : List Int) (k : Nat) (st : Store) : ∃ g, F_law_cell [.scr ns, .int k] st = .ok (.int g) st := by
  by_cases h : k < ns.length
  · refine ⟨ns[k], xRun (ρ1 := [.val (.scr ns), .val (.int k)]) rfl (xSsR (xRet (xIfT (x := .bl (decide ((k : Int) < ns.length))) rfl (tru_eq (by omega)) (xSub (x := .scr ns) (y := .int k) rfl rfl ?_))))⟩
    show (ixN ns.length (k : Int)).bind (fun j => ns[j]?.map D.int) = _
    rw [ixN_nat h]
    simp [h]
  · refine ⟨6007 * (k : Int) + (cut ns none (some 1)).sum % 1000033, xRun (ρ1 := [.val (.scr ns), .val (.int k)]) rfl (xSsR (xRet (xIfF (x := .bl (decide ((k : Int) < ns.length))) rfl ?_ (xBin (x := .int (6007 * k)) (y := .int ((cut ns none (some 1)).sum % 1000033)) (xBin (y := .int k) rfl rfl (op_mul rfl)) (xBin (xBi (xBi (x := .lst ((cut ns none (some 1)).map .int)) (z := .int (cut ns none (some 1)).sum) rfl ?_) rfl) rfl (op_mod (by decide))) rfl))))⟩
    · rw [decide_eq_false (by omega)]; rfl
    · show (intsD ((cut ns none (some 1)).map D.int)).map (fun ns => D.int ns.sum) = _
      rw [ints_of]; rfl
theorem box_eq (g : Int) (st : Store) : F_law_box [.int g] st = .ok (.ref st.length) (st ++ [.lst [.int (if g < 0 then -g else g), .bl (decide (10 ^ 18 ≤ if g < 0 then -g else g)), .int ((if g < 0 then -g else g) % 2147483629), .int 0]]) := rfl
theorem box_new (g : Int) (st : Store) : Box (st ++ [.lst [.int (if g < 0 then -g else g), .bl (decide (10 ^ 18 ≤ if g < 0 then -g else g)), .int ((if g < 0 then -g else g) % 2147483629), .int 0]]) st.length 0 :=
  ⟨if g < 0 then -g else g, decide (10 ^ 18 ≤ if g < 0 then -g else g), (if g < 0 then -g else g) % 2147483629, 0, by simp, Int.emod_nonneg _ (by decide), Int.emod_lt_of_pos _ (by decide), by decide, by decide⟩
abbrev GL : Gm := ⟨[F_law_box, F_law_cell, F_law_right, F_law_take], []⟩
abbrev kB : ISs := forB (nthS f_law.body 0)
abbrev kindB : ISs := forB (nthS kB 1)
theorem law_true : ∀ ns : List Int, ns.length ≤ 63 → ∃ st, F_law [.scr ns] [] = .ok (.bl true) st := by
  intro ns hns
  obtain ⟨m, hm, hm4⟩ : ∃ m : Nat, bi2D .min (.int 4) (.int ns.length) = some (.int m) ∧ m ≤ 4 := by
    refine ⟨if ns.length < 4 then ns.length else 4, ?_, by split <;> omega⟩
    show some (D.int (if (ns.length : Int) < 4 then (ns.length : Int) else 4)) = _
    split <;> split <;> first | rfl | omega
  obtain ⟨q, hq, hq4⟩ : ∃ q : Nat, bi2D .max (.int 2) (.int m) = some (.int q) ∧ q ≤ 4 := by
    refine ⟨if 2 < m then m else 2, ?_, by split <;> omega⟩
    show some (D.int (if (m : Int) > 2 then (m : Int) else 2)) = _
    split <;> split <;> first | rfl | omega
  have step : ∀ (i : Nat) (x : D) (ρ : Env) (st : Store), (rng 0 q)[i]? = some x → (fun i ρ st => ∃ s1 s2 s3, ρ = [.val (.scr ns), s1, s2, s3] : Nat → Env → Store → Prop) i ρ st → ∃ ρ' st', goF GL (.nm 1) kB x ρ st = .ok .next ρ' st' ∧ (fun i ρ st => ∃ s1 s2 s3, ρ = [.val (.scr ns), s1, s2, s3] : Nat → Env → Store → Prop) (i + 1) ρ' st' := by
    intro i x ρ st hx h
    obtain ⟨s1, s2, s3, rfl⟩ := h
    obtain ⟨k, hk, rfl⟩ := rng_mem (List.mem_of_getElem? hx)
    obtain ⟨g, eg⟩ := cell_ok ns k st
    have istep : ∀ (j : Nat) (y : D) (ρ1 : Env) (stj : Store), (rng 0 12)[j]? = some y → (fun j ρ' st' => ∃ t3, ρ' = [.val (.scr ns), .val (.int (k : Nat)), .val (.ref st.length), t3] ∧ Box st' st.length (11 * j) : Nat → Env → Store → Prop) j ρ1 stj → ∃ ρ' st', goF GL (.nm 3) kindB y ρ1 stj = .ok .next ρ' st' ∧ (fun j ρ' st' => ∃ t3, ρ' = [.val (.scr ns), .val (.int (k : Nat)), .val (.ref st.length), t3] ∧ Box st' st.length (11 * j) : Nat → Env → Store → Prop) (j + 1) ρ' st' := by
      intro j y ρ1 stj hy h
      obtain ⟨t3, rfl, c⟩ := h
      have hj : j < 12 := (List.getElem?_eq_some_iff.mp hy).1
      obtain ⟨v, st1, e1, a1, b1, c1⟩ := take_eq (m := 2) c (by omega) (by decide) (by decide)
      obtain ⟨st2, e2, c2⟩ := right_ok c1 (by omega) (List.mem_of_getElem? hy) (w := v) (by unfold Way; omega)
      refine ⟨_, st2, ?_, .val y, rfl, by rw [show 11 * ((j + 1 : Nat) : Int) = 11 * j + 1 + 10 by omega]; exact c2⟩
      refine Eq.trans (mBind rfl) ?_
      exact Eq.trans (step_F (xT (xNot (xCall (xEs rfl (xEs rfl (xEs (xCall rfl e1) rfl))) e2) rfl) rfl)) rfl
    obtain ⟨ρ', st', eI, t3, rfl, _⟩ := loop_inv (ρ := [.val (.scr ns), .val (.int (k : Nat)), .val (.ref st.length), s3]) (st := st ++ [.lst [.int (if g < 0 then -g else g), .bl (decide (10 ^ 18 ≤ if g < 0 then -g else g)), .int ((if g < 0 then -g else g) % 2147483629), .int 0]]) _ istep ⟨_, rfl, box_new g st⟩
    refine ⟨_, st', ?_, .val (.int (k : Nat)), .val (.ref st.length), t3, rfl⟩
    refine Eq.trans (mBind rfl) ?_
    refine Eq.trans (xSs (xAsg (xCall (xEs (xCall rfl eg) rfl) (box_eq g st)) rfl)) ?_
    exact Eq.trans (xSs (xFor' (xs := rng 0 12) rfl eI)) rfl
  obtain ⟨ρ', st', eL, s1, s2, s3, rfl⟩ := loop_inv (ρ := [.val (.scr ns), .un, .un, .un]) (st := []) _ step ⟨_, _, _, rfl⟩
  refine ⟨st', xRun (ρ1 := [.val (.scr ns), s1, s2, s3]) rfl ?_⟩
  refine Eq.trans (xSs (xFor' (xRange1 (xBi2 rfl (xBi2 rfl rfl hm) hq) (small_nat (Nat.le_trans hq4 (by decide)))) eL)) ?_
  exact xSsR (xRet rfl)
end Z

namespace Z
open PySem PySem.Spec L2
open PyProof.Rows hiding St
def top (i : Nat) : Stmt := PySem.Challenge.pw_alwaysheld_k01_put_together.main.body.getD i (.Pass ⟨0, 0, 0, 0⟩)
def t_law_box : Txt := ⟨("_law_box" : Str), L2.defArgs (top 9), L2.defBody (top 9), L2.defScope (top 9), [("great" : Str)], [("great" : Str)]⟩
theorem s_law_box : FnScope t_law_box.N t_law_box.ps t_law_box.scope := ⟨rfl, rfl, rfl, by decide +kernel, rfl, by decide +kernel, by decide +kernel⟩
def p_law_box : List Pat := []
theorem b_law_box : Bnd t_law_box p_law_box := ⟨fun _ _ _ _ _ _ us hl => match us, hl with | [_], _ => rfl, fun p h => by cases h⟩
theorem c_law_box : chkSs (t_law_box.cc [] [] []) f_law_box.body t_law_box.body = true := by decide +kernel
def d_law_box : He.DefD := ⟨(("_law_box" : Str), none), ("_law_box" : Str), ("_law_box" : Str), L2.defArgs (top 9), L2.defBody (top 9), L2.defScope (top 9), [], []⟩
def t_law_cell : Txt := ⟨("_law_cell" : Str), L2.defArgs (top 8), L2.defBody (top 8), L2.defScope (top 8), [("script" : Str), ("k" : Str)], [("script" : Str), ("k" : Str)]⟩
theorem s_law_cell : FnScope t_law_cell.N t_law_cell.ps t_law_cell.scope := ⟨rfl, rfl, rfl, by decide +kernel, rfl, by decide +kernel, by decide +kernel⟩
def p_law_cell : List Pat := []
theorem b_law_cell : Bnd t_law_cell p_law_cell := ⟨fun _ _ _ _ _ _ us hl => match us, hl with | [_, _], _ => rfl, fun p h => by cases h⟩
theorem c_law_cell : chkSs (t_law_cell.cc [] [] []) f_law_cell.body t_law_cell.body = true := by decide +kernel
def d_law_cell : He.DefD := ⟨(("_law_cell" : Str), none), ("_law_cell" : Str), ("_law_cell" : Str), L2.defArgs (top 8), L2.defBody (top 8), L2.defScope (top 8), [], []⟩
def t_law_take : Txt := ⟨("_law_take" : Str), L2.defArgs (top 10), L2.defBody (top 10), L2.defScope (top 10), [("box" : Str), ("many" : Str)], [("box" : Str), ("many" : Str), ("mixed" : Str), ("digit" : Str)]⟩
theorem s_law_take : FnScope t_law_take.N t_law_take.ps t_law_take.scope := ⟨rfl, rfl, rfl, by decide +kernel, rfl, by decide +kernel, by decide +kernel⟩
def p_law_take : List Pat := []
theorem b_law_take : Bnd t_law_take p_law_take := ⟨fun _ _ _ _ _ _ us hl => match us, hl with | [_, _], _ => rfl, fun p h => by cases h⟩
theorem c_law_take : chkSs (t_law_take.cc [] [] []) f_law_take.body t_law_take.body = true := by decide +kernel
def d_law_take : He.DefD := ⟨(("_law_take" : Str), none), ("_law_take" : Str), ("_law_take" : Str), L2.defArgs (top 10), L2.defBody (top 10), L2.defScope (top 10), [], []⟩
def t_law_pair : Txt := ⟨("_law_pair" : Str), L2.defArgs (top 13), L2.defBody (top 13), L2.defScope (top 13), [("box" : Str), ("kind" : Str)], [("box" : Str), ("kind" : Str), ("pairs" : Str), ("one" : Str), ("other" : Str), ("bit" : Str)]⟩
theorem s_law_pair : FnScope t_law_pair.N t_law_pair.ps t_law_pair.scope := ⟨rfl, rfl, rfl, by decide +kernel, rfl, by decide +kernel, by decide +kernel⟩
def p_law_pair : List Pat := []
theorem b_law_pair : Bnd t_law_pair p_law_pair := ⟨fun _ _ _ _ _ _ us hl => match us, hl with | [_, _], _ => rfl, fun p h => by cases h⟩
theorem c_law_pair : chkSs (t_law_pair.cc [("_law_take" : Str)] [p_law_take] []) f_law_pair.body t_law_pair.body = true := by decide +kernel
def d_law_pair : He.DefD := ⟨(("_law_pair" : Str), none), ("_law_pair" : Str), ("_law_pair" : Str), L2.defArgs (top 13), L2.defBody (top 13), L2.defScope (top 13), [], []⟩
def t_law_people : Txt := ⟨("_law_people" : Str), L2.defArgs (top 12), L2.defBody (top 12), L2.defScope (top 12), [("number" : Str)], [("number" : Str), ("p" : Str)]⟩
theorem s_law_people : FnScope t_law_people.N t_law_people.ps t_law_people.scope := ⟨rfl, rfl, rfl, by decide +kernel, rfl, by decide +kernel, by decide +kernel⟩
def p_law_people : List Pat := []
theorem b_law_people : Bnd t_law_people p_law_people := ⟨fun _ _ _ _ _ _ us hl => match us, hl with | [_], _ => rfl, fun p h => by cases h⟩
theorem c_law_people : chkSs (t_law_people.cc [] [] []) f_law_people.body t_law_people.body = true := by decide +kernel
def d_law_people : He.DefD := ⟨(("_law_people" : Str), none), ("_law_people" : Str), ("_law_people" : Str), L2.defArgs (top 12), L2.defBody (top 12), L2.defScope (top 12), [], []⟩
def t_law_due : Txt := ⟨("_law_due" : Str), L2.defArgs (top 15), L2.defBody (top 15), L2.defScope (top 15), [("door" : Str), ("one" : Str), ("other" : Str)], [("door" : Str), ("one" : Str), ("other" : Str)]⟩
theorem s_law_due : FnScope t_law_due.N t_law_due.ps t_law_due.scope := ⟨rfl, rfl, rfl, by decide +kernel, rfl, by decide +kernel, by decide +kernel⟩
def p_law_due : List Pat := []
theorem b_law_due : Bnd t_law_due p_law_due := ⟨fun _ _ _ _ _ _ us hl => match us, hl with | [_, _, _], _ => rfl, fun p h => by cases h⟩
theorem c_law_due : chkSs (t_law_due.cc [] [] []) f_law_due.body t_law_due.body = true := by decide +kernel
def d_law_due : He.DefD := ⟨(("_law_due" : Str), none), ("_law_due" : Str), ("_law_due" : Str), L2.defArgs (top 15), L2.defBody (top 15), L2.defScope (top 15), [], []⟩
def t_set_of : Txt := ⟨("set_of" : Str), L2.defArgs (top 3), L2.defBody (top 3), L2.defScope (top 3), [("number" : Str)], [("number" : Str), ("person" : Str)]⟩
theorem s_set_of : FnScope t_set_of.N t_set_of.ps t_set_of.scope := ⟨rfl, rfl, rfl, by decide +kernel, rfl, by decide +kernel, by decide +kernel⟩
def p_set_of : List Pat := []
theorem b_set_of : Bnd t_set_of p_set_of := ⟨fun _ _ _ _ _ _ us hl => match us, hl with | [_], _ => rfl, fun p h => by cases h⟩
theorem c_set_of : chkSs (t_set_of.cc [] [] [("MOST_PEOPLE" : Str)]) f_set_of.body t_set_of.body = true := by decide +kernel
def d_set_of : He.DefD := ⟨(("set_of" : Str), none), ("set_of" : Str), ("set_of" : Str), L2.defArgs (top 3), L2.defBody (top 3), L2.defScope (top 3), [], []⟩
def t_number_of : Txt := ⟨("number_of" : Str), L2.defArgs (top 2), L2.defBody (top 2), L2.defScope (top 2), [("who" : Str)], [("who" : Str), ("person" : Str)]⟩
theorem s_number_of : FnScope t_number_of.N t_number_of.ps t_number_of.scope := ⟨rfl, rfl, rfl, by decide +kernel, rfl, by decide +kernel, by decide +kernel⟩
def p_number_of : List Pat := []
theorem b_number_of : Bnd t_number_of p_number_of := ⟨fun _ _ _ _ _ _ us hl => match us, hl with | [_], _ => rfl, fun p h => by cases h⟩
theorem c_number_of : chkSs (t_number_of.cc [] [] []) f_number_of.body t_number_of.body = true := by decide +kernel
def d_number_of : He.DefD := ⟨(("number_of" : Str), none), ("number_of" : Str), ("number_of" : Str), L2.defArgs (top 2), L2.defBody (top 2), L2.defScope (top 2), [], []⟩
def t_joined : Txt := ⟨("joined" : Str), L2.defArgs (top 4), L2.defBody (top 4), L2.defScope (top 4), [("one" : Str), ("other" : Str)], [("one" : Str), ("other" : Str)]⟩
theorem s_joined : FnScope t_joined.N t_joined.ps t_joined.scope := ⟨rfl, rfl, rfl, by decide +kernel, rfl, by decide +kernel, by decide +kernel⟩
def p_joined : List Pat := [⟨0, [("other" : Str), ("one" : Str)], [1, 0]⟩]
theorem b_joined : Bnd t_joined p_joined := ⟨fun _ _ _ _ _ _ us hl => match us, hl with | [_, _], _ => rfl, fun p h => by
    obtain rfl := List.mem_singleton.mp h
    exact ⟨rfl, by decide, by decide, fun _ _ _ _ _ _ us ws h1 h2 => match us, ws, h1, h2 with | [], [_, _], _, _ => rfl⟩⟩
theorem c_joined : chkSs (t_joined.cc [("set_of" : Str), ("number_of" : Str)] [p_set_of, p_number_of] []) f_joined.body t_joined.body = true := by decide +kernel
def d_joined : He.DefD := ⟨(("joined" : Str), none), ("joined" : Str), ("joined" : Str), L2.defArgs (top 4), L2.defBody (top 4), L2.defScope (top 4), [], []⟩
def t_shared : Txt := ⟨("shared" : Str), L2.defArgs (top 5), L2.defBody (top 5), L2.defScope (top 5), [("one" : Str), ("other" : Str)], [("one" : Str), ("other" : Str)]⟩
theorem s_shared : FnScope t_shared.N t_shared.ps t_shared.scope := ⟨rfl, rfl, rfl, by decide +kernel, rfl, by decide +kernel, by decide +kernel⟩
def p_shared : List Pat := [⟨0, [("other" : Str), ("one" : Str)], [1, 0]⟩]
theorem b_shared : Bnd t_shared p_shared := ⟨fun _ _ _ _ _ _ us hl => match us, hl with | [_, _], _ => rfl, fun p h => by
    obtain rfl := List.mem_singleton.mp h
    exact ⟨rfl, by decide, by decide, fun _ _ _ _ _ _ us ws h1 h2 => match us, ws, h1, h2 with | [], [_, _], _, _ => rfl⟩⟩
theorem c_shared : chkSs (t_shared.cc [("set_of" : Str), ("number_of" : Str)] [p_set_of, p_number_of] []) f_shared.body t_shared.body = true := by decide +kernel
def d_shared : He.DefD := ⟨(("shared" : Str), none), ("shared" : Str), ("shared" : Str), L2.defArgs (top 5), L2.defBody (top 5), L2.defScope (top 5), [], []⟩
def t_less : Txt := ⟨("less" : Str), L2.defArgs (top 6), L2.defBody (top 6), L2.defScope (top 6), [("one" : Str), ("other" : Str)], [("one" : Str), ("other" : Str)]⟩
theorem s_less : FnScope t_less.N t_less.ps t_less.scope := ⟨rfl, rfl, rfl, by decide +kernel, rfl, by decide +kernel, by decide +kernel⟩
def p_less : List Pat := [⟨0, [("other" : Str), ("one" : Str)], [1, 0]⟩]
theorem b_less : Bnd t_less p_less := ⟨fun _ _ _ _ _ _ us hl => match us, hl with | [_, _], _ => rfl, fun p h => by
    obtain rfl := List.mem_singleton.mp h
    exact ⟨rfl, by decide, by decide, fun _ _ _ _ _ _ us ws h1 h2 => match us, ws, h1, h2 with | [], [_, _], _, _ => rfl⟩⟩
theorem c_less : chkSs (t_less.cc [("set_of" : Str), ("number_of" : Str)] [p_set_of, p_number_of] []) f_less.body t_less.body = true := by decide +kernel
def d_less : He.DefD := ⟨(("less" : Str), none), ("less" : Str), ("less" : Str), L2.defArgs (top 6), L2.defBody (top 6), L2.defScope (top 6), [], []⟩
def t_law_put : Txt := ⟨("_law_put" : Str), L2.defArgs (top 14), L2.defBody (top 14), L2.defScope (top 14), [("door" : Str), ("one" : Str), ("other" : Str), ("way" : Str)], [("door" : Str), ("one" : Str), ("other" : Str), ("way" : Str)]⟩
theorem s_law_put : FnScope t_law_put.N t_law_put.ps t_law_put.scope := ⟨rfl, rfl, rfl, by decide +kernel, rfl, by decide +kernel, by decide +kernel⟩
def p_law_put : List Pat := []
theorem b_law_put : Bnd t_law_put p_law_put := ⟨fun _ _ _ _ _ _ us hl => match us, hl with | [_, _, _, _], _ => rfl, fun p h => by cases h⟩
theorem c_law_put : chkSs (t_law_put.cc [("joined" : Str), ("shared" : Str), ("less" : Str)] [p_joined, p_shared, p_less] []) f_law_put.body t_law_put.body = true := by decide +kernel
def d_law_put : He.DefD := ⟨(("_law_put" : Str), none), ("_law_put" : Str), ("_law_put" : Str), L2.defArgs (top 14), L2.defBody (top 14), L2.defScope (top 14), [], []⟩
def t_law_same : Txt := ⟨("_law_same" : Str), L2.defArgs (top 11), L2.defBody (top 11), L2.defScope (top 11), [("told" : Str), ("due" : Str)], [("told" : Str), ("due" : Str), ("same" : Str), ("k" : Str)]⟩
theorem s_law_same : FnScope t_law_same.N t_law_same.ps t_law_same.scope := ⟨rfl, rfl, rfl, by decide +kernel, rfl, by decide +kernel, by decide +kernel⟩
def p_law_same : List Pat := []
theorem b_law_same : Bnd t_law_same p_law_same := ⟨fun _ _ _ _ _ _ us hl => match us, hl with | [_, _], _ => rfl, fun p h => by cases h⟩
theorem c_law_same : chkSs (t_law_same.cc [("_law_same" : Str)] [p_law_same] []) f_law_same.body t_law_same.body = true := by decide +kernel
def d_law_same : He.DefD := ⟨(("_law_same" : Str), none), ("_law_same" : Str), ("_law_same" : Str), L2.defArgs (top 11), L2.defBody (top 11), L2.defScope (top 11), [], []⟩
def t_law_right : Txt := ⟨("_law_right" : Str), L2.defArgs (top 16), L2.defBody (top 16), L2.defScope (top 16), [("box" : Str), ("kind" : Str), ("way" : Str)], [("box" : Str), ("kind" : Str), ("way" : Str), ("sets" : Str), ("door" : Str), ("pair" : Str), ("third" : Str), ("turn" : Str), ("number" : Str), ("due" : Str), ("told" : Str), ("further" : Str), ("again" : Str)]⟩
theorem s_law_right : FnScope t_law_right.N t_law_right.ps t_law_right.scope := ⟨rfl, rfl, rfl, by decide +kernel, rfl, by decide +kernel, by decide +kernel⟩
def p_law_right : List Pat := []
theorem b_law_right : Bnd t_law_right p_law_right := ⟨fun _ _ _ _ _ _ us hl => match us, hl with | [_, _, _], _ => rfl, fun p h => by cases h⟩
theorem c_law_right : chkSs (t_law_right.cc [("_law_pair" : Str), ("_law_take" : Str), ("_law_people" : Str), ("_law_due" : Str), ("_law_put" : Str), ("_law_same" : Str)] [p_law_pair, p_law_take, p_law_people, p_law_due, p_law_put, p_law_same] []) f_law_right.body t_law_right.body = true := by decide +kernel
def d_law_right : He.DefD := ⟨(("_law_right" : Str), none), ("_law_right" : Str), ("_law_right" : Str), L2.defArgs (top 16), L2.defBody (top 16), L2.defScope (top 16), [], []⟩
def t_law : Txt := ⟨("law" : Str), L2.defArgs (top 17), L2.defBody (top 17), L2.defScope (top 17), [("script" : Str)], [("script" : Str), ("k" : Str), ("box" : Str), ("kind" : Str)]⟩
theorem s_law : FnScope t_law.N t_law.ps t_law.scope := ⟨rfl, rfl, rfl, by decide +kernel, rfl, by decide +kernel, by decide +kernel⟩
def p_law : List Pat := []
theorem b_law : Bnd t_law p_law := ⟨fun _ _ _ _ _ _ us hl => match us, hl with | [_], _ => rfl, fun p h => by cases h⟩
theorem c_law : chkSs (t_law.cc [("_law_box" : Str), ("_law_cell" : Str), ("_law_right" : Str), ("_law_take" : Str)] [p_law_box, p_law_cell, p_law_right, p_law_take] []) f_law.body t_law.body = true := by decide +kernel
def d_law : He.DefD := ⟨(("law" : Str), none), ("law" : Str), ("law" : Str), L2.defArgs (top 17), L2.defBody (top 17), L2.defScope (top 17), [], []⟩
def fns : List He.DefD := [d_law_box, d_law_cell, d_law_take, d_law_pair, d_law_people, d_law_due, d_set_of, d_number_of, d_joined, d_shared, d_less, d_law_put, d_law_same, d_law_right, d_law]
def fa : List He.Fa := [.glo ("_law_box" : Str), .glo ("_law_cell" : Str), .glo ("_law_take" : Str), .glo ("_law_pair" : Str), .glo ("_law_people" : Str), .glo ("_law_due" : Str), .glo ("set_of" : Str), .glo ("number_of" : Str), .glo ("joined" : Str), .glo ("shared" : Str), .glo ("less" : Str), .glo ("_law_put" : Str), .glo ("_law_same" : Str), .glo ("_law_right" : Str), .glo ("law" : Str), .int ("MOST_PEOPLE" : Str) 10, .free ("len" : Str), .free ("sum" : Str), .free ("all" : Str), .free ("any" : Str), .free ("abs" : Str), .free ("int" : Str), .free ("tuple" : Str), .free ("max" : Str), .free ("min" : Str), .free ("isinstance" : Str), .free ("range" : Str), .free ("list" : Str), .free ("bool" : Str), .free ("str" : Str), .free ("dict" : Str), .free ("enumerate" : Str), .free ("zip" : Str), .free ("sorted" : Str), .free ("set" : Str), .free ("reversed" : Str)]
abbrev RO : PySem.W.OpenRow := PySem.W.OpenLaw.row PySem.Challenge.rw_alwaysheld_k01_put_together
def loose : List Str := [("MOST_PEOPLE" : Str), ("number_of" : Str), ("set_of" : Str), ("joined" : Str), ("shared" : Str), ("less" : Str), ("_law_cell" : Str), ("_law_box" : Str), ("_law_take" : Str), ("_law_same" : Str), ("_law_people" : Str), ("_law_pair" : Str), ("_law_put" : Str), ("_law_due" : Str), ("_law_right" : Str)]
abbrev hk : PySem.W.Hook := He.hookD 4 fa fns
def ob (s : PySem.W.SharedT) : He.AlD := He.obsDG 4 fa fns (HandSHeadRun.getT s)
theorem ob_eq (s : PySem.W.SharedT) : ob s = hk.obs s.abs := He.obsDG_eq (HandSHeadRun.getT_eq s)
theorem runs (w : World) : HandSHeadRun.RunEq RO (PySem.W.view RO.prog [17]) hk ob 1500 loose w := by
  intro os
  kernel_rfl
theorem facts {P : Program} {w : World} {K : PySem.W.Frag} {h : Heap} {mg : Str → Option Value} {f : Addr} (X : K.In h) (Gn : h.Ns mainGlobals mg) (hfa : mg ("law" : Str) = some (.ref f)) (c : He.SaysD fa fns K) :
    ∃ fd : FuncData, (∀ (s : Shared) (v : Value), BindsTo s fd ⟨[v], []⟩ [(("script" : Str), v)]) ∧ ∀ base : Heap, K.In base → base.Ns mainGlobals mg → FnOk P w K mg base (L2.CX P w) 10 f fd [("script" : Str)] (spF ⟨K, mg⟩ 1 F_law) := by
  obtain ⟨fd_law_box, D_law_box⟩ := c.def_ 0 (d := d_law_box) rfl
  have m_law_box := He.glo_ok X Gn (c.fact 0 (f := .glo ("_law_box" : Str)) rfl)
  obtain ⟨fd_law_cell, D_law_cell⟩ := c.def_ 1 (d := d_law_cell) rfl
  have m_law_cell := He.glo_ok X Gn (c.fact 1 (f := .glo ("_law_cell" : Str)) rfl)
  obtain ⟨fd_law_take, D_law_take⟩ := c.def_ 2 (d := d_law_take) rfl
  have m_law_take := He.glo_ok X Gn (c.fact 2 (f := .glo ("_law_take" : Str)) rfl)
  obtain ⟨fd_law_pair, D_law_pair⟩ := c.def_ 3 (d := d_law_pair) rfl
  have m_law_pair := He.glo_ok X Gn (c.fact 3 (f := .glo ("_law_pair" : Str)) rfl)
  obtain ⟨fd_law_people, D_law_people⟩ := c.def_ 4 (d := d_law_people) rfl
  have m_law_people := He.glo_ok X Gn (c.fact 4 (f := .glo ("_law_people" : Str)) rfl)
  obtain ⟨fd_law_due, D_law_due⟩ := c.def_ 5 (d := d_law_due) rfl
  have m_law_due := He.glo_ok X Gn (c.fact 5 (f := .glo ("_law_due" : Str)) rfl)
  obtain ⟨fd_set_of, D_set_of⟩ := c.def_ 6 (d := d_set_of) rfl
  have m_set_of := He.glo_ok X Gn (c.fact 6 (f := .glo ("set_of" : Str)) rfl)
  obtain ⟨fd_number_of, D_number_of⟩ := c.def_ 7 (d := d_number_of) rfl
  have m_number_of := He.glo_ok X Gn (c.fact 7 (f := .glo ("number_of" : Str)) rfl)
  obtain ⟨fd_joined, D_joined⟩ := c.def_ 8 (d := d_joined) rfl
  have m_joined := He.glo_ok X Gn (c.fact 8 (f := .glo ("joined" : Str)) rfl)
  obtain ⟨fd_shared, D_shared⟩ := c.def_ 9 (d := d_shared) rfl
  have m_shared := He.glo_ok X Gn (c.fact 9 (f := .glo ("shared" : Str)) rfl)
  obtain ⟨fd_less, D_less⟩ := c.def_ 10 (d := d_less) rfl
  have m_less := He.glo_ok X Gn (c.fact 10 (f := .glo ("less" : Str)) rfl)
  obtain ⟨fd_law_put, D_law_put⟩ := c.def_ 11 (d := d_law_put) rfl
  have m_law_put := He.glo_ok X Gn (c.fact 11 (f := .glo ("_law_put" : Str)) rfl)
  obtain ⟨fd_law_same, D_law_same⟩ := c.def_ 12 (d := d_law_same) rfl
  have m_law_same := He.glo_ok X Gn (c.fact 12 (f := .glo ("_law_same" : Str)) rfl)
  obtain ⟨fd_law_right, D_law_right⟩ := c.def_ 13 (d := d_law_right) rfl
  have m_law_right := He.glo_ok X Gn (c.fact 13 (f := .glo ("_law_right" : Str)) rfl)
  obtain ⟨fd_law, D_law⟩ := c.def_ 14 (d := d_law) rfl
  have m_law := He.glo_ok X Gn (c.fact 14 (f := .glo ("law" : Str)) rfl)
  have e := hfa.symm.trans m_law
  cases e
  have b := FunD.bindsA (ps := [("script" : Str)]) D_law fun _ _ _ _ _ _ us hl => match us, hl with | [_], _ => rfl
  refine ⟨fd_law, fun s v => b s [v] rfl, fun base _ _ => ?_⟩
  have free : ∀ x ∈ bltNames, mg x = none := by
    intro x hx
    simp only [bltNames, List.mem_cons, List.not_mem_nil, or_false] at hx
    rcases hx with rfl | rfl | rfl | rfl | rfl | rfl | rfl | rfl | rfl | rfl | rfl | rfl | rfl | rfl | rfl | rfl | rfl | rfl | rfl | rfl
    · exact He.free_ok X Gn (c.fact 16 (f := .free ("len" : Str)) rfl)
    · exact He.free_ok X Gn (c.fact 17 (f := .free ("sum" : Str)) rfl)
    · exact He.free_ok X Gn (c.fact 18 (f := .free ("all" : Str)) rfl)
    · exact He.free_ok X Gn (c.fact 19 (f := .free ("any" : Str)) rfl)
    · exact He.free_ok X Gn (c.fact 20 (f := .free ("abs" : Str)) rfl)
    · exact He.free_ok X Gn (c.fact 21 (f := .free ("int" : Str)) rfl)
    · exact He.free_ok X Gn (c.fact 22 (f := .free ("tuple" : Str)) rfl)
    · exact He.free_ok X Gn (c.fact 23 (f := .free ("max" : Str)) rfl)
    · exact He.free_ok X Gn (c.fact 24 (f := .free ("min" : Str)) rfl)
    · exact He.free_ok X Gn (c.fact 25 (f := .free ("isinstance" : Str)) rfl)
    · exact He.free_ok X Gn (c.fact 26 (f := .free ("range" : Str)) rfl)
    · exact He.free_ok X Gn (c.fact 27 (f := .free ("list" : Str)) rfl)
    · exact He.free_ok X Gn (c.fact 28 (f := .free ("bool" : Str)) rfl)
    · exact He.free_ok X Gn (c.fact 29 (f := .free ("str" : Str)) rfl)
    · exact He.free_ok X Gn (c.fact 30 (f := .free ("dict" : Str)) rfl)
    · exact He.free_ok X Gn (c.fact 31 (f := .free ("enumerate" : Str)) rfl)
    · exact He.free_ok X Gn (c.fact 32 (f := .free ("zip" : Str)) rfl)
    · exact He.free_ok X Gn (c.fact 33 (f := .free ("sorted" : Str)) rfl)
    · exact He.free_ok X Gn (c.fact 34 (f := .free ("set" : Str)) rfl)
    · exact He.free_ok X Gn (c.fact 35 (f := .free ("reversed" : Str)) rfl)
  have g0 : ∀ k, Sg P w ⟨K, mg⟩ base k [] [] [] ⟨[], []⟩ := fun k => Sg.nil free
  obtain ⟨tk_MOST_PEOPLE, mc_MOST_PEOPLE⟩ := He.int_ok X Gn (c.fact 15 (f := .int ("MOST_PEOPLE" : Str) 10) rfl)
  have C_law_box := callee_of m_law_box D_law_box s_law_box rfl rfl b_law_box (g0 0) c_law_box
  change Callee P w ⟨K, mg⟩ base 1 ("_law_box" : Str) F_law_box p_law_box at C_law_box
  have C_law_cell := callee_of m_law_cell D_law_cell s_law_cell rfl rfl b_law_cell (g0 0) c_law_cell
  change Callee P w ⟨K, mg⟩ base 1 ("_law_cell" : Str) F_law_cell p_law_cell at C_law_cell
  have C_law_take := callee_of m_law_take D_law_take s_law_take rfl rfl b_law_take (g0 0) c_law_take
  change Callee P w ⟨K, mg⟩ base 1 ("_law_take" : Str) F_law_take p_law_take at C_law_take
  have C_law_pair := callee_of m_law_pair D_law_pair s_law_pair rfl rfl b_law_pair ((g0 1).addF C_law_take (by decide)) c_law_pair
  change Callee P w ⟨K, mg⟩ base 2 ("_law_pair" : Str) F_law_pair p_law_pair at C_law_pair
  have C_law_people := callee_of m_law_people D_law_people s_law_people rfl rfl b_law_people (g0 0) c_law_people
  change Callee P w ⟨K, mg⟩ base 1 ("_law_people" : Str) F_law_people p_law_people at C_law_people
  have C_law_due := callee_of m_law_due D_law_due s_law_due rfl rfl b_law_due (g0 0) c_law_due
  change Callee P w ⟨K, mg⟩ base 1 ("_law_due" : Str) F_law_due p_law_due at C_law_due
  have C_set_of := callee_of m_set_of D_set_of s_set_of rfl rfl b_set_of ((g0 0).addC mc_MOST_PEOPLE (v := .int 10) ⟨_, rfl⟩ fun _ _ => .int _) c_set_of
  change Callee P w ⟨K, mg⟩ base 1 ("set_of" : Str) F_set_of p_set_of at C_set_of
  have C_number_of := callee_of m_number_of D_number_of s_number_of rfl rfl b_number_of (g0 0) c_number_of
  change Callee P w ⟨K, mg⟩ base 1 ("number_of" : Str) F_number_of p_number_of at C_number_of
  have C_joined := callee_of m_joined D_joined s_joined rfl rfl b_joined (((g0 1).addF C_number_of (by decide)).addF C_set_of (by decide)) c_joined
  change Callee P w ⟨K, mg⟩ base 2 ("joined" : Str) F_joined p_joined at C_joined
  have C_shared := callee_of m_shared D_shared s_shared rfl rfl b_shared (((g0 1).addF C_number_of (by decide)).addF C_set_of (by decide)) c_shared
  change Callee P w ⟨K, mg⟩ base 2 ("shared" : Str) F_shared p_shared at C_shared
  have C_less := callee_of m_less D_less s_less rfl rfl b_less (((g0 1).addF C_number_of (by decide)).addF C_set_of (by decide)) c_less
  change Callee P w ⟨K, mg⟩ base 2 ("less" : Str) F_less p_less at C_less
  have C_law_put := callee_of m_law_put D_law_put s_law_put rfl rfl b_law_put ((((g0 2).addF C_less (by decide)).addF C_shared (by decide)).addF C_joined (by decide)) c_law_put
  change Callee P w ⟨K, mg⟩ base 3 ("_law_put" : Str) F_law_put p_law_put at C_law_put
  have C_law_same := callee_rec m_law_same D_law_same s_law_same rfl rfl b_law_same (g0 0) c_law_same 8
  change Callee P w ⟨K, mg⟩ base 8 ("_law_same" : Str) F_law_same p_law_same at C_law_same
  have C_law_right := callee_of m_law_right D_law_right s_law_right rfl rfl b_law_right (((((((g0 8).addF C_law_same (by decide)).addF C_law_put (by decide)).addF C_law_due (by decide)).addF C_law_people (by decide)).addF C_law_take (by decide)).addF C_law_pair (by decide)) c_law_right
  change Callee P w ⟨K, mg⟩ base 9 ("_law_right" : Str) F_law_right p_law_right at C_law_right
  exact def_ok D_law s_law rfl rfl (((((g0 9).addF C_law_take (by decide)).addF C_law_right (by decide)).addF C_law_cell (by decide)).addF C_law_box (by decide)) c_law
end Z



open PySem PySem.W PySem.Calls PyProof.Rows
theorem PySem.Challenge.cw_alwaysheld_k01_put_together_holds : PySem.Challenge.rw_alwaysheld_k01_put_together.Holds := by
  w_on; o_law
  refine HandSHeadRun.head_any (r := OpenLaw.row PySem.Challenge.rw_alwaysheld_k01_put_together) (q := view (OpenLaw.row PySem.Challenge.rw_alwaysheld_k01_put_together).prog [17]) (H := Z.hk) (ob := Z.ob) (M := 1500) (loose := Z.loose) (d := HandSHeadRun.topDef (OpenLaw.row PySem.Challenge.rw_alwaysheld_k01_put_together).prog 17) (kwd := []) Z.ob_eq
    (by kernel_rfl) (fun s => by kernel_rfl) Z.runs (by kernel_rfl) (by kernel_rfl) (by kernel_rfl) (by rfl) (by first | assumption | decide +kernel) (by decide +kernel) ⟨rfl, rfl, rfl, rfl, rfl, by decide +kernel⟩ ?hw ?hc
  case hw => w_witness2
  case hc =>
    refine Z.walk_ofW (l := PySem.Challenge.rw_alwaysheld_k01_put_together) (n := 63) (k := 10) (x := ("script" : PySem.Str)) (CX := fun w => L2.CX (PySem.Challenge.rw_alwaysheld_k01_put_together).prog w) rfl (by decide) (by kernel_rfl) ⟨rfl, by decide, by decide⟩ ?F (fun w H s e s' z => Z.cx_end w H s e s' z)
    intro w mg fa h Y G hmg0
    obtain ⟨K, KX, c⟩ := Y
    have hmg : mg ("law" : PySem.Str) = some (.ref fa) := by
      have e : (HandSHeadRun.topDef (OpenLaw.row PySem.Challenge.rw_alwaysheld_k01_put_together).prog 17).name = ("law" : PySem.Str) := by kernel_rfl
      rw [← e]
      exact hmg0
    obtain ⟨fd, hb, hF⟩ := Z.facts (P := (PySem.Challenge.rw_alwaysheld_k01_put_together).prog) (w := w) KX G hmg c
    exact ⟨K, fd, Z.spF ⟨K, mg⟩ 1 Z.F_law, KX, hb, fun H a ns hl hS => Z.law_end ns hl hS Z.law_true, hF⟩

