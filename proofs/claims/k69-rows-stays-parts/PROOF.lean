import PyProof.Rows.All
import PySem.Syntax
import PySem.Spec
import PyProof.P3Statements
import PyProof.EqLayable
import Wide.All
import OpenK.AllK
import Wide.FinOn
import HandS.ForMost
import HandS.ForExc
import HandS.Style
import HandS.Flow
import HandS.IsInst
import HandS.Conv
import HandS.TupLe
import HandS.TupAny
import HandS.Codes
import HandS.ExcInit
import HandS.ExcField
import HandS.Defaults
import HandS.Deep
import HandS.TupMul
import HandS.WordsDict
import HandS.Zip
import PyProof.InstEq
import HandS.OwnEq
import HandS.More
import HandS.Star
import HandS.SortInts
import HandS.WideBits
import HandS.Iter
import HandS.TryMany
import HandS.HeadHook1
import KE.KExcInit
import HandS.Ends
import HandS.HeadEnd
import HandS.HeadHook2
import KE.KStateDown
import Lean
import HandS.Base
import HandS.Call
import HandS.Words
import HandS.WordsExc
import HandS.Head0
import HandS.Head1
import HandS.Head2
import PySem.Challenge.RW_alwaysheld_k69_rows_stays_parts
set_option Elab.async false
set_option linter.all false
set_option maxRecDepth 100000
set_option maxHeartbeats 0
set_option autoImplicit false
/-! Z1: values without a heap, a small language, and what its terms compute. -/
namespace Z
open PySem

inductive D where
  | non | bl (b : Bool) | int (i : Int) | str (s : Str)
  | tup (xs : List D) | lst (xs : List D)
  | dct (kvs : List (D × D)) | ins (c : Str) (fs : List (Str × D)) | exc (c : Str) (fs : List (Str × D))
  | ref (l : Nat)
  | scr (ns : List Int)

/-- what stands in a cell that may be changed -/
inductive Cell where
  | lst (xs : List D) | dct (kvs : List (D × D)) | ins (c : Str) (fs : List (Str × D))
  /-- a list that is never changed again -/
  | frz (xs : List D)
def Cell.live : Cell → Bool
  | .frz _ => false
  | _ => true

abbrev Store := List Cell
/-- a local's slot: unbound, a value, or an object of its own that nobody else knows -/
inductive Sl where
  | un | val (d : D) | own (c : Cell)
abbrev Env := List Sl

inductive R (α : Type) where
  | ok (a : α) (ρ : Env) (st : Store)
  | exc (x : D) (ρ : Env) (st : Store)
  | bad
abbrev M (α : Type) := Env → Store → R α
def ret {α : Type} (a : α) : M α := fun ρ st => .ok a ρ st
def bind {α β : Type} (m : M α) (f : α → M β) : M β := fun ρ st => match m ρ st with
  | .ok a ρ' st' => f a ρ' st'
  | .exc x ρ' st' => .exc x ρ' st'
  | .bad => .bad
def bad {α : Type} : M α := fun _ _ => .bad
def opt {α : Type} : Option α → M α
  | some a => ret a
  | none => bad

/-- what a def is worth -/
inductive FR where
  | ok (d : D) (st : Store)
  | exc (x : D) (st : Store)
  | bad
abbrev Fn := List D → Store → FR

def Cell.toD : Cell → D
  | .lst xs => .lst xs
  | .dct kvs => .dct kvs
  | .ins c fs => .ins c fs
  | .frz xs => .lst xs

/-- a value as its content: a cell's content in the place of a cell -/
def view (st : Store) : D → D
  | .ref l => match st[l]? with
    | some c => c.toD
    | none => .ref l
  | d => d

/-! ### data that == compares -/
mutual
def toPy : D → Option PyData
  | .non => some .none
  | .bl b => some (.bool b)
  | .int i => some (.int i)
  | .str s => some (.str s)
  | .tup xs => (toPys xs).map .tuple
  | .lst xs => (toPys xs).map .list
  | .dct _ => none
  | .ins _ _ => none
  | .exc _ _ => none
  | .ref _ => none
  | .scr _ => none
def toPys : List D → Option (List PyData)
  | [] => some []
  | x :: xs => match toPy x, toPys xs with
    | some a, some as => some (a :: as)
    | _, _ => none
end
def eqD0 (x y : D) : Option Bool := match toPy x, toPy y with
  | some a, some b => if SeqAt.shaped a && SeqAt.shaped b then some (PyData.eqv a b) else none
  | _, _ => none
/-- two lists of other lengths -/
def lenDiff : D → D → Bool
  | .lst xs, .lst ys => decide (xs.length ≠ ys.length)
  | _, _ => false
def eqD (x y : D) : Option Bool := if lenDiff x y then some false else eqD0 x y

def line : Nat := 16777216
def mulOk (i j : Int) : Bool := (decide (-(2 ^ 64) < i) && decide (i < 2 ^ 64)) || (decide (-(2 ^ 64) < j) && decide (j < 2 ^ 64))
def powOk (i j : Int) : Bool := decide (0 ≤ j) && (decide (j ≤ 1000000) && decide (i.natAbs < 2 ^ 64))
def opD (op : Operator) (x y : D) : Option D := match x, y with
  | .int i, .int j => match op with
    | .Add => some (.int (i + j))
    | .Sub => some (.int (i - j))
    | .Mult => if mulOk i j then some (.int (i * j)) else none
    | .Mod => if 0 < j then some (.int (i % j)) else none
    | .FloorDiv => if 0 < j ∧ j < 1073741824 then some (.int (i / j)) else none
    | .Pow => if powOk i j then some (.int (i ^ j.toNat)) else none
    | .LShift => if powOk i j then some (.int (i * 2 ^ j.toNat)) else none
    | .RShift => if 0 ≤ j then some (.int (i / 2 ^ j.toNat)) else none
    | .BitAnd => some (.int (Builtin.bitAnd i j))
    | .BitOr => some (.int (Builtin.bitOr i j))
    | .BitXor => some (.int (Builtin.bitXor i j))
    | _ => none
  | .str a, .str b => match op with
    | .Add => if a.length + b.length ≤ line then some (.str (a ++ b)) else none
    | _ => none
  | .tup a, .int k => match op with
    | .Mult => if !a.isEmpty && (decide (2 ≤ k) && (decide (k ≤ 1000) && decide (a.length ≤ 1000))) then some (.tup (List.replicate k.toNat a).flatten) else none
    | _ => none
  | .tup a, .tup b => match op with
    | .Add => if a.length + b.length ≤ line then some (.tup (a ++ b)) else none
    | _ => none
  | .lst a, .lst b => match op with
    | .Add => if a.length + b.length ≤ line then some (.lst (a ++ b)) else none
    | _ => none
  | _, _ => none
def unD (op : UnaryOp) (x : D) : Option D := match x with
  | .int i => match op with
    | .USub => some (.int (-i))
    | .Invert => some (.int (Builtin.bitNot i))
    | _ => none
  | _ => none
def truD : D → Option Bool
  | .non => some false
  | .bl b => some b
  | .int i => some (i != 0)
  | .str s => if s.length ≤ line then some ((s.length : Int) != 0) else none
  | .tup xs => some (!xs.isEmpty)
  | .lst xs => some (!xs.isEmpty)
  | _ => none
/-- flat things, for «in» -/
def flatD : D → Bool
  | .non | .bl _ | .int _ | .str _ => true
  | _ => false
/-- == of flat things -/
def eqF : D → D → Bool
  | .non, .non => true
  | .bl a, .bl b => a == b
  | .bl a, .int b => (if a then 1 else 0) == b
  | .int a, .bl b => a == (if b then 1 else 0)
  | .int a, .int b => a == b
  | .str a, .str b => a == b
  | _, _ => false
/-- is x among the items of y -/
def inD (x y : D) : Option Bool := match y with
  | .lst ys => if flatD x && ys.all flatD then some (ys.any fun z => eqF z x) else match toPy x, toPys ys with
    | some a, some bs => if SeqAt.shaped a && SeqAt.shaped (.list bs) then some (bs.any fun z => PyData.eqv z a) else none
    | _, _ => none
  | .tup ys => if flatD x && ys.all flatD then some (ys.any fun z => eqF z x) else none
  | _ => none
def cmpD (op : CmpOp) (x y : D) : Option Bool := match op with
  | .In => inD x y
  | .NotIn => (inD x y).map (!·)
  | .Eq => eqD x y
  | .NotEq => (eqD x y).map (!·)
  | .Lt => match x, y with
    | .int i, .int j => some (decide (i < j))
    | _, _ => none
  | .LtE => match x, y with
    | .int i, .int j => some (decide (i ≤ j))
    | _, _ => none
  | .Gt => match x, y with
    | .int i, .int j => some (decide (j < i))
    | _, _ => none
  | .GtE => match x, y with
    | .int i, .int j => some (decide (j ≤ i))
    | _, _ => none
  | .Is => match x, y with
    | .non, .non => some true
    | _, .non => some false
    | .bl a, .bl b => some (decide (a = b))
    | _, _ => none
  | .IsNot => match x, y with
    | .non, .non => some false
    | _, .non => some true
    | .bl a, .bl b => some (!decide (a = b))
    | _, _ => none

/-- a place from the front or the back -/
def ixN (n : Nat) (i : Int) : Option Nat := if 0 ≤ i then (if i < n then some i.toNat else none) else if -(n : Int) ≤ i then some (i + n).toNat else none
def subD (x i : D) : Option D := match i with
  | .int i => match x with
    | .tup xs => (ixN xs.length i).bind fun j => xs[j]?
    | .lst xs => (ixN xs.length i).bind fun j => xs[j]?
    | .scr ns => (ixN ns.length i).bind fun j => ns[j]?.map .int
    | .str z => if z.length ≤ line then (ixN z.cps.toList.length i).bind fun j => z.cps.toList[j]?.map fun c => .str ⟨#[c]⟩ else none
    | _ => none
  | _ => none
def sIx (n d : Nat) : Option Int → Nat
  | none => d
  | some v => if v < 0 then (v + (n : Int)).toNat else min v.toNat n
def cut {α : Type} (xs : List α) (lo hi : Option Int) : List α := (xs.drop (sIx xs.length 0 lo)).take (sIx xs.length xs.length hi - sIx xs.length 0 lo)
def slcD (x : D) (lo hi : Option Int) : Option D := match x with
  | .tup xs => some (.tup (cut xs lo hi))
  | .lst xs => some (.lst (cut xs lo hi))
  | .scr ns => some (.lst ((cut ns lo hi).map .int))
  | .str s => if s.length ≤ line then some (.str ⟨(cut s.cps.toList lo hi).toArray⟩) else none
  | _ => none

/-! ### built-ins by values -/
inductive Ty where
  | bool | int | str | list | tuple | dict
  deriving DecidableEq
def tyD : D → Option Ty
  | .bl _ => some .bool
  | .int _ => some .int
  | .str _ => some .str
  | .lst _ => some .list
  | .tup _ => some .tuple
  | .dct _ => some .dict
  | _ => none
/-- isinstance, for what the framework knows -/
def isiD (x : D) (t : Ty) : Option Bool := match x with
  | .non => some false
  | .bl _ => some (decide (t = .bool ∨ t = .int))
  | .int _ => some (decide (t = .int))
  | .str _ => some (decide (t = .str))
  | .lst _ => some (decide (t = .list))
  | .tup _ => some (decide (t = .tuple))
  | .dct _ => some (decide (t = .dict))
  | _ => none

def intsD : List D → Option (List Int)
  | [] => some []
  | .int i :: r => (intsD r).map (i :: ·)
  | _ :: _ => none
def blsD : List D → Option (List Bool)
  | [] => some []
  | .bl b :: r => (blsD r).map (b :: ·)
  | _ :: _ => none

inductive BI where
  | len | sum | all | any | abs | int | tuple | maxL | minL
  deriving DecidableEq
def biD (f : BI) (x : D) : Option D := match f with
  | .len => match x with
    | .tup xs => some (.int xs.length)
    | .lst xs => some (.int xs.length)
    | .scr ns => some (.int ns.length)
    | .dct kvs => some (.int kvs.length)
    | .str s => if s.length ≤ line then some (.int s.length) else none
    | _ => none
  | .sum => match x with
    | .lst xs => (intsD xs).map fun ns => .int ns.sum
    | _ => none
  | .all => match x with
    | .lst xs => (blsD xs).map fun bs => .bl (bs.all id)
    | _ => none
  | .any => match x with
    | .lst xs => (blsD xs).map fun bs => .bl (bs.any id)
    | _ => none
  | .abs => match x with
    | .int i => some (.int (if i < 0 then -i else i))
    | _ => none
  | .int => match x with
    | .int i => some (.int i)
    | .bl b => some (.int (if b then 1 else 0))
    | _ => none
  | .tuple => match x with
    | .tup xs => some (.tup xs)
    | .lst xs => some (.tup xs)
    | _ => none
  | .maxL => match x with
    | .lst xs => (intsD xs).bind fun ns => ns.max?.map .int
    | _ => none
  | .minL => match x with
    | .lst xs => (intsD xs).bind fun ns => ns.min?.map .int
    | _ => none
/-- x.bit_length() -/
def bitsD : D → Option D
  | .int i => some (.int (Builtin.Int.intBits i : Nat))
  | _ => none
/-- two ints -/
inductive BI2 where
  | max | min
  deriving DecidableEq
def bi2D (f : BI2) (x y : D) : Option D := match x, y with
  | .int i, .int j => match f with
    | .max => some (.int (if j > i then j else i))
    | .min => some (.int (if j < i then j else i))
  | _, _ => none

/-! ### the language -/
inductive Kd where
  | pure | cell
  deriving DecidableEq
mutual
/-- a target -/
inductive Tg where
  | nm (i : Nat) | tp (ts : Tgs)
inductive Tgs where
  | nil | cons (t : Tg) (r : Tgs)
end

mutual
inductive IE where
  | lit (d : D)
  | var (i : Nat)
  | con (i : Nat)
  | bin (op : Operator) (a b : IE)
  | un (op : UnaryOp) (a : IE)
  | not (a : IE)
  | and (a b : IE)
  | or (a b : IE)
  | one (a : IE)
  | ite (c a b : IE)
  | cmp (op : CmpOp) (a b : IE)
  | chain (op op' : CmpOp) (a b c : IE)
  | tup (es : IEs)
  | mk (k : Kd) (f : IF)
  | call (j : Nat) (es : IEs) (kws : IEs) (ord : List Nat)
  | bi (f : BI) (a : IE)
  | bi2 (f : BI2) (a b : IE)
  | isi (a : IE) (t : Ty)
  | sub (a b : IE)
  | slc (a : IE) (lo hi : IO)
  | pop (i : Nat) (e : IO)
  | cmpV (op : CmpOp) (i : Nat) (b : IE)
  | subV (i : Nat) (b : IE)
  | biV (f : BI) (i : Nat)
  | cellV (i : Nat)
  | make (j : Nat) (es : IEs) (kws : IEs) (ord : List Nat)
  | fld (a : IE) (f : Str)
  | isc (a : IE) (c : Str)
  | dic0
  | eqo (neg : Bool) (j : Nat) (a b : IE)
  | bits (a : IE)
  | frz (a : IE)
  | tupS (es : ISt)
/-- items, some of them starred -/
inductive ISt where
  | nil | cons (e : IE) (r : ISt) | star (e : IE) (r : ISt)
inductive IEs where
  | nil | cons (e : IE) (r : IEs)
inductive IO where
  | none | some (e : IE)
/-- what makes a new list -/
inductive IF where
  | disp (es : IEs)
  | lc (elt : IE) (t : Tg) (it : II) (ifs : IO) (vs : List Nat)
  | lc2 (elt : IE) (t : Tg) (it : II) (ifs : IO) (t1 : Tg) (it1 : II) (ifs1 : IO) (vs vs1 : List Nat)
  | cat (a b : IE)
  | rep (a b : IE)
  | list (a : IE)
  | listR (a : IE)
  | dispS (es : ISt)
  | rev (a : IE)
  | sort (a : IE)
/-- what is walked -/
inductive II where
  | seq (e : IE) | range1 (a : IE) | range2 (a b : IE) | enum (e : IE) | zip (a b : IE) | down (a b c : IE)
end

/-- the numbers of a range -/
def rng (lo hi : Int) : List D := (List.range (hi - lo).toNat).map fun i => .int (lo + (i : Nat))
/-- the numbers downwards -/
def rngD (hi lo : Int) : List D := (List.range (hi - lo).toNat).map fun i => .int (hi - (i : Nat))
def small (i : Int) : Bool := decide (-(2 ^ 62) ≤ i) && decide (i < 2 ^ 62)

def setSl (i : Nat) (s : Sl) : M Unit := fun ρ st => if i < ρ.length then .ok () (ρ.set i s) st else .bad
/-- a local's value; an object of its own becomes a value -/
def getV (i : Nat) : M D := fun ρ st => match ρ[i]? with
  | some (.val d) => .ok d ρ st
  | some (.own c) => .ok c.toD (ρ.set i (.val c.toD)) st
  | _ => .bad
/-- a local's content, the local left as it is -/
def peek (i : Nat) : M D := fun ρ st => match ρ[i]? with
  | some (.val d) => .ok (view st d) ρ st
  | some (.own c) => .ok c.toD ρ st
  | _ => .bad
/-- only what lives is changed -/
def liveF {α : Type} (f : Cell → Option (Cell × α)) : Cell → Option (Cell × α)
  | .frz _ => none
  | c => f c
/-- a list in a cell becomes a value: it is never changed again -/
def frzM (d : D) : M D := fun ρ st => match d with
  | .ref l => match st[l]? with
    | some (.lst xs) => .ok (.lst xs) ρ (st.set l (.frz xs))
    | some (.frz xs) => .ok (.lst xs) ρ st
    | _ => .bad
  | d => .ok d ρ st
/-- the local's object is changed -/
def upM {α : Type} (i : Nat) (f : Cell → Option (Cell × α)) : M α := fun ρ st => match ρ[i]? with
  | some (.own c) => match f c with
    | some (c', a) => .ok a (ρ.set i (.own c')) st
    | none => .bad
  | some (.val (.ref l)) => match st[l]? with
    | some c => match liveF f c with
      | some (c', a) => .ok a ρ (st.set l c')
      | none => .bad
    | none => .bad
  | _ => .bad
/-- the local's list is there -/
def cellAt (i : Nat) : M Unit := fun ρ st => match ρ[i]? with
  | some (.own (.lst _)) => .ok () ρ st
  | some (.val (.ref l)) => match st[l]? with
    | some (.lst _) => .ok () ρ st
    | _ => .bad
  | _ => .bad
/-- an object of its own goes into a cell -/
def cellM (i : Nat) : M D := fun ρ st => match ρ[i]? with
  | some (.own c) => .ok (.ref st.length) (ρ.set i (.val (.ref st.length))) (st ++ [c])
  | _ => .bad
def viewM (d : D) : M D := fun ρ st => .ok (view st d) ρ st
def alloc (c : Cell) : M D := fun ρ st => .ok (.ref st.length) ρ (st ++ [c])
def mkC (k : Kd) (c : Cell) : M D := match k with
  | .pure => ret c.toD
  | .cell => alloc c

def itemsD : D → Option (List D)
  | .tup xs => some xs
  | .lst xs => some xs
  | _ => none
mutual
def bindT : Tg → D → M Unit
  | .nm i, d => setSl i (.val d)
  | .tp ts, d => bind (viewM d) fun d => bind (opt (itemsD d)) fun ds => bindTs ts ds
def bindTs : Tgs → List D → M Unit
  | .nil, [] => ret ()
  | .cons t r, d :: ds => bind (bindT t d) fun _ => bindTs r ds
  | _, _ => bad
end

/-- the slots of a block's own names are forgotten -/
def wipe (ρ : Env) : List Nat → Env
  | [] => ρ
  | v :: vs => (wipe ρ vs).set v .un
def wipeM (vs : List Nat) : M Unit := fun ρ st => .ok () (wipe ρ vs) st
/-- nothing is raised within -/
def calm {α : Type} (m : M α) : M α := fun ρ st => match m ρ st with
  | .ok a ρ' st' => .ok a ρ' st'
  | _ => .bad
/-- the turns of a comprehension -/
def turns (go : D → M (List D)) : List D → M (List D)
  | [] => ret []
  | x :: xs => bind (go x) fun a => bind (turns go xs) fun b => ret (a ++ b)
/-- the slots of a block's own names are as they were ahead of it -/
def restore (ρ : Env) (ρ' : Env) : List Nat → Env
  | [] => ρ'
  | v :: vs => (restore ρ ρ' vs).set v ((ρ[v]?).getD .un)
def isOwn : Option Sl → Bool
  | some (.own _) => true
  | _ => false
def block {α : Type} (vs : List Nat) (m : M α) : M α := fun ρ st => if vs.any (fun i => isOwn ρ[i]?) then .bad else match m ρ st with
  | .ok a ρ' st' => .ok a (restore ρ ρ' vs) st'
  | _ => .bad
def seqItems (d : D) : Option (List D) := match d with
  | .tup xs => some xs
  | .lst xs => some xs
  | _ => none
def fits (xs : List D) : M (List D) := if xs.length ≤ line then ret xs else bad

/-- a list by its cell -/
def lstX (x : D) : M Unit := fun ρ st => match x with
  | .ref l => match st[l]? with
    | some (.lst _) => .ok () ρ st
    | _ => .bad
  | _ => .bad
def upX {α : Type} (x : D) (f : Cell → Option (Cell × α)) : M α := fun ρ st => match x with
  | .ref l => match st[l]? with
    | some c => match liveF f c with
      | some (c', a) => .ok a ρ (st.set l c')
      | none => .bad
    | none => .bad
  | _ => .bad
def popC (k : Option Int) : Cell → Option (Cell × D)
  | .lst xs => match k with
    | none => match xs[xs.length - 1]? with
      | some y => some (.lst xs.dropLast, y)
      | none => none
    | some i => match ixN xs.length i with
      | some j => match xs[j]? with
        | some y => some (.lst (xs.eraseIdx j), y)
        | none => none
      | none => none
  | _ => none
def popS (k : Option Int) (c : Cell) : Option (Cell × D) := match k with
  | some j => if small j then popC (some j) c else none
  | none => popC none c
def setC (i v : D) : Cell → Option (Cell × Unit)
  | .lst xs => match i with
    | .int k => match ixN xs.length k with
      | some j => some (.lst (xs.set j v), ())
      | none => none
    | _ => none
  | _ => none
inductive MT where
  | append | extend | insert | reverse | clear
  deriving DecidableEq
def mtC (m : MT) (as : List D) : Cell → Option (Cell × Unit)
  | .lst xs => match m, as with
    | .append, [d] => if xs.length < line then some (.lst (xs ++ [d]), ()) else none
    | .reverse, [] => some (.lst xs.reverse, ())
    | .clear, [] => some (.lst [], ())
    | .extend, [.lst ys] => if xs.length + ys.length ≤ line then some (.lst (xs ++ ys), ()) else none
    | .insert, [.int i, d] => if decide (xs.length < line) && (decide (0 ≤ i) && small i) then some (.lst (xs.take i.toNat ++ [d] ++ xs.drop i.toNat), ()) else none
    | _, _ => none
  | _ => none
def pickO (ds : List D) (ord : List Nat) : Option (List D) := match ord with
  | [] => some ds
  | _ => ord.mapM fun i => ds[i]?
def callM (F : Fn) (ds : List D) : M D := fun ρ st => match F ds st with
  | .ok d st' => .ok d ρ st'
  | .exc x st' => .exc x ρ st'
  | .bad => .bad

/-- what a def sees of the module: the defs that it calls, the constants that it names -/
structure Gm where
  fs : List Fn
  cs : List D
  mks : List (Str × Fn) := []
  at_ : List (Str × Str) := []
  kls : List Str := []
  sub : List (Str × Str) := []
  exs : List (Str × List Str) := []
  exm : List (Str × Str) := []
  xns : List Str := []
  eqs : List (Str × Fn) := []
/-- a new instance of the class c: F is its __init__ -/
def makeM (p : Str × Fn) (as : List D) : M D := fun ρ st => match p.2 (.ref st.length :: as) (st ++ [.ins p.1 []]) with
  | .ok .non st' => .ok (.ref st.length) ρ st'
  | .exc x st' => .exc x ρ st'
  | _ => .bad
/-- a field's value put, as the machine orders them -/
def putD (f : Str) (v : D) : List (Str × D) → List (Str × D)
  | [] => [(f, v)]
  | (g, x) :: r => if g = f then (g, v) :: r else (g, x) :: putD f v r
def fldD (ats : List (Str × Str)) (x : D) (f : Str) : Option D := match x with
  | .ins c fs => if ats.contains (c, f) then fs.lookup f else none
  | _ => none
/-- isinstance(x, c), c a class of the module -/
def iscD (kls : List Str) (sub : List (Str × Str)) (x : D) (c : Str) : Option Bool := match x with
  | .non | .bl _ | .int _ | .str _ | .tup _ | .lst _ => some false
  | .ins y _ => if kls.contains y then some (decide (y = c) || sub.contains (y, c)) else none
  | _ => none
def fsetM (ats : List (Str × Str)) (x : D) (f : Str) (d : D) : M Unit := fun ρ st => match x with
  | .ref l => match st[l]? with
    | some (.ins c fs) => if ats.contains (c, f) && decide (fs.length < 1000) then .ok () ρ (st.set l (.ins c (putD f d fs))) else .bad
    | _ => .bad
  | _ => .bad
/-- an exception of the class c, its fields fs -/
def raiseM {α : Type} (p : Str × List Str) (ds : List D) : M α := fun ρ st => if ds.length = p.2.length then .exc (.exc p.1 (p.2.zip ds).reverse) ρ st else .bad
/-- the kinds that are known -/
def kindB (kls : List Str) : D → Bool
  | .non | .bl _ | .int _ | .str _ | .tup _ | .lst _ => true
  | .ins y _ => kls.contains y
  | _ => false
def insOf (st : Store) (x : D) : Option Str := match view st x with
  | .ins c _ => some c
  | _ => none
/-- kinds that leave == to the other one -/
def leftB : D → Bool
  | .non | .tup _ => true
  | _ => false
/-- whose __eq__ is asked, and of what -/
def eqoWay (kls : List Str) (c : Str) (st : Store) (x y : D) : Option (D × D) := if insOf st x = some c ∧ kindB kls (view st y) = true then some (x, y) else if insOf st y = some c ∧ leftB (view st x) = true then some (y, x) else none
/-- x == y by the class c and its __eq__ F -/
def eqoM (kls : List Str) (p : Str × Fn) (x y : D) : M Bool := fun ρ st => match eqoWay kls p.1 st x y with
  | some q => (match p.2 [q.1, q.2] st with
    | .ok (.bl b) st' => .ok b ρ st'
    | _ => .bad)
  | none => (match eqD (view st x) (view st y) with
    | some b => .ok b ρ st
    | none => .bad)
def fnAt (Fs : List Fn) (j : Nat) : Fn := match Fs[j]? with
  | some F => F
  | none => fun _ _ => .bad
def enumL (xs : List D) : List D := (List.range xs.length).zip xs |>.map fun p => .tup [.int (p.1 : Nat), p.2]
def zipL (xs ys : List D) : List D := (xs.zip ys).map fun p => .tup [p.1, p.2]
/-- a list, numbered -/
def enumD : D → Option (List D)
  | .lst xs => some (enumL xs)
  | _ => none
/-- two lists or two tuples, side by side -/
def zipD : D → D → Option (List D)
  | .lst xs, .lst ys => some (zipL xs ys)
  | .tup xs, .tup ys => some (zipL xs ys)
  | _, _ => none
/-- ints in their order -/
def insI (x : Int) : List Int → List Int
  | [] => [x]
  | y :: r => if x ≤ y then x :: y :: r else y :: insI x r
def sortI : List Int → List Int
  | [] => []
  | x :: r => insI x (sortI r)
def sortD : D → Option (List D)
  | .lst xs => (intsD xs).map fun ns => (sortI ns).map .int
  | _ => none
def downD : D → D → D → Option (List D)
  | .int i, .int j, .int k => if decide (k = -1) && (small i && small j) then some (rngD i j) else none
  | _, _, _ => none
section
variable (G : Gm)
mutual
def evE : IE → M D
  | .lit d => ret d
  | .var i => getV i
  | .con i => opt G.cs[i]?
  | .bin op a b => bind (evE a) fun x => bind (evE b) fun y => bind (viewM x) fun x => bind (viewM y) fun y => opt (opD op x y)
  | .un op a => bind (evE a) fun x => opt (unD op x)
  | .not a => bind (evE a) fun x => bind (viewM x) fun x => bind (opt (truD x)) fun b => ret (.bl (!b))
  | .and a b => bind (evE a) fun x => bind (viewM x) fun v => bind (opt (truD v)) fun t => if t then evE b else ret x
  | .or a b => bind (evE a) fun x => bind (viewM x) fun v => bind (opt (truD v)) fun t => if t then ret x else evE b
  | .one a => evE a
  | .ite c a b => bind (evE c) fun x => bind (viewM x) fun x => bind (opt (truD x)) fun t => if t then evE a else evE b
  | .cmp op a b => bind (evE a) fun x => bind (evE b) fun y => bind (viewM x) fun x => bind (viewM y) fun y => bind (opt (cmpD op x y)) fun t => ret (.bl t)
  | .chain op op' a b c => bind (evE a) fun x => bind (evE b) fun y => bind (opt (cmpD op x y)) fun t => if t then bind (evE c) fun z => bind (opt (cmpD op' y z)) fun t => ret (.bl t) else ret (.bl false)
  | .tup es => bind (evEs es) fun ds => bind (fits ds) fun ds => ret (.tup ds)
  | .mk k f => bind (evF f) fun c => mkC k c
  | .call j es kws ord => bind (evEs es) fun ds => bind (evEs kws) fun ks => bind (opt (pickO (ds ++ ks) ord)) fun as => callM (fnAt G.fs j) as
  | .bi f a => bind (evE a) fun x => bind (viewM x) fun x => opt (biD f x)
  | .bi2 f a b => bind (evE a) fun x => bind (evE b) fun y => opt (bi2D f x y)
  | .isi a t => bind (evE a) fun x => bind (viewM x) fun x => bind (opt (isiD x t)) fun b => ret (.bl b)
  | .sub a b => bind (evE a) fun x => bind (evE b) fun y => bind (viewM x) fun x => opt (subD x y)
  | .slc a lo hi => bind (evE a) fun x => bind (evO lo) fun l => bind (evO hi) fun h => bind (viewM x) fun x => opt (slcD x l h)
  | .pop i e => bind (cellAt i) fun _ => bind (evO e) fun k => upM i (popS k)
  | .cmpV op i b => bind (peek i) fun _ => bind (evE b) fun y => bind (peek i) fun x => bind (viewM y) fun y => bind (opt (cmpD op x y)) fun t => ret (.bl t)
  | .subV i b => bind (peek i) fun _ => bind (evE b) fun y => bind (peek i) fun x => opt (subD x y)
  | .biV f i => bind (peek i) fun x => opt (biD f x)
  | .cellV i => cellM i
  | .make j es kws ord => bind (evEs es) fun ds => bind (evEs kws) fun ks => bind (opt (pickO (ds ++ ks) ord)) fun as => bind (opt G.mks[j]?) fun p => makeM p as
  | .fld a f => bind (evE a) fun x => bind (viewM x) fun x => opt (fldD G.at_ x f)
  | .eqo neg j a b => bind (bind (evE a) fun x => bind (evE b) fun y => bind (opt G.eqs[j]?) fun p => bind (eqoM G.kls p x y) fun t => ret (if neg then !t else t)) fun t => ret (.bl t)
  | .dic0 => ret (.dct [])
  | .frz a => bind (evE a) frzM
  | .bits a => bind (evE a) fun x => opt (bitsD x)
  | .tupS es => bind (evSt es) fun ds => bind (fits ds) fun ds => ret (.tup ds)
  | .isc a c => bind (evE a) fun x => bind (viewM x) fun x => bind (opt (iscD G.kls G.sub x c)) fun b => ret (.bl b)
def evSt : ISt → M (List D)
  | .nil => ret []
  | .cons e r => bind (evE e) fun d => bind (evSt r) fun ds => ret (d :: ds)
  | .star e r => bind (evE e) fun x => bind (viewM x) fun x => bind (opt (itemsD x)) fun xs => bind (evSt r) fun ds => ret (xs ++ ds)
def evEs : IEs → M (List D)
  | .nil => ret []
  | .cons e r => bind (evE e) fun d => bind (evEs r) fun ds => ret (d :: ds)
def evO : IO → M (Option Int)
  | .none => ret none
  | .some e => bind (evE e) fun d => match d with
    | .int i => ret (some i)
    | _ => bad
def evF : IF → M Cell
  | .disp es => bind (evEs es) fun ds => bind (fits ds) fun ds => ret (.lst ds)
  | .lc elt t it ifs vs => bind (evI it) fun xs => bind (block vs (turns (fun x => bind (wipeM vs) fun _ => bind (bindT t x) fun _ => bind (evT ifs) fun b => if b then bind (evE elt) fun d => ret [d] else ret []) xs)) fun ds => bind (fits ds) fun ds => ret (.lst ds)
  | .lc2 elt t it ifs t1 it1 ifs1 vs vs1 => bind (evI it) fun xs => bind (block vs (turns (fun x => bind (wipeM vs) fun _ => bind (bindT t x) fun _ => bind (evT ifs) fun b => if b then
      bind (evI it1) fun ys => turns (fun y => bind (wipeM vs1) fun _ => bind (bindT t1 y) fun _ => bind (evT ifs1) fun b => if b then bind (evE elt) fun d => ret [d] else ret []) ys else ret []) xs)) fun ds => bind (fits ds) fun ds => ret (.lst ds)
  | .cat a b => bind (evE a) fun x => bind (evE b) fun y => bind (viewM x) fun x => bind (viewM y) fun y => match x, y with
    | .lst xs, .lst ys => bind (fits (xs ++ ys)) fun ds => ret (.lst ds)
    | _, _ => bad
  | .rep a b => bind (evE a) fun x => bind (evE b) fun y => match x, y with
    | .lst xs, .int k => if small k && decide (xs.length * k.toNat ≤ line) then ret (.lst (List.replicate k.toNat xs).flatten) else bad
    | _, _ => bad
  | .list a => bind (evE a) fun x => bind (viewM x) fun x => match x with
    | .lst xs => ret (.lst xs)
    | .tup xs => ret (.lst xs)
    | _ => bad
  | .listR a => bind (evE a) fun x => match x with
    | .int n => if small n && decide (n.toNat ≤ line) then ret (.lst (rng 0 n)) else bad
    | _ => bad
  | .dispS es => bind (evSt es) fun ds => bind (fits ds) fun ds => ret (.lst ds)
  | .rev a => bind (evE a) fun x => bind (viewM x) fun x => match x with
    | .lst xs => ret (.lst xs.reverse)
    | _ => bad
  | .sort a => bind (evE a) fun x => bind (viewM x) fun x => bind (opt (sortD x)) fun xs => ret (.lst xs)
/-- a clause's test -/
def evT : IO → M Bool
  | .none => ret true
  | .some e => bind (evE e) fun x => bind (viewM x) fun x => opt (truD x)
def evI : II → M (List D)
  | .seq e => bind (evE e) fun x => opt (seqItems x)
  | .range1 a => bind (evE a) fun x => match x with
    | .int n => if small n then ret (rng 0 n) else bad
    | _ => bad
  | .range2 a b => bind (evE a) fun x => bind (evE b) fun y => match x, y with
    | .int i, .int j => if small i && small j then ret (rng i j) else bad
    | _, _ => bad
  | .enum e => bind (evE e) fun x => opt (enumD x)
  | .down a b c => bind (evE a) fun x => bind (evE b) fun y => bind (evE c) fun z => opt (downD x y z)
  | .zip a b => bind (evE a) fun x => bind (evE b) fun y => opt (zipD x y)
end
end

/-! ### except suites: they hand something back -/
mutual
inductive HE where
  | lit (d : D) | xf (f : Str) | lst (es : HEs) | tup (es : HEs)
inductive HEs where
  | nil | cons (e : HE) (r : HEs)
end
mutual
def evH (fs : List (Str × D)) : HE → Option D
  | .lit d => some d
  | .xf f => fs.lookup f
  | .lst es => match evHs fs es with
    | some ds => if ds.length ≤ line then some (.lst ds) else none
    | none => none
  | .tup es => match evHs fs es with
    | some ds => if ds.length ≤ line then some (.tup ds) else none
    | none => none
def evHs (fs : List (Str × D)) : HEs → Option (List D)
  | .nil => some []
  | .cons e r => match evH fs e with
    | some d => match evHs fs r with
      | some ds => some (d :: ds)
      | none => none
    | none => none
end
inductive Hds where
  | nil | cons (c : Str) (o : Option Nat) (e : HE) (r : Hds)
def findH (exm : List (Str × Str)) (c : Str) : Hds → Option (Option Nat × HE)
  | .nil => none
  | .cons c' o e r => if exm.contains (c, c') then some (o, e) else findH exm c r
def okO (o : Option Nat) (n : Nat) : Bool := match o with
  | none => true
  | some i => decide (i < n)
/-! ### statements -/
mutual
inductive IS where
  | asg (t : Tg) (e : IE)
  | par (is : List Nat) (es : IEs)
  | own (i : Nat) (f : IF)
  | expr (e : IE) | ret (e : IE) | retN | pass | brk | cnt
  | ite (c : IE) (a b : ISs)
  | for (t : Tg) (it : II) (b : ISs)
  | whl (c : IE) (b : ISs)
  | set (i : Nat) (ix e : IE)
  | fset (a : IE) (f : Str) (e : IE)
  | rse (j : Nat) (es : IEs)
  | mthE (a : IE) (m : MT) (es : IEs)
  | tri (b : ISs) (h : Hds)
  | mth (i : Nat) (m : MT) (es : IEs)
inductive ISs where
  | nil | cons (s : IS) (r : ISs)
end
inductive Fl where
  | next | ret (d : D) | brk | cnt

/-- the stores of a, b = x, y: all is evaluated first -/
def stores : List Nat → List D → M Unit
  | [], [] => ret ()
  | i :: is, d :: ds => bind (setSl i (.val d)) fun _ => stores is ds
  | _, _ => bad
/-- the turns of a for -/
def loopF (go : D → M Fl) : List D → M Fl
  | [] => ret .next
  | x :: xs => bind (go x) fun f => match f with
    | .next => loopF go xs
    | .cnt => loopF go xs
    | .brk => ret .next
    | .ret d => ret (.ret d)
/-- the turns of a while, so many at most -/
def loopW (c : M Bool) (b : M Fl) : Nat → M Fl
  | 0 => bad
  | n + 1 => bind c fun t => if t then bind b fun f => match f with
    | .next => loopW c b n
    | .cnt => loopW c b n
    | .brk => ret .next
    | .ret d => ret (.ret d) else ret .next
def many : Nat := 1000000000
def triM (exm : List (Str × Str)) (xns : List Str) (m : M Fl) (h : Hds) : M Fl := fun ρ st => match m ρ st with
  | .exc x ρ' st' => match x with
    | .exc c fs => if xns.contains c then (match findH exm c h with
      | some (o, e) => if okO o ρ'.length then (match evH fs e with
        | some d => .ok (.ret d) ρ' st'
        | none => .bad) else .bad
      | none => .exc x ρ' st') else .bad
    | _ => .bad
  | r => r

section
variable (G : Gm)
mutual
def evS : IS → M Fl
  | .asg t e => bind (evE G e) fun d => bind (bindT t d) fun _ => ret .next
  | .par is es => bind (evEs G es) fun ds => bind (stores is ds) fun _ => ret .next
  | .own i f => bind (evF G f) fun c => bind (setSl i (.own c)) fun _ => ret .next
  | .expr e => bind (evE G e) fun _ => ret .next
  | .ret e => bind (evE G e) fun d => ret (.ret d)
  | .retN => ret (.ret .non)
  | .pass => ret .next
  | .brk => ret .brk
  | .cnt => ret .cnt
  | .ite c a b => bind (evT G (.some c)) fun t => if t then evSs a else evSs b
  | .for t it b => bind (evI G it) fun xs => loopF (fun x => bind (bindT t x) fun _ => evSs b) xs
  | .whl c b => loopW (evT G (.some c)) (evSs b) many
  | .set i ix e => bind (bind (evE G e) fun d => bind (cellAt i) fun _ => bind (evE G ix) fun k => upM i (setC k d)) fun _ => ret .next
  | .fset a f e => bind (bind (evE G e) fun d => bind (evE G a) fun x => fsetM G.at_ x f d) fun _ => ret .next
  | .mthE a m es => bind (bind (evE G a) fun x => bind (lstX x) fun _ => bind (evEs G es) fun ds => upX x (mtC m ds)) fun _ => ret .next
  | .tri b h => triM G.exm G.xns (evSs b) h
  | .rse j es => bind (evEs G es) fun ds => bind (opt G.exs[j]?) fun p => raiseM p ds
  | .mth i m es => bind (bind (cellAt i) fun _ => bind (evEs G es) fun ds => upM i (mtC m ds)) fun _ => ret .next
def evSs : ISs → M Fl
  | .nil => ret .next
  | .cons s r => bind (evS s) fun f => match f with
    | .next => evSs r
    | f => ret f
end
end
/-- a def: how many parameters, how many names, its body -/
structure Def where
  np : Nat
  nn : Nat
  body : ISs
def startE (n : Nat) (ds : List D) : Env := ds.map .val ++ List.replicate (n - ds.length) .un
def run (G : Gm) (d : Def) : Fn := fun ds st => if ds.length = d.np then match evSs G d.body (startE d.nn ds) st with
  | .ok (.ret v) _ st' => .ok v st'
  | .ok .next _ st' => .ok .non st'
  | .exc x _ st' => .exc x st'
  | _ => .bad else .bad
/-- a def that calls itself, so deep at most -/
def runRec (G : Gm) (d : Def) : Nat → Fn
  | 0 => fun _ _ => .bad
  | n + 1 => run { G with fs := runRec G d n :: G.fs } d
end Z

/-! Z2: how the values of Z1 lie in the layer's heap; one rule a construct. -/
namespace Z
open PySem PySem.Spec L2
open PyProof.Rows hiding St

/-- the written part and the module's names -/
structure Ct where
  K : PySem.W.Frag
  mg : Str → Option Value
abbrev ct (X : Cx) : Ct := ⟨X.K, X.mg⟩

mutual
/-- a value as the machine has it: F: what is never changed, L: where the cells lie -/
inductive RelD (C : Ct) (F : Hp) (L : List Addr) : V → D → Prop
  | non : RelD C F L .non .non
  | bl (b : Bool) : RelD C F L (.bl b) (.bl b)
  | int (i : Int) : RelD C F L (.int i) (.int i)
  | str (s : Str) : RelD C F L (.str s) (.str s)
  | tup {a : Addr} {vs : List V} {ds : List D} (h : SqT C.K F a vs) (r : RelDs C F L vs ds) : RelD C F L (.ref a) (.tup ds)
  | lst {a : Addr} {vs : List V} {ds : List D} (h : F a = some (.lst vs)) (r : RelDs C F L vs ds) : RelD C F L (.ref a) (.lst ds)
  | ref {a : Addr} {l : Nat} (h : L[l]? = some a) : RelD C F L (.ref a) (.ref l)
  | scr {a : Addr} {ns : List Int} (h : SqL C.K F a (ns.map V.int)) : RelD C F L (.ref a) (.scr ns)
  | dct0 {a : Addr} (h : F a = some (.dK [])) : RelD C F L (.ref a) (.dct [])
  | ins {a Ca dx : Addr} {c : Str} {vs : List (Str × V)} {fs : List (Str × D)} (hc : C.mg c = some (.ref Ca)) (h : F a = some (.ins Ca dx vs)) (n : vs.map (·.1) = fs.map (·.1)) (r : RelDs C F L (vs.map (·.2)) (fs.map (·.2))) : RelD C F L (.ref a) (.ins c fs)
inductive RelDs (C : Ct) (F : Hp) (L : List Addr) : List V → List D → Prop
  | nil : RelDs C F L [] []
  | cons {v : V} {d : D} {vs : List V} {ds : List D} (h : RelD C F L v d) (r : RelDs C F L vs ds) : RelDs C F L (v :: vs) (d :: ds)
end

structure Wd where
  F : Hp
  L : List Addr
/-- fields -/
def RelFs (C : Ct) (F : Hp) (L : List Addr) (vs : List (Str × V)) (fs : List (Str × D)) : Prop := vs.map (·.1) = fs.map (·.1) ∧ RelDs C F L (vs.map (·.2)) (fs.map (·.2))
def RelC (C : Ct) (w : Wd) (H : Hp) (a : Addr) : Cell → Prop
  | .lst ds => ∃ vs, H a = some (.lst vs) ∧ RelDs C w.F w.L vs ds
  | .ins c fs => ∃ Ca dx vs, C.mg c = some (.ref Ca) ∧ H a = some (.ins Ca dx vs) ∧ RelFs C w.F w.L vs fs
  | .frz ds => ∃ vs, w.F a = some (.lst vs) ∧ H a = some (.lst vs) ∧ RelDs C w.F w.L vs ds
  | _ => False

/-- the world grows -/
structure Gr (w w' : Wd) : Prop where
  f : ∀ a o, w.F a = some o → w'.F a = some o
  l : ∃ more, w'.L = w.L ++ more
theorem Gr.refl (w : Wd) : Gr w w := ⟨fun _ _ h => h, [], by simp⟩
theorem Gr.trans {a b c : Wd} (h : Gr a b) (g : Gr b c) : Gr a c := ⟨fun x o e => g.f x o (h.f x o e), by
  obtain ⟨m, e⟩ := h.l
  obtain ⟨n, e'⟩ := g.l
  exact ⟨m ++ n, by rw [e', e, List.append_assoc]⟩⟩
theorem sqT_mono {K : PySem.W.Frag} {F F' : Hp} (hf : ∀ a o, F a = some o → F' a = some o) {a : Addr} {vs : List V} (h : SqT K F a vs) : SqT K F' a vs := by
  rcases h with (h | ⟨o, h⟩) | h
  · exact .inl (.inl (hf _ _ h))
  · exact .inl (.inr ⟨o, hf _ _ h⟩)
  · exact .inr h
theorem sqL_mono {K : PySem.W.Frag} {F F' : Hp} (hf : ∀ a o, F a = some o → F' a = some o) {a : Addr} {vs : List V} (h : SqL K F a vs) : SqL K F' a vs := by
  rcases h with (h | ⟨o, h⟩) | h
  · exact .inl (.inl (hf _ _ h))
  · exact .inl (.inr ⟨o, hf _ _ h⟩)
  · exact .inr h
mutual
theorem RelD.mono {C : Ct} {w w' : Wd} (g : Gr w w') : ∀ {v : V} {d : D}, RelD C w.F w.L v d → RelD C w'.F w'.L v d
  | _, _, .non => .non
  | _, _, .bl b => .bl b
  | _, _, .int i => .int i
  | _, _, .str s => .str s
  | _, _, .tup h r => .tup (sqT_mono g.f h) (RelDs.mono g r)
  | _, _, .lst h r => .lst (g.f _ _ h) (RelDs.mono g r)
  | _, _, .scr h => .scr (sqL_mono g.f h)
  | _, _, .ins hc h n r => .ins hc (g.f _ _ h) n (RelDs.mono g r)
  | _, _, .dct0 h => .dct0 (g.f _ _ h)
  | _, _, .ref h => .ref (by obtain ⟨m, e⟩ := g.l; rw [e]; exact (List.getElem?_append_left (List.getElem?_eq_some_iff.mp h).1).trans h)
theorem RelDs.mono {C : Ct} {w w' : Wd} (g : Gr w w') : ∀ {vs : List V} {ds : List D}, RelDs C w.F w.L vs ds → RelDs C w'.F w'.L vs ds
  | _, _, .nil => .nil
  | _, _, .cons h r => .cons (RelD.mono g h) (RelDs.mono g r)
end
theorem RelDs.length {C : Ct} {F : Hp} {L : List Addr} : ∀ {vs : List V} {ds : List D}, RelDs C F L vs ds → vs.length = ds.length
  | _, _, .nil => rfl
  | _, _, .cons _ r => by simp [RelDs.length r]
theorem RelDs.get {C : Ct} {F : Hp} {L : List Addr} : ∀ {vs : List V} {ds : List D} {i : Nat} {d : D}, RelDs C F L vs ds → ds[i]? = some d → ∃ v, vs[i]? = some v ∧ RelD C F L v d
  | _, _, _, _, .nil, e => by simp at e
  | _, _, 0, _, .cons h _, e => by simp at e; subst e; exact ⟨_, rfl, h⟩
  | _, _, i + 1, _, .cons _ r, e => by
    obtain ⟨v, h1, h2⟩ := RelDs.get (i := i) r (by simpa using e)
    exact ⟨v, by simpa using h1, h2⟩
theorem RelDs.append {C : Ct} {F : Hp} {L : List Addr} : ∀ {vs us : List V} {ds es : List D}, RelDs C F L vs ds → RelDs C F L us es → RelDs C F L (vs ++ us) (ds ++ es)
  | _, _, _, _, .nil, s => s
  | _, _, _, _, .cons h r, s => .cons h (r.append s)
theorem RelDs.take {C : Ct} {F : Hp} {L : List Addr} : ∀ {vs : List V} {ds : List D} (n : Nat), RelDs C F L vs ds → RelDs C F L (vs.take n) (ds.take n)
  | _, _, 0, _ => .nil
  | _, _, _ + 1, .nil => .nil
  | _, _, n + 1, .cons h r => .cons h (r.take n)
theorem RelDs.drop {C : Ct} {F : Hp} {L : List Addr} : ∀ {vs : List V} {ds : List D} (n : Nat), RelDs C F L vs ds → RelDs C F L (vs.drop n) (ds.drop n)
  | _, _, 0, r => r
  | _, _, _ + 1, .nil => .nil
  | _, _, n + 1, .cons _ r => r.drop n
theorem RelDs.set {C : Ct} {F : Hp} {L : List Addr} {v : V} {d : D} (h : RelD C F L v d) : ∀ {vs : List V} {ds : List D} (n : Nat), RelDs C F L vs ds → RelDs C F L (vs.set n v) (ds.set n d)
  | _, _, _, .nil => .nil
  | _, _, 0, .cons _ r => .cons h r
  | _, _, n + 1, .cons h' r => .cons h' (r.set h n)
theorem RelDs.eraseIdx {C : Ct} {F : Hp} {L : List Addr} : ∀ {vs : List V} {ds : List D} (n : Nat), RelDs C F L vs ds → RelDs C F L (vs.eraseIdx n) (ds.eraseIdx n)
  | _, _, _, .nil => .nil
  | _, _, 0, .cons _ r => r
  | _, _, n + 1, .cons h r => .cons h (r.eraseIdx n)
theorem RelDs.dropLast {C : Ct} {F : Hp} {L : List Addr} {vs : List V} {ds : List D} (h : RelDs C F L vs ds) : RelDs C F L vs.dropLast ds.dropLast := by
  rw [List.dropLast_eq_take, List.dropLast_eq_take, h.length]
  exact h.take _
theorem RelDs.reverse {C : Ct} {F : Hp} {L : List Addr} : ∀ {vs : List V} {ds : List D}, RelDs C F L vs ds → RelDs C F L vs.reverse ds.reverse
  | _, _, .nil => .nil
  | _, _, .cons h r => by
    rw [List.reverse_cons, List.reverse_cons]
    exact r.reverse.append (.cons h .nil)
theorem RelDs.rep {C : Ct} {F : Hp} {L : List Addr} {vs : List V} {ds : List D} (h : RelDs C F L vs ds) : ∀ k : Nat, RelDs C F L (List.replicate k vs).flatten (List.replicate k ds).flatten
  | 0 => .nil
  | k + 1 => by
    rw [List.replicate_succ, List.replicate_succ, List.flatten_cons, List.flatten_cons]
    exact h.append (h.rep k)
theorem RelDs.ints {C : Ct} {F : Hp} {L : List Addr} : ∀ {vs : List V} {ds : List D} {ns : List Int}, RelDs C F L vs ds → intsD ds = some ns → vs = ns.map V.int
  | _, _, _, .nil, e => by simp [intsD] at e; subst e; rfl
  | _, _, ns, .cons h r, e => by
    cases h <;> simp [intsD] at e
    obtain ⟨ms, e1, e2⟩ := e
    subst e2
    rw [RelDs.ints r e1]; rfl
theorem RelDs.bls {C : Ct} {F : Hp} {L : List Addr} : ∀ {vs : List V} {ds : List D} {ns : List Bool}, RelDs C F L vs ds → blsD ds = some ns → vs = ns.map V.bl
  | _, _, _, .nil, e => by simp [blsD] at e; subst e; rfl
  | _, _, ns, .cons h r, e => by
    cases h <;> simp [blsD] at e
    obtain ⟨ms, e1, e2⟩ := e
    subst e2
    rw [RelDs.bls r e1]; rfl
theorem RelC.mono {C : Ct} {w w' : Wd} {H H' : Hp} {a : Addr} {c : Cell} (g : Gr w w') (h : ∀ o, H a = some o → H' a = some o) (r : RelC C w H a c) : RelC C w' H' a c := by
  cases c with
  | lst ds =>
    obtain ⟨vs, e, r⟩ := r
    exact ⟨vs, h _ e, r.mono g⟩
  | ins c fs =>
    obtain ⟨Ca, dx, vs, e1, e, n, r⟩ := r
    exact ⟨Ca, dx, vs, e1, h _ e, n, r.mono g⟩
  | frz ds =>
    obtain ⟨vs, e1, e, r⟩ := r
    exact ⟨vs, g.f _ _ e1, h _ e, r.mono g⟩
  | _ => exact r.elim
theorem RelC.there {C : Ct} {w : Wd} {H : Hp} {a : Addr} {c : Cell} (r : RelC C w H a c) : ∃ o, H a = some o := by
  cases c with
  | lst ds =>
    obtain ⟨vs, e, r⟩ := r
    exact ⟨_, e⟩
  | ins c fs =>
    obtain ⟨Ca, dx, vs, e1, e, r⟩ := r
    exact ⟨_, e⟩
  | frz ds =>
    obtain ⟨vs, e1, e, r⟩ := r
    exact ⟨_, e⟩
  | _ => exact r.elim

/-- the cells -/
structure RelSt (C : Ct) (w : Wd) (H : Hp) (st : Store) : Prop where
  len : st.length = w.L.length
  nd : w.L.Nodup
  fh : ∀ a o, w.F a = some o → H a = some o
  fl : ∀ (l : Nat) (c : Cell) (a : Addr), st[l]? = some c → w.L[l]? = some a → c.live = true → w.F a = none
  cell : ∀ (l : Nat) (c : Cell) (a : Addr), st[l]? = some c → w.L[l]? = some a → RelC C w H a c
/-- the slots -/
structure RelE (C : Ct) (w : Wd) (H : Hp) (σ : St) (ρ : Env) : Prop where
  len : ρ.length = σ.length
  val : ∀ (i : Nat) (d : D), ρ[i]? = some (.val d) → ∃ v, σ[i]? = some (some v) ∧ RelD C w.F w.L v d
  own : ∀ (i : Nat) (c : Cell), ρ[i]? = some (.own c) → ∃ a, σ[i]? = some (some (.ref a)) ∧ RelC C w H a c ∧ w.F a = none ∧ a ∉ w.L
  ap : ∀ (i j : Nat) (c c' : Cell) (a : Addr), ρ[i]? = some (.own c) → ρ[j]? = some (.own c') → σ[i]? = some (some (.ref a)) → σ[j]? = some (some (.ref a)) → i = j
def Own (σ : St) (ρ : Env) (a : Addr) : Prop := ∃ (i : Nat) (c : Cell), ρ[i]? = some (.own c) ∧ σ[i]? = some (some (.ref a))
/-- what a run may do -/
structure Step (w : Wd) (H : Hp) (O : Addr → Prop) (w' : Wd) (H' : Hp) (O' : Addr → Prop) : Prop where
  gr : Gr w w'
  keep : ∀ a o, H a = some o → a ∉ w.L → ¬ O a → H' a = some o
  newF : ∀ a o, w'.F a = some o → w.F a = some o ∨ O a ∨ H a = none ∨ a ∈ w.L
  newL : ∀ a ∈ w'.L, a ∈ w.L ∨ O a ∨ H a = none
  newO : ∀ a, O' a → O a ∨ H a = none
  dom : ∀ a, H' a = none → H a = none
theorem Step.refl {w : Wd} {H : Hp} {O : Addr → Prop} : Step w H O w H O := ⟨Gr.refl w, fun _ _ h _ _ => h, fun _ _ h => .inl h, fun _ h => .inl h, fun _ h => .inl h, fun _ h => h⟩
theorem Step.trans {w w1 w2 : Wd} {H H1 H2 : Hp} {O O1 O2 : Addr → Prop} (a : Step w H O w1 H1 O1) (b : Step w1 H1 O1 w2 H2 O2) : Step w H O w2 H2 O2 where
  gr := a.gr.trans b.gr
  keep := fun x o h hl ho => b.keep x o (a.keep x o h hl ho) (fun z => by
    rcases a.newL x z with z | z | z
    · exact hl z
    · exact ho z
    · rw [z] at h; cases h) fun z => by
    rcases a.newO x z with z | z
    · exact ho z
    · rw [z] at h; cases h
  newF := fun x o h => by
    rcases b.newF x o h with h | h | h | h
    · exact a.newF x o h
    · rcases a.newO x h with h | h
      · exact .inr (.inl h)
      · exact .inr (.inr (.inl h))
    · exact .inr (.inr (.inl (a.dom x h)))
    · rcases a.newL x h with h | h | h
      · exact .inr (.inr (.inr h))
      · exact .inr (.inl h)
      · exact .inr (.inr (.inl h))
  newL := fun x h => by
    rcases b.newL x h with h | h | h
    · exact a.newL x h
    · rcases a.newO x h with h | h
      · exact .inr (.inl h)
      · exact .inr (.inr h)
    · exact .inr (.inr (a.dom x h))
  newO := fun x h => by
    rcases b.newO x h with h | h
    · exact a.newO x h
    · exact .inr (a.dom x h)
  dom := fun x h => a.dom x (b.dom x h)

/-- an exception: its class, its own dict -/
def RelX (C : Ct) (w : Wd) (H : Hp) (cls : Value) (d : Option Addr) (x : D) : Prop :=
  ∃ (c : Str) (fs : List (Str × D)) (Ca dd : Addr) (vs : List (Str × V)), x = .exc c fs ∧ C.mg c = some (.ref Ca) ∧ cls = .ref Ca ∧ d = some dd ∧ w.F dd = some (.xd vs) ∧ RelFs C w.F w.L vs fs ∧ XfC C.K Ca ∧ ∀ f ∈ fs.map (·.1), PySem.W.findIn C.K (.ref Ca) f = some none

/-- the reading of a run -/
def tW {α β : Type} (C : Ct) (W : WX) (rel : Wd → β → α → Prop) (w : Wd) (ρ : Env) (st : Store) (m : M α) (σ : St) (H : Hp) (Q : β → Hp → Prop) : Prop :=
  RelSt C w H st ∧ RelE C w H σ ρ ∧ match m ρ st with
    | .ok a ρ' st' => ∀ b w' H', RelSt C w' H' st' → RelE C w' H' σ ρ' → Step w H (Own σ ρ) w' H' (Own σ ρ') → rel w' b a → Q b H'
    | .exc x ρ' st' => ∀ cls d w' H', RelSt C w' H' st' → RelE C w' H' σ ρ' → Step w H (Own σ ρ) w' H' (Own σ ρ') → RelX C w' H' cls d x → W cls d σ H'
    | .bad => False
def tM {α β : Type} (C : Ct) (W : WX) (rel : Wd → β → α → Prop) (m : M α) : St → Hp → (β → Hp → Prop) → Prop := fun σ H Q => ∃ w ρ st, tW C W rel w ρ st m σ H Q
abbrev rD (C : Ct) : Wd → V → D → Prop := fun w v d => RelD C w.F w.L v d
abbrev rDs (C : Ct) : Wd → List V → List D → Prop := fun w v d => RelDs C w.F w.L v d
abbrev rB : Wd → Bool → Bool → Prop := fun _ a b => a = b
abbrev rO : Wd → Option Int → Option Int → Prop := fun _ a b => a = b

section
variable {C : Ct} {W : WX} {α β γ δ : Type} {rel : Wd → β → α → Prop} {rel2 : Wd → δ → γ → Prop} {w : Wd} {ρ : Env} {st : Store} {σ : St} {H : Hp}
theorem tW.imp {m : M α} {Q Q' : β → Hp → Prop} (h : tW C W rel w ρ st m σ H Q) (hq : ∀ b H', Q b H' → Q' b H') : tW C W rel w ρ st m σ H Q' := by
  obtain ⟨h1, h2, h3⟩ := h
  refine ⟨h1, h2, ?_⟩
  split at h3
  · exact fun b w' H' a1 a2 a3 a4 => hq _ _ (h3 b w' H' a1 a2 a3 a4)
  · exact h3
  · exact h3
/-- one run, then another -/
theorem tW.bindE {m : M α} {f : α → M γ} {Q : δ → Hp → Prop} (h : tW C W rel2 w ρ st (Z.bind m f) σ H Q) :
    tW C W rel w ρ st m σ H fun b H1 => ∃ a w1 ρ1 st1, m ρ st = .ok a ρ1 st1 ∧ rel w1 b a ∧ Step w H (Own σ ρ) w1 H1 (Own σ ρ1) ∧ tW C W rel2 w1 ρ1 st1 (f a) σ H1 Q := by
  obtain ⟨h1, h2, h3⟩ := h
  refine ⟨h1, h2, ?_⟩
  unfold Z.bind at h3
  cases e : m ρ st with
  | ok a ρ1 st1 =>
    rw [e] at h3
    intro b w1 H1 r1 r2 s1 rb
    refine ⟨a, w1, ρ1, st1, rfl, rb, s1, r1, r2, ?_⟩
    simp only at h3
    cases e2 : f a ρ1 st1 with
    | ok c ρ2 st2 =>
      rw [e2] at h3
      exact fun d w2 H2 q1 q2 s2 rd => h3 d w2 H2 q1 q2 (s1.trans s2) rd
    | exc x ρ2 st2 =>
      rw [e2] at h3
      exact fun cls d w2 H2 q1 q2 s2 rx => h3 cls d w2 H2 q1 q2 (s1.trans s2) rx
    | bad => rw [e2] at h3; exact h3
  | exc x ρ1 st1 =>
    rw [e] at h3
    exact h3
  | bad => rw [e] at h3; exact h3
theorem tW.bind {m : M α} {f : α → M γ} {Q : δ → Hp → Prop} (h : tW C W rel2 w ρ st (Z.bind m f) σ H Q) :
    tW C W rel w ρ st m σ H fun b H1 => ∃ a w1 ρ1 st1, rel w1 b a ∧ Step w H (Own σ ρ) w1 H1 (Own σ ρ1) ∧ tW C W rel2 w1 ρ1 st1 (f a) σ H1 Q :=
  h.bindE.imp fun b H1 ⟨a, w1, ρ1, st1, _, q⟩ => ⟨a, w1, ρ1, st1, q⟩
/-- the end of a run that asks nothing -/
theorem tW.ret {a : α} {Q : β → Hp → Prop} (h : tW C W rel w ρ st (Z.ret a) σ H Q) {b : β} (r : rel w b a) : Q b H :=
  h.2.2 b w H h.1 h.2.1 Step.refl r
theorem tW.opt {o : Option α} {Q : β → Hp → Prop} (h : tW C W rel w ρ st (Z.opt o) σ H Q) : ∃ a, o = some a ∧ tW C W rel w ρ st (Z.ret a) σ H Q := by
  cases o with
  | none => exact h.2.2.elim
  | some a => exact ⟨a, rfl, h⟩
theorem tW.optBind {o : Option α} {f : α → M γ} {Q : δ → Hp → Prop} (h : tW C W rel2 w ρ st (Z.bind (Z.opt o) f) σ H Q) : ∃ a, o = some a ∧ tW C W rel2 w ρ st (f a) σ H Q := by
  cases o with
  | none => exact h.2.2.elim
  | some a => exact ⟨a, rfl, h⟩
theorem tW.retBind {a : α} {f : α → M γ} {Q : δ → Hp → Prop} (h : tW C W rel2 w ρ st (Z.bind (Z.ret a) f) σ H Q) : tW C W rel2 w ρ st (f a) σ H Q := h
theorem tW.viewBind {a : D} {f : D → M γ} {Q : δ → Hp → Prop} (h : tW C W rel2 w ρ st (Z.bind (Z.viewM a) f) σ H Q) : tW C W rel2 w ρ st (f (view st a)) σ H Q := h
end

theorem _root_.L2.PE.imp {X : Cx} {e : Expr} {t t' : TE} (h : PE X e t) (hi : ∀ σ H Q, t' σ H Q → t σ H Q) : PE X e t' :=
  ⟨fun pins s σ H Q I q => h.run pins s σ H Q I (hi σ H Q q)⟩
theorem _root_.L2.PT.imp {X : Cx} {e : Expr} {t t' : TT} (h : PT X e t) (hi : ∀ σ H Q, t' σ H Q → t σ H Q) : PT X e t' :=
  ⟨fun pins s σ H Q I q => h.run pins s σ H Q I (hi σ H Q q)⟩
theorem _root_.L2.PW.imp {X : Cx} {e : Expr} {t t' : TT} (h : PW X e t) (hi : ∀ σ H Q, t' σ H Q → t σ H Q) : PW X e t' :=
  ⟨fun wh pins s σ H Q I q => h.run wh pins s σ H Q I (hi σ H Q q)⟩
theorem _root_.L2.PA.imp {X : Cx} {e : List Expr} {t t' : TA} (h : PA X e t) (hi : ∀ σ H Q, t' σ H Q → t σ H Q) : PA X e t' :=
  ⟨fun pos pins s σ H Q I q => h.run pos pins s σ H Q I (hi σ H Q q)⟩
theorem _root_.L2.PK.imp {X : Cx} {e : List Keyword} {t t' : TA} (h : PK X e t) (hi : ∀ σ H Q, t' σ H Q → t σ H Q) : PK X e t' :=
  ⟨fun pos pins s σ H Q I q => h.run pos pins s σ H Q I (hi σ H Q q)⟩
theorem _root_.L2.PO.imp {X : Cx} {e : Option Expr} {t t' : TO} (h : PO X e t) (hi : ∀ σ H Q, t' σ H Q → t σ H Q) : PO X e t' :=
  ⟨fun pins s σ H Q I q => h.run pins s σ H Q I (hi σ H Q q)⟩
theorem _root_.L2.PS.imp {X : Cx} {e : Stmt} {t t' : TS} (h : PS X e t) (hi : ∀ D σ H, t' D σ H → t D σ H) : PS X e t' :=
  ⟨fun pins s σ H D I q => h.run pins s σ H D I (hi D σ H q)⟩
theorem _root_.L2.PSs.imp {X : Cx} {e : List Stmt} {t t' : TS} (h : PSs X e t) (hi : ∀ D σ H, t' D σ H → t D σ H) : PSs X e t' :=
  ⟨fun pins s σ H D I q => h.run pins s σ H D I (hi D σ H q)⟩

/-- an expression computes what the run computes -/
abbrev DE (X : Cx) (W : WX) (e : Expr) (m : M D) : Prop := PE X e (tM (ct X) W (rD (ct X)) m)
abbrev DEs (X : Cx) (W : WX) (es : List Expr) (m : M (List D)) : Prop := PA X es (tM (ct X) W (rDs (ct X)) m)
abbrev DT (X : Cx) (W : WX) (e : Expr) (m : M Bool) : Prop := PT X e (tM (ct X) W rB m)
abbrev DO (X : Cx) (W : WX) (e : Option Expr) (m : M (Option Int)) : Prop := PO X e (tM (ct X) W rO m)

/-! ### names and constants -/
section
variable {X : Cx} {W : WX} {pos : Pos}
theorem de_ret {e : Expr} {v : V} {d : D} (h : PE X e (tC v)) (r : ∀ w : Wd, RelD (ct X) w.F w.L v d) : DE X W e (ret d) :=
  h.imp fun σ H Q ⟨w, ρ, st, q⟩ => q.ret (r w)
theorem RelC.toD {C : Ct} {w : Wd} {H : Hp} {a : Addr} {c : Cell} (r : RelC C w H a c) (hl : a ∉ w.L) : ∀ (F' : Hp) , (∀ x o, w.F x = some o → F' x = some o) → (∀ o, H a = some o → F' a = some o) → RelD C F' w.L (.ref a) c.toD := by
  intro F' h1 h2
  cases c with
  | lst ds =>
    obtain ⟨vs, e, r⟩ := r
    exact .lst (h2 _ e) (RelDs.mono (w := w) (w' := ⟨F', w.L⟩) ⟨h1, [], by simp⟩ r)
  | ins c fs =>
    obtain ⟨Ca, dx, vs, e1, e, n, r⟩ := r
    exact .ins e1 (h2 _ e) n (RelDs.mono (w := w) (w' := ⟨F', w.L⟩) ⟨h1, [], by simp⟩ r)
  | frz ds =>
    obtain ⟨vs, e1, e, r⟩ := r
    exact .lst (h1 _ _ e1) (RelDs.mono (w := w) (w' := ⟨F', w.L⟩) ⟨h1, [], by simp⟩ r)
  | _ => exact r.elim
theorem own_set_val {σ : St} {ρ : Env} {i : Nat} {d : D} {a : Addr} (h : Own σ (ρ.set i (.val d)) a) : Own σ ρ a ∧ ∃ j c, j ≠ i ∧ ρ[j]? = some (.own c) ∧ σ[j]? = some (some (.ref a)) := by
  obtain ⟨j, c, e1, e2⟩ := h
  by_cases hj : i = j
  · subst hj
    by_cases hl : i < ρ.length
    · rw [List.getElem?_set_self hl] at e1; cases e1
    · rw [List.getElem?_eq_none (by simpa using hl)] at e1; cases e1
  · rw [List.getElem?_set_ne hj] at e1
    exact ⟨⟨j, c, e1, e2⟩, j, c, fun z => hj z.symm, e1, e2⟩
/-- an object of its own is let go: it becomes a value -/
theorem thaw {C : Ct} {w : Wd} {H : Hp} {σ : St} {ρ : Env} {st : Store} {i : Nat} {c : Cell} (hs : RelSt C w H st) (he : RelE C w H σ ρ) (e : ρ[i]? = some (.own c)) :
    ∃ a w', σ[i]? = some (some (.ref a)) ∧ RelSt C w' H st ∧ RelE C w' H σ (ρ.set i (.val c.toD)) ∧ Step w H (Own σ ρ) w' H (Own σ (ρ.set i (.val c.toD))) ∧ RelD C w'.F w'.L (.ref a) c.toD := by
  obtain ⟨a, e1, rc, hf, hl⟩ := he.own i c e
  obtain ⟨o, ho⟩ := rc.there
  have hg : Gr w ⟨upd w.F a o, w.L⟩ := ⟨fun x u hx => by
    show upd w.F a o x = some u
    rw [upd_ne (fun z => by rw [z, hf] at hx; cases hx)]
    exact hx, [], by simp⟩
  have rd : RelD C (upd w.F a o) w.L (.ref a) c.toD := rc.toD hl _ hg.f (fun u hu => by rw [upd_same]; rw [ho] at hu; exact hu)
  refine ⟨a, ⟨upd w.F a o, w.L⟩, e1, ⟨hs.len, hs.nd, fun x u hx => ?_, fun l d x hx1 hx hv => ?_, fun l d x h1 h2 => (hs.cell l d x h1 h2).mono hg fun _ z => z⟩, ⟨by simpa using he.len, fun j d h => ?_, fun j d h => ?_, fun j k c1 c2 x h1 h2 h3 h4 => ?_⟩, ⟨hg, fun x u h _ _ => h, fun x u h => ?_, fun x h => .inl h, fun x h => .inl (own_set_val h).1, fun x h => h⟩, rd⟩
  · have hx : upd w.F a o x = some u := hx
    by_cases hx' : x = a
    · rw [hx', upd_same] at hx; cases hx; rw [hx']; exact ho
    · rw [upd_ne hx'] at hx; exact hs.fh x u hx
  · show upd w.F a o x = none
    rw [upd_ne (fun z : x = a => hl (by rw [← z]; exact List.mem_of_getElem? hx))]
    exact hs.fl l d x hx1 hx hv
  · by_cases hj : i = j
    · subst hj
      rw [List.getElem?_set_self (List.getElem?_eq_some_iff.mp e).1] at h
      cases h
      exact ⟨_, e1, rd⟩
    · rw [List.getElem?_set_ne hj] at h
      obtain ⟨v, h1, h2⟩ := he.val j d h
      exact ⟨v, h1, h2.mono hg⟩
  · by_cases hj : i = j
    · subst hj
      rw [List.getElem?_set_self (List.getElem?_eq_some_iff.mp e).1] at h
      cases h
    · rw [List.getElem?_set_ne hj] at h
      obtain ⟨b, h1, h2, h3, h4⟩ := he.own j d h
      refine ⟨b, h1, h2.mono hg (fun _ z => z), ?_, h4⟩
      show upd w.F a o b = none
      rw [upd_ne (fun z => hj (by subst z; exact he.ap i j c d b e h e1 h1))]
      exact h3
  · by_cases hj : i = j
    · subst hj
      rw [List.getElem?_set_self (List.getElem?_eq_some_iff.mp e).1] at h1; cases h1
    · by_cases hk : i = k
      · subst hk
        rw [List.getElem?_set_self (List.getElem?_eq_some_iff.mp e).1] at h2; cases h2
      · rw [List.getElem?_set_ne hj] at h1
        rw [List.getElem?_set_ne hk] at h2
        exact he.ap j k c1 c2 x h1 h2 h3 h4
  · by_cases hx : x = a
    · subst hx; exact .inr (.inl ⟨i, c, e, e1⟩)
    · exact .inl (by have h' : upd w.F a o x = some u := h; rw [upd_ne hx] at h'; exact h')
theorem de_var {i : Nat} {x : Str} (hN : X.N[i]? = some x) (hv : Vis X.env.scope x) (hd : (x == ("__debug__" : Str)) = false) (hcd : (x == ("__classdict__" : Str)) = false) : DE X W (.Name x pos) (getV i) :=
  (pe_var hN hv hd hcd).imp fun σ H Q ⟨w, ρ, st, hs, he, q⟩ => by
    unfold getV at q
    cases e : ρ[i]? with
    | none => rw [e] at q; exact q.elim
    | some sl =>
      rw [e] at q
      cases sl with
      | un => exact q.elim
      | val d =>
        obtain ⟨v, h1, h2⟩ := he.val i d e
        exact ⟨v, h1, q v w H hs he Step.refl h2⟩
      | own c =>
        obtain ⟨a, w', h1, h2, h3, h4, h5⟩ := thaw hs he e
        exact ⟨_, h1, q _ w' H h2 h3 h4 h5⟩
end

/-! ### a new object -/
section
variable {C : Ct} {w : Wd} {H : Hp} {σ : St} {ρ : Env} {st : Store} {p : Addr} {o : HO}
theorem RelSt.none_F (hs : RelSt C w H st) (hp : H p = none) : w.F p = none := by
  cases e : w.F p with
  | none => rfl
  | some u => rw [hs.fh _ _ e] at hp; cases hp
theorem RelSt.none_L (hs : RelSt C w H st) (hp : H p = none) : p ∉ w.L := fun h => by
  obtain ⟨l, hl, e⟩ := List.mem_iff_getElem.mp h
  have hl' : l < st.length := by rw [hs.len]; exact hl
  have r := hs.cell l st[l] p (by simp [hl']) (by rw [← e]; simp)
  obtain ⟨u, hu⟩ := r.there
  rw [hp] at hu; cases hu
theorem keep_of (hp : H p = none) : ∀ a u, H a = some u → upd H p o a = some u := fun a u h => by
  rw [upd_ne (fun z => by rw [z, hp] at h; cases h)]; exact h
/-- laid, not told of -/
theorem laid0 (hs : RelSt C w H st) (he : RelE C w H σ ρ) (hp : H p = none) : RelSt C w (upd H p o) st ∧ RelE C w (upd H p o) σ ρ ∧ Step w H (Own σ ρ) w (upd H p o) (Own σ ρ) := by
  have k := keep_of (o := o) hp
  refine ⟨⟨hs.len, hs.nd, fun a u h => k a u (hs.fh a u h), hs.fl, fun l c a h1 h2 => (hs.cell l c a h1 h2).mono (Gr.refl w) (k a)⟩, ⟨he.len, he.val, fun i c h => ?_, he.ap⟩, ⟨Gr.refl w, fun a u h _ _ => k a u h, fun _ _ h => .inl h, fun _ h => .inl h, fun _ h => .inl h, fun a h => ?_⟩⟩
  · obtain ⟨a, h1, h2, h3, h4⟩ := he.own i c h
    exact ⟨a, h1, h2.mono (Gr.refl w) (k a), h3, h4⟩
  · by_cases ha : a = p
    · rw [ha]; exact hp
    · rw [upd_ne ha] at h; exact h
/-- an object that nobody owns is never changed from now on -/
theorem toF (hs : RelSt C w H st) (he : RelE C w H σ ρ) (ho : H p = some o) (hf : w.F p = none) (hl : p ∉ w.L) (hn : ¬ Own σ ρ p) :
    RelSt C ⟨upd w.F p o, w.L⟩ H st ∧ RelE C ⟨upd w.F p o, w.L⟩ H σ ρ ∧ Gr w ⟨upd w.F p o, w.L⟩ := by
  have g : Gr w ⟨upd w.F p o, w.L⟩ := ⟨fun a u h => by
    show upd w.F p o a = some u
    rw [upd_ne (fun z => by rw [z, hf] at h; cases h)]; exact h, [], by simp⟩
  refine ⟨⟨hs.len, hs.nd, fun a u h => ?_, fun l c a h0 h hv => ?_, fun l c a h1 h2 => (hs.cell l c a h1 h2).mono g fun _ z => z⟩, ⟨he.len, fun i d h => ?_, fun i c h => ?_, he.ap⟩, g⟩
  · have h : upd w.F p o a = some u := h
    by_cases ha : a = p
    · rw [ha, upd_same] at h; cases h; rw [ha]; exact ho
    · rw [upd_ne ha] at h; exact hs.fh a u h
  · show upd w.F p o a = none
    rw [upd_ne (fun z : a = p => hl (by rw [← z]; exact List.mem_of_getElem? h))]; exact hs.fl l c a h0 h hv
  · obtain ⟨v, h1, h2⟩ := he.val i d h
    exact ⟨v, h1, h2.mono g⟩
  · obtain ⟨a, h1, h2, h3, h4⟩ := he.own i c h
    refine ⟨a, h1, h2.mono g fun _ z => z, ?_, h4⟩
    show upd w.F p o a = none
    rw [upd_ne (fun z : a = p => hn ⟨i, c, h, by rw [← z]; exact h1⟩)]; exact h3
/-- a new object, never changed from now on -/
theorem laidF (hs : RelSt C w H st) (he : RelE C w H σ ρ) (hp : H p = none) :
    RelSt C ⟨upd w.F p o, w.L⟩ (upd H p o) st ∧ RelE C ⟨upd w.F p o, w.L⟩ (upd H p o) σ ρ ∧ Step w H (Own σ ρ) ⟨upd w.F p o, w.L⟩ (upd H p o) (Own σ ρ) := by
  obtain ⟨a1, a2, a3⟩ := laid0 (o := o) hs he hp
  have hn : ¬ Own σ ρ p := fun ⟨i, c, h1, h2⟩ => by
    obtain ⟨a, e1, e2, _⟩ := he.own i c h1
    rw [h2] at e1; cases e1
    obtain ⟨u, hu⟩ := e2.there
    rw [hp] at hu; cases hu
  obtain ⟨b1, b2, b3⟩ := toF a1 a2 upd_same (hs.none_F hp) (hs.none_L hp) hn
  refine ⟨b1, b2, ⟨b3, a3.keep, fun a u h => ?_, a3.newL, a3.newO, a3.dom⟩⟩
  have h : upd w.F p o a = some u := h
  by_cases ha : a = p
  · rw [ha]; exact .inr (.inr (.inl hp))
  · rw [upd_ne ha] at h; exact .inl h
/-- an object that nobody owns becomes a cell -/
theorem toL {c : Cell} (hs : RelSt C w H st) (he : RelE C w H σ ρ) (hc : RelC C w H p c) (hf : w.F p = none) (hl : p ∉ w.L) (hn : ¬ Own σ ρ p) :
    RelSt C ⟨w.F, w.L ++ [p]⟩ H (st ++ [c]) ∧ RelE C ⟨w.F, w.L ++ [p]⟩ H σ ρ ∧ Gr w ⟨w.F, w.L ++ [p]⟩ ∧ RelD C w.F (w.L ++ [p]) (.ref p) (.ref st.length) := by
  have g : Gr w ⟨w.F, w.L ++ [p]⟩ := ⟨fun _ _ h => h, [p], rfl⟩
  refine ⟨⟨by simp [hs.len], ?_, hs.fh, fun l d a h1 h2 hv => ?_, fun l d a h1 h2 => ?_⟩, ⟨he.len, fun i d h => ?_, fun i d h => ?_, he.ap⟩, g, .ref ?_⟩
  · exact List.nodup_append.mpr ⟨hs.nd, by simp, fun a ha b hb => by simp at hb; subst hb; exact fun z => hl (z ▸ ha)⟩
  · by_cases hl2 : l < st.length
    · rw [List.getElem?_append_left hl2] at h1
      rw [show (⟨w.F, w.L ++ [p]⟩ : Wd).L = w.L ++ [p] from rfl, List.getElem?_append_left (by rw [← hs.len]; exact hl2)] at h2
      exact hs.fl l d a h1 h2 hv
    · rw [show (⟨w.F, w.L ++ [p]⟩ : Wd).L = w.L ++ [p] from rfl, List.getElem?_append_right (by rw [← hs.len]; omega)] at h2
      have := List.mem_of_getElem? h2
      simp at this
      subst this
      exact hf
  · by_cases hl2 : l < st.length
    · rw [List.getElem?_append_left hl2] at h1
      rw [show (⟨w.F, w.L ++ [p]⟩ : Wd).L = w.L ++ [p] from rfl, List.getElem?_append_left (by rw [← hs.len]; exact hl2)] at h2
      exact (hs.cell l d a h1 h2).mono g fun _ z => z
    · rw [List.getElem?_append_right (by omega)] at h1
      rw [show (⟨w.F, w.L ++ [p]⟩ : Wd).L = w.L ++ [p] from rfl, List.getElem?_append_right (by rw [← hs.len]; omega), ← hs.len] at h2
      have e0 : l - st.length = 0 := by
        cases e : l - st.length with
        | zero => rfl
        | succ n => rw [e] at h1; simp at h1
      rw [e0] at h1 h2
      simp at h1 h2
      subst h1 h2
      exact hc.mono g fun _ z => z
  · obtain ⟨v, h1, h2⟩ := he.val i d h
    exact ⟨v, h1, h2.mono g⟩
  · obtain ⟨a, h1, h2, h3, h4⟩ := he.own i d h
    refine ⟨a, h1, h2.mono g fun _ z => z, h3, fun z => ?_⟩
    rcases List.mem_append.mp z with z | z
    · exact h4 z
    · simp at z; subst z; exact hn ⟨i, d, h, h1⟩
  · rw [hs.len]; simp
end
end Z

/-! Z3: operators and built-ins by values. -/
namespace Z
open PySem PySem.Spec L2
open PyProof.Rows hiding St

/-- what a value reads as -/
inductive Sees (C : Ct) (w : Wd) (H : Hp) : V → D → Prop
  | non : Sees C w H .non .non
  | bl (b : Bool) : Sees C w H (.bl b) (.bl b)
  | int (i : Int) : Sees C w H (.int i) (.int i)
  | str (s : Str) : Sees C w H (.str s) (.str s)
  | tup {a : Addr} {vs : List V} {ds : List D} (h : SqT C.K w.F a vs) (r : RelDs C w.F w.L vs ds) : Sees C w H (.ref a) (.tup ds)
  | lst {a : Addr} {vs : List V} {ds : List D} (h : H a = some (.lst vs)) (r : RelDs C w.F w.L vs ds) : Sees C w H (.ref a) (.lst ds)
  | scr {a : Addr} {ns : List Int} (h : SqL C.K w.F a (ns.map V.int)) : Sees C w H (.ref a) (.scr ns)
  | dct0 {a : Addr} (h : H a = some (.dK [])) : Sees C w H (.ref a) (.dct [])
  | ins {a Ca dx : Addr} {c : Str} {vs : List (Str × V)} {fs : List (Str × D)} (hc : C.mg c = some (.ref Ca)) (h : H a = some (.ins Ca dx vs)) (n : vs.map (·.1) = fs.map (·.1)) (r : RelDs C w.F w.L (vs.map (·.2)) (fs.map (·.2))) : Sees C w H (.ref a) (.ins c fs)
section
variable {C : Ct} {w : Wd} {H : Hp} {st : Store}
theorem RelC.sees {a : Addr} {c : Cell} (h : RelC C w H a c) : Sees C w H (.ref a) c.toD := by
  cases c with
  | lst ds => obtain ⟨vs, e, r⟩ := h; exact .lst e r
  | ins c fs => obtain ⟨Ca, dx, vs, e1, e, n, r⟩ := h; exact .ins e1 e n r
  | frz ds => obtain ⟨vs, e1, e, r⟩ := h; exact .lst e r
  | _ => exact h.elim
theorem sees (hs : RelSt C w H st) {v : V} {d : D} (r : RelD C w.F w.L v d) : Sees C w H v (view st d) := by
  cases r with
  | non => exact .non
  | bl b => exact .bl b
  | int i => exact .int i
  | str s => exact .str s
  | tup h r => exact .tup h r
  | lst h r => exact .lst (hs.fh _ _ h) r
  | scr h => exact .scr h
  | ins hc h n r => exact .ins hc (hs.fh _ _ h) n r
  | dct0 h => exact .dct0 (hs.fh _ _ h)
  | @ref a l h =>
    have hl : l < st.length := by rw [hs.len]; exact (List.getElem?_eq_some_iff.mp h).1
    have e : st[l]? = some st[l] := by simp [hl]
    show Sees C w H (.ref a) (match st[l]? with | some c => c.toD | none => .ref l)
    rw [e]
    exact (hs.cell l _ a e h).sees
mutual
/-- data of a value, for == -/
theorem toPy_dp (hs : ∀ a o, w.F a = some o → H a = some o) : ∀ {v : V} {d : D} {p : PyData}, RelD C w.F w.L v d → toPy d = some p → Dp C.K H v p
  | _, _, _, .non, e => by simp [toPy] at e; subst e; exact .non
  | _, _, _, .bl b, e => by simp [toPy] at e; subst e; exact .bl b
  | _, _, _, .int b, e => by simp [toPy] at e; subst e; exact .int b
  | _, _, _, .str b, e => by simp [toPy] at e; subst e; exact .str b
  | _, _, _, .tup h r, e => by
    simp [toPy] at e
    obtain ⟨ps, e1, e2⟩ := e
    subst e2
    exact .tup (sqT_mono hs h) (toPys_dp hs r e1)
  | _, _, _, .lst h r, e => by
    simp [toPy] at e
    obtain ⟨ps, e1, e2⟩ := e
    subst e2
    exact .lst (SqL.of (hs _ _ h)) (toPys_dp hs r e1)
  | _, _, _, .ref h, e => by simp [toPy] at e
  | _, _, _, .scr h, e => by simp [toPy] at e
  | _, _, _, .ins _ _ _ _, e => by simp [toPy] at e
  | _, _, _, .dct0 _, e => by simp [toPy] at e
theorem toPys_dp (hs : ∀ a o, w.F a = some o → H a = some o) : ∀ {vs : List V} {ds : List D} {ps : List PyData}, RelDs C w.F w.L vs ds → toPys ds = some ps → DpAll C.K H vs ps
  | _, _, _, .nil, e => by simp [toPys] at e; subst e; exact .nil
  | _, _, _, .cons h r, e => by
    unfold toPys at e
    split at e
    · rename_i a as e1 e2
      cases e
      exact .cons (toPy_dp hs h e1) (toPys_dp hs r e2)
    · cases e
end
theorem Sees.dp (hs : ∀ a o, w.F a = some o → H a = some o) {v : V} {d : D} {p : PyData} (r : Sees C w H v d) (e : toPy d = some p) : Dp C.K H v p := by
  cases r with
  | non => simp [toPy] at e; subst e; exact .non
  | bl b => simp [toPy] at e; subst e; exact .bl b
  | int b => simp [toPy] at e; subst e; exact .int b
  | str b => simp [toPy] at e; subst e; exact .str b
  | tup h r =>
    simp [toPy] at e
    obtain ⟨ps, e1, e2⟩ := e
    subst e2
    exact .tup (sqT_mono hs h) (toPys_dp hs r e1)
  | scr h => simp [toPy] at e
  | ins _ _ _ _ => simp [toPy] at e
  | dct0 _ => simp [toPy] at e
  | lst h r =>
    simp [toPy] at e
    obtain ⟨ps, e1, e2⟩ := e
    subst e2
    exact .lst (SqL.of h) (toPys_dp hs r e1)
end

/-- a value that is z comes out: as it stands, or a new object -/
def Gives (C : Ct) (w : Wd) (H : Hp) (z : D) (Q : VK) : Prop :=
  (∀ v, (∀ w', Gr w w' → (∀ a o, w'.F a = some o → H a = some o) → RelD C w'.F w'.L v z) → Q v H) ∧
  (∀ v p o, H p = none → (∀ w', Gr w w' → w'.F p = some o → RelD C w'.F w'.L v z) → Q v (upd H p o))
theorem gives_of {C : Ct} {W : WX} {w : Wd} {ρ : Env} {st : Store} {σ : St} {H : Hp} {z : D} {Q : VK} (h : tW C W (rD C) w ρ st (ret z) σ H Q) : Gives C w H z Q := by
  refine ⟨fun v r => h.ret (r w (Gr.refl w) h.1.fh), fun v p o hp r => ?_⟩
  obtain ⟨a1, a2, a3⟩ := laidF (o := o) h.1 h.2.1 hp
  exact h.2.2 _ _ _ a1 a2 a3 (r _ a3.gr upd_same)
theorem Gives.sc {C : Ct} {w : Wd} {H : Hp} {z : D} {Q : VK} (h : Gives C w H z Q) {v : V} (r : ∀ F L, RelD C F L v z) : Q v H := h.1 v fun w' _ _ => r _ _

section
variable {X : Cx}
/-- a two-place operation that computes g -/
def OpD (X : Cx) (f : Value → Value → Sem Value) (g : D → D → Option D) : Prop :=
  OpR X f fun v u H Q => ∃ w x y z, Sees (ct X) w H v x ∧ Sees (ct X) w H u y ∧ (∀ a o, w.F a = some o → H a = some o) ∧ g x y = some z ∧ Gives (ct X) w H z Q
theorem opD_of {f : Value → Value → Sem Value} {g : D → D → Option D} {r : R2} (h : OpR X f r)
    (hr : ∀ v u H Q w x y z, Sees (ct X) w H v x → Sees (ct X) w H u y → (∀ a o, w.F a = some o → H a = some o) → g x y = some z → Gives (ct X) w H z Q → r v u H Q) : OpD X f g := by
  intro pins s σ H v u a b Q I ra rb ⟨w, x, y, z, h1, h2, h3, h4, h5⟩
  exact h pins s σ H v u a b Q I ra rb (hr v u H Q w x y z h1 h2 h3 h4 h5)
theorem mulOk_c {i j : Int} (h : mulOk i j = true) : CMul i j := by
  unfold mulOk at h
  simp only [Bool.or_eq_true, Bool.and_eq_true, decide_eq_true_eq] at h
  exact h
theorem powOk_c {i j : Int} (h : powOk i j = true) : CPow i j := by
  unfold powOk at h
  simp only [Bool.and_eq_true, decide_eq_true_eq] at h
  exact ⟨h.1, h.2.1, h.2.2⟩
theorem line_eq : line = sizeLine := by rw [sizeLine_eq]; rfl

theorem relDs_nil {C : Ct} {F : Hp} {L : List Addr} {vs : List V} {ds : List D} (r : RelDs C F L vs ds) : vs = [] ↔ ds = [] := by
  cases r <;> simp
/-- the pure union for + -/
theorem op_addD : OpD X (binaryOp .Add) (opD .Add) := by
  refine opD_of ((op_add (X := X)).or ((op_add_str (X := X)).or ((op_catA (X := X)).or (op_cat (X := X))))) ?_
  intro v u H Q w x y z h1 h2 h3 h4 g
  cases h1 <;> cases h2 <;> simp [opD] at h4
  · subst h4; exact .inl ⟨_, _, rfl, rfl, g.sc fun _ _ => .int _⟩
  · obtain ⟨h5, h4⟩ := h4
    subst h4; exact .inr (.inl ⟨_, _, rfl, rfl, by rw [← line_eq]; exact h5, g.sc fun _ _ => .str _⟩)
  · rename_i a vs ds h r a' vs' ds' h' r'
    obtain ⟨h5, h4⟩ := h4
    subst h4
    refine .inr (.inr (.inl ⟨_, _, _, _, rfl, rfl, sqT_mono h3 h, sqT_mono h3 h', by rw [← line_eq, r.length, r'.length]; exact h5, fun e => ?_, fun e e' => ?_, fun e e' p hp => ?_⟩))
    · have e2 := (relDs_nil r).mp e
      subst e2
      exact g.1 _ fun w' gr _ => .tup (sqT_mono gr.f h') (r'.mono gr)
    · have e2 := (relDs_nil r').mp e'
      subst e2
      refine g.1 _ fun w' gr _ => ?_
      rw [List.append_nil]
      exact .tup (sqT_mono gr.f h) (r.mono gr)
    · exact g.2 _ _ _ hp fun w' gr e => .tup (SqT.of e) ((r.append r').mono gr)
  · rename_i a vs ds h r a' vs' ds' h' r'
    obtain ⟨h5, h4⟩ := h4
    subst h4
    exact .inr (.inr (.inr ⟨_, _, _, _, rfl, rfl, h, h', by rw [← line_eq, r.length, r'.length]; exact h5, fun p hp => g.2 _ _ _ hp fun w' gr e => .lst e ((r.append r').mono gr)⟩))
theorem op_intD {f : Value → Value → Sem Value} {op : Operator} {Cc : Int → Int → Prop} {k : Int → Int → Int} (h : OpR X f (rI Cc fun i j => .int (k i j)))
    (hk : ∀ i j z, opD op (.int i) (.int j) = some z → Cc i j ∧ z = .int (k i j)) (hn : ∀ x y z, opD op x y = some z → (∃ i j, x = .int i ∧ y = .int j)) : OpD X f (opD op) := by
  refine opD_of h ?_
  intro v u H Q w x y z h1 h2 h3 h4 g
  obtain ⟨i, j, rfl, rfl⟩ := hn x y z h4
  obtain ⟨c, rfl⟩ := hk i j z h4
  cases h1
  cases h2
  exact ⟨_, _, rfl, rfl, c, g.sc fun _ _ => .int _⟩
theorem int_only {op : Operator} (h : op ≠ .Add) (h' : op ≠ .Mult) : ∀ x y z, opD op x y = some z → (∃ i j, x = .int i ∧ y = .int j) := by
  intro x y z e
  cases x <;> cases y <;> simp [opD] at e <;> first | exact ⟨_, _, rfl, rfl⟩ | (cases op <;> simp at e <;> first | exact absurd rfl h | exact absurd rfl h')
theorem rI_of {f : Value → Value → Sem Value} {g : Int → Int → V} (h : OpR X f (rI0 g)) : OpR X f (rI (fun _ _ => True) g) := by
  intro pins s σ H v u a b Q I ra rb ⟨i, j, e1, e2, _, q⟩
  exact h pins s σ H v u a b Q I ra rb ⟨i, j, e1, e2, q⟩
theorem op_subD : OpD X (binaryOp .Sub) (opD .Sub) := op_intD (rI_of op_sub) (fun i j z e => by simp [opD] at e; exact ⟨trivial, e.symm⟩) (int_only (by decide) (by decide))
theorem RelDs.repT {C : Ct} {F : Hp} {L : List Addr} {vs : List V} {ds : List D} (r : RelDs C F L vs ds) : ∀ n : Nat, RelDs C F L (List.replicate n vs).flatten (List.replicate n ds).flatten
  | 0 => .nil
  | n + 1 => by
    rw [List.replicate_succ, List.replicate_succ, List.flatten_cons, List.flatten_cons]
    exact r.append (RelDs.repT r n)
theorem op_mulD : OpD X (binaryOp .Mult) (opD .Mult) := by
  refine opD_of ((op_mul (X := X)).or (op_repT (X := X))) ?_
  intro v u H Q w x y z h1 h2 h3 h4 g
  cases h1 <;> cases h2 <;> simp only [opD, reduceCtorEq] at h4
  · rename_i i j
    by_cases h : mulOk i j = true
    · rw [if_pos h] at h4
      cases h4
      exact .inl ⟨_, _, rfl, rfl, mulOk_c h, g.sc fun _ _ => .int _⟩
    · rw [if_neg h] at h4; cases h4
  · rename_i a vs ds h r k
    split at h4
    · rename_i hc
      cases h4
      simp only [Bool.and_eq_true, Bool.not_eq_true', decide_eq_true_eq] at hc
      obtain ⟨c1, c2, c3, c4⟩ := hc
      refine .inr ⟨_, _, _, rfl, rfl, sqT_mono h3 h, fun e => ?_, c2, c3, by rw [r.length]; exact c4, fun p hp => g.2 _ _ _ hp fun w' gr e => .tup (SqT.of e) ((r.repT _).mono gr)⟩
      have e2 := (relDs_nil r).mp e
      subst e2
      cases c1
    · cases h4
theorem op_modD : OpD X (binaryOp .Mod) (opD .Mod) := op_intD op_mod (fun i j z e => by simp [opD] at e; exact ⟨e.1, e.2.symm⟩) (int_only (by decide) (by decide))
theorem op_fdivD : OpD X (binaryOp .FloorDiv) (opD .FloorDiv) := op_intD op_fdiv (fun i j z e => by simp [opD] at e; exact ⟨e.1, e.2.symm⟩) (int_only (by decide) (by decide))
theorem op_powD : OpD X (binaryOp .Pow) (opD .Pow) := op_intD op_pow (fun i j z e => by simp [opD] at e; exact ⟨powOk_c e.1, e.2.symm⟩) (int_only (by decide) (by decide))
theorem op_shlD : OpD X (binaryOp .LShift) (opD .LShift) := op_intD op_shl (fun i j z e => by simp [opD] at e; exact ⟨powOk_c e.1, e.2.symm⟩) (int_only (by decide) (by decide))
theorem op_shrD : OpD X (binaryOp .RShift) (opD .RShift) := op_intD op_shr (fun i j z e => by simp [opD] at e; exact ⟨e.1, e.2.symm⟩) (int_only (by decide) (by decide))
theorem op_andD : OpD X (binaryOp .BitAnd) (opD .BitAnd) := op_intD (rI_of op_and) (fun i j z e => by simp [opD] at e; exact ⟨trivial, e.symm⟩) (int_only (by decide) (by decide))
theorem op_orD : OpD X (binaryOp .BitOr) (opD .BitOr) := op_intD (rI_of op_or) (fun i j z e => by simp [opD] at e; exact ⟨trivial, e.symm⟩) (int_only (by decide) (by decide))
theorem op_xorD : OpD X (binaryOp .BitXor) (opD .BitXor) := op_intD (rI_of op_xor) (fun i j z e => by simp [opD] at e; exact ⟨trivial, e.symm⟩) (int_only (by decide) (by decide))
theorem op_noneD {op : Operator} {f : Value → Value → Sem Value} (h : ∀ x y, opD op x y = none) : OpD X f (opD op) := by
  intro pins s σ H v u a b Q I ra rb ⟨w, x, y, z, h1, h2, h3, h4, h5⟩
  rw [h] at h4; cases h4
theorem op_D (op : Operator) : OpD X (binaryOp op) (opD op) := by
  cases op with
  | Add => exact op_addD
  | Sub => exact op_subD
  | Mult => exact op_mulD
  | Mod => exact op_modD
  | FloorDiv => exact op_fdivD
  | Pow => exact op_powD
  | LShift => exact op_shlD
  | RShift => exact op_shrD
  | BitAnd => exact op_andD
  | BitOr => exact op_orD
  | BitXor => exact op_xorD
  | MatMult => exact op_noneD fun x y => by cases x <;> cases y <;> rfl
  | Div => exact op_noneD fun x y => by cases x <;> cases y <;> rfl
/-- a comparison that computes g -/
def CmD (X : Cx) (f : Value → Value → Sem Value) (g : D → D → Option Bool) : Prop :=
  OpR X f fun v u H Q => ∃ w x y z, Sees (ct X) w H v x ∧ Sees (ct X) w H u y ∧ (∀ a o, w.F a = some o → H a = some o) ∧ g x y = some z ∧ Q (.bl z) H
theorem cmD_of {f : Value → Value → Sem Value} {g : D → D → Option Bool} {r : R2} (h : OpR X f r)
    (hr : ∀ v u H Q w x y z, Sees (ct X) w H v x → Sees (ct X) w H u y → (∀ a o, w.F a = some o → H a = some o) → g x y = some z → Q (.bl z) H → r v u H Q) : CmD X f g := by
  intro pins s σ H v u a b Q I ra rb ⟨w, x, y, z, h1, h2, h3, h4, h5⟩
  exact h pins s σ H v u a b Q I ra rb (hr v u H Q w x y z h1 h2 h3 h4 h5)
theorem cm_none {f : Value → Value → Sem Value} {g : D → D → Option Bool} (h : ∀ x y, g x y = none) : CmD X f g := by
  intro pins s σ H v u a b Q I ra rb ⟨w, x, y, z, h1, h2, h3, h4, h5⟩
  rw [h] at h4; cases h4
def rLenB (b : Bool) : R2 := fun v u H Q => ∃ l l' xs ys, v = .ref l ∧ u = .ref l' ∧ H l = some (.lst xs) ∧ H l' = some (.lst ys) ∧ xs.length ≠ ys.length ∧ Q (.bl b) H
theorem op_lenE (hu : X.A.units < cLine) : OpR X (compareOp .Eq) (rLenB false) := by
  intro pins s σ H v u a b Q I ra rb ⟨l, l', xs, ys, e1, e2, h1, h2, hne, q⟩
  subst e1 e2
  cases ra
  cases rb
  obtain ⟨its, n, r, g, _⟩ := I.lst h1
  obtain ⟨its', n', r', g', _⟩ := I.lst h2
  show wpAny (model X.prog X.w) X.A (richCompare .Eq (.ref l) (.ref l')) (EP X pins σ Q) X.xe s
  exact SeqAt.RcAt.lists_lengths ⟨_, g, rfl, _, rfl⟩ ⟨_, g', rfl, _, rfl⟩ (by have a1 := r.length; have a2 := r'.length; simp; omega) hu X.prog X.w _ _ ⟨.bl false, H, I, rfl, q⟩
theorem op_lenN (hu : X.A.units < cLine) : OpR X (compareOp .NotEq) (rLenB true) := by
  intro pins s σ H v u a b Q I ra rb ⟨l, l', xs, ys, e1, e2, h1, h2, hne, q⟩
  subst e1 e2
  cases ra
  cases rb
  obtain ⟨its, n, r, g, _⟩ := I.lst h1
  obtain ⟨its', n', r', g', _⟩ := I.lst h2
  show wpAny (model X.prog X.w) X.A (richCompare .NotEq (.ref l) (.ref l')) (EP X pins σ Q) X.xe s
  exact SeqAt.RcNeAt.lists_lengths ⟨_, g, rfl, _, rfl⟩ ⟨_, g', rfl, _, rfl⟩ (by have a1 := r.length; have a2 := r'.length; simp; omega) hu X.prog X.w _ _ ⟨.bl true, H, I, rfl, q⟩
theorem lenDiff_sees {w : Wd} {H : Hp} {v u : V} {x y : D} (h1 : Sees (ct X) w H v x) (h2 : Sees (ct X) w H u y) (h : lenDiff x y = true) : ∃ l l' xs ys, v = .ref l ∧ u = .ref l' ∧ H l = some (.lst xs) ∧ H l' = some (.lst ys) ∧ xs.length ≠ ys.length := by
  cases h1 <;> cases h2 <;> simp only [lenDiff, Bool.false_eq_true, reduceCtorEq] at h
  rename_i p vs ds h1 r p' vs' ds' h1' r'
  exact ⟨_, _, _, _, rfl, rfl, h1, h1', by rw [r.length, r'.length]; exact of_decide_eq_true h⟩
theorem flat_rel {C : Ct} {F : Hp} {L : List Addr} {v : V} {x : D} (r : RelD C F L v x) (h : flatD x = true) : flatV v = true := by
  cases r <;> first | rfl | (simp [flatD] at h)
theorem flat_rels {C : Ct} {F : Hp} {L : List Addr} {vs : List V} {xs : List D} (r : RelDs C F L vs xs) (h : xs.all flatD = true) : vs.all flatV = true := by
  induction xs generalizing vs with
  | nil => cases r; rfl
  | cons x xs ih =>
    cases r with
    | cons r1 r2 =>
      simp only [List.all_cons, Bool.and_eq_true] at h ⊢
      exact ⟨flat_rel r1 h.1, ih r2 h.2⟩
theorem flat_sees {C : Ct} {w : Wd} {H : Hp} {v : V} {x : D} (r : Sees C w H v x) (h : flatD x = true) : RelD C w.F w.L v x := by
  cases r <;> first | exact .non | exact .bl _ | exact .int _ | exact .str _ | (simp [flatD] at h)
theorem eq_flat {C : Ct} {F : Hp} {L : List Addr} {v u : V} {x y : D} (r : RelD C F L v x) (r2 : RelD C F L u y) (h : flatD x = true) (h2 : flatD y = true) : eqV v u = eqF x y := by
  cases r <;> first | (simp [flatD] at h; done) | skip
  all_goals cases r2 <;> first | (simp [flatD] at h2; done) | rfl
theorem any_flat {C : Ct} {F : Hp} {L : List Addr} {vs : List V} {xs : List D} {v : V} {x : D} (r : RelDs C F L vs xs) (r1 : RelD C F L v x) (h : xs.all flatD = true) (h1 : flatD x = true) : inV v vs = xs.any fun z => eqF z x := by
  unfold inV
  induction xs generalizing vs with
  | nil => cases r; rfl
  | cons y xs ih =>
    cases r with
    | cons r2 r3 =>
      simp only [List.all_cons, Bool.and_eq_true] at h
      rw [List.any_cons, List.any_cons, ih r3 h.2, eq_flat r2 r1 h.1 h1]
theorem in_sees {w : Wd} {H : Hp} {v u : V} {x y : D} {z : Bool} (h1 : Sees (ct X) w H v x) (h2 : Sees (ct X) w H u y) (h3 : ∀ a o, w.F a = some o → H a = some o) (h : inD x y = some z) :
    (∃ p xs, u = .ref p ∧ (SqL X.K H p xs ∨ SqT X.K H p xs) ∧ flatV v = true ∧ xs.all flatV = true ∧ inV v xs = z) ∨
    (∃ d ds, Dp X.K H v d ∧ Dp X.K H u (.list ds) ∧ SeqAt.shaped d = true ∧ SeqAt.shaped (.list ds) = true ∧ (ds.any fun z => PyData.eqv z d) = z) := by
  cases h2 <;> simp only [inD, reduceCtorEq] at h
  · rename_i p vs ds hh r
    split at h
    · rename_i hf
      simp only [Bool.and_eq_true] at hf
      cases h
      have r1 := flat_sees h1 hf.1
      exact .inl ⟨_, _, rfl, .inr (sqT_mono h3 hh), flat_rel r1 hf.1, flat_rels r hf.2, any_flat r r1 hf.2 hf.1⟩
    · cases h
  · rename_i p vs ds hh r
    split at h
    · rename_i hf
      simp only [Bool.and_eq_true] at hf
      cases h
      have r1 := flat_sees h1 hf.1
      exact .inl ⟨_, _, rfl, .inl (SqL.of hh), flat_rel r1 hf.1, flat_rels r hf.2, any_flat r r1 hf.2 hf.1⟩
    · split at h
      · rename_i a bs e1 e2
        split at h
        · rename_i hb
          simp only [Bool.and_eq_true] at hb
          cases h
          exact .inr ⟨a, bs, h1.dp h3 e1, (Sees.lst hh r).dp h3 (by simp [toPy, e2]), hb.1, hb.2, rfl⟩
        · cases h
      · cases h
theorem cm_D (op : CmpOp) (hu : X.A.units + 65 < cLine) : CmD X (compareOp op) (cmpD op) := by
  have hu1 := hu
  have hu : X.A.units + 64 < cLine := Nat.lt_of_succ_lt hu1
  cases op with
  | Eq =>
    refine cmD_of ((op_eqD hu).or (op_lenE (Nat.lt_of_le_of_lt (Nat.le_add_right _ _) hu))) ?_
    intro v u H Q w x y z h1 h2 h3 h4 q
    simp only [cmpD, eqD] at h4
    by_cases hl : lenDiff x y = true
    · rw [if_pos hl] at h4
      cases h4
      obtain ⟨l, l', xs, ys, a1, a2, a3, a4, a5⟩ := lenDiff_sees h1 h2 hl
      exact .inr ⟨l, l', xs, ys, a1, a2, a3, a4, a5, q⟩
    rw [if_neg hl] at h4
    unfold eqD0 at h4
    split at h4
    · rename_i a b e1 e2
      split at h4
      · rename_i hb
        cases h4
        simp only [Bool.and_eq_true] at hb
        exact .inl ⟨a, b, h1.dp h3 e1, h2.dp h3 e2, hb.1, hb.2, q⟩
      · cases h4
    · cases h4
  | NotEq =>
    refine cmD_of ((op_neD hu).or (op_lenN (Nat.lt_of_le_of_lt (Nat.le_add_right _ _) hu))) ?_
    intro v u H Q w x y z h1 h2 h3 h4 q
    simp only [cmpD, eqD] at h4
    by_cases hl : lenDiff x y = true
    · rw [if_pos hl] at h4
      cases h4
      obtain ⟨l, l', xs, ys, a1, a2, a3, a4, a5⟩ := lenDiff_sees h1 h2 hl
      exact .inr ⟨l, l', xs, ys, a1, a2, a3, a4, a5, q⟩
    rw [if_neg hl] at h4
    unfold eqD0 at h4
    split at h4
    · rename_i a b e1 e2
      split at h4
      · rename_i hb
        cases h4
        simp only [Bool.and_eq_true] at hb
        exact .inl ⟨a, b, h1.dp h3 e1, h2.dp h3 e2, hb.1, hb.2, q⟩
      · cases h4
    · cases h4
  | Lt =>
    refine cmD_of op_lt ?_
    intro v u H Q w x y z h1 h2 h3 h4 q
    cases h1 <;> cases h2 <;> simp [cmpD] at h4
    subst h4; exact ⟨_, _, rfl, rfl, q⟩
  | LtE =>
    refine cmD_of op_le ?_
    intro v u H Q w x y z h1 h2 h3 h4 q
    cases h1 <;> cases h2 <;> simp [cmpD] at h4
    subst h4; exact ⟨_, _, rfl, rfl, q⟩
  | Gt =>
    refine cmD_of op_gt ?_
    intro v u H Q w x y z h1 h2 h3 h4 q
    cases h1 <;> cases h2 <;> simp [cmpD] at h4
    subst h4; exact ⟨_, _, rfl, rfl, q⟩
  | GtE =>
    refine cmD_of op_ge ?_
    intro v u H Q w x y z h1 h2 h3 h4 q
    cases h1 <;> cases h2 <;> simp [cmpD] at h4
    subst h4; exact ⟨_, _, rfl, rfl, q⟩
  | Is =>
    refine cmD_of (op_isN.or op_isBl) ?_
    intro v u H Q w x y z h1 h2 h3 h4 q
    cases h1 <;> cases h2 <;> simp [cmpD] at h4 <;> subst h4 <;> first | exact .inl ⟨rfl, by simpa using q⟩ | exact .inr ⟨_, _, rfl, rfl, by simpa using q⟩
  | IsNot =>
    refine cmD_of (op_notN.or op_notBl) ?_
    intro v u H Q w x y z h1 h2 h3 h4 q
    cases h1 <;> cases h2 <;> simp [cmpD] at h4 <;> first | (subst h4; exact .inl ⟨rfl, by simpa using q⟩) | (refine .inr ⟨_, _, rfl, rfl, ?_⟩; rw [h4]; simpa using q)
  | In =>
    refine cmD_of (op_in_seq.or (op_inD hu1)) ?_
    intro v u H Q w x y z h1 h2 h3 h4 q
    rcases in_sees h1 h2 h3 (show inD x y = some z from h4) with ⟨p, xs, e1, e2, e3, e4, e5⟩ | ⟨d, ds, e1, e2, e3, e4, e5⟩
    · exact .inl ⟨p, xs, e1, e2, e3, e4, by rw [if_neg Bool.false_ne_true, e5]; exact q⟩
    · exact .inr ⟨d, ds, e1, e2, e3, e4, by rw [e5]; exact q⟩
  | NotIn =>
    refine cmD_of (op_notIn_seq.or (op_notInD hu1)) ?_
    intro v u H Q w x y z h1 h2 h3 h4 q
    obtain ⟨z', h5, rfl⟩ := Option.map_eq_some_iff.mp (show (inD x y).map (!·) = some z from h4)
    rcases in_sees h1 h2 h3 h5 with ⟨p, xs, e1, e2, e3, e4, e5⟩ | ⟨d, ds, e1, e2, e3, e4, e5⟩
    · exact .inl ⟨p, xs, e1, e2, e3, e4, by rw [if_pos rfl, e5]; exact q⟩
    · exact .inr ⟨d, ds, e1, e2, e3, e4, by rw [e5]; exact q⟩
theorem un_D (op : UnaryOp) : UnR X (unaryOp op) fun v H Q => ∃ w x z, Sees (ct X) w H v x ∧ unD op x = some z ∧ Q (match z with | .int i => .int i | _ => .non) H := by
  intro pins s σ H v u Q I r ⟨w, x, z, h1, h2, q⟩
  cases op with
  | USub =>
    cases h1 <;> simp [unD] at h2
    subst h2
    exact un_neg pins s σ H _ u Q I r ⟨_, rfl, q⟩
  | Invert =>
    cases h1 <;> simp [unD] at h2
    subst h2
    exact un_inv pins s σ H _ u Q I r ⟨_, rfl, q⟩
  | Not => cases x <;> simp [unD] at h2
  | UAdd => cases x <;> simp [unD] at h2
theorem tru_D {w : Wd} {H : Hp} {v : V} {d : D} {b : Bool} (h : Sees (ct X) w H v d) (hf : ∀ a o, w.F a = some o → H a = some o) (e : truD d = some b) : TruV X.K v H b := by
  cases h with
  | non => simp [truD] at e; subst e; rfl
  | bl b => simp [truD] at e; subst e; rfl
  | int b => simp [truD] at e; subst e; rfl
  | str b => simp [truD] at e; exact ⟨by rw [← line_eq]; exact e.1, e.2.symm⟩
  | tup h r =>
    simp [truD] at e
    have e := (Bool.not_not b).symm.trans (congrArg (!·) e.symm)
    subst e
    refine .inr (.inl ⟨_, sqT_mono hf h, ?_⟩)
    have := relDs_nil r
    rw [Bool.eq_iff_iff]
    simp [List.isEmpty_iff, this]
  | scr h => simp [truD] at e
  | ins _ _ _ _ => simp [truD] at e
  | dct0 _ => simp [truD] at e
  | lst h r =>
    simp [truD] at e
    have e := (Bool.not_not b).symm.trans (congrArg (!·) e.symm)
    subst e
    refine .inl ⟨_, SqL.of h, ?_⟩
    have := relDs_nil r
    rw [Bool.eq_iff_iff]
    simp [List.isEmpty_iff, this]
end
end Z

/-! Z4: built-in calls, subscripts, slices by values. -/
namespace Z
open PySem PySem.Spec L2
open PyProof.Rows hiding St

section
variable {X : Cx}
def tyN : Ty → String
  | .bool => "bool" | .int => "int" | .str => "str" | .list => "list" | .tuple => "tuple" | .dict => "dict"
theorem sqT_ty {K : PySem.W.Frag} {H : Hp} {a : Addr} {vs : List V} (h : SqT K H a vs) : TyX K H (.ref a) (.type "tuple") := by
  rcases h with (h | ⟨o, h⟩) | ⟨o, its, n, h, c, _⟩
  · exact .base (.tup h)
  · exact .fTuple h
  · exact .kTuple h c
theorem kit_all : ∀ t : Ty, kitB "NoneType" (tyN t) = some false ∧ kitB "bool" (tyN t) = some (decide (t = .bool ∨ t = .int)) ∧ kitB "int" (tyN t) = some (decide (t = .int)) ∧ kitB "str" (tyN t) = some (decide (t = .str)) ∧
    kitB "list" (tyN t) = some (decide (t = .list)) ∧ kitB "tuple" (tyN t) = some (decide (t = .tuple)) ∧ kitB "dict" (tyN t) = some (decide (t = .dict)) := by
  intro t
  cases t <;> decide +kernel
theorem isi_D {w : Wd} {H : Hp} {v : V} {x : D} {t : Ty} {b : Bool} (h : Sees (ct X) w H v x) (hf : ∀ a o, w.F a = some o → H a = some o) (e : isiD x t = some b) :
    ∃ u, TyX X.K H v u ∧ PySem.W.kitOne X.K u (.type (tyN t)) = some b := by
  obtain ⟨k0, k1, k2, k3, k4, k5, k6⟩ := kit_all t
  cases h with
  | non => simp only [isiD, Option.some.injEq] at e; subst e; exact ⟨_, .base .non, kit_ty k0⟩
  | bl b => simp only [isiD, Option.some.injEq] at e; subst e; exact ⟨_, .base (.bl _), kit_ty k1⟩
  | int b => simp only [isiD, Option.some.injEq] at e; subst e; exact ⟨_, .base (.int _), kit_ty k2⟩
  | str b => simp only [isiD, Option.some.injEq] at e; subst e; exact ⟨_, .base (.str _), kit_ty k3⟩
  | tup h r => simp only [isiD, Option.some.injEq] at e; subst e; exact ⟨_, sqT_ty (sqT_mono hf h), kit_ty k5⟩
  | lst h r => simp only [isiD, Option.some.injEq] at e; subst e; exact ⟨_, .base (.lst h), kit_ty k4⟩
  | scr h => simp [isiD] at e
  | ins _ _ _ _ => simp [isiD] at e
  | dct0 h => simp only [isiD, Option.some.injEq] at e; subst e; exact ⟨_, .base (.dK h), kit_ty k6⟩
/-- a subscript -/
theorem ix_eq {n : Nat} {i : Int} : ixN n i = L2.ixN n i := rfl
theorem sub_D : IxR X fun v u H Q => ∃ w x y z, Sees (ct X) w H v x ∧ Sees (ct X) w H u y ∧ (∀ a o, w.F a = some o → H a = some o) ∧ subD x y = some z ∧ Gives (ct X) w H z Q := by
  intro value slice pins s σ H v u a b Q I ra rb ⟨w, x, y, z, h1, h2, h3, h4, g⟩ hs
  refine ix_seq value slice pins s σ H v u a b Q I ra rb ?_ hs
  cases h2 <;> simp [subD] at h4
  rename_i i
  cases h1 <;> simp only [reduceCtorEq] at h4
  · rename_i z
    by_cases hz : z.length ≤ line
    · rw [if_pos hz] at h4
      rw [← Array.length_toList] at h4
      simp only [← Array.getElem?_toList] at h4
      cases e : ixN z.cps.toList.length i with
      | none => rw [e] at h4; simp at h4
      | some j =>
        rw [e] at h4
        simp only [Option.bind_some, Option.map_eq_some_iff] at h4
        obtain ⟨c, h5, h6⟩ := h4
        subst h6
        refine .inr (.inr ⟨_, _, c, rfl, rfl, by rw [sizeLine_eq]; exact hz, ?_, g.sc fun _ _ => .str _⟩)
        unfold atI
        rw [← ix_eq, e]
        exact h5
    · rw [if_neg hz] at h4; simp at h4
  · rename_i p vs ds h r
    cases e : ixN ds.length i with
    | none => rw [e] at h4; simp at h4
    | some j =>
      rw [e] at h4
      simp at h4
      obtain ⟨v', h5, h6⟩ := r.get h4
      refine .inr (.inl ⟨_, _, _, v', rfl, rfl, sqT_mono h3 h, ?_, g.1 _ fun w' gr _ => h6.mono gr⟩)
      unfold atI
      rw [r.length, ← ix_eq, e]
      exact h5
  · rename_i p vs ds h r
    cases e : ixN ds.length i with
    | none => rw [e] at h4; simp at h4
    | some j =>
      rw [e] at h4
      simp at h4
      obtain ⟨v', h5, h6⟩ := r.get h4
      refine .inl ⟨_, _, _, v', rfl, rfl, SqL.of h, ?_, g.1 _ fun w' gr _ => h6.mono gr⟩
      unfold atI
      rw [r.length, ← ix_eq, e]
      exact h5
  · rename_i p ns h
    cases e : ixN ns.length i with
    | none => rw [e] at h4; simp at h4
    | some j =>
      rw [e] at h4
      simp at h4
      obtain ⟨n, h5, h6⟩ := h4
      subst h6
      refine .inl ⟨_, _, _, .int n, rfl, rfl, sqL_mono h3 h, ?_, g.sc fun _ _ => .int n⟩
      unfold atI
      rw [List.length_map, ← ix_eq, e]
      simp [h5]
/-- a slice -/
theorem cut_map {α β : Type} (f : α → β) (xs : List α) (lo hi : Option Int) : cut (xs.map f) lo hi = (cut xs lo hi).map f := by
  unfold cut
  rw [List.length_map, List.map_take, List.map_drop]
theorem ints_rel {C : Ct} {F : Hp} {L : List Addr} : ∀ ns : List Int, RelDs C F L (ns.map V.int) (ns.map D.int)
  | [] => .nil
  | n :: ns => .cons (.int n) (ints_rel ns)
theorem six_eq {n d : Nat} {o : Option Int} : sIx n d o = HT.sIx n d o := by cases o <;> rfl
theorem cut_rel {C : Ct} {F : Hp} {L : List Addr} {vs : List V} {ds : List D} (r : RelDs C F L vs ds) (lo hi : Option Int) : RelDs C F L (cutV vs lo hi) (cut ds lo hi) := by
  unfold cutV cut
  rw [r.length, six_eq, six_eq]
  exact (r.drop _).take _
theorem slc_D : SlR X fun v lo hi H Q => ∃ w x z, Sees (ct X) w H v x ∧ (∀ a o, w.F a = some o → H a = some o) ∧ slcD x lo hi = some z ∧ Gives (ct X) w H z Q := by
  intro pins s σ H v a vl vu lo hi sl Q I ra hs pl pu ⟨w, x, z, h1, h3, h4, g⟩
  cases h1 <;> simp [slcD] at h4
  · rename_i t
    obtain ⟨h5, h4⟩ := h4
    subst h4
    refine sl_str pins s σ H _ a vl vu lo hi sl Q I ra hs pl pu ⟨t, rfl, by rw [← line_eq]; exact h5, ?_⟩
    have e : cutS t lo hi = (⟨(cut t.cps.toList lo hi).toArray⟩ : Str) := by
      unfold cutS cut
      rw [Array.length_toList]
      simp only [six_eq]
      rfl
    rw [e]
    exact g.sc fun _ _ => .str _
  · rename_i p vs ds h r
    subst h4
    refine sl_tupA pins s σ H _ a vl vu lo hi sl Q I ra hs pl pu ⟨_, _, rfl, sqT_mono h3 h, fun e => ?_, fun _ q hq => g.2 _ _ _ hq fun w' gr e => .tup (SqT.of e) ((cut_rel r lo hi).mono gr)⟩
    refine g.1 _ fun w' gr _ => .tup (sqT_mono gr.f h) ?_
    have e2 : cut ds lo hi = ds := by
      unfold cut
      rw [six_eq, six_eq, ← r.length, e.1, e.2, List.drop_zero, Nat.sub_zero, r.length, List.take_length]
    rw [e2]
    exact r.mono gr
  · rename_i p vs ds h r
    subst h4
    exact sl_list pins s σ H _ a vl vu lo hi sl Q I ra hs pl pu ⟨_, _, rfl, SqL.of h, fun q hq => g.2 _ _ _ hq fun w' gr e => .lst e ((cut_rel r lo hi).mono gr)⟩
  · rename_i p ns h
    subst h4
    refine sl_list pins s σ H _ a vl vu lo hi sl Q I ra hs pl pu ⟨_, _, rfl, sqL_mono h3 h, fun q hq => g.2 _ _ _ hq fun w' gr e => .lst e ?_⟩
    have e2 : cutV (ns.map V.int) lo hi = (cut ns lo hi).map V.int := by
      rw [← cut_map]
      unfold cutV cut
      rw [six_eq, six_eq]
    rw [e2]
    exact ints_rel _
/-- the built-in calls of one argument -/
def biN : BI → String
  | .len => "len" | .sum => "sum" | .all => "all" | .any => "any" | .abs => "abs" | .int => "int" | .tuple => "tuple" | .maxL => "max" | .minL => "min"
def biV : BI → Value
  | .int => .type "int" | .tuple => .type "tuple" | f => .builtin (biN f)
theorem bi_D (f : BI) (hc : X.calm = true) : CallR X (biV f) fun vs H Q => ∃ w v x z, vs = [v] ∧ Sees (ct X) w H v x ∧ (∀ a o, w.F a = some o → H a = some o) ∧ biD f x = some z ∧ Gives (ct X) w H z Q := by
  intro pins s σ H vs us Q I rv ⟨w, v, x, z, e, h1, h3, h4, g⟩
  subst e
  cases f with
  | len =>
    by_cases hd : ∃ kvs, x = .dct kvs
    · obtain ⟨kvs, rfl⟩ := hd
      cases h1 with
      | dct0 h =>
        simp [biD] at h4
        subst h4
        exact call_lenD pins s σ H _ us Q I rv ⟨_, [], rfl, h, g.sc fun _ _ => .int _⟩
    refine call_len pins s σ H _ us Q I rv ?_
    cases h1 <;> simp [biD] at h4
    · obtain ⟨h5, h4⟩ := h4
      subst h4
      exact ⟨_, _, rfl, ⟨by rw [← line_eq]; exact h5, rfl⟩, g.sc fun _ _ => .int _⟩
    · rename_i p vs ds h r
      subst h4
      exact ⟨_, _, rfl, .inr ⟨_, sqT_mono h3 h, rfl⟩, g.sc fun _ _ => by rw [r.length]; exact .int _⟩
    · rename_i p vs ds h r
      subst h4
      exact ⟨_, _, rfl, .inl ⟨_, SqL.of h, rfl⟩, g.sc fun _ _ => by rw [r.length]; exact .int _⟩
    · rename_i p ns h
      subst h4
      exact ⟨_, _, rfl, .inl ⟨_, sqL_mono h3 h, rfl⟩, g.sc fun _ _ => by rw [List.length_map]; exact .int _⟩
    · exact absurd ⟨_, rfl⟩ hd
  | sum =>
    refine cr_sum hc pins s σ H _ us Q I rv ?_
    cases h1 <;> simp [biD] at h4
    rename_i p vs ds h r
    obtain ⟨ns, e1, e2⟩ := h4
    subst e2
    have e3 := r.ints e1
    subst e3
    exact ⟨_, _, rfl, SqL.of h, g.sc fun _ _ => .int _⟩
  | all =>
    refine cr_all hc pins s σ H _ us Q I rv ?_
    cases h1 <;> simp [biD] at h4
    rename_i p vs ds h r
    obtain ⟨ns, e1, e2⟩ := h4
    subst e2
    have e3 := r.bls e1
    subst e3
    refine ⟨_, _, rfl, SqL.of h, ?_⟩
    have := g.sc (v := .bl (ns.all id)) fun _ _ => by simpa using RelD.bl (C := ct X) _
    exact this
  | any =>
    refine cr_any hc pins s σ H _ us Q I rv ?_
    cases h1 <;> simp [biD] at h4
    rename_i p vs ds h r
    obtain ⟨ns, e1, e2⟩ := h4
    subst e2
    have e3 := r.bls e1
    subst e3
    refine ⟨_, _, rfl, SqL.of h, ?_⟩
    have := g.sc (v := .bl (ns.any id)) fun _ _ => by simpa using RelD.bl (C := ct X) _
    exact this
  | abs =>
    refine call_abs pins s σ H _ us Q I rv ?_
    cases h1 <;> simp [biD] at h4
    subst h4
    exact ⟨_, rfl, g.sc fun _ _ => .int _⟩
  | int =>
    refine call_int1 pins s σ H _ us Q I rv ?_
    cases h1 <;> simp [biD] at h4
    · subst h4
      exact .inr ⟨_, rfl, g.sc fun _ _ => .int _⟩
    · subst h4
      exact .inl ⟨_, rfl, g.sc fun _ _ => .int _⟩
  | tuple =>
    refine call_tuple_of pins s σ H _ us Q I rv ?_
    cases h1 <;> simp [biD] at h4
    · rename_i p vs ds h r
      subst h4
      exact ⟨_, _, rfl, .inr ⟨sqT_mono h3 h, g.1 _ fun w' gr _ => .tup (sqT_mono gr.f h) (r.mono gr)⟩⟩
    · rename_i p vs ds h r
      subst h4
      exact ⟨_, _, rfl, .inl ⟨SqL.of h, fun l hl => g.2 _ _ _ hl fun w' gr e => .tup (SqT.of e) (r.mono gr)⟩⟩
  | maxL =>
    refine cr_max hc pins s σ H _ us Q I rv ?_
    cases h1 <;> simp only [biD, reduceCtorEq] at h4
    rename_i p vs ds h r
    obtain ⟨ns, e1, e2⟩ := Option.bind_eq_some_iff.mp h4
    obtain ⟨m, e3, rfl⟩ := Option.map_eq_some_iff.mp e2
    have e4 := r.ints e1
    subst e4
    refine ⟨_, ns, rfl, SqL.of h, ?_, fun m' k1 k2 => ?_⟩
    · cases ns with
      | nil => simp at e3
      | cons => simp
    · have := List.max?_eq_some_iff.mp e3
      have : m' = m := Int.le_antisymm (this.2 _ k1) (k2 _ this.1)
      subst this
      exact g.sc fun _ _ => .int _
  | minL =>
    refine cr_min hc pins s σ H _ us Q I rv ?_
    cases h1 <;> simp only [biD, reduceCtorEq] at h4
    rename_i p vs ds h r
    obtain ⟨ns, e1, e2⟩ := Option.bind_eq_some_iff.mp h4
    obtain ⟨m, e3, rfl⟩ := Option.map_eq_some_iff.mp e2
    have e4 := r.ints e1
    subst e4
    refine ⟨_, ns, rfl, SqL.of h, ?_, fun m' k1 k2 => ?_⟩
    · cases ns with
      | nil => simp at e3
      | cons => simp
    · have := List.min?_eq_some_iff.mp e3
      have : m' = m := Int.le_antisymm (k2 _ this.1) (this.2 _ k1)
      subst this
      exact g.sc fun _ _ => .int _
def bi2N : BI2 → String
  | .max => "max" | .min => "min"
theorem bi2_D (f : BI2) (hc : X.calm = true) : CallR X (.builtin (bi2N f)) fun vs H Q => ∃ w v u x y z, vs = [v, u] ∧ Sees (ct X) w H v x ∧ Sees (ct X) w H u y ∧ bi2D f x y = some z ∧ Gives (ct X) w H z Q := by
  intro pins s σ H vs us Q I r ⟨w, v, u, x, y, z, e, h1, h2, h4, g⟩
  subst e
  cases f with
  | max =>
    cases h1 <;> cases h2 <;> simp [bi2D] at h4
    subst h4
    exact call_max2 hc pins s σ H _ us Q I r ⟨_, _, rfl, g.sc fun _ _ => .int _⟩
  | min =>
    cases h1 <;> cases h2 <;> simp [bi2D] at h4
    subst h4
    exact call_min2 hc pins s σ H _ us Q I r ⟨_, _, rfl, g.sc fun _ _ => .int _⟩
end
end Z

/-! Z5: expressions, construct by construct. -/
namespace Z
open PySem PySem.Spec L2
open PyProof.Rows hiding St

section
variable {C : Ct} {W : WX} {α β γ δ ε ζ : Type} {rel : Wd → β → α → Prop} {rel2 : Wd → δ → γ → Prop} {rel3 : Wd → ζ → ε → Prop} {σ : St} {H : Hp}
theorem tM.imp {m : M α} {Q Q' : β → Hp → Prop} (h : tM C W rel m σ H Q) (hq : ∀ b H', Q b H' → Q' b H') : tM C W rel m σ H Q' := by
  obtain ⟨w, ρ, st, h⟩ := h
  exact ⟨w, ρ, st, h.imp hq⟩
/-- one run, and what follows it -/
theorem tM.one {m : M α} {k : α → M γ} {Q : δ → Hp → Prop} (h : tM C W rel2 (bind m k) σ H Q) :
    tM C W rel m σ H fun b H1 => ∃ a w ρ st, rel w b a ∧ tW C W rel2 w ρ st (k a) σ H1 Q := by
  obtain ⟨w, ρ, st, h⟩ := h
  exact ⟨w, ρ, st, h.bind.imp fun b H1 ⟨a, w1, ρ1, st1, r, _, q⟩ => ⟨a, w1, ρ1, st1, r, q⟩⟩
/-- two runs, and what follows them -/
theorem tM.two {ma : M D} {mb : M ε} {k : D → ε → M γ} {Q : δ → Hp → Prop} (h : tM C W rel2 (bind ma fun x => bind mb fun y => k x y) σ H Q) :
    tM C W (rD C) ma σ H fun v H1 => tM C W rel3 mb σ H1 fun u H2 => ∃ x y w ρ st, RelD C w.F w.L v x ∧ rel3 w u y ∧ tW C W rel2 w ρ st (k x y) σ H2 Q := by
  obtain ⟨w, ρ, st, h⟩ := h
  refine ⟨w, ρ, st, h.bind.imp fun v H1 ⟨x, w1, ρ1, st1, r, _, q⟩ => ⟨w1, ρ1, st1, q.bind.imp fun u H2 ⟨y, w2, ρ2, st2, r2, s2, q2⟩ => ⟨x, y, w2, ρ2, st2, r.mono s2.gr, r2, q2⟩⟩⟩
theorem tM.rw {m m' : M α} {Q : β → Hp → Prop} (e : m = m') (h : tM C W rel m σ H Q) : tM C W rel m' σ H Q := by rw [← e]; exact h
end

section
variable {X : Cx} {W : WX} {pos : Pos} {a b c : Expr} {ma mb mc : M D}
theorem de_bin {op : Operator} (ha : DE X W a ma) (hb : DE X W b mb) :
    DE X W (.BinOp a op b pos) (bind ma fun x => bind mb fun y => bind (viewM x) fun x => bind (viewM y) fun y => opt (opD op x y)) :=
  (pe_op (op_D op) ha hb).imp fun σ H Q h => h.two.imp fun v H1 h => h.imp fun u H2 ⟨x, y, w, ρ, st, r1, r2, q⟩ => by
    obtain ⟨z, e, q⟩ := q.viewBind.viewBind.opt
    exact ⟨w, _, _, z, sees q.1 r1, sees q.1 r2, q.1.fh, e, gives_of q⟩
theorem de_un {op : UnaryOp} (ha : DE X W a ma) : DE X W (.UnaryOp op a pos) (bind ma fun x => opt (unD op x)) :=
  (pe_un (un_D op) ha).imp fun σ H Q h => h.one.imp fun v H1 ⟨x, w, ρ, st, r, q⟩ => by
    obtain ⟨z, e, q⟩ := q.opt
    have hx : view st x = x := by cases x <;> first | rfl | simp [unD] at e
    refine ⟨w, x, z, hx ▸ sees q.1 r, e, q.ret ?_⟩
    cases x <;> simp [unD] at e
    cases op <;> simp at e <;> subst e <;> exact .int _

/-! ### tests -/
/-- the truth of what a run gives -/
def testM (m : M D) : M Bool := bind m fun x => bind (viewM x) fun x => opt (truD x)
def andM (ma mb : M D) : M D := bind ma fun x => bind (viewM x) fun v => bind (opt (truD v)) fun t => if t then mb else ret x
def orM (ma mb : M D) : M D := bind ma fun x => bind (viewM x) fun v => bind (opt (truD v)) fun t => if t then ret x else mb
def notM (ma : M D) : M D := bind ma fun x => bind (viewM x) fun x => bind (opt (truD x)) fun b => ret (.bl (!b))
theorem opt_some {α : Type} (a : α) : opt (some a) = ret a := rfl
theorem opt_none {α : Type} : (opt none : M α) = bad := rfl
theorem testM_and : testM (andM ma mb) = bind (testM ma) fun t => if t then testM mb else ret false := by
  funext ρ st
  simp only [testM, andM, bind, viewM]
  cases ma ρ st with
  | ok x ρ1 st1 =>
    simp only
    cases e : truD (view st1 x) with
    | none => rfl
    | some t =>
      cases t with
      | true => rfl
      | false => simp [opt_some, e, ret]
  | exc => rfl
  | bad => rfl
theorem testM_or : testM (orM ma mb) = bind (testM ma) fun t => if t then ret true else testM mb := by
  funext ρ st
  simp only [testM, orM, bind, viewM]
  cases ma ρ st with
  | ok x ρ1 st1 =>
    simp only
    cases e : truD (view st1 x) with
    | none => rfl
    | some t =>
      cases t with
      | false => rfl
      | true => simp [opt_some, e, ret]
  | exc => rfl
  | bad => rfl
theorem testM_not : testM (notM ma) = bind (testM ma) fun t => ret (!t) := by
  funext ρ st
  simp only [testM, notM, bind, viewM, opt, ret]
  cases ma ρ st with
  | ok x ρ1 st1 =>
    simp only
    cases e : truD (view st1 x) with
    | none => rfl
    | some t => rfl
  | exc => rfl
  | bad => rfl
theorem testM_bl {m : M Bool} : testM (bind m fun t => ret (.bl t)) = m := by
  funext ρ st
  simp only [testM, bind, viewM, opt, ret]
  cases m ρ st with
  | ok x ρ1 st1 => rfl
  | exc => rfl
  | bad => rfl
/-- a plain test: the truth of a value -/
def PlainT (X : Cx) (e : Expr) : Prop := ∀ whole, isTrue e X.env whole = (do let v ← whole; standAt e.pos; holding [v] (truthy v))
theorem dt_of (ha : DE X W a ma) (hp : PlainT X a) : DT X W a (testM ma) :=
  (pt_truth ha hp).imp fun σ H Q h => h.one.imp fun v H1 ⟨x, w, ρ, st, r, q⟩ => by
    obtain ⟨z, e, q⟩ := q.viewBind.opt
    exact ⟨z, tru_D (X := X) (sees q.1 r) q.1.fh e, q.ret rfl⟩
/-- a test, whatever its whole is -/
abbrev DW (X : Cx) (W : WX) (e : Expr) (m : M Bool) : Prop := PW X e (tM (ct X) W rB m)
theorem dw_and1 {op : BoolOp} (h : DT X W a (testM ma)) : DW X W (.BoolOp op [a] pos) (testM ma) := by
  cases op with
  | And => exact pw_and1 h
  | Or => exact pw_or1 h
theorem dw_and {rest : List Expr} (ha : DT X W a (testM ma)) (hb : DW X W (.BoolOp .And (b :: rest) pos) (testM mb)) : DW X W (.BoolOp .And (a :: b :: rest) pos) (testM (andM ma mb)) :=
  (pw_and ha hb).imp fun σ H Q h => (tM.rw testM_and h).one.imp fun t H1 ⟨t', w, ρ, st, r, q⟩ => by
    cases r
    cases t with
    | true => exact ⟨w, ρ, st, q⟩
    | false => exact q.ret rfl
theorem dw_or {rest : List Expr} (ha : DT X W a (testM ma)) (hb : DW X W (.BoolOp .Or (b :: rest) pos) (testM mb)) : DW X W (.BoolOp .Or (a :: b :: rest) pos) (testM (orM ma mb)) :=
  (pw_or ha hb).imp fun σ H Q h => (tM.rw testM_or h).one.imp fun t H1 ⟨t', w, ρ, st, r, q⟩ => by
    cases r
    cases t with
    | true => exact q.ret rfl
    | false => exact ⟨w, ρ, st, q⟩
theorem de_one {op : BoolOp} (h : DE X W a ma) : DE X W (.BoolOp op [a] pos) ma := pe_one h
theorem de_and {rest : List Expr} (ha : DE X W a ma) (hb : DE X W (.BoolOp .And (b :: rest) pos) mb) : DE X W (.BoolOp .And (a :: b :: rest) pos) (andM ma mb) :=
  (pe_andT ha hb).imp fun σ H Q h => h.one.imp fun v H1 ⟨x, w, ρ, st, r, q⟩ => by
    obtain ⟨z, e, q⟩ := q.viewBind.optBind
    refine ⟨z, tru_D (X := X) (sees q.1 r) q.1.fh e, ?_⟩
    cases z with
    | true => exact ⟨w, ρ, st, q⟩
    | false => exact q.ret r
theorem de_or {rest : List Expr} (ha : DE X W a ma) (hb : DE X W (.BoolOp .Or (b :: rest) pos) mb) : DE X W (.BoolOp .Or (a :: b :: rest) pos) (orM ma mb) :=
  (pe_orT ha hb).imp fun σ H Q h => h.one.imp fun v H1 ⟨x, w, ρ, st, r, q⟩ => by
    obtain ⟨z, e, q⟩ := q.viewBind.optBind
    refine ⟨z, tru_D (X := X) (sees q.1 r) q.1.fh e, ?_⟩
    cases z with
    | true => exact q.ret r
    | false => exact ⟨w, ρ, st, q⟩
theorem de_not (ha : DE X W a ma) : DE X W (.UnaryOp .Not a pos) (notM ma) :=
  (pe_notT ha).imp fun σ H Q h => h.one.imp fun v H1 ⟨x, w, ρ, st, r, q⟩ => by
    obtain ⟨z, e, q⟩ := q.viewBind.optBind
    exact ⟨z, tru_D (X := X) (sees q.1 r) q.1.fh e, q.ret (.bl _)⟩
theorem dt_not (ha : DT X W a (testM ma)) : DT X W (.UnaryOp .Not a pos) (testM (notM ma)) :=
  (pt_not ha).imp fun σ H Q h => (tM.rw testM_not h).one.imp fun t H1 ⟨t', w, ρ, st, r, q⟩ => by
    cases r
    exact q.ret rfl
theorem de_ite (hc : DT X W c (testM mc)) (ha : DE X W a ma) (hb : DE X W b mb) :
    DE X W (.IfExp c a b pos) (bind mc fun x => bind (viewM x) fun x => bind (opt (truD x)) fun t => if t then ma else mb) :=
  (pe_ifExp hc ha hb).imp fun σ H Q h => by
    have e : (bind mc fun x => bind (viewM x) fun x => bind (opt (truD x)) fun t => if t then ma else mb) = bind (testM mc) fun t => if t then ma else mb := by
      funext ρ st
      simp only [testM, bind, viewM, opt, ret]
      cases mc ρ st with
      | ok x ρ1 st1 => simp only
      | exc => rfl
      | bad => rfl
    refine (tM.rw e h).one.imp fun t H1 ⟨t', w, ρ, st, r, q⟩ => ?_
    cases r
    cases t with
    | true => exact ⟨w, ρ, st, q⟩
    | false => exact ⟨w, ρ, st, q⟩

/-! ### comparisons -/
def cmpM (op : CmpOp) (ma mb : M D) : M Bool := bind ma fun x => bind mb fun y => bind (viewM x) fun x => bind (viewM y) fun y => opt (cmpD op x y)
theorem cmp_read {op : CmpOp} {σ : St} {H : Hp} {Q : Bool → Hp → Prop} (h : tM (ct X) W rB (cmpM op ma mb) σ H Q) :
    tM (ct X) W (rD (ct X)) ma σ H fun v H1 => tM (ct X) W (rD (ct X)) mb σ H1 fun u H2 => ∃ w x y z, Sees (ct X) w H2 v x ∧ Sees (ct X) w H2 u y ∧ (∀ a o, w.F a = some o → H2 a = some o) ∧ cmpD op x y = some z ∧ Q z H2 :=
  h.two.imp fun v H1 h => h.imp fun u H2 ⟨x, y, w, ρ, st, r1, r2, q⟩ => by
    obtain ⟨z, e, q⟩ := q.viewBind.viewBind.opt
    exact ⟨w, _, _, z, sees q.1 r1, sees q.1 r2, q.1.fh, e, q.ret rfl⟩
theorem dt_bl {m : M Bool} {e : Expr} (h : PE X e fun σ H Q => tM (ct X) W rB m σ H fun t H' => Q (.bl t) H') : DE X W e (bind m fun t => ret (.bl t)) :=
  h.imp fun σ H Q h => h.one.imp fun t H1 ⟨t', w, ρ, st, r, q⟩ => by
    cases r
    exact q.ret (.bl _)
theorem de_cmp {op : CmpOp} (hu : X.A.units + 65 < cLine) (ha : DE X W a ma) (hb : DE X W b mb) (hm : behindInMarks op b = false) :
    DE X W (.Compare a [op] [b] pos) (bind (cmpM op ma mb) fun t => ret (.bl t)) :=
  dt_bl ((pe_cmpR (cm_D op hu) ha hb hm).imp fun σ H Q h => cmp_read h)
theorem dt_cmp {op : CmpOp} (hu : X.A.units + 65 < cLine) (ha : DE X W a ma) (hb : DE X W b mb) (hm : behindInMarks op b = false) :
    DT X W (.Compare a [op] [b] pos) (testM (bind (cmpM op ma mb) fun t => ret (.bl t))) := by
  rw [testM_bl]
  refine (pt_cmpR (cm_D op hu) ha hb hm).imp fun σ H Q h => ?_
  exact (cmp_read h).imp fun v H1 h => h.imp fun u H2 ⟨w, x, y, z, h1, h2, h3, h4, h5⟩ => ⟨w, x, y, z, h1, h2, h3, h4, z, rfl, h5⟩
/-- a < b < c -/
def chainM (op op' : CmpOp) (ma mb mc : M D) : M Bool := bind ma fun x => bind mb fun y => bind (opt (cmpD op x y)) fun t => if t then bind mc fun z => opt (cmpD op' y z) else ret false
theorem cmp_scal {op : CmpOp} {x y : D} {z : Bool} (ho : op ≠ .Eq ∧ op ≠ .NotEq ∧ op ≠ .Is ∧ op ≠ .IsNot ∧ op ≠ .In ∧ op ≠ .NotIn) (e : cmpD op x y = some z) : ∃ i j, x = .int i ∧ y = .int j := by
  cases op <;> simp at ho <;> cases x <;> cases y <;> simp [cmpD] at e <;> exact ⟨_, _, rfl, rfl⟩
theorem chain_read {op op' : CmpOp} (h1 : op ≠ .Eq ∧ op ≠ .NotEq ∧ op ≠ .Is ∧ op ≠ .IsNot ∧ op ≠ .In ∧ op ≠ .NotIn) (h2 : op' ≠ .Eq ∧ op' ≠ .NotEq ∧ op' ≠ .Is ∧ op' ≠ .IsNot ∧ op' ≠ .In ∧ op' ≠ .NotIn) {σ : St} {H : Hp} {Q : Bool → Hp → Prop} (h : tM (ct X) W rB (chainM op op' ma mb mc) σ H Q) :
    tChain (fun v u H Q => ∃ w x y z, Sees (ct X) w H v x ∧ Sees (ct X) w H u y ∧ (∀ a o, w.F a = some o → H a = some o) ∧ cmpD op x y = some z ∧ Q (.bl z) H)
      (fun v u H Q => ∃ w x y z, Sees (ct X) w H v x ∧ Sees (ct X) w H u y ∧ (∀ a o, w.F a = some o → H a = some o) ∧ cmpD op' x y = some z ∧ Q (.bl z) H)
      (tM (ct X) W (rD (ct X)) ma) (tM (ct X) W (rD (ct X)) mb) (tM (ct X) W (rD (ct X)) mc) σ H fun v H' => ∃ t, v = .bl t ∧ Q t H' := by
  refine h.two.imp fun v H1 h => h.imp fun u H2 ⟨x, y, w, ρ, st, r1, r2, q⟩ => ?_
  obtain ⟨z, e, q⟩ := q.optBind
  obtain ⟨i, j, rfl, rfl⟩ := cmp_scal h1 e
  cases r1
  cases r2
  refine ⟨w, _, _, z, .int i, .int j, q.1.fh, e, z, rfl, ?_⟩
  cases z with
  | true =>
    rw [if_pos rfl] at q ⊢
    refine ⟨w, ρ, st, q.bind.imp fun t H3 ⟨d, w1, ρ1, st1, r, s, q⟩ => ?_⟩
    obtain ⟨z2, e2, q2⟩ := q.opt
    obtain ⟨i', j', e1, rfl⟩ := cmp_scal h2 e2
    cases e1
    cases r
    exact ⟨w1, _, _, z2, .int _, .int _, q2.1.fh, e2, z2, rfl, q2.ret (rel := rB) rfl⟩
  | false =>
    rw [if_neg Bool.false_ne_true] at q ⊢
    exact ⟨false, rfl, q.ret rfl⟩
/-- kinds of order, for chains -/
def Ordr (op : CmpOp) : Prop := op ≠ .Eq ∧ op ≠ .NotEq ∧ op ≠ .Is ∧ op ≠ .IsNot ∧ op ≠ .In ∧ op ≠ .NotIn
theorem de_chain {op op' : CmpOp} (h1 : Ordr op) (h2 : Ordr op') (hu : X.A.units + 65 < cLine) (ha : DE X W a ma) (hb : DE X W b mb) (hc : DE X W c mc) (hm : lastMarks [op, op'] [b, c] = false) :
    DE X W (.Compare a [op, op'] [b, c] pos) (bind (chainM op op' ma mb mc) fun t => ret (.bl t)) := by
  refine dt_bl ((pe_chain (cm_D op hu) (cm_D op' hu) ha hb hc hm).imp fun σ H Q h => ?_)
  have q := chain_read h1 h2 h
  unfold tChain at q ⊢
  refine tM.imp q fun v H1 h => tM.imp h fun u H2 ⟨w, x, y, z, a1, a2, a3, a4, k, e, q⟩ => ⟨w, x, y, z, a1, a2, a3, a4, k, e, ?_⟩
  cases k with
  | true =>
    rw [if_pos rfl] at q ⊢
    refine tM.imp q fun t H3 ⟨w, x, y, z, b1, b2, b3, b4, t', e, q⟩ => ⟨w, x, y, z, b1, b2, b3, b4, ?_⟩
    cases e; exact q
  | false =>
    rw [if_neg Bool.false_ne_true] at q ⊢
    obtain ⟨t', e, q⟩ := q
    cases e; exact q
theorem dt_chain {op op' : CmpOp} (h1 : Ordr op) (h2 : Ordr op') (hu : X.A.units + 65 < cLine) (ha : DE X W a ma) (hb : DE X W b mb) (hc : DE X W c mc) (hm : lastMarks [op, op'] [b, c] = false) :
    DT X W (.Compare a [op, op'] [b, c] pos) (testM (bind (chainM op op' ma mb mc) fun t => ret (.bl t))) := by
  rw [testM_bl]
  exact (pt_chain (cm_D op hu) (cm_D op' hu) ha hb hc hm).imp fun σ H Q h => chain_read h1 h2 h

/-! ### argument lists, displays, slices -/
variable {es : List Expr} {ms : M (List D)}
theorem ds_nil : DEs X W [] (ret []) := pa_nil.imp fun σ H Q ⟨w, ρ, st, q⟩ => q.ret .nil
theorem ds_cons (ha : DE X W a ma) (hr : DEs X W es ms) (hs : starEach (a :: es) X.env = (false, eval a X.env) :: starEach es X.env) : DEs X W (a :: es) (bind ma fun d => bind ms fun ds => ret (d :: ds)) :=
  (pa_cons ha hr hs).imp fun σ H Q h => h.two.imp fun v H1 h => h.imp fun vs H2 ⟨x, y, w, ρ, st, r1, r2, q⟩ => q.ret (.cons r1 r2)
abbrev DKs (X : Cx) (W : WX) (ks : List Keyword) (m : M (List D)) : Prop := PK X ks (tM (ct X) W (rDs (ct X)) m)
theorem dk_nil : DKs X W [] (ret []) := pk_nil.imp fun σ H Q ⟨w, ρ, st, q⟩ => q.ret .nil
theorem dk_cons {nm : Option Str} {kp : Pos} {ks : List Keyword} (ha : DE X W a ma) (hr : DKs X W ks ms) : DKs X W (⟨nm, a, kp⟩ :: ks) (bind ma fun d => bind ms fun ds => ret (d :: ds)) :=
  (pk_cons ha hr).imp fun σ H Q h => h.two.imp fun v H1 h => h.imp fun vs H2 ⟨x, y, w, ρ, st, r1, r2, q⟩ => q.ret (.cons r1 r2)
theorem tW.fits {C : Ct} {δ γ : Type} {rel2 : Wd → δ → γ → Prop} {w : Wd} {ρ : Env} {st : Store} {σ : St} {H : Hp} {xs : List D} {k : List D → M γ} {Q : δ → Hp → Prop} (h : tW C W rel2 w ρ st (Z.bind (Z.fits xs) k) σ H Q) : xs.length ≤ sizeLine ∧ tW C W rel2 w ρ st (k xs) σ H Q := by
  unfold Z.fits at h
  split at h
  · rename_i hl
    exact ⟨by rw [← line_eq]; exact hl, h⟩
  · exact h.2.2.elim
theorem de_tup {k : Nat} (h : DEs X W es ms) : DE X W (.Tuple es k pos) (bind ms fun ds => bind (fits ds) fun ds => ret (.tup ds)) :=
  (pe_tup h).imp fun σ H Q h => h.one.imp fun vs H1 ⟨ds, w, ρ, st, r, q⟩ => by
    obtain ⟨hl, q⟩ := q.fits
    exact ⟨by rw [r.length]; exact hl, fun p hp => (gives_of q).2 _ p _ hp fun w' gr e => .tup (SqT.of e) (RelDs.mono gr r)⟩
theorem do_none : DO X W none (ret none) := ⟨fun pins s σ H Q I ⟨w, ρ, st, q⟩ => po_none.run pins s σ H Q I (q.ret rfl)⟩
theorem do_some (ha : DE X W a ma) : DO X W (some a) (bind ma fun d => match d with | .int i => ret (some i) | _ => bad) :=
  (po_some ha).imp fun σ H Q h => h.one.imp fun v H1 ⟨x, w, ρ, st, r, q⟩ => by
    cases r with
    | int i => exact ⟨i, rfl, q.ret rfl⟩
    | _ => exact q.2.2.elim
theorem de_sub (ha : DE X W a ma) (hb : DE X W b mb) (hs : PlainIx b) : DE X W (.Subscript a b pos) (bind ma fun x => bind mb fun y => bind (viewM x) fun x => opt (subD x y)) :=
  (pe_ix sub_D ha hb hs).imp fun σ H Q h => h.two.imp fun v H1 h => h.imp fun u H2 ⟨x, y, w, ρ, st, r1, r2, q⟩ => by
    obtain ⟨z, e, q⟩ := q.viewBind.opt
    have hy : view st y = y := by cases y <;> first | rfl | simp [subD] at e
    exact ⟨w, _, y, z, sees q.1 r1, hy ▸ sees q.1 r2, q.1.fh, e, gives_of q⟩
theorem de_slc {lo hi : Option Expr} {ml mh : M (Option Int)} {p2 : Pos} (ha : DE X W a ma) (hl : DO X W lo ml) (hh : DO X W hi mh) :
    DE X W (.Subscript a (.Slice lo hi none p2) pos) (bind ma fun x => bind ml fun l => bind mh fun h => bind (viewM x) fun x => opt (slcD x l h)) :=
  (pe_slice slc_D ha hl hh).imp fun σ H Q ⟨w, ρ, st, h⟩ => by
    refine ⟨w, ρ, st, h.bind.imp fun v H1 ⟨x, w1, ρ1, st1, r, _, q⟩ => ?_⟩
    refine ⟨w1, ρ1, st1, q.bind.imp fun l H2 ⟨l', w2, ρ2, st2, e1, s2, q⟩ => ?_⟩
    refine ⟨w2, ρ2, st2, q.bind.imp fun u H3 ⟨u', w3, ρ3, st3, e2, s3, q⟩ => ?_⟩
    cases e1
    cases e2
    obtain ⟨z, e, q⟩ := q.viewBind.opt
    exact ⟨w3, _, z, sees q.1 ((RelD.mono s2.gr r).mono s3.gr), q.1.fh, e, gives_of q⟩

/-! ### built-in calls -/
/-- a built-in's name -/
structure BName (X : Cx) (x : Str) (u : Value) : Prop where
  gl : Gl X x
  mg : X.mg x = none
  bt : bootBuiltins x = some u
  nn : x ≠ "__name__"
  nd : (x == ("__debug__" : Str)) = false
theorem callV {x : Str} {u : Value} {p : Pos} {e : Expr} {es : List Expr} {t : TA} {r : List V → Hp → VK → Prop} (hn : BName X x u) (hty : (∃ id, u = .builtin id) ∨ ∃ T, u = .type T) (hc : CallR X u r) (ha : PA X (e :: es) t)
    (he : starEach (e :: es) X.env = (false, eval e X.env) :: starEach es X.env) (hpl : (backTo pos (starEach es X.env)).any (·.1) = false) : PE X (.Call (.Name x p) (e :: es) [] pos) (tCB r t) := by
  rcases hty with ⟨id, rfl⟩ | ⟨T, rfl⟩
  · exact pe_callB hc hn.gl hn.mg hn.bt ha hn.nn hn.nd he hpl
  · exact pe_callTy hc hn.gl hn.mg hn.bt ha hn.nn hn.nd he hpl
theorem biV_ty (f : BI) : (∃ id, biV f = .builtin id) ∨ ∃ T, biV f = .type T := by cases f <;> first | exact .inl ⟨_, rfl⟩ | exact .inr ⟨_, rfl⟩
/-- no star ahead of an argument -/
def NoStar (X : Cx) (e : Expr) : Prop := ∀ es, starEach (e :: es) X.env = (false, eval e X.env) :: starEach es X.env
theorem de_bi {f : BI} {x : Str} {p : Pos} (hn : BName X x (biV f)) (hc : X.calm = true) (ha : DE X W a ma) (hs : NoStar X a) :
    DE X W (.Call (.Name x p) [a] [] pos) (bind ma fun x => bind (viewM x) fun x => opt (biD f x)) :=
  (callV hn (biV_ty f) (bi_D f hc) (pa_cons ha pa_nil (hs [])) (hs []) rfl).imp fun σ H Q h => h.one.imp fun v H1 ⟨x, w, ρ, st, r, q⟩ => by
    obtain ⟨z, e, q⟩ := q.viewBind.opt
    exact ⟨w, v, _, z, rfl, sees q.1 r, q.1.fh, e, gives_of q⟩
theorem de_bi2 {f : BI2} {x : Str} {p : Pos} (hn : BName X x (.builtin (bi2N f))) (hc : X.calm = true) (ha : DE X W a ma) (hb : DE X W b mb) (hs : NoStar X a) (hs2 : NoStar X b) :
    DE X W (.Call (.Name x p) [a, b] [] pos) (bind ma fun x => bind mb fun y => opt (bi2D f x y)) :=
  (callV hn (.inl ⟨_, rfl⟩) (bi2_D f hc) (pa_cons ha (pa_cons hb pa_nil (hs2 [])) (hs [b])) (hs [b]) (by rw [hs2 []]; rfl)).imp fun σ H Q h => h.two.imp fun v H1 h => h.imp fun u H2 ⟨x, y, w, ρ, st, r1, r2, q⟩ => by
    obtain ⟨z, e, q⟩ := q.opt
    have hx : view st x = x := by cases x <;> first | rfl | simp [bi2D] at e
    have hy : view st y = y := by cases y <;> first | rfl | (cases x <;> simp [bi2D] at e)
    exact ⟨w, v, u, x, y, z, rfl, hx ▸ sees q.1 r1, hy ▸ sees q.1 r2, e, gives_of q⟩
/-- isinstance(a, T) -/
theorem de_isi {x y : Str} {p p2 : Pos} {t : Ty} (hn : BName X x (.builtin "isinstance")) (ht : BName X y (.type (tyN t))) (ha : DE X W a ma) (hs : NoStar X a) (hs2 : NoStar X (.Name y p2)) :
    DE X W (.Call (.Name x p) [a, .Name y p2] [] pos) (bind ma fun x => bind (viewM x) fun x => bind (opt (isiD x t)) fun b => ret (.bl b)) :=
  (callV hn (.inl ⟨_, rfl⟩) call_isi (pa_cons ha (pa_cons (pe_bltn (v := .ty (tyN t)) ht.gl ht.mg ht.bt rfl ht.nn ht.nd) pa_nil (hs2 [])) (hs _)) (hs _) (by rw [hs2 []]; rfl)).imp fun σ H Q h => h.one.imp fun v H1 ⟨x, w, ρ, st, r, q⟩ => by
    obtain ⟨z, e, q⟩ := q.viewBind.optBind
    obtain ⟨u, k1, k2⟩ := isi_D (X := X) (sees q.1 r) q.1.fh e
    exact ⟨v, _, u, _, z, rfl, .ty _, k1, k2, q.ret (.bl _)⟩
end

/-! ### own defs -/
/-- what a def promises: it hands back what F computes -/
def spF (C : Ct) (n : Nat) (F : Fn) : Sp := fun vs H Q E => vs.length = n ∧ ∃ w ds st, RelSt C w H st ∧ RelDs C w.F w.L vs ds ∧ match F ds st with
  | .ok d st' => ∀ v w' H', RelSt C w' H' st' → Step w H (fun _ => False) w' H' (fun _ => False) → RelD C w'.F w'.L v d → Q v H'
  | .exc x st' => ∀ cls dd w' H', RelSt C w' H' st' → Step w H (fun _ => False) w' H' (fun _ => False) → RelX C w' H' cls dd x → E cls dd H'
  | .bad => False
theorem callE {C : Ct} {w w' : Wd} {H H' : Hp} {σ : St} {ρ : Env} (he : RelE C w H σ ρ) (s : Step w H (fun _ => False) w' H' (fun _ => False)) : RelE C w' H' σ ρ ∧ Step w H (Own σ ρ) w' H' (Own σ ρ) := by
  refine ⟨⟨he.len, fun i d h => ?_, fun i c h => ?_, he.ap⟩, s.gr, fun a o h hl _ => s.keep a o h hl (fun z => z), fun a o h => ?_, fun a h => ?_, fun a h => .inl h, s.dom⟩
  · obtain ⟨v, h1, h2⟩ := he.val i d h
    exact ⟨v, h1, h2.mono s.gr⟩
  · obtain ⟨a, h1, h2, h3, h4⟩ := he.own i c h
    obtain ⟨o, ho⟩ := h2.there
    refine ⟨a, h1, h2.mono s.gr fun u hu => s.keep a u hu h4 (fun z => z), ?_, fun z => ?_⟩
    · cases e : w'.F a with
      | none => rfl
      | some u =>
        rcases s.newF a u e with z | z | z | z
        · rw [h3] at z; cases z
        · exact z.elim
        · rw [ho] at z; cases z
        · exact absurd z h4
    · rcases s.newL a z with z | z | z
      · exact h4 z
      · exact z.elim
      · rw [ho] at z; cases z
  · rcases s.newF a o h with z | z | z
    · exact .inl z
    · exact z.elim
    · exact .inr (.inr z)
  · rcases s.newL a h with z | z | z
    · exact .inl z
    · exact z.elim
    · exact .inr (.inr z)
/-- a pattern of a call with keywords: so many by position, these names, and which of all each parameter gets -/
structure Pat where
  np : Nat
  ks : List Str
  ord : List Nat
  deriving DecidableEq
def pickV (ord : List Nat) (us : List Value) : List Value := ord.map fun i => us.getD i .none
/-- a def of the module by its name -/
structure Callee (P : Program) (W₀ : World) (C : Ct) (base : Heap) (k : Nat) (x : Str) (F : Fn) (pats : List Pat) : Prop where
  ex : ∃ (f : Addr) (fd : FuncData) (ps : List Str), C.mg x = some (.ref f) ∧ FnOk P W₀ C.K C.mg base (L2.CX P W₀) k f fd ps (spF C ps.length F) ∧ PySem.W.keepIn C.K (.ref f) = true ∧
    (∀ ds st, F ds st ≠ .bad → ds.length = ps.length) ∧ (∀ us : List Value, us.length = ps.length → bindArgs fd ⟨us, []⟩ = pure (ps.zip us)) ∧
    (∀ p ∈ pats, p.ord.length = ps.length ∧ (∀ i ∈ p.ord, i < p.np + p.ks.length) ∧ p.ord ≠ [] ∧ ∀ us ws : List Value, us.length = p.np → ws.length = p.ks.length → bindArgs fd ⟨us, p.ks.zip ws⟩ = pure (ps.zip (pickV p.ord (us ++ ws))))
theorem vals_pick {vs : List V} {us : List Value} (r : Vals vs us) {ord : List Nat} : Vals (ord.map fun i => vs.getD i .non) (pickV ord us) := by
  induction ord with
  | nil => exact .nil
  | cons i o ih =>
    refine .cons ?_ ih
    show RelV (vs.getD i .non) (us.getD i .none)
    rw [List.getD_eq_getElem?_getD, List.getD_eq_getElem?_getD]
    cases e : vs[i]? with
    | some v =>
      obtain ⟨u, h1, h2⟩ := r.get e
      rw [h1]; exact h2
    | none =>
      rw [r.none_of e]; rfl
theorem rel_pick {C : Ct} {F : Hp} {L : List Addr} {vs : List V} {ds as : List D} (r : RelDs C F L vs ds) : ∀ {ord : List Nat}, ord.mapM (fun i => ds[i]?) = some as → RelDs C F L (ord.map fun i => vs.getD i .non) as := by
  intro ord
  induction ord generalizing as with
  | nil => intro e; simp at e; subst e; exact .nil
  | cons i o ih =>
    intro e
    rw [List.mapM_cons] at e
    cases e1 : ds[i]? with
    | none => rw [e1] at e; simp at e
    | some d =>
      rw [e1] at e
      cases e2 : o.mapM (fun i => ds[i]?) with
      | none => rw [e2] at e; simp at e
      | some as' =>
        rw [e2] at e
        simp at e
        subst e
        obtain ⟨v, h1, h2⟩ := r.get e1
        refine .cons ?_ (ih e2)
        show RelD C F L (vs.getD i .non) d
        rw [List.getD_eq_getElem?_getD, h1]
        exact h2
section
variable {X : Cx} {W : WX} {pos : Pos} {x : Str} {F : Fn} {pats : List Pat} {k : Nat}
/-- the callee's run, from the caller -/
theorem run_own {pins : List (Addr × Obj)} {σ : St} {H : Hp} {s : Shared} {Q : VK} {f : Addr} {fd : FuncData} {ps : List Str} {vs : List V} {args : Args} {us : List Value} (hF : FnOk X.prog X.w X.K X.mg X.base (L2.CX X.prog X.w) k f fd ps (spF (ct X) ps.length F)) (hr : Room k X.A) (tk : Takes X W)
    (I : L2.Inv X pins σ H s) (hb : BindsTo s fd args (ps.zip us)) (rv : Vals vs us) {w : Wd} {ρ : Env} {st : Store} {ds : List D} (hl : vs.length = ps.length) (rd : RelDs (ct X) w.F w.L vs ds)
    (q : tW (ct X) W (rD (ct X)) w ρ st (callM F ds) σ H Q) : codeAny (model X.prog X.w) X.A (.call (.ref f) args) (fun r s' => match r with | .ok (.ret u) => EP X pins σ Q u s' | .ok _ => False | .error e => X.xe e s') s := by
  obtain ⟨hs, he, q⟩ := q
  refine codeAny_mono (hF.run X.A X.stack s H args us vs Q (WE W σ) hr I.env0 hb rv ⟨hl, w, ds, st, hs, rd, ?_⟩) fun r s' hq => ?_
  · unfold callM at q
    cases e : F ds st with
    | ok d st' =>
      rw [e] at q
      intro v w' H' h1 h2 h3
      obtain ⟨e1, e2⟩ := callE he h2
      exact q v w' H' h1 e1 e2 h3
    | exc y st' =>
      rw [e] at q
      intro cls dd w' H' h1 h2 h3
      obtain ⟨e1, e2⟩ := callE he h2
      exact q cls dd w' H' h1 e1 e2 h3
    | bad => rw [e] at q; exact q
  · cases r with
    | error e => exact passAt tk σ pins H s e s' I hq
    | ok fl =>
      cases fl with
      | ret u => exact I.after hq
      | next => exact hq
      | brk => exact hq
      | cont => exact hq
theorem backTo_any {pos : Pos} {es : List Expr} {env : PySem.Env} (h : (starEach es env).any (·.1) = false) : (backTo pos (starEach es env)).any (·.1) = false := by
  unfold backTo
  rw [List.any_map]
  exact h
/-- the arguments by position, none of them starred -/
def NoStars (X : Cx) (es : List Expr) : Prop := (starEach es X.env).any (·.1) = false ∧ ∀ e r, es = e :: r → starEach (e :: r) X.env = (false, eval e X.env) :: starEach r X.env
theorem NoStars.tail {e : Expr} {es : List Expr} (h : NoStars X (e :: es)) : (starEach es X.env).any (·.1) = false := by
  have h1 := h.1
  rw [h.2 e es rfl] at h1
  simpa using h1
def callD (F : Fn) (ma mk : M (List D)) (ord : List Nat) : M D := bind ma fun ds => bind mk fun ks => bind (opt (pickO (ds ++ ks) ord)) fun as => callM F as
theorem callM_len {C : Ct} {w : Wd} {ρ : Env} {st : Store} {σ : St} {H : Hp} {Q : VK} {ds : List D} {n : Nat} (hn : ∀ ds st, F ds st ≠ .bad → ds.length = n) (q : tW C W (rD C) w ρ st (callM F ds) σ H Q) : ds.length = n := by
  refine hn ds st fun e => ?_
  have := q.2.2
  unfold callM at this
  rw [e] at this
  exact this
theorem call_end {pins : List (Addr × Obj)} {σ : St} {H : Hp} {s : Shared} {Q : VK} {f : Addr} {fd : FuncData} {ps : List Str} {vs : List V} {us gs : List Value} {kw : List (Str × Value)} (hF : FnOk X.prog X.w X.K X.mg X.base (L2.CX X.prog X.w) k f fd ps (spF (ct X) ps.length F)) (hr : Room k X.A) (tk : Takes X W)
    (hn : ∀ ds st, F ds st ≠ .bad → ds.length = ps.length) (I : L2.Inv X pins σ H s) (hb : gs.length = ps.length → bindArgs fd ⟨us, kw⟩ = pure (ps.zip gs)) (rv : Vals vs gs) {w : Wd} {ρ : Env} {st : Store} {ds : List D} (rd : RelDs (ct X) w.F w.L vs ds)
    (q : tW (ct X) W (rD (ct X)) w ρ st (callM F ds) σ H Q) : wpAny (model X.prog X.w) X.A (call (.ref f) us kw) (EP X pins σ Q) X.xe s := by
  have hl : vs.length = ps.length := by rw [rd.length]; exact callM_len hn q
  refine wpAny_call (codeAny_mono (run_own hF hr tk I (.of_eq (hb (by rw [← rv.length]; exact hl))) rv hl rd q) fun r s' hq => ?_)
  cases r with
  | error e => exact hq
  | ok fl => cases fl <;> exact hq
theorem de_call0 {p : Pos} (c : Callee X.prog X.w (ct X) X.base k x F pats) (hr : Room k X.A) (tk : Takes X W) (hg : Gl X x) (hd : (x == ("__debug__" : Str)) = false) :
    DE X W (.Call (.Name x p) [] [] pos) (callD F (ret []) (ret []) []) := by
  obtain ⟨f, fd, ps, hm, hF, hk, hn, hb, _⟩ := c.ex
  refine ⟨fun pins s σ H Q I ⟨w, ρ, st, q⟩ => ?_⟩
  refine wpAny_Call_Name_kw (ld_glob I hg hm ?_ hd)
  have q : tW (ct X) W (rD (ct X)) w ρ st (callM F []) σ H Q := q
  exact PySem.W.callWith_K0 I.kIn hk (call_end hF hr tk hn I (hb []) (vs := []) .nil .nil q)
theorem de_call {p : Pos} {e : Expr} {es : List Expr} {ma : M (List D)} (c : Callee X.prog X.w (ct X) X.base k x F pats) (hr : Room k X.A) (tk : Takes X W) (hg : Gl X x) (hd : (x == ("__debug__" : Str)) = false) (ha : DEs X W (e :: es) ma) (hs : NoStars X (e :: es)) :
    DE X W (.Call (.Name x p) (e :: es) [] pos) (callD F ma (ret []) []) := by
  obtain ⟨f, fd, ps, hm, hF, hk, hn, hb, _⟩ := c.ex
  refine ⟨fun pins s σ H Q I h => ?_⟩
  refine wpAny_Call_Name_kw (ld_glob I hg hm ?_ hd)
  have h := tM.one (rel := rDs (ct X)) h
  refine PySem.W.callWith_K (h₀ := X.base) I.ok.mod.kin hk (thn (ha.run pos pins s σ H _ I h) fun us s1 ⟨vs, H1, I1, rv, ds, w, ρ, st, rd, q⟩ => ⟨I1.kIn, ?_⟩) (hs.2 e es rfl) (backTo_any hs.tail)
  have q : tW (ct X) W (rD (ct X)) w ρ st (callM F (ds ++ [])) σ H1 Q := q
  rw [List.append_nil] at q
  exact call_end hF hr tk hn I1 (hb us) rv rd q
/-- the keywords' names -/
def kwN (ks : List Keyword) : Option (List Str) := ks.mapM (·.arg)
theorem kw_facts {env : PySem.Env} {pos : Pos} : ∀ {ks : List Keyword} {ns : List Str}, kwN ks = some ns →
    (backToKw pos (keywordEach ks env)).all (·.1.isSome) = true ∧ (backToKw pos (keywordEach ks env)).filterMap (·.1) = ns ∧ (backToKw pos (keywordEach ks env)).any (·.1.isNone) = false := by
  intro ks
  induction ks with
  | nil => intro ns e; simp [kwN] at e; subst e; exact ⟨rfl, rfl, rfl⟩
  | cons a r ih =>
    intro ns e
    obtain ⟨nm, v, p⟩ := a
    unfold kwN at e ih
    rw [List.mapM_cons] at e
    cases nm with
    | none => simp at e
    | some n =>
      cases e2 : List.mapM (·.arg) r with
      | none => rw [e2] at e; simp at e
      | some ms =>
        rw [e2] at e
        simp at e
        subst e
        obtain ⟨h1, h2, h3⟩ := ih e2
        refine ⟨?_, ?_, ?_⟩
        · show (true && (backToKw pos (keywordEach r env)).all (·.1.isSome)) = true
          rw [h1]; rfl
        · show n :: (backToKw pos (keywordEach r env)).filterMap (·.1) = n :: ms
          rw [h2]
        · show (false || (backToKw pos (keywordEach r env)).any (·.1.isNone)) = false
          rw [h3]; rfl
theorem pick_some {ds as : List D} {ord : List Nat} (ho : ord ≠ []) (e : pickO ds ord = some as) : ord.mapM (fun i => ds[i]?) = some as := by
  cases ord with
  | nil => exact absurd rfl ho
  | cons i o => exact e
theorem de_callK {p : Pos} {es : List Expr} {kws : List Keyword} {ma mk : M (List D)} {pt : Pat} (c : Callee X.prog X.w (ct X) X.base k x F pats) (hr : Room k X.A) (tk : Takes X W) (hg : Gl X x) (hd : (x == ("__debug__" : Str)) = false) (ha : DEs X W es ma) (hk : DKs X W kws mk) (hs : NoStars X es)
    (hp : pt ∈ pats) (hks : kwN kws = some pt.ks) (hnp : es.length = pt.np) (hla : ∀ ρ st ds ρ' st', ma ρ st = .ok ds ρ' st' → ds.length = es.length) (hlk : ∀ ρ st ds ρ' st', mk ρ st = .ok ds ρ' st' → ds.length = kws.length) (hnil : es = [] → ma = ret []) :
    DE X W (.Call (.Name x p) es kws pos) (callD F ma mk pt.ord) := by
  obtain ⟨f, fd, ps, hm, hF, hkp, hn, _, hb⟩ := c.ex
  obtain ⟨ho, hi, hne, hb⟩ := hb pt hp
  obtain ⟨f1, f2, f3⟩ := kw_facts (env := X.env) (pos := pos) hks
  refine ⟨fun pins s σ H Q I h => ?_⟩
  refine wpAny_Call_Name_kw (ld_glob I hg hm ?_ hd)
  obtain ⟨w0, ρ0, st0, h⟩ := h
  -- the lengths are told by the runs
  have fin : ∀ {s2 : Shared} {H2 : Hp} {us ws : List Value} {vs zs : List V} {ds ks : List D} {w : Wd} {ρ : Env} {st : Store}, L2.Inv X pins σ H2 s2 → Vals vs us → Vals zs ws → RelDs (ct X) w.F w.L vs ds → RelDs (ct X) w.F w.L zs ks → ds.length = pt.np → ks.length = pt.ks.length →
      tW (ct X) W (rD (ct X)) w ρ st (bind (opt (pickO (ds ++ ks) pt.ord)) fun as => callM F as) σ H2 Q → X.K.In s2.heap ∧ wpAny (model X.prog X.w) X.A (call (.ref f) ([] ++ us) (((backToKw pos (keywordEach kws X.env)).filterMap (·.1)).zip ws)) (EP X pins σ Q) X.xe s2 := by
    intro s2 H2 us ws vs zs ds ks w ρ st I2 rv rz rd rk l1 l2 q
    obtain ⟨as, e, q⟩ := q.optBind
    refine ⟨I2.kIn, ?_⟩
    rw [f2]
    have r2 := rel_pick (rd.append rk) (pick_some hne e)
    exact call_end hF hr tk hn I2 (gs := pickV pt.ord (us ++ ws)) (fun _ => hb us ws (by rw [← rv.length, rd.length]; exact l1) (by rw [← rz.length, rk.length]; exact l2)) (vals_pick (rv.append rz)) r2 q
  have hlen2 : kws.length = pt.ks.length := by
    have : ∀ {l : List Keyword} {ns : List Str}, kwN l = some ns → l.length = ns.length := by
      intro l
      induction l with
      | nil => intro ns e; simp [kwN] at e; subst e; rfl
      | cons a r ih =>
        intro ns e
        unfold kwN at e ih
        rw [List.mapM_cons] at e
        cases e1 : a.arg with
        | none => rw [e1] at e; simp at e
        | some n =>
          cases e2 : List.mapM (·.arg) r with
          | none => rw [e1, e2] at e; simp at e
          | some ms =>
            rw [e1, e2] at e
            simp at e
            subst e
            simp [ih e2]
    exact this hks
  cases es with
  | nil =>
    have em := hnil rfl
    subst em
    have h : tW (ct X) W (rD (ct X)) w0 ρ0 st0 (bind mk fun ks => bind (opt (pickO ([] ++ ks) pt.ord)) fun as => callM F as) σ H Q := h
    exact PySem.W.callWith_KW0 (h₀ := X.base) (first := []) I.ok.mod.kin hkp f1 (thn (hk.run pos pins s σ H _ I ⟨w0, ρ0, st0, h.bindE⟩) fun ws s2 ⟨zs, H2, I2, rz, ks, w, ρ, st, ek, rk, _, q⟩ =>
      fin (us := []) (vs := []) (ds := []) I2 .nil rz .nil rk hnp ((hlk _ _ _ _ _ ek).trans hlen2) q) (by rw [f3]; rfl)
  | cons e r =>
    exact PySem.W.callWith_KW (h₀ := X.base) (first := []) I.ok.mod.kin hkp f1 (thn (ha.run pos pins s σ H _ I ⟨w0, ρ0, st0, h.bindE⟩) fun us s1 ⟨vs, H1, I1, rv, ds, w1, ρ1, st1, ea, rd, _, q1⟩ =>
      thn (hk.run pos pins s1 σ H1 _ I1 ⟨w1, ρ1, st1, q1.bindE⟩) fun ws s2 ⟨zs, H2, I2, rz, ks, w, ρ, st, ek, rk, s12, q⟩ =>
        fin I2 rv rz (RelDs.mono s12.gr rd) rk ((hla _ _ _ _ _ ea).trans hnp) ((hlk _ _ _ _ _ ek).trans hlen2) q) (by rw [f3, backTo_any hs.1]; rfl) (hs.2 e r rfl)
end
end Z

/-! Z6: targets, new lists, what is walked. -/
namespace Z
open PySem PySem.Spec L2
open PyProof.Rows hiding St

/-! ### what a term is checked against -/
/-- a class of the module by its name: how its instances are made -/
structure Maker (P : Program) (W₀ : World) (C : Ct) (base : Heap) (k : Nat) (x : Str) (F : Fn) (pats : List Pat) : Prop where
  ex : ∃ (Ca f : Addr) (fd : FuncData) (ps : List Str), C.mg x = some (.ref Ca) ∧ Mk C.K Ca f ∧ FnOk P W₀ C.K C.mg base (L2.CX P W₀) k f fd ps (spF C ps.length F) ∧
    ∀ p ∈ pats, p.ord.length + 1 = ps.length ∧ (p.ord = [] → p.np = 0 ∧ p.ks = []) ∧ ∀ (s : Value) (us ws : List Value), us.length = p.np → ws.length = p.ks.length → bindArgs fd ⟨s :: us, p.ks.zip ws⟩ = pure (ps.zip (s :: pickV p.ord (us ++ ws)))
/-- the fields that no class has as its own -/
def AtOk (C : Ct) (ats : List (Str × Str)) : Prop := ∀ c f, (c, f) ∈ ats → ∀ Ca, C.mg c = some (.ref Ca) → Cls C.K Ca ∧ NoAttr C.K Ca f
def tyNames : List String := ["NoneType", "bool", "int", "str", "tuple", "list"]
structure InsF (K : PySem.W.Frag) (Ca : Addr) : Prop where
  cl : Cls K Ca
  ha : PySem.W.findIn K (.ref Ca) "__class__" = some (some (.builtin "object.__class__"))
  hn : PySem.W.specialIn K (.builtin "object.__class__") "__get__" = some (some (.builtin "getset_descriptor.__get__"))
  ht : PySem.W.takesIn K (.builtin "object.__class__") = some true
  hm : PySem.W.mroIn K Ca (.type "object") = some true
def KlOk (C : Ct) (kls : List Str) (sub : List (Str × Str)) : Prop := ∀ x ∈ kls, ∃ Ca, C.mg x = some (.ref Ca) ∧ InsF C.K Ca ∧ (∀ T ∈ tyNames, PySem.W.kitOne C.K (.type T) (.ref Ca) = some false) ∧
  ∀ y ∈ kls, ∀ Cy, C.mg y = some (.ref Cy) → PySem.W.kitOne C.K (.ref Cy) (.ref Ca) = some (decide (y = x) || sub.contains (y, x))
/-- a class with an own __eq__ -/
structure EqC (P : Program) (W₀ : World) (C : Ct) (base : Heap) (k : Nat) (kls : List Str) (c : Str) (F : Fn) : Prop where
  ex : ∃ (Ca f : Addr) (fd : FuncData) (ps : List Str), C.mg c = some (.ref Ca) ∧ PySem.W.findIn C.K (.ref Ca) "__eq__" = some (some (.ref f)) ∧ PySem.W.isFn C.K (.ref f) = true ∧
    FnOk P W₀ C.K C.mg base (L2.CX P W₀) k f fd ps (spF C ps.length F) ∧ ps.length = 2 ∧ (∀ us : List Value, us.length = 2 → bindArgs fd ⟨us, []⟩ = pure (ps.zip us)) ∧
    (∀ T ∈ tyNames, PySem.W.notFirst C.K Ca (.type T) = true) ∧ (∀ y ∈ kls, ∀ Cy, C.mg y = some (.ref Cy) → PySem.W.notFirst C.K Ca (.ref Cy) = true) ∧ c ∈ kls ∧ PySem.W.findIn C.K (.ref Ca) "__ne__" = some (some (.builtin "object.__ne__")) ∧
    PySem.W.subIn C.K (.ref Ca) (.type "tuple") = some false ∧ PySem.W.subIn C.K (.ref Ca) (.type "NoneType") = some false
/-- what an __init__ that stores its parameters promises -/
def spInit (K : PySem.W.Frag) (fields : List Str) : Sp := fun vs H Q _ => ∃ (a C : Addr) (ws : List V), vs = .ref a :: ws ∧ OexC K C ∧ H a = some (exo a C none) ∧ ws.length = fields.length ∧ fields ≠ [] ∧ fields.length ≤ 900 ∧ (∀ f ∈ fields, PySem.W.findIn K (.ref C) f = some none) ∧
  ∀ d, H d = none → d ≠ a → Q .non (upd (upd H d (exd d (fields.zip ws).reverse)) a (exo a C (some d)))
/-- an exception's class by its name: its fields -/
structure Xc (P : Program) (W₀ : World) (C : Ct) (base : Heap) (x : Str) (fields : List Str) : Prop where
  ex : ∃ (Ca fI : Addr) (fd : FuncData) (ps : List Str), C.mg x = some (.ref Ca) ∧ OexC C.K Ca ∧ PySem.W.findIn C.K (.ref Ca) "__init__" = some (some (.ref fI)) ∧ PySem.W.typeIn C.K (.ref fI) = some (.type "function") ∧
    FnOk P W₀ C.K C.mg base CX0 1 fI fd ps (spInit C.K fields) ∧ Binds C.K fd ps [] ∧ (∀ f ∈ fields, PySem.W.findIn C.K (.ref Ca) f = some none) ∧ fields ≠ [] ∧ fields.length ≤ 900 ∧ XfC C.K Ca
/-- which exception is caught by which name -/
def XmOk (C : Ct) (xns : List Str) (exm : List (Str × Str)) : Prop := ∀ x ∈ xns, ∃ Ca, C.mg x = some (.ref Ca) ∧ ∀ y ∈ xns, ∀ Cy, C.mg y = some (.ref Cy) → PySem.W.exmOne C.K (.ref Cy) (.ref Ca) = some (exm.contains (y, x))
structure Tb where
  gn : List Str := []
  gp : List (List Pat) := []
  gc : List Str := []
  gk : List Str := []
  gkp : List (List Pat) := []
  kls : List Str := []
  xns : List Str := []
  xcs : List Str := []
  eqn : List Str := []
structure Cc extends Tb where
  sc : Scope
  fn : Str → Bool
  N : List Str
def bltNames : List Str := ["len", "sum", "all", "any", "abs", "int", "tuple", "max", "min", "isinstance", "range", "list", "bool", "str", "dict", "enumerate", "zip", "sorted", "set", "reversed"]
structure Sc (X : Cx) (c : Cc) (G : Gm) : Prop where
  sc : X.env.scope = c.sc
  fn : ∀ x, X.fn x = c.fn x
  N : X.N = c.N
  nd : c.N.Nodup
  calm : X.calm = true
  un : X.A.units + 65 < cLine
  blt : ∀ x ∈ bltNames, X.mg x = none
  fs : ∀ (j : Nat) (x : Str), c.gn[j]? = some x → ∃ F k, G.fs[j]? = some F ∧ Callee X.prog X.w (ct X) X.base k x F (c.gp.getD j []) ∧ Room k X.A
  cs : ∀ (j : Nat) (x : Str), c.gc[j]? = some x → ∃ d u v, G.cs[j]? = some d ∧ X.mg x = some u ∧ RelV v u ∧ ∀ F L, RelD (ct X) F L v d
  ms : ∀ (j : Nat) (x : Str), c.gk[j]? = some x → ∃ F k, G.mks[j]? = some (x, F) ∧ Maker X.prog X.w (ct X) X.base k x F (c.gkp.getD j []) ∧ Room (k + 1) X.A
  at_ : AtOk (ct X) G.at_
  kl : KlOk (ct X) G.kls G.sub
  kle : G.kls = c.kls
  xm : XmOk (ct X) G.xns G.exm
  xne : G.xns = c.xns
  xc : ∀ (j : Nat) (x : Str), c.xcs[j]? = some x → ∃ fields, G.exs[j]? = some (x, fields) ∧ Xc X.prog X.w (ct X) X.base x fields ∧ Room 2 X.A
  eq : ∀ (j : Nat) (x : Str), c.eqn[j]? = some x → ∃ F k, G.eqs[j]? = some (x, F) ∧ EqC X.prog X.w (ct X) X.base k G.kls x F ∧ Room (k + 1) X.A
def visB (c : Cc) (x : Str) : Bool := match c.sc.names.lookup x with
  | some .local => true | some .cell => true | some .free => true | _ => false
def locB (c : Cc) (x : Str) : Bool := match c.sc.names.lookup x with
  | some .local => true | some .cell => c.fn x | _ => false
def glB (c : Cc) (x : Str) : Bool := match c.sc.names.lookup x with
  | some .globalImplicit => true | _ => false
def okN (x : Str) : Bool := !(x == ("__debug__" : Str)) && (!(x == ("__classdict__" : Str)) && !(x == ("__name__" : Str)))
section
variable {X : Cx} {c : Cc} {G : Gm}
theorem Sc.vis (S : Sc X c G) {x : Str} (h : visB c x = true) : Vis X.env.scope x := by
  unfold visB at h
  unfold Vis
  rw [S.sc]
  split at h
  · exact .inl (by assumption)
  · exact .inr (.inl (by assumption))
  · exact .inr (.inr (by assumption))
  · cases h
theorem Sc.loc (S : Sc X c G) {x : Str} (h : locB c x = true) : L2.Loc X.env.scope x ∧ (X.fn x = true ∨ X.env.scope.names.lookup x = some .local) := by
  unfold locB at h
  unfold L2.Loc
  rw [S.sc, S.fn]
  split at h
  · exact ⟨.inl (by assumption), .inr (by assumption)⟩
  · exact ⟨.inr (by assumption), .inl h⟩
  · cases h
theorem Sc.gl (S : Sc X c G) {x : Str} (h : glB c x = true) : Gl X x := by
  unfold glB at h
  show X.env.scope.names.lookup x = some .globalImplicit
  rw [S.sc]
  split at h
  · assumption
  · cases h
theorem okN_d {x : Str} (h : okN x = true) : (x == ("__debug__" : Str)) = false ∧ (x == ("__classdict__" : Str)) = false ∧ x ≠ "__name__" := by
  unfold okN at h
  simp only [Bool.and_eq_true, Bool.not_eq_true'] at h
  exact ⟨h.1, h.2.1, fun e => by rw [e] at h; exact absurd h.2.2 (by simp)⟩
theorem Sc.bn (S : Sc X c G) {x : Str} {u : Value} (h1 : glB c x = true) (h2 : x ∈ bltNames) (h3 : bootBuiltins x = some u) (h4 : okN x = true) : BName X x u :=
  ⟨S.gl h1, S.blt x h2, h3, (okN_d h4).2.2, (okN_d h4).1⟩
end

/-! ### targets -/
mutual
def tgS : Tg → List Nat
  | .nm i => [i]
  | .tp ts => tgsS ts
def tgsS : Tgs → List Nat
  | .nil => []
  | .cons t r => tgS t ++ tgsS r
end
def noStar : Expr → Bool
  | .Starred _ _ => false
  | _ => true
mutual
def chkT (c : Cc) : Tg → Expr → Bool
  | .nm i, .Name x _ => decide (c.N[i]? = some x) && locB c x
  | .tp ts, .Tuple es _ _ => chkTs c ts es
  | _, _ => false
def chkTs (c : Cc) : Tgs → List Expr → Bool
  | .nil, [] => true
  | .cons t r, e :: es => noStar e && (chkT c t e && chkTs c r es)
  | _, _ => false
end
theorem setE {C : Ct} {w : Wd} {H : Hp} {σ : St} {ρ : Env} {i : Nat} {v : V} {d : D} (he : RelE C w H σ ρ) (r : RelD C w.F w.L v d) : RelE C w H (σ.set i (some v)) (ρ.set i (.val d)) := by
  refine ⟨by simp [he.len], fun j e h => ?_, fun j e h => ?_, fun j k c1 c2 a h1 h2 h3 h4 => ?_⟩
  · by_cases hj : i = j
    · subst hj
      have hl : i < ρ.length := by
        have := (List.getElem?_eq_some_iff.mp h).1
        simpa using this
      rw [List.getElem?_set_self hl] at h
      cases h
      exact ⟨v, by rw [List.getElem?_set_self (by rw [← he.len]; exact hl)], r⟩
    · rw [List.getElem?_set_ne hj] at h
      obtain ⟨u, h1, h2⟩ := he.val j e h
      exact ⟨u, by rw [List.getElem?_set_ne hj]; exact h1, h2⟩
  · by_cases hj : i = j
    · subst hj
      have hl : i < ρ.length := by
        have := (List.getElem?_eq_some_iff.mp h).1
        simpa using this
      rw [List.getElem?_set_self hl] at h
      cases h
    · rw [List.getElem?_set_ne hj] at h
      obtain ⟨a, h1, h2⟩ := he.own j e h
      exact ⟨a, by rw [List.getElem?_set_ne hj]; exact h1, h2⟩
  · have ne : ∀ {m : Nat} {c0 : Cell}, (ρ.set i (.val d))[m]? = some (.own c0) → i ≠ m := fun {m c0} h z => by
      subst z
      have hl : i < ρ.length := by
        have := (List.getElem?_eq_some_iff.mp h).1
        simpa using this
      rw [List.getElem?_set_self hl] at h
      cases h
    have n1 := ne h1
    have n2 := ne h2
    rw [List.getElem?_set_ne n1] at h1 h3
    rw [List.getElem?_set_ne n2] at h2 h4
    exact he.ap j k c1 c2 a h1 h2 h3 h4
theorem own_set {σ : St} {ρ : Env} {i : Nat} {v : Option V} {d : D} {a : Addr} (h : Own (σ.set i v) (ρ.set i (.val d)) a) : Own σ ρ a := by
  obtain ⟨j, c, h1, h2⟩ := h
  have n : i ≠ j := fun z => by
    subst z
    have hl : i < ρ.length := by
      have := (List.getElem?_eq_some_iff.mp h1).1
      simpa using this
    rw [List.getElem?_set_self hl] at h1
    cases h1
  rw [List.getElem?_set_ne n] at h1 h2
  exact ⟨j, c, h1, h2⟩
def GoodT (C : Ct) (w : Wd) (H : Hp) (st : Store) (σ : St) (ρ : Env) (m : M Unit) (S : List Nat) (Q : St → Hp → Prop) : Prop :=
  ∃ ρ', m ρ st = .ok () ρ' st ∧ ∀ σ', RelE C w H σ' ρ' → (∀ a, Own σ' ρ' a → Own σ ρ a) → (∀ i, i ∉ S → σ'[i]? = σ[i]?) → σ'.length = σ.length → Q σ' H
def gM (C : Ct) (t : Tg) : TG := fun v σ H Q => ∃ w ρ st d, RelSt C w H st ∧ RelE C w H σ ρ ∧ RelD C w.F w.L v d ∧ GoodT C w H st σ ρ (bindT t d) (tgS t) Q
def gMs (C : Ct) (t : Tgs) : TGs := fun vs σ H Q => ∃ w ρ st ds, RelSt C w H st ∧ RelE C w H σ ρ ∧ RelDs C w.F w.L vs ds ∧ GoodT C w H st σ ρ (bindTs t ds) (tgsS t) Q
theorem assignEach_cons {e : Expr} {es : List Expr} {env : PySem.Env} (h : noStar e = true) : (assignEach (e :: es) env).map (·.2) = assign e env :: (assignEach es env).map (·.2) ∧ (assignEach (e :: es) env).map (·.1) = false :: (assignEach es env).map (·.1) := by
  cases e <;> first | exact ⟨rfl, rfl⟩ | cases h
theorem assignEach_len : ∀ (es : List Expr) (env : PySem.Env), (assignEach es env).length = es.length
  | [], _ => rfl
  | e :: es, env => by
    have ih := assignEach_len es env
    cases e <;> (show (assignEach es env).length + 1 = es.length + 1; rw [ih])
theorem _root_.L2.PG.imp {X : Cx} {e : Expr} {t t' : TG} (h : PG X e t) (hi : ∀ v σ H Q, t' v σ H Q → t v σ H Q) : PG X e t' :=
  ⟨fun pins s σ H v u Q I r q => h.run pins s σ H v u Q I r (hi v σ H Q q)⟩
theorem _root_.L2.PGs.imp {X : Cx} {e : List Expr} {t t' : TGs} (h : PGs X e t) (hi : ∀ v σ H Q, t' v σ H Q → t v σ H Q) : PGs X e t' :=
  ⟨fun pins s σ H v u Q I r q => h.run pins s σ H v u Q I r (hi v σ H Q q)⟩
theorem _root_.L2.PG.or {X : Cx} {e : Expr} {t t' : TG} (h : PG X e t) (h' : PG X e t') : PG X e (fun v σ H Q => t v σ H Q ∨ t' v σ H Q) :=
  ⟨fun pins s σ H v u Q I r q => q.elim (h.run pins s σ H v u Q I r) (h'.run pins s σ H v u Q I r)⟩
mutual
/-- a target leaves the cells as they are -/
theorem bindT_st : ∀ (t : Tg) (d : D) (ρ : Env) (st : Store) {u : Unit} {ρ1 : Env} {st1 : Store}, bindT t d ρ st = .ok u ρ1 st1 → st1 = st
  | .nm i, d, ρ, st, u, ρ1, st1, e => by
    simp only [bindT, setSl] at e
    split at e
    · cases e; rfl
    · cases e
  | .tp ts, d, ρ, st, u, ρ1, st1, e => by
    simp only [bindT, bind, viewM] at e
    cases e1 : itemsD (view st d) with
    | none => rw [e1] at e; cases e
    | some ds =>
      rw [e1] at e
      exact bindTs_st ts ds ρ st e
theorem bindTs_st : ∀ (t : Tgs) (d : List D) (ρ : Env) (st : Store) {u : Unit} {ρ1 : Env} {st1 : Store}, bindTs t d ρ st = .ok u ρ1 st1 → st1 = st
  | .nil, [], ρ, st, u, ρ1, st1, e => by cases e; rfl
  | .nil, _ :: _, ρ, st, u, ρ1, st1, e => by cases e
  | .cons _ _, [], ρ, st, u, ρ1, st1, e => by cases e
  | .cons t r, d :: ds, ρ, st, u, ρ1, st1, e => by
    simp only [bindTs, bind] at e
    split at e
    · rename_i a ρ2 st2 e1
      exact (bindTs_st r ds ρ2 st2 e).trans (bindT_st t d ρ st e1)
    · cases e
    · cases e
end
theorem bindTs_len {r : Tgs} : ∀ {es : List Expr} {c : Cc} {ds : List D} {ρ ρ' : Env} {st st' : Store}, chkTs c r es = true → bindTs r ds ρ st = .ok () ρ' st' → ds.length = es.length := by
  induction r using Tgs.rec (motive_1 := fun _ => True) with
  | nm i => trivial
  | tp ts _ => trivial
  | nil =>
    intro es c ds ρ ρ' st st' h1 h2
    cases es with
    | nil => cases ds with
      | nil => rfl
      | cons d ds => simp [bindTs, bad] at h2
    | cons e es => simp [chkTs] at h1
  | cons t r _ ih =>
    intro es c ds ρ ρ' st st' h1 h2
    cases es with
    | nil => simp [chkTs] at h1
    | cons e es =>
      cases ds with
      | nil => simp [bindTs, bad] at h2
      | cons d ds =>
        simp only [chkTs, Bool.and_eq_true] at h1
        simp only [bindTs, bind] at h2
        split at h2
        · rw [List.length_cons, List.length_cons, ih h1.2.2 h2]
        · cases h2
        · cases h2
section
variable {X : Cx} {c : Cc} {G : Gm}
mutual
theorem dg (S : Sc X c G) : ∀ (t : Tg) (e : Expr), chkT c t e = true → PG X e (gM (ct X) t)
  | .nm i, .Name x p, h => by
    simp only [chkT, Bool.and_eq_true, decide_eq_true_eq] at h
    obtain ⟨h1, h2⟩ := S.loc h.2
    refine (pg_name (by rw [S.N]; exact S.nd) (by rw [S.N]; exact h.1) h1 h2).imp fun v σ H Q ⟨w, ρ, st, d, hs, he, rd, ρ', e, q⟩ => ?_
    simp only [bindT, setSl] at e
    split at e
    · cases e
      refine q (σ.set i (some v)) (setE he rd) (fun a => own_set) (fun j hj => ?_) (by simp)
      rw [List.getElem?_set_ne (fun z => hj (by simp [tgS, z]))]
    · cases e
  | .tp ts, .Tuple es k p, h => by
    have h : chkTs c ts es = true := h
    have hh := dgs S ts es h
    have hst : (assignEach es X.env).findIdx? (·.1) = none := by
      rw [List.findIdx?_eq_none_iff]
      intro x hx
      have : x.1 ∈ (assignEach es X.env).map (·.1) := List.mem_map.mpr ⟨x, hx, rfl⟩
      rw [hh.2] at this
      exact (List.mem_replicate.mp this).2
    refine ((pg_tup S.calm hh.1 rfl hst).or (pg_lst S.calm hh.1 rfl hst)).imp fun v σ H Q ⟨w, ρ, st, d, hs, he, rd, ρ', e, q⟩ => ?_
    have sv := sees hs rd
    simp only [bindT, bind, viewM] at e
    cases e1 : itemsD (view st d) with
    | none => rw [e1] at e; cases e
    | some ds =>
      rw [e1] at e
      have e : bindTs ts ds ρ st = .ok () ρ' st := e
      have hl : ds.length = es.length := bindTs_len h e
      cases e2 : view st d with
      | tup xs =>
        rw [e2] at e1 sv
        cases e1
        cases sv with
        | tup hq rq => exact .inl ⟨_, _, rfl, sqT_mono hs.fh hq, by rw [rq.length, hl, assignEach_len], w, ρ, st, ds, hs, he, rq, ρ', e, q⟩
      | lst xs =>
        rw [e2] at e1 sv
        cases e1
        cases sv with
        | lst hq rq => exact .inr ⟨_, _, rfl, SqL.of hq, by rw [rq.length, hl, assignEach_len], w, ρ, st, ds, hs, he, rq, ρ', e, q⟩
      | _ => rw [e2] at e1; cases e1
theorem dgs (S : Sc X c G) : ∀ (t : Tgs) (es : List Expr), chkTs c t es = true → PGs X es (gMs (ct X) t) ∧ (assignEach es X.env).map (·.1) = List.replicate es.length false
  | .nil, [], _ => by
    refine ⟨pgs_nil.imp fun v σ H Q ⟨w, ρ, st, ds, hs, he, rd, ρ', e, q⟩ => ?_, rfl⟩
    cases rd with
    | nil =>
      have e : R.ok () ρ st = .ok () ρ' st := e
      cases e
      exact ⟨rfl, q σ he (fun _ z => z) (fun _ _ => rfl) rfl⟩
    | cons _ _ => cases e
  | .cons t r, e :: es, h => by
    simp only [chkTs, Bool.and_eq_true] at h
    obtain ⟨g1, g2⟩ := dgs S r es h.2.2
    obtain ⟨a1, a2⟩ := assignEach_cons (es := es) (env := X.env) h.1
    refine ⟨(pgs_cons (dg S t e h.2.1) g1 a1).imp fun v σ H Q ⟨w, ρ, st, ds, hs, he, rd, ρ', eq, q⟩ => ?_, by rw [a2, g2]; rfl⟩
    cases rd with
    | nil => cases eq
    | cons rd rr =>
      simp only [bindTs, bind] at eq
      refine ⟨_, _, rfl, w, ρ, st, _, hs, he, rd, ?_⟩
      split at eq
      · rename_i a ρ1 st1 e1
        have hst : st1 = st := by
          exact bindT_st _ _ _ _ e1
        subst hst
        refine ⟨ρ1, e1, fun σ1 he1 o1 k1 l1 => ⟨w, ρ1, st1, _, hs, he1, rr, ρ', eq, fun σ' he' o' k' l' => q σ' he' (fun a z => o1 a (o' a z)) (fun i hi => ?_) (l'.trans l1)⟩⟩
        simp only [tgsS, List.mem_append, not_or] at hi
        rw [k' i hi.2, k1 i hi.1]
      · cases eq
      · cases eq
end
end
end Z

/-! Z7: what is walked; new lists; comprehensions. -/
namespace Z
open PySem PySem.Spec L2
open PyProof.Rows hiding St

/-! ### what is walked -/
/-- at each turn the items xs come -/
def ItOk (C : Ct) (w0 : Wd) (J : It) (xs : List D) : Prop := ∀ (w : Wd) (H : Hp) (st : Store) (σ : St) (ρ : Env) (i : Nat), Gr w0 w → RelSt C w H st → RelE C w H σ ρ →
  (∀ d, xs[i]? = some d → J.go i H ∧ ∀ v H', J.yld i H v H' → ∃ w', RelSt C w' H' st ∧ RelE C w' H' σ ρ ∧ Step w H (Own σ ρ) w' H' (Own σ ρ) ∧ RelD C w'.F w'.L v d) ∧ (i = xs.length → J.stop i H)
def tI (C : Ct) (W : WX) (m : M (List D)) : TI := fun σ H R => ∃ w ρ st, RelSt C w H st ∧ RelE C w H σ ρ ∧ match m ρ st with
  | .ok xs ρ' st' => ∀ J w' H', RelSt C w' H' st' → RelE C w' H' σ ρ' → Step w H (Own σ ρ) w' H' (Own σ ρ') → ItOk C w' J xs → R J H'
  | .exc x ρ' st' => ∀ cls d w' H', RelSt C w' H' st' → RelE C w' H' σ ρ' → Step w H (Own σ ρ) w' H' (Own σ ρ') → RelX C w' H' cls d x → W cls d σ H'
  | .bad => False
/-- as tI, where the world is known -/
def tIW (C : Ct) (W : WX) (w : Wd) (ρ : Env) (st : Store) (m : M (List D)) (σ : St) (H : Hp) (R : It → Hp → Prop) : Prop := RelSt C w H st ∧ RelE C w H σ ρ ∧ match m ρ st with
  | .ok xs ρ' st' => ∀ J w' H', RelSt C w' H' st' → RelE C w' H' σ ρ' → Step w H (Own σ ρ) w' H' (Own σ ρ') → ItOk C w' J xs → R J H'
  | .exc x ρ' st' => ∀ cls d w' H', RelSt C w' H' st' → RelE C w' H' σ ρ' → Step w H (Own σ ρ) w' H' (Own σ ρ') → RelX C w' H' cls d x → W cls d σ H'
  | .bad => False
theorem tIW.bind {α β : Type} {C : Ct} {W : WX} {rel : Wd → β → α → Prop} {w : Wd} {ρ : Env} {st : Store} {σ : St} {H : Hp} {m : M α} {f : α → M (List D)} {R : It → Hp → Prop} (h : tIW C W w ρ st (Z.bind m f) σ H R) :
    tW C W rel w ρ st m σ H fun b H1 => ∃ a w1 ρ1 st1, rel w1 b a ∧ Step w H (Own σ ρ) w1 H1 (Own σ ρ1) ∧ tIW C W w1 ρ1 st1 (f a) σ H1 R := by
  obtain ⟨h1, h2, h3⟩ := h
  refine ⟨h1, h2, ?_⟩
  unfold Z.bind at h3
  cases e : m ρ st with
  | ok a ρ1 st1 =>
    rw [e] at h3
    intro b w1 H1 r1 r2 s1 rb
    refine ⟨a, w1, ρ1, st1, rb, s1, r1, r2, ?_⟩
    simp only at h3
    cases e2 : f a ρ1 st1 with
    | ok c ρ2 st2 =>
      rw [e2] at h3
      exact fun d w2 H2 q1 q2 s2 rd => h3 d w2 H2 q1 q2 (s1.trans s2) rd
    | exc x ρ2 st2 =>
      rw [e2] at h3
      exact fun cls d w2 H2 q1 q2 s2 rx => h3 cls d w2 H2 q1 q2 (s1.trans s2) rx
    | bad => rw [e2] at h3; exact h3
  | exc x ρ1 st1 =>
    rw [e] at h3
    exact h3
  | bad => rw [e] at h3; exact h3
theorem tIW.ret {C : Ct} {W : WX} {w : Wd} {ρ : Env} {st : Store} {σ : St} {H : Hp} {xs : List D} {R : It → Hp → Prop} (h : tIW C W w ρ st (Z.ret xs) σ H R) {J : It} (hj : ItOk C w J xs) : R J H :=
  h.2.2 J w H h.1 h.2.1 Step.refl hj
theorem tIW.optBind {α : Type} {C : Ct} {W : WX} {w : Wd} {ρ : Env} {st : Store} {σ : St} {H : Hp} {o : Option α} {f : α → M (List D)} {R : It → Hp → Prop} (h : tIW C W w ρ st (Z.bind (Z.opt o) f) σ H R) : ∃ a, o = some a ∧ tIW C W w ρ st (f a) σ H R := by
  cases o with
  | none => exact h.2.2.elim
  | some a => exact ⟨a, rfl, h⟩
theorem tIW.opt {C : Ct} {W : WX} {w : Wd} {ρ : Env} {st : Store} {σ : St} {H : Hp} {o : Option (List D)} {R : It → Hp → Prop} (h : tIW C W w ρ st (Z.opt o) σ H R) : ∃ a, o = some a ∧ tIW C W w ρ st (Z.ret a) σ H R := by
  cases o with
  | none => exact h.2.2.elim
  | some a => exact ⟨a, rfl, h⟩
theorem _root_.L2.PI.imp {X : Cx} {tg e : Expr} {t t' : TI} (h : PI X tg e t) (hi : ∀ σ H R, t' σ H R → t σ H R) : PI X tg e t' :=
  ⟨fun pins s σ H R I q => h.run pins s σ H R I (hi σ H R q)⟩
theorem _root_.L2.PI.or {X : Cx} {tg e : Expr} {t t' : TI} (h : PI X tg e t) (h' : PI X tg e t') : PI X tg e (fun σ H R => t σ H R ∨ t' σ H R) :=
  ⟨fun pins s σ H R I q => q.elim (h.run pins s σ H R I) (h'.run pins s σ H R I)⟩
theorem it_list {C : Ct} {w0 : Wd} {a : Addr} {vs : List V} {ds : List D} (h : w0.F a = some (.lst vs)) (r : RelDs C w0.F w0.L vs ds) : ItOk C w0 (Itl C.K a) ds := by
  intro w H st σ ρ i g hs he
  have hq : SqL C.K H a vs := SqL.of (hs.fh _ _ (g.f _ _ h))
  refine ⟨fun d hd => ?_, fun hi => ⟨vs, hq, by rw [r.length]; omega⟩⟩
  obtain ⟨v, h1, h2⟩ := r.get hd
  refine ⟨⟨vs, v, hq, h1⟩, fun v' H' y => ?_⟩
  obtain ⟨e, y⟩ := y
  subst e
  have e := y vs hq
  rw [h1] at e
  cases e
  exact ⟨w, hs, he, Step.refl, h2.mono g⟩
theorem it_tup {C : Ct} {w0 : Wd} {a : Addr} {vs : List V} {ds : List D} (h : SqT C.K w0.F a vs) (r : RelDs C w0.F w0.L vs ds) : ItOk C w0 (Itt C.K a) ds := by
  intro w H st σ ρ i g hs he
  have hq : SqT C.K H a vs := sqT_mono hs.fh (sqT_mono g.f h)
  refine ⟨fun d hd => ?_, fun hi => ⟨vs, hq, by rw [r.length]; omega⟩⟩
  obtain ⟨v, h1, h2⟩ := r.get hd
  refine ⟨⟨vs, v, hq, h1⟩, fun v' H' y => ?_⟩
  obtain ⟨e, y⟩ := y
  subst e
  have e := y vs hq
  rw [h1] at e
  cases e
  exact ⟨w, hs, he, Step.refl, h2.mono g⟩
theorem pair_new {C : Ct} {w0 w : Wd} {H : Hp} {st : Store} {σ : St} {ρ : Env} {T : Addr} {x y : V} {a b : D} (g : Gr w0 w) (hs : RelSt C w H st) (he : RelE C w H σ ρ) (hT : H T = none) (rx : RelD C w.F w.L x a) (ry : RelD C w.F w.L y b) :
    ∃ w', RelSt C w' (upd H T (.tup [x, y])) st ∧ RelE C w' (upd H T (.tup [x, y])) σ ρ ∧ Step w H (Own σ ρ) w' (upd H T (.tup [x, y])) (Own σ ρ) ∧ RelD C w'.F w'.L (.ref T) (.tup [a, b]) := by
  obtain ⟨a1, a2, a3⟩ := laidF (o := .tup [x, y]) hs he hT
  exact ⟨_, a1, a2, a3, .tup (SqT.of upd_same) (.cons (rx.mono a3.gr) (.cons (ry.mono a3.gr) .nil))⟩
theorem enumL_get {xs : List D} {i : Nat} {d : D} (h : (enumL xs)[i]? = some d) : ∃ x, xs[i]? = some x ∧ d = .tup [.int (i : Nat), x] := by
  unfold enumL at h
  rw [List.getElem?_map] at h
  cases e : ((List.range xs.length).zip xs)[i]? with
  | none => rw [e] at h; cases h
  | some p =>
    rw [e] at h
    cases h
    obtain ⟨h1, h2⟩ := List.getElem?_zip_eq_some.1 e
    have hi := (List.getElem?_eq_some_iff.mp h2).1
    rw [List.getElem?_range hi] at h1
    have h1 := Option.some.inj h1
    exact ⟨_, h2, by show D.tup [.int (p.1 : Nat), p.2] = _; rw [← h1]⟩
theorem enumL_len (xs : List D) : (enumL xs).length = xs.length := by simp [enumL]
theorem zipL_len (xs ys : List D) : (zipL xs ys).length = min xs.length ys.length := by simp [zipL]
theorem zipL_get {xs ys : List D} {i : Nat} {d : D} (h : (zipL xs ys)[i]? = some d) : ∃ x y, xs[i]? = some x ∧ ys[i]? = some y ∧ d = .tup [x, y] := by
  unfold zipL at h
  rw [List.getElem?_map] at h
  cases e : (xs.zip ys)[i]? with
  | none => rw [e] at h; cases h
  | some p =>
    rw [e] at h
    cases h
    obtain ⟨h1, h2⟩ := List.getElem?_zip_eq_some.1 e
    exact ⟨_, _, h1, h2, rfl⟩
theorem it_enum {C : Ct} {w0 : Wd} {a : Addr} {vs : List V} {ds : List D} (h : w0.F a = some (.lst vs)) (r : RelDs C w0.F w0.L vs ds) : ItOk C w0 (Ite C.K a) (enumL ds) := by
  intro w H st σ ρ i g hs he
  have hq : SqL C.K H a vs := SqL.of (hs.fh _ _ (g.f _ _ h))
  refine ⟨fun d hd => ?_, fun hi => ⟨vs, hq, by rw [r.length]; rw [enumL_len] at hi; omega⟩⟩
  obtain ⟨x, hx, rfl⟩ := enumL_get hd
  obtain ⟨v, h1, h2⟩ := r.get hx
  refine ⟨⟨vs, v, hq, h1⟩, fun v' H' y => ?_⟩
  obtain ⟨T, u, rfl, hT, rfl, y⟩ := y
  have e := y vs hq
  rw [h1] at e
  cases e
  exact pair_new g hs he hT (.int _) (h2.mono g)
theorem it_zipL {C : Ct} {w0 : Wd} {a b : Addr} {vs us : List V} {ds es : List D} (h : w0.F a = some (.lst vs)) (r : RelDs C w0.F w0.L vs ds) (h' : w0.F b = some (.lst us)) (r' : RelDs C w0.F w0.L us es) : ItOk C w0 (Itz C.K a b) (zipL ds es) := by
  intro w H st σ ρ i g hs he
  have hq : SqL C.K H a vs := SqL.of (hs.fh _ _ (g.f _ _ h))
  have hq' : SqL C.K H b us := SqL.of (hs.fh _ _ (g.f _ _ h'))
  refine ⟨fun d hd => ?_, fun hi => ⟨vs, us, hq, hq', by rw [r.length, r'.length]; rw [zipL_len] at hi; omega⟩⟩
  obtain ⟨x, y, hx, hy, rfl⟩ := zipL_get hd
  obtain ⟨v, h1, h2⟩ := r.get hx
  obtain ⟨u, g1, g2⟩ := r'.get hy
  refine ⟨⟨vs, us, v, u, hq, hq', h1, g1⟩, fun v' H' y => ?_⟩
  obtain ⟨T, u1, u2, rfl, hT, rfl, y1, y2⟩ := y
  have e := y1 vs hq
  rw [h1] at e
  cases e
  have e := y2 us hq'
  rw [g1] at e
  cases e
  exact pair_new g hs he hT (h2.mono g) (g2.mono g)
theorem it_zipT {C : Ct} {w0 : Wd} {a b : Addr} {vs us : List V} {ds es : List D} (h : SqT C.K w0.F a vs) (r : RelDs C w0.F w0.L vs ds) (h' : SqT C.K w0.F b us) (r' : RelDs C w0.F w0.L us es) : ItOk C w0 (RZ.ItzT C.K a b) (zipL ds es) := by
  intro w H st σ ρ i g hs he
  have hq : SqT C.K H a vs := sqT_mono hs.fh (sqT_mono g.f h)
  have hq' : SqT C.K H b us := sqT_mono hs.fh (sqT_mono g.f h')
  refine ⟨fun d hd => ?_, fun hi => ⟨vs, us, hq, hq', by rw [r.length, r'.length]; rw [zipL_len] at hi; omega⟩⟩
  obtain ⟨x, y, hx, hy, rfl⟩ := zipL_get hd
  obtain ⟨v, h1, h2⟩ := r.get hx
  obtain ⟨u, g1, g2⟩ := r'.get hy
  refine ⟨⟨vs, us, v, u, hq, hq', h1, g1⟩, fun v' H' y => ?_⟩
  obtain ⟨T, u1, u2, rfl, hT, rfl, y1, y2⟩ := y
  have e := y1 vs hq
  rw [h1] at e
  cases e
  have e := y2 us hq'
  rw [g1] at e
  cases e
  exact pair_new g hs he hT (h2.mono g) (g2.mono g)
theorem rng_length (lo hi : Int) : (rng lo hi).length = (hi - lo).toNat := by unfold rng; simp
theorem it_rng {C : Ct} {w0 : Wd} (lo hi : Int) : ItOk C w0 (Itr lo (hi - lo).toNat) (rng lo hi) := by
  intro w H st σ ρ i g hs he
  refine ⟨fun d hd => ?_, fun h => ?_⟩
  · have hi' : i < (hi - lo).toNat := by rw [← rng_length]; exact (List.getElem?_eq_some_iff.mp hd).1
    have e : d = .int (lo + (i : Nat)) := by
      unfold rng at hd
      rw [List.getElem?_map, List.getElem?_range hi'] at hd
      cases hd; rfl
    subst e
    exact ⟨hi', fun v H' y => by
      obtain ⟨e1, e2⟩ := y
      subst e1 e2
      exact ⟨w, hs, he, Step.refl, .int _⟩⟩
  · rw [rng_length] at h
    show (hi - lo).toNat ≤ i
    omega
section
variable {X : Cx} {W : WX} {pos p : Pos} {tg a b : Expr} {ma mb : M D}
abbrev DI (X : Cx) (W : WX) (tg e : Expr) (m : M (List D)) : Prop := PI X tg e (tI (ct X) W m)
/-- a list or a tuple, walked -/
theorem pi_seqU {l : Expr} {tl : TE} (hl : PE X l tl) : PI X tg l (fun σ H R => tl σ H fun x H1 => (∃ a, x = .ref a ∧ (∃ xs, SqL X.K H1 a xs) ∧ R (Itl X.K a) H1) ∨ ∃ a, x = .ref a ∧ (∃ xs, SqT X.K H1 a xs) ∧ R (Itt X.K a) H1) := by
  refine ⟨fun pins s σ H R I h => ?_⟩
  refine thn (hl.run pins s σ H _ I h) fun v s1 ⟨x, H1, I1, r1, q1⟩ => ?_
  rcases q1 with ⟨a, e, ⟨xs, hq⟩, q⟩ | ⟨a, e, ⟨xs, hq⟩, q⟩
  · subst e
    cases r1
    obtain ⟨its, rv, p, hz⟩ := I1.list hq
    refine wpAny_pyIter_list p.isList ?_
    refine ⟨s1.heap.objs.size, [s1.heap.objs.size], _, _, H1, rfl, I1.kept (t' := s1.toks) fun b o e => Heap.get?_push_of_some _ e, turn_list a _, ⟨_, Heap.get?_push_size _ rfl, rfl, rfl⟩, fun b hb => ?_, q⟩
    have e : b = s1.heap.objs.size := by simpa using hb
    subst e
    exact I1.fpOk (Nat.le_refl _) (I1.hok.fresh (Nat.le_refl _))
  · subst e
    cases r1
    obtain ⟨its, rv, p, hz⟩ := I1.tuple hq
    refine wpAny_pyIter_tuple (show s1.heap.IsTuple a its.toArray from p) ?_
    refine ⟨s1.heap.objs.size, [s1.heap.objs.size], _, _, H1, rfl, I1.kept (t' := s1.toks) fun b o e => Heap.get?_push_of_some _ e, turn_tuple a _, ⟨_, Heap.get?_push_size _ rfl, rfl, rfl⟩, fun b hb => ?_, q⟩
    have e : b = s1.heap.objs.size := by simpa using hb
    subst e
    exact I1.fpOk (Nat.le_refl _) (I1.hok.fresh (Nat.le_refl _))
theorem di_seq (ha : DE X W a ma) : DI X W tg a (bind ma fun x => opt (seqItems x)) :=
  (pi_seqU ha).imp fun σ H R ⟨w, ρ, st, h⟩ => ⟨w, ρ, st, (tIW.bind (rel := rD (ct X)) h).imp fun v H1 ⟨x, w1, ρ1, st1, r, _, q⟩ => by
    obtain ⟨ds, e, q⟩ := q.opt
    cases r with
    | tup hh rr =>
      cases e
      exact .inr ⟨_, rfl, ⟨_, sqT_mono q.1.fh hh⟩, q.ret (it_tup hh rr)⟩
    | lst hh rr =>
      cases e
      exact .inl ⟨_, rfl, ⟨_, SqL.of (q.1.fh _ _ hh)⟩, q.ret (it_list hh rr)⟩
    | _ => simp [seqItems] at e⟩
theorem small_d {n : Int} (h : small n = true) : -(2 ^ 62) ≤ n ∧ n < 2 ^ 62 := by
  unfold small at h
  simpa using h
theorem di_range1 (hg : Gl X "range") (hm : X.mg "range" = none) (ha : DE X W a ma) (hs : NoStar X a) :
    DI X W tg (.Call (.Name "range" p) [a] [] pos) (bind ma fun x => match x with | .int n => if small n then ret (rng 0 n) else bad | _ => bad) :=
  (pi_range1 hg hm (pa_cons ha pa_nil (hs [])) (hs [])).imp fun σ H R ⟨w, ρ, st, h⟩ => ⟨w, ρ, st, (tIW.bind (rel := rD (ct X)) h).imp fun v H1 ⟨x, w1, ρ1, st1, r, _, q⟩ => by
    cases r with
    | int n =>
      have q : tIW (ct X) W w1 ρ1 st1 (if small n then ret (rng 0 n) else bad) σ H1 R := q
      split at q
      · rename_i hn
        obtain ⟨a1, a2⟩ := small_d hn
        refine ⟨n, rfl, a1, a2, ?_⟩
        have := q.ret (it_rng 0 n)
        rw [Int.sub_zero] at this
        exact this
      · exact q.2.2.elim
    | _ => exact q.2.2.elim⟩
theorem di_range2 (hg : Gl X "range") (hm : X.mg "range" = none) (ha : DE X W a ma) (hb : DE X W b mb) (hs : NoStar X a) (hs2 : NoStar X b) :
    DI X W tg (.Call (.Name "range" p) [a, b] [] pos) (bind ma fun x => bind mb fun y => match x, y with | .int i, .int j => if small i && small j then ret (rng i j) else bad | _, _ => bad) :=
  (pi_range2 hg hm (pa_cons ha (pa_cons hb pa_nil (hs2 [])) (hs [b])) (by rw [hs [b], hs2 []]; rfl) (hs2 [])).imp fun σ H R ⟨w, ρ, st, h⟩ => ⟨w, ρ, st, (tIW.bind (rel := rD (ct X)) h).imp fun v H1 ⟨x, w1, ρ1, st1, r, _, q⟩ => ⟨w1, ρ1, st1, (tIW.bind (rel := rD (ct X)) q).imp fun u H2 ⟨y, w2, ρ2, st2, r2, s2, q⟩ => by
    cases r with
    | int i =>
      cases r2 with
      | int j =>
        have q : tIW (ct X) W w2 ρ2 st2 (if small i && small j then ret (rng i j) else bad) σ H2 R := q
        split at q
        · rename_i hn
          simp only [Bool.and_eq_true] at hn
          obtain ⟨a1, a2⟩ := small_d hn.1
          obtain ⟨b1, b2⟩ := small_d hn.2
          exact ⟨i, j, rfl, ⟨a1, a2, b1, b2⟩, q.ret (it_rng i j)⟩
        · exact q.2.2.elim
      | _ => exact q.2.2.elim
    | _ => exact q.2.2.elim⟩⟩
theorem di_enum {elts : List Expr} {kk : Nat} {tpos : Pos} (hg : Gl X "enumerate") (hm : X.mg "enumerate" = none) (ha : DE X W a ma) (hs : NoStar X a) :
    DI X W (.Tuple elts kk tpos) (.Call (.Name "enumerate" p) [a] [] pos) (bind ma fun x => opt (enumD x)) :=
  (pi_enum hg hm (pa_cons ha pa_nil (hs [])) (hs [])).imp fun σ H R ⟨w, ρ, st, h⟩ => ⟨w, ρ, st, (tIW.bind (rel := rD (ct X)) h).imp fun v H1 ⟨x, w1, ρ1, st1, r, _, q⟩ => by
    obtain ⟨ds, e, q⟩ := q.opt
    cases r with
    | lst hh rr =>
      cases e
      exact ⟨_, _, rfl, SqL.of (q.1.fh _ _ hh), q.ret (it_enum hh rr)⟩
    | _ => simp [enumD] at e⟩
theorem di_zip {elts : List Expr} {kk : Nat} {tpos : Pos} (hg : Gl X "zip") (hm : X.mg "zip" = none) (ha : DE X W a ma) (hb : DE X W b mb) (hs : NoStar X a) (hs2 : NoStar X b) :
    DI X W (.Tuple elts kk tpos) (.Call (.Name "zip" p) [a, b] [] pos) (bind ma fun x => bind mb fun y => opt (zipD x y)) :=
  (RZ.pi_zipA hg hm (pa_cons ha (pa_cons hb pa_nil (hs2 [])) (hs [b])) (by rw [hs [b]]) (by rw [hs2 []]; rfl)).imp fun σ H R ⟨w, ρ, st, h⟩ => ⟨w, ρ, st, (tIW.bind (rel := rD (ct X)) h).imp fun v H1 ⟨x, w1, ρ1, st1, r, _, q⟩ => ⟨w1, ρ1, st1, (tIW.bind (rel := rD (ct X)) q).imp fun u H2 ⟨y, w2, ρ2, st2, r2, s2, q⟩ => by
    obtain ⟨ds, e, q⟩ := q.opt
    have r := RelD.mono s2.gr r
    cases r with
    | lst hh rr =>
      cases r2 with
      | lst hh2 rr2 =>
        cases e
        exact ⟨_, _, _, _, rfl, .inl ⟨SqL.of (q.1.fh _ _ hh), SqL.of (q.1.fh _ _ hh2), q.ret (it_zipL hh rr hh2 rr2)⟩⟩
      | _ => simp [zipD] at e
    | tup hh rr =>
      cases r2 with
      | tup hh2 rr2 =>
        cases e
        exact ⟨_, _, _, _, rfl, .inr ⟨sqT_mono q.1.fh hh, sqT_mono q.1.fh hh2, q.ret (it_zipT hh rr hh2 rr2)⟩⟩
      | _ => simp [zipD] at e
    | _ => simp [zipD] at e⟩⟩
end

/-! ### a new list -/
/-- a new object that nobody else knows -/
structure Alone (C : Ct) (w : Wd) (H : Hp) (σ : St) (ρ : Env) (p : Addr) (c : Cell) : Prop where
  rc : RelC C w H p c
  nf : w.F p = none
  nl : p ∉ w.L
  no : ¬ Own σ ρ p
def tFW (C : Ct) (W : WX) (w : Wd) (ρ : Env) (st : Store) (m : M Cell) (σ : St) (H : Hp) (Q : VK) : Prop := RelSt C w H st ∧ RelE C w H σ ρ ∧ match m ρ st with
  | .ok c ρ' st' => ∀ p w' H', RelSt C w' H' st' → RelE C w' H' σ ρ' → Step w H (Own σ ρ) w' H' (Own σ ρ') → Alone C w' H' σ ρ' p c → H p = none → Q (.ref p) H'
  | .exc x ρ' st' => ∀ cls d w' H', RelSt C w' H' st' → RelE C w' H' σ ρ' → Step w H (Own σ ρ) w' H' (Own σ ρ') → RelX C w' H' cls d x → W cls d σ H'
  | .bad => False
def tF (C : Ct) (W : WX) (m : M Cell) : TE := fun σ H Q => ∃ w ρ st, tFW C W w ρ st m σ H Q
abbrev DF (X : Cx) (W : WX) (e : Expr) (m : M Cell) : Prop := PE X e (tF (ct X) W m)
section
variable {C : Ct} {W : WX} {w : Wd} {ρ : Env} {st : Store} {σ : St} {H : Hp} {Q : VK}
theorem tFW.bindE {α β : Type} {rel : Wd → β → α → Prop} {m : M α} {f : α → M Cell} (h : tFW C W w ρ st (Z.bind m f) σ H Q) :
    tW C W rel w ρ st m σ H fun b H1 => ∃ a w1 ρ1 st1, m ρ st = .ok a ρ1 st1 ∧ rel w1 b a ∧ Step w H (Own σ ρ) w1 H1 (Own σ ρ1) ∧ tFW C W w1 ρ1 st1 (f a) σ H1 Q := by
  obtain ⟨h1, h2, h3⟩ := h
  refine ⟨h1, h2, ?_⟩
  unfold Z.bind at h3
  cases e : m ρ st with
  | ok a ρ1 st1 =>
    rw [e] at h3
    intro b w1 H1 r1 r2 s1 rb
    refine ⟨a, w1, ρ1, st1, rfl, rb, s1, r1, r2, ?_⟩
    simp only at h3
    cases e2 : f a ρ1 st1 with
    | ok c ρ2 st2 =>
      rw [e2] at h3
      exact fun d w2 H2 q1 q2 s2 rd hd => h3 d w2 H2 q1 q2 (s1.trans s2) rd (s1.dom _ hd)
    | exc x ρ2 st2 =>
      rw [e2] at h3
      exact fun cls d w2 H2 q1 q2 s2 rx => h3 cls d w2 H2 q1 q2 (s1.trans s2) rx
    | bad => rw [e2] at h3; exact h3
  | exc x ρ1 st1 =>
    rw [e] at h3
    exact h3
  | bad => rw [e] at h3; exact h3
theorem tFW.optBind {α : Type} {o : Option α} {f : α → M Cell} (h : tFW C W w ρ st (Z.bind (Z.opt o) f) σ H Q) : ∃ a, o = some a ∧ tFW C W w ρ st (f a) σ H Q := by
  cases o with
  | none => exact h.2.2.elim
  | some a => exact ⟨a, rfl, h⟩
theorem tFW.fits {xs : List D} {k : List D → M Cell} (h : tFW C W w ρ st (Z.bind (Z.fits xs) k) σ H Q) : xs.length ≤ sizeLine ∧ tFW C W w ρ st (k xs) σ H Q := by
  unfold Z.fits at h
  split at h
  · rename_i hl
    exact ⟨by rw [← line_eq]; exact hl, h⟩
  · exact h.2.2.elim
/-- a new list is laid -/
theorem tFW.ret {ds : List D} {vs : List V} (h : tFW C W w ρ st (Z.ret (.lst ds)) σ H Q) (r : RelDs C w.F w.L vs ds) : ∀ p, H p = none → Q (.ref p) (upd H p (.lst vs)) := by
  intro p hp
  obtain ⟨a1, a2, a3⟩ := laid0 (o := .lst vs) h.1 h.2.1 hp
  refine h.2.2 p w _ a1 a2 a3 ⟨⟨vs, upd_same, r⟩, h.1.none_F hp, h.1.none_L hp, fun ⟨i, c, h1, h2⟩ => ?_⟩ hp
  obtain ⟨a, e1, e2, _⟩ := h.2.1.own i c h1
  rw [h2] at e1; cases e1
  obtain ⟨u, hu⟩ := e2.there
  rw [hp] at hu; cases hu
end
section
variable {X : Cx} {W : WX} {pos p : Pos} {a b e : Expr} {ma mb : M D} {ms : M (List D)} {mc : M Cell}
/-- a new list as a value, or in a cell -/
theorem de_mk {k : Kd} (h : DF X W e mc) : DE X W e (bind mc fun c => mkC k c) :=
  h.imp fun σ H Q ⟨w, ρ, st, h1, h2, h3⟩ => ⟨w, ρ, st, h1, h2, by
    unfold bind at h3
    cases em : mc ρ st with
    | ok c ρ1 st1 =>
      rw [em] at h3
      intro p w1 H1 r1 r2 s1 al hp
      obtain ⟨o, ho⟩ := al.rc.there
      cases k with
      | pure =>
        obtain ⟨b1, b2, b3⟩ := toF r1 r2 ho al.nf al.nl al.no
        refine h3 _ _ _ b1 b2 ⟨s1.gr.trans b3, s1.keep, fun x u hx => ?_, s1.newL, s1.newO, s1.dom⟩ (al.rc.toD al.nl _ b3.f fun u hu => by rw [ho] at hu; cases hu; exact upd_same)
        have hx : upd w1.F p o x = some u := hx
        by_cases hxp : x = p
        · rw [hxp]; exact .inr (.inr (.inl hp))
        · rw [upd_ne hxp] at hx; exact s1.newF x u hx
      | cell =>
        obtain ⟨b1, b2, b3, b4⟩ := toL r1 r2 al.rc al.nf al.nl al.no
        refine h3 _ _ _ b1 b2 ⟨s1.gr.trans b3, s1.keep, s1.newF, fun x hx => ?_, s1.newO, s1.dom⟩ b4
        rcases List.mem_append.mp hx with hx | hx
        · exact s1.newL x hx
        · simp at hx; rw [hx]; exact .inr (.inr hp)
    | exc x ρ1 st1 => rw [em] at h3; exact h3
    | bad => rw [em] at h3; exact h3⟩
theorem df_disp {es : List Expr} (h : DEs X W es ms) : DF X W (.List es pos) (bind ms fun ds => bind (fits ds) fun ds => ret (.lst ds)) :=
  (pe_lst h).imp fun σ H Q ⟨w, ρ, st, h⟩ => ⟨w, ρ, st, (h.bindE (rel := rDs (ct X))).imp fun vs H1 ⟨ds, w1, ρ1, st1, _, r, _, q⟩ => by
    obtain ⟨hl, q⟩ := q.fits
    exact ⟨by rw [r.length]; exact hl, q.ret r⟩⟩
theorem tFW.viewBind {C : Ct} {W : WX} {w : Wd} {ρ : Env} {st : Store} {σ : St} {H : Hp} {Q : VK} {d : D} {f : D → M Cell} (h : tFW C W w ρ st (Z.bind (Z.viewM d) f) σ H Q) : tFW C W w ρ st (f (view st d)) σ H Q := h
theorem df_cat (ha : DE X W a ma) (hb : DE X W b mb) : DF X W (.BinOp a .Add b pos) (bind ma fun x => bind mb fun y => bind (viewM x) fun x => bind (viewM y) fun y => match x, y with
    | .lst xs, .lst ys => bind (fits (xs ++ ys)) fun ds => ret (.lst ds)
    | _, _ => bad) :=
  (pe_op op_cat ha hb).imp fun σ H Q ⟨w, ρ, st, h⟩ => ⟨w, ρ, st, (h.bindE (rel := rD (ct X))).imp fun v H1 ⟨x, w1, ρ1, st1, _, r, _, q⟩ => ⟨w1, ρ1, st1, (q.bindE (rel := rD (ct X))).imp fun u H2 ⟨y, w2, ρ2, st2, _, r2, s2, q⟩ => by
    have q := q.viewBind.viewBind
    have v1 := sees q.1 (RelD.mono s2.gr r)
    have v2 := sees q.1 r2
    cases ex : view st2 x with
    | lst xs =>
      rw [ex] at v1 q
      cases ey : view st2 y with
      | lst ys =>
        rw [ey] at v2 q
        cases v1 with
        | lst h1 q1 =>
          cases v2 with
          | lst h2 q2 =>
            obtain ⟨hl, q⟩ := tFW.fits q
            exact ⟨_, _, _, _, rfl, rfl, h1, h2, by rw [q1.length, q2.length, ← List.length_append]; exact hl, q.ret (q1.append q2)⟩
      | _ => rw [ey] at q; exact q.2.2.elim
    | _ => rw [ex] at q; exact q.2.2.elim⟩⟩
theorem df_rep (ha : DE X W a ma) (hb : DE X W b mb) : DF X W (.BinOp a .Mult b pos) (bind ma fun x => bind mb fun y => match x, y with
    | .lst xs, .int k => if small k && decide (xs.length * k.toNat ≤ line) then ret (.lst (List.replicate k.toNat xs).flatten) else bad
    | _, _ => bad) :=
  (pe_op op_rep ha hb).imp fun σ H Q ⟨w, ρ, st, h⟩ => ⟨w, ρ, st, (h.bindE (rel := rD (ct X))).imp fun v H1 ⟨x, w1, ρ1, st1, _, r, _, q⟩ => ⟨w1, ρ1, st1, (q.bindE (rel := rD (ct X))).imp fun u H2 ⟨y, w2, ρ2, st2, _, r2, s2, q⟩ => by
    have r := RelD.mono s2.gr r
    cases r with
    | lst h1 q1 =>
      cases r2 with
      | int k =>
        have q : tFW (ct X) W w2 ρ2 st2 (if small k && decide (_ * k.toNat ≤ line) then ret (.lst (List.replicate k.toNat _).flatten) else bad) σ H2 Q := q
        split at q
        · rename_i hn
          simp only [Bool.and_eq_true, decide_eq_true_eq] at hn
          obtain ⟨a1, a2⟩ := small_d hn.1
          exact ⟨_, _, _, rfl, rfl, q.1.fh _ _ h1, by omega, by omega, by rw [q1.length, ← line_eq]; exact hn.2, q.ret (q1.rep _)⟩
        · exact q.2.2.elim
      | _ => exact q.2.2.elim
    | _ => exact q.2.2.elim⟩⟩
theorem df_list {x : Str} (hn : BName X x (.type "list")) (ha : DE X W a ma) (hs : NoStar X a) : DF X W (.Call (.Name x p) [a] [] pos) (bind ma fun x => bind (viewM x) fun x => match x with
    | .lst xs => ret (.lst xs)
    | .tup xs => ret (.lst xs)
    | _ => bad) :=
  (callV hn (.inr ⟨_, rfl⟩) call_list_of (pa_cons ha pa_nil (hs [])) (hs []) rfl).imp fun σ H Q ⟨w, ρ, st, h⟩ => ⟨w, ρ, st, (h.bindE (rel := rD (ct X))).imp fun v H1 ⟨x, w1, ρ1, st1, _, r, _, q⟩ => by
    have q := q.viewBind
    have v1 := sees q.1 r
    cases ex : view st1 x with
    | lst xs =>
      rw [ex] at v1 q
      cases v1 with
      | lst h1 q1 => exact ⟨_, _, rfl, .inl (SqL.of h1), q.ret q1⟩
    | tup xs =>
      rw [ex] at v1 q
      cases v1 with
      | tup h1 q1 => exact ⟨_, _, rfl, .inr (sqT_mono q.1.fh h1), q.ret q1⟩
    | _ => rw [ex] at q; exact q.2.2.elim⟩
theorem rgV_rel {C : Ct} {F : Hp} {L : List Addr} (n : Int) : RelDs C F L (rgV 0 n) (rng 0 n) := by
  unfold rgV rng
  generalize (n - 0).toNat = k
  generalize hl : List.range k = l
  clear hl
  induction l with
  | nil => exact .nil
  | cons i l ih => exact .cons (.int _) ih
theorem df_listR {p2 pos2 : Pos} (hc : X.calm = true) (hn : BName X "list" (.type "list")) (hr : BName X "range" (.type "range")) (ha : DE X W a ma) (hs : NoStar X a) (hs2 : NoStar X (.Call (.Name "range" p2) [a] [] pos2)) :
    DF X W (.Call (.Name "list" p) [.Call (.Name "range" p2) [a] [] pos2] [] pos) (bind ma fun x => match x with
    | .int n => if small n && decide (n.toNat ≤ line) then ret (.lst (rng 0 n)) else bad
    | _ => bad) :=
  (pe_listRg hc hn.gl hn.mg (prg_1 hr.gl hr.mg ha (hs [])) (hs2 [])).imp fun σ H Q ⟨w, ρ, st, h⟩ => ⟨w, ρ, st, (h.bindE (rel := rD (ct X))).imp fun v H1 ⟨x, w1, ρ1, st1, _, r, _, q⟩ => by
    cases r with
    | int n =>
      have q : tFW (ct X) W w1 ρ1 st1 (if small n && decide (n.toNat ≤ line) then ret (.lst (rng 0 n)) else bad) σ H1 Q := q
      split at q
      · rename_i hn
        simp only [Bool.and_eq_true, decide_eq_true_eq] at hn
        obtain ⟨a1, a2⟩ := small_d hn.1
        have h3 : n.toNat ≤ 16777216 := hn.2
        exact ⟨n, rfl, ⟨by omega, by omega, by omega, by omega, by omega⟩, q.ret (rgV_rel n)⟩
      · exact q.2.2.elim
    | _ => exact q.2.2.elim⟩
end
end Z

/-! Z8: comprehensions. -/
namespace Z
open PySem PySem.Spec L2
open PyProof.Rows hiding St

theorem zwipe_length (ρ : Env) : ∀ vs : List Nat, (Z.wipe ρ vs).length = ρ.length
  | [] => rfl
  | v :: vs => by unfold Z.wipe; rw [List.length_set, zwipe_length ρ vs]
theorem zwipe_out {ρ : Env} {i : Nat} : ∀ {vs : List Nat}, i ∉ vs → (Z.wipe ρ vs)[i]? = ρ[i]?
  | [], _ => rfl
  | v :: vs, h => by
    simp only [List.mem_cons, not_or] at h
    unfold Z.wipe
    rw [List.getElem?_set_ne (fun z => h.1 z.symm)]
    exact zwipe_out h.2
theorem zwipe_in {ρ : Env} {i : Nat} : ∀ {vs : List Nat}, i ∈ vs → i < ρ.length → (Z.wipe ρ vs)[i]? = some .un
  | [], h, _ => by cases h
  | v :: vs, h, hl => by
    unfold Z.wipe
    by_cases e : v = i
    · subst e
      rw [List.getElem?_set_self (by rw [zwipe_length]; exact hl)]
    · rw [List.getElem?_set_ne e]
      rcases List.mem_cons.mp h with z | z
      · exact absurd z.symm e
      · exact zwipe_in z hl
theorem lwipe_in {σ : St} {i : Nat} : ∀ {vs : List Nat}, i ∈ vs → i < σ.length → (L2.wipe σ vs)[i]? = some none
  | [], h, _ => by cases h
  | v :: vs, h, hl => by
    unfold L2.wipe
    by_cases e : v = i
    · subst e
      rw [List.getElem?_set_self (by rw [L2.wipe_length]; exact hl)]
    · rw [List.getElem?_set_ne e]
      rcases List.mem_cons.mp h with z | z
      · exact absurd z.symm e
      · exact lwipe_in z hl
theorem lwipe_out {σ : St} {i : Nat} {vs : List Nat} (h : i ∉ vs) : (L2.wipe σ vs)[i]? = σ[i]? := L2.wipe_out h
theorem wipe_eq {σ σ2 : St} {vs : List Nat} (hl : σ2.length = σ.length) (h : ∀ i, i ∉ vs → σ2[i]? = (L2.wipe σ vs)[i]?) : L2.wipe σ2 vs = L2.wipe σ vs := by
  refine List.ext_getElem? fun i => ?_
  by_cases hi : i ∈ vs
  · by_cases hn : i < σ.length
    · rw [lwipe_in hi hn, lwipe_in hi (by rw [hl]; exact hn)]
    · rw [List.getElem?_eq_none (by rw [L2.wipe_length]; omega), List.getElem?_eq_none (by rw [L2.wipe_length]; omega)]
  · rw [lwipe_out hi, h i hi]
section
variable {C : Ct} {w w' : Wd} {H H' : Hp} {σ : St} {ρ ρ' : Env} {vs : List Nat}
theorem unE {i : Nat} (he : RelE C w H σ ρ) : RelE C w H (σ.set i none) (ρ.set i .un) := by
  have ne : ∀ {m : Nat} {s0 : Sl}, s0 ≠ .un → (ρ.set i .un)[m]? = some s0 → i ≠ m := fun {m s0} hs h z => by
    subst z
    have hl : i < ρ.length := by
      have := (List.getElem?_eq_some_iff.mp h).1
      simpa using this
    rw [List.getElem?_set_self hl] at h
    cases h
    exact hs rfl
  refine ⟨by simp [he.len], fun j e h => ?_, fun j e h => ?_, fun j k c1 c2 a h1 h2 h3 h4 => ?_⟩
  · have n := ne (by intro z; cases z) h
    rw [List.getElem?_set_ne n] at h
    obtain ⟨u, h1, h2⟩ := he.val j e h
    exact ⟨u, by rw [List.getElem?_set_ne n]; exact h1, h2⟩
  · have n := ne (by intro z; cases z) h
    rw [List.getElem?_set_ne n] at h
    obtain ⟨a, h1, h2⟩ := he.own j e h
    exact ⟨a, by rw [List.getElem?_set_ne n]; exact h1, h2⟩
  · have n1 := ne (by intro z; cases z) h1
    have n2 := ne (by intro z; cases z) h2
    rw [List.getElem?_set_ne n1] at h1 h3
    rw [List.getElem?_set_ne n2] at h2 h4
    exact he.ap j k c1 c2 a h1 h2 h3 h4
theorem wipeE (he : RelE C w H σ ρ) : ∀ vs : List Nat, RelE C w H (L2.wipe σ vs) (Z.wipe ρ vs)
  | [] => he
  | v :: vs => unE (wipeE he vs)
theorem own_unwipe (he : RelE C w H σ ρ) {a : Addr} (h : Own (L2.wipe σ vs) (Z.wipe ρ vs) a) : Own σ ρ a := by
  obtain ⟨i, c, h1, h2⟩ := h
  have hi : i ∉ vs := fun z => by
    have hl : i < ρ.length := by
      have := (List.getElem?_eq_some_iff.mp h1).1
      rwa [zwipe_length] at this
    rw [zwipe_in z hl] at h1
    cases h1
  rw [zwipe_out hi] at h1
  rw [lwipe_out hi] at h2
  exact ⟨i, c, h1, h2⟩
theorem own_wipe (hn : ∀ i ∈ vs, isOwn ρ[i]? = false) {a : Addr} (h : Own σ ρ a) : Own (L2.wipe σ vs) (Z.wipe ρ vs) a := by
  obtain ⟨i, c, h1, h2⟩ := h
  have hi : i ∉ vs := fun z => by
    have := hn i z
    rw [h1] at this
    cases this
  exact ⟨i, c, by rw [zwipe_out hi]; exact h1, by rw [lwipe_out hi]; exact h2⟩
theorem restore_length (ρ ρ' : Env) : ∀ vs : List Nat, (restore ρ ρ' vs).length = ρ'.length
  | [] => rfl
  | v :: vs => by unfold restore; rw [List.length_set, restore_length ρ ρ' vs]
theorem restore_out {i : Nat} : ∀ {vs : List Nat}, i ∉ vs → (restore ρ ρ' vs)[i]? = ρ'[i]?
  | [], _ => rfl
  | v :: vs, h => by
    simp only [List.mem_cons, not_or] at h
    unfold restore
    rw [List.getElem?_set_ne (fun z => h.1 z.symm)]
    exact restore_out h.2
theorem restore_in {i : Nat} : ∀ {vs : List Nat}, i ∈ vs → i < ρ'.length → (restore ρ ρ' vs)[i]? = some ((ρ[i]?).getD .un)
  | [], h, _ => by cases h
  | v :: vs, h, hl => by
    unfold restore
    by_cases e : v = i
    · subst e
      rw [List.getElem?_set_self (by rw [restore_length]; exact hl)]
    · rw [List.getElem?_set_ne e]
      rcases List.mem_cons.mp h with z | z
      · exact absurd z.symm e
      · exact restore_in z hl
theorem restoreE (h0 : RelE C w H σ ρ) (g : Gr w w') (hn : ∀ i ∈ vs, isOwn ρ[i]? = false) (he : RelE C w' H' (L2.wipe σ vs) (Z.wipe ρ' vs)) :
    RelE C w' H' σ (restore ρ ρ' vs) ∧ (∀ a, Own σ (restore ρ ρ' vs) a → Own (L2.wipe σ vs) (Z.wipe ρ' vs) a) := by
  have hl : ρ'.length = σ.length := by
    have := he.len
    rwa [zwipe_length, L2.wipe_length] at this
  have noO : ∀ {i : Nat} {c : Cell}, (restore ρ ρ' vs)[i]? = some (.own c) → i ∉ vs := fun {i c} h z => by
    have hli : i < ρ'.length := by
      have := (List.getElem?_eq_some_iff.mp h).1
      rwa [restore_length] at this
    rw [restore_in z hli] at h
    have := hn i z
    cases e : ρ[i]? with
    | none => rw [e] at h; simp at h
    | some s =>
      rw [e] at h this
      simp at h
      subst h
      cases this
  have ownT : ∀ {i : Nat} {c : Cell}, (restore ρ ρ' vs)[i]? = some (.own c) → (Z.wipe ρ' vs)[i]? = some (.own c) ∧ (L2.wipe σ vs)[i]? = σ[i]? := fun {i c} h => by
    have z := noO h
    rw [restore_out z] at h
    exact ⟨by rw [zwipe_out z]; exact h, lwipe_out z⟩
  refine ⟨⟨by rw [restore_length]; exact hl, fun i d h => ?_, fun i c h => ?_, fun i j c c' a h1 h2 h3 h4 => ?_⟩, fun a ⟨i, c, h1, h2⟩ => ?_⟩
  · by_cases hi : i ∈ vs
    · have hli : i < ρ'.length := by
        have := (List.getElem?_eq_some_iff.mp h).1
        rwa [restore_length] at this
      rw [restore_in hi hli] at h
      cases e : ρ[i]? with
      | none => rw [e] at h; simp at h
      | some s =>
        rw [e] at h
        simp at h
        subst h
        obtain ⟨v, h1, h2⟩ := h0.val i d e
        exact ⟨v, h1, h2.mono g⟩
    · rw [restore_out hi] at h
      obtain ⟨v, h1, h2⟩ := he.val i d (by rw [zwipe_out hi]; exact h)
      rw [lwipe_out hi] at h1
      exact ⟨v, h1, h2⟩
  · obtain ⟨k1, k2⟩ := ownT h
    obtain ⟨a, q1, q2⟩ := he.own i c k1
    rw [k2] at q1
    exact ⟨a, q1, q2⟩
  · obtain ⟨k1, k2⟩ := ownT h1
    obtain ⟨k3, k4⟩ := ownT h2
    exact he.ap i j c c' a k1 k3 (by rw [k2]; exact h3) (by rw [k4]; exact h4)
  · obtain ⟨k1, k2⟩ := ownT h1
    exact ⟨i, c, k1, by rw [k2]; exact h2⟩
theorem Step.sub {O O' : Addr → Prop} (h : ∀ a, O' a → O a) : Step w H O w H O' := ⟨Gr.refl w, fun _ _ h _ _ => h, fun _ _ h => .inl h, fun _ h => .inl h, fun a z => .inl (h a z), fun _ h => h⟩
/-- one object more that is ours -/
theorem Step.plus {O O' : Addr → Prop} (s : Step w H O w' H' O') (D : Addr) : Step w H (fun a => O a ∨ a = D) w' H' (fun a => O' a ∨ a = D) :=
  ⟨s.gr, fun a o h hl ho => s.keep a o h hl fun z => ho (.inl z), fun a o h => by
    rcases s.newF a o h with z | z | z
    · exact .inl z
    · exact .inr (.inl (.inl z))
    · exact .inr (.inr z), fun a h => by
    rcases s.newL a h with z | z | z
    · exact .inl z
    · exact .inr (.inl (.inl z))
    · exact .inr (.inr z), fun a h => by
    rcases h with h | h
    · rcases s.newO a h with z | z
      · exact .inl (.inl z)
      · exact .inr z
    · exact .inl (.inr h), s.dom⟩
/-- an object of ours is changed -/
theorem updE {st : Store} {D : Addr} {o : HO} (hs : RelSt C w H st) (he : RelE C w H σ ρ) (hf : w.F D = none) (hl : D ∉ w.L) (hn : ¬ Own σ ρ D) (hd : ∃ u, H D = some u) :
    RelSt C w (upd H D o) st ∧ RelE C w (upd H D o) σ ρ ∧ ∀ O : Addr → Prop, Step w H (fun a => O a ∨ a = D) w (upd H D o) (fun a => O a ∨ a = D) := by
  have k : ∀ a u, a ≠ D → H a = some u → upd H D o a = some u := fun a u z h => by rw [upd_ne z]; exact h
  refine ⟨⟨hs.len, hs.nd, fun a u h => k a u (fun z => by rw [z, hf] at h; cases h) (hs.fh a u h), hs.fl, fun l c a h1 h2 => (hs.cell l c a h1 h2).mono (Gr.refl w) fun u => k a u fun z => hl (by rw [← z]; exact List.mem_of_getElem? h2)⟩, ⟨he.len, he.val, fun i c h => ?_, he.ap⟩, fun O => ⟨Gr.refl w, fun a u h _ z => k a u (fun e => z (.inr e)) h, fun _ _ h => .inl h, fun _ h => .inl h, fun _ h => .inl h, fun a h => ?_⟩⟩
  · obtain ⟨a, h1, h2, h3, h4⟩ := he.own i c h
    exact ⟨a, h1, h2.mono (Gr.refl w) fun u => k a u fun z => hn ⟨i, c, h, by rw [← z]; exact h1⟩, h3, h4⟩
  · by_cases e : a = D
    · rw [e, upd_same] at h; cases h
    · rw [upd_ne e] at h; exact h
/-- what is ours stays ours over a step -/
theorem Step.mine {O O' : Addr → Prop} {D : Addr} {u : HO} (s : Step w H O w' H' O') (hd : H D = some u) (hf : w.F D = none) (hl : D ∉ w.L) (hn : ¬ O D) : H' D = some u ∧ w'.F D = none ∧ D ∉ w'.L ∧ ¬ O' D := by
  refine ⟨s.keep D u hd hl hn, ?_, fun z => ?_, fun z => ?_⟩
  · cases e : w'.F D with
    | none => rfl
    | some v =>
      rcases s.newF D v e with z | z | z | z
      · rw [hf] at z; cases z
      · exact absurd z hn
      · rw [hd] at z; cases z
      · exact absurd z hl
  · rcases s.newL D z with z | z | z
    · exact hl z
    · exact hn z
    · rw [hd] at z; cases z
  · rcases s.newO D z with z | z
    · exact hn z
    · rw [hd] at z; cases z
end

/-- a turn of a comprehension -/
def goLc (t : Tg) (mt : M Bool) (me : M D) (vs : List Nat) (x : D) : M (List D) := bind (wipeM vs) fun _ => bind (bindT t x) fun _ => bind mt fun b => if b then bind me fun d => ret [d] else ret []
def lcM (mi : M (List D)) (t : Tg) (mt : M Bool) (me : M D) (vs : List Nat) : M Cell := bind mi fun xs => bind (block vs (turns (goLc t mt me vs) xs)) fun ds => bind (fits ds) fun ds => ret (.lst ds)
abbrev W0 : WX := fun _ _ _ _ => False
abbrev DTs (X : Cx) (W : WX) (ifs : List Expr) (m : M Bool) : Prop := PTs X ifs (tM (ct X) W rB m)
theorem turns_cons {go : D → M (List D)} {x : D} {xs : List D} {ρ : Env} {st : Store} {ds : List D} {ρ' : Env} {st' : Store} (h : turns go (x :: xs) ρ st = .ok ds ρ' st') :
    ∃ a ρ1 st1 b, go x ρ st = .ok a ρ1 st1 ∧ turns go xs ρ1 st1 = .ok b ρ' st' ∧ ds = a ++ b := by
  unfold turns at h
  simp only [bind, ret] at h
  split at h
  · rename_i a ρ1 st1 e1
    split at h
    · rename_i b ρ2 st2 e2
      cases h
      exact ⟨a, ρ1, st1, b, e1, e2, rfl⟩
    · cases h
    · cases h
  · cases h
  · cases h
theorem bind_ok {α β : Type} {m : M α} {f : α → M β} {ρ : Env} {st : Store} {b : β} {ρ' : Env} {st' : Store} (h : bind m f ρ st = .ok b ρ' st') : ∃ a ρ1 st1, m ρ st = .ok a ρ1 st1 ∧ f a ρ1 st1 = .ok b ρ' st' := by
  unfold bind at h
  split at h
  · rename_i a ρ1 st1 e1
    exact ⟨a, ρ1, st1, e1, h⟩
  · cases h
  · cases h
theorem block_ok {α : Type} {vs : List Nat} {m : M α} {ρ : Env} {st : Store} (h : ∀ a ρ' st', block vs m ρ st = .ok a ρ' st' → False) (hx : ∀ x ρ' st', block vs m ρ st = .exc x ρ' st' → False) : block vs m ρ st = .bad := by
  cases e : block vs m ρ st with
  | ok a ρ' st' => exact (h _ _ _ e).elim
  | exc a ρ' st' => exact (hx _ _ _ e).elim
  | bad => rfl
theorem block_inv {α : Type} {vs : List Nat} {m : M α} {ρ : Env} {st : Store} : (∃ a ρ' st', block vs m ρ st = .ok a (restore ρ ρ' vs) st' ∧ m ρ st = .ok a ρ' st' ∧ ∀ i ∈ vs, isOwn ρ[i]? = false) ∨ block vs m ρ st = .bad := by
  unfold block
  by_cases h : (vs.any fun i => isOwn ρ[i]?) = true
  · rw [if_pos h]; exact .inr rfl
  · rw [if_neg h]
    cases e : m ρ st with
    | ok a ρ' st' =>
      refine .inl ⟨a, ρ', st', rfl, rfl, fun i hi => ?_⟩
      cases q : isOwn ρ[i]? with
      | false => rfl
      | true => exact absurd (List.any_eq_true.mpr ⟨i, hi, q⟩) h
    | exc x ρ' st' => exact .inr rfl
    | bad => exact .inr rfl
section
variable {X : Cx} {W : WX} {pos : Pos}
/-- the reading of a comprehension's body -/
theorem lc_read {mi : M (List D)} {t : Tg} {mt : M Bool} {me : M D} {vs : List Nat} (hts : ∀ i ∈ tgS t, i ∈ vs) {σ : St} {H : Hp} {Q : VK} (h : tF (ct X) W (lcM mi t mt me vs) σ H Q) :
    tLc (tI (ct X) W mi) (gM (ct X) t) (tM (ct X) W0 rB mt) (tM (ct X) W0 (rD (ct X)) me) vs σ H Q := by
  obtain ⟨w, ρ, st, h1, h2, h3⟩ := h
  refine ⟨w, ρ, st, h1, h2, ?_⟩
  unfold lcM at h3
  cases e0 : mi ρ st with
  | exc x ρ1 st1 => simp only [bind, e0] at h3; exact h3
  | bad => simp only [bind, e0] at h3
  | ok xs ρ1 st1 =>
    simp only [bind, e0] at h3
    intro J w1 H1 r1 r2 s1 itok D hD
    rcases block_inv (vs := vs) (m := turns (goLc t mt me vs) xs) (ρ := ρ1) (st := st1) with ⟨ds, ρn, stn, eb, et, hno⟩ | eb
    · rw [eb] at h3
      simp only at h3
      unfold fits at h3
      by_cases hfit : ds.length ≤ line
      · rw [if_pos hfit] at h3
        simp only [ret] at h3
        -- the invariant
        have s0 := s1
        obtain ⟨l1, l2, l3⟩ := laid0 (o := .lst []) r1 (wipeE r2 vs) hD
        have nown : ¬ Own (L2.wipe σ vs) (Z.wipe ρ1 vs) D := fun z => by
          obtain ⟨i, c, q1, q2⟩ := own_unwipe r2 z
          obtain ⟨a, e1, e2, _⟩ := r2.own i c q1
          rw [q2] at e1; cases e1
          obtain ⟨u, hu⟩ := e2.there
          rw [hD] at hu; cases hu
        let Inv : Nat → Hp → Prop := fun i H' => ∃ w' ρi sti accv acc rest, RelSt (ct X) w' H' sti ∧ RelE (ct X) w' H' (L2.wipe σ vs) (Z.wipe ρi vs) ∧
          Step w1 (upd H1 D (.lst [])) (fun a => Own (L2.wipe σ vs) (Z.wipe ρ1 vs) a ∨ a = D) w' H' (fun a => Own (L2.wipe σ vs) (Z.wipe ρi vs) a ∨ a = D) ∧
          H' D = some (.lst accv) ∧ RelDs (ct X) w'.F w'.L accv acc ∧ w'.F D = none ∧ D ∉ w'.L ∧ ¬ Own (L2.wipe σ vs) (Z.wipe ρi vs) D ∧ turns (goLc t mt me vs) (xs.drop i) ρi sti = .ok rest ρn stn ∧ acc ++ rest = ds
        refine ⟨fun i m H' => m = xs.length - i ∧ i ≤ xs.length ∧ Inv i H', ⟨xs.length, by simp, Nat.zero_le _, w1, ρ1, st1, [], [], ds, l1, l2, Step.refl, upd_same, .nil, r1.none_F hD, r1.none_L hD, nown, by simpa using et, by simp⟩, ?_⟩
        rintro i m H' ⟨rfl, hi, w', ρi, sti, accv, acc, rest, q1, q2, q3, q4, q5, q6, q7, q8, q9, q10⟩
        by_cases hlt : i < xs.length
        · -- a turn
          have ex : xs[i]? = some xs[i] := by simp [hlt]
          obtain ⟨g1, g2⟩ := (itok w' H' sti (L2.wipe σ vs) (Z.wipe ρi vs) i (q3.gr) q1 q2).1 _ ex
          refine .inr ⟨g1, Inv (i + 1), fun H2 p => ⟨xs.length - (i + 1), by omega, rfl, hlt, p⟩, fun v H2 y => ?_⟩
          obtain ⟨w2, a1, a2, a3, a4⟩ := g2 v H2 y
          rw [List.drop_eq_getElem_cons hlt] at q9
          obtain ⟨b1, ρ3, st3, b2, e1, e2, e3⟩ := turns_cons q9
          obtain ⟨_, ρ4, st4, f1, f2⟩ := bind_ok e1
          cases f1
          obtain ⟨_, ρ5, st5, f3, f4⟩ := bind_ok f2
          have est := bindT_st _ _ _ _ f3
          subst est
          obtain ⟨m1, m2, m3, m4⟩ := a3.mine q4 q6 q7 q8
          refine ⟨w2, Z.wipe ρi vs, st5, xs[i], a1, a2, a4, ρ5, f3, fun σ2 he2 ho2 hk2 hl2 => ?_⟩
          have hw2 : L2.wipe σ2 vs = L2.wipe σ vs := wipe_eq (by rw [hl2, L2.wipe_length]) fun j hj => hk2 j fun z => hj (hts j z)
          refine ⟨hw2, ?_⟩
          obtain ⟨b, ρ6, st6, f5, f6⟩ := bind_ok f4
          have n2 : ¬ Own σ2 ρ5 D := fun z => m4 (ho2 D z)
          refine ⟨w2, ρ5, st5, a1, he2, ?_⟩
          rw [f5]
          intro b' w3 H3 c1 c2 c3 c4
          have c4 : b' = b := c4
          subst c4
          obtain ⟨m5, m6, m7, m8⟩ := c3.mine m1 m2 m3 n2
          have sAll : Step w1 (upd H1 D (.lst [])) (fun a => Own (L2.wipe σ vs) (Z.wipe ρ1 vs) a ∨ a = D) w3 H3 (fun a => Own σ2 ρ6 a ∨ a = D) :=
            q3.trans ((a3.plus D).trans (((Step.sub ho2).plus D).trans (c3.plus D)))
          cases b' with
          | false =>
            rw [if_neg Bool.false_ne_true] at f6 ⊢
            cases f6
            have he6 : RelE (ct X) w3 H3 (L2.wipe σ vs) (Z.wipe ρ3 vs) := by rw [← hw2]; exact wipeE c2 vs
            have on6 : ∀ a, Own (L2.wipe σ vs) (Z.wipe ρ3 vs) a → Own σ2 ρ3 a := fun a z => own_unwipe c2 (by rw [hw2]; exact z)
            refine ⟨w3, ρ3, st3, accv, acc, b2, c1, he6, sAll.trans ((Step.sub on6).plus D), m5, RelDs.mono (a3.gr.trans c3.gr) q5, m6, m7, fun z => m8 (on6 D z), e2, ?_⟩
            rw [← q10, e3]; rfl
          | true =>
            rw [if_pos rfl] at f6 ⊢
            obtain ⟨d, ρ7, st7, f7, f8⟩ := bind_ok f6
            cases f8
            refine ⟨w3, ρ6, st6, c1, c2, ?_⟩
            rw [f7]
            intro y w4 H4 d1 d2 d3 d4
            obtain ⟨m9, m10, m11, m12⟩ := d3.mine m5 m6 m7 m8
            have r5 : RelDs (ct X) w4.F w4.L accv acc := RelDs.mono (a3.gr.trans (c3.gr.trans d3.gr)) q5
            have hlen : accv.length < sizeLine := by
              rw [r5.length]
              have e5 : ds.length = acc.length + (1 + b2.length) := by rw [← q10, e3]; simp; omega
              have : ds.length ≤ sizeLine := by rw [← line_eq]; exact hfit
              omega
            refine ⟨accv, m9, hlen, ?_⟩
            have he7 : RelE (ct X) w4 H4 (L2.wipe σ vs) (Z.wipe ρ3 vs) := by rw [← hw2]; exact wipeE d2 vs
            have on7 : ∀ a, Own (L2.wipe σ vs) (Z.wipe ρ3 vs) a → Own σ2 ρ3 a := fun a z => own_unwipe d2 (by rw [hw2]; exact z)
            obtain ⟨u1, u2, u3⟩ := updE (o := .lst (accv ++ [y])) d1 he7 m10 m11 (fun z => m12 (on7 D z)) ⟨_, m9⟩
            refine ⟨w4, ρ3, st3, accv ++ [y], acc ++ [d], b2, u1, u2, sAll.trans ((d3.plus D).trans (((Step.sub on7).plus D).trans (u3 _))), upd_same, r5.append (.cons d4 .nil), m10, m11, fun z => m12 (on7 D z), e2, ?_⟩
            rw [← q10, e3]; simp
        · -- the end
          have e : i = xs.length := by omega
          subst e
          rw [List.drop_length] at q9
          cases q9
          rw [List.append_nil] at q10
          subst q10
          refine .inl ⟨(itok w' H' stn (L2.wipe σ vs) (Z.wipe ρn vs) xs.length q3.gr q1 q2).2 rfl, ?_⟩
          obtain ⟨z1, z2⟩ := restoreE r2 q3.gr hno q2
          refine h3 D w' H' q1 z1 ⟨s1.gr.trans q3.gr, fun a o ha hl ho => ?_, fun a o ha => ?_, fun a ha => ?_, fun a ha => ?_, fun a ha => ?_⟩ ⟨⟨accv, q4, q5⟩, q6, q7, fun z => q8 (z2 D z)⟩ (s1.dom D hD)
          · have h' := s1.keep a o ha hl ho
            have hne : a ≠ D := fun z => by rw [z, hD] at h'; cases h'
            have nl1 : a ∉ w1.L := fun z => by
              rcases s1.newL a z with z | z | z
              · exact hl z
              · exact ho z
              · rw [z] at ha; cases ha
            refine q3.keep a o (by rw [upd_ne hne]; exact h') nl1 fun z => ?_
            rcases z with z | z
            · rcases s1.newO a (own_unwipe r2 z) with z | z
              · exact ho z
              · rw [z] at ha; cases ha
            · exact hne z
          · rcases q3.newF a o ha with z | (z | z) | z | z
            · exact s1.newF a o z
            · rcases s1.newO a (own_unwipe r2 z) with z | z
              · exact .inr (.inl z)
              · exact .inr (.inr (.inl z))
            · rw [z, q6] at ha; cases ha
            · by_cases hne : a = D
              · rw [hne, q6] at ha; cases ha
              · rw [upd_ne hne] at z; exact .inr (.inr (.inl (s1.dom a z)))
            · rcases s1.newL a z with z | z | z
              · exact .inr (.inr (.inr z))
              · exact .inr (.inl z)
              · exact .inr (.inr (.inl z))
          · rcases q3.newL a ha with z | (z | z) | z
            · exact s1.newL a z
            · rcases s1.newO a (own_unwipe r2 z) with z | z
              · exact .inr (.inl z)
              · exact .inr (.inr z)
            · rw [z] at ha; exact absurd ha q7
            · by_cases hne : a = D
              · rw [hne] at ha; exact absurd ha q7
              · rw [upd_ne hne] at z; exact .inr (.inr (s1.dom a z))
          · rcases q3.newO a (.inl (z2 a ha)) with (z | z) | z
            · rcases s1.newO a (own_unwipe r2 z) with z | z
              · exact .inl z
              · exact .inr z
            · rw [z] at ha; exact absurd (z2 D ha) q8
            · by_cases hne : a = D
              · rw [hne] at ha; exact absurd (z2 D ha) q8
              · rw [upd_ne hne] at z; exact .inr (s1.dom a z)
          · have z := q3.dom a ha
            by_cases hne : a = D
            · rw [hne, upd_same] at z; cases z
            · rw [upd_ne hne] at z; exact s1.dom a z
      · rw [if_neg hfit] at h3
        exact h3.elim
    · rw [eb] at h3
      exact h3.elim
end
end Z

/-! Z9: statements. -/
namespace Z
open PySem PySem.Spec L2
open PyProof.Rows hiding St

section
variable {X : Cx} {W : WX} {pos : Pos}
theorem df_lc {elt tg iter : Expr} {ifs : List Expr} {scope : Scope} {own : List (Str × Nat)} {mi : M (List D)} {t : Tg} {mt : M Bool} {me : M D} (hc : X.calm = true) (hN : X.N.Nodup) (hi : DI X W tg iter mi) (ok : BlkOk X.N X.env.scope scope own)
    (hg : ∀ (s : Shared) (H : Hp) (C : Addr) (cl : List (Str × Addr)) (fp : List Addr), PG (X.blk s H scope (compEnvC scope cl C X.env) fp) tg (gM (ct X) t))
    (ht : ∀ (s : Shared) (H : Hp) (C : Addr) (cl : List (Str × Addr)) (fp : List Addr), DTs (X.blk s H scope (compEnvC scope cl C X.env) fp) W0 ifs mt)
    (he : ∀ (s : Shared) (H : Hp) (C : Addr) (cl : List (Str × Addr)) (fp : List Addr), DE (X.blk s H scope (compEnvC scope cl C X.env) fp) W0 elt me) (hs : ∀ x, foldedSetIterable iter X.env x = pure x) (hts : ∀ i ∈ tgS t, i ∈ own.map (·.2)) :
    DF X W (.ListComp elt [⟨tg, iter, ifs, 0⟩] scope pos) (lcM mi t mt me (own.map (·.2))) :=
  (pe_lc hc hN hi ok hg ht he hs).imp fun σ H Q h => lc_read hts h
theorem dts_nil : DTs X W [] (ret true) := ⟨fun pins s σ H Q I ⟨w, ρ, st, q⟩ => pts_nil.run pins s σ H Q I (q.ret rfl)⟩
theorem dts_one {c : Expr} {m : M Bool} (h : DT X W c m) : DTs X W [c] m := pts_one h
end

/-! ### statements -/
def Fl.wants {C : Ct} (D : Ends) (σ' : St) (w' : Wd) (H' : Hp) : Fl → Prop
  | .next => D.nx σ' H'
  | .brk => D.bk σ' H'
  | .cnt => D.ct σ' H'
  | .ret d => ∀ v, RelD C w'.F w'.L v d → D.rt v H'
def tSW (C : Ct) (W : WX) (w : Wd) (ρ : Env) (st : Store) (m : M Fl) (D : Ends) (σ : St) (H : Hp) : Prop := RelSt C w H st ∧ RelE C w H σ ρ ∧ match m ρ st with
  | .ok f ρ' st' => ∀ σ' w' H', RelSt C w' H' st' → RelE C w' H' σ' ρ' → Step w H (Own σ ρ) w' H' (Own σ' ρ') → f.wants (C := C) D σ' w' H'
  | .exc x ρ' st' => ∀ σ' cls d w' H', RelSt C w' H' st' → RelE C w' H' σ' ρ' → Step w H (Own σ ρ) w' H' (Own σ' ρ') → RelX C w' H' cls d x → W cls d σ' H'
  | .bad => False
def tS (C : Ct) (W : WX) (m : M Fl) : TS := fun D σ H => ∃ w ρ st, tSW C W w ρ st m D σ H
abbrev DS (X : Cx) (W : WX) (s : Stmt) (m : M Fl) : Prop := PS X s (tS (ct X) W m)
abbrev DSs (X : Cx) (W : WX) (s : List Stmt) (m : M Fl) : Prop := PSs X s (tS (ct X) W m)
section
variable {C : Ct} {W : WX} {w : Wd} {ρ : Env} {st : Store} {σ : St} {H : Hp} {En : Ends}
/-- an expression's run ahead of a statement's -/
theorem tSW.bindE {α β : Type} {rel : Wd → β → α → Prop} {m : M α} {f : α → M Fl} (h : tSW C W w ρ st (Z.bind m f) En σ H) :
    tW C W rel w ρ st m σ H fun b H1 => ∃ a w1 ρ1 st1, m ρ st = .ok a ρ1 st1 ∧ rel w1 b a ∧ Step w H (Own σ ρ) w1 H1 (Own σ ρ1) ∧ tSW C W w1 ρ1 st1 (f a) En σ H1 := by
  obtain ⟨h1, h2, h3⟩ := h
  refine ⟨h1, h2, ?_⟩
  unfold Z.bind at h3
  cases e : m ρ st with
  | ok a ρ1 st1 =>
    rw [e] at h3
    intro b w1 H1 r1 r2 s1 rb
    refine ⟨a, w1, ρ1, st1, rfl, rb, s1, r1, r2, ?_⟩
    simp only at h3
    cases e2 : f a ρ1 st1 with
    | ok c ρ2 st2 =>
      rw [e2] at h3
      exact fun d w2 H2 q1 q2 s2 => h3 d w2 H2 q1 q2 (s1.trans s2)
    | exc x ρ2 st2 =>
      rw [e2] at h3
      exact fun σ' cls d w2 H2 q1 q2 s2 rx => h3 σ' cls d w2 H2 q1 q2 (s1.trans s2) rx
    | bad => rw [e2] at h3; exact h3
  | exc x ρ1 st1 =>
    rw [e] at h3
    exact fun cls d w2 H2 q1 q2 s2 rx => h3 σ cls d w2 H2 q1 q2 s2 rx
  | bad => rw [e] at h3; exact h3
theorem tSW.next (h : tSW C W w ρ st (Z.ret .next) En σ H) : En.nx σ H := h.2.2 σ w H h.1 h.2.1 Step.refl
theorem tSW.retV {d : D} {v : V} (h : tSW C W w ρ st (Z.ret (.ret d)) En σ H) (r : RelD C w.F w.L v d) : En.rt v H := h.2.2 σ w H h.1 h.2.1 Step.refl v r
/-- a target's store ahead of a statement's run -/
theorem tSW.bindT {t : Tg} {d : D} {f : Unit → M Fl} (h : tSW C W w ρ st (Z.bind (Z.bindT t d) f) En σ H) {v : V} (r : RelD C w.F w.L v d) :
    gM C t v σ H fun σ' H' => ∃ w1 ρ1 st1, Step w H (Own σ ρ) w1 H' (Own σ' ρ1) ∧ tSW C W w1 ρ1 st1 (f ()) En σ' H' := by
  obtain ⟨h1, h2, h3⟩ := h
  unfold Z.bind at h3
  cases e : Z.bindT t d ρ st with
  | ok u ρ1 st1 =>
    have e1 := bindT_st _ _ _ _ e
    subst e1
    refine ⟨w, ρ, st1, d, h1, h2, r, ρ1, e, fun σ' he' ho hk hl => ⟨w, ρ1, st1, Step.sub ho, h1, he', ?_⟩⟩
    rw [e] at h3
    simp only at h3
    cases e2 : f () ρ1 st1 with
    | ok c ρ2 st2 =>
      rw [e2] at h3
      exact fun d w2 H2 q1 q2 s2 => h3 d w2 H2 q1 q2 ((Step.sub ho).trans s2)
    | exc x ρ2 st2 =>
      rw [e2] at h3
      exact fun σ' cls d w2 H2 q1 q2 s2 rx => h3 σ' cls d w2 H2 q1 q2 ((Step.sub ho).trans s2) rx
    | bad => rw [e2] at h3; exact h3
  | exc x ρ1 st1 =>
    have : ∀ (t : Tg) (d : D) (ρ : Env) (st : Store) (x : D) (ρ1 : Env) (st1 : Store), Z.bindT t d ρ st ≠ .exc x ρ1 st1 := by
      intro t
      refine Tg.rec (motive_1 := fun t => ∀ (d : D) (ρ : Env) (st : Store) (x : D) (ρ1 : Env) (st1 : Store), Z.bindT t d ρ st ≠ .exc x ρ1 st1) (motive_2 := fun t => ∀ (d : List D) (ρ : Env) (st : Store) (x : D) (ρ1 : Env) (st1 : Store), Z.bindTs t d ρ st ≠ .exc x ρ1 st1) ?_ ?_ ?_ ?_ t
      · intro i d ρ st x ρ1 st1 e
        simp only [Z.bindT, setSl] at e
        split at e <;> cases e
      · intro ts ih d ρ st x ρ1 st1 e
        simp only [Z.bindT, Z.bind, viewM] at e
        cases e1 : itemsD (view st d) with
        | none => rw [e1] at e; cases e
        | some ds => rw [e1] at e; exact ih ds ρ st x ρ1 st1 e
      · intro d ρ st x ρ1 st1 e
        cases d <;> cases e
      · intro t r iht ihr d ρ st x ρ1 st1 e
        cases d with
        | nil => cases e
        | cons d ds =>
          simp only [bindTs, Z.bind] at e
          split at e
          · exact ihr _ _ _ _ _ _ e
          · rename_i e1
            exact iht _ _ _ _ _ _ e1
          · cases e
    exact absurd e (this _ _ _ _ _ _ _)
  | bad => rw [e] at h3; exact h3.elim
end
section
variable {X : Cx} {W : WX} {pos : Pos} {e : Expr} {me : M D} {s : Stmt} {ss : List Stmt} {m m' : M Fl}
def seqM (m m' : M Fl) : M Fl := bind m fun f => match f with | .next => m' | f => ret f
theorem tSW.seq {C : Ct} {w : Wd} {ρ : Env} {st : Store} {σ : St} {H : Hp} {D : Ends} (h : tSW C W w ρ st (seqM m m') D σ H) : tSW C W w ρ st m { D with nx := fun σ' H' => tS C W m' D σ' H' } σ H := by
  obtain ⟨h1, h2, h3⟩ := h
  refine ⟨h1, h2, ?_⟩
  unfold seqM bind at h3
  cases e : m ρ st with
  | ok f ρ1 st1 =>
    rw [e] at h3
    intro σ1 w1 H1 r1 r2 s1
    cases f with
    | next =>
      refine ⟨w1, ρ1, st1, r1, r2, ?_⟩
      simp only at h3
      cases e2 : m' ρ1 st1 with
      | ok c ρ2 st2 =>
        rw [e2] at h3
        exact fun d w2 H2 q1 q2 s2 => h3 d w2 H2 q1 q2 (s1.trans s2)
      | exc x ρ2 st2 =>
        rw [e2] at h3
        exact fun σ' cls d w2 H2 q1 q2 s2 rx => h3 σ' cls d w2 H2 q1 q2 (s1.trans s2) rx
      | bad => rw [e2] at h3; exact h3
    | brk => exact h3 σ1 w1 H1 r1 r2 s1
    | cnt => exact h3 σ1 w1 H1 r1 r2 s1
    | ret d => exact h3 σ1 w1 H1 r1 r2 s1
  | exc x ρ1 st1 => rw [e] at h3; exact h3
  | bad => rw [e] at h3; exact h3
theorem dss_nil : DSs X W [] (ret .next) := pss_nil.imp fun D σ H ⟨w, ρ, st, h⟩ => h.next
theorem dss_cons (h1 : DS X W s m) (h2 : DSs X W ss m') : DSs X W (s :: ss) (seqM m m') :=
  (pss_cons h1 h2).imp fun D σ H ⟨w, ρ, st, h⟩ => ⟨w, ρ, st, h.seq⟩
theorem ds_expr (h : DE X W e me) (hs : swapsWith e none pos.line X.env = pure false) : DS X W (.Expr e pos) (bind me fun _ => ret .next) :=
  (ps_expr h hs).imp fun D σ H ⟨w, ρ, st, h⟩ => ⟨w, ρ, st, (h.bindE (rel := rD (ct X))).imp fun b H1 ⟨a, w1, ρ1, st1, _, r, _, q⟩ => q.next⟩
theorem ds_ret (h : DE X W e me) : DS X W (.Return (some e) pos) (bind me fun d => ret (.ret d)) :=
  (ps_ret h).imp fun D σ H ⟨w, ρ, st, h⟩ => ⟨w, ρ, st, (h.bindE (rel := rD (ct X))).imp fun b H1 ⟨a, w1, ρ1, st1, _, r, _, q⟩ => q.retV r⟩
theorem ds_retN : DS X W (.Return none pos) (ret (.ret .non)) := ps_retN.imp fun D σ H ⟨w, ρ, st, h⟩ => h.retV .non
theorem ds_pass : DS X W (.Pass pos) (ret .next) := ps_pass.imp fun D σ H ⟨w, ρ, st, h⟩ => h.next
theorem ds_brk : DS X W (.Break pos) (ret .brk) := ps_break.imp fun D σ H ⟨w, ρ, st, h⟩ => h.2.2 σ w H h.1 h.2.1 Step.refl
theorem ds_cnt : DS X W (.Continue pos) (ret .cnt) := ps_continue.imp fun D σ H ⟨w, ρ, st, h⟩ => h.2.2 σ w H h.1 h.2.1 Step.refl
theorem ds_doc {x : Str} {k : Nat} {p : Pos} : DS X W (.Expr (.Constant (.str x) k p) pos) (ret .next) := ps_doc.imp fun D σ H ⟨w, ρ, st, h⟩ => h.next
theorem ds_ite {c : Expr} {mc : M Bool} {a b : List Stmt} {ma mb : M Fl} (hc : DT X W c mc) (ha : DSs X W a ma) (hb : DSs X W b mb) : DS X W (.If c a b pos) (bind mc fun t => if t then ma else mb) :=
  (ps_if hc ha hb).imp fun D σ H ⟨w, ρ, st, h⟩ => ⟨w, ρ, st, (h.bindE (rel := rB)).imp fun t H1 ⟨t', w1, ρ1, st1, _, r, _, q⟩ => by
    cases r
    cases t with
    | true => exact ⟨w1, ρ1, st1, q⟩
    | false => exact ⟨w1, ρ1, st1, q⟩⟩
/-- target = e -/
theorem ds_asg {tg : Expr} {t : Tg} (h : DE X W e me) (hg : PG X tg (gM (ct X) t)) (hs : swapsWithSole [tg] e pos.line X.env = pure false) (hw : swappedStores [tg] e X.env = pure none) (h1 : (assignEach [tg] X.env).map (·.2) = [assign tg X.env]) :
    DS X W (.Assign [tg] e pos) (bind me fun d => bind (bindT t d) fun _ => ret .next) :=
  (ps_asg h hg hs hw h1).imp fun D σ H ⟨w, ρ, st, h⟩ => ⟨w, ρ, st, (h.bindE (rel := rD (ct X))).imp fun v H1 ⟨d, w1, ρ1, st1, _, r, _, q⟩ => by
    obtain ⟨w2, ρ2, st2, d2, b1, b2, b3, ρ', b4, b5⟩ := q.bindT r
    exact ⟨w2, ρ2, st2, d2, b1, b2, b3, ρ', b4, fun σ' c1 c2 c3 c4 => by
      obtain ⟨w3, ρ3, st3, _, q⟩ := b5 σ' c1 c2 c3 c4
      exact q.next⟩⟩
end
end Z

/-! Z10: what is changed; loops. -/
namespace Z
open PySem PySem.Spec L2
open PyProof.Rows hiding St

section
variable {C : Ct} {W : WX} {α β γ δ : Type} {rel : Wd → β → α → Prop} {rel2 : Wd → δ → γ → Prop} {w : Wd} {ρ : Env} {st : Store} {σ : St} {H : Hp}
/-- the list of a local -/
theorem tW.cellAt {i : Nat} {f : Unit → M γ} {Q : δ → Hp → Prop} (h : tW C W rel2 w ρ st (Z.bind (Z.cellAt i) f) σ H Q) :
    ∃ a vs, σ[i]? = some (some (.ref a)) ∧ H a = some (.lst vs) ∧ tW C W rel2 w ρ st (f ()) σ H Q := by
  obtain ⟨hs, he, h3⟩ := h
  unfold Z.bind Z.cellAt at h3
  cases e : ρ[i]? with
  | none => rw [e] at h3; exact h3.elim
  | some sl =>
    rw [e] at h3
    cases sl with
    | un => exact h3.elim
    | own c =>
      cases c with
      | lst xs =>
        obtain ⟨a, e1, ⟨vs, rc, _⟩, _⟩ := he.own i _ e
        exact ⟨a, vs, e1, rc, hs, he, h3⟩
      | _ => exact h3.elim
    | val d =>
      cases d with
      | ref l =>
        cases e2 : st[l]? with
        | none => simp only [e2] at h3
        | some c =>
          simp only [e2] at h3
          cases c with
          | lst xs =>
            obtain ⟨v, e1, r⟩ := he.val i _ e
            cases r with
            | ref hl =>
              obtain ⟨vs, rc, _⟩ := hs.cell l _ _ e2 hl
              exact ⟨_, vs, e1, rc, hs, he, h3⟩
          | _ => exact h3.elim
      | _ => exact h3.elim
/-- an object of ours gets a new content -/
theorem upd_own {i : Nat} {c c' : Cell} {a : Addr} {o : HO} (hs : RelSt C w H st) (he : RelE C w H σ ρ) (e : ρ[i]? = some (.own c)) (ea : σ[i]? = some (some (.ref a))) (rc : RelC C w (upd H a o) a c') :
    RelSt C w (upd H a o) st ∧ RelE C w (upd H a o) σ (ρ.set i (.own c')) ∧ Step w H (Own σ ρ) w (upd H a o) (Own σ (ρ.set i (.own c'))) := by
  obtain ⟨a', e1, r1, hf, hl⟩ := he.own i c e
  rw [ea] at e1
  cases e1
  have hil : i < ρ.length := (List.getElem?_eq_some_iff.mp e).1
  have k : ∀ x u, x ≠ a → H x = some u → upd H a o x = some u := fun x u z h => by rw [upd_ne z]; exact h
  refine ⟨⟨hs.len, hs.nd, fun x u h => k x u (fun z => by rw [z, hf] at h; cases h) (hs.fh x u h), hs.fl, fun l d x h1 h2 => (hs.cell l d x h1 h2).mono (Gr.refl w) fun u => k x u fun z => hl (by rw [← z]; exact List.mem_of_getElem? h2)⟩,
    ⟨by simpa using he.len, fun j d h => ?_, fun j d h => ?_, fun j m c1 c2 x h1 h2 h3 h4 => ?_⟩, ⟨Gr.refl w, fun x u h _ z => k x u (fun q => z ⟨i, c, e, by rw [q]; exact ea⟩) h, fun _ _ h => .inl h, fun _ h => .inl h, fun x h => .inl ?_, fun x h => ?_⟩⟩
  · by_cases hj : i = j
    · subst hj
      rw [List.getElem?_set_self hil] at h; cases h
    · rw [List.getElem?_set_ne hj] at h
      exact he.val j d h
  · by_cases hj : i = j
    · subst hj
      rw [List.getElem?_set_self hil] at h
      cases h
      exact ⟨a, ea, rc, hf, hl⟩
    · rw [List.getElem?_set_ne hj] at h
      obtain ⟨b, h1, h2, h3, h4⟩ := he.own j d h
      exact ⟨b, h1, h2.mono (Gr.refl w) (fun u => k b u fun z => hj (he.ap i j c d a e h ea (by rw [← z]; exact h1))), h3, h4⟩
  · have pre : ∀ {n : Nat} {c3 : Cell}, (ρ.set i (.own c'))[n]? = some (.own c3) → ∃ c4, ρ[n]? = some (.own c4) := fun {n c3} hn => by
      by_cases hj : i = n
      · subst hj; exact ⟨c, e⟩
      · rw [List.getElem?_set_ne hj] at hn; exact ⟨c3, hn⟩
    obtain ⟨c4, p1⟩ := pre h1
    obtain ⟨c5, p2⟩ := pre h2
    exact he.ap j m c4 c5 x p1 p2 h3 h4
  · obtain ⟨j, d, h1, h2⟩ := h
    by_cases hj : i = j
    · subst hj; exact ⟨i, c, e, h2⟩
    · rw [List.getElem?_set_ne hj] at h1; exact ⟨j, d, h1, h2⟩
  · by_cases q : x = a
    · rw [q, upd_same] at h; cases h
    · rw [upd_ne q] at h; exact h
theorem liveF_some {α : Type} {f : Cell → Option (Cell × α)} {c : Cell} {p : Cell × α} (h : liveF f c = some p) : f c = some p ∧ c.live = true := by
  cases c <;> first | exact ⟨h, rfl⟩ | cases h
/-- a cell gets a new content -/
theorem upd_cell {l : Nat} {c c' : Cell} {a : Addr} {o : HO} (hs : RelSt C w H st) (he : RelE C w H σ ρ) (e : st[l]? = some c) (hv : c.live = true) (ea : w.L[l]? = some a) (rc : RelC C w (upd H a o) a c') :
    RelSt C w (upd H a o) (st.set l c') ∧ RelE C w (upd H a o) σ ρ ∧ Step w H (Own σ ρ) w (upd H a o) (Own σ ρ) := by
  have hm : a ∈ w.L := List.mem_of_getElem? ea
  have hf := hs.fl l c a e ea hv
  have hll : l < st.length := (List.getElem?_eq_some_iff.mp e).1
  have k : ∀ x u, x ≠ a → H x = some u → upd H a o x = some u := fun x u z h => by rw [upd_ne z]; exact h
  refine ⟨⟨by simpa using hs.len, hs.nd, fun x u h => k x u (fun z => by rw [z, hf] at h; cases h) (hs.fh x u h), fun m d x h1 h2 h3 => ?_, fun m d x h1 h2 => ?_⟩, ⟨he.len, he.val, fun j d h => ?_, he.ap⟩, ⟨Gr.refl w, fun x u h hl _ => k x u (fun q => hl (by rw [q]; exact hm)) h, fun _ _ h => .inl h, fun _ h => .inl h, fun x h => .inl h, fun x h => ?_⟩⟩
  · by_cases hj : l = m
    · subst hj
      rw [ea] at h2
      cases h2
      exact hf
    · rw [List.getElem?_set_ne hj] at h1
      exact hs.fl m d x h1 h2 h3
  · by_cases hj : l = m
    · subst hj
      rw [List.getElem?_set_self hll] at h1
      cases h1
      rw [ea] at h2
      cases h2
      exact rc
    · rw [List.getElem?_set_ne hj] at h1
      refine (hs.cell m d x h1 h2).mono (Gr.refl w) fun u => k x u fun z => hj ?_
      obtain ⟨q1, q2⟩ := List.getElem?_eq_some_iff.mp ea
      obtain ⟨q3, q4⟩ := List.getElem?_eq_some_iff.mp h2
      exact (List.getElem_inj hs.nd).mp (by rw [q2, q4, z])
  · obtain ⟨b, h1, h2, h3, h4⟩ := he.own j d h
    exact ⟨b, h1, h2.mono (Gr.refl w) (fun u => k b u fun z => h4 (by rw [z]; exact hm)), h3, h4⟩
  · by_cases q : x = a
    · rw [q, upd_same] at h; cases h
    · rw [upd_ne q] at h; exact h
/-- a local's object is changed -/
theorem tW.up {i : Nat} {f : Cell → Option (Cell × α)} {Q : β → Hp → Prop} (h : tW C W rel w ρ st (upM i f) σ H Q) :
    ∃ a c c' x, σ[i]? = some (some (.ref a)) ∧ RelC C w H a c ∧ f c = some (c', x) ∧ ∀ o b, RelC C w (upd H a o) a c' → rel w b x → Q b (upd H a o) := by
  obtain ⟨hs, he, h3⟩ := h
  unfold upM at h3
  cases e : ρ[i]? with
  | none => rw [e] at h3; exact h3.elim
  | some sl =>
    rw [e] at h3
    cases sl with
    | un => exact h3.elim
    | own c =>
      obtain ⟨a, e1, rc, _⟩ := he.own i _ e
      simp only at h3
      cases ef : f c with
      | none => rw [ef] at h3; exact h3.elim
      | some p =>
        obtain ⟨c', x⟩ := p
        rw [ef] at h3
        refine ⟨a, c, c', x, e1, rc, ef, fun o b r' rb => ?_⟩
        obtain ⟨a1, a2, a3⟩ := upd_own hs he e e1 r'
        exact h3 b w _ a1 a2 a3 rb
    | val d =>
      cases d with
      | ref l =>
        cases e2 : st[l]? with
        | none => simp only [e2] at h3
        | some c =>
          simp only [e2] at h3
          obtain ⟨v, e1, r⟩ := he.val i _ e
          cases r with
          | @ref a _ hl =>
            have rc := hs.cell l _ _ e2 hl
            cases ef : liveF f c with
            | none => rw [ef] at h3; exact h3.elim
            | some p =>
              obtain ⟨c', x⟩ := p
              rw [ef] at h3
              obtain ⟨ef, hv⟩ := liveF_some ef
              refine ⟨a, c, c', x, e1, rc, ef, fun o b r' rb => ?_⟩
              obtain ⟨a1, a2, a3⟩ := upd_cell hs he e2 hv hl r'
              exact h3 b w _ a1 a2 a3 rb
      | _ => exact h3.elim
/-- a local's content -/
theorem tW.peek {i : Nat} {f : D → M γ} {Q : δ → Hp → Prop} (h : tW C W rel2 w ρ st (Z.bind (Z.peek i) f) σ H Q) :
    ∃ v x, σ[i]? = some (some v) ∧ Sees C w H v x ∧ tW C W rel2 w ρ st (f x) σ H Q := by
  obtain ⟨hs, he, h3⟩ := h
  unfold Z.bind Z.peek at h3
  cases e : ρ[i]? with
  | none => rw [e] at h3; exact h3.elim
  | some sl =>
    rw [e] at h3
    cases sl with
    | un => exact h3.elim
    | own c =>
      obtain ⟨a, e1, rc, _⟩ := he.own i _ e
      exact ⟨_, _, e1, rc.sees, hs, he, h3⟩
    | val d =>
      obtain ⟨v, e1, r⟩ := he.val i _ e
      exact ⟨v, _, e1, sees hs r, hs, he, h3⟩
end
section
variable {X : Cx} {W : WX} {pos : Pos} {b : Expr} {mb : M D} {i : Nat} {x : Str} {p : Pos}
structure Nm (X : Cx) (i : Nat) (x : Str) : Prop where
  n : X.N[i]? = some x
  v : Vis X.env.scope x
  d : (x == ("__debug__" : Str)) = false
  c : (x == ("__classdict__" : Str)) = false
theorem Nm.pe (h : Nm X i x) : PE X (.Name x p) (tVar i) := pe_var h.n h.v h.d h.c
/-- an item of a local's list -/
theorem de_subV (n : Nm X i x) (hb : DE X W b mb) (hs : PlainIx b) : DE X W (.Subscript (.Name x p) b pos) (bind (peek i) fun _ => bind mb fun y => bind (peek i) fun x => opt (subD x y)) :=
  (pe_ix sub_D n.pe hb hs).imp fun σ H Q ⟨w, ρ, st, h⟩ => by
    obtain ⟨v, x0, e1, _, h⟩ := h.peek
    refine ⟨v, e1, w, ρ, st, h.bind.imp fun u H1 ⟨y, w1, ρ1, st1, r, _, q⟩ => ?_⟩
    obtain ⟨v', x1, e2, s1, q⟩ := q.peek
    rw [e1] at e2
    cases e2
    obtain ⟨z, e, q⟩ := q.opt
    have hy : view st1 y = y := by cases y <;> first | rfl | simp [subD] at e
    exact ⟨w1, x1, y, z, s1, hy ▸ sees q.1 r, q.1.fh, e, gives_of q⟩
theorem de_biV {f : BI} {y : Str} {p2 : Pos} (hn : BName X y (biV f)) (hc : X.calm = true) (n : Nm X i x) (hs : NoStar X (.Name x p)) :
    DE X W (.Call (.Name y p2) [.Name x p] [] pos) (bind (peek i) fun x => opt (biD f x)) :=
  (callV hn (biV_ty f) (bi_D f hc) (pa_cons n.pe pa_nil (hs [])) (hs []) rfl).imp fun σ H Q ⟨w, ρ, st, h⟩ => by
    obtain ⟨v, x1, e1, s1, q⟩ := h.peek
    obtain ⟨z, e, q⟩ := q.opt
    exact ⟨v, e1, w, v, x1, z, rfl, s1, q.1.fh, e, gives_of q⟩
def cmpVM (op : CmpOp) (i : Nat) (mb : M D) : M Bool := bind (peek i) fun _ => bind mb fun y => bind (peek i) fun x => bind (viewM y) fun y => opt (cmpD op x y)
theorem cmpV_read {op : CmpOp} {σ : St} {H : Hp} {Q : Bool → Hp → Prop} (h : tM (ct X) W rB (cmpVM op i mb) σ H Q) :
    tVar i σ H fun v H1 => tM (ct X) W (rD (ct X)) mb σ H1 fun u H2 => ∃ w x y z, Sees (ct X) w H2 v x ∧ Sees (ct X) w H2 u y ∧ (∀ a o, w.F a = some o → H2 a = some o) ∧ cmpD op x y = some z ∧ Q z H2 := by
  obtain ⟨w, ρ, st, h⟩ := h
  obtain ⟨v, x0, e1, _, h⟩ := h.peek
  refine ⟨v, e1, w, ρ, st, h.bind.imp fun u H1 ⟨y, w1, ρ1, st1, r, _, q⟩ => ?_⟩
  obtain ⟨v', x1, e2, s1, q⟩ := q.peek
  rw [e1] at e2
  cases e2
  obtain ⟨z, e, q⟩ := q.viewBind.opt
  exact ⟨w1, x1, _, z, s1, sees q.1 r, q.1.fh, e, q.ret rfl⟩
theorem de_cmpV {op : CmpOp} (hu : X.A.units + 65 < cLine) (n : Nm X i x) (hb : DE X W b mb) (hm : behindInMarks op b = false) :
    DE X W (.Compare (.Name x p) [op] [b] pos) (bind (cmpVM op i mb) fun t => ret (.bl t)) :=
  dt_bl ((pe_cmpR (cm_D op hu) n.pe hb hm).imp fun σ H Q h => cmpV_read h)
theorem dt_cmpV {op : CmpOp} (hu : X.A.units + 65 < cLine) (n : Nm X i x) (hb : DE X W b mb) (hm : behindInMarks op b = false) :
    DT X W (.Compare (.Name x p) [op] [b] pos) (testM (bind (cmpVM op i mb) fun t => ret (.bl t))) := by
  rw [testM_bl]
  refine (pt_cmpR (cm_D op hu) n.pe hb hm).imp fun σ H Q h => ?_
  obtain ⟨v, e, h⟩ := cmpV_read h
  exact ⟨v, e, h.imp fun u H2 ⟨w, x, y, z, h1, h2, h3, h4, h5⟩ => ⟨w, x, y, z, h1, h2, h3, h4, z, rfl, h5⟩⟩
end
end Z

/-! Z11: methods, stores, loops. -/
namespace Z
open PySem PySem.Spec L2
open PyProof.Rows hiding St

theorem bind_assoc {α β γ : Type} (m : M α) (f : α → M β) (g : β → M γ) : bind (bind m f) g = bind m fun a => bind (f a) g := by
  funext ρ st
  simp only [bind]
  cases m ρ st with
  | ok a ρ' st' => rfl
  | exc => rfl
  | bad => rfl
section
variable {X : Cx} {W : WX} {pos apos : Pos} {b e : Expr} {es : List Expr} {mb me : M D} {ms : M (List D)} {mc : M Cell} {i : Nat} {x : Str} {p : Pos}
/-- the facts of a method's call, but the method -/
structure Mcall (X : Cx) (x : Str) (p : Pos) (name : Str) (apos cpos : Pos) : Prop where
  base : attributeBase (.Name x p) name X.env (eval (.Name x p) X.env) = eval (.Name x p) X.env
  line : (apos.endLine == cpos.line) = true
theorem ty_lst {K : PySem.W.Frag} {a : Addr} {H : Hp} {vs : List V} (h : H a = some (.lst vs)) : tyV K "list" (.ref a) H := .inl ⟨rfl, _, SqL.of h⟩
abbrev rU : Wd → V → Unit → Prop := fun _ v _ => v = .non
theorem rel1 {C : Ct} {F : Hp} {L : List Addr} {vs : List V} {d : D} (r : RelDs C F L vs [d]) : ∃ v, vs = [v] ∧ RelD C F L v d := by
  cases r with
  | cons h r => cases r; exact ⟨_, rfl, h⟩
/-- the list's method with one argument -/
theorem pe_append (n : Nm X i x) (k : Mcall X x p "append" apos pos) (ha : DEs X W [e] ms) (hs : NoStar X e) :
    PE X (.Call (.Attribute (.Name x p) "append" apos) [e] [] pos) (tM (ct X) W rU (bind (cellAt i) fun _ => bind ms fun ds => upM i (mtC .append ds))) :=
  (pe_bm PySem.F.plainAttrs_list PySem.F.slot_list_append PySem.F.type_list_append mt_append n.pe ha k.base (by rw [hs []]; rfl) k.line (hs []) rfl).imp fun σ H Q ⟨w, ρ, st, h⟩ => by
    obtain ⟨a, vs, e1, e2, h⟩ := h.cellAt
    refine ⟨_, e1, ty_lst e2, w, ρ, st, h.bind.imp fun us H1 ⟨ds, w1, ρ1, st1, r, _, q⟩ => ?_⟩
    obtain ⟨a', c, c', u, f1, rc, f2, q⟩ := q.up
    rw [e1] at f1
    cases f1
    cases c with
    | lst xs =>
      obtain ⟨zs, g1, g2⟩ := rc
      cases ds with
      | nil => simp [mtC] at f2
      | cons d ds =>
        cases ds with
        | cons _ _ => simp [mtC] at f2
        | nil =>
          obtain ⟨v, rfl, rv⟩ := rel1 r
          simp only [mtC] at f2
          split at f2
          · rename_i hl
            cases f2
            refine ⟨a, zs, v, rfl, rfl, g1, by rw [g2.length, ← line_eq]; exact hl, q _ _ ⟨_, upd_same, g2.append (.cons rv .nil)⟩ rfl⟩
          · cases f2
    | _ => first | exact (rc : False).elim | (simp [mtC, popC, setC, popS] at f2)
theorem pe_reverse (n : Nm X i x) (k : Mcall X x p "reverse" apos pos) :
    PE X (.Call (.Attribute (.Name x p) "reverse" apos) [] [] pos) (tM (ct X) W rU (bind (cellAt i) fun _ => bind (ret []) fun ds => upM i (mtC .reverse ds))) :=
  (pe_bm0 PySem.F.plainAttrs_list PySem.F.slot_list_reverse PySem.F.type_list_reverse mt_reverse n.pe k.base k.line).imp fun σ H Q ⟨w, ρ, st, h⟩ => by
    obtain ⟨a, vs, e1, e2, h⟩ := h.cellAt
    have h : tW (ct X) W rU w ρ st (upM i (mtC .reverse [])) σ H Q := h
    obtain ⟨a', c, c', u, f1, rc, f2, q⟩ := h.up
    rw [e1] at f1
    cases f1
    cases c with
    | lst xs =>
      obtain ⟨zs, g1, g2⟩ := rc
      simp only [mtC] at f2
      cases f2
      exact ⟨_, e1, ty_lst e2, a, zs, rfl, rfl, g1, q _ _ ⟨_, upd_same, g2.reverse⟩ rfl⟩
    | _ => first | exact (rc : False).elim | (simp [mtC, popC, setC, popS] at f2)
theorem ds_mth {m : M Unit} (h : PE X e (tM (ct X) W rU m)) (hs : swapsWith e none pos.line X.env = pure false) : DS X W (.Expr e pos) (bind m fun _ => ret .next) :=
  (ps_expr h hs).imp fun D σ H ⟨w, ρ, st, h⟩ => ⟨w, ρ, st, (h.bindE (rel := rU)).imp fun b H1 ⟨a, w1, ρ1, st1, _, r, _, q⟩ => q.next⟩
/-- x.pop() -/
theorem de_pop0 (n : Nm X i x) (k : Mcall X x p "pop" apos pos) :
    DE X W (.Call (.Attribute (.Name x p) "pop" apos) [] [] pos) (bind (cellAt i) fun _ => bind (ret none) fun k => upM i (popS k)) :=
  (pe_bm0 PySem.F.plainAttrs_list PySem.F.slot_list_pop PySem.F.type_list_pop mt_pop n.pe k.base k.line).imp fun σ H Q ⟨w, ρ, st, h⟩ => by
    obtain ⟨a, vs, e1, e2, h⟩ := h.cellAt
    have h : tW (ct X) W (rD (ct X)) w ρ st (upM i (popS none)) σ H Q := h
    obtain ⟨a', c, c', u, f1, rc, f2, q⟩ := h.up
    rw [e1] at f1
    cases f1
    cases c with
    | lst xs =>
      obtain ⟨zs, g1, g2⟩ := rc
      simp only [popS, popC] at f2
      split at f2
      · rename_i y hy
        cases f2
        obtain ⟨v, hv, rv⟩ := g2.get hy
        exact ⟨_, e1, ty_lst e2, a, zs, v, rfl, rfl, g1, by rw [g2.length]; exact hv, q _ _ ⟨_, upd_same, g2.dropLast⟩ rv⟩
      · cases f2
    | _ => first | exact (rc : False).elim | (simp [mtC, popC, setC, popS] at f2)
theorem ixN_small {n : Nat} {i : Int} {j : Nat} (h : ixN n i = some j) (hn : n ≤ sizeLine) : -(2 ^ 63) ≤ i ∧ i < 2 ^ 63 := by
  obtain ⟨_, h2, h3, h4⟩ := ixN_seq (ix_eq (n := n) (i := i) ▸ h)
  have e : (sizeLine : Nat) = 16777216 := rfl
  omega
/-- x.pop(k), k small -/
theorem de_pop1 (n : Nm X i x) (k : Mcall X x p "pop" apos pos) (hb : DE X W b mb) (hs : NoStar X b) :
    DE X W (.Call (.Attribute (.Name x p) "pop" apos) [b] [] pos) (bind (cellAt i) fun _ => bind (bind mb fun d => match d with | .int i => ret (some i) | _ => bad) fun k => upM i (popS k)) :=
  (pe_bm PySem.F.plainAttrs_list PySem.F.slot_list_pop PySem.F.type_list_pop mt_popAt n.pe (pa_cons hb pa_nil (hs [])) k.base (by rw [hs []]; rfl) k.line (hs []) rfl).imp fun σ H Q ⟨w, ρ, st, h⟩ => by
    obtain ⟨a, vs, e1, e2, h⟩ := h.cellAt
    rw [bind_assoc] at h
    refine ⟨_, e1, ty_lst e2, w, ρ, st, (h.bind (rel := rD (ct X))).imp fun v H1 ⟨d, w1, ρ1, st1, r, _, q⟩ => ?_⟩
    cases r with
    | int k =>
      have q : tW (ct X) W (rD (ct X)) w1 ρ1 st1 (upM i fun c => popS (some k) c) σ H1 Q := q
      obtain ⟨a', c, c', u, f1, rc, f2, q⟩ := q.up
      rw [e1] at f1
      cases f1
      unfold popS at f2
      simp only at f2
      split at f2
      · rename_i hsm
        cases c with
        | lst xs =>
          obtain ⟨zs, g1, g2⟩ := rc
          simp only [popC] at f2
          split at f2
          · rename_i j hj
            split at f2
            · rename_i y hy
              cases f2
              obtain ⟨v, hv, rv⟩ := g2.get hy
              obtain ⟨s1, s2⟩ := small_d hsm
              exact ⟨a, zs, k, j, v, rfl, rfl, g1, by omega, by omega, by rw [g2.length]; exact (ixN_seq (ix_eq (n := xs.length) (i := k) ▸ hj)).1, hv, q _ _ ⟨_, upd_same, g2.eraseIdx j⟩ rv⟩
            · cases f2
          · cases f2
        | _ => first | exact (rc : False).elim | (simp [mtC, popC, setC, popS] at f2)
      · cases f2
    | _ => exact q.2.2.elim
/-- x[k] = e -/
theorem ds_set {pn pt : Pos} (n : Nm X i x) (he : DE X W e me) (hb : DE X W b mb) (hs : swapsWithSole [.Subscript (.Name x pn) b pt] e pos.line X.env = pure false) (hw : swappedStores [.Subscript (.Name x pn) b pt] e X.env = pure none)
    (h1 : (assignEach [.Subscript (.Name x pn) b pt] X.env).map (·.2) = [assign (.Subscript (.Name x pn) b pt) X.env])
    (ha : ∀ v, assign (.Subscript (.Name x pn) b pt) X.env v = (do
      let ov ← holding [v] (eval (.Name x pn) X.env)
      let iv ← holding [v, ov] (eval b X.env)
      standAt pt
      holding [v, ov, iv] (setItem ov iv v)
      release [v, ov, iv] [])) :
    DS X W (.Assign [.Subscript (.Name x pn) b pt] e pos) (bind (bind me fun d => bind (cellAt i) fun _ => bind mb fun k => upM i (setC k d)) fun _ => ret .next) :=
  (ps_asg he (pg_sub n.pe hb set_list ha) hs hw h1).imp fun D σ H ⟨w, ρ, st, h⟩ => by
    have h := (h.bindE (rel := rU)).imp (Q' := fun _ H1 => D.nx σ H1) fun b H1 ⟨a, w1, ρ1, st1, _, r, _, q⟩ => q.next
    refine ⟨w, ρ, st, (h.bind (rel := rD (ct X))).imp fun v H1 ⟨d, w1, ρ1, st1, r, _, h⟩ => ?_⟩
    obtain ⟨a, vs, e1, e2, h⟩ := h.cellAt
    refine ⟨_, e1, w1, ρ1, st1, (h.bind (rel := rD (ct X))).imp fun u H2 ⟨kd, w2, ρ2, st2, r2, s2, q⟩ => ?_⟩
    obtain ⟨a', c, c', y, f1, rc, f2, q⟩ := q.up
    rw [e1] at f1
    cases f1
    cases c with
    | lst xs =>
      obtain ⟨zs, g1, g2⟩ := rc
      cases r2 with
      | int k =>
        simp only [setC] at f2
        split at f2
        · rename_i j hj
          cases f2
          exact ⟨a, zs, k, j, rfl, rfl, g1, by rw [g2.length, ← ix_eq]; exact hj, q _ _ ⟨_, upd_same, RelDs.set (RelD.mono s2.gr r) j g2⟩ rfl⟩
        · cases f2
      | _ => simp [setC] at f2
    | _ => first | exact (rc : False).elim | (simp [mtC, popC, setC, popS] at f2)
end
end Z

/-! Z12: loops; stores of objects of one's own. -/
namespace Z
open PySem PySem.Spec L2
open PyProof.Rows hiding St

def kL (rest : M Fl) : Fl → M Fl
  | .next => rest
  | .cnt => rest
  | .brk => ret .next
  | .ret d => ret (.ret d)
section
variable {C : Ct} {W : WX} {w w2 : Wd} {ρ : Env} {st : Store} {σ : St} {H H2 : Hp} {En : Ends}
/-- the run is begun a little later -/
theorem tSW.shift {m : M Fl} (h : tSW C W w ρ st m En σ H) (r1 : RelSt C w2 H2 st) (r2 : RelE C w2 H2 σ ρ) (s : Step w H (Own σ ρ) w2 H2 (Own σ ρ)) : tSW C W w2 ρ st m En σ H2 := by
  obtain ⟨h1, h2, h3⟩ := h
  refine ⟨r1, r2, ?_⟩
  split at h3
  · exact fun σ' w' H' q1 q2 s2 => h3 σ' w' H' q1 q2 (s.trans s2)
  · exact fun σ' cls d w' H' q1 q2 s2 rx => h3 σ' cls d w' H' q1 q2 (s.trans s2) rx
  · exact h3
/-- a body's run in a loop -/
theorem tSW.body {mb : M Fl} {rest : M Fl} (h : tSW C W w ρ st (bind mb (kL rest)) En σ H) : tSW C W w ρ st mb { En with
      nx := fun σ' H' => ∃ w' ρ' st', tSW C W w' ρ' st' rest En σ' H' ∧ Gr w w'
      ct := fun σ' H' => ∃ w' ρ' st', tSW C W w' ρ' st' rest En σ' H' ∧ Gr w w'
      bk := En.nx } σ H := by
  obtain ⟨h1, h2, h3⟩ := h
  refine ⟨h1, h2, ?_⟩
  unfold Z.bind at h3
  have go : ∀ {ρ1 : Env} {st1 : Store} {σ1 : St} {w1 : Wd} {H1 : Hp}, RelSt C w1 H1 st1 → RelE C w1 H1 σ1 ρ1 → Step w H (Own σ ρ) w1 H1 (Own σ1 ρ1) →
      (match rest ρ1 st1 with
      | .ok f ρ' st' => ∀ σ' w' H', RelSt C w' H' st' → RelE C w' H' σ' ρ' → Step w H (Own σ ρ) w' H' (Own σ' ρ') → f.wants (C := C) En σ' w' H'
      | .exc x ρ' st' => ∀ σ' cls d w' H', RelSt C w' H' st' → RelE C w' H' σ' ρ' → Step w H (Own σ ρ) w' H' (Own σ' ρ') → RelX C w' H' cls d x → W cls d σ' H'
      | .bad => False) → ∃ w' ρ' st', tSW C W w' ρ' st' rest En σ1 H1 ∧ Gr w w' := by
    intro ρ1 st1 σ1 w1 H1 r1 r2 s1 q
    refine ⟨w1, ρ1, st1, ⟨r1, r2, ?_⟩, s1.gr⟩
    cases e2 : rest ρ1 st1 with
    | ok c ρ2 st2 =>
      rw [e2] at q
      exact fun d w2 H2 q1 q2 s2 => q d w2 H2 q1 q2 (s1.trans s2)
    | exc x ρ2 st2 =>
      rw [e2] at q
      exact fun σ' cls d w2 H2 q1 q2 s2 rx => q σ' cls d w2 H2 q1 q2 (s1.trans s2) rx
    | bad => rw [e2] at q; exact q
  cases e : mb ρ st with
  | ok f ρ1 st1 =>
    rw [e] at h3
    intro σ1 w1 H1 r1 r2 s1
    cases f with
    | next =>
      simp only [kL] at h3
      exact go r1 r2 s1 h3
    | cnt =>
      simp only [kL] at h3
      exact go r1 r2 s1 h3
    | brk =>
      simp only [kL, ret] at h3
      exact h3 σ1 w1 H1 r1 r2 s1
    | ret d =>
      simp only [kL, ret] at h3
      exact h3 σ1 w1 H1 r1 r2 s1
  | exc x ρ1 st1 => rw [e] at h3; exact h3
  | bad => rw [e] at h3; exact h3
end
section
variable {X : Cx} {W : WX} {pos : Pos} {tg iter e : Expr} {me mb : M D} {mi : M (List D)} {t : Tg} {body : List Stmt} {mf : M Fl}
def goFor (t : Tg) (mf : M Fl) (x : D) : M Fl := bind (bindT t x) fun _ => mf
theorem for_read {σ : St} {H : Hp} {D : Ends} (h : tS (ct X) W (bind mi fun xs => loopF (goFor t mf) xs) D σ H) : tFor (tI (ct X) W mi) (gM (ct X) t) (tS (ct X) W mf) D σ H := by
  obtain ⟨w, ρ, st, h1, h2, h3⟩ := h
  refine ⟨w, ρ, st, h1, h2, ?_⟩
  unfold Z.bind at h3
  cases e : mi ρ st with
  | exc x ρ1 st1 => rw [e] at h3; exact fun cls d w' H' a1 a2 a3 a4 => h3 σ cls d w' H' a1 a2 a3 a4
  | bad => rw [e] at h3; exact h3
  | ok xs ρ1 st1 =>
    rw [e] at h3
    intro J w1 H1 r1 r2 s1 itok
    have start : tSW (ct X) W w1 ρ1 st1 (loopF (goFor t mf) (xs.drop 0)) D σ H1 := by
      refine ⟨r1, r2, ?_⟩
      rw [List.drop_zero]
      simp only at h3
      cases e2 : loopF (goFor t mf) xs ρ1 st1 with
      | ok c ρ2 st2 =>
        rw [e2] at h3
        exact fun d w2 H2 q1 q2 s2 => h3 d w2 H2 q1 q2 (s1.trans s2)
      | exc x ρ2 st2 =>
        rw [e2] at h3
        exact fun σ' cls d w2 H2 q1 q2 s2 rx => h3 σ' cls d w2 H2 q1 q2 (s1.trans s2) rx
      | bad => rw [e2] at h3; exact h3
    refine ⟨fun i m σ' H' => m = xs.length - i ∧ i ≤ xs.length ∧ ∃ w' ρ' st', tSW (ct X) W w' ρ' st' (loopF (goFor t mf) (xs.drop i)) D σ' H' ∧ Gr w1 w', ⟨xs.length, by simp, Nat.zero_le _, w1, ρ1, st1, start, Gr.refl w1⟩, ?_⟩
    rintro i m σ' H' ⟨rfl, hi, w', ρ', st', q, g⟩
    by_cases hlt : i < xs.length
    · have ex : xs[i]? = some xs[i] := by simp [hlt]
      obtain ⟨g1, g2⟩ := (itok w' H' st' σ' ρ' i g q.1 q.2.1).1 _ ex
      refine .inr ⟨g1, fun σ2 H2 => ∃ w2 ρ2 st2, tSW (ct X) W w2 ρ2 st2 (loopF (goFor t mf) (xs.drop (i + 1))) D σ2 H2 ∧ Gr w1 w2, fun σ2 H2 p => ⟨xs.length - (i + 1), by omega, rfl, hlt, p⟩, fun v H2 y => ?_⟩
      obtain ⟨w2, a1, a2, a3, a4⟩ := g2 v H2 y
      have q := q.shift a1 a2 a3
      rw [List.drop_eq_getElem_cons hlt] at q
      have q : tSW (ct X) W w2 ρ' st' (bind (goFor t mf xs[i]) (kL (loopF (goFor t mf) (xs.drop (i + 1))))) D σ' H2 := q
      rw [show goFor t mf xs[i] = bind (bindT t xs[i]) fun _ => mf from rfl, bind_assoc] at q
      obtain ⟨w3, ρ3, st3, d3, b1, b2, b3, ρ4, b4, b5⟩ := q.bindT a4
      refine ⟨w3, ρ3, st3, d3, b1, b2, b3, ρ4, b4, fun σ4 c1 c2 c3 c4 => ?_⟩
      obtain ⟨w5, ρ5, st5, s5, q⟩ := b5 σ4 c1 c2 c3 c4
      have q2 := q.body
      refine ⟨w5, ρ5, st5, q2.1, q2.2.1, ?_⟩
      have q3 := q2.2.2
      split at q3
      · rename_i f ρ6 st6 e6
        intro σ6 w6 H6 z1 z2 z3
        have q4 := q3 σ6 w6 H6 z1 z2 z3
        have gg : Gr w1 w5 := (g.trans a3.gr).trans s5.gr
        cases f with
        | next => obtain ⟨w7, ρ7, st7, t1, t2⟩ := q4; exact ⟨w7, ρ7, st7, t1, gg.trans t2⟩
        | cnt => obtain ⟨w7, ρ7, st7, t1, t2⟩ := q4; exact ⟨w7, ρ7, st7, t1, gg.trans t2⟩
        | brk => exact q4
        | ret d => exact q4
      · rename_i x ρ6 st6 e6
        exact q3
      · exact q3.elim
    · have e : i = xs.length := by omega
      subst e
      rw [List.drop_length] at q
      exact .inl ⟨(itok w' H' st' σ' ρ' xs.length g q.1 q.2.1).2 rfl, q.next⟩
theorem ds_for (hp : PassesOwn (model X.prog X.w) X.A X.env X.xe) (hc : X.calm = true) (hi : DI X W tg iter mi) (hg : PG X tg (gM (ct X) t)) (hb : DSs X W body mf) (hs : ∀ x, foldedSetIterable iter X.env x = pure x) :
    DS X W (.For tg iter body [] pos) (bind mi fun xs => loopF (goFor t mf) xs) :=
  (ps_for hp hc hi hg hb hs).imp fun D σ H h => for_read h
theorem ds_whl {mc : M Bool} (hp : PassesOwn (model X.prog X.w) X.A X.env X.xe) (hc : DT X W e mc) (hb : DSs X W body mf) : DS X W (.While e body [] pos) (loopW mc mf many) :=
  (ps_while hp hc hb).imp fun D σ H ⟨w, ρ, st, h⟩ => by
    refine ⟨fun m σ H => ∃ w ρ st, tSW (ct X) W w ρ st (loopW mc mf m) D σ H, ⟨many, w, ρ, st, h⟩, ?_⟩
    clear h
    rintro m σ H ⟨w, ρ, st, h⟩
    cases m with
    | zero => exact h.2.2.elim
    | succ n =>
      have h : tSW (ct X) W w ρ st (bind mc fun t => if t then bind mf (kL (loopW mc mf n)) else ret .next) D σ H := h
      refine ⟨w, ρ, st, (h.bindE (rel := rB)).imp fun b H1 ⟨b', w1, ρ1, st1, _, r, _, q⟩ => ?_⟩
      cases r
      cases b with
      | false =>
        rw [if_neg Bool.false_ne_true] at q ⊢
        exact q.next
      | true =>
        rw [if_pos rfl]
        rw [if_pos rfl] at q
        have q2 := q.body
        exact ⟨_, fun σ' H' ⟨w', ρ', st', t1, t2⟩ => ⟨n, Nat.lt_succ_self n, w', ρ', st', t1⟩, w1, ρ1, st1, q2⟩
end
end Z

/-! Z13: stores of objects of one's own; a, b = x, y. -/
namespace Z
open PySem PySem.Spec L2
open PyProof.Rows hiding St

section
variable {C : Ct} {W : WX} {w : Wd} {ρ : Env} {st : Store} {σ : St} {H : Hp} {En : Ends}
/-- an object that nobody knows goes into a slot -/
theorem ownE {i : Nat} {c : Cell} {p : Addr} (he : RelE C w H σ ρ) (al : Alone C w H σ ρ p c) : RelE C w H (σ.set i (some (.ref p))) (ρ.set i (.own c)) ∧ ∀ a, Own (σ.set i (some (.ref p))) (ρ.set i (.own c)) a → Own σ ρ a ∨ a = p := by
  have hl : ∀ {s : Sl}, (ρ.set i s)[i]? = none ∨ (ρ.set i s)[i]? = some s := fun {s} => by
    by_cases h : i < ρ.length
    · exact .inr (List.getElem?_set_self h)
    · exact .inl (List.getElem?_eq_none (by simp; omega))
  have hs : ∀ {s : Sl}, (ρ.set i s)[i]? = some s → (σ.set i (some (V.ref p)))[i]? = some (some (.ref p)) := fun {s} h => by
    have : i < ρ.length := by
      have := (List.getElem?_eq_some_iff.mp h).1
      simpa using this
    exact List.getElem?_set_self (by rw [← he.len]; exact this)
  have old : ∀ {j : Nat} {c0 : Cell} {a : Addr}, i ≠ j → (ρ.set i (.own c))[j]? = some (.own c0) → (σ.set i (some (V.ref p)))[j]? = some (some (.ref a)) → a ≠ p := fun {j c0 a} hj h1 h2 z => by
    rw [List.getElem?_set_ne hj] at h1 h2
    exact al.no ⟨j, c0, h1, by rw [← z]; exact h2⟩
  refine ⟨⟨by simp [he.len], fun j d h => ?_, fun j d h => ?_, fun j k c1 c2 a h1 h2 h3 h4 => ?_⟩, fun a ⟨j, c0, h1, h2⟩ => ?_⟩
  · by_cases hj : i = j
    · subst hj
      rcases hl (s := .own c) with z | z
      · rw [z] at h; cases h
      · rw [z] at h; cases h
    · rw [List.getElem?_set_ne hj] at h
      obtain ⟨v, h1, h2⟩ := he.val j d h
      exact ⟨v, by rw [List.getElem?_set_ne hj]; exact h1, h2⟩
  · by_cases hj : i = j
    · subst hj
      rcases hl (s := .own c) with z | z
      · rw [z] at h; cases h
      · have z' := z
        rw [h] at z
        cases z
        exact ⟨p, hs z', al.rc, al.nf, al.nl⟩
    · rw [List.getElem?_set_ne hj] at h
      obtain ⟨a, h1, h2⟩ := he.own j d h
      exact ⟨a, by rw [List.getElem?_set_ne hj]; exact h1, h2⟩
  · by_cases hj : i = j
    · by_cases hk : i = k
      · rw [← hj, ← hk]
      · subst hj
        rcases hl (s := .own c) with z | z
        · rw [z] at h1; cases h1
        · rw [hs z] at h3
          cases h3
          exact absurd rfl (old hk h2 h4)
    · by_cases hk : i = k
      · subst hk
        rcases hl (s := .own c) with z | z
        · rw [z] at h2; cases h2
        · rw [hs z] at h4
          cases h4
          exact absurd rfl (old hj h1 h3)
      · rw [List.getElem?_set_ne hj] at h1 h3
        rw [List.getElem?_set_ne hk] at h2 h4
        exact he.ap j k c1 c2 a h1 h2 h3 h4
  · by_cases hj : i = j
    · subst hj
      rcases hl (s := .own c) with z | z
      · rw [z] at h1; cases h1
      · rw [hs z] at h2
        cases h2
        exact .inr rfl
    · rw [List.getElem?_set_ne hj] at h1 h2
      exact .inl ⟨j, c0, h1, h2⟩
/-- a new object as a value, or in a cell: the reading -/
theorem mk_read {mc : M Cell} {k : Kd} {Q : VK} (h : tM C W (rD C) (bind mc fun c => mkC k c) σ H Q) : tF C W mc σ H Q := by
  obtain ⟨w, ρ, st, h1, h2, h3⟩ := h
  refine ⟨w, ρ, st, h1, h2, ?_⟩
  unfold bind at h3
  cases em : mc ρ st with
  | ok c ρ1 st1 =>
    rw [em] at h3
    intro p w1 H1 r1 r2 s1 al hp
    obtain ⟨o, ho⟩ := al.rc.there
    cases k with
    | pure =>
      obtain ⟨b1, b2, b3⟩ := toF r1 r2 ho al.nf al.nl al.no
      refine h3 _ _ _ b1 b2 ⟨s1.gr.trans b3, s1.keep, fun x u hx => ?_, s1.newL, s1.newO, s1.dom⟩ (al.rc.toD al.nl _ b3.f fun u hu => by rw [ho] at hu; cases hu; exact upd_same)
      have hx : upd w1.F p o x = some u := hx
      by_cases hxp : x = p
      · rw [hxp]; exact .inr (.inr (.inl hp))
      · rw [upd_ne hxp] at hx; exact s1.newF x u hx
    | cell =>
      obtain ⟨b1, b2, b3, b4⟩ := toL r1 r2 al.rc al.nf al.nl al.no
      refine h3 _ _ _ b1 b2 ⟨s1.gr.trans b3, s1.keep, s1.newF, fun x hx => ?_, s1.newO, s1.dom⟩ b4
      rcases List.mem_append.mp hx with hx | hx
      · exact s1.newL x hx
      · simp at hx; rw [hx]; exact .inr (.inr hp)
  | exc x ρ1 st1 => rw [em] at h3; exact h3
  | bad => rw [em] at h3; exact h3
end
section
variable {X : Cx} {W : WX} {s : Stmt} {mc : M Cell} {i : Nat}
/-- name = a new object, of one's own -/
theorem ds_own (h : PS X s (tAsg (tF (ct X) W mc) (gName i))) : DS X W s (bind mc fun c => bind (setSl i (.own c)) fun _ => ret .next) :=
  h.imp fun D σ H ⟨w, ρ, st, h1, h2, h3⟩ => ⟨w, ρ, st, h1, h2, by
    unfold bind at h3
    cases em : mc ρ st with
    | exc x ρ1 st1 => rw [em] at h3; exact fun cls d w' H' a1 a2 a3 a4 => h3 σ cls d w' H' a1 a2 a3 a4
    | bad => rw [em] at h3; exact h3
    | ok c ρ1 st1 =>
      rw [em] at h3
      simp only [setSl] at h3
      intro p w1 H1 r1 r2 s1 al hp
      by_cases hl : i < ρ1.length
      · rw [if_pos hl] at h3
        simp only [ret] at h3
        obtain ⟨o1, o2⟩ := ownE (i := i) r2 al
        exact h3 _ w1 H1 r1 o1 ⟨s1.gr, s1.keep, s1.newF, s1.newL, fun a ha => by
          rcases o2 a ha with z | z
          · exact s1.newO a z
          · rw [z]; exact .inr hp, s1.dom⟩
      · rw [if_neg hl] at h3
        exact h3.elim⟩
/-- name = a new object, as a value or in a cell -/
theorem ds_asgF {k : Kd} (h : PS X s (tAsg (tF (ct X) W mc) (gName i))) : DS X W s (bind (bind mc fun c => mkC k c) fun d => bind (bindT (.nm i) d) fun _ => ret .next) :=
  h.imp fun D σ H ⟨w, ρ, st, h⟩ => mk_read (k := k) (Q := fun v H1 => D.nx (σ.set i (some v)) H1) ⟨w, ρ, st, (h.bindE (rel := rD (ct X))).imp fun v H1 ⟨d, w1, ρ1, st1, _, r, _, q⟩ => by
    obtain ⟨w2, ρ2, st2, d2, b1, b2, b3, ρ', b4, b5⟩ := q.bindT r
    simp only [bindT, setSl] at b4
    split at b4
    · cases b4
      obtain ⟨w3, ρ3, st3, _, q⟩ := b5 (σ.set i (some v)) (setE b2 b3) (fun a => own_set) (fun j hj => by rw [List.getElem?_set_ne (fun z => hj (by simp [tgS, z]))]) (by simp)
      exact q.next
    · cases b4⟩
end

/-! ### a, b = x, y -/
def setAll : St → List Nat → List V → St
  | σ, i :: is, v :: vs => setAll (σ.set i (some v)) is vs
  | σ, _, _ => σ
theorem stores_E {C : Ct} {w : Wd} {H : Hp} : ∀ {is : List Nat} {vs : List V} {ds : List D} {σ : St} {ρ ρ' : Env} {st st' : Store}, RelE C w H σ ρ → RelDs C w.F w.L vs ds → stores is ds ρ st = .ok () ρ' st' →
    st' = st ∧ vs.length = is.length ∧ RelE C w H (setAll σ is vs) ρ' ∧ ∀ a, Own (setAll σ is vs) ρ' a → Own σ ρ a
  | [], _, _, σ, ρ, ρ', st, st', he, .nil, e => by cases e; exact ⟨rfl, rfl, he, fun _ z => z⟩
  | [], _, _, σ, ρ, ρ', st, st', he, .cons _ _, e => by cases e
  | i :: is, _, _, σ, ρ, ρ', st, st', he, .nil, e => by cases e
  | i :: is, _, _, σ, ρ, ρ', st, st', he, .cons (v := v) (d := d) h r, e => by
    obtain ⟨u, ρ1, st1, e1, e2⟩ := bind_ok e
    simp only [setSl] at e1
    split at e1
    · cases e1
      obtain ⟨q1, q2, q3, q4⟩ := stores_E (setE he h) r e2
      exact ⟨q1, by simp [q2], q3, fun a z => own_set (q4 a z)⟩
    · cases e1
theorem stores_exc : ∀ {is : List Nat} {ds : List D} {ρ ρ' : Env} {st st' : Store} {x : D}, stores is ds ρ st ≠ .exc x ρ' st'
  | [], [], _, _, _, _, _, e => by cases e
  | [], _ :: _, _, _, _, _, _, e => by cases e
  | _ :: _, [], _, _, _, _, _, e => by cases e
  | i :: is, d :: ds, ρ, _, st, _, _, e => by
    simp only [stores, bind, setSl] at e
    split at e
    · exact stores_exc e
    · rename_i e1
      split at e1
      · cases e1
      · cases e1
    · cases e
section
variable {X : Cx} {W : WX} {s : Stmt} {ms : M (List D)}
theorem ds_par {is : List Nat} {t : TS} (h : PS X s t) (ht : ∀ D σ H, tM (ct X) W (rDs (ct X)) ms σ H (fun vs H1 => vs.length = is.length ∧ D.nx (setAll σ is vs) H1) → t D σ H) : DS X W s (bind ms fun ds => bind (stores is ds) fun _ => ret .next) :=
  h.imp fun D σ H ⟨w, ρ, st, h⟩ => ht D σ H ⟨w, ρ, st, (h.bindE (rel := rDs (ct X))).imp fun vs H1 ⟨ds, w1, ρ1, st1, _, r, _, q⟩ => by
    obtain ⟨h1, h2, h3⟩ := q
    unfold bind at h3
    cases e : stores is ds ρ1 st1 with
    | ok u ρ2 st2 =>
      rw [e] at h3
      obtain ⟨q1, q2, q3, q4⟩ := stores_E h2 r e
      subst q1
      exact ⟨q2, h3 _ w1 H1 h1 q3 (Step.sub q4)⟩
    | exc x ρ2 st2 => exact absurd e stores_exc
    | bad => rw [e] at h3; exact h3.elim⟩
end
/-- a target that is a plain local's name on that line -/
def parN (c : Cc) (line : Nat) : Expr → Option Str
  | .Name id pos => if c.sc.names.lookup id == some .local && pos.line == line then some id else none
  | _ => none
def starB : Expr → Bool
  | .Starred .. => true
  | _ => false
def parNs (c : Cc) (ts : List Expr) : List Str := ts.filterMap (parN c ((ts.head?.map (·.pos.line)).getD 0))
/-- are the stores swapped, and of which names -/
def swapped (c : Cc) (ts vs : List Expr) : Option (Option (List Str)) :=
  if !(ts.length == 2 || ts.length == 3) || vs.length != ts.length then some none
  else if vs.any starB then some none
  else if (parNs c ts).length != ts.length || (parNs c ts).eraseDups.length != (parNs c ts).length then some none
  else if vs.all (foldedForSure 8) then some none
  else if vs.all (constantsAlone 8) then none
  else some (some (parNs c ts))
theorem swapped_ok {c : Cc} {env : PySem.Env} (hs : env.scope = c.sc) (hk : c.sc.kind = .function) {ts vs : List Expr} {kt k2 pt pt2 r} (h : swapped c ts vs = some r) : swappedStores [.Tuple ts kt pt] (.Tuple vs k2 pt2) env = pure r := by
  have hb : env.blockKind = .function := by unfold Env.blockKind; rw [hs, hk]; rfl
  have hp : ∀ line, (fun e => parN c line e) = (fun | .Name id pos => if env.kindOf id == some .local && pos.line == line then some id else none | _ => none) := fun line => by
    funext e
    cases e <;> first | rfl | skip
    rename_i id pos
    show (if c.sc.names.lookup id == some .local && pos.line == line then some id else none) = _
    rw [← hs]; rfl
  have hst : (fun e => starB e) = (fun | .Starred .. => true | _ => false) := by
    funext e
    cases e <;> rfl
  unfold swapped parNs at h
  unfold swappedStores
  rw [hb]
  have hp := hp ((ts.head?.map (·.pos.line)).getD 0)
  have hp' : parN c ((ts.head?.map (·.pos.line)).getD 0) = _ := hp
  have hst' : starB = _ := hst
  rw [hp', hst'] at h
  simp only [bne_self_eq_false, Bool.or_false]
  split at h
  · rename_i h1; cases h; exact if_pos h1
  · rename_i h1
    refine (if_neg h1).trans ?_
    split at h
    · rename_i h2; cases h; exact if_pos h2
    · rename_i h2
      refine (if_neg h2).trans ?_
      split at h
      · rename_i h3; cases h; exact if_pos h3
      · rename_i h3
        refine (if_neg h3).trans ?_
        split at h
        · rename_i h4; cases h; exact if_pos h4
        · rename_i h4
          refine (if_neg h4).trans ?_
          split at h
          · cases h
          · rename_i h5
            cases h
            exact if_neg h5
end Z

/-! ZI: instances. -/
namespace Z
open PySem PySem.Spec L2
open PyProof.Rows hiding St

theorem pickO_rel {C : Ct} {F : Hp} {L : List Addr} {vs : List V} {ds as : List D} {pt : Pat} (r : RelDs C F L vs ds) (h0 : pt.ord = [] → ds = []) (e : pickO ds pt.ord = some as) : RelDs C F L (pt.ord.map fun i => vs.getD i .non) as := by
  cases ho : pt.ord with
  | nil =>
    rw [ho] at e
    have := h0 ho
    subst this
    cases e
    exact .nil
  | cons i o =>
    rw [ho] at e
    exact rel_pick r e
section
variable {X : Cx} {W : WX} {pos p : Pos} {x : Str} {F : Fn} {pats : List Pat} {k : Nat}
/-- a new instance, from where it is made -/
theorem run_mk {pins : List (Addr × Obj)} {σ : St} {H : Hp} {s : Shared} {Q : VK} {Ca f : Addr} {fd : FuncData} {ps : List Str} {vs : List V} {us gs : List Value} {kw : List (Str × Value)} (hm : X.mg x = some (.ref Ca)) (M : Mk X.K Ca f) (hF : FnOk X.prog X.w X.K X.mg X.base (L2.CX X.prog X.w) k f fd ps (spF (ct X) ps.length F))
    (hr : Room (k + 1) X.A) (tk : Takes X W) (I : L2.Inv X pins σ H s) (hb : ∀ a, bindArgs fd ⟨a :: us, kw⟩ = pure (ps.zip (a :: gs))) (rv : Vals vs gs) (hl : vs.length + 1 = ps.length) {w : Wd} {ρ : Env} {st : Store} {ds : List D} (rd : RelDs (ct X) w.F w.L vs ds)
    (q : tW (ct X) W (rD (ct X)) w ρ st (makeM (x, F) ds) σ H Q) : wpAny (model X.prog X.w) X.A (call (.ref Ca) us kw) (EP X pins σ Q) X.xe s := by
  obtain ⟨hs, he, q⟩ := q
  have n1 : H (s.heap.objs.size + 1) = none := I.hok.fresh (Nat.le_succ _)
  have n0 : H s.heap.objs.size = none := I.hok.fresh (Nat.le_refl _)
  have I2 := Inv.made (C := Ca) I
  -- the new instance is a cell
  obtain ⟨a1, a2, a3⟩ := laid0 (o := .own (s.heap.objs.size + 1)) hs he n0
  have n1' : upd H s.heap.objs.size (.own (s.heap.objs.size + 1)) (s.heap.objs.size + 1) = none := by rw [upd_ne (Nat.succ_ne_self _)]; exact n1
  obtain ⟨b1, b2, b3⟩ := laid0 (o := .ins Ca s.heap.objs.size []) a1 a2 n1'
  have hno : ¬ Own σ ρ (s.heap.objs.size + 1) := fun ⟨i, c, h1, h2⟩ => by
    obtain ⟨a, e1, e2, _⟩ := he.own i c h1
    rw [h2] at e1; cases e1
    obtain ⟨u, hu⟩ := e2.there
    rw [n1] at hu; cases hu
  obtain ⟨c1, c2, c3, c4⟩ := toL (c := .ins x []) b1 b2 ⟨Ca, s.heap.objs.size, [], hm, upd_same, rfl, .nil⟩ (hs.none_F n1) (hs.none_L n1) hno
  have r2 : Vals (V.ref (s.heap.objs.size + 1) :: vs) (Value.ref (s.heap.objs.size + 1) :: gs) := .cons rfl rv
  have stp : Step w H (Own σ ρ) ⟨w.F, w.L ++ [s.heap.objs.size + 1]⟩ (upd (upd H s.heap.objs.size (.own (s.heap.objs.size + 1))) (s.heap.objs.size + 1) (.ins Ca s.heap.objs.size [])) (Own σ ρ) := by
    have t := a3.trans b3
    refine ⟨t.gr.trans c3, t.keep, t.newF, fun a ha => ?_, t.newO, t.dom⟩
    rcases List.mem_append.mp ha with z | z
    · exact t.newL a z
    · simp at z; rw [z]; exact .inr (.inr n1)
  refine wpAny_call (make_map (f := f) I.kIn M.makes M.init (beq_iff_eq.mp M.fn) (codeAny_mono (hF.run _ X.stack _ _ ⟨Value.ref (s.heap.objs.size + 1) :: us, kw⟩ (Value.ref (s.heap.objs.size + 1) :: gs) _ (fun v H2 => v = .non ∧ Q (.ref (s.heap.objs.size + 1)) H2) (WE W σ)
    (hr.make Ca us kw) (I2.env0.make Ca us kw) (.of_eq (hb _)) r2 ⟨by simpa using hl, _, _, _, c1, .cons c4 (RelDs.mono c3 rd), ?_⟩) fun r s' hq => ?_))
  · unfold makeM at q
    simp only at q
    cases e : F (.ref st.length :: ds) (st ++ [.ins x []]) with
    | bad => rw [e] at q; exact q
    | exc y st' =>
      rw [e] at q
      intro cls dd w' H' h1 h2 h3
      obtain ⟨e1, e2⟩ := callE c2 h2
      exact q cls dd w' H' h1 e1 (stp.trans e2) h3
    | ok d st' =>
      rw [e] at q
      intro v w' H' h1 h2 h3
      cases d with
      | non =>
        cases h3
        obtain ⟨e1, e2⟩ := callE c2 h2
        exact ⟨rfl, q _ w' H' h1 e1 (stp.trans e2) (RelD.mono h2.gr c4)⟩
      | _ => exact q.elim
  · cases r with
    | error e => exact passAt tk σ pins _ _ e s' I2 hq
    | ok fl =>
      cases fl with
      | ret u =>
        obtain ⟨v, H', I3, rv', ev, q3⟩ := I2.after hq
        subst ev
        exact ⟨rv', ⟨V.ref (s.heap.objs.size + 1), H', I3, rfl, q3⟩⟩
      | next => exact hq.elim
      | brk => exact hq.elim
      | cont => exact hq.elim
theorem de_make {es : List Expr} {kws : List Keyword} {ma mk : M (List D)} {pt : Pat} (c : Maker X.prog X.w (ct X) X.base k x F pats) (hr : Room (k + 1) X.A) (tk : Takes X W) (hg : Gl X x) (hd : (x == ("__debug__" : Str)) = false) (ha : DEs X W es ma) (hk : DKs X W kws mk) (hs : NoStars X es)
    (hp : pt ∈ pats) (hks : kwN kws = some pt.ks) (hnp : es.length = pt.np) (hla : ∀ ρ st ds ρ' st', ma ρ st = .ok ds ρ' st' → ds.length = es.length) (hlk : ∀ ρ st ds ρ' st', mk ρ st = .ok ds ρ' st' → ds.length = kws.length) (hnil : es = [] → ma = ret []) (hnilk : kws = [] → mk = ret []) :
    DE X W (.Call (.Name x p) es kws pos) (bind ma fun ds => bind mk fun ks => bind (opt (pickO (ds ++ ks) pt.ord)) fun as => makeM (x, F) as) := by
  obtain ⟨Ca, f, fd, ps, hm, M, hF, hb⟩ := c.ex
  obtain ⟨ho, h0, hb⟩ := hb pt hp
  obtain ⟨f1, f2, f3⟩ := kw_facts (env := X.env) (pos := pos) hks
  have hlen2 : kws.length = pt.ks.length := by
    have : ∀ {l : List Keyword} {ns : List Str}, kwN l = some ns → l.length = ns.length := by
      intro l
      induction l with
      | nil => intro ns e; simp [kwN] at e; subst e; rfl
      | cons a r ih =>
        intro ns e
        unfold kwN at e ih
        rw [List.mapM_cons] at e
        cases e1 : a.arg with
        | none => rw [e1] at e; simp at e
        | some n =>
          cases e2 : List.mapM (·.arg) r with
          | none => rw [e1, e2] at e; simp at e
          | some ms =>
            rw [e1, e2] at e
            simp at e
            subst e
            simp [ih e2]
    exact this hks
  refine ⟨fun pins s σ H Q I h => ?_⟩
  refine wpAny_Call_Name_kw (ld_glob I hg hm ?_ hd)
  obtain ⟨w0, ρ0, st0, h⟩ := h
  have fin : ∀ {s2 : Shared} {H2 : Hp} {us ws : List Value} {vs zs : List V} {ds ks : List D} {w : Wd} {ρ : Env} {st : Store}, L2.Inv X pins σ H2 s2 → Vals vs us → Vals zs ws → RelDs (ct X) w.F w.L vs ds → RelDs (ct X) w.F w.L zs ks → ds.length = pt.np → ks.length = pt.ks.length →
      tW (ct X) W (rD (ct X)) w ρ st (bind (opt (pickO (ds ++ ks) pt.ord)) fun as => makeM (x, F) as) σ H2 Q → wpAny (model X.prog X.w) X.A (call (.ref Ca) us (pt.ks.zip ws)) (EP X pins σ Q) X.xe s2 := by
    intro s2 H2 us ws vs zs ds ks w ρ st I2 rv rz rd rk l1 l2 q
    obtain ⟨as, e, q⟩ := q.optBind
    refine run_mk hm M hF hr tk I2 (gs := pickV pt.ord (us ++ ws)) (fun a => hb a us ws (by rw [← rv.length, rd.length]; exact l1) (by rw [← rz.length, rk.length]; exact l2)) (vals_pick (rv.append rz)) (by rw [List.length_map]; exact ho) (pickO_rel (rd.append rk) (fun z => ?_) e) q
    obtain ⟨z1, z2⟩ := h0 z
    rw [z1] at l1
    rw [z2] at l2
    rw [List.length_eq_zero_iff.mp l1, List.length_eq_zero_iff.mp l2]
    rfl
  cases es with
  | nil =>
    have em := hnil rfl
    subst em
    have h : tW (ct X) W (rD (ct X)) w0 ρ0 st0 (bind mk fun ks => bind (opt (pickO ([] ++ ks) pt.ord)) fun as => makeM (x, F) as) σ H Q := h
    cases kws with
    | nil =>
      have em := hnilk rfl
      subst em
      have h : tW (ct X) W (rD (ct X)) w0 ρ0 st0 (bind (opt (pickO ([] ++ []) pt.ord)) fun as => makeM (x, F) as) σ H Q := h
      have e0 : pt.ks = [] := List.length_eq_zero_iff.mp hlen2.symm
      have := fin (us := []) (ws := []) (vs := []) (zs := []) (ds := []) (ks := []) I .nil .nil .nil .nil hnp hlen2 h
      rw [e0] at this
      exact PySem.W.callWith_K0 I.kIn M.kp this
    | cons kw kr =>
      exact PySem.W.callWith_KW0 (h₀ := X.base) (first := []) I.ok.mod.kin M.kp f1 (thn (hk.run pos pins s σ H _ I ⟨w0, ρ0, st0, h.bindE⟩) fun ws s2 ⟨zs, H2, I2, rz, ks, w, ρ, st, ek, rk, _, q⟩ => by
        refine ⟨I2.kIn, ?_⟩
        rw [f2]
        exact fin (us := []) (vs := []) (ds := []) I2 .nil rz .nil rk hnp ((hlk _ _ _ _ _ ek).trans hlen2) q) (by rw [f3]; rfl)
  | cons e r =>
    exact PySem.W.callWith_KW (h₀ := X.base) (first := []) I.ok.mod.kin M.kp f1 (thn (ha.run pos pins s σ H _ I ⟨w0, ρ0, st0, h.bindE⟩) fun us s1 ⟨vs, H1, I1, rv, ds, w1, ρ1, st1, ea, rd, _, q1⟩ =>
      thn (hk.run pos pins s1 σ H1 _ I1 ⟨w1, ρ1, st1, q1.bindE⟩) fun ws s2 ⟨zs, H2, I2, rz, ks, w, ρ, st, ek, rk, s12, q⟩ => by
        refine ⟨I2.kIn, ?_⟩
        rw [f2]
        exact fin I2 rv rz (RelDs.mono s12.gr rd) rk ((hla _ _ _ _ _ ea).trans hnp) ((hlk _ _ _ _ _ ek).trans hlen2) q) (by rw [f3, backTo_any hs.1]; rfl) (hs.2 e r rfl)
end

/-! ### fields -/
theorem lookup_rel {C : Ct} {F : Hp} {L : List Addr} {f : Str} {d : D} : ∀ {vs : List (Str × V)} {fs : List (Str × D)}, vs.map (·.1) = fs.map (·.1) → RelDs C F L (vs.map (·.2)) (fs.map (·.2)) → fs.lookup f = some d → ∃ v, vs.lookup f = some v ∧ RelD C F L v d
  | [], [], _, _, e => by simp at e
  | [], _ :: _, n, _, _ => by cases n
  | _ :: _, [], n, _, _ => by cases n
  | (g, v) :: vs, (g', d') :: fs, n, r, e => by
    simp only [List.map_cons, List.cons.injEq] at n
    obtain ⟨rfl, n⟩ := n
    cases r with
    | cons h r =>
      by_cases hg : f == g
      · rw [List.lookup_cons, hg] at e ⊢
        cases e
        exact ⟨v, rfl, h⟩
      · have hg' : (f == g) = false := by simpa using hg
        rw [List.lookup_cons, hg'] at e ⊢
        exact lookup_rel n r e
theorem put_rel {C : Ct} {F : Hp} {L : List Addr} {f : Str} {v : V} {d : D} (h : RelD C F L v d) : ∀ {vs : List (Str × V)} {fs : List (Str × D)}, RelFs C F L vs fs → RelFs C F L (putF f v vs) (putD f d fs)
  | [], [], _ => ⟨rfl, .cons h .nil⟩
  | [], _ :: _, n => by cases n.1
  | _ :: _, [], n => by cases n.1
  | (g, v') :: vs, (g', d') :: fs, n => by
    obtain ⟨n, r⟩ := n
    simp only [List.map_cons, List.cons.injEq] at n
    obtain ⟨rfl, n⟩ := n
    cases r with
    | cons h' r =>
      unfold putF putD
      by_cases hg : g = f
      · rw [if_pos hg, if_pos hg]
        exact ⟨by simp [n], .cons h r⟩
      · rw [if_neg hg, if_neg hg]
        obtain ⟨q1, q2⟩ := put_rel h ⟨n, r⟩
        exact ⟨by simp [q1], .cons h' q2⟩
section
variable {X : Cx} {W : WX} {pos : Pos} {a e : Expr} {ma me : M D} {f : Str} {ats : List (Str × Str)}
theorem de_fld (hat : AtOk (ct X) ats) (ha : DE X W a ma) (hb : attributeBase a f X.env (eval a X.env) = eval a X.env) : DE X W (.Attribute a f pos) (bind ma fun x => bind (viewM x) fun x => opt (fldD ats x f)) :=
  (pe_fld ha hb).imp fun σ H Q h => h.one.imp fun v H1 ⟨x, w, ρ, st, r, q⟩ => by
    obtain ⟨z, e, q⟩ := q.viewBind.opt
    have s1 := sees q.1 r
    cases ex : view st x with
    | ins c fs =>
      rw [ex] at s1 e
      cases s1 with
      | ins hc h n rr =>
        simp only [fldD] at e
        split at e
        · rename_i hin
          obtain ⟨cl, na⟩ := hat c f (List.contains_iff_mem.mp hin) _ hc
          obtain ⟨u, l1, l2⟩ := lookup_rel n rr e
          exact ⟨_, _, _, _, u, rfl, h, cl, na, l1, q.ret l2⟩
        · cases e
    | _ => rw [ex] at e; simp [fldD] at e
theorem tW.fset {C : Ct} {x d : D} {w : Wd} {ρ : Env} {st : Store} {σ : St} {H : Hp} {Q : V → Hp → Prop} {v y : V} (h : tW C W rU w ρ st (fsetM ats x f d) σ H Q) (rv : RelD C w.F w.L v x) (ry : RelD C w.F w.L y d) :
    ∃ a Ca dx c vs, v = .ref a ∧ C.mg c = some (.ref Ca) ∧ (c, f) ∈ ats ∧ H a = some (.ins Ca dx vs) ∧ vs.length < 1000 ∧ Q .non (upd H a (.ins Ca dx (putF f y vs))) := by
  obtain ⟨hs, he, h3⟩ := h
  unfold fsetM at h3
  cases x with
  | ref l =>
    simp only at h3
    cases e : st[l]? with
    | none => simp only [e] at h3
    | some c0 =>
      simp only [e] at h3
      cases c0 with
      | ins c fs =>
        simp only at h3
        by_cases hin : (ats.contains (c, f) && decide (fs.length < 1000)) = true
        · rw [if_pos hin] at h3
          simp only [Bool.and_eq_true, decide_eq_true_eq] at hin
          cases rv with
          | @ref a _ hl =>
            obtain ⟨Ca, dx, vs, hm, hH, n, rr⟩ := hs.cell l _ a e hl
            have hlen : vs.length = fs.length := by
              have := congrArg List.length n
              simpa using this
            obtain ⟨q1, q2⟩ := put_rel ry (vs := vs) (fs := fs) (f := f) ⟨n, rr⟩
            obtain ⟨b1, b2, b3⟩ := upd_cell (o := .ins Ca dx (putF f y vs)) (c' := .ins c (putD f d fs)) hs he e rfl hl ⟨Ca, dx, _, hm, upd_same, q1, q2⟩
            exact ⟨a, Ca, dx, c, vs, rfl, hm, List.contains_iff_mem.mp hin.1, hH, by rw [hlen]; exact hin.2, h3 .non w _ b1 b2 b3 rfl⟩
        · rw [if_neg hin] at h3
          exact h3.elim
      | _ => exact h3.elim
  | _ => exact h3.elim
theorem ds_fset {p' : Pos} (hat : AtOk (ct X) ats) (ha : DE X W a ma) (he : DE X W e me) (hs : swapsWith e (some (.Attribute a f p')) pos.line X.env = pure false) :
    DS X W (.Assign [.Attribute a f p'] e pos) (bind (bind me fun d => bind ma fun x => fsetM ats x f d) fun _ => ret .next) :=
  (ps_fld ha he hs).imp fun D σ H ⟨w, ρ, st, h⟩ => by
    have h := (h.bindE (rel := rU)).imp (Q' := fun _ H1 => D.nx σ H1) fun b H1 ⟨a, w1, ρ1, st1, _, r, _, q⟩ => q.next
    refine ⟨w, ρ, st, (h.bind (rel := rD (ct X))).imp fun y H1 ⟨d, w1, ρ1, st1, r, _, h⟩ => ?_⟩
    refine ⟨w1, ρ1, st1, (h.bind (rel := rD (ct X))).imp fun v H2 ⟨x, w2, ρ2, st2, r2, s2, q⟩ => ?_⟩
    obtain ⟨a, Ca, dx, c, vs, rfl, hm, hin, hH, hl, q⟩ := q.fset r2 (RelD.mono s2.gr r)
    obtain ⟨cl, na⟩ := hat c f hin _ hm
    exact ⟨a, Ca, dx, vs, rfl, hH, cl, na, hl, q⟩
/-! ### isinstance of a class of the module -/
theorem isc_D {kls : List Str} {sub : List (Str × Str)} {w : Wd} {H : Hp} {v : V} {x : D} {c : Str} {b : Bool} (hk : KlOk (ct X) kls sub) (hc : c ∈ kls) (h : Sees (ct X) w H v x) (hf : ∀ a o, w.F a = some o → H a = some o) (e : iscD kls sub x c = some b) :
    ∃ u Ca, X.mg c = some (.ref Ca) ∧ TyX X.K H v u ∧ PySem.W.kitOne X.K u (.ref Ca) = some b := by
  obtain ⟨Ca, hm, _, ht, hy⟩ := hk c hc
  cases h with
  | non => simp only [iscD, Option.some.injEq] at e; subst e; exact ⟨_, Ca, hm, .base .non, ht _ (by decide)⟩
  | bl b => simp only [iscD, Option.some.injEq] at e; subst e; exact ⟨_, Ca, hm, .base (.bl _), ht _ (by decide)⟩
  | int b => simp only [iscD, Option.some.injEq] at e; subst e; exact ⟨_, Ca, hm, .base (.int _), ht _ (by decide)⟩
  | str b => simp only [iscD, Option.some.injEq] at e; subst e; exact ⟨_, Ca, hm, .base (.str _), ht _ (by decide)⟩
  | tup h r => simp only [iscD, Option.some.injEq] at e; subst e; exact ⟨_, Ca, hm, sqT_ty (sqT_mono hf h), ht _ (by decide)⟩
  | lst h r => simp only [iscD, Option.some.injEq] at e; subst e; exact ⟨_, Ca, hm, .base (.lst h), ht _ (by decide)⟩
  | scr h => simp [iscD] at e
  | dct0 h => simp [iscD] at e
  | ins hc' h n r =>
    simp only [iscD] at e
    split at e
    · rename_i hin
      have hin := List.contains_iff_mem.mp hin
      obtain ⟨Cy, hmy, fy, _⟩ := hk _ hin
      rw [hc'] at hmy
      cases hmy
      cases e
      exact ⟨_, Ca, hm, .base (.ins h fy.cl fy.ha fy.hn fy.ht fy.hm), hy _ hin _ hc'⟩
    · cases e
theorem de_isc {x y : Str} {p p2 : Pos} {kls : List Str} {sub : List (Str × Str)} (hk : KlOk (ct X) kls sub) (hc : y ∈ kls) (hn : BName X x (.builtin "isinstance")) (hg : Gl X y) (hd : (y == ("__debug__" : Str)) = false) (ha : DE X W a ma) (hs : NoStar X a) (hs2 : NoStar X (.Name y p2)) :
    DE X W (.Call (.Name x p) [a, .Name y p2] [] pos) (bind ma fun x => bind (viewM x) fun x => bind (opt (iscD kls sub x y)) fun b => ret (.bl b)) := by
  obtain ⟨Ca, hm, _⟩ := hk y hc
  refine (callV hn (.inl ⟨_, rfl⟩) call_isi (pa_cons ha (pa_cons (pe_glob (v := .ref Ca) hg hm rfl hd) pa_nil (hs2 [])) (hs _)) (hs _) (by rw [hs2 []]; rfl)).imp fun σ H Q h => h.one.imp fun v H1 ⟨x, w, ρ, st, r, q⟩ => ?_
  obtain ⟨z, e, q⟩ := q.viewBind.optBind
  obtain ⟨u, Cb, k0, k1, k2⟩ := isc_D hk hc (sees q.1 r) q.1.fh e
  cases hm.symm.trans k0
  exact ⟨v, _, u, _, z, rfl, .own _, k1, k2, q.ret (.bl _)⟩
end
end Z

/-! ZR: == and != with the instance of an own __eq__ on the right of a tuple or None. -/
namespace Z
open PySem PySem.Spec
open PyProof.Rows hiding St
section
variable {prog : Program} {w : World} {A : Around} {E : Value → Shared → Prop} {s : Shared} {K : PySem.W.Frag} {x C f l : Addr} {ox : Obj} {od : Option Obj} {a : Value}
theorem tup_eq_decl {Q : Option Value → Shared → Prop} (hT : s.TypeIs (.ref l) "tuple") (hi : PySem.W.Looks (model prog w) s.heap (isInstance (.ref x) (.type "tuple")) false) (h : Q none s) :
    wpAny (model prog w) A (tryCompare (.ref l) "__eq__" (.ref x)) Q E s := by
  refine wpAny_tryCompare_declines hT F.slot_tuple_eq (wpAny_call (codeAny_call_builtin F.slot_tuple_eq.plain F.entry_tuple_eq (F.slot_tuple_eq.check _ _ _ _ _ _ _ _ hT (F.args_tuple_eq_2 _ _) ?_)))
  unfold Builtin.«tuple.__eq__»
  repeat (first | with_reducible refine wpAny_bind (hi.here ?_) | wp_step)
  all_goals exact ⟨rfl, h⟩
theorem tup_ne_decl {Q : Option Value → Shared → Prop} (hT : s.TypeIs (.ref l) "tuple") (hi : PySem.W.Looks (model prog w) s.heap (isInstance (.ref x) (.type "tuple")) false) (h : Q none s) :
    wpAny (model prog w) A (tryCompare (.ref l) "__ne__" (.ref x)) Q E s := by
  refine wpAny_tryCompare_declines hT F.slot_tuple_ne (wpAny_call (codeAny_call_builtin F.slot_tuple_ne.plain F.entry_tuple_ne (F.slot_tuple_ne.check _ _ _ _ _ _ _ _ hT (F.args_tuple_ne_2 _ _) ?_)))
  unfold Builtin.«tuple.__ne__»
  repeat (first | with_reducible refine wpAny_bind (hi.here ?_) | wp_step)
  all_goals exact ⟨rfl, h⟩
theorem non_eq_decl {Q : Option Value → Shared → Prop} (h : Q none s) : wpAny (model prog w) A (tryCompare .none "__eq__" (.ref x)) Q E s :=
  wpAny_tryCompare_declines (T := "NoneType") rfl F.slot_NoneType_eq (call_gives F.slot_NoneType_eq rfl F.entry_NoneType_eq (F.args_NoneType_eq_2 _ _) (SeqAt.NoneType___eq___none_ref_0 x) ⟨rfl, h⟩)
theorem non_ne_decl {Q : Option Value → Shared → Prop} (h : Q none s) : wpAny (model prog w) A (tryCompare .none "__ne__" (.ref x)) Q E s :=
  wpAny_tryCompare_declines (T := "NoneType") rfl F.slot_NoneType_ne (call_gives F.slot_NoneType_ne rfl F.entry_NoneType_ne (F.args_NoneType_ne_2 _ _) (SeqAt.NoneType___ne___none_ref_0 x) ⟨rfl, h⟩)
/-- the left one has nothing to say -/
def Declines (prog : Program) (w : World) (A : Around) (E : Value → Shared → Prop) (s : Shared) (a : Value) (n : Str) (x : Addr) : Prop := ∀ Q : Option Value → Shared → Prop, Q none s → wpAny (model prog w) A (tryCompare a n (.ref x)) Q E s
theorem ne_bound {M : Model} {args : List Value} {Q : Option Value → Shared → Prop} (X : K.In s.heap) (I : PySem.W.InstAt s.heap x ox C od) (hs : PySem.W.findIn K (.ref C) "__ne__" = some (some (.builtin "object.__ne__")))
    (h : wpAny M A (call (.builtin "object.__ne__") (.ref x :: args)) (fun v => Q (some v)) E s) : wpAny M A (callSpecialIfBound? (.ref x) "__ne__" args) Q E s := by
  simp only [callSpecialIfBound?, bindSpecialIfBound?]
  apply wpAny_holding
  refine wpAny_bind (wpAny_bind (wpAny_bind (I.type.here ?_)))
  refine (PySem.W.looks_findIn X hs).here ?_
  refine wpAny_bind (wpAny_askSetting (wpAny_ite ?_))
  have last : wpAny M A (call (.builtin "object.__ne__") ([.ref x] ++ args) >>= fun v => pure (some v)) Q E s := by
    refine wpAny_bind (wpAny_mono h (fun v s' q => ?_) fun _ _ q => q)
    exact wpAny_pure q
  split
  · exact wpAny_bind (wpAny_of_eq (F.cmp_object.ne.bind _) (wpAny_pure (by exact last)))
  · exact wpAny_tryCatch (wpAny_bind (wpAny_of_eq (F.cmp_object.ne.bind _) (wpAny_pure (by exact last))))
theorem ne_entry {b : Value} {Q : Fin → Shared → Prop} (hu : A.units < cLine) (X : K.In s.heap) (I : PySem.W.InstAt s.heap x ox C od) (hs : PySem.W.findIn K (.ref C) "__eq__" = some (some (.ref f))) (hf : PySem.W.isFn K (.ref f) = true)
    (h : wpAny (model prog w) A (call (.ref f) [.ref x, b]) (fun v s' => ∃ z, v = .bool z ∧ Q (.done (.ret (.bool !z))) s') E s) :
    wpAny (model prog w) A (Builtin.«object.__ne__» ⟨[.ref x, b], []⟩) Q E s := by
  unfold Builtin.«object.__ne__»
  repeat (first | with_reducible refine wpAny_cRoomFor hu ?_ | with_reducible refine PySem.W.ifBound_K X I hs hf (wpAny_mono h (fun v s' hv => ?_) fun _ _ e => e) | wp_step)
  all_goals (obtain ⟨z, rfl, q⟩ := hv)
  all_goals (repeat wp_step)
  all_goals exact q
theorem ne_own {b : Value} {Q : Option Value → Shared → Prop} (hu : A.units + 1 < cLine) (X : K.In s.heap) (I : PySem.W.InstAt s.heap x ox C od) (hm : PySem.W.mroIn K C (.type "object") = some true)
    (hs : PySem.W.findIn K (.ref C) "__eq__" = some (some (.ref f))) (hf : PySem.W.isFn K (.ref f) = true) (hne : PySem.W.findIn K (.ref C) "__ne__" = some (some (.builtin "object.__ne__")))
    (h : wpAny (model prog w) A.in1 (call (.ref f) [.ref x, b]) (fun v s' => ∃ z, v = .bool z ∧ Q (some (.bool !z)) s') E s) : wpAny (model prog w) A (tryCompare (.ref x) "__ne__" b) Q E s := by
  unfold tryCompare
  refine wpAny_bind (ne_bound X I hne ?_)
  refine wpAny_call (codeAny_call_builtin F.cmp_object.ne.plain F.cmpEntry_ne (PySem.W.check_slot F.cmpKind_ne F.cmpSplit_ne (I.type.andThen (PySem.W.looks_mroIn X hm)) (F.cmpArgs_ne _ _) ?_))
  refine ne_entry (A := A.in1) hu X I hs hf (wpAny_mono h (fun v s' hv => ?_) fun _ _ e => e)
  obtain ⟨z, rfl, q⟩ := hv
  exact ⟨z, rfl, wpAny_pure q⟩
theorem eq_own {b : Value} {Q : Option Value → Shared → Prop} (X : K.In s.heap) (I : PySem.W.InstAt s.heap x ox C od) (hs : PySem.W.findIn K (.ref C) "__eq__" = some (some (.ref f))) (hf : PySem.W.isFn K (.ref f) = true)
    (h : wpAny (model prog w) A (call (.ref f) [.ref x, b]) (fun v s' => ∃ z, v = .bool z ∧ Q (some (.bool z)) s') E s) : wpAny (model prog w) A (tryCompare (.ref x) "__eq__" b) Q E s := by
  unfold tryCompare
  refine wpAny_bind (PySem.W.ifBound_K X I hs hf (wpAny_mono h (fun v s' hv => ?_) fun _ _ e => e))
  obtain ⟨z, rfl, q⟩ := hv
  exact wpAny_pure q
theorem cmpR_eq {T : String} {Q : Value → Shared → Prop} (hu : A.units < cLine) (X : K.In s.heap) (I : PySem.W.InstAt s.heap x ox C od) (ho : oneThing? .Eq a (.ref x) = none) (ha : PySem.W.Looks (model prog w) s.heap (typeOf a) (.type T)) (hsub : PySem.W.subIn K (.ref C) (.type T) = some false)
    (hd : Declines prog w A E s a "__eq__" x) (hs : PySem.W.findIn K (.ref C) "__eq__" = some (some (.ref f))) (hf : PySem.W.isFn K (.ref f) = true)
    (h : wpAny (model prog w) A (call (.ref f) [.ref x, a]) (fun v s' => ∃ z, v = .bool z ∧ Q (.bool z) s') E s) : wpAny (model prog w) A (richCompare .Eq a (.ref x)) Q E s := by
  unfold richCompare
  simp only [ho, cmpInfo]
  refine wpAny_holding (wpAny_bind (wpAny_cRoomFor hu ?_))
  refine wpAny_bind (ha.here (wpAny_bind (I.type.here ?_)))
  have hne : ((Value.type T) != (Value.ref C)) = true := by simp
  simp only [hne, if_true]
  refine wpAny_bind ((PySem.W.looks_subIn X hsub).here ?_)
  simp only [Bool.false_eq_true, if_false, Bool.not_false, if_true]
  refine wpAny_bind (m := tryCompare a _ (.ref x)) (hd _ ?_)
  refine wpAny_bind (m := tryCompare (.ref x) _ a) (eq_own X I hs hf (wpAny_mono h (fun v s' hv => ?_) fun _ _ e => e))
  obtain ⟨z, rfl, q⟩ := hv
  exact ⟨z, rfl, wpAny_pure q⟩
theorem cmpR_ne {T : String} {Q : Value → Shared → Prop} (hu : A.units + 1 < cLine) (X : K.In s.heap) (I : PySem.W.InstAt s.heap x ox C od) (ho : oneThing? .NotEq a (.ref x) = none) (ha : PySem.W.Looks (model prog w) s.heap (typeOf a) (.type T)) (hsub : PySem.W.subIn K (.ref C) (.type T) = some false)
    (hd : Declines prog w A E s a "__ne__" x) (hm : PySem.W.mroIn K C (.type "object") = some true) (hs : PySem.W.findIn K (.ref C) "__eq__" = some (some (.ref f))) (hf : PySem.W.isFn K (.ref f) = true) (hne0 : PySem.W.findIn K (.ref C) "__ne__" = some (some (.builtin "object.__ne__")))
    (h : wpAny (model prog w) A.in1 (call (.ref f) [.ref x, a]) (fun v s' => ∃ z, v = .bool z ∧ Q (.bool !z) s') E s) : wpAny (model prog w) A (richCompare .NotEq a (.ref x)) Q E s := by
  unfold richCompare
  simp only [ho, cmpInfo]
  refine wpAny_holding (wpAny_bind (wpAny_cRoomFor (Nat.lt_of_succ_lt hu) ?_))
  refine wpAny_bind (ha.here (wpAny_bind (I.type.here ?_)))
  have hne : ((Value.type T) != (Value.ref C)) = true := by simp
  simp only [hne, if_true]
  refine wpAny_bind ((PySem.W.looks_subIn X hsub).here ?_)
  simp only [Bool.false_eq_true, if_false, Bool.not_false, if_true]
  refine wpAny_bind (m := tryCompare a _ (.ref x)) (hd _ ?_)
  refine wpAny_bind (m := tryCompare (.ref x) _ a) (ne_own hu X I hm hs hf hne0 (wpAny_mono h (fun v s' hv => ?_) fun _ _ e => e))
  obtain ⟨z, rfl, q⟩ := hv
  exact ⟨z, rfl, wpAny_pure q⟩
theorem ne_K {h₀ : Heap} {L : Addr} {m : Str → Option Value} {b tb : Value} {Q : Value → Shared → Prop} (hu : A.units + 1 < cLine) (Fr0 : Fr h₀ L s.heap m) (X₀ : K.In h₀) (I : PySem.W.InstAt s.heap x ox C od) (hm : PySem.W.mroIn K C (.type "object") = some true) (hb : PySem.W.Looks (model prog w) s.heap (typeOf b) tb) (hn : PySem.W.notFirst K C tb = true)
    (hs : PySem.W.findIn K (.ref C) "__eq__" = some (some (.ref f))) (hf : PySem.W.isFn K (.ref f) = true) (hne : PySem.W.findIn K (.ref C) "__ne__" = some (some (.builtin "object.__ne__")))
    (h : wpAny (model prog w) A.in1 (call (.ref f) [.ref x, b]) (fun v s' => ∃ z, v = .bool z ∧ Q (.bool !z) s') E s) : wpAny (model prog w) A (richCompare .NotEq (.ref x) b) Q E s := by
  have X := X₀.keeps Fr0.keep
  have hu0 : A.units < cLine := Nat.lt_of_succ_lt hu
  have one : wpAny (model prog w) A (tryCompare (.ref x) "__ne__" b) (fun r s' => ∃ v, r = some v ∧ Q v s') E s := by
    unfold tryCompare
    refine wpAny_bind (ne_bound X I hne ?_)
    refine wpAny_call (codeAny_call_builtin F.cmp_object.ne.plain F.cmpEntry_ne (PySem.W.check_slot F.cmpKind_ne F.cmpSplit_ne (I.type.andThen (PySem.W.looks_mroIn X hm)) (F.cmpArgs_ne _ _) ?_))
    refine ne_entry (A := A.in1) hu X I hs hf (wpAny_mono h (fun v s' hv => ?_) fun _ _ e => e)
    obtain ⟨z, rfl, q⟩ := hv
    exact ⟨z, rfl, wpAny_pure ⟨_, rfl, q⟩⟩
  unfold richCompare
  have e1 : oneThing? .NotEq (.ref x) b = none := by first | rfl | simp [oneThing?] | exact oneThing_ref
  simp only [e1, cmpInfo]
  refine wpAny_holding (wpAny_bind (wpAny_cRoomFor hu0 ?_))
  refine wpAny_bind (I.type.here ?_)
  refine wpAny_bind (hb.here ?_)
  split
  · rename_i q
    have e : PySem.W.subIn K tb (.ref C) = some false := by
      unfold PySem.W.notFirst at hn
      rcases Bool.or_eq_true_iff.mp hn with e | e
      · rw [beq_iff_eq.mp e] at q
        simp at q
      · exact beq_iff_eq.mp e
    refine wpAny_bind ((PySem.W.looks_subIn X e).here ?_)
    simp only [Bool.false_eq_true, if_false]
    refine wpAny_bind (wpAny_mono one (fun r s' z => ?_) fun _ _ e => e)
    obtain ⟨v, rfl, hq⟩ := z
    exact wpAny_pure hq
  · refine wpAny_bind (wpAny_pure ?_)
    simp only [Bool.false_eq_true, if_false]
    refine wpAny_bind (wpAny_mono one (fun r s' z => ?_) fun _ _ e => e)
    obtain ⟨v, rfl, hq⟩ := z
    exact wpAny_pure hq
end
end Z

/-! ZQ: == by an own __eq__, an instance on the left. -/
namespace Z
open PySem PySem.Spec L2
open PyProof.Rows hiding St

theorem ty_of {X : Cx} {kls : List Str} {sub : List (Str × Str)} {w : Wd} {H : Hp} {v : V} {x : D} (hk : KlOk (ct X) kls sub) (h : Sees (ct X) w H v x) (hf : ∀ a o, w.F a = some o → H a = some o) (e : kindB kls x = true) :
    ∃ t, TyX X.K H v t ∧ ((∃ T ∈ tyNames, t = .type T) ∨ ∃ y ∈ kls, ∃ Cy, X.mg y = some (.ref Cy) ∧ t = .ref Cy) := by
  cases h with
  | non => exact ⟨_, .base .non, .inl ⟨"NoneType", by decide, rfl⟩⟩
  | bl b => exact ⟨_, .base (.bl _), .inl ⟨"bool", by decide, rfl⟩⟩
  | int b => exact ⟨_, .base (.int _), .inl ⟨"int", by decide, rfl⟩⟩
  | str b => exact ⟨_, .base (.str _), .inl ⟨"str", by decide, rfl⟩⟩
  | tup h r => exact ⟨_, sqT_ty (sqT_mono hf h), .inl ⟨"tuple", by decide, rfl⟩⟩
  | lst h r => exact ⟨_, .base (.lst h), .inl ⟨"list", by decide, rfl⟩⟩
  | scr h => simp [kindB] at e
  | dct0 h => simp [kindB] at e
  | ins hc h n r =>
    have hin := List.contains_iff_mem.mp (show kls.contains _ = true from e)
    obtain ⟨Cy, hmy, fy, _⟩ := hk _ hin
    have e2 := hmy.symm.trans hc
    cases e2
    exact ⟨_, .base (.ins h fy.cl fy.ha fy.hn fy.ht fy.hm), .inr ⟨_, hin, _, hc, rfl⟩⟩
section
variable {X : Cx} {k : Nat} {kls : List Str} {sub : List (Str × Str)} {c : Str} {F : Fn}
/-- the reading: the world, the two values, what __eq__ answers -/
def rEqo (C : Ct) (kls : List Str) (c : Str) (F : Fn) (neg : Bool) : R2 := fun v u H Q => ∃ (w : Wd) (st : Store) (x y : D) (q : D × D), RelSt C w H st ∧ RelD C w.F w.L v x ∧ RelD C w.F w.L u y ∧ eqoWay kls c st x y = some q ∧ match F [q.1, q.2] st with
  | .ok (.bl b) st' => ∀ w' H', RelSt C w' H' st' → Step w H (fun _ => False) w' H' (fun _ => False) → Q (.bl (if neg then !b else b)) H'
  | _ => False
/-- the call of an own __eq__ -/
theorem eqo_call {A : Around} {pins : List (Addr × Obj)} {s : Shared} {σ : St} {H : Hp} {f : Addr} {fd : FuncData} {ps : List Str} {v u : V} {a b : Value} {x y : D} {w : Wd} {st : Store} {Q : VK} (neg : Bool) {Ef : Value → Shared → Prop}
    (hF : FnOk X.prog X.w X.K X.mg X.base (L2.CX X.prog X.w) k f fd ps (spF (ct X) ps.length F)) (hl : ps.length = 2) (hb : ∀ us : List Value, us.length = 2 → bindArgs fd ⟨us, []⟩ = pure (ps.zip us)) (I : Inv X pins σ H s) (hr : Room k A) (e0 : Env0 X.prog X.w X.K X.mg X.base A X.stack s H) (ra : L2.RelV v a) (rb : L2.RelV u b) (hs : RelSt (ct X) w H st) (rv : RelD (ct X) w.F w.L v x) (ru : RelD (ct X) w.F w.L u y)
    (h : match F [x, y] st with
      | .ok (.bl b) st' => ∀ w' H', RelSt (ct X) w' H' st' → Step w H (fun _ => False) w' H' (fun _ => False) → Q (.bl (if neg then !b else b)) H'
      | _ => False) : wpAny (model X.prog X.w) A (call (.ref f) [a, b]) (fun v' s' => ∃ z, v' = .bool z ∧ EP X pins σ Q (.bool (if neg then !z else z)) s') Ef s := by
  refine wpAny_call (codeAny_mono (hF.run A X.stack s H ⟨[a, b], []⟩ [a, b] [v, u] (fun v H' => ∃ z, v = .bl z ∧ Q (.bl (if neg then !z else z)) H') (fun _ _ _ => False) hr e0 (.of_eq (hb _ rfl)) (.cons ra (.cons rb .nil))
    ⟨hl.symm, w, [x, y], st, hs, .cons rv (.cons ru .nil), ?_⟩) fun r s' hq => ?_)
  · cases e : F [x, y] st with
    | ok d st' =>
      rw [e] at h
      cases d with
      | bl z =>
        intro v w' H' r1 s1 r2
        cases r2
        exact ⟨z, rfl, h w' H' r1 s1⟩
      | _ => exact h.elim
    | exc d st' => rw [e] at h; exact h.elim
    | bad => rw [e] at h; exact h.elim
  · cases r with
    | error er =>
      obtain ⟨_, _, _, _, _, _, _, _, _, _, _, _, z⟩ := (show L2.CX X.prog X.w X.stack H s (fun _ _ _ => False) er s' from hq)
      exact z.elim
    | ok fl =>
      cases fl with
      | ret v' =>
        obtain ⟨v0, H', I', r0, z, rfl, q⟩ := I.after hq
        cases (show v' = Value.bool z from r0)
        exact ⟨z, rfl, .bl _, H', I', rfl, q⟩
      | next => exact hq.elim
      | brk => exact hq.elim
      | cont => exact hq.elim
theorem eqo_ways {kls : List Str} {c : Str} {st : Store} {x y : D} {q : D × D} (h : eqoWay kls c st x y = some q) : (insOf st x = some c ∧ kindB kls (view st y) = true ∧ q = (x, y)) ∨ (insOf st y = some c ∧ leftB (view st x) = true ∧ q = (y, x)) := by
  unfold eqoWay at h
  by_cases h1 : insOf st x = some c ∧ kindB kls (view st y) = true
  · rw [if_pos h1] at h; cases h; exact .inl ⟨h1.1, h1.2, rfl⟩
  · rw [if_neg h1] at h
    by_cases h2 : insOf st y = some c ∧ leftB (view st x) = true
    · rw [if_pos h2] at h; cases h; exact .inr ⟨h2.1, h2.2, rfl⟩
    · rw [if_neg h2] at h; cases h
theorem ins_view {st : Store} {x : D} {c : Str} (h : insOf st x = some c) : ∃ fs, view st x = .ins c fs := by
  unfold insOf at h
  cases e : view st x <;> rw [e] at h <;> first | (cases h; done) | skip
  simp only [Option.some.injEq] at h
  subst h
  exact ⟨_, rfl⟩
theorem op_eqo (q : EqC X.prog X.w (ct X) X.base k kls c F) (hk : KlOk (ct X) kls sub) (hr : Room k X.A) : OpR X (compareOp .Eq) (rEqo (ct X) kls c F false) := by
  intro pins s σ H v u a b Q I ra rb ⟨w, st, x, y, q2, hs, rv, ru, hway, h⟩
  obtain ⟨Ca, f, fd, ps, hm, hfi, hfn, hF, hl, hb, hn1, hn2, hck, hne, hs1, hs2⟩ := q.ex
  have sx := sees hs rv
  have sy := sees hs ru
  obtain ⟨m, hFr⟩ := I.fr
  rcases eqo_ways hway with ⟨hi, hkd, rfl⟩ | ⟨hi, hkd, rfl⟩
  · obtain ⟨fs, ex⟩ := ins_view hi
    rw [ex] at sx
    cases sx with
    | @ins ax Cx' dx _ vs _ hc hH hnm rr =>
      have e2 := hm.symm.trans hc
      cases e2
      cases ra
      obtain ⟨t, ht, hkind⟩ := ty_of hk sy hs.fh hkd
      obtain ⟨Pk, kx, pk, _⟩ := kit_of I rb ht
      obtain ⟨mA, J, _⟩ := ins_get I.hok hH
      obtain ⟨od, J, _⟩ := J.look
      have hnf : PySem.W.notFirst X.K Ca t = true := by
        rcases hkind with ⟨T, hT, rfl⟩ | ⟨z, hz, Cy, hmz, rfl⟩
        · exact hn1 T hT
        · exact hn2 z hz Cy hmz
      show wpAny (model X.prog X.w) X.A (richCompare .Eq (.ref ax) b) (EP X pins σ Q) X.xe s
      refine PySem.W.cmp_K (op := .Eq) (tb := t) hr.units0 hFr I.ok.mod.kin J (kx.ty _ _ I.kIn pk) hnf hfi hfn ?_
      refine wpAny_mono (eqo_call (Q := Q) false hF hl hb I hr I.env0 (show L2.RelV (V.ref ax) (Value.ref ax) from rfl) rb hs rv ru h) (fun v' s' hv => ?_) fun _ _ e => e
      obtain ⟨z, rfl, q⟩ := hv
      exact q
  · obtain ⟨fs, ey⟩ := ins_view hi
    rw [ey] at sy
    cases sy with
    | @ins ax Cx' dx _ vs _ hc hH hnm rr =>
      have e2 := hm.symm.trans hc
      cases e2
      cases rb
      obtain ⟨mA, J, _⟩ := ins_get I.hok hH
      obtain ⟨od, J, _⟩ := J.look
      have hX : X.K.In s.heap := I.kIn
      have call := eqo_call (Q := Q) (Ef := X.xe) false hF hl hb I hr I.env0 (show L2.RelV (V.ref ax) (Value.ref ax) from rfl) ra hs ru rv h
      obtain ⟨t, ht, hkind⟩ := ty_of hk (sees hs rv) hs.fh (show kindB kls (view st x) = true by cases e : view st x <;> rw [e] at hkd <;> first | rfl | (cases hkd; done))
      cases ex : view st x with
      | non =>
        rw [ex] at sx
        cases sx
        cases (show a = Value.none from ra)
        show wpAny (model X.prog X.w) X.A (richCompare .Eq .none (.ref ax)) (EP X pins σ Q) X.xe s
        exact cmpR_eq (T := "NoneType") hr.units0 hX J (by first | rfl | simp [oneThing?]) (PySem.W.kitx_none.ty _ _ I.kIn True.intro) hs2 (fun Q hq => non_eq_decl hq) hfi hfn (wpAny_mono call (fun v' s' ⟨z, e1, q⟩ => ⟨z, e1, q⟩) fun _ _ e => e)
      | tup ds =>
        rw [ex] at sx
        cases sx with
        | @tup p vs' _ hT rr' =>
          cases ra
          obtain ⟨its, r, ⟨o, ho, hcl, n, hd⟩, hz⟩ := I.tuple (sqT_mono hs.fh hT)
          obtain ⟨Pk, kx, pk, _⟩ := kit_of I (show L2.RelV (V.ref p) (Value.ref p) from rfl) (sqT_ty (sqT_mono hs.fh hT))
          show wpAny (model X.prog X.w) X.A (richCompare .Eq (.ref p) (.ref ax)) (EP X pins σ Q) X.xe s
          exact cmpR_eq (T := "tuple") hr.units0 hX J (oneThing_ref _ _ _) (kx.ty _ _ I.kIn pk) hs1 (fun Q hq => tup_eq_decl ⟨o, ho, hcl⟩ (J.type.andThen (PySem.W.looks_subIn hX hs1)) hq) hfi hfn (wpAny_mono call (fun v' s' ⟨z, e1, q⟩ => ⟨z, e1, q⟩) fun _ _ e => e)
      | _ => rw [ex] at hkd; cases hkd
theorem op_neo (q : EqC X.prog X.w (ct X) X.base k kls c F) (hk : KlOk (ct X) kls sub) (hr : Room (k + 1) X.A) : OpR X (compareOp .NotEq) (rEqo (ct X) kls c F true) := by
  intro pins s σ H v u a b Q I ra rb ⟨w, st, x, y, q2, hs, rv, ru, hway, h⟩
  obtain ⟨Ca, f, fd, ps, hm, hfi, hfn, hF, hl, hb, hn1, hn2, hck, hne, hs1, hs2⟩ := q.ex
  have sx := sees hs rv
  have sy := sees hs ru
  obtain ⟨m, hFr⟩ := I.fr
  obtain ⟨Cq, hmq, fq, _⟩ := hk _ hck
  have e3 := hm.symm.trans hmq
  cases e3
  rcases eqo_ways hway with ⟨hi, hkd, rfl⟩ | ⟨hi, hkd, rfl⟩
  · obtain ⟨fs, ex⟩ := ins_view hi
    rw [ex] at sx
    cases sx with
    | @ins ax Cx' dx _ vs _ hc hH hnm rr =>
      have e2 := hm.symm.trans hc
      cases e2
      cases ra
      obtain ⟨t, ht, hkind⟩ := ty_of hk sy hs.fh hkd
      obtain ⟨Pk, kx, pk, _⟩ := kit_of I rb ht
      obtain ⟨mA, J, _⟩ := ins_get I.hok hH
      obtain ⟨od, J, _⟩ := J.look
      have hnf : PySem.W.notFirst X.K Ca t = true := by
        rcases hkind with ⟨T, hT, rfl⟩ | ⟨z, hz, Cy, hmz, rfl⟩
        · exact hn1 T hT
        · exact hn2 z hz Cy hmz
      show wpAny (model X.prog X.w) X.A (richCompare .NotEq (.ref ax) b) (EP X pins σ Q) X.xe s
      refine ne_K (tb := t) (by have := hr.units; omega) hFr I.ok.mod.kin J fq.hm (kx.ty _ _ I.kIn pk) hnf hfi hfn hne ?_
      exact eqo_call (Q := Q) true hF hl hb I hr.in1 I.env0.in1 (show L2.RelV (V.ref ax) (Value.ref ax) from rfl) rb hs rv ru h
  · obtain ⟨fs, ey⟩ := ins_view hi
    rw [ey] at sy
    cases sy with
    | @ins ax Cx' dx _ vs _ hc hH hnm rr =>
      have e2 := hm.symm.trans hc
      cases e2
      cases rb
      obtain ⟨mA, J, _⟩ := ins_get I.hok hH
      obtain ⟨od, J, _⟩ := J.look
      have hX : X.K.In s.heap := I.kIn
      have hu : X.A.units + 1 < cLine := by have := hr.units; omega
      have call := eqo_call (Q := Q) (Ef := X.xe) true hF hl hb I hr.in1 I.env0.in1 (show L2.RelV (V.ref ax) (Value.ref ax) from rfl) ra hs ru rv h
      cases ex : view st x with
      | non =>
        rw [ex] at sx
        cases sx
        cases (show a = Value.none from ra)
        show wpAny (model X.prog X.w) X.A (richCompare .NotEq .none (.ref ax)) (EP X pins σ Q) X.xe s
        exact cmpR_ne (T := "NoneType") hu hX J (by first | rfl | simp [oneThing?]) (PySem.W.kitx_none.ty _ _ I.kIn True.intro) hs2 (fun Q hq => non_ne_decl hq) fq.hm hfi hfn hne call
      | tup ds =>
        rw [ex] at sx
        cases sx with
        | @tup p vs' _ hT rr' =>
          cases ra
          obtain ⟨its, r, ⟨o, ho, hcl, n, hd⟩, hz⟩ := I.tuple (sqT_mono hs.fh hT)
          obtain ⟨Pk, kx, pk, _⟩ := kit_of I (show L2.RelV (V.ref p) (Value.ref p) from rfl) (sqT_ty (sqT_mono hs.fh hT))
          show wpAny (model X.prog X.w) X.A (richCompare .NotEq (.ref p) (.ref ax)) (EP X pins σ Q) X.xe s
          exact cmpR_ne (T := "tuple") hu hX J (oneThing_ref _ _ _) (kx.ty _ _ I.kIn pk) hs1 (fun Q hq => tup_ne_decl ⟨o, ho, hcl⟩ (J.type.andThen (PySem.W.looks_subIn hX hs1)) hq) fq.hm hfi hfn hne call
      | _ => rw [ex] at hkd; cases hkd
end
end Z

/-! ZN: != by an own __eq__. -/
namespace Z
open PySem PySem.Spec L2
open PyProof.Rows hiding St
section
variable {X : Cx} {W : WX} {pos : Pos} {a b : Expr} {ma mb : M D} {kls : List Str} {sub : List (Str × Str)} {c : Str} {F : Fn} {k : Nat}
def eqM (neg : Bool) (kls : List Str) (p : Str × Fn) (ma mb : M D) : M Bool := bind ma fun x => bind mb fun y => bind (eqoM kls p x y) fun t => ret (if neg then !t else t)
/-- what == or != reads -/
def rEqn (X : Cx) (neg : Bool) (kls : List Str) (c : Str) (F : Fn) : R2 := fun v u H Q => rEqo (ct X) kls c F neg v u H Q ∨ ∃ w x y z, Sees (ct X) w H v x ∧ Sees (ct X) w H u y ∧ (∀ a o, w.F a = some o → H a = some o) ∧ cmpD (if neg then .NotEq else .Eq) x y = some z ∧ Q (.bl z) H
theorem op_eqn (neg : Bool) (q : EqC X.prog X.w (ct X) X.base k kls c F) (hk : KlOk (ct X) kls sub) (hr : Room (k + 1) X.A) (hu : X.A.units + 65 < cLine) : OpR X (compareOp (if neg then .NotEq else .Eq)) (rEqn X neg kls c F) := by
  intro pins s σ H v u a b Q I ra rb h
  rcases h with h | h
  · cases neg with
    | false => exact op_eqo q hk (hr.mono (Nat.le_succ k)) pins s σ H v u a b Q I ra rb h
    | true => exact op_neo q hk hr pins s σ H v u a b Q I ra rb h
  · cases neg with
    | false => exact cm_D .Eq hu pins s σ H v u a b Q I ra rb h
    | true => exact cm_D .NotEq hu pins s σ H v u a b Q I ra rb h
theorem eqn_read {neg : Bool} {σ : St} {H : Hp} {Q : Bool → Hp → Prop} (h : tM (ct X) W rB (eqM neg kls (c, F) ma mb) σ H Q) :
    tM (ct X) W (rD (ct X)) ma σ H fun v H1 => tM (ct X) W (rD (ct X)) mb σ H1 fun u H2 => rEqn X neg kls c F v u H2 fun v' H3 => ∃ t, v' = .bl t ∧ Q t H3 :=
  h.two.imp fun v H1 h => h.imp fun u H2 ⟨x, y, w, ρ, st, r1, r2, q⟩ => by
    obtain ⟨hs, he, h3⟩ := q
    have hs' := hs
    unfold Z.bind eqoM at h3
    simp only at h3
    cases hc : eqoWay kls c st x y with
    | some q2 =>
      rw [hc] at h3
      simp only at h3
      refine .inl ⟨w, st, x, y, q2, hs, r1, r2, hc, ?_⟩
      cases e : F [q2.1, q2.2] st with
      | ok d st' =>
        rw [e] at h3
        cases d with
        | bl z =>
          intro w' H' q1 q2
          obtain ⟨e1, e2⟩ := callE he q2
          exact ⟨_, rfl, h3 _ w' H' q1 e1 e2 rfl⟩
        | _ => exact h3.elim
      | exc d st' => rw [e] at h3; exact h3.elim
      | bad => rw [e] at h3; exact h3.elim
    | none =>
      rw [hc] at h3
      simp only at h3
      cases e : eqD (view st x) (view st y) with
      | none => rw [e] at h3; exact h3.elim
      | some z =>
        rw [e] at h3
        have fin := h3 _ w H2 hs he Step.refl rfl
        cases neg with
        | false => exact .inr ⟨w, _, _, z, sees hs' r1, sees hs' r2, hs'.fh, e, z, rfl, fin⟩
        | true => exact .inr ⟨w, _, _, !z, sees hs' r1, sees hs' r2, hs'.fh, by show (eqD _ _).map (!·) = _; rw [e]; rfl, !z, rfl, fin⟩
theorem eqn_back {neg : Bool} {v u : V} {H : Hp} {Q : Bool → Hp → Prop} (h : rEqn X neg kls c F v u H fun v' H3 => ∃ t, v' = .bl t ∧ Q t H3) : rEqn X neg kls c F v u H fun v' H3 => ∃ t, v' = .bl t ∧ Q t H3 := h
theorem de_eqn {neg : Bool} (q : EqC X.prog X.w (ct X) X.base k kls c F) (hk : KlOk (ct X) kls sub) (hr : Room (k + 1) X.A) (hu : X.A.units + 65 < cLine) (ha : DE X W a ma) (hb : DE X W b mb) (hm : behindInMarks (if neg then .NotEq else .Eq) b = false) :
    DE X W (.Compare a [if neg then .NotEq else .Eq] [b] pos) (bind (eqM neg kls (c, F) ma mb) fun t => ret (.bl t)) :=
  dt_bl ((pe_cmpR (op_eqn neg q hk hr hu) ha hb hm).imp fun σ H Q h => (eqn_read h).imp fun v H1 h => h.imp fun u H2 h => by
    rcases h with ⟨w, st, x, y, q2, h1, h2, h3, h4, h6⟩ | ⟨w, x, y, z, h1, h2, h3, h4, t, e, h5⟩
    · refine .inl ⟨w, st, x, y, q2, h1, h2, h3, h4, ?_⟩
      split at h6
      · exact fun w' H' q1 q2 => by
          obtain ⟨t, e, q⟩ := h6 w' H' q1 q2
          cases e
          exact q
      · exact h6.elim
    · cases e
      exact .inr ⟨w, x, y, _, h1, h2, h3, h4, h5⟩)
theorem dt_eqn {neg : Bool} (q : EqC X.prog X.w (ct X) X.base k kls c F) (hk : KlOk (ct X) kls sub) (hr : Room (k + 1) X.A) (hu : X.A.units + 65 < cLine) (ha : DE X W a ma) (hb : DE X W b mb) (hm : behindInMarks (if neg then .NotEq else .Eq) b = false) :
    DT X W (.Compare a [if neg then .NotEq else .Eq] [b] pos) (testM (bind (eqM neg kls (c, F) ma mb) fun t => ret (.bl t))) := by
  rw [testM_bl]
  exact (pt_cmpR (op_eqn neg q hk hr hu) ha hb hm).imp fun σ H Q h => eqn_read h
end
end Z

/-! ZP: a list's method, the list told by a term. -/
namespace Z
open PySem PySem.Spec L2
open PyProof.Rows hiding St
section
variable {C : Ct} {W : WX} {α β γ δ : Type} {rel : Wd → β → α → Prop} {rel2 : Wd → δ → γ → Prop} {w : Wd} {ρ : Env} {st : Store} {σ : St} {H : Hp}
theorem tW.lstX {x : D} {v : V} {f : Unit → M γ} {Q : δ → Hp → Prop} (h : tW C W rel2 w ρ st (Z.bind (Z.lstX x) f) σ H Q) (rv : RelD C w.F w.L v x) :
    ∃ a vs l, v = .ref a ∧ x = .ref l ∧ H a = some (.lst vs) ∧ tW C W rel2 w ρ st (f ()) σ H Q := by
  obtain ⟨hs, he, h3⟩ := h
  unfold Z.bind Z.lstX at h3
  cases rv with
  | @ref a l hl =>
    simp only at h3
    cases e : st[l]? with
    | none => simp only [e] at h3
    | some c =>
      simp only [e] at h3
      cases c with
      | lst xs =>
        obtain ⟨vs, rc, _⟩ := hs.cell l _ a e hl
        exact ⟨a, vs, l, rfl, rfl, rc, hs, he, h3⟩
      | _ => exact h3.elim
  | _ => exact h3.elim
theorem tW.upX {x : D} {v : V} {f : Cell → Option (Cell × α)} {Q : β → Hp → Prop} (h : tW C W rel w ρ st (Z.upX x f) σ H Q) (rv : RelD C w.F w.L v x) :
    ∃ a c c' y, v = .ref a ∧ RelC C w H a c ∧ f c = some (c', y) ∧ ∀ o b, RelC C w (upd H a o) a c' → rel w b y → Q b (upd H a o) := by
  obtain ⟨hs, he, h3⟩ := h
  unfold Z.upX at h3
  cases rv with
  | @ref a l hl =>
    simp only at h3
    cases e : st[l]? with
    | none => simp only [e] at h3
    | some c =>
      simp only [e] at h3
      cases ef : liveF f c with
      | none => rw [ef] at h3; exact h3.elim
      | some p =>
        obtain ⟨c', y⟩ := p
        rw [ef] at h3
        obtain ⟨ef, hv⟩ := liveF_some ef
        refine ⟨a, c, c', y, rfl, hs.cell l _ a e hl, ef, fun o b r' rb => ?_⟩
        obtain ⟨a1, a2, a3⟩ := upd_cell hs he e hv hl r'
        exact h3 b w _ a1 a2 a3 rb
  | _ => exact h3.elim
end
section
variable {X : Cx} {W : WX} {pos apos : Pos} {o e : Expr} {ma : M D} {ms : M (List D)}
theorem pe_appendE (ho : DE X W o ma) (hbase : attributeBase o "append" X.env (eval o X.env) = eval o X.env) (hline : (apos.endLine == pos.line) = true) (ha : DEs X W [e] ms) (hs : NoStar X e) :
    PE X (.Call (.Attribute o "append" apos) [e] [] pos) (tM (ct X) W rU (bind ma fun x => bind (lstX x) fun _ => bind ms fun ds => upX x (mtC .append ds))) :=
  (pe_bm PySem.F.plainAttrs_list PySem.F.slot_list_append PySem.F.type_list_append mt_append ho ha hbase (by rw [hs []]; rfl) hline (hs []) rfl).imp fun σ H Q ⟨w, ρ, st, h⟩ => by
    refine ⟨w, ρ, st, (h.bind (rel := rD (ct X))).imp fun v H0 ⟨x, w0, ρ0, st0, rx, _, h⟩ => ?_⟩
    obtain ⟨a, vs, l, rfl, rfl, e2, h⟩ := h.lstX rx
    refine ⟨ty_lst e2, w0, ρ0, st0, h.bind.imp fun us H1 ⟨ds, w1, ρ1, st1, r, s1, q⟩ => ?_⟩
    obtain ⟨a', c, c', u, f1, rc, f2, q⟩ := q.upX (RelD.mono s1.gr rx)
    cases f1
    cases c with
    | lst xs =>
      obtain ⟨zs, g1, g2⟩ := rc
      cases ds with
      | nil => simp [mtC] at f2
      | cons d ds =>
        cases ds with
        | cons _ _ => simp [mtC] at f2
        | nil =>
          obtain ⟨v, rfl, rv⟩ := rel1 r
          simp only [mtC] at f2
          split at f2
          · rename_i hl
            cases f2
            refine ⟨a, zs, v, rfl, rfl, g1, by rw [g2.length, ← line_eq]; exact hl, q _ _ ⟨_, upd_same, g2.append (.cons rv .nil)⟩ rfl⟩
          · cases f2
    | _ => first | exact (rc : False).elim | (simp [mtC] at f2)
end
end Z

/-! ZV: further methods of lists. -/
namespace Z
open PySem PySem.Spec L2
open PyProof.Rows hiding St
/-- what a method does, by the heap -/
def rMt (C : Ct) (mt : MT) : V → List V → Hp → VK → Prop := fun x us H Q => ∃ (w : Wd) (a : Addr) (zs : List V) (xs ys : List D) (ds : List D), x = .ref a ∧ H a = some (.lst zs) ∧ RelDs C w.F w.L zs xs ∧ RelDs C w.F w.L us ds ∧ (∀ a o, w.F a = some o → H a = some o) ∧ mtC mt ds (.lst xs) = some (.lst ys, ()) ∧
  ∀ vs, RelDs C w.F w.L vs ys → Q .non (upd H a (.lst vs))
theorem mtC_lst {mt : MT} {ds : List D} {c c' : Cell} {u : Unit} (h : mtC mt ds c = some (c', u)) : ∃ xs ys, c = .lst xs ∧ c' = .lst ys := by
  cases c with
  | lst xs =>
    simp only [mtC] at h
    split at h <;> first | (cases h; done) | skip
    all_goals first | (split at h <;> first | (cases h; exact ⟨_, _, rfl, rfl⟩) | (cases h; done)) | (cases h; exact ⟨_, _, rfl, rfl⟩)
  | dct => cases h
  | ins => cases h
  | frz => cases h
section
variable {X : Cx} {W : WX} {pos apos : Pos} {b e o : Expr} {es : List Expr} {ma : M D} {ms : M (List D)} {i : Nat} {x : Str} {p : Pos} {mt : MT} {nm : String} {id : String} {r : V → List V → Hp → VK → Prop}
theorem mt_of (hm : MtR X id r) (hr : ∀ v us H Q, rMt (ct X) mt v us H Q → r v us H Q) : MtR X id (rMt (ct X) mt) := fun pins s σ H x xs v us Q I rx rs h => hm pins s σ H x xs v us Q I rx rs (hr _ _ _ _ h)
/-- with arguments -/
theorem pe_mth (slot : Slot "list" (nm : Str) id) (hty : typeOf (.builtin id) = pure (.type "method_descriptor")) (hm : MtR X id (rMt (ct X) mt)) (n : Nm X i x) (k : Mcall X x p (nm : Str) apos pos) (ha : DEs X W (e :: es) ms) (hs : starEach (e :: es) X.env = (false, eval e X.env) :: starEach es X.env)
    (hfew : ((backTo pos (starEach (e :: es) X.env)).all (fun x => !x.1) && (backToKw pos (keywordEach [] X.env)).all (fun x => x.1.isSome)
      && decide ((e :: es).length + ([] : List Keyword).length + (if ([] : List Keyword).isEmpty then 0 else 1) < 30)) = true) (hplain : (backTo pos (starEach es X.env)).any (·.1) = false) :
    PE X (.Call (.Attribute (.Name x p) (nm : Str) apos) (e :: es) [] pos) (tM (ct X) W rU (bind (cellAt i) fun _ => bind ms fun ds => upM i (mtC mt ds))) :=
  (pe_bm PySem.F.plainAttrs_list slot hty hm n.pe ha k.base hfew k.line hs hplain).imp fun σ H Q ⟨w, ρ, st, h⟩ => by
    obtain ⟨a, vs, e1, e2, h⟩ := h.cellAt
    refine ⟨_, e1, ty_lst e2, w, ρ, st, h.bind.imp fun us H1 ⟨ds, w1, ρ1, st1, r, _, q⟩ => ?_⟩
    have hf := q.1.fh
    obtain ⟨a', c, c', u, f1, rc, f2, q⟩ := q.up
    rw [e1] at f1
    cases f1
    obtain ⟨xs, ys, rfl, rfl⟩ := mtC_lst f2
    obtain ⟨zs, g1, g2⟩ := rc
    exact ⟨w1, a, zs, xs, ys, ds, rfl, g1, g2, r, hf, f2, fun vs hv => q _ _ ⟨_, upd_same, hv⟩ rfl⟩
theorem pe_mthE' (slot : Slot "list" (nm : Str) id) (hty : typeOf (.builtin id) = pure (.type "method_descriptor")) (hm : MtR X id (rMt (ct X) mt)) (ho : DE X W o ma) (hbase : attributeBase o (nm : Str) X.env (eval o X.env) = eval o X.env) (hline : (apos.endLine == pos.line) = true) (ha : DEs X W (e :: es) ms) (hs : starEach (e :: es) X.env = (false, eval e X.env) :: starEach es X.env)
    (hfew : ((backTo pos (starEach (e :: es) X.env)).all (fun x => !x.1) && (backToKw pos (keywordEach [] X.env)).all (fun x => x.1.isSome)
      && decide ((e :: es).length + ([] : List Keyword).length + (if ([] : List Keyword).isEmpty then 0 else 1) < 30)) = true) (hplain : (backTo pos (starEach es X.env)).any (·.1) = false) :
    PE X (.Call (.Attribute o (nm : Str) apos) (e :: es) [] pos) (tM (ct X) W rU (bind ma fun x => bind (lstX x) fun _ => bind ms fun ds => upX x (mtC mt ds))) :=
  (pe_bm PySem.F.plainAttrs_list slot hty hm ho ha hbase hfew hline hs hplain).imp fun σ H Q ⟨w, ρ, st, h⟩ => by
    refine ⟨w, ρ, st, (h.bind (rel := rD (ct X))).imp fun v H0 ⟨x, w0, ρ0, st0, rx, _, h⟩ => ?_⟩
    obtain ⟨a, vs, l, rfl, rfl, e2, h⟩ := h.lstX rx
    refine ⟨ty_lst e2, w0, ρ0, st0, h.bind.imp fun us H1 ⟨ds, w1, ρ1, st1, r, s1, q⟩ => ?_⟩
    have hf := q.1.fh
    obtain ⟨a', c, c', u, f1, rc, f2, q⟩ := q.upX (RelD.mono s1.gr rx)
    cases f1
    obtain ⟨xs, ys, rfl, rfl⟩ := mtC_lst f2
    obtain ⟨zs, g1, g2⟩ := rc
    exact ⟨w1, a, zs, xs, ys, ds, rfl, g1, g2, r, hf, f2, fun vs hv => q _ _ ⟨_, upd_same, hv⟩ rfl⟩
/-- without arguments -/
theorem pe_mth0 (slot : Slot "list" (nm : Str) id) (hty : typeOf (.builtin id) = pure (.type "method_descriptor")) (hm : MtR X id (rMt (ct X) mt)) (n : Nm X i x) (k : Mcall X x p (nm : Str) apos pos) :
    PE X (.Call (.Attribute (.Name x p) (nm : Str) apos) [] [] pos) (tM (ct X) W rU (bind (cellAt i) fun _ => bind (ret []) fun ds => upM i (mtC mt ds))) :=
  (pe_bm0 PySem.F.plainAttrs_list slot hty hm n.pe k.base k.line).imp fun σ H Q ⟨w, ρ, st, h⟩ => by
    obtain ⟨a, vs, e1, e2, h⟩ := h.cellAt
    have h : tW (ct X) W rU w ρ st (upM i (mtC mt [])) σ H Q := h
    have hf := h.1.fh
    obtain ⟨a', c, c', u, f1, rc, f2, q⟩ := h.up
    rw [e1] at f1
    cases f1
    obtain ⟨xs, ys, rfl, rfl⟩ := mtC_lst f2
    obtain ⟨zs, g1, g2⟩ := rc
    exact ⟨_, e1, ty_lst e2, w, a, zs, xs, ys, [], rfl, g1, g2, .nil, hf, f2, fun vs hv => q _ _ ⟨_, upd_same, hv⟩ rfl⟩
theorem pe_mthE0 (slot : Slot "list" (nm : Str) id) (hty : typeOf (.builtin id) = pure (.type "method_descriptor")) (hm : MtR X id (rMt (ct X) mt)) (ho : DE X W o ma) (hbase : attributeBase o (nm : Str) X.env (eval o X.env) = eval o X.env) (hline : (apos.endLine == pos.line) = true) :
    PE X (.Call (.Attribute o (nm : Str) apos) [] [] pos) (tM (ct X) W rU (bind ma fun x => bind (lstX x) fun _ => bind (ret []) fun ds => upX x (mtC mt ds))) :=
  (pe_bm0 PySem.F.plainAttrs_list slot hty hm ho hbase hline).imp fun σ H Q ⟨w, ρ, st, h⟩ => by
    refine ⟨w, ρ, st, (h.bind (rel := rD (ct X))).imp fun v H0 ⟨x, w0, ρ0, st0, rx, _, h⟩ => ?_⟩
    obtain ⟨a, vs, l, rfl, rfl, e2, h⟩ := h.lstX rx
    have h : tW (ct X) W rU w0 ρ0 st0 (upX (.ref l) (mtC mt [])) σ H0 Q := h
    have hf := h.1.fh
    obtain ⟨a', c, c', u, f1, rc, f2, q⟩ := h.upX rx
    cases f1
    obtain ⟨xs, ys, rfl, rfl⟩ := mtC_lst f2
    obtain ⟨zs, g1, g2⟩ := rc
    exact ⟨ty_lst e2, w0, a, zs, xs, ys, [], rfl, g1, g2, .nil, hf, f2, fun vs hv => q _ _ ⟨_, upd_same, hv⟩ rfl⟩
theorem rel2 {C : Ct} {F : Hp} {L : List Addr} {vs : List V} {d d' : D} (r : RelDs C F L vs [d, d']) : ∃ v v', vs = [v, v'] ∧ RelD C F L v d ∧ RelD C F L v' d' := by
  cases r with
  | cons h r => cases r with
    | cons h' r => cases r; exact ⟨_, _, rfl, h, h'⟩
theorem mtr_append : MtR X "list.append" (rMt (ct X) .append) := mt_of mt_append fun v us H Q ⟨w, a, zs, xs, ys, ds, e1, h1, h2, h3, h4, h5, q⟩ => by
  match ds, h3, h5 with
  | [d], h3, h5 =>
    obtain ⟨u, rfl, ru⟩ := rel1 h3
    simp only [mtC] at h5
    split at h5
    · rename_i hl
      cases h5
      exact ⟨a, zs, u, e1, rfl, h1, by rw [h2.length, ← line_eq]; exact hl, q _ (h2.append (.cons ru .nil))⟩
    · cases h5
  | [], _, h5 => cases h5
  | _ :: _ :: _, _, h5 => cases h5
theorem mtr_reverse : MtR X "list.reverse" (rMt (ct X) .reverse) := mt_of mt_reverse fun v us H Q ⟨w, a, zs, xs, ys, ds, e1, h1, h2, h3, h4, h5, q⟩ => by
  match ds, h3, h5 with
  | [], h3, h5 =>
    cases h3
    simp only [mtC] at h5
    cases h5
    exact ⟨a, zs, e1, rfl, h1, q _ h2.reverse⟩
  | _ :: _, _, h5 => cases h5
theorem mtr_clear : MtR X "list.clear" (rMt (ct X) .clear) := mt_of mt_clear fun v us H Q ⟨w, a, zs, xs, ys, ds, e1, h1, h2, h3, h4, h5, q⟩ => by
  match ds, h3, h5 with
  | [], h3, h5 =>
    cases h3
    simp only [mtC] at h5
    cases h5
    exact ⟨a, zs, e1, rfl, h1, q _ .nil⟩
  | _ :: _, _, h5 => cases h5
theorem mtr_extend : MtR X "list.extend" (rMt (ct X) .extend) := mt_of mt_extend fun v us H Q ⟨w, a, zs, xs, ys, ds, e1, h1, h2, h3, h4, h5, q⟩ => by
  match ds, h3, h5 with
  | [d], h3, h5 =>
    obtain ⟨u, rfl, ru⟩ := rel1 h3
    cases d <;> simp only [mtC, reduceCtorEq] at h5
    rename_i es
    split at h5
    · rename_i hl
      cases h5
      cases ru with
      | @lst b vs' _ hh rr => exact ⟨a, b, zs, vs', e1, rfl, h1, h4 _ _ hh, by rw [h2.length, rr.length, ← line_eq]; exact hl, q _ (h2.append rr)⟩
    · cases h5
  | [], _, h5 => cases h5
  | _ :: _ :: _, _, h5 => simp [mtC] at h5
theorem mtr_insert : MtR X "list.insert" (rMt (ct X) .insert) := mt_of mt_insert fun v us H Q ⟨w, a, zs, xs, ys, ds, e1, h1, h2, h3, h4, h5, q⟩ => by
  match ds, h3, h5 with
  | [d, d'], h3, h5 =>
    obtain ⟨u, u', rfl, ru, ru'⟩ := rel2 h3
    cases d <;> simp only [mtC, reduceCtorEq] at h5
    rename_i k
    split at h5
    · rename_i hl
      cases h5
      simp only [Bool.and_eq_true, decide_eq_true_eq] at hl
      obtain ⟨l1, l2, l3⟩ := hl
      cases ru
      exact ⟨a, zs, k, u', e1, rfl, h1, by rw [h2.length, ← line_eq]; exact l1, l2, by have := (small_d l3).2; omega, q _ (((h2.take _).append (.cons ru' .nil)).append (h2.drop _))⟩
    · cases h5
  | [], _, h5 => simp [mtC] at h5
  | [_], _, h5 => simp [mtC] at h5
  | _ :: _ :: _ :: _, _, h5 => simp [mtC] at h5
def mtN : MT → String
  | .append => "append" | .extend => "extend" | .insert => "insert" | .reverse => "reverse" | .clear => "clear"
def mtK : MT → Nat
  | .append => 1 | .extend => 1 | .insert => 2 | .reverse => 0 | .clear => 0
theorem mt_facts (m : MT) : ∃ id, Slot "list" (mtN m : Str) id ∧ typeOf (.builtin id) = pure (.type "method_descriptor") ∧ MtR X id (rMt (ct X) m) := by
  cases m with
  | append => exact ⟨_, PySem.F.slot_list_append, PySem.F.type_list_append, mtr_append⟩
  | extend => exact ⟨_, PySem.F.slot_list_extend, PySem.F.type_list_extend, mtr_extend⟩
  | insert => exact ⟨_, PySem.F.slot_list_insert, PySem.F.type_list_insert, mtr_insert⟩
  | reverse => exact ⟨_, PySem.F.slot_list_reverse, PySem.F.type_list_reverse, mtr_reverse⟩
  | clear => exact ⟨_, PySem.F.slot_list_clear, PySem.F.type_list_clear, mtr_clear⟩
end
end Z

/-! ZW: starred items, lists turned round. -/
namespace Z
open PySem PySem.Spec L2
open PyProof.Rows hiding St
open StX
section
variable {X : Cx} {W : WX} {pos p : Pos} {a : Expr} {es : List Expr} {ma : M D} {ms : M (List D)}
theorem ds_star (ha : DE X W a ma) (hr : DEs X W es ms) (hs : starEach (.Starred a p :: es) X.env = (true, eval a X.env) :: starEach es X.env) : DEs X W (.Starred a p :: es) (bind ma fun x => bind (viewM x) fun x => bind (opt (itemsD x)) fun xs => bind ms fun ds => ret (xs ++ ds)) :=
  (pa_star ha hr hs).imp fun σ H Q h => h.one.imp fun v H1 ⟨x, w, ρ, st, r, q⟩ => by
    have q : tW (ct X) W (rDs (ct X)) w ρ st (bind (opt (itemsD (view st x))) fun xs => bind ms fun ds => ret (xs ++ ds)) σ H1 Q := q
    have v1 := sees q.1 r
    have hf := q.1.fh
    cases ex : view st x with
    | tup xs =>
      rw [ex] at v1 q
      have q : tW (ct X) W (rDs (ct X)) w ρ st (bind ms fun ds => ret (xs ++ ds)) σ H1 Q := q
      cases v1 with
      | tup h1 q1 => exact ⟨_, _, rfl, .inl (sqT_mono hf h1), w, ρ, st, q.bind.imp fun us H2 ⟨ds, w2, ρ2, st2, r2, s2, q⟩ => q.ret (RelDs.append (RelDs.mono s2.gr q1) r2)⟩
    | lst xs =>
      rw [ex] at v1 q
      have q : tW (ct X) W (rDs (ct X)) w ρ st (bind ms fun ds => ret (xs ++ ds)) σ H1 Q := q
      cases v1 with
      | lst h1 q1 => exact ⟨_, _, rfl, .inr (SqL.of h1), w, ρ, st, q.bind.imp fun us H2 ⟨ds, w2, ρ2, st2, r2, s2, q⟩ => q.ret (RelDs.append (RelDs.mono s2.gr q1) r2)⟩
    | _ => rw [ex] at q; exact q.2.2.elim
theorem df_rev {k : Nat} {p1 p2 p3 : Pos} (ha : DE X W a ma) : DF X W (.Subscript a (.Slice none none (some (.UnaryOp .USub (.Constant (.int 1) k p1) p2)) p3) pos) (bind ma fun x => bind (viewM x) fun x => match x with
    | .lst xs => ret (.lst xs.reverse)
    | _ => bad) :=
  (pe_revL ha).imp fun σ H Q ⟨w, ρ, st, h⟩ => ⟨w, ρ, st, (h.bindE (rel := rD (ct X))).imp fun v H1 ⟨x, w1, ρ1, st1, _, r, _, q⟩ => by
    have q := q.viewBind
    have v1 := sees q.1 r
    cases ex : view st1 x with
    | lst xs =>
      rw [ex] at v1 q
      cases v1 with
      | lst h1 q1 => exact ⟨_, _, rfl, SqL.of h1, q.ret q1.reverse⟩
    | _ => rw [ex] at q; exact q.2.2.elim⟩
/-! ints in their order -/
theorem insI_perm (x : Int) : ∀ l : List Int, (insI x l).Perm (x :: l)
  | [] => List.Perm.refl _
  | y :: r => by
    unfold insI
    split
    · exact List.Perm.refl _
    · exact ((insI_perm x r).cons y).trans (List.Perm.swap x y r)
theorem sortI_perm : ∀ l : List Int, (sortI l).Perm l
  | [] => List.Perm.refl _
  | x :: r => (insI_perm x _).trans ((sortI_perm r).cons x)
theorem insI_up (x : Int) : ∀ l : List Int, l.Pairwise (· ≤ ·) → (insI x l).Pairwise (· ≤ ·)
  | [], _ => by simp [insI]
  | y :: r, h => by
    have ⟨h1, h2⟩ := List.pairwise_cons.mp h
    unfold insI
    split
    · rename_i hxy
      exact List.pairwise_cons.mpr ⟨fun z hz => by
        rcases List.mem_cons.mp hz with rfl | hz
        · exact hxy
        · exact Int.le_trans hxy (h1 z hz), h⟩
    · rename_i hxy
      refine List.pairwise_cons.mpr ⟨fun z hz => ?_, insI_up x r h2⟩
      rcases List.mem_cons.mp ((insI_perm x r).mem_iff.mp hz) with rfl | hz
      · exact Int.le_of_lt (Int.not_le.mp hxy)
      · exact h1 z hz
theorem sortI_up : ∀ l : List Int, (sortI l).Pairwise (· ≤ ·)
  | [] => List.Pairwise.nil
  | x :: r => insI_up x _ (sortI_up r)
theorem sort_one {ns ns' : List Int} (h : ns'.Perm ns) (h2 : ns'.Pairwise (· ≤ ·)) : ns' = sortI ns :=
  List.Perm.eq_of_pairwise (fun a b _ _ h1 h2 => Int.le_antisymm h1 h2) h2 (sortI_up ns) (h.trans (sortI_perm ns).symm)
theorem df_sort {x : Str} {p : Pos} (hn : BName X x (.builtin "sorted")) (ha : DE X W a ma) (hs : NoStar X a) : DF X W (.Call (.Name x p) [a] [] pos) (bind ma fun x => bind (viewM x) fun x => bind (opt (sortD x)) fun xs => ret (.lst xs)) :=
  (callV hn (.inl ⟨_, rfl⟩) cr_sortedI (pa_cons ha pa_nil (hs [])) (hs []) rfl).imp fun σ H Q ⟨w, ρ, st, h⟩ => ⟨w, ρ, st, (h.bindE (rel := rD (ct X))).imp fun v H1 ⟨x, w1, ρ1, st1, _, r, _, q⟩ => by
    have q := q.viewBind
    have v1 := sees q.1 r
    cases ex : view st1 x with
    | lst xs =>
      rw [ex] at v1 q
      cases v1 with
      | lst h1 q1 =>
        cases e : sortD (.lst xs) with
        | none => rw [e] at q; exact q.2.2.elim
        | some ys =>
          rw [e] at q
          have e' : (intsD xs).map (fun ns => (sortI ns).map D.int) = some ys := e
          obtain ⟨ns, e1, rfl⟩ := Option.map_eq_some_iff.mp e'
          have e3 := q1.ints e1
          subst e3
          exact ⟨_, ns, rfl, SqL.of h1, fun ns' p k1 k2 hp => by
            rw [sort_one k1 k2]
            exact q.ret (ints_rel _) p hp⟩
    | _ => rw [ex] at q; exact q.2.2.elim⟩
theorem de_bits {apos : Pos} (ha : DE X W a ma) (hb : attributeBase a "bit_length" X.env (eval a X.env) = eval a X.env) (hl : (apos.endLine == pos.line) = true) : DE X W (.Call (.Attribute a "bit_length" apos) [] [] pos) (bind ma fun x => opt (bitsD x)) :=
  (pe_bits ha hb hl).imp fun σ H Q ⟨w, ρ, st, h⟩ => ⟨w, ρ, st, (h.bind (rel := rD (ct X))).imp fun v H1 ⟨x, w1, ρ1, st1, r, s1, q⟩ => by
    obtain ⟨z, e, q⟩ := q.opt
    cases r <;> simp only [bitsD, reduceCtorEq, Option.some.injEq] at e
    subst e
    exact ⟨_, rfl, q.ret (.int _)⟩⟩
theorem it_rngD {C : Ct} {w0 : Wd} (hi lo : Int) : ItOk C w0 (Itc hi (-1) (hi - lo).toNat) (rngD hi lo) := by
  have hlen : (rngD hi lo).length = (hi - lo).toNat := by simp [rngD]
  intro w H st σ ρ i g hs he
  refine ⟨fun d hd => ?_, fun h => ?_⟩
  · have hi' : i < (hi - lo).toNat := by rw [← hlen]; exact (List.getElem?_eq_some_iff.mp hd).1
    have e : d = .int (hi - (i : Nat)) := by
      unfold rngD at hd
      rw [List.getElem?_map, List.getElem?_range hi'] at hd
      cases hd; rfl
    subst e
    exact ⟨hi', fun v H' y => by
      obtain ⟨e1, e2⟩ := y
      subst e1 e2
      exact ⟨w, hs, he, Step.refl, by rw [show hi + (i : Nat) * (-1) = hi - (i : Nat) by omega]; exact .int _⟩⟩
  · rw [hlen] at h
    show (hi - lo).toNat ≤ i
    omega
theorem di_down {tg b c : Expr} {mb mc : M D} {p : Pos} (hg : Gl X "range") (hm : X.mg "range" = none) (ha : DE X W a ma) (hb : DE X W b mb) (hc : DE X W c mc) (hs : NoStar X a) (hs2 : NoStar X b) (hs3 : NoStar X c) :
    DI X W tg (.Call (.Name "range" p) [a, b, c] [] pos) (bind ma fun x => bind mb fun y => bind mc fun z => opt (downD x y z)) :=
  (pi_range3 hg hm (pa_cons ha (pa_cons hb (pa_cons hc pa_nil (hs3 [])) (hs2 [c])) (hs [b, c])) (by rw [hs [b, c]]) (by rw [hs2 [c], hs3 []]; rfl)).imp fun σ H R ⟨w, ρ, st, h⟩ => ⟨w, ρ, st, (tIW.bind (rel := rD (ct X)) h).imp fun v H1 ⟨x, w1, ρ1, st1, r, _, q⟩ => ⟨w1, ρ1, st1, (tIW.bind (rel := rD (ct X)) q).imp fun u H2 ⟨y, w2, ρ2, st2, r2, s2, q⟩ => ⟨w2, ρ2, st2, (tIW.bind (rel := rD (ct X)) q).imp fun t H3 ⟨z, w3, ρ3, st3, r3, s3, q⟩ => by
    obtain ⟨ds, e, qq⟩ := q.opt
    obtain ⟨i, j, k, rfl, rfl, rfl⟩ : ∃ i j k, x = .int i ∧ y = .int j ∧ z = .int k := by
      cases x <;> cases y <;> cases z <;> first | exact ⟨_, _, _, rfl, rfl, rfl⟩ | cases e
    cases r
    cases r2
    cases r3
    have e : (if decide (k = -1) && (small i && small j) then some (rngD i j) else none) = some ds := e
    split at e
    · rename_i hn
      simp only [Bool.and_eq_true, decide_eq_true_eq] at hn
      cases e
      obtain ⟨rfl, h1, h2⟩ := hn
      obtain ⟨a1, a2⟩ := small_d h1
      obtain ⟨b1, b2⟩ := small_d h2
      exact ⟨i, j, -1, _, rfl, RgC.neg a1 a2 b1 b2, qq.ret (it_rngD i j)⟩
    · cases e⟩⟩⟩
/-- a list in a cell is let go -/
theorem tW.frz {C : Ct} {W : WX} {w : Wd} {ρ : Env} {st : Store} {σ : St} {H : Hp} {Q : V → Hp → Prop} {x : D} {v : V} (h : tW C W (rD C) w ρ st (frzM x) σ H Q) (r : RelD C w.F w.L v x) : Q v H := by
  obtain ⟨hs, he, h3⟩ := h
  unfold frzM at h3
  cases r with
  | @ref a l hl =>
    simp only at h3
    cases e : st[l]? with
    | none => rw [e] at h3; exact h3.elim
    | some c =>
      rw [e] at h3
      have rc := hs.cell l c a e hl
      cases c with
      | lst xs =>
        obtain ⟨vs, e1, r1⟩ := rc
        have hf := hs.fl l _ a e hl rfl
        have hll : l < st.length := (List.getElem?_eq_some_iff.mp e).1
        have hm : a ∈ w.L := List.mem_of_getElem? hl
        have g : Gr w ⟨upd w.F a (.lst vs), w.L⟩ := ⟨fun b u hb => by
          show upd w.F a (.lst vs) b = some u
          rw [upd_ne (fun z => by rw [z, hf] at hb; cases hb)]; exact hb, [], by simp⟩
        have one : ∀ {m : Nat} {b : Addr}, w.L[m]? = some b → l ≠ m → b ≠ a := fun {m b} hb hj z => by
          obtain ⟨q1, q2⟩ := List.getElem?_eq_some_iff.mp hl
          obtain ⟨q3, q4⟩ := List.getElem?_eq_some_iff.mp hb
          exact hj ((List.getElem_inj hs.nd).mp (by rw [q2, q4, z]))
        refine h3 _ ⟨upd w.F a (.lst vs), w.L⟩ H ⟨by simpa using hs.len, hs.nd, fun b u hb => ?_, fun m d b h1 h2 h4 => ?_, fun m d b h1 h2 => ?_⟩ ⟨he.len, fun i d hd => ?_, fun i d hd => ?_, he.ap⟩ ⟨g, fun _ _ h _ _ => h, fun b u hb => ?_, fun _ h => .inl h, fun _ h => .inl h, fun _ h => h⟩ ?_
        · have hb : upd w.F a (.lst vs) b = some u := hb
          by_cases z : b = a
          · rw [z, upd_same] at hb; cases hb; rw [z]; exact e1
          · rw [upd_ne z] at hb; exact hs.fh b u hb
        · by_cases hj : l = m
          · subst hj
            rw [List.getElem?_set_self hll] at h1
            cases h1
            cases h4
          · rw [List.getElem?_set_ne hj] at h1
            show upd w.F a (.lst vs) b = none
            rw [upd_ne (one h2 hj)]
            exact hs.fl m d b h1 h2 h4
        · by_cases hj : l = m
          · subst hj
            rw [List.getElem?_set_self hll] at h1
            cases h1
            rw [hl] at h2
            cases h2
            exact ⟨vs, upd_same, e1, r1.mono g⟩
          · rw [List.getElem?_set_ne hj] at h1
            exact (hs.cell m d b h1 h2).mono g fun _ z => z
        · obtain ⟨u, h1, h2⟩ := he.val i d hd
          exact ⟨u, h1, h2.mono g⟩
        · obtain ⟨b, h1, h2, h5, h4⟩ := he.own i d hd
          refine ⟨b, h1, h2.mono g fun _ z => z, ?_, h4⟩
          show upd w.F a (.lst vs) b = none
          rw [upd_ne (fun z => h4 (by rw [z]; exact hm))]
          exact h5
        · have hb : upd w.F a (.lst vs) b = some u := hb
          by_cases z : b = a
          · rw [z]; exact .inr (.inr (.inr hm))
          · rw [upd_ne z] at hb; exact .inl hb
        · exact .lst upd_same (r1.mono g)
      | frz xs =>
        obtain ⟨vs, e0, e1, r1⟩ := rc
        exact h3 _ w H hs he Step.refl (.lst e0 r1)
      | _ => exact h3.elim
  | non => exact h3 _ w H hs he Step.refl .non
  | bl b => exact h3 _ w H hs he Step.refl (.bl b)
  | int i => exact h3 _ w H hs he Step.refl (.int i)
  | str z => exact h3 _ w H hs he Step.refl (.str z)
  | tup q r => exact h3 _ w H hs he Step.refl (.tup q r)
  | lst q r => exact h3 _ w H hs he Step.refl (.lst q r)
  | scr q => exact h3 _ w H hs he Step.refl (.scr q)
  | dct0 q => exact h3 _ w H hs he Step.refl (.dct0 q)
  | ins q1 q2 q3 q4 => exact h3 _ w H hs he Step.refl (.ins q1 q2 q3 q4)
theorem de_frz (ha : DE X W a ma) : DE X W a (bind ma frzM) :=
  ha.imp fun σ H Q ⟨w, ρ, st, h⟩ => ⟨w, ρ, st, (h.bind (rel := rD (ct X))).imp fun v H1 ⟨x, w1, ρ1, st1, r, _, q⟩ => tW.frz q r⟩
end
end Z

/-! ZE: exceptions of own classes. -/
namespace Z
open PySem PySem.Spec L2
open PyProof.Rows hiding St

/-! ### the facts of a class -/
def oexB (K : PySem.W.Frag) (C : Addr) : Bool := PySem.W.excInitIn K C He.veBase "ValueError.__new__" && (((PySem.W.clsIn K C).any fun cd => cd.hasDict && PySem.HandSPX.refsVE cd.mro.tail) &&
  (decide (PySem.W.findIn K (.ref C) "__setattr__" = some (some (.builtin "object.__setattr__"))) && (decide (PySem.W.subIn K (.ref C) (.type "BaseException") = some true) && (decide (PySem.W.typeIn K (.ref C) = some (.type "type")) && PySem.W.keepIn K (.ref C)))))
theorem oexB_ok {K : PySem.W.Frag} {h : Heap} {C : Addr} (X : K.In h) (q : oexB K C = true) : OexC K C := by
  unfold oexB at q
  simp only [Bool.and_eq_true, decide_eq_true_eq] at q
  obtain ⟨q1, q2, q3, q4, q5, q6⟩ := q
  obtain ⟨nm, N, qn, bs, bm, hdct, sn, sub, ab, col, dd, k0, k1, k2, k3, k5, e, _⟩ := PySem.W.excInit_of X q1
  have lk : ∃ o, K.lookup C = some o := by
    unfold PySem.W.excInitIn at q1
    cases e : K.lookup C with
    | none => rw [e] at q1; cases q1
    | some o => exact ⟨o, rfl⟩
  obtain ⟨o, lk⟩ := lk
  have e2 := X _ _ lk
  rw [e] at e2
  cases e2
  have hcl : PySem.W.clsIn K C = some { name := nm, bases := bs, mro := .ref C :: bm, ns := N, qualname := qn, hasDict := hdct, slotNames := sn, subclasses := sub, abstract := ab, collection := col, hasDel := false } := by
    unfold PySem.W.clsIn
    rw [lk] <;> rfl
  rw [hcl] at q2
  simp only [Option.any_some, Bool.and_eq_true] at q2
  obtain ⟨rfl, r⟩ := q2
  exact ⟨⟨nm, qn, N, bs, bm, sn, sub, ab, col, dd, k0, k1, k2, k3, k5, lk, r⟩, q3, q4, q5, q6⟩

/-! ### its __init__: self.f = p, field by field -/
def chkIni : List Str → List Str → List Stmt → Bool
  | [], [], [] => true
  | f :: fs, p :: ps, s :: ss => (match s with
    | .Assign [.Attribute (.Name o _) g _] (.Name q _) _ => decide (o = "self") && (decide (f = g) && (decide (p = q) && okN q))
    | _ => false) && chkIni fs ps ss
  | _, _, _ => false
/-- the reading of such a body, from the k-th field on -/
def tIni (K : PySem.W.Frag) : Nat → List Str → TS
  | _, [] => fun D σ H => D.nx σ H
  | k, f :: fs => fun D σ H => tOst K f (tVar 0) (tVar k) { D with nx := fun σ' H' => tIni K (k + 1) fs D σ' H' } σ H
theorem ini_body {X : Cx} {N : List Str} (hN : X.N = N) (h0 : N[0]? = some ("self" : Str)) (hv : ∀ x ∈ N, Vis X.env.scope x) : ∀ (k : Nat) (fs ps : List Str) (ss : List Stmt), chkIni fs ps ss = true → N.drop k = ps → PSs X ss (tIni X.K k fs)
  | k, [], [], [], _, _ => pss_nil
  | k, f :: fs, p :: ps, s :: ss, h, hd => by
    simp only [chkIni, Bool.and_eq_true] at h
    obtain ⟨h1, h2⟩ := h
    have hk : N[k]? = some p := by
      have := congrArg (·[0]?) hd
      simpa using this
    have hd' : N.drop (k + 1) = ps := by
      have := congrArg List.tail hd
      simpa using this
    have ih := ini_body hN h0 hv (k + 1) fs ps ss h2 hd'
    split at h1
    · simp only [Bool.and_eq_true, decide_eq_true_eq] at h1
      obtain ⟨rfl, rfl, rfl, h6⟩ := h1
      obtain ⟨k1, k2, _⟩ := okN_d h6
      exact pss_cons (ps_ost (pe_var (by rw [hN]; exact h0) (hv _ (List.mem_of_getElem? h0)) (by decide) (by decide)) (pe_var (by rw [hN]; exact hk) (hv _ (List.mem_of_getElem? hk)) k1 k2) rfl) ih
    · cases h1
  | _, [], _ :: _, _, h, _ => by simp [chkIni] at h
  | _, [], [], _ :: _, h, _ => by simp [chkIni] at h
  | _, _ :: _, [], _, h, _ => by simp [chkIni] at h
  | _, _ :: _, _ :: _, [], h, _ => by simp [chkIni] at h
theorem upd_comm {H : Hp} {a b : Addr} {o u : HO} (h : a ≠ b) : upd (upd H a o) b u = upd (upd H b u) a o := by
  funext x
  unfold upd
  by_cases h1 : x = a
  · by_cases h2 : x = b
    · exact absurd (h1.symm.trans h2) h
    · rw [if_neg h2, if_pos h1, if_pos h1]
  · by_cases h2 : x = b
    · rw [if_pos h2, if_neg h1, if_pos h2]
    · rw [if_neg h2, if_neg h1, if_neg h1, if_neg h2]
/-- behind the first field -/
theorem ini_more {K : PySem.W.Frag} {a C d : Addr} {T : OexC K C} {D : Ends} {σ : St} (hσ : σ[0]? = some (some (.ref a))) (hda : d ≠ a) : ∀ (k : Nat) (fs : List Str) (ws : List V) (acc : List (Str × V)) (H : Hp), fs.length = ws.length → acc.length + fs.length ≤ 900 → (∀ i v, ws[i]? = some v → σ[k + i]? = some (some v)) →
    (∀ f ∈ fs, PySem.W.findIn K (.ref C) f = some none) → D.nx σ (upd (upd H d (exd d ((fs.zip ws).reverse ++ acc))) a (exo a C (some d))) → tIni K k fs D σ (upd (upd H d (exd d acc)) a (exo a C (some d)))
  | k, [], [], acc, H, _, _, _, _, q => q
  | k, f :: fs, w :: ws, acc, H, hl, hz, hw, hn, q => by
    have e0 : σ[k]? = some (some w) := by simpa using hw 0 w rfl
    refine ⟨_, e0, _, hσ, a, C, rfl, T, hn f List.mem_cons_self, .inr ⟨d, acc, upd_same, ?_, ?_, ?_⟩⟩
    · rw [upd_ne hda, upd_same]
    · simp only [List.length_cons] at hz
      omega
    · have e : upd (upd (upd H d (exd d acc)) a (exo a C (some d))) d (exd d ((f, w) :: acc)) = upd (upd H d (exd d ((f, w) :: acc))) a (exo a C (some d)) := by
        rw [upd_comm (Ne.symm hda), upd_upd]
      show tIni K (k + 1) fs D σ _
      rw [e]
      refine ini_more (T := T) hσ hda (k + 1) fs ws ((f, w) :: acc) H (by simpa using hl) (by simp only [List.length_cons] at hz ⊢; omega) (fun i v h => ?_) (fun g hg => hn g (List.mem_cons_of_mem _ hg)) ?_
      · have := hw (i + 1) v (by simpa using h)
        rw [show k + 1 + i = k + (i + 1) by omega]
        exact this
      · rw [List.zip_cons_cons, List.reverse_cons, List.append_assoc] at q
        exact q
  | _, [], _ :: _, _, _, hl, _, _, _, _ => by cases hl
  | _, _ :: _, [], _, _, hl, _, _, _, _ => by cases hl
theorem ini_read {K : PySem.W.Frag} {fields : List Str} {N : List Str} {vs : List V} {H : Hp} {Q : VK} {E : XK} (hN : N.length = fields.length + 1) (h : spInit K fields vs H Q E) : tIni K 1 fields { nx := fun _ H' => Q .non H', rt := Q } (L2.start N vs) H := by
  obtain ⟨a, C, ws, rfl, T, ha, hl, hne, hz, hn, q⟩ := h
  have hst : L2.start N (.ref a :: ws) = (V.ref a :: ws).map some := by
    unfold L2.start
    rw [show N.length - (V.ref a :: ws).length = 0 by simp [hN, hl]]
    simp
  rw [hst]
  cases fields with
  | nil => exact absurd rfl hne
  | cons f fs =>
    cases ws with
    | nil => cases hl
    | cons w ws =>
      refine ⟨w, rfl, .ref a, rfl, a, C, rfl, T, hn f List.mem_cons_self, .inl ⟨ha, fun dx hdx hda => ?_⟩⟩
      refine ini_more (T := T) rfl hda 2 fs ws [(f, w)] H (by simpa using hl.symm) (by simp only [List.length_cons] at hz ⊢; simp; omega) (fun i v h => ?_) (fun g hg => hn g (List.mem_cons_of_mem _ hg)) ?_
      · rw [show 2 + i = (i + 1) + 1 by omega]
        simp [h]
      · have := q dx hdx hda
        rw [List.zip_cons_cons, List.reverse_cons] at this
        exact this

section
variable {P : Program} {W₀ : World} {K : PySem.W.Frag} {mg : Str → Option Value} {base : Heap}
theorem ini_ok {q : Str} {params : Arguments} {body : List Stmt} {scope : Scope} {f : Addr} {fd : FuncData} {ps fields : List Str} (F : FunD K "__init__" q params body scope [] [] f fd) (S : FnScope (("self" : Str) :: ps) (("self" : Str) :: ps) scope) (hl : ps.length = fields.length) (chk : chkIni fields ps body = true) :
    FnOk P W₀ K mg base CX0 1 f fd (("self" : Str) :: ps) (spInit K fields) := by
  refine F.ok S (fun vs H Q E ⟨a, C, ws, e, _, _, l, _⟩ => by rw [e]; simp [l, hl]) fun cdv A outer s H vs Q E hr h => ⟨_, ini_body rfl rfl (fun x hx => ?_) 1 fields ps body chk rfl, ini_read (by simp [hl]) h⟩
  rcases S.par x hx with z | z
  · exact .inl z
  · exact .inr (.inl z)
end
theorem zip_names {f : Str} {fs : List Str} {ds : List D} (h : f ∈ (fs.zip ds).reverse.map (·.1)) : f ∈ fs := by
  obtain ⟨p, h1, rfl⟩ := List.mem_map.mp h
  exact (List.of_mem_zip (List.mem_reverse.mp h1)).1
theorem zip_rel {C : Ct} {F : Hp} {L : List Addr} : ∀ {fs : List Str} {vs : List V} {ds : List D} {av : List (Str × V)} {ad : List (Str × D)}, RelDs C F L vs ds → RelFs C F L av ad → RelFs C F L ((fs.zip vs).reverse ++ av) ((fs.zip ds).reverse ++ ad)
  | [], _, _, av, ad, _, h => by simpa using h
  | f :: fs, _, _, av, ad, .nil, h => by simpa using h
  | f :: fs, _, _, av, ad, .cons (v := v) (d := d) rv r, h => by
    rw [List.zip_cons_cons, List.zip_cons_cons, List.reverse_cons, List.reverse_cons, List.append_assoc, List.append_assoc]
    exact zip_rel r ⟨by simp [h.1], .cons rv h.2⟩
section
variable {X : Cx} {W : WX} {pos p p2 : Pos} {x : Str} {fields : List Str} {e : Expr} {es : List Expr} {ms : M (List D)}
theorem ds_rse (hc : X.calm = true) (tk : Takes X W) (c : Xc X.prog X.w (ct X) X.base x fields) (hr : Room 2 X.A) (hg : Gl X x) (hd : (x == ("__debug__" : Str)) = false) (ha : DEs X W (e :: es) ms) (hs : NoStars X (e :: es)) :
    DS X W (.Raise (some (.Call (.Name x p) (e :: es) [] p2)) none pos) (bind ms fun ds => raiseM (x, fields) ds) := by
  obtain ⟨Ca, fI, fd, ps, hm, T, iC, tI, F1, hb, hn, hne, hz, xf⟩ := c.ex
  refine (ps_raise hc tk (pmk_oex T iC tI F1 hr hb .nil pass0 hg hm ha hd (hs.2 e es rfl) (backTo_any hs.tail))).imp fun D σ H ⟨w, ρ, st, h⟩ => ?_
  refine ⟨w, ρ, st, (h.bindE (rel := rDs (ct X))).imp fun vs H1 ⟨ds, w1, ρ1, st1, _, r, _, q⟩ => ?_⟩
  obtain ⟨h1, h2, h3⟩ := q
  unfold raiseM at h3
  by_cases hl : ds.length = fields.length
  · simp only [hl, if_true] at h3
    have hlv : vs.length = fields.length := by rw [r.length]; exact hl
    refine ⟨by omega, fun a haN => ⟨a, Ca, vs, by simp, T, upd_same, hlv, hne, hz, hn, fun d hdN hda => ?_⟩⟩
    have hd1 : H1 d = none := by rw [upd_ne hda] at hdN; exact hdN
    refine ⟨rfl, d, (fields.zip vs).reverse, upd_same, by rw [upd_ne hda, upd_same], hd1, ?_⟩
    have eH : upd (del (upd (upd (upd H1 a (exo a Ca none)) d (exd d (fields.zip vs).reverse)) a (exo a Ca (some d))) a) d (.xd (fields.zip vs).reverse) = upd H1 d (.xd (fields.zip vs).reverse) := by
      funext b
      by_cases hb1 : b = d
      · rw [hb1, upd_same, upd_same]
      · rw [upd_ne hb1, upd_ne hb1]
        by_cases hb2 : b = a
        · rw [hb2, del_same, haN]
        · rw [del_ne hb2, upd_ne hb2, upd_ne hb1, upd_ne hb2]
    rw [eH]
    obtain ⟨b1, b2, b3⟩ := laidF (o := .xd (fields.zip vs).reverse) h1 h2 hd1
    have rf : RelFs (ct X) w1.F w1.L (fields.zip vs).reverse (fields.zip ds).reverse := by
      have := zip_rel (fs := fields) r (av := []) (ad := []) ⟨rfl, .nil⟩
      simpa using this
    exact h3 σ _ _ _ _ b1 b2 b3 ⟨x, _, Ca, d, _, rfl, hm, rfl, rfl, upd_same, ⟨rf.1, RelDs.mono b3.gr rf.2⟩, xf, fun f hf => hn f (zip_names hf)⟩
  · simp only [hl, if_false] at h3
end
end Z

/-! ZT: try, except, with names. -/
namespace Z
open PySem PySem.Spec L2
open PyProof.Rows hiding St

abbrev Cl := Option Nat × Value × (Addr → Value → Option Addr → TS)
/-- behind a suite the clause's name goes -/
def clr (o : Option Nat) (D : Ends) : Ends := match o with
  | none => D
  | some i => ⟨fun σ' H' => D.nx (σ'.set i none) H', D.rt, fun σ' H' => D.bk (σ'.set i none) H', fun σ' H' => D.ct (σ'.set i none) H'⟩
def put (o : Option Nat) (σ : St) (a : Addr) : St := match o with
  | none => σ
  | some i => σ.set i (some (.ref a))
/-- what the clauses wish, one behind the other -/
def wSeq (K : PySem.W.Frag) (Wo : WX) (D : Ends) : List Cl → WX
  | [] => Wo
  | q :: r => fun cls d σ H => ∃ b, PySem.W.exmOne K cls q.2.1 = some b ∧ (b = true → ∀ a, H a = none → q.2.2 a cls d (clr q.1 D) (put q.1 σ a) H) ∧ (b = false → wSeq K Wo D r cls d σ H)
inductive ClOk (X : Cx) : List ExceptHandler → List Cl → Prop
  | nil : ClOk X [] []
  | cons {x : Str} {o : Option (Nat × Str)} {c : Value} {ts : Addr → Value → Option Addr → TS} {z : Stmt} {zs : List Stmt} {np hp : Pos} {hds : List ExceptHandler} {l : List Cl} (hc : Names X x c)
      (ho : ∀ i n, o = some (i, n) → X.N[i]? = some n ∧ X.env.kindOf n = some .local)
      (hsu : ∀ (a : Addr) (oe : Obj) (cls : Value) (d : Option Addr) (pn : List (Addr × Obj)), Zc cls d oe → (∃ vs, oe.data = .fields vs) → PSs (X.suite a ((a, oe) :: pn)) (z :: zs) (ts a cls d)) (r : ClOk X hds l) :
      ClOk X (.ExceptHandler (some (.Name x np)) (o.map (·.2)) (z :: zs) hp :: hds) ((o.map (·.1), c, ts) :: l)
section
variable {X : Cx} {body : List Stmt} {h0 : ExceptHandler} {hds : List ExceptHandler} {l : List Cl} {pos : Pos} {tb : WX → TS} {Wo : WX}
theorem ps_try_cl (hst : X.stack = X.env :: X.outer) (hfm : X.env.frame = some X.env.locals) (hnd : X.N.Nodup) (tk : Takes X Wo)
    (hb : ∀ (W : WX) (pn : List (Addr × Obj)) (xe : Value → Shared → Prop), Takes (X.tr pn xe) W → PassesOwn (model X.prog X.w) X.A X.env xe → PSs (X.tr pn xe) body (tb W))
    (hh : ClOk X (h0 :: hds) l) : PS X (.Try body (h0 :: hds) [] [] pos) (fun D σ H => tb (wSeq X.K Wo D l) D σ H) := by
  constructor
  intro pins s σ H D I h
  have okX := I.ok
  have hfrm : X.A.frames = some (X.env :: X.outer) := by rw [okX.frames, hst]
  apply wpAny_Try_except
  have B0 := hb (wSeq X.K Wo D l) (X.pn ++ pins) (fun e s₁ => wpAny (model X.prog X.w) X.A (noteFrame e X.env) (fun _ s₂ => wpAny (model X.prog X.w) X.A (setFlight e none)
    (fun _ s₃ => wpAny (model X.prog X.w) X.A (handleBy e X.env (h0 :: hds)) (SP X pins D) X.xe s₃) X.xe s₂) X.xe s₁)
  refine wpAny_mono ((B0 (fun u s1 xx => ?_) PassesOwn.looking).run [] s σ H D (I.toTry _) h) (fun f s1 hq => ?_) (fun _ _ he => he)
  · obtain ⟨a, B, sI, pins2, τ, J, cls, d, rfl, Ij, nb, up, sky, na, os, ag, w⟩ := xx
    have I1 : Inv X pins τ J sI := Ij.ofTry okX
    have sky1 : Sky B (X.env :: X.outer) a (Zc cls d) X.env.locals s1.heap := by
      rw [← hst]
      exact sky
    show wpAny (model X.prog X.w) X.A (noteFrame (.ref a) X.env) _ _ s1
    refine Sky.land Zc.steady hfrm hfm sky1 fun g3 fl3 up3 => ?_
    have I3 : Inv X pins τ J { s1 with heap := g3 } := I1.landed nb fl3.1 (up.trans up3) os ag
    obtain ⟨ob3, w3, e3, z3, d3⟩ := fl3.there
    have notFrame : a ∉ frs (X.env :: X.outer) := by
      intro hm
      obtain ⟨_, o', e', hnf⟩ := fl3.2.2.1.mem hm
      rw [e3] at e'
      cases e'
      exact hnf _ d3
    have neL : a ≠ X.env.locals := by
      intro z
      exact notFrame (List.mem_filterMap.mpr ⟨X.env, List.mem_cons_self, by rw [hfm, z]⟩)
    have neF : a ∉ X.fs := by
      intro hm
      obtain ⟨e, he, q⟩ := List.mem_filterMap.mp hm
      exact notFrame (List.mem_filterMap.mpr ⟨e, List.mem_cons_of_mem _ he, q⟩)
    have S3 := I3.suite e3 d3 na neL neF
    have go : ∀ {hs' : List ExceptHandler} {l' : List Cl}, ClOk X hs' l' → wSeq X.K Wo D l' cls d τ J → wpAny (model X.prog X.w) X.A (handleBy (.ref a) X.env hs') (SP X pins D) X.xe { s1 with heap := g3 } := by
      intro hs' l' hk
      induction hk with
      | nil =>
        intro w
        apply wpAny_handleBy_nil
        obtain ⟨_, _, _, oe, vs, T, oT, ts', he, hz, hd, h1, hr⟩ := id fl3
        unfold PySem.passOn
        apply wpAny_bind
        refine wpAny_field he hd h1 ?_
        rw [if_neg (by simp)]
        have fin : wpAny (model X.prog X.w) X.A (setFlight (.ref a) X.env.frame) (fun _ s4 => wpAny (model X.prog X.w) X.A (throw (.ref a) : Sem Flow) (SP X pins D) X.xe s4) X.xe
            { s1 with heap := g3 } := by
          rw [hfm]
          refine HandSPX.setFlight_upZ fl3 fun g4 hh4 up4 => ?_
          refine wpAny_throw (tk _ _ ?_)
          have sk : Sky B X.stack a (Zc cls d) X.env.locals g4 := .inr (.inr (by rw [hst]; exact hh4))
          exact ⟨a, B, sI, pins, τ, J, cls, d, rfl, I1, nb, (up.trans up3).trans up4, sk, na, os, ag, w⟩
        first
          | exact wpAny_bind (wpAny_pure (wpAny_bind fin))
          | exact wpAny_bind fin
      | @cons x o c ts z zs np hp hds2 l2 hc ho hsu r ih =>
        intro w
        obtain ⟨b, w1, w2, w3'⟩ := w
        refine wpAny_handleBy_cons (codeAny_handlers_test ?_) (by intro q; cases q)
        have LT : PySem.W.Looks (model X.prog X.w) g3 (typeOf (.ref a)) cls := by
          intro A Q E s k q
          exact wpAny_typeOf_ref (k _ _ e3) (by rw [z3.1]; exact q)
        have LM := PySem.W.exm_one (M := model X.prog X.w) I3.kIn LT w1
        have nameOk : ∀ {Q : Value → Shared → Prop} {E : Value → Shared → Prop}, Q c { s1 with heap := g3 } →
            wpAny (model X.prog X.w) (X.A.mark (some (.ref a))) (eval (.Name x np) X.env) Q E { s1 with heap := g3 } := by
          intro Q E q
          obtain ⟨hg, hdb, hm | ⟨hm, hv, hnn⟩⟩ := hc
          · exact ld_glob (X := X.suite a ((a, ob3) :: (X.pn ++ pins))) S3 hg hm q hdb
          · exact ld_blt (X := X.suite a ((a, ob3) :: (X.pn ++ pins))) S3 hg hm hv q hnn hdb
        refine nameOk (LM.here ?_)
        cases b with
        | false => exact ih (w3' rfl)
        | true =>
          have w2 := w2 rfl a na
          cases o with
          | none =>
            refine codeAny_handlers_suite ?_
            refine HandSPX.lands_againZ fl3 fun g4 fl4 up4 => ?_
            have I4 : Inv X pins τ J { s1 with heap := g4 } := I1.landed nb fl4.1 ((up.trans up3).trans up4) os ag
            obtain ⟨ob4, v4, e4, z4, d4⟩ := fl4.there
            have S4 := I4.suite e4 d4 na neL neF
            refine wpAny_mono ((hsu a ob4 cls d (X.pn ++ pins) z4 ⟨_, d4⟩).run [] _ _ J _ S4 w2) (fun f s6 hq => ?_) (fun _ _ z => z.elim)
            cases f <;> first
              | (obtain ⟨σ6, H6, S6, q6⟩ := hq; exact ⟨_, _, S6.unsuite okX, q6⟩)
              | (obtain ⟨v6, σ6, H6, S6, r6, q6⟩ := hq; exact ⟨_, _, _, S6.unsuite okX, r6, q6⟩)
          | some p =>
            obtain ⟨i, n⟩ := p
            obtain ⟨hi, hln⟩ := ho i n rfl
            refine codeAny_handlers_suite_as ?_
            refine HandSPX.lands_againZ fl3 fun g4 fl4 up4 => ?_
            have I4 : Inv X pins τ J { s1 with heap := g4 } := I1.landed nb fl4.1 ((up.trans up3).trans up4) os ag
            obtain ⟨ob4, v4, e4, z4, d4⟩ := fl4.there
            have S4 := I4.suite e4 d4 na neL neF
            refine store_ok (X := X.suite a ((a, ob4) :: (X.pn ++ pins))) (v := .ref a) S4 hnd hi (.inl hln) rfl (fun s5 S5 => ?_) (.inr hln)
            refine wpAny_mono ((hsu a ob4 cls d (X.pn ++ pins) z4 ⟨_, d4⟩).run [] s5 _ J _ S5 w2) (fun f s6 hq => ?_) (fun _ _ z => z.elim)
            have gone : ∀ {σ6 : St} {H6 : Hp} {Q : Shared → Prop}, Inv (X.suite a ((a, ob4) :: (X.pn ++ pins))) [] σ6 H6 s6 → (∀ s7, Inv X pins (σ6.set i none) H6 s7 → Q s7) →
                wpAny (model X.prog X.w) X.A (do bindName X.env n .none; unbindBehindTheSuite X.env n hp) (fun _ s7 => Q s7) X.xe s6 := by
              intro σ6 H6 Q S6 hq
              exact gone_ok (S6.unsuite okX) hnd hi hln hq
            cases f <;> first
              | (obtain ⟨σ6, H6, S6, q6⟩ := hq; exact gone S6 fun s7 J7 => ⟨_, _, J7, q6⟩)
              | (obtain ⟨v6, σ6, H6, S6, r6, q6⟩ := hq; exact gone S6 fun s7 J7 => ⟨_, _, _, J7, r6, q6⟩)
    exact go hh w
  · cases f with
    | next =>
      obtain ⟨σ2, H2, I2, q⟩ := hq
      exact wpAny_execs_nil ⟨σ2, H2, I2.ofTry okX, q⟩
    | ret u =>
      obtain ⟨v, σ2, H2, I2, r, q⟩ := hq
      exact ⟨v, σ2, H2, I2.ofTry okX, r, q⟩
    | brk =>
      obtain ⟨σ2, H2, I2, q⟩ := hq
      exact ⟨σ2, H2, I2.ofTry okX, q⟩
    | cont =>
      obtain ⟨σ2, H2, I2, q⟩ := hq
      exact ⟨σ2, H2, I2.ofTry okX, q⟩
end
end Z

/-! Z14: terms against the program's text. -/
namespace Z
open PySem PySem.Spec L2
open PyProof.Rows hiding St

theorem noF' {p : Prop} (h : false = true) : p := absurd h Bool.false_ne_true
/-! ### small checks -/
def litB : D → Const → Bool
  | .non, .none => true
  | .bl a, .bool b => decide (a = b)
  | .int a, .int b => decide (a = b)
  | .str a, .str b => decide (a = b)
  | _, _ => false
theorem litB_rel {C : Ct} {d : D} {k : Const} (h : litB d k = true) {X : Cx} {n : Nat} {pos : Pos} : ∃ v, PE X (.Constant k n pos) (tC v) ∧ ∀ F L, RelD C F L v d := by
  unfold litB at h
  split at h
  · exact ⟨_, pe_non, fun _ _ => .non⟩
  · simp only [decide_eq_true_eq] at h; subst h; exact ⟨_, pe_bl, fun _ _ => .bl _⟩
  · simp only [decide_eq_true_eq] at h; subst h; exact ⟨_, pe_int, fun _ _ => .int _⟩
  · simp only [decide_eq_true_eq] at h; subst h; exact ⟨_, pe_str, fun _ _ => .str _⟩
  · cases h
def nmB (c : Cc) (i : Nat) (x : Str) : Bool := decide (c.N[i]? = some x) && (visB c x && okN x)
def ordB : CmpOp → Bool
  | .Lt | .LtE | .Gt | .GtE => true
  | _ => false
def plainIx : Expr → Bool
  | .Slice .. => false
  | _ => true
def setFree : Expr → Bool
  | .Set .. => false
  | _ => true
def plainTB : Expr → Bool
  | .UnaryOp .Not _ _ => false
  | .BoolOp .. => false
  | .IfExp .. => false
  | .Compare .. => false
  | _ => true
def callB (e : Expr) : Bool := match e with
  | .Call _ _ _ _ => false
  | _ => true
def bltB (c : Cc) (x : Str) (n : Str) : Bool := decide (x = n) && (glB c x && (decide (x ∈ bltNames) && okN x))
def swB : Expr → Bool
  | .ListComp .. => true
  | .SetComp .. => true
  | .DictComp .. => true
  | _ => false
theorem swB_ok {e : Expr} (h : swB e = false) (t : Option Expr) (l : Nat) (env : PySem.Env) : swapsWith e t l env = pure false := by
  cases e <;> first | rfl | cases h
def calB (c : Cc) (j : Nat) (x : Str) (n : Nat) (ks : List Keyword) (ord : List Nat) : Bool :=
  decide (c.gn[j]? = some x) && (glB c x && (okN x && (match ks with
    | [] => ord.isEmpty
    | _ => match kwN ks with
      | some ns => decide ((⟨n, ns, ord⟩ : Pat) ∈ c.gp.getD j [])
      | none => false)))
def makB (c : Cc) (j : Nat) (x : Str) (n : Nat) (ks : List Keyword) (ord : List Nat) : Bool :=
  decide (c.gk[j]? = some x) && (glB c x && (okN x && (match kwN ks with
    | some ns => decide ((⟨n, ns, ord⟩ : Pat) ∈ c.gkp.getD j [])
    | none => false)))
def subB (xs ys : List Nat) : Bool := xs.all fun i => ys.contains i
/-- the context of a comprehension's block -/
def blkCc (c : Cc) (scope : Scope) : Cc := { c with sc := relS scope c.sc, fn := fun x => scope.names.lookup x == some .cell }
def ownOf (c : Cc) (vs : List Nat) : List (Str × Nat) := vs.map fun i => (c.N.getD i "", i)
theorem ownOf_snd (c : Cc) (vs : List Nat) : (ownOf c vs).map (·.2) = vs := by
  unfold ownOf
  rw [List.map_map]
  exact List.map_id _
section
variable {X : Cx} {W : WX} {c : Cc} {G : Gm}
theorem Sc.nm (S : Sc X c G) {i : Nat} {x : Str} (h : nmB c i x = true) : Nm X i x := by
  unfold nmB at h
  simp only [Bool.and_eq_true, decide_eq_true_eq] at h
  obtain ⟨k1, k2, _⟩ := okN_d h.2.2
  exact ⟨by rw [S.N]; exact h.1, S.vis h.2.1, k1, k2⟩
theorem Sc.bl (S : Sc X c G) {x n : Str} {u : Value} (h : bltB c x n = true) (hu : bootBuiltins n = some u) : BName X x u ∧ x = n := by
  unfold bltB at h
  simp only [Bool.and_eq_true, decide_eq_true_eq] at h
  obtain ⟨h1, h2, h3, h4⟩ := h
  subst h1
  exact ⟨S.bn h2 h3 hu h4, rfl⟩
theorem ordB_ok {op : CmpOp} (h : ordB op = true) : Ordr op := by
  cases op <;> first | exact ⟨by decide, by decide, by decide, by decide, by decide, by decide⟩ | cases h
theorem plainIx_ok {e : Expr} (h : plainIx e = true) : PlainIx e := by
  intro o i
  cases e <;> first | rfl | cases h
theorem setFree_in {e : Expr} {op : CmpOp} (h : setFree e = true) : behindInMarks op e = false := by
  cases e <;> first | rfl | cases h
theorem setFree_it {e : Expr} (h : setFree e = true) (env : PySem.Env) (x : Value) : foldedSetIterable e env x = pure x := by
  cases e <;> first | rfl | cases h
theorem plainTB_ok {e : Expr} (h : plainTB e = true) : PlainT X e := by
  intro whole
  cases e with
  | UnaryOp op a p => cases op <;> first | rfl | cases h
  | _ => first | rfl | cases h
theorem noStar_ok {e : Expr} (h : noStar e = true) : NoStar X e := by
  intro es
  cases e <;> first | rfl | (exact absurd h (by simp [noStar]))

/-- what is shown of a term -/
structure Ok (X : Cx) (W : WX) (e : Expr) (m : M D) : Prop where
  d : DE X W e m
  t : DT X W e (testM m)
  w : (∃ op es p, e = .BoolOp op es p) → DW X W e (testM m)
theorem good_plain {e : Expr} {m : M D} (h : DE X W e m) (hp : plainTB e = true) : Ok X W e m :=
  ⟨h, dt_of h (plainTB_ok hp), fun ⟨op, es, p, e⟩ => by subst e; cases hp⟩
theorem dt_ite {t a b : Expr} {mt ma mb : M D} {pos : Pos} (ht : DT X W t (testM mt)) (ha : DT X W a (testM ma)) (hb : DT X W b (testM mb)) :
    DT X W (.IfExp t a b pos) (testM (bind mt fun x => bind (viewM x) fun x => bind (opt (truD x)) fun t => if t then ma else mb)) := by
  have e : testM (bind mt fun x => bind (viewM x) fun x => bind (opt (truD x)) fun t => if t then ma else mb) = bind (testM mt) fun t => if t then testM ma else testM mb := by
    funext ρ st
    simp only [testM, bind, viewM, opt, ret]
    cases mt ρ st with
    | ok x ρ1 st1 =>
      simp only
      cases truD (view st1 x) with
      | none => rfl
      | some t => cases t <;> rfl
    | exc => rfl
    | bad => rfl
  rw [e]
  refine ⟨fun pins s σ H Q I h => ?_⟩
  have h : tM (ct X) W rB (testM mt) σ H fun t H1 => tM (ct X) W rB (if t then testM ma else testM mb) σ H1 Q := h.one.imp fun t H1 ⟨t', w, ρ, st, r, q⟩ => by
    cases r
    exact ⟨w, ρ, st, q⟩
  refine wpAny_bind (thn (ht.run pins s σ H _ I h) fun t s1 ⟨H1, I1, q⟩ => ?_)
  cases t with
  | true => exact ha.run pins s1 σ H1 Q I1 q
  | false => exact hb.run pins s1 σ H1 Q I1 q
/-- a new list's term: by itself, or stored at once -/
structure GoodF (X : Cx) (W : WX) (c : Cc) (e : Expr) (m : M Cell) : Prop where
  d : DF X W e m
  p : plainTB e = true
  s : ∀ (i : Nat) (y : Str) (py spos : Pos), c.N[i]? = some y → locB c y = true → PS X (.Assign [.Name y py] e spos) (tAsg (tF (ct X) W m) (gName i))
theorem goodF_plain (S : Sc X c G) {e : Expr} {m : M Cell} (h : DF X W e m) (hp : plainTB e = true) (hw : swB e = false) : GoodF X W c e m :=
  ⟨h, hp, fun i y py spos hi hl => by
    obtain ⟨h1, h2⟩ := S.loc hl
    exact ps_set (by rw [S.N]; exact S.nd) (by rw [S.N]; exact hi) h1 h (swB_ok hw _ _ _) h2⟩
end
end Z

/-! ZH: what an except suite hands back. -/
namespace Z
open PySem PySem.Spec L2
open PyProof.Rows hiding St

/-- the exception that is caught, as the world has it -/
structure Cond (C : Ct) (a : Addr) (cls : Value) (d : Option Addr) (o : Option Nat) (fs : List (Str × D)) (w : Wd) (σ : St) : Prop where
  slot : ∀ i, o = some i → σ[i]? = some (some (.ref a))
  cl : ∃ (Ca dx : Addr) (vs : List (Str × V)), cls = .ref Ca ∧ XfC C.K Ca ∧ d = some dx ∧ w.F dx = some (.xd vs) ∧ RelFs C w.F w.L vs fs ∧ ∀ f ∈ fs.map (·.1), PySem.W.findIn C.K (.ref Ca) f = some none
theorem Cond.mono {C : Ct} {a : Addr} {cls : Value} {d : Option Addr} {o : Option Nat} {fs : List (Str × D)} {w w' : Wd} {σ : St} (c : Cond C a cls d o fs w σ) (g : Gr w w') : Cond C a cls d o fs w' σ := by
  obtain ⟨Ca, dx, vs, h1, h2, h3, h4, h5, h6⟩ := c.cl
  exact ⟨c.slot, Ca, dx, vs, h1, h2, h3, g.f _ _ h4, ⟨h5.1, RelDs.mono g h5.2⟩, h6⟩
section
variable {C : Ct} {a : Addr} {cls : Value} {d : Option Addr} {o : Option Nat}
/-- the reading of such a term -/
def tHg {α β : Type} (C : Ct) (rel : Wd → β → α → Prop) (a : Addr) (cls : Value) (d : Option Addr) (o : Option Nat) (fs : List (Str × D)) (r : Option α) (σ : St) (H : Hp) (Q : β → Hp → Prop) : Prop :=
  ∃ w σ0 ρ st, RelSt C w H st ∧ RelE C w H σ0 ρ ∧ Cond C a cls d o fs w σ ∧ ∃ x, r = some x ∧ ∀ v w' H', RelSt C w' H' st → RelE C w' H' σ0 ρ → Step w H (Own σ0 ρ) w' H' (Own σ0 ρ) → rel w' v x → Q v H'
end
theorem lookup_names {f : Str} {y : D} : ∀ {fs : List (Str × D)}, fs.lookup f = some y → f ∈ fs.map (·.1)
  | [], e => by cases e
  | (g, z) :: r, e => by
    rw [List.lookup_cons] at e
    by_cases hp : f == g
    · exact List.mem_cons.mpr (.inl (by simpa using hp))
    · have hp' : (f == g) = false := by simpa using hp
      rw [hp'] at e
      exact List.mem_cons_of_mem _ (lookup_names e)
def litV : D → Option V
  | .non => some .non
  | .bl b => some (.bl b)
  | .int i => some (.int i)
  | .str s => some (.str s)
  | _ => none
mutual
/-- n: the clause's name -/
def chkH (n : Option Str) : HE → Expr → Bool
  | .lit d, e => match e with
    | .Constant k _ _ => litB d k
    | _ => false
  | .xf f, e => match e with
    | .Attribute (.Name x _) g _ => decide (f = g) && (decide (n = some x) && okN x)
    | _ => false
  | .lst es, e => match e with
    | .List xs _ => chkHs n es xs
    | _ => false
  | .tup es, e => match e with
    | .Tuple xs _ _ => chkHs n es xs
    | _ => false
def chkHs (n : Option Str) : HEs → List Expr → Bool
  | .nil, [] => true
  | .cons e r, x :: xs => noStar x && (chkH n e x && chkHs n r xs)
  | _, _ => false
end
section
variable {X : Cx} {a : Addr} {oe : Obj} {cls : Value} {d : Option Addr} {pn : List (Addr × Obj)} {o : Option Nat} {n : Option Str} {fs : List (Str × D)}
mutual
theorem he_ok (hz : Zc cls d oe) (hf : ∃ vs, oe.data = .fields vs) (hn : ∀ x, n = some x → ∃ i, o = some i ∧ X.N[i]? = some x ∧ Vis X.env.scope x) : ∀ (h : HE) (e : Expr), chkH n h e = true → PE (X.suite a ((a, oe) :: pn)) e (tHg (ct X) (rD (ct X)) a cls d o fs (evH fs h))
  | .lit l, e, h => by
    unfold chkH at h
    split at h
    · obtain ⟨v, h1, h2⟩ := litB_rel (C := ct X) h
      exact h1.imp fun σ H Q ⟨w, σ0, ρ, st, q1, q2, q3, x, e, q⟩ => by
        cases e
        exact q v w H q1 q2 Step.refl (h2 _ _)
    · exact noF' h
  | .xf f, e, h => by
    unfold chkH at h
    split at h
    · rename_i x p g p2
      simp only [Bool.and_eq_true, decide_eq_true_eq] at h
      obtain ⟨rfl, h1, h2⟩ := h
      obtain ⟨i, ho, hi, hv⟩ := hn x h1
      obtain ⟨k1, k2, _⟩ := okN_d h2
      refine ⟨fun pins s σ H Q I ⟨w, σ0, ρ, st, q1, q2, q3, y, e, q⟩ => ?_⟩
      obtain ⟨Ca, dx, vs, c1, c2, c3, c4, c5, c6⟩ := q3.cl
      have e : fs.lookup f = some y := e
      obtain ⟨v, l1, l2⟩ := lookup_rel c5.1 c5.2 e
      have hmem : f ∈ fs.map (·.1) := lookup_names e
      have pv : PE (X.suite a ((a, oe) :: pn)) (.Name x p) (tVar i) := pe_var hi hv k1 k2
      exact (pe_xf (X := X) c2 (c6 f hmem) hz hf pv rfl).run pins s σ H Q I ⟨_, q3.slot i ho, rfl, c1, dx, vs, v, c3, q1.fh _ _ c4, l1, q v w H q1 q2 Step.refl l2⟩
    · exact noF' h
  | .lst es, e, h => by
    unfold chkH at h
    split at h
    · exact (pe_lst (hes_ok hz hf hn es _ h)).imp fun σ H Q ⟨w, σ0, ρ, st, q1, q2, q3, x, e, q⟩ => by
        unfold evH at e
        split at e
        · rename_i ds hds
          split at e
          · rename_i hl
            cases e
            refine ⟨w, σ0, ρ, st, q1, q2, q3, ds, hds, fun vs w1 H1 r1 r2 s1 rr => ⟨by rw [RelDs.length rr, ← line_eq]; exact hl, fun p hp => ?_⟩⟩
            obtain ⟨b1, b2, b3⟩ := laidF (o := .lst vs) r1 r2 hp
            exact q _ _ _ b1 b2 (s1.trans b3) (.lst upd_same (RelDs.mono b3.gr rr))
          · cases e
        · cases e
    · exact noF' h
  | .tup es, e, h => by
    unfold chkH at h
    split at h
    · exact (pe_tup (hes_ok hz hf hn es _ h)).imp fun σ H Q ⟨w, σ0, ρ, st, q1, q2, q3, x, e, q⟩ => by
        unfold evH at e
        split at e
        · rename_i ds hds
          split at e
          · rename_i hl
            cases e
            refine ⟨w, σ0, ρ, st, q1, q2, q3, ds, hds, fun vs w1 H1 r1 r2 s1 rr => ⟨by rw [RelDs.length rr, ← line_eq]; exact hl, fun p hp => ?_⟩⟩
            obtain ⟨b1, b2, b3⟩ := laidF (o := .tup vs) r1 r2 hp
            exact q _ _ _ b1 b2 (s1.trans b3) (.tup (SqT.of upd_same) (RelDs.mono b3.gr rr))
          · cases e
        · cases e
    · exact noF' h
theorem hes_ok (hz : Zc cls d oe) (hf : ∃ vs, oe.data = .fields vs) (hn : ∀ x, n = some x → ∃ i, o = some i ∧ X.N[i]? = some x ∧ Vis X.env.scope x) : ∀ (h : HEs) (es : List Expr), chkHs n h es = true → PA (X.suite a ((a, oe) :: pn)) es (tHg (ct X) (rDs (ct X)) a cls d o fs (evHs fs h))
  | .nil, es, h => by
    cases es with
    | nil =>
      refine pa_nil.imp fun σ H Q ⟨w, σ0, ρ, st, q1, q2, q3, x, e, q⟩ => ?_
      cases e
      exact q _ w H q1 q2 Step.refl .nil
    | cons _ _ => simp [chkHs] at h
  | .cons e r, es, h => by
    cases es with
    | nil => simp [chkHs] at h
    | cons x xs =>
      simp only [chkHs, Bool.and_eq_true] at h
      obtain ⟨h0, h1, h2⟩ := h
      exact (pa_cons (he_ok hz hf hn e x h1) (hes_ok hz hf hn r xs h2) (noStar_ok h0 xs)).imp fun σ H Q ⟨w, σ0, ρ, st, q1, q2, q3, y, ey, q⟩ => by
        unfold evHs at ey
        split at ey
        · rename_i d1 e1
          split at ey
          · rename_i ds e2
            cases ey
            exact ⟨w, σ0, ρ, st, q1, q2, q3, d1, e1, fun v w1 H1 r1 r2 s1 rr => ⟨w1, σ0, ρ, st, r1, r2, q3.mono s1.gr, ds, e2, fun vs w2 H2 t1 t2 s2 rs => q _ w2 H2 t1 t2 (s1.trans s2) (.cons (RelD.mono s2.gr rr) rs)⟩⟩
          · cases ey
        · cases ey
end
end
end Z

/-! Z15: terms against the program's text; they compute what their runs compute. -/
namespace Z
open PySem PySem.Spec L2
open PyProof.Rows hiding St

def biS : BI → Str
  | .len => "len" | .sum => "sum" | .all => "all" | .any => "any" | .abs => "abs" | .int => "int" | .tuple => "tuple" | .maxL => "max" | .minL => "min"
def bi2S : BI2 → Str
  | .max => "max" | .min => "min"
def tyS : Ty → Str
  | .bool => "bool" | .int => "int" | .str => "str" | .list => "list" | .tuple => "tuple" | .dict => "dict"
/-- -1 -/
def isM1 : Option Expr → Bool
  | some (.UnaryOp .USub (.Constant (.int 1) _ _) _) => true
  | _ => false
def isTupE : Expr → Bool
  | .Tuple .. => true
  | _ => false
theorem isTupE_ok {e : Expr} (h : isTupE e = true) : ∃ elts kk pos, e = .Tuple elts kk pos := by
  cases e <;> first | (cases h; done) | exact ⟨_, _, _, rfl⟩
mutual
def chkE (c : Cc) : IE → Expr → Bool
  | .lit d, e0 => match e0 with
    | .Constant k _ _ => litB d k
    | _ => false
  | .var i, e0 => match e0 with
    | .Name x _ => nmB c i x
    | _ => false
  | .con i, e0 => match e0 with
    | .Name x _ => decide (c.gc[i]? = some x) && (glB c x && okN x)
    | _ => false
  | .bin op a b, e0 => match e0 with
    | .BinOp l op' r _ => decide (op = op') && (chkE c a l && chkE c b r)
    | _ => false
  | .un op a, e0 => match e0 with
    | .UnaryOp op' e _ => decide (op = op') && (decide (op ≠ .Not) && chkE c a e)
    | _ => false
  | .not a, e0 => match e0 with
    | .UnaryOp .Not e _ => chkE c a e
    | _ => false
  | .and a b, e0 => match e0 with
    | .BoolOp .And (e :: e2 :: r) p => chkE c a e && chkE c b (.BoolOp .And (e2 :: r) p)
    | _ => false
  | .or a b, e0 => match e0 with
    | .BoolOp .Or (e :: e2 :: r) p => chkE c a e && chkE c b (.BoolOp .Or (e2 :: r) p)
    | _ => false
  | .one a, e0 => match e0 with
    | .BoolOp _ [e] _ => chkE c a e
    | _ => false
  | .ite t a b, e0 => match e0 with
    | .IfExp et x y _ => chkE c t et && (chkE c a x && chkE c b y)
    | _ => false
  | .cmp op a b, e0 => match e0 with
    | .Compare l [op'] [r] _ => decide (op = op') && (setFree r && (chkE c a l && chkE c b r))
    | _ => false
  | .chain op op2 a b d, e0 => match e0 with
    | .Compare l [o1, o2] [r, s] _ => decide (op = o1) && (decide (op2 = o2) && (ordB op && (ordB op2 && (setFree s && (chkE c a l && (chkE c b r && chkE c d s))))))
    | _ => false
  | .tup es, e0 => match e0 with
    | .Tuple xs _ _ => chkEs c es xs
    | _ => false
  | .mk _ f, e => chkF c f e
  | .call j es kws ord, e0 => match e0 with
    | .Call (.Name x _) as ks _ => calB c j x as.length ks ord && (chkEs c es as && chkKs c kws ks)
    | _ => false
  | .bi f a, e0 => match e0 with
    | .Call (.Name x _) [e] [] _ => bltB c x (biS f) && (noStar e && chkE c a e)
    | _ => false
  | .bi2 f a b, e0 => match e0 with
    | .Call (.Name x _) [e, e2] [] _ => bltB c x (bi2S f) && (noStar e && (noStar e2 && (chkE c a e && chkE c b e2)))
    | _ => false
  | .isi a t, e0 => match e0 with
    | .Call (.Name x _) [e, .Name y _] [] _ => bltB c x "isinstance" && (bltB c y (tyS t) && (noStar e && chkE c a e))
    | _ => false
  | .sub a b, e0 => match e0 with
    | .Subscript l r _ => plainIx r && (chkE c a l && chkE c b r)
    | _ => false
  | .slc a lo hi, e0 => match e0 with
    | .Subscript l (.Slice x y none _) _ => chkE c a l && (chkO c lo x && chkO c hi y)
    | _ => false
  | .pop i e, e0 => match e0 with
    | .Call (.Attribute (.Name x _) m ap) as [] cp => decide (m = "pop") && (nmB c i x && ((ap.endLine == cp.line) && chkP c e as))
    | _ => false
  | .cmpV op i b, e0 => match e0 with
    | .Compare (.Name x _) [op'] [r] _ => decide (op = op') && (setFree r && (nmB c i x && chkE c b r))
    | _ => false
  | .subV i b, e0 => match e0 with
    | .Subscript (.Name x _) r _ => plainIx r && (nmB c i x && chkE c b r)
    | _ => false
  | .biV f i, e0 => match e0 with
    | .Call (.Name y _) [.Name x _] [] _ => bltB c y (biS f) && nmB c i x
    | _ => false
  | .make j es kws ord, e0 => match e0 with
    | .Call (.Name x _) as ks _ => makB c j x as.length ks ord && (chkEs c es as && chkKs c kws ks)
    | _ => false
  | .fld a f, e0 => match e0 with
    | .Attribute e g _ => decide (f = g) && (callB e && chkE c a e)
    | _ => false
  | .eqo neg j a b, e0 => match e0 with
    | .Compare l [op] [r] _ => decide (op = if neg then .NotEq else .Eq) && (decide (j < c.eqn.length) && (setFree r && (chkE c a l && chkE c b r)))
    | _ => false
  | .dic0, e0 => match e0 with
    | .Dict [] [] _ => true
    | _ => false
  | .isc a y, e0 => match e0 with
    | .Call (.Name x _) [e, .Name z _] [] _ => bltB c x "isinstance" && (decide (y = z) && (decide (y ∈ c.kls) && (glB c y && (okN y && (noStar e && chkE c a e)))))
    | _ => false
  | .cellV i, e0 => match e0 with
    | .Name x _ => nmB c i x
    | _ => false
  | .frz a, e => plainTB e && chkE c a e
  | .bits a, e0 => match e0 with
    | .Call (.Attribute e m ap) [] [] cp => decide (m = "bit_length") && (callB e && ((ap.endLine == cp.line) && chkE c a e))
    | _ => false
  | .tupS es, e0 => match e0 with
    | .Tuple xs _ _ => chkSt c es xs
    | _ => false
def chkSt (c : Cc) : ISt → List Expr → Bool
  | .nil, e0 => match e0 with
    | [] => true
    | _ => false
  | .cons a r, e0 => match e0 with
    | e :: es => noStar e && (chkE c a e && chkSt c r es)
    | _ => false
  | .star a r, e0 => match e0 with
    | .Starred e _ :: es => chkE c a e && chkSt c r es
    | _ => false
def chkP (c : Cc) : IO → List Expr → Bool
  | .none, e0 => match e0 with
    | [] => true
    | _ => false
  | .some a, e0 => match e0 with
    | [e] => noStar e && chkE c a e
    | _ => false
def chkEs (c : Cc) : IEs → List Expr → Bool
  | .nil, e0 => match e0 with
    | [] => true
    | _ => false
  | .cons a r, e0 => match e0 with
    | e :: es => noStar e && (chkE c a e && chkEs c r es)
    | _ => false
def chkKs (c : Cc) : IEs → List Keyword → Bool
  | .nil, e0 => match e0 with
    | [] => true
    | _ => false
  | .cons a r, e0 => match e0 with
    | ⟨_, e, _⟩ :: es => chkE c a e && chkKs c r es
    | _ => false
def chkO (c : Cc) : IO → Option Expr → Bool
  | .none, e0 => match e0 with
    | none => true
    | _ => false
  | .some a, e0 => match e0 with
    | some e => chkE c a e
    | _ => false
def chkTst (c : Cc) : IO → List Expr → Bool
  | .none, e0 => match e0 with
    | [] => true
    | _ => false
  | .some a, e0 => match e0 with
    | [e] => chkE c a e
    | _ => false
def chkF (c : Cc) : IF → Expr → Bool
  | .disp es, e0 => match e0 with
    | .List xs _ => chkEs c es xs
    | _ => false
  | .lc elt t it ifs vs, e0 => match e0 with
    | .ListComp e [⟨tg, iter, is, n⟩] scope _ => decide (n = 0) && (setFree iter && (chkI c tg it iter && (blkC c.N c.sc scope (ownOf c vs) && (subB (tgS t) vs && (chkT (blkCc c scope) t tg && (chkTst (blkCc c scope) ifs is && chkE (blkCc c scope) elt e))))))
    | _ => false
  | .cat a b, e0 => match e0 with
    | .BinOp l .Add r _ => chkE c a l && chkE c b r
    | _ => false
  | .rep a b, e0 => match e0 with
    | .BinOp l .Mult r _ => chkE c a l && chkE c b r
    | _ => false
  | .list a, e0 => match e0 with
    | .Call (.Name x _) [e] [] _ => bltB c x "list" && (noStar e && chkE c a e)
    | _ => false
  | .listR a, e0 => match e0 with
    | .Call (.Name x _) [.Call (.Name y _) [e] [] _] [] _ => bltB c x "list" && (bltB c y "range" && (noStar e && chkE c a e))
    | _ => false
  | .lc2 .., _ => false
  | .dispS es, e0 => match e0 with
    | .List xs _ => chkSt c es xs
    | _ => false
  | .rev a, e0 => match e0 with
    | .Subscript e (.Slice none none s _) _ => isM1 s && chkE c a e
    | _ => false
  | .sort a, e0 => match e0 with
    | .Call (.Name x _) [e] [] _ => bltB c x "sorted" && (noStar e && chkE c a e)
    | _ => false
def chkI (c : Cc) (tg : Expr) : II → Expr → Bool
  | .seq a, e => chkE c a e
  | .range1 a, e0 => match e0 with
    | .Call (.Name x _) [e] [] _ => bltB c x "range" && (noStar e && chkE c a e)
    | _ => false
  | .range2 a b, e0 => match e0 with
    | .Call (.Name x _) [e, e2] [] _ => bltB c x "range" && (noStar e && (noStar e2 && (chkE c a e && chkE c b e2)))
    | _ => false
  | .enum a, e0 => match e0 with
    | .Call (.Name x _) [e] [] _ => bltB c x "enumerate" && (isTupE tg && (noStar e && chkE c a e))
    | _ => false
  | .down a b d, e0 => match e0 with
    | .Call (.Name x _) [e, e2, e3] [] _ => bltB c x "range" && (noStar e && (noStar e2 && (noStar e3 && (chkE c a e && (chkE c b e2 && chkE c d e3)))))
    | _ => false
  | .zip a b, e0 => match e0 with
    | .Call (.Name x _) [e, e2] [] _ => bltB c x "zip" && (isTupE tg && (noStar e && (noStar e2 && (chkE c a e && chkE c b e2))))
    | _ => false
end
def IEs.length : IEs → Nat
  | .nil => 0
  | .cons _ r => r.length + 1
theorem evEs_len {G : Gm} : ∀ (es : IEs) {ρ : Env} {st : Store} {ds : List D} {ρ' : Env} {st' : Store}, evEs G es ρ st = .ok ds ρ' st' → ds.length = es.length
  | .nil, _, _, _, _, _, e => by cases e; rfl
  | .cons a r, _, _, _, _, _, e => by
    obtain ⟨d, ρ1, st1, e1, e2⟩ := bind_ok e
    obtain ⟨ds, ρ2, st2, e3, e4⟩ := bind_ok e2
    cases e4
    simp [IEs.length, evEs_len r e3]
theorem chkEs_len {c : Cc} : ∀ {is : IEs} {es : List Expr}, chkEs c is es = true → is.length = es.length
  | .nil, [], _ => rfl
  | .nil, _ :: _, h => by simp [chkEs] at h
  | .cons _ _, [], h => by simp [chkEs] at h
  | .cons a r, e :: es, h => by
    simp only [chkEs, Bool.and_eq_true] at h
    simp [IEs.length, chkEs_len h.2.2]
theorem chkKs_len {c : Cc} : ∀ {is : IEs} {es : List Keyword}, chkKs c is es = true → is.length = es.length
  | .nil, [], _ => rfl
  | .nil, _ :: _, h => by simp [chkKs] at h
  | .cons _ _, [], h => by simp [chkKs] at h
  | .cons a r, ⟨_, e, _⟩ :: es, h => by
    simp only [chkKs, Bool.and_eq_true] at h
    simp [IEs.length, chkKs_len h.2]
theorem chkEs_star {X : Cx} {c : Cc} : ∀ {is : IEs} {es : List Expr}, chkEs c is es = true → NoStars X es
  | .nil, [], _ => ⟨rfl, fun e r h => by cases h⟩
  | .nil, _ :: _, h => by simp [chkEs] at h
  | .cons _ _, [], h => by simp [chkEs] at h
  | .cons a r, e :: es, h => by
    simp only [chkEs, Bool.and_eq_true] at h
    have h1 := noStar_ok (X := X) h.1
    refine ⟨?_, fun e' r' he => by cases he; exact h1 es⟩
    rw [h1 es]
    have := (chkEs_star (X := X) h.2.2).1
    simp [this]
theorem boot_bi (f : BI) : bootBuiltins (biS f) = some (biV f) := by cases f <;> decide +kernel
theorem boot_bi2 (f : BI2) : bootBuiltins (bi2S f) = some (.builtin (bi2N f)) := by cases f <;> decide +kernel
theorem boot_ty (t : Ty) : bootBuiltins (tyS t) = some (.type (tyN t)) := by cases t <;> decide +kernel
theorem boot_isi : bootBuiltins "isinstance" = some (.builtin "isinstance") := by decide +kernel
theorem boot_enumerate : bootBuiltins "enumerate" = some (.type "enumerate") := by decide +kernel
theorem boot_sorted : bootBuiltins "sorted" = some (.builtin "sorted") := by decide +kernel
theorem boot_zip : bootBuiltins "zip" = some (.type "zip") := by decide +kernel
theorem boot_list : bootBuiltins "list" = some (.type "list") := by decide +kernel
theorem boot_range : bootBuiltins "range" = some (.type "range") := by decide +kernel
theorem Sc.blk {X : Cx} {c : Cc} {G : Gm} (S : Sc X c G) {vs : List Nat} {scope : Scope} (h : blkC c.N c.sc scope (ownOf c vs) = true) (s : Shared) (H : Hp) (C : Addr) (cl : List (Str × Addr)) (fp : List Addr) :
    Sc (X.blk s H scope (compEnvC scope cl C X.env) fp) (blkCc c scope) G := by
  refine ⟨?_, fun x => rfl, S.N, S.nd, S.calm, S.un, S.blt, S.fs, S.cs, S.ms, S.at_, S.kl, S.kle, S.xm, S.xne, S.xc, S.eq⟩
  show relabel scope X.env = relS scope c.sc
  unfold relabel relS Env.kindOf
  rw [S.sc]
theorem takes0 {X : Cx} (s : Shared) (H : Hp) (scope : Scope) (env : PySem.Env) (fp : List Addr) : Takes (X.blk s H scope env fp) W0 := by
  intro u s' h
  obtain ⟨a, B, sI, pins, σ, H, cls, d, e, I, nb, up, sky, na, os, ag, w⟩ := h
  exact w.elim
theorem set_self {σ : St} {i : Nat} {v : V} (h : σ[i]? = some (some v)) : σ.set i (some v) = σ := by
  refine List.ext_getElem? fun j => ?_
  by_cases hj : i = j
  · subst hj
    rw [List.getElem?_set_self (List.getElem?_eq_some_iff.mp h).1, h]
  · rw [List.getElem?_set_ne hj]
/-- an object of its own is let into a cell -/
theorem unOwn {C : Ct} {w : Wd} {H : Hp} {σ : St} {ρ : Env} {i : Nat} (he : RelE C w H σ ρ) : RelE C w H σ (ρ.set i .un) := by
  have ne : ∀ {m : Nat} {s0 : Sl}, s0 ≠ .un → (ρ.set i .un)[m]? = some s0 → i ≠ m ∧ ρ[m]? = some s0 := fun {m s0} hs h => by
    have n : i ≠ m := fun z => by
      subst z
      have hl : i < ρ.length := by
        have := (List.getElem?_eq_some_iff.mp h).1
        simpa using this
      rw [List.getElem?_set_self hl] at h
      cases h
      exact hs rfl
    rw [List.getElem?_set_ne n] at h
    exact ⟨n, h⟩
  refine ⟨by simp [he.len], fun j e h => he.val j e (ne (by intro z; cases z) h).2, fun j e h => he.own j e (ne (by intro z; cases z) h).2, fun j k c1 c2 a h1 h2 h3 h4 => he.ap j k c1 c2 a (ne (by intro z; cases z) h1).2 (ne (by intro z; cases z) h2).2 h3 h4⟩
theorem de_cellV {X : Cx} {W : WX} {i : Nat} {x : Str} {pos : Pos} (n : Nm X i x) : DE X W (.Name x pos) (cellM i) :=
  n.pe.imp fun σ H Q ⟨w, ρ, st, hs, he, q⟩ => by
    unfold cellM at q
    cases e : ρ[i]? with
    | none => rw [e] at q; exact q.elim
    | some sl =>
      rw [e] at q
      cases sl with
      | un => exact q.elim
      | val d => exact q.elim
      | own c =>
        obtain ⟨a, e1, rc, hf, hl⟩ := he.own i c e
        have hil : i < ρ.length := (List.getElem?_eq_some_iff.mp e).1
        have h1 := unOwn (i := i) he
        have hn : ¬ Own σ (ρ.set i .un) a := fun ⟨j, d, k1, k2⟩ => by
          by_cases hj : i = j
          · subst hj
            rw [List.getElem?_set_self hil] at k1; cases k1
          · rw [List.getElem?_set_ne hj] at k1
            exact hj (he.ap i j c d a e k1 e1 k2)
        obtain ⟨b1, b2, b3, b4⟩ := toL hs h1 rc hf hl hn
        have b5 := setE (i := i) b2 b4
        rw [set_self e1, List.set_set] at b5
        refine ⟨_, e1, q _ _ H b1 b5 ⟨b3, fun x u h _ _ => h, fun x u h => .inl h, fun x h => ?_, fun x h => .inl (own_set_val h).1, fun x h => h⟩ b4⟩
        rcases List.mem_append.mp h with h | h
        · exact .inl h
        · simp at h; rw [h]; exact .inr (.inl ⟨i, c, e, e1⟩)
end Z

/-! Z16: checked terms compute what their runs compute. -/
namespace Z
open PySem PySem.Spec L2
open PyProof.Rows hiding St

theorem noF {p : Prop} (h : false = true) : p := absurd h Bool.false_ne_true
theorem subB_ok {xs ys : List Nat} (h : subB xs ys = true) : ∀ i ∈ xs, i ∈ ys := fun i hi => by
  unfold subB at h
  exact List.contains_iff_mem.mp (List.all_eq_true.mp h i hi)
section
variable {G : Gm}
theorem evE_chain {op op2 : CmpOp} {a b d : IE} : evE G (.chain op op2 a b d) = bind (chainM op op2 (evE G a) (evE G b) (evE G d)) fun t => ret (.bl t) := by
  unfold chainM
  simp only [bind_assoc]
  show (bind (evE G a) fun x => bind (evE G b) fun y => bind (opt (cmpD op x y)) fun t => if t then bind (evE G d) fun z => bind (opt (cmpD op2 y z)) fun t => ret (D.bl t) else ret (D.bl false)) = _
  congr 1; funext x; congr 1; funext y; congr 1; funext t
  cases t with
  | true => rw [if_pos rfl, if_pos rfl, bind_assoc]
  | false => rw [if_neg Bool.false_ne_true, if_neg Bool.false_ne_true]; rfl
theorem pop_none : evO G .none = ret none := rfl
mutual
theorem soE {X : Cx} {W : WX} {c : Cc} (S : Sc X c G) (tk : Takes X W) : ∀ (i : IE) (e : Expr), chkE c i e = true → Ok X W e (evE G i)
  | .lit d, e, h => by
    unfold chkE at h
    split at h
    · rename_i k n p
      obtain ⟨v, h1, h2⟩ := litB_rel (C := ct X) h (X := X) (n := n) (pos := p)
      exact good_plain (de_ret h1 fun w => h2 _ _) rfl
    · exact noF h
  | .var i, e, h => by
    unfold chkE at h
    split at h
    · have n := S.nm h
      exact good_plain (de_var n.n n.v n.d n.c) rfl
    · exact noF h
  | .con i, e, h => by
    unfold chkE at h
    split at h
    · simp only [Bool.and_eq_true, decide_eq_true_eq] at h
      obtain ⟨d, u, v, h1, h2, h3, h4⟩ := S.cs _ _ h.1
      refine good_plain ?_ rfl
      show DE X W _ (opt G.cs[i]?)
      rw [h1]
      exact de_ret (pe_glob (S.gl h.2.1) h2 h3 (okN_d h.2.2).1) fun w => h4 _ _
    · exact noF h
  | .bin op a b, e, h => by
    unfold chkE at h
    split at h
    · simp only [Bool.and_eq_true, decide_eq_true_eq] at h
      obtain ⟨rfl, h1, h2⟩ := h
      exact good_plain (de_bin (soE S tk a _ h1).d (soE S tk b _ h2).d) rfl
    · exact noF h
  | .un op a, e, h => by
    unfold chkE at h
    split at h
    · simp only [Bool.and_eq_true, decide_eq_true_eq] at h
      obtain ⟨rfl, h0, h1⟩ := h
      refine good_plain (de_un (soE S tk a _ h1).d) ?_
      cases op <;> first | rfl | exact absurd rfl h0
    · exact noF h
  | .not a, e, h => by
    unfold chkE at h
    split at h
    · have g := soE S tk a _ h
      exact ⟨de_not g.d, dt_not g.t, fun ⟨_, _, _, e⟩ => by cases e⟩
    · exact noF h
  | .and a b, e, h => by
    unfold chkE at h
    split at h
    · simp only [Bool.and_eq_true] at h
      have ga := soE S tk a _ h.1
      have gb := soE S tk b _ h.2
      have w := dw_and ga.t (gb.w ⟨_, _, _, rfl⟩)
      exact ⟨de_and ga.d gb.d, w.pt, fun _ => w⟩
    · exact noF h
  | .or a b, e, h => by
    unfold chkE at h
    split at h
    · simp only [Bool.and_eq_true] at h
      have ga := soE S tk a _ h.1
      have gb := soE S tk b _ h.2
      have w := dw_or ga.t (gb.w ⟨_, _, _, rfl⟩)
      exact ⟨de_or ga.d gb.d, w.pt, fun _ => w⟩
    · exact noF h
  | .one a, e, h => by
    unfold chkE at h
    split at h
    · have g := soE S tk a _ h
      exact ⟨de_one g.d, (dw_and1 g.t).pt, fun _ => dw_and1 g.t⟩
    · exact noF h
  | .ite t a b, e, h => by
    unfold chkE at h
    split at h
    · simp only [Bool.and_eq_true] at h
      have g1 := soE S tk t _ h.1
      have g2 := soE S tk a _ h.2.1
      have g3 := soE S tk b _ h.2.2
      exact ⟨de_ite g1.t g2.d g3.d, dt_ite g1.t g2.t g3.t, fun ⟨_, _, _, e⟩ => by cases e⟩
    · exact noF h
  | .cmp op a b, e, h => by
    unfold chkE at h
    split at h
    · simp only [Bool.and_eq_true, decide_eq_true_eq] at h
      obtain ⟨rfl, h0, h1, h2⟩ := h
      have g1 := (soE S tk a _ h1).d
      have g2 := (soE S tk b _ h2).d
      have e : evE G (.cmp op a b) = bind (cmpM op (evE G a) (evE G b)) fun t => ret (.bl t) := by
        unfold cmpM
        simp only [bind_assoc]
        rfl
      rw [e]
      exact ⟨de_cmp S.un g1 g2 (setFree_in h0), dt_cmp S.un g1 g2 (setFree_in h0), fun ⟨_, _, _, e⟩ => by cases e⟩
    · exact noF h
  | .chain op op2 a b d, e, h => by
    unfold chkE at h
    split at h
    · simp only [Bool.and_eq_true, decide_eq_true_eq] at h
      obtain ⟨rfl, rfl, k1, k2, h0, h1, h2, h3⟩ := h
      have g1 := (soE S tk a _ h1).d
      have g2 := (soE S tk b _ h2).d
      have g3 := (soE S tk d _ h3).d
      rw [evE_chain]
      exact ⟨de_chain (ordB_ok k1) (ordB_ok k2) S.un g1 g2 g3 (setFree_in h0), dt_chain (ordB_ok k1) (ordB_ok k2) S.un g1 g2 g3 (setFree_in h0), fun ⟨_, _, _, e⟩ => by cases e⟩
    · exact noF h
  | .tup es, e, h => by
    unfold chkE at h
    split at h
    · exact good_plain (de_tup ((soEs S tk es).1 _ h)) rfl
    · exact noF h
  | .mk k f, e, h => by
    have g := soF S tk f e h
    exact good_plain (de_mk g.d) g.p
  | .call j es kws ord, e, h => by
    unfold chkE at h
    split at h
    · rename_i x p as ks p2
      simp only [Bool.and_eq_true] at h
      obtain ⟨h1, h2, h3⟩ := h
      unfold calB at h1
      simp only [Bool.and_eq_true, decide_eq_true_eq] at h1
      obtain ⟨k1, k2, k3, k4⟩ := h1
      obtain ⟨F, lv, q1, q2, q3⟩ := S.fs j x k1
      have hF : fnAt G.fs j = F := by unfold fnAt; rw [q1]
      have gl := S.gl k2
      have nd := (okN_d k3).1
      have ga := (soEs S tk es).1 _ h2
      have gk := (soEs S tk kws).2 _ h3
      have key : DE X W (.Call (.Name x p) as ks p2) (callD F (evEs G es) (evEs G kws) ord) := by
        cases ks with
        | nil =>
          have k4 : ord.isEmpty = true := k4
          rw [List.isEmpty_iff] at k4
          subst k4
          cases kws with
          | cons a r => simp [chkKs] at h3
          | nil =>
            cases as with
            | nil =>
              cases es with
              | cons a r => simp [chkEs] at h2
              | nil => exact de_call0 q2 q3 tk gl nd
            | cons a r => exact de_call q2 q3 tk gl nd ga (chkEs_star h2)
        | cons kw kr =>
          simp only at k4
          split at k4
          · rename_i ns hk
            simp only [decide_eq_true_eq] at k4
            exact de_callK q2 q3 tk gl nd ga gk (chkEs_star h2) k4 hk rfl (fun ρ st ds ρ' st' e => (evEs_len es e).trans (chkEs_len h2)) (fun ρ st ds ρ' st' e => (evEs_len kws e).trans (chkKs_len h3)) (fun e => by
              subst e
              cases es with
              | cons a r => simp [chkEs] at h2
              | nil => rfl)
          · cases k4
      have key : DE X W (.Call (.Name x p) as ks p2) (evE G (.call j es kws ord)) := by
        show DE X W _ (callD (fnAt G.fs j) (evEs G es) (evEs G kws) ord)
        rw [hF]
        exact key
      exact good_plain key rfl
    · exact noF h
  | .bi f a, e, h => by
    unfold chkE at h
    split at h
    · simp only [Bool.and_eq_true] at h
      obtain ⟨h1, h2, h3⟩ := h
      obtain ⟨n, rfl⟩ := S.bl h1 (boot_bi f)
      exact good_plain (de_bi n S.calm (soE S tk a _ h3).d (noStar_ok h2)) rfl
    · exact noF h
  | .bi2 f a b, e, h => by
    unfold chkE at h
    split at h
    · simp only [Bool.and_eq_true] at h
      obtain ⟨h1, h2, h3, h4, h5⟩ := h
      obtain ⟨n, rfl⟩ := S.bl h1 (boot_bi2 f)
      exact good_plain (de_bi2 n S.calm (soE S tk a _ h4).d (soE S tk b _ h5).d (noStar_ok h2) (noStar_ok h3)) rfl
    · exact noF h
  | .isi a t, e, h => by
    unfold chkE at h
    split at h
    · simp only [Bool.and_eq_true] at h
      obtain ⟨h1, h2, h3, h4⟩ := h
      obtain ⟨n, rfl⟩ := S.bl h1 boot_isi
      obtain ⟨n2, rfl⟩ := S.bl h2 (boot_ty t)
      exact good_plain (de_isi n n2 (soE S tk a _ h4).d (noStar_ok h3) (noStar_ok rfl)) rfl
    · exact noF h
  | .sub a b, e, h => by
    unfold chkE at h
    split at h
    · simp only [Bool.and_eq_true] at h
      obtain ⟨h1, h2, h3⟩ := h
      exact good_plain (de_sub (soE S tk a _ h2).d (soE S tk b _ h3).d (plainIx_ok h1)) rfl
    · exact noF h
  | .slc a lo hi, e, h => by
    unfold chkE at h
    split at h
    · simp only [Bool.and_eq_true] at h
      obtain ⟨h1, h2, h3⟩ := h
      exact good_plain (de_slc (soE S tk a _ h1).d ((soO S tk lo).1 _ h2) ((soO S tk hi).1 _ h3)) rfl
    · exact noF h
  | .pop i o, e, h => by
    unfold chkE at h
    split at h
    · rename_i x p m ap as cp
      simp only [Bool.and_eq_true, decide_eq_true_eq] at h
      obtain ⟨rfl, h1, h2, h3⟩ := h
      have n := S.nm h1
      have k : Mcall X x p "pop" ap cp := ⟨rfl, h2⟩
      rcases (soO S tk o).2.2 _ h3 with ⟨rfl, rfl⟩ | ⟨a, b, rfl, rfl, hs, hb⟩
      · exact good_plain (de_pop0 n k) rfl
      · exact good_plain (de_pop1 n k hb (noStar_ok hs)) rfl
    · exact noF h
  | .cmpV op i b, e, h => by
    unfold chkE at h
    split at h
    · simp only [Bool.and_eq_true, decide_eq_true_eq] at h
      obtain ⟨rfl, h0, h1, h2⟩ := h
      have n := S.nm h1
      have g := (soE S tk b _ h2).d
      have e : evE G (.cmpV op i b) = bind (cmpVM op i (evE G b)) fun t => ret (.bl t) := by
        unfold cmpVM
        simp only [bind_assoc]
        rfl
      rw [e]
      exact ⟨de_cmpV S.un n g (setFree_in h0), dt_cmpV S.un n g (setFree_in h0), fun ⟨_, _, _, e⟩ => by cases e⟩
    · exact noF h
  | .subV i b, e, h => by
    unfold chkE at h
    split at h
    · simp only [Bool.and_eq_true] at h
      obtain ⟨h1, h2, h3⟩ := h
      exact good_plain (de_subV (S.nm h2) (soE S tk b _ h3).d (plainIx_ok h1)) rfl
    · exact noF h
  | .biV f i, e, h => by
    unfold chkE at h
    split at h
    · simp only [Bool.and_eq_true] at h
      obtain ⟨n, rfl⟩ := S.bl h.1 (boot_bi f)
      exact good_plain (de_biV n S.calm (S.nm h.2) (noStar_ok rfl)) rfl
    · exact noF h
  | .make j es kws ord, e, h => by
    unfold chkE at h
    split at h
    · rename_i x p as ks p2
      simp only [Bool.and_eq_true] at h
      obtain ⟨h1, h2, h3⟩ := h
      unfold makB at h1
      simp only [Bool.and_eq_true, decide_eq_true_eq] at h1
      obtain ⟨k1, k2, k3, k4⟩ := h1
      obtain ⟨F, lv, q1, q2, q3⟩ := S.ms j x k1
      have ga := (soEs S tk es).1 _ h2
      have gk := (soEs S tk kws).2 _ h3
      split at k4
      · rename_i ns hk
        simp only [decide_eq_true_eq] at k4
        have key := de_make (p := p) (pos := p2) q2 q3 tk (S.gl k2) (okN_d k3).1 ga gk (chkEs_star h2) k4 hk rfl (fun ρ st ds ρ' st' e => (evEs_len es e).trans (chkEs_len h2)) (fun ρ st ds ρ' st' e => (evEs_len kws e).trans (chkKs_len h3)) (fun e => by
          subst e
          cases es with
          | cons a r => simp [chkEs] at h2
          | nil => rfl) (fun e => by
          subst e
          cases kws with
          | cons a r => simp [chkKs] at h3
          | nil => rfl)
        refine good_plain ?_ rfl
        show DE X W _ (bind (evEs G es) fun ds => bind (evEs G kws) fun ks => bind (opt (pickO (ds ++ ks) ord)) fun as => bind (opt G.mks[j]?) fun p => makeM p as)
        rw [q1]
        exact key
      · cases k4
    · exact noF h
  | .fld a f, e, h => by
    unfold chkE at h
    split at h
    · rename_i e0 g p
      simp only [Bool.and_eq_true, decide_eq_true_eq] at h
      obtain ⟨rfl, h1, h2⟩ := h
      refine good_plain (de_fld S.at_ (soE S tk a _ h2).d ?_) rfl
      cases e0 <;> first | rfl | cases h1
    · exact noF h
  | .eqo neg j a b, e, h => by
    unfold chkE at h
    split at h
    · rename_i l op r p
      simp only [Bool.and_eq_true, decide_eq_true_eq] at h
      obtain ⟨rfl, h0, h1, h2, h3⟩ := h
      have hx : c.eqn[j]? = some c.eqn[j] := by simp [h0]
      obtain ⟨F, k, q1, q2, q3⟩ := S.eq j _ hx
      have g1 := (soE S tk a _ h2).d
      have g2 := (soE S tk b _ h3).d
      have e : evE G (.eqo neg j a b) = bind (eqM neg G.kls (c.eqn[j], F) (evE G a) (evE G b)) fun t => ret (.bl t) := by
        show bind (bind (evE G a) fun x => bind (evE G b) fun y => bind (opt G.eqs[j]?) fun p => bind (eqoM G.kls p x y) fun t => ret (if neg then !t else t)) (fun t => ret (D.bl t)) = _
        rw [q1]
        rfl
      rw [e]
      exact ⟨de_eqn q2 S.kl q3 S.un g1 g2 (setFree_in h1), dt_eqn q2 S.kl q3 S.un g1 g2 (setFree_in h1), fun ⟨_, _, _, e⟩ => by cases e⟩
    · exact noF h
  | .dic0, e, h => by
    unfold chkE at h
    split at h
    · refine good_plain (pe_dnewK.imp fun σ H Q ⟨w, ρ, st, h1, h2, h3⟩ => fun p hp => ?_) rfl
      obtain ⟨b1, b2, b3⟩ := laidF (o := .dK []) h1 h2 hp
      exact h3 _ _ _ b1 b2 b3 (.dct0 upd_same)
    · exact noF h
  | .isc a y, e, h => by
    unfold chkE at h
    split at h
    · simp only [Bool.and_eq_true, decide_eq_true_eq] at h
      obtain ⟨h1, rfl, h2, h3, h4, h5, h6⟩ := h
      obtain ⟨n, rfl⟩ := S.bl h1 boot_isi
      exact good_plain (de_isc S.kl (by rw [S.kle]; exact h2) n (S.gl h3) (okN_d h4).1 (soE S tk a _ h6).d (noStar_ok h5) (noStar_ok rfl)) rfl
    · exact noF h
  | .cellV i, e, h => by
    unfold chkE at h
    split at h
    · exact good_plain (de_cellV (S.nm h)) rfl
    · exact noF h
  | .frz a, e, h => by
    unfold chkE at h
    simp only [Bool.and_eq_true] at h
    exact good_plain (de_frz (soE S tk a _ h.2).d) h.1
  | .bits a, e, h => by
    unfold chkE at h
    split at h
    · rename_i e0 m ap cp
      simp only [Bool.and_eq_true, decide_eq_true_eq] at h
      obtain ⟨rfl, h1, h2, h3⟩ := h
      refine good_plain (de_bits (soE S tk a _ h3).d ?_ h2) rfl
      cases e0 <;> first | rfl | cases h1
    · exact noF h
  | .tupS es, e, h => by
    unfold chkE at h
    split at h
    · exact good_plain (de_tup (soSt S tk es _ h)) rfl
    · exact noF h
theorem soSt {X : Cx} {W : WX} {c : Cc} (S : Sc X c G) (tk : Takes X W) : ∀ (i : ISt) (es : List Expr), chkSt c i es = true → DEs X W es (evSt G i)
  | .nil, es, h => by
    cases es with
    | nil => exact ds_nil
    | cons _ _ => simp [chkSt] at h
  | .cons a r, es, h => by
    cases es with
    | nil => simp [chkSt] at h
    | cons e es =>
      simp only [chkSt, Bool.and_eq_true] at h
      exact ds_cons (soE S tk a _ h.2.1).d (soSt S tk r _ h.2.2) (noStar_ok h.1 es)
  | .star a r, es, h => by
    unfold chkSt at h
    split at h
    · simp only [Bool.and_eq_true] at h
      exact ds_star (soE S tk a _ h.1).d (soSt S tk r _ h.2) rfl
    · exact noF h
theorem soEs {X : Cx} {W : WX} {c : Cc} (S : Sc X c G) (tk : Takes X W) : ∀ (i : IEs), (∀ es, chkEs c i es = true → DEs X W es (evEs G i)) ∧ (∀ ks, chkKs c i ks = true → DKs X W ks (evEs G i))
  | .nil => ⟨fun es h => by
    cases es with
    | nil => exact ds_nil
    | cons _ _ => simp [chkEs] at h, fun es h => by
    cases es with
    | nil => exact dk_nil
    | cons _ _ => simp [chkKs] at h⟩
  | .cons a r => ⟨fun es h => by
    cases es with
    | nil => simp [chkEs] at h
    | cons e es =>
      simp only [chkEs, Bool.and_eq_true] at h
      exact ds_cons (soE S tk a _ h.2.1).d ((soEs S tk r).1 _ h.2.2) (noStar_ok h.1 es), fun es h => by
    cases es with
    | nil => simp [chkKs] at h
    | cons e es =>
      obtain ⟨nm, e, p⟩ := e
      simp only [chkKs, Bool.and_eq_true] at h
      exact dk_cons (soE S tk a _ h.1).d ((soEs S tk r).2 _ h.2)⟩
theorem soO {X : Cx} {W : WX} {c : Cc} (S : Sc X c G) (tk : Takes X W) : ∀ (i : IO), (∀ e, chkO c i e = true → DO X W e (evO G i)) ∧ (∀ is, chkTst c i is = true → DTs X W is (evT G i)) ∧
    (∀ as, chkP c i as = true → (i = .none ∧ as = []) ∨ ∃ a e, i = .some a ∧ as = [e] ∧ noStar e = true ∧ DE X W e (evE G a))
  | .none => ⟨fun e h => by
    cases e with
    | none => exact do_none
    | some _ => simp [chkO] at h, fun is h => by
    cases is with
    | nil => exact dts_nil
    | cons _ _ => simp [chkTst] at h, fun is h => by
    cases is with
    | nil => exact .inl ⟨rfl, rfl⟩
    | cons _ _ => simp [chkP] at h⟩
  | .some a => ⟨fun e h => by
    cases e with
    | none => simp [chkO] at h
    | some e =>
      simp only [chkO] at h
      exact do_some (soE S tk a _ h).d, fun is h => by
    unfold chkTst at h
    split at h
    · exact dts_one (soE S tk a _ h).t
    · exact noF h, fun is h => by
    unfold chkP at h
    split at h
    · simp only [Bool.and_eq_true] at h
      exact .inr ⟨a, _, rfl, rfl, h.1, (soE S tk a _ h.2).d⟩
    · exact noF h⟩
theorem soF {X : Cx} {W : WX} {c : Cc} (S : Sc X c G) (tk : Takes X W) : ∀ (i : IF) (e : Expr), chkF c i e = true → GoodF X W c e (evF G i)
  | .disp es, e, h => by
    unfold chkF at h
    split at h
    · exact goodF_plain S (df_disp ((soEs S tk es).1 _ h)) rfl rfl
    · exact noF h
  | .lc elt t it ifs vs, e, h => by
    unfold chkF at h
    split at h
    · rename_i e tg iter is n scope pos
      simp only [Bool.and_eq_true, decide_eq_true_eq] at h
      obtain ⟨rfl, h0, h1, h2, h3, h4, h5, h6⟩ := h
      have hi : DI X W tg iter (evI G it) := soI S tk it tg iter h1
      have ok : BlkOk X.N X.env.scope scope (ownOf c vs) := by
        rw [S.N, S.sc]
        exact blkOk_by h2
      have hN : X.N.Nodup := by rw [S.N]; exact S.nd
      have hb := fun s H C cl fp => S.blk h2 s H C cl fp
      have hg : ∀ (s : Shared) (H : Hp) (C : Addr) (cl : List (Str × Addr)) (fp : List Addr), PG (X.blk s H scope (compEnvC scope cl C X.env) fp) tg (gM (ct X) t) := fun s H C cl fp => dg (hb s H C cl fp) t tg h4
      have ht : ∀ (s : Shared) (H : Hp) (C : Addr) (cl : List (Str × Addr)) (fp : List Addr), DTs (X.blk s H scope (compEnvC scope cl C X.env) fp) W0 is (evT G ifs) := fun s H C cl fp => (soO (hb s H C cl fp) (takes0 _ _ _ _ _) ifs).2.1 _ h5
      have he : ∀ (s : Shared) (H : Hp) (C : Addr) (cl : List (Str × Addr)) (fp : List Addr), DE (X.blk s H scope (compEnvC scope cl C X.env) fp) W0 e (evE G elt) := fun s H C cl fp => (soE (hb s H C cl fp) (takes0 _ _ _ _ _) elt _ h6).d
      have hs := setFree_it h0 X.env
      have hv := ownOf_snd c vs
      have hts : ∀ i ∈ tgS t, i ∈ (ownOf c vs).map (·.2) := by rw [hv]; exact subB_ok h3
      have hd : DF X W (.ListComp e [⟨tg, iter, is, 0⟩] scope pos) (lcM (evI G it) t (evT G ifs) (evE G elt) ((ownOf c vs).map (·.2))) := df_lc S.calm hN hi ok hg ht he hs hts
      rw [hv] at hd
      refine ⟨hd, rfl, fun i y py spos hy hl => ?_⟩
      obtain ⟨l1, l2⟩ := S.loc hl
      have hyN : X.N[i]? = some y := by rw [S.N]; exact hy
      have hb0 : X.env.blockKind = .function ∨ X.env.blockKind ≠ .function := Classical.em _
      have sw : ∃ b, swapsWith (.ListComp e [⟨tg, iter, is, 0⟩] scope pos) (some (.Name y py)) spos.line X.env = pure b ∧ (b = true → X.env.scope.names.lookup y = some .local) := by
        unfold swapsWith
        refine ⟨_, rfl, fun h => ?_⟩
        simp only [Bool.and_eq_true] at h
        have := h.1.1.2
        unfold Env.kindOf at this
        simpa using this
      obtain ⟨b, e1, e2⟩ := sw
      cases b with
      | false => exact ps_set hN hyN l1 hd e1 l2
      | true =>
        refine (ps_setLc (tt := tM (ct X) W0 rB (evT G ifs)) (te := tM (ct X) W0 (rD (ct X)) (evE G elt)) S.calm hN hyN (e2 rfl) e1 hi ok hg ht he hs).imp fun D σ H q => ?_
        have q2 : tF (ct X) W (lcM (evI G it) t (evT G ifs) (evE G elt) vs) σ H (fun x H1 => gName i x σ H1 D.nx) := q
        rw [← hv] at q2
        exact lc_read hts q2
    · exact noF h
  | .lc2 .., e, h => by
    unfold chkF at h
    exact noF h
  | .dispS es, e, h => by
    unfold chkF at h
    split at h
    · exact goodF_plain S (df_disp (soSt S tk es _ h)) rfl rfl
    · exact noF h
  | .rev a, e, h => by
    unfold chkF at h
    split at h
    · rename_i e s p3 p
      simp only [Bool.and_eq_true] at h
      have h1 := h.1
      unfold isM1 at h1
      split at h1
      · exact goodF_plain S (df_rev (soE S tk a _ h.2).d) rfl rfl
      · exact noF h1
    · exact noF h
  | .sort a, e, h => by
    unfold chkF at h
    split at h
    · simp only [Bool.and_eq_true] at h
      obtain ⟨h1, h2, h3⟩ := h
      obtain ⟨n, rfl⟩ := S.bl h1 boot_sorted
      exact goodF_plain S (df_sort n (soE S tk a _ h3).d (noStar_ok h2)) rfl rfl
    · exact noF h
  | .cat a b, e, h => by
    unfold chkF at h
    split at h
    · simp only [Bool.and_eq_true] at h
      exact goodF_plain S (df_cat (soE S tk a _ h.1).d (soE S tk b _ h.2).d) rfl rfl
    · exact noF h
  | .rep a b, e, h => by
    unfold chkF at h
    split at h
    · simp only [Bool.and_eq_true] at h
      exact goodF_plain S (df_rep (soE S tk a _ h.1).d (soE S tk b _ h.2).d) rfl rfl
    · exact noF h
  | .list a, e, h => by
    unfold chkF at h
    split at h
    · simp only [Bool.and_eq_true] at h
      obtain ⟨h1, h2, h3⟩ := h
      obtain ⟨n, rfl⟩ := S.bl h1 boot_list
      exact goodF_plain S (df_list n (soE S tk a _ h3).d (noStar_ok h2)) rfl rfl
    · exact noF h
  | .listR a, e, h => by
    unfold chkF at h
    split at h
    · simp only [Bool.and_eq_true] at h
      obtain ⟨h1, h2, h3, h4⟩ := h
      obtain ⟨n, rfl⟩ := S.bl h1 boot_list
      obtain ⟨n2, rfl⟩ := S.bl h2 boot_range
      exact goodF_plain S (df_listR S.calm n n2 (soE S tk a _ h4).d (noStar_ok h3) (noStar_ok rfl)) rfl rfl
    · exact noF h
theorem soI {X : Cx} {W : WX} {c : Cc} (S : Sc X c G) (tk : Takes X W) : ∀ (i : II) (tg e : Expr), chkI c tg i e = true → DI X W tg e (evI G i)
  | .seq a, tg, e, h => by
    unfold chkI at h
    exact di_seq (soE S tk a _ h).d
  | .range1 a, tg, e, h => by
    unfold chkI at h
    split at h
    · simp only [Bool.and_eq_true] at h
      obtain ⟨h1, h2, h3⟩ := h
      obtain ⟨n, rfl⟩ := S.bl h1 boot_range
      exact di_range1 n.gl n.mg (soE S tk a _ h3).d (noStar_ok h2)
    · exact noF h
  | .range2 a b, tg, e, h => by
    unfold chkI at h
    split at h
    · simp only [Bool.and_eq_true] at h
      obtain ⟨h1, h2, h3, h4, h5⟩ := h
      obtain ⟨n, rfl⟩ := S.bl h1 boot_range
      exact di_range2 n.gl n.mg (soE S tk a _ h4).d (soE S tk b _ h5).d (noStar_ok h2) (noStar_ok h3)
    · exact noF h
  | .enum a, tg, e, h => by
    unfold chkI at h
    split at h
    · simp only [Bool.and_eq_true] at h
      obtain ⟨h1, h2, h3, h4⟩ := h
      obtain ⟨n, rfl⟩ := S.bl h1 boot_enumerate
      obtain ⟨_, _, _, rfl⟩ := isTupE_ok h2
      exact di_enum n.gl n.mg (soE S tk a _ h4).d (noStar_ok h3)
    · exact noF h
  | .down a b d, tg, e, h => by
    unfold chkI at h
    split at h
    · simp only [Bool.and_eq_true] at h
      obtain ⟨h1, h2, h3, h4, h5, h6, h7⟩ := h
      obtain ⟨n, rfl⟩ := S.bl h1 boot_range
      exact di_down n.gl n.mg (soE S tk a _ h5).d (soE S tk b _ h6).d (soE S tk d _ h7).d (noStar_ok h2) (noStar_ok h3) (noStar_ok h4)
    · exact noF h
  | .zip a b, tg, e, h => by
    unfold chkI at h
    split at h
    · simp only [Bool.and_eq_true] at h
      obtain ⟨h1, h2, h3, h4, h5, h6⟩ := h
      obtain ⟨n, rfl⟩ := S.bl h1 boot_zip
      obtain ⟨_, _, _, rfl⟩ := isTupE_ok h2
      exact di_zip n.gl n.mg (soE S tk a _ h5).d (soE S tk b _ h6).d (noStar_ok h3) (noStar_ok h4)
    · exact noF h
end
end
end Z

/-! ZK: try against the program's text. -/
namespace Z
open PySem PySem.Spec L2
open PyProof.Rows hiding St

def chkHd (c : Cc) : Hds → List ExceptHandler → Bool
  | .nil, [] => true
  | .cons cl o e r, .ExceptHandler (some (.Name x _)) nm [.Return (some v) _] _ :: hs => decide (x = cl) && (decide (cl ∈ c.xns) && (glB c cl && (okN cl && ((match nm, o with
    | none, none => chkH none e v
    | some n, some i => decide (c.N[i]? = some n) && (decide (c.sc.names.lookup n = some .local) && chkH (some n) e v)
    | _, _ => false) && chkHd c r hs))))
  | _, _ => false
/-- a slot gets another value, the run's slot forgets its own -/
theorem reE {C : Ct} {w : Wd} {H : Hp} {σ : St} {ρ : Env} (he : RelE C w H σ ρ) : RelE C w H σ ρ := he
/-- what the clauses read, where the exception c fs comes -/
def Reads (C : Ct) (W : WX) (G : Gm) (h : Hds) (l : List Cl) : Prop := ∀ (En : Ends) (σ : St) (H : Hp) (w : Wd) (ρ : Env) (st : Store) (cn : Str) (fs : List (Str × D)) (Ca dd : Addr) (vs : List (Str × V)), RelSt C w H st → RelE C w H σ ρ → C.mg cn = some (.ref Ca) → cn ∈ G.xns →
  w.F dd = some (.xd vs) → RelFs C w.F w.L vs fs → XfC C.K Ca → (∀ f ∈ fs.map (·.1), PySem.W.findIn C.K (.ref Ca) f = some none) →
  (match findH G.exm cn h with
    | some (o, e) => okO o ρ.length = true ∧ ∃ d, evH fs e = some d ∧ ∀ v w2 H2, RelSt C w2 H2 st → RelE C w2 H2 σ ρ → Step w H (Own σ ρ) w2 H2 (Own σ ρ) → RelD C w2.F w2.L v d → En.rt v H2
    | none => W (.ref Ca) (some dd) σ H) → wSeq C.K W En l (.ref Ca) (some dd) σ H

section
variable {G : Gm} {X : Cx} {W : WX} {c : Cc}
theorem clr_rt (o : Option Nat) (En : Ends) : (clr o En).rt = En.rt := by cases o <;> rfl
theorem cl_ok (S : Sc X c G) : ∀ (h : Hds) (hs : List ExceptHandler), chkHd c h hs = true → ∃ l, ClOk X hs l ∧ Reads (ct X) W G h l
  | .nil, hs, hc => by
    cases hs with
    | nil => exact ⟨[], .nil, fun En σ H w ρ st cn fs Ca dd vs _ _ _ _ _ _ _ _ q => q⟩
    | cons _ _ => simp [chkHd] at hc
  | .cons cl o e r, hs, hc => by
    unfold chkHd at hc
    split at hc
    · rename_i _ heq
      cases heq
    · rename_i h0 hs0 cl' o' e' r' x np nm v p hp hs' heq
      cases heq
      simp only [Bool.and_eq_true, decide_eq_true_eq] at hc
      obtain ⟨rfl, h1, h2, h3, h4, h5⟩ := hc
      obtain ⟨l, k1, k2⟩ := cl_ok S r hs' h5
      obtain ⟨Cy, hm, hx⟩ := S.xm x (by rw [S.xne]; exact h1)
      have hnames : Names X x (.ref Cy) := ⟨S.gl h2, (okN_d h3).1, .inl hm⟩
      have key : ∃ oo : Option (Nat × Str), nm = oo.map (·.2) ∧ o = oo.map (·.1) ∧ (∀ i n, oo = some (i, n) → X.N[i]? = some n ∧ X.env.kindOf n = some .local) ∧ chkH nm e v = true := by
        split at h4
        · exact ⟨none, rfl, rfl, fun i n z => (by cases z), h4⟩
        · rename_i n i
          simp only [Bool.and_eq_true, decide_eq_true_eq] at h4
          refine ⟨some (i, n), rfl, rfl, fun i' n' z => ?_, h4.2.2⟩
          cases z
          refine ⟨by rw [S.N]; exact h4.1, ?_⟩
          unfold Env.kindOf
          rw [S.sc]
          exact h4.2.1
        · cases h4
      obtain ⟨oo, rfl, rfl, ho, hch⟩ := key
      refine ⟨(oo.map (·.1), .ref Cy, fun a cls d En σ H => ∃ fs, tHg (ct X) (rD (ct X)) a cls d (oo.map (·.1)) fs (evH fs e) σ H En.rt) :: l, .cons hnames ho (fun a oe cls d pn hz hf => ?_) k1, ?_⟩
      · have hn : ∀ y, oo.map (·.2) = some y → ∃ i, oo.map (·.1) = some i ∧ X.N[i]? = some y ∧ Vis X.env.scope y := fun y hy => by
          cases oo with
          | none => cases hy
          | some p =>
            obtain ⟨i, n⟩ := p
            cases hy
            exact ⟨i, rfl, (ho i _ rfl).1, .inl (ho i _ rfl).2⟩
        refine (pss_cons (ps_ret (te := fun σ H Q => ∃ fs, tHg (ct X) (rD (ct X)) a cls d (oo.map (·.1)) fs (evH fs e) σ H Q) ⟨fun pins s σ H Q I ⟨fs, h⟩ => (he_ok hz hf hn e v hch).run pins s σ H Q I h⟩) pss_nil).imp fun En σ H h => h
      · intro En σ H w ρ st cn fs Ca dd vs hs he hcn hin hF hR hxf hna q
        refine ⟨_, hx cn hin Ca hcn, fun hb a haN => ?_, fun hb => ?_⟩
        · unfold findH at q
          rw [if_pos hb] at q
          obtain ⟨hok, d, ed, q⟩ := q
          refine ⟨fs, w, σ, ρ, st, hs, he, ⟨fun i hi => ?_, Ca, dd, vs, rfl, hxf, rfl, hF, hR, hna⟩, d, ed, fun v w2 H2 r1 r2 s2 rd => ?_⟩
          · rw [hi] at hok ⊢
            have hok : i < ρ.length := of_decide_eq_true hok
            exact List.getElem?_set_self (by rw [← he.len]; exact hok)
          · rw [clr_rt]
            exact q v w2 H2 r1 r2 s2 rd
        · unfold findH at q
          rw [if_neg (by rw [hb]; exact Bool.false_ne_true)] at q
          exact k2 En σ H w ρ st cn fs Ca dd vs hs he hcn hin hF hR hxf hna q
    · cases hc
theorem tri_read {h : Hds} {l : List Cl} {m : M Fl} (hr : Reads (ct X) W G h l) {En : Ends} {σ : St} {H : Hp} (q : tS (ct X) W (triM G.exm G.xns m h) En σ H) : tS (ct X) (wSeq X.K W En l) m En σ H := by
  obtain ⟨w, ρ, st, h1, h2, h3⟩ := q
  refine ⟨w, ρ, st, h1, h2, ?_⟩
  unfold triM at h3
  cases e : m ρ st with
  | bad => rw [e] at h3; exact h3
  | ok f ρ' st' => rw [e] at h3; exact h3
  | exc x ρ' st' =>
    rw [e] at h3
    intro σ' cls d w' H' r1 r2 s1 rx
    obtain ⟨cn, fs, Ca, dd, vs, rfl, hcn, rfl, rfl, hF, hR, hxf, hna⟩ := rx
    simp only at h3
    by_cases hin : G.xns.contains cn = true
    · rw [if_pos hin] at h3
      refine hr En σ' H' w' ρ' st' cn fs Ca dd vs r1 r2 hcn (List.contains_iff_mem.mp hin) hF hR hxf hna ?_
      cases ef : findH G.exm cn h with
      | none =>
        rw [ef] at h3
        exact h3 σ' _ _ w' H' r1 r2 s1 ⟨cn, fs, Ca, dd, vs, rfl, hcn, rfl, rfl, hF, hR, hxf, hna⟩
      | some p =>
        obtain ⟨o, e'⟩ := p
        rw [ef] at h3
        simp only at h3
        by_cases hok : okO o ρ'.length = true
        · rw [if_pos hok] at h3
          cases eh : evH fs e' with
          | none => rw [eh] at h3; exact h3.elim
          | some d =>
            rw [eh] at h3
            exact ⟨hok, d, eh, fun v w2 H2 t1 t2 s2 rd => h3 σ' w2 H2 t1 t2 (s1.trans s2) v rd⟩
        · rw [if_neg hok] at h3
          exact h3.elim
    · rw [if_neg hin] at h3
      exact h3.elim
theorem ds_tri {body : List Stmt} {h0 : ExceptHandler} {hds : List ExceptHandler} {h : Hds} {pos : Pos} {m : M Fl} (S : Sc X c G) (hst : X.stack = X.env :: X.outer) (hfm : X.env.frame = some X.env.locals) (tk : Takes X W)
    (hb : ∀ (W' : WX) (pn : List (Addr × Obj)) (xe : Value → Shared → Prop), Takes (X.tr pn xe) W' → PassesOwn (model X.prog X.w) X.A X.env xe → DSs (X.tr pn xe) W' body m) (hh : chkHd c h (h0 :: hds) = true) :
    DS X W (.Try body (h0 :: hds) [] [] pos) (triM G.exm G.xns m h) := by
  obtain ⟨l, k1, k2⟩ := cl_ok (W := W) S h _ hh
  exact (ps_try_cl hst hfm (by rw [S.N]; exact S.nd) tk (tb := fun W' => tS (ct X) W' m) (fun W' pn xe t p => hb W' pn xe t p) k1).imp fun En σ H q => tri_read k2 q
end
end Z

/-! Z17: statements against the program's text. -/
namespace Z
open PySem PySem.Spec L2
open PyProof.Rows hiding St

def nmsB (c : Cc) (is : List Nat) (xs : List Str) : Bool := decide (is.map (fun i => c.N[i]?) = xs.map some) && decide (is.Nodup)
def locs (c : Cc) (xs : List Str) : Bool := xs.all fun x => decide (c.sc.names.lookup x = some .local)
def nameE : Expr → Option Str
  | .Name x _ => some x
  | _ => none
mutual
def chkS (c : Cc) : IS → Stmt → Bool
  | .asg t e, s => match s with
    | .Assign [tg] v _ => match tg with
      | .Name y _ => match swB v with
        | true => match t, e with
          | .nm i, .mk _ f => decide (c.N[i]? = some y) && (locB c y && chkF c f v)
          | _, _ => false
        | false => chkT c t tg && chkE c e v
      | .Tuple ts _ _ => !swB v && (chkT c t tg && (chkE c e v && (match v with
        | .Tuple vs _ _ => decide (swapped c ts vs = some none)
        | _ => true)))
      | _ => false
    | _ => false
  | .par is es, s => match s with
    | .Assign [.Tuple ts _ _] (.Tuple vs _ _) _ => match ts.map nameE, is with
      | [some x, some y], [i, j] => decide (vs.length = 2) && (decide (swapped c ts vs = some (some [x, y])) && (nmsB c is [x, y] && (locs c [x, y] && chkEs c es vs)))
      | [some x, some y, some z], [i, j, l] => decide (vs.length = 3) && (decide (swapped c ts vs = some (some [x, y, z])) && (nmsB c is [x, y, z] && (locs c [x, y, z] && chkEs c es vs)))
      | _, _ => false
    | _ => false
  | .own i f, s => match s with
    | .Assign [.Name y _] v _ => decide (c.N[i]? = some y) && (locB c y && chkF c f v)
    | _ => false
  | .expr e, s => match s with
    | .Expr v _ => !swB v && chkE c e v
    | _ => false
  | .ret e, s => match s with
    | .Return (some v) _ => chkE c e v
    | _ => false
  | .retN, s => match s with
    | .Return none _ => true
    | _ => false
  | .pass, s => match s with
    | .Pass _ => true
    | .Expr (.Constant (.str _) _ _) _ => true
    | _ => false
  | .brk, s => match s with
    | .Break _ => true
    | _ => false
  | .cnt, s => match s with
    | .Continue _ => true
    | _ => false
  | .ite t a b, s => match s with
    | .If e x y _ => chkE c t e && (chkSs c a x && chkSs c b y)
    | _ => false
  | .for t it b, s => match s with
    | .For tg iter body [] _ => chkT c t tg && (chkI c tg it iter && (setFree iter && chkSs c b body))
    | _ => false
  | .whl t b, s => match s with
    | .While e body [] _ => chkE c t e && chkSs c b body
    | _ => false
  | .set i ix e, s => match s with
    | .Assign [.Subscript (.Name x _) b _] v _ => plainIx b && (nmB c i x && (chkE c ix b && chkE c e v))
    | _ => false
  | .fset a f e, s => match s with
    | .Assign [.Attribute o g _] v _ => decide (f = g) && (!swB v && (chkE c a o && chkE c e v))
    | _ => false
  | .mthE a m es, s => match s with
    | .Expr (.Call (.Attribute o g ap) as [] cp) _ => decide (g = (mtN m : Str)) && (callB o && ((ap.endLine == cp.line) && (decide (as.length = mtK m) && (chkE c a o && chkEs c es as))))
    | _ => false
  | .rse j es, s => match s with
    | .Raise (some (.Call (.Name x _) as [] _)) none _ => decide (c.xcs[j]? = some x) && (glB c x && (okN x && (!as.isEmpty && chkEs c es as)))
    | _ => false
  | .tri b h, s => match s with
    | .Try body (h0 :: hs) [] [] _ => chkHd c h (h0 :: hs) && chkSs c b body
    | _ => false
  | .mth i m es, s => match s with
    | .Expr (.Call (.Attribute (.Name x _) a ap) as [] cp) _ => nmB c i x && ((ap.endLine == cp.line) && (chkEs c es as && (decide (a = (mtN m : Str)) && decide (as.length = mtK m))))
    | _ => false
def chkSs (c : Cc) : ISs → List Stmt → Bool
  | .nil, [] => true
  | .cons a r, s :: ss => chkS c a s && chkSs c r ss
  | _, _ => false
end
theorem mt_args {c : Cc} {m : MT} {es : IEs} {as : List Expr} (hl : as.length = mtK m) (h : chkEs c es as = true) : (as = [] ∧ es = .nil) ∨ (∃ e, as = [e] ∧ noStar e = true) ∨ ∃ e e2, as = [e, e2] ∧ noStar e = true ∧ noStar e2 = true := by
  match as, hl with
  | [], _ => cases es with
    | nil => exact .inl ⟨rfl, rfl⟩
    | cons a r => simp [chkEs] at h
  | [e], _ => cases es with
    | nil => simp [chkEs] at h
    | cons a r =>
      simp only [chkEs, Bool.and_eq_true] at h
      exact .inr (.inl ⟨e, rfl, h.1⟩)
  | [e, e2], _ => cases es with
    | nil => simp [chkEs] at h
    | cons a r =>
      simp only [chkEs, Bool.and_eq_true] at h
      cases r with
      | nil => simp [chkEs] at h
      | cons b r =>
        simp only [chkEs, Bool.and_eq_true] at h
        exact .inr (.inr ⟨e, e2, rfl, h.1, h.2.2.1⟩)
  | _ :: _ :: _ :: _, hl => cases m <;> simp [mtK] at hl
theorem sole {tg e : Expr} {l : Nat} {env : PySem.Env} {r : Sem Bool} (h : swapsWith e (some tg) l env = r) : swapsWithSole [tg] e l env = r := h
theorem nameE_inv {e : Expr} {x : Str} (h : nameE e = some x) : ∃ p, e = .Name x p := by
  cases e <;> simp [nameE] at h
  subst h
  exact ⟨_, rfl⟩
theorem names2 {ts : List Expr} {x y : Str} (h : ts.map nameE = [some x, some y]) : ∃ p q, ts = [.Name x p, .Name y q] := by
  obtain ⟨a, r, rfl, h1, h2⟩ := List.map_eq_cons_iff.mp h
  obtain ⟨b, r, rfl, h3, h4⟩ := List.map_eq_cons_iff.mp h2
  rw [List.map_eq_nil_iff] at h4
  subst h4
  obtain ⟨p, rfl⟩ := nameE_inv h1
  obtain ⟨q, rfl⟩ := nameE_inv h3
  exact ⟨p, q, rfl⟩
theorem names3 {ts : List Expr} {x y z : Str} (h : ts.map nameE = [some x, some y, some z]) : ∃ p q r, ts = [.Name x p, .Name y q, .Name z r] := by
  obtain ⟨a, r, rfl, h1, h2⟩ := List.map_eq_cons_iff.mp h
  obtain ⟨p, q, rfl⟩ := names2 h2
  obtain ⟨o, rfl⟩ := nameE_inv h1
  exact ⟨o, p, q, rfl⟩
theorem swNot {e tg : Expr} (h : nameE tg = none) (l : Nat) (env : PySem.Env) : swapsWith e (some tg) l env = pure false := by
  cases e <;> first | rfl | (cases tg <;> first | rfl | cases h)
section
variable {G : Gm} {X : Cx} {W : WX} {c : Cc}
theorem par2_ok (S : Sc X c G) (hk : c.sc.kind = .function) {ts vs : List Expr} {kt k2 pt pt2 pos} {i j : Nat} {x y : Str} {es : IEs} (hx : ts.map nameE = [some x, some y]) (h1 : vs.length = 2) (h2 : swapped c ts vs = some (some [x, y])) (h3 : nmsB c [i, j] [x, y] = true) (h4 : locs c [x, y] = true)
    (ha : DEs X W vs (evEs G es)) : DS X W (.Assign [.Tuple ts kt pt] (.Tuple vs k2 pt2) pos) (evS G (.par [i, j] es)) := by
  obtain ⟨px, py, rfl⟩ := names2 hx
  · match vs, h1 with
    | [a, b], _ =>
      unfold nmsB at h3
      simp only [Bool.and_eq_true, decide_eq_true_eq, List.map_cons, List.map_nil, List.cons.injEq, and_true] at h3
      unfold locs at h4
      simp only [List.all_cons, List.all_nil, Bool.and_true, Bool.and_eq_true, decide_eq_true_eq] at h4
      have hij : i ≠ j := fun z => by
        have := h3.2
        simp [z] at this
      refine ds_par (is := [i, j]) (ps_par S.calm (by rw [S.N]; exact S.nd) (by rw [S.N]; exact h3.1.1) (by rw [S.N]; exact h3.1.2) hij (by rw [S.sc]; exact h4.1) (by rw [S.sc]; exact h4.2) ha (swapped_ok S.sc hk h2) rfl) fun D σ H q => ?_
      refine tM.imp q fun us H1 ⟨hl, q⟩ => ?_
      match us, hl, q with
      | [v, w], _, q => exact ⟨v, w, rfl, q⟩
theorem par3_ok (S : Sc X c G) (hk : c.sc.kind = .function) {ts vs : List Expr} {kt k2 pt pt2 pos} {i j l : Nat} {x y z : Str} {es : IEs} (hx : ts.map nameE = [some x, some y, some z]) (h1 : vs.length = 3) (h2 : swapped c ts vs = some (some [x, y, z])) (h3 : nmsB c [i, j, l] [x, y, z] = true) (h4 : locs c [x, y, z] = true)
    (ha : DEs X W vs (evEs G es)) : DS X W (.Assign [.Tuple ts kt pt] (.Tuple vs k2 pt2) pos) (evS G (.par [i, j, l] es)) := by
  obtain ⟨px, py, pz, rfl⟩ := names3 hx
  · match vs, h1 with
    | [a, b, c'], _ =>
      unfold nmsB at h3
      simp only [Bool.and_eq_true, decide_eq_true_eq, List.map_cons, List.map_nil, List.cons.injEq, and_true] at h3
      unfold locs at h4
      simp only [List.all_cons, List.all_nil, Bool.and_true, Bool.and_eq_true, decide_eq_true_eq] at h4
      have hnd := h3.2
      simp only [List.nodup_cons, List.mem_cons, List.not_mem_nil, or_false, not_or, not_false_eq_true, List.nodup_nil, and_true] at hnd
      refine ds_par (is := [i, j, l]) (ps_par3 S.calm (by rw [S.N]; exact S.nd) (by rw [S.N]; exact h3.1.1) (by rw [S.N]; exact h3.1.2.1) (by rw [S.N]; exact h3.1.2.2) hnd.1.1 hnd.1.2 hnd.2 (by rw [S.sc]; exact h4.1) (by rw [S.sc]; exact h4.2.1) (by rw [S.sc]; exact h4.2.2) ha (swapped_ok S.sc hk h2) rfl) fun D σ H q => ?_
      refine tM.imp q fun us H1 ⟨hl, q⟩ => ?_
      match us, hl, q with
      | [v, w, u], _, q => exact ⟨v, w, u, rfl, q⟩
mutual
theorem soS {X : Cx} {W : WX} {c : Cc} (S : Sc X c G) (hk : c.sc.kind = .function) (tk : Takes X W) (hp : PassesOwn (model X.prog X.w) X.A X.env X.xe) (hst : X.stack = X.env :: X.outer) (hfm : X.env.frame = some X.env.locals) : ∀ (i : IS) (s : Stmt), chkS c i s = true → DS X W s (evS G i)
  | .asg t e, s, h => by
    unfold chkS at h
    split at h
    · rename_i tg v pos
      split at h
      · rename_i y py
        split at h
        · rename_i hsw
          split at h
          · simp only [Bool.and_eq_true, decide_eq_true_eq] at h
            exact ds_asgF ((soF S tk _ v h.2.2).s _ _ _ _ h.1 h.2.1)
          · exact noF h
        · rename_i hsw
          simp only [Bool.and_eq_true] at h
          exact ds_asg (soE S tk e v h.2).d (dg S t _ h.1) (sole (swB_ok hsw _ _ _)) rfl rfl
      · rename_i ts kt pt
        simp only [Bool.and_eq_true, Bool.not_eq_true'] at h
        obtain ⟨h0, h1, h2, h3⟩ := h
        refine ds_asg (soE S tk e v h2).d (dg S t _ h1) (sole (swB_ok h0 _ _ _)) ?_ rfl
        cases v <;> first | rfl | skip
        simp only [decide_eq_true_eq] at h3
        exact swapped_ok S.sc hk h3
      · exact noF h
    · exact noF h
  | .par is es, s, h => by
    unfold chkS at h
    split at h
    · rename_i ts kt pt vs k2 pt2 pos
      split at h
      · rename_i x y i j hx
        simp only [Bool.and_eq_true, decide_eq_true_eq] at h
        obtain ⟨h1, h2, h3, h4, h5⟩ := h
        exact par2_ok S hk hx h1 h2 h3 h4 ((soEs S tk es).1 _ h5)
      · rename_i x y z i j l hx
        simp only [Bool.and_eq_true, decide_eq_true_eq] at h
        obtain ⟨h1, h2, h3, h4, h5⟩ := h
        exact par3_ok S hk hx h1 h2 h3 h4 ((soEs S tk es).1 _ h5)
      · exact noF h
    · exact noF h
  | .own i f, s, h => by
    unfold chkS at h
    split at h
    · simp only [Bool.and_eq_true, decide_eq_true_eq] at h
      exact ds_own ((soF S tk f _ h.2.2).s _ _ _ _ h.1 h.2.1)
    · exact noF h
  | .expr e, s, h => by
    unfold chkS at h
    split at h
    · simp only [Bool.and_eq_true, Bool.not_eq_true'] at h
      exact ds_expr (soE S tk e _ h.2).d (swB_ok h.1 _ _ _)
    · exact noF h
  | .ret e, s, h => by
    unfold chkS at h
    split at h
    · exact ds_ret (soE S tk e _ h).d
    · exact noF h
  | .retN, s, h => by
    unfold chkS at h
    split at h
    · exact ds_retN
    · exact noF h
  | .pass, s, h => by
    unfold chkS at h
    split at h
    · exact ds_pass
    · exact ds_doc
    · exact noF h
  | .brk, s, h => by
    unfold chkS at h
    split at h
    · exact ds_brk
    · exact noF h
  | .cnt, s, h => by
    unfold chkS at h
    split at h
    · exact ds_cnt
    · exact noF h
  | .ite t a b, s, h => by
    unfold chkS at h
    split at h
    · simp only [Bool.and_eq_true] at h
      exact ds_ite (soE S tk t _ h.1).t (soSs S hk tk hp hst hfm a _ h.2.1) (soSs S hk tk hp hst hfm b _ h.2.2)
    · exact noF h
  | .for t it b, s, h => by
    unfold chkS at h
    split at h
    · simp only [Bool.and_eq_true] at h
      obtain ⟨h1, h2, h3, h4⟩ := h
      exact ds_for hp S.calm (soI S tk it _ _ h2) (dg S t _ h1) (soSs S hk tk hp hst hfm b _ h4) (setFree_it h3 _)
    · exact noF h
  | .whl t b, s, h => by
    unfold chkS at h
    split at h
    · simp only [Bool.and_eq_true] at h
      exact ds_whl hp (soE S tk t _ h.1).t (soSs S hk tk hp hst hfm b _ h.2)
    · exact noF h
  | .set i ix e, s, h => by
    unfold chkS at h
    split at h
    · rename_i x pn b pt v pos
      simp only [Bool.and_eq_true] at h
      obtain ⟨h0, h1, h2, h3⟩ := h
      refine ds_set (S.nm h1) (soE S tk e _ h3).d (soE S tk ix _ h2).d (sole (swNot rfl _ _)) rfl rfl fun w => ?_
      cases b <;> first | rfl | cases h0
    · exact noF h
  | .fset a f e, s, h => by
    unfold chkS at h
    split at h
    · simp only [Bool.and_eq_true, decide_eq_true_eq, Bool.not_eq_true'] at h
      obtain ⟨rfl, h1, h2, h3⟩ := h
      exact ds_fset S.at_ (soE S tk a _ h2).d (soE S tk e _ h3).d (swB_ok h1 _ _ _)
    · exact noF h
  | .mthE a m es, s, h => by
    unfold chkS at h
    split at h
    · rename_i o g ap as cp pos
      simp only [Bool.and_eq_true, decide_eq_true_eq] at h
      obtain ⟨h0, h1, h2, h3, h4, h5⟩ := h
      subst h0
      obtain ⟨id, q1, q2, q3⟩ := mt_facts (X := X) m
      have hbase : attributeBase o (mtN m : Str) X.env (eval o X.env) = eval o X.env := by cases o <;> first | rfl | cases h1
      have hsw : ∀ {e : Expr} {as : List Expr}, swapsWith (.Call (.Attribute o (mtN m : Str) ap) as [] cp) none pos.line X.env = pure false := fun {e as} => swB_ok rfl _ _ _
      rcases mt_args h3 h5 with ⟨rfl, rfl⟩ | ⟨e, rfl, hs⟩ | ⟨e, e2, rfl, hs, hs2⟩
      · exact ds_mth (pe_mthE0 q1 q2 q3 (soE S tk a _ h4).d hbase h2) (swB_ok rfl _ _ _)
      · exact ds_mth (pe_mthE' q1 q2 q3 (soE S tk a _ h4).d hbase h2 ((soEs S tk es).1 _ h5) (noStar_ok hs []) (by rw [noStar_ok hs []]; rfl) rfl) (swB_ok rfl _ _ _)
      · exact ds_mth (pe_mthE' q1 q2 q3 (soE S tk a _ h4).d hbase h2 ((soEs S tk es).1 _ h5) (noStar_ok hs [e2]) (by rw [noStar_ok hs [e2], noStar_ok hs2 []]; rfl) (by rw [noStar_ok hs2 []]; rfl)) (swB_ok rfl _ _ _)
    · exact noF h
  | .rse j es, s, h => by
    unfold chkS at h
    split at h
    · rename_i x p as p2 pos
      simp only [Bool.and_eq_true, decide_eq_true_eq] at h
      obtain ⟨h1, h2, h3, h4, h5⟩ := h
      obtain ⟨fields, q1, q2, q3⟩ := S.xc j x h1
      cases as with
      | nil => simp at h4
      | cons e r =>
        have key := ds_rse (p := p) (p2 := p2) (pos := pos) S.calm tk q2 q3 (S.gl h2) (okN_d h3).1 ((soEs S tk es).1 _ h5) (chkEs_star h5)
        show DS X W _ (bind (evEs G es) fun ds => bind (opt G.exs[j]?) fun p => raiseM p ds)
        rw [q1]
        exact key
    · exact noF h
  | .tri b hd, s, h => by
    unfold chkS at h
    split at h
    · simp only [Bool.and_eq_true] at h
      exact ds_tri S hst hfm tk (fun W' pn xe t p => soSs (X := X.tr pn xe) (W := W') ⟨S.sc, S.fn, S.N, S.nd, S.calm, S.un, S.blt, S.fs, S.cs, S.ms, S.at_, S.kl, S.kle, S.xm, S.xne, S.xc, S.eq⟩ hk t p hst hfm b _ h.2) h.1
    · exact noF h
  | .mth i m es, s, h => by
    unfold chkS at h
    split at h
    · rename_i x p a ap as cp pos
      simp only [Bool.and_eq_true] at h
      simp only [decide_eq_true_eq] at h
      obtain ⟨h1, h2, h3, rfl, h4⟩ := h
      have n := S.nm h1
      obtain ⟨id, q1, q2, q3⟩ := mt_facts (X := X) m
      rcases mt_args h4 h3 with ⟨rfl, rfl⟩ | ⟨e, rfl, hs⟩ | ⟨e, e2, rfl, hs, hs2⟩
      · exact ds_mth (pe_mth0 q1 q2 q3 n ⟨rfl, h2⟩) (swB_ok rfl _ _ _)
      · exact ds_mth (pe_mth q1 q2 q3 n ⟨rfl, h2⟩ ((soEs S tk es).1 _ h3) (noStar_ok hs []) (by rw [noStar_ok hs []]; rfl) rfl) (swB_ok rfl _ _ _)
      · exact ds_mth (pe_mth q1 q2 q3 n ⟨rfl, h2⟩ ((soEs S tk es).1 _ h3) (noStar_ok hs [e2]) (by rw [noStar_ok hs [e2], noStar_ok hs2 []]; rfl) (by rw [noStar_ok hs2 []]; rfl)) (swB_ok rfl _ _ _)
    · exact noF h
theorem soSs {X : Cx} {W : WX} {c : Cc} (S : Sc X c G) (hk : c.sc.kind = .function) (tk : Takes X W) (hp : PassesOwn (model X.prog X.w) X.A X.env X.xe) (hst : X.stack = X.env :: X.outer) (hfm : X.env.frame = some X.env.locals) : ∀ (i : ISs) (s : List Stmt), chkSs c i s = true → DSs X W s (evSs G i)
  | .nil, s, h => by
    cases s with
    | nil => exact dss_nil
    | cons _ _ => simp [chkSs] at h
  | .cons a r, s, h => by
    cases s with
    | nil => simp [chkSs] at h
    | cons s ss =>
      simp only [chkSs, Bool.and_eq_true] at h
      exact dss_cons (soS S hk tk hp hst hfm a s h.1) (soSs S hk tk hp hst hfm r ss h.2)
end
end
end Z

/-! Z18: defs. -/
namespace Z
open PySem PySem.Spec L2
open PyProof.Rows hiding St

theorem units65 {k : Nat} {A : Around} (r : Room k A) : A.units + 65 < cLine := by have := r.un; omega
theorem relDs_get' {C : Ct} {F : Hp} {L : List Addr} : ∀ {vs : List V} {ds : List D}, RelDs C F L vs ds → ∀ (i : Nat) (d : D), ds[i]? = some d → ∃ v, vs[i]? = some v ∧ RelD C F L v d := fun r i d h => r.get h
theorem start_E {C : Ct} {w : Wd} {H : Hp} {N : List Str} {vs : List V} {ds : List D} (r : RelDs C w.F w.L vs ds) : RelE C w H (L2.start N vs) (startE N.length ds) ∧ ∀ a, ¬ Own (L2.start N vs) (startE N.length ds) a := by
  have hl := r.length
  have get : ∀ (i : Nat) (s : Sl), (startE N.length ds)[i]? = some s → (∃ d, ds[i]? = some d ∧ s = .val d) ∨ s = .un := by
    intro i s h
    unfold startE at h
    by_cases hi : i < ds.length
    · rw [List.getElem?_append_left (by simpa using hi), List.getElem?_map] at h
      rw [List.getElem?_eq_getElem hi] at h
      exact .inl ⟨_, List.getElem?_eq_getElem hi, by simpa using h.symm⟩
    · rw [List.getElem?_append_right (by simp; omega)] at h
      exact .inr (List.eq_of_mem_replicate (List.mem_of_getElem? h))
  refine ⟨⟨?_, fun i d h => ?_, fun i c h => ?_, fun i j c c' a h => ?_⟩, fun a ⟨i, c, h, _⟩ => ?_⟩
  · unfold startE L2.start
    simp [hl]
  · rcases get i _ h with ⟨d', h1, h2⟩ | h1
    · cases h2
      obtain ⟨v, h3, h4⟩ := r.get h1
      refine ⟨v, ?_, h4⟩
      unfold L2.start
      rw [List.getElem?_append_left (by rw [List.length_map]; exact (List.getElem?_eq_some_iff.mp h3).1), List.getElem?_map, h3]
      rfl
    · cases h1
  · rcases get i _ h with ⟨d', h1, h2⟩ | h1
    · cases h2
    · cases h1
  · rcases get i _ h with ⟨d', h1, h2⟩ | h1
    · cases h2
    · cases h1
  · rcases get i _ h with ⟨d', h1, h2⟩ | h1
    · cases h2
    · cases h1
theorem Step.none {w w' : Wd} {H H' : Hp} {O O' : Addr → Prop} (s : Step w H O w' H' O') (h : ∀ a, ¬ O a) : Step w H (fun _ => False) w' H' (fun _ => False) :=
  ⟨s.gr, fun a o h1 h2 _ => s.keep a o h1 h2 (h a), fun a o h1 => by
    rcases s.newF a o h1 with z | z | z
    · exact .inl z
    · exact absurd z (h a)
    · exact .inr (.inr z), fun a h1 => by
    rcases s.newL a h1 with z | z | z
    · exact .inl z
    · exact absurd z (h a)
    · exact .inr (.inr z), fun a z => z.elim, s.dom⟩
theorem run_len {G : Gm} {d : Def} (ds : List D) (st : Store) (h : run G d ds st ≠ .bad) : ds.length = d.np := by
  unfold run at h
  by_cases hl : ds.length = d.np
  · exact hl
  · rw [if_neg hl] at h
    exact absurd rfl h
theorem def_run {C : Ct} {G : Gm} {d : Def} {N : List Str} {vs : List V} {H : Hp} {Q : VK} {E : XK} (hn : d.nn = N.length) (h : spF C d.np (run G d) vs H Q E) :
    tS C (fun cls dd _ H => E cls dd H) (evSs G d.body) { nx := fun _ H' => Q .non H', rt := Q } (L2.start N vs) H := by
  obtain ⟨hl, w, ds, st, hs, rd, h⟩ := h
  obtain ⟨he, hno⟩ := start_E (C := C) (w := w) (H := H) (N := N) rd
  refine ⟨w, startE N.length ds, st, hs, he, ?_⟩
  unfold run at h
  rw [if_pos (by rw [← rd.length]; exact hl), hn] at h
  cases e : evSs G d.body (startE N.length ds) st with
  | ok f ρ' st' =>
    rw [e] at h
    cases f with
    | ret v => exact fun σ' w' H' r1 r2 s u ru => h u w' H' r1 (s.none hno) ru
    | next => exact fun σ' w' H' r1 r2 s => h .non w' H' r1 (s.none hno) .non
    | brk => exact h.elim
    | cnt => exact h.elim
  | exc x ρ' st' =>
    rw [e] at h
    exact fun σ' cls dd w' H' r1 r2 s rx => h cls dd w' H' r1 (s.none hno) rx
  | bad => rw [e] at h; exact h.elim
/-- what is known of the module's names -/
structure Sg (P : Program) (W₀ : World) (C : Ct) (base : Heap) (k : Nat) (b : Tb) (G : Gm) : Prop where
  blt : ∀ x ∈ bltNames, C.mg x = none
  fs : ∀ (j : Nat) (x : Str), b.gn[j]? = some x → ∃ F k', G.fs[j]? = some F ∧ Callee P W₀ C base k' x F (b.gp.getD j []) ∧ k' ≤ k
  cs : ∀ (j : Nat) (x : Str), b.gc[j]? = some x → ∃ d u v, G.cs[j]? = some d ∧ C.mg x = some u ∧ RelV v u ∧ ∀ F L, RelD C F L v d
  ms : ∀ (j : Nat) (x : Str), b.gk[j]? = some x → ∃ F k', G.mks[j]? = some (x, F) ∧ Maker P W₀ C base k' x F (b.gkp.getD j []) ∧ k' + 1 ≤ k
  at_ : AtOk C G.at_
  kl : KlOk C G.kls G.sub
  kle : G.kls = b.kls
  xm : XmOk C G.xns G.exm
  xne : G.xns = b.xns
  xc : ∀ (j : Nat) (x : Str), b.xcs[j]? = some x → ∃ fields, G.exs[j]? = some (x, fields) ∧ Xc P W₀ C base x fields ∧ 2 ≤ k
  eq : ∀ (j : Nat) (x : Str), b.eqn[j]? = some x → ∃ F k', G.eqs[j]? = some (x, F) ∧ EqC P W₀ C base k' G.kls x F ∧ k' + 1 ≤ k
/-- the text of a def: its name, its qualified name -/
structure Txt where
  x : Str
  q : Str
  params : Arguments
  body : List Stmt
  scope : Scope
  ps : List Str
  N : List Str
def Txt.cc (t : Txt) (b : Tb) : Cc := { b with sc := t.scope, fn := fun _ => true, N := t.N }
section
variable {P : Program} {W₀ : World} {K : PySem.W.Frag} {mg : Str → Option Value} {base : Heap} {k : Nat} {f : Addr} {fd : FuncData} {t : Txt} {d : Def} {b : Tb} {G : Gm}
theorem def_ok (F : FunD K t.x t.q t.params t.body t.scope [] [] f fd) (S : FnScope t.N t.ps t.scope) (h1 : d.np = t.ps.length) (h2 : d.nn = t.N.length) (g : Sg P W₀ ⟨K, mg⟩ base k b G) (chk : chkSs (t.cc b) d.body t.body = true) :
    FnOk P W₀ K mg base (L2.CX P W₀) (k + 1) f fd t.ps (spF ⟨K, mg⟩ t.ps.length (run G d)) := by
  refine F.ok S (fun vs H Q E h => h.1) fun cdv A outer s H vs Q E hr h => ⟨tS ⟨K, mg⟩ (fun cls dd _ H => E cls dd H) (evSs G d.body), ?_, ?_⟩
  · have sc : Sc (cxOf (L2.CX P W₀) P W₀ K mg base t.N t.q t.scope f cdv A outer s H E) (t.cc b) G := by
      refine ⟨rfl, fun _ => rfl, rfl, S.nd, rfl, (units65 hr), g.blt, fun j x hj => ?_, g.cs, fun j x hj => ?_, g.at_, g.kl, g.kle, g.xm, g.xne, fun j x hj => ?_, fun j x hj => ?_⟩
      · obtain ⟨F', k', q1, q2, q3⟩ := g.fs j x hj
        exact ⟨F', k', q1, q2, hr.mono q3⟩
      · obtain ⟨F', k', q1, q2, q3⟩ := g.ms j x hj
        exact ⟨F', k', q1, q2, hr.mono q3⟩
      · obtain ⟨fields, q1, q2, q3⟩ := g.xc j x hj
        exact ⟨fields, q1, q2, hr.mono q3⟩
      · obtain ⟨F', k', q1, q2, q3⟩ := g.eq j x hj
        exact ⟨F', k', q1, q2, hr.mono q3⟩
    exact soSs (W := fun cls dd _ H => E cls dd H) sc S.kind (takes_of rfl rfl rfl rfl) (passes_of rfl) rfl rfl d.body t.body chk
  · exact def_run (C := ⟨K, mg⟩) h2 (by rw [h1]; exact h)
/-- how a def's arguments bind -/
structure Bnd (t : Txt) (pats : List Pat) : Prop where
  pos : ∀ (kV doc pm : Value) (an : Option Addr) (cdv ct : Value) (us : List Value), us.length = t.ps.length → bindArgs (PySem.W.fnOf t.x t.q t.params t.body t.scope .none kV doc pm an cdv ct) ⟨us, []⟩ = pure (t.ps.zip us)
  kw : ∀ p ∈ pats, p.ord.length = t.ps.length ∧ (∀ i ∈ p.ord, i < p.np + p.ks.length) ∧ p.ord ≠ [] ∧ ∀ (kV doc pm : Value) (an : Option Addr) (cdv ct : Value) (us ws : List Value), us.length = p.np → ws.length = p.ks.length →
    bindArgs (PySem.W.fnOf t.x t.q t.params t.body t.scope .none kV doc pm an cdv ct) ⟨us, p.ks.zip ws⟩ = pure (t.ps.zip (pickV p.ord (us ++ ws)))
theorem dfl_none {dV : Value} (hD : DflV K dV []) : dV = .none := by
  rcases hD with ⟨_, e0⟩ | ⟨e0, _⟩
  · exact e0
  · exact absurd rfl e0
theorem callee_mk {pats : List Pat} {Fn' : Fn} (hm : mg t.x = some (.ref f)) (F : FunD K t.x t.q t.params t.body t.scope [] [] f fd) (b : Bnd t pats) (ok : FnOk P W₀ K mg base (L2.CX P W₀) k f fd t.ps (spF ⟨K, mg⟩ t.ps.length Fn')) (hl : ∀ ds st, Fn' ds st ≠ .bad → ds.length = t.ps.length) :
    Callee P W₀ ⟨K, mg⟩ base k t.x Fn' pats := by
  obtain ⟨oc, od, dV, kV, doc, pm, an, cdv, ct, osl, e, _, _, hD, _⟩ := F.ex
  have e0 := dfl_none hD
  subst e0
  refine ⟨f, fd, t.ps, hm, ok, F.kp, hl, fun us h => ?_, fun p hp => ?_⟩
  · rw [e]; exact b.pos _ _ _ _ _ _ us h
  · obtain ⟨q1, q2, q3, q4⟩ := b.kw p hp
    exact ⟨q1, q2, q3, fun us ws h1 h2 => by rw [e]; exact q4 _ _ _ _ _ _ us ws h1 h2⟩
theorem callee_of {pats : List Pat} (hm : mg t.x = some (.ref f)) (F : FunD K t.x t.q t.params t.body t.scope [] [] f fd) (S : FnScope t.N t.ps t.scope) (h1 : d.np = t.ps.length) (h2 : d.nn = t.N.length) (bd : Bnd t pats) (g : Sg P W₀ ⟨K, mg⟩ base k b G)
    (chk : chkSs (t.cc b) d.body t.body = true) : Callee P W₀ ⟨K, mg⟩ base (k + 1) t.x (run G d) pats :=
  callee_mk hm F bd (def_ok F S h1 h2 g chk) fun ds st h => (run_len ds st h).trans h1
/-- how an __init__'s arguments bind -/
structure BndI (t : Txt) (pats : List Pat) : Prop where
  kw : ∀ p ∈ pats, p.ord.length + 1 = t.ps.length ∧ (p.ord = [] → p.np = 0 ∧ p.ks = []) ∧ ∀ (kV doc pm : Value) (an : Option Addr) (cdv ct : Value) (s : Value) (us ws : List Value), us.length = p.np → ws.length = p.ks.length →
    bindArgs (PySem.W.fnOf t.x t.q t.params t.body t.scope .none kV doc pm an cdv ct) ⟨s :: us, p.ks.zip ws⟩ = pure (t.ps.zip (s :: pickV p.ord (us ++ ws)))
/-- a class by its __init__ -/
theorem maker_of {pats : List Pat} {x : Str} {Ca : Addr} (hm : mg x = some (.ref Ca)) (M : Mk K Ca f) (F : FunD K t.x t.q t.params t.body t.scope [] [] f fd) (S : FnScope t.N t.ps t.scope) (h1 : d.np = t.ps.length) (h2 : d.nn = t.N.length) (bd : BndI t pats) (g : Sg P W₀ ⟨K, mg⟩ base k b G)
    (chk : chkSs (t.cc b) d.body t.body = true) : Maker P W₀ ⟨K, mg⟩ base (k + 1) x (run G d) pats := by
  have ok := def_ok F S h1 h2 g chk
  obtain ⟨oc, od, dV, kV, doc, pm, an, cdv, ct, osl, e, _, _, hD, _⟩ := F.ex
  have e0 := dfl_none hD
  subst e0
  refine ⟨Ca, f, fd, t.ps, hm, M, ok, fun p hp => ?_⟩
  obtain ⟨q1, q2, q3⟩ := bd.kw p hp
  exact ⟨q1, q2, fun s us ws l1 l2 => by rw [e]; exact q3 _ _ _ _ _ _ s us ws l1 l2⟩
theorem Callee.up {C : Ct} {x : Str} {F : Fn} {pats : List Pat} {j : Nat} (c : Callee P W₀ C base k x F pats) (h : k ≤ j) : Callee P W₀ C base j x F pats := by
  obtain ⟨f, fd, ps, q1, q2, q3⟩ := c.ex
  exact ⟨f, fd, ps, q1, q2.mono h, q3⟩
theorem Sg.addF {C : Ct} (g : Sg P W₀ C base k b G) {k' : Nat} {x : Str} {F : Fn} {pats : List Pat} (c : Callee P W₀ C base k' x F pats) (h : k' ≤ k) : Sg P W₀ C base k { b with gn := x :: b.gn, gp := pats :: b.gp } { G with fs := F :: G.fs } :=
  ⟨g.blt, fun j y e => by
    cases j with
    | zero => cases e; exact ⟨F, k', rfl, c, h⟩
    | succ j => exact g.fs j y e, g.cs, g.ms, g.at_, g.kl, g.kle, g.xm, g.xne, g.xc, g.eq⟩
theorem Sg.up {C : Ct} (g : Sg P W₀ C base k b G) {j : Nat} (h : k ≤ j) : Sg P W₀ C base j b G :=
  ⟨g.blt, fun i x e => by
    obtain ⟨F', k', q1, q2, q3⟩ := g.fs i x e
    exact ⟨F', k', q1, q2, Nat.le_trans q3 h⟩, g.cs, fun i x e => by
    obtain ⟨F', k', q1, q2, q3⟩ := g.ms i x e
    exact ⟨F', k', q1, q2, Nat.le_trans q3 h⟩, g.at_, g.kl, g.kle, g.xm, g.xne, fun i x e => by
    obtain ⟨fields, q1, q2, q3⟩ := g.xc i x e
    exact ⟨fields, q1, q2, Nat.le_trans q3 h⟩, fun i x e => by
    obtain ⟨F', k', q1, q2, q3⟩ := g.eq i x e
    exact ⟨F', k', q1, q2, Nat.le_trans q3 h⟩⟩
/-- a def that calls itself, so deep at most -/
theorem callee_rec {pats : List Pat} (hm : mg t.x = some (.ref f)) (F : FunD K t.x t.q t.params t.body t.scope [] [] f fd) (S : FnScope t.N t.ps t.scope) (h1 : d.np = t.ps.length) (h2 : d.nn = t.N.length) (bd : Bnd t pats) (g : Sg P W₀ ⟨K, mg⟩ base k b G)
    (chk : chkSs (t.cc { b with gn := t.x :: b.gn, gp := pats :: b.gp }) d.body t.body = true) : ∀ n, Callee P W₀ ⟨K, mg⟩ base (k + n) t.x (runRec G d n) pats
  | 0 => callee_mk hm F bd ⟨fun vs H Q E h => h.1, fun A outer s H args us vs Q E hr e0 hb rv h => by
      obtain ⟨_, w, ds, st, _, _, h⟩ := h
      exact h.elim⟩ fun ds st h => absurd rfl h
  | n + 1 => callee_of (k := k + n) hm F S h1 h2 bd ((g.up (Nat.le_add_right k n)).addF (callee_rec hm F S h1 h2 bd g chk n) (Nat.le_refl _)) chk
end
section
variable {P : Program} {W₀ : World} {C : Ct} {base : Heap} {k : Nat} {b : Tb} {G : Gm}
theorem Sg.nil (h : ∀ x ∈ bltNames, C.mg x = none) : Sg P W₀ C base k {} { fs := [], cs := [] } :=
  ⟨h, fun j x e => (by cases e), fun j x e => (by cases e), fun j x e => (by cases e), fun c f e => (by cases e), fun x e => (by cases e), rfl, fun x e => (by cases e), rfl, fun j x e => (by cases e), fun j x e => (by cases e)⟩
theorem Sg.cls (h : ∀ x ∈ bltNames, C.mg x = none) {ats : List (Str × Str)} {kls : List Str} {sub : List (Str × Str)} {xns : List Str} {exm : List (Str × Str)} (ha : AtOk C ats) (hk : KlOk C kls sub) (hx : XmOk C xns exm) :
    Sg P W₀ C base k { kls := kls, xns := xns } { fs := [], cs := [], at_ := ats, kls := kls, sub := sub, xns := xns, exm := exm } :=
  ⟨h, fun j x e => (by cases e), fun j x e => (by cases e), fun j x e => (by cases e), ha, hk, rfl, hx, rfl, fun j x e => (by cases e), fun j x e => (by cases e)⟩
theorem Sg.addX (g : Sg P W₀ C base k b G) {x : Str} {fields : List Str} (c : Xc P W₀ C base x fields) (h : 2 ≤ k) : Sg P W₀ C base k { b with xcs := x :: b.xcs } { G with exs := (x, fields) :: G.exs } :=
  ⟨g.blt, g.fs, g.cs, g.ms, g.at_, g.kl, g.kle, g.xm, g.xne, fun j y e => by
    cases j with
    | zero => cases e; exact ⟨fields, rfl, c, h⟩
    | succ j => exact g.xc j y e, g.eq⟩
theorem Sg.addE (g : Sg P W₀ C base k b G) {k' : Nat} {x : Str} {F : Fn} (c : EqC P W₀ C base k' G.kls x F) (h : k' + 1 ≤ k) : Sg P W₀ C base k { b with eqn := x :: b.eqn } { G with eqs := (x, F) :: G.eqs } :=
  ⟨g.blt, g.fs, g.cs, g.ms, g.at_, g.kl, g.kle, g.xm, g.xne, g.xc, fun j y e => by
    cases j with
    | zero => cases e; exact ⟨F, k', rfl, c, h⟩
    | succ j => exact g.eq j y e⟩
theorem Sg.addC (g : Sg P W₀ C base k b G) {x : Str} {d : D} {u : Value} {v : V} (hm : C.mg x = some u) (r : RelV v u) (rd : ∀ F L, RelD C F L v d) : Sg P W₀ C base k { b with gc := x :: b.gc } { G with cs := d :: G.cs } :=
  ⟨g.blt, g.fs, fun j y e => by
    cases j with
    | zero => cases e; exact ⟨d, u, v, rfl, hm, r, rd⟩
    | succ j => exact g.cs j y e, g.ms, g.at_, g.kl, g.kle, g.xm, g.xne, g.xc, g.eq⟩
theorem Sg.addM (g : Sg P W₀ C base k b G) {k' : Nat} {x : Str} {F : Fn} {pats : List Pat} (c : Maker P W₀ C base k' x F pats) (h : k' + 1 ≤ k) : Sg P W₀ C base k { b with gk := x :: b.gk, gkp := pats :: b.gkp } { G with mks := (x, F) :: G.mks } :=
  ⟨g.blt, g.fs, g.cs, fun j y e => by
    cases j with
    | zero => cases e; exact ⟨F, k', rfl, c, h⟩
    | succ j => exact g.ms j y e, g.at_, g.kl, g.kle, g.xm, g.xne, g.xc, g.eq⟩
theorem law_end {F : Fn} (ns : List Int) {n : Nat} (hl : ns.length ≤ n) {H : Hp} {a : Addr} (hS : SqL C.K H a (ns.map V.int)) (ht : ∀ ns : List Int, ns.length ≤ n → ∃ st, F [.scr ns] [] = .ok (.bl true) st) :
    spF C 1 F [.ref a] H (fun v _ => v = .bl true) fun _ _ _ => False := by
  obtain ⟨st, e⟩ := ht ns hl
  refine ⟨rfl, ⟨H, []⟩, [.scr ns], [], ⟨rfl, List.nodup_nil, fun _ _ z => z, fun _ _ _ z => (by cases z), fun _ _ _ z => (by cases z)⟩, .cons (.scr hS) .nil, ?_⟩
  rw [e]
  intro v w' H' _ _ r
  cases r
  rfl
end
end Z

/-! Z19: the end. -/
namespace Z
open PySem PySem.Spec L2
open PyProof.Rows hiding St
theorem walk_ofW {l : PySem.W.OpenLaw} {n k : Nat} {q : Program} {loose : List Str} {XP : (Str → Option Value) → Heap → Prop} {YP : World → Heap → Prop} {d : DefRec} {CX : World → CXT} {x : Str}
    (hn : l.most = some n) (hn2 : n ≤ sizeLine) (hdf : d.params.defaults = []) (hr : Room k callerA)
    (F : ∀ (w : World) (mg : Str → Option Value) (fa : Addr) (h : Heap), YP w h → h.Ns mainGlobals mg → mg d.name = some (.ref fa) →
      ∃ (K : PySem.W.Frag) (fd : FuncData) (sp : Sp), K.In h ∧ (∀ (s : Shared) (u : Value), BindsTo s fd ⟨[u], []⟩ [(x, u)]) ∧
        (∀ (H : Hp) (a : Addr) (ns : List Int), ns.length ≤ n → SqL K H a (ns.map V.int) → sp [.ref a] H (fun v _ => v = .bl true) fun _ _ _ => False) ∧
        ∀ base : Heap, K.In base → base.Ns mainGlobals mg → FnOk l.prog w K mg base (CX w) k fa fd [x] sp)
    (hCX : ∀ (w : World) (H : Hp) (s : Shared) (e : Value) (s' : Shared), CX w [] H s (fun _ _ _ => False) e s' → False) :
    PySem.W.WalkO q loose XP YP l.row.toRowW d [] (fun f vs => PySem.call f vs) := by
  refine Att.attach_call hn hdf fun w s₀ s₁ mg mb fa o pm cd doc a vs ns G Y ho hd hcd hmg hobj hints hlen hg => ?_
  obtain ⟨K, fd, sp, KX, hb, hsp, hF⟩ := F w mg fa _ Y G.T.g hmg
  exact law_call KX G.T.g G.T.b G.T.builtins G.T.nolimit hg hobj hints (Nat.le_trans hlen hn2) hr hF hb (fun H hO hS => hsp H a ns hlen hS) fun H e s' => hCX w H s₁ e s'
theorem cx_end {P : Program} (w : World) (H : Hp) (s : Shared) (e : Value) (s' : Shared) (h : L2.CX P w [] H s (fun _ _ _ => False) e s') : False := by
  obtain ⟨_, _, _, _, _, _, _, _, _, _, _, _, z⟩ := h
  exact z
end Z

/-! ZF: the facts of classes, looked up by names. -/
namespace Z
open PySem PySem.Spec L2
open PyProof.Rows hiding St

/-- the facts by names, and a look of one's own -/
def obsZ (fa : List He.Fa) (fn : List He.DefD) (ex : PySem.W.Frag → Bool) (K : PySem.W.Frag) : He.AlD × Bool := (He.obsD fa fn K, ex K)
def obsZG (n : Nat) (fa : List He.Fa) (fn : List He.DefD) (ex : PySem.W.Frag → Bool) (g : Addr → Option Obj) : He.AlD × Bool := obsZ fa fn ex (He.frG g (He.asD g n))
def SaysZ (fa : List He.Fa) (fn : List He.DefD) (ex : PySem.W.Frag → Bool) (K : PySem.W.Frag) : Prop := obsZ fa fn ex K = (He.valD fn, true)
def hookZ (n : Nat) (fa : List He.Fa) (fn : List He.DefD) (ex : PySem.W.Frag → Bool) : PySem.W.Hook where
  α := He.AlD × Bool
  obs := fun s => obsZG n fa fn ex s.heap.get?
  val := fun _ => (He.valD fn, true)
  says := fun _ h => ∃ K : PySem.W.Frag, K.In h ∧ SaysZ fa fn ex K
  of := fun _ _ e => ⟨_, He.frG_in, e⟩
  keeps := fun _ _ _ ⟨K, hK, c⟩ k => ⟨K, PySem.W.Frag.In.keeps hK k, c⟩
theorem obsZG_eq {n : Nat} {fa : List He.Fa} {fn : List He.DefD} {ex : PySem.W.Frag → Bool} {g : Addr → Option Obj} {s : Shared} (h : ∀ a, g a = s.heap.get? a) : obsZG n fa fn ex g = (hookZ n fa fn ex).obs s := by
  have e : g = s.heap.get? := funext h
  rw [e] <;> rfl
theorem SaysZ.d {fa : List He.Fa} {fn : List He.DefD} {ex : PySem.W.Frag → Bool} {K : PySem.W.Frag} (c : SaysZ fa fn ex K) : He.SaysD fa fn K := congrArg Prod.fst c
theorem SaysZ.x {fa : List He.Fa} {fn : List He.DefD} {ex : PySem.W.Frag → Bool} {K : PySem.W.Frag} (c : SaysZ fa fn ex K) : ex K = true := congrArg Prod.snd c
section
variable {K : PySem.W.Frag} {h : Heap} {mg : Str → Option Value}
def atB (K : PySem.W.Frag) (ats : List (Str × Str)) : Bool := ats.all fun q => (He.Fa.glo q.1).ok K && ((He.Fa.cls q.1).ok K && (He.Fa.noat q.1 q.2).ok K)
theorem atB_ok (X : K.In h) (G : h.Ns mainGlobals mg) {ats : List (Str × Str)} (c : atB K ats = true) : AtOk ⟨K, mg⟩ ats := by
  intro x f hx Ca hm
  have q := List.all_eq_true.mp c _ hx
  simp only [Bool.and_eq_true] at q
  have e := hm.symm.trans (He.glo_ok X G q.1)
  cases e
  exact ⟨He.cls_ok q.2.1, He.noat_ok q.2.2⟩
def insB (K : PySem.W.Frag) (Ca : Addr) : Bool := decide (PySem.W.findIn K (.ref Ca) "__class__" = some (some (.builtin "object.__class__"))) && (decide (PySem.W.specialIn K (.builtin "object.__class__") "__get__" = some (some (.builtin "getset_descriptor.__get__"))) &&
  (decide (PySem.W.takesIn K (.builtin "object.__class__") = some true) && decide (PySem.W.mroIn K Ca (.type "object") = some true)))
def klB (K : PySem.W.Frag) (kls : List Str) (sub : List (Str × Str)) : Bool := kls.all fun x => (He.Fa.glo x).ok K && ((He.Fa.cls x).ok K && (insB K (He.ga K x) && ((tyNames.all fun T => decide (PySem.W.kitOne K (.type T) (.ref (He.ga K x)) = some false)) &&
  kls.all fun y => decide (PySem.W.kitOne K (.ref (He.ga K y)) (.ref (He.ga K x)) = some (decide (y = x) || sub.contains (y, x))))))
theorem klB_ok (X : K.In h) (G : h.Ns mainGlobals mg) {kls : List Str} {sub : List (Str × Str)} (c : klB K kls sub = true) : KlOk ⟨K, mg⟩ kls sub := by
  intro x hx
  have q := List.all_eq_true.mp c _ hx
  simp only [Bool.and_eq_true] at q
  obtain ⟨q1, q2, q3, q4, q5⟩ := q
  unfold insB at q3
  simp only [Bool.and_eq_true, decide_eq_true_eq] at q3
  refine ⟨He.ga K x, He.glo_ok X G q1, ⟨He.cls_ok q2, q3.1, q3.2.1, q3.2.2.1, q3.2.2.2⟩, fun T hT => of_decide_eq_true (List.all_eq_true.mp q4 T hT), fun y hy Cy hm => ?_⟩
  have z := of_decide_eq_true (List.all_eq_true.mp q5 y hy)
  have qy := List.all_eq_true.mp c _ hy
  simp only [Bool.and_eq_true] at qy
  have e := hm.symm.trans (He.glo_ok X G qy.1)
  cases e
  exact z
def xmB (K : PySem.W.Frag) (xns : List Str) (exm : List (Str × Str)) : Bool := xns.all fun x => (He.Fa.glo x).ok K && xns.all fun y => decide (PySem.W.exmOne K (.ref (He.ga K y)) (.ref (He.ga K x)) = some (exm.contains (y, x)))
theorem xmB_ok (X : K.In h) (G : h.Ns mainGlobals mg) {xns : List Str} {exm : List (Str × Str)} (c : xmB K xns exm = true) : XmOk ⟨K, mg⟩ xns exm := by
  intro x hx
  have q := List.all_eq_true.mp c _ hx
  simp only [Bool.and_eq_true] at q
  refine ⟨He.ga K x, He.glo_ok X G q.1, fun y hy Cy hm => ?_⟩
  have z := of_decide_eq_true (List.all_eq_true.mp q.2 y hy)
  have qy := List.all_eq_true.mp c _ hy
  simp only [Bool.and_eq_true] at qy
  have e := hm.symm.trans (He.glo_ok X G qy.1)
  cases e
  exact z
/-- an exception's class: x, its fields -/
def xcB (K : PySem.W.Frag) (x : Str) (fields : List Str) : Bool := (He.Fa.glo x).ok K && (oexB K (He.ga K x) && (decide (PySem.W.findIn K (.ref (He.ga K x)) "__init__" = some (some (.ref (He.fAd K (x, some "__init__"))))) &&
  (decide (PySem.W.typeIn K (.ref (He.fAd K (x, some "__init__"))) = some (.type "function")) && ((fields.all fun f => (He.Fa.noat x f).ok K) && xfB K (He.ga K x)))))
theorem xcB_ok {P : Program} {W₀ : World} {base : Heap} {x q : Str} {params : Arguments} {body : List Stmt} {scope : Scope} {fd : FuncData} {ps fields : List Str} (X : K.In h) (G : h.Ns mainGlobals mg) (c : xcB K x fields = true)
    (F : FunD K "__init__" q params body scope [] [] (He.fAd K (x, some "__init__")) fd) (S : FnScope (("self" : Str) :: ps) (("self" : Str) :: ps) scope) (hl : ps.length = fields.length) (chk : chkIni fields ps body = true) (hne : fields ≠ []) (hz : fields.length ≤ 900)
    (hb : ∀ (kV doc pm : Value) (an : Option Addr) (cdv ct : Value) (us : List Value), us.length = (("self" : Str) :: ps).length → bindArgs (PySem.W.fnOf "__init__" q params body scope .none kV doc pm an cdv ct) ⟨us, []⟩ = pure ((("self" : Str) :: ps).zip us)) :
    Xc P W₀ ⟨K, mg⟩ base x fields := by
  unfold xcB at c
  simp only [Bool.and_eq_true, decide_eq_true_eq] at c
  obtain ⟨c1, c2, c3, c4, c5, c6⟩ := c
  exact ⟨He.ga K x, _, fd, _, He.glo_ok X G c1, oexB_ok X c2, c3, c4, ini_ok F S hl chk, F.bindsN hb, fun f hf => He.noat_ok (List.all_eq_true.mp c5 f hf), hne, hz, xfB_ok c6⟩
/-- a class with an own __eq__ -/
def eqB (K : PySem.W.Frag) (kls : List Str) (x : Str) : Bool := (He.Fa.glo x).ok K && ((He.Fa.meth x "__eq__").ok K && ((tyNames.all fun T => PySem.W.notFirst K (He.ga K x) (.type T)) && ((kls.all fun y => (He.Fa.glo y).ok K && PySem.W.notFirst K (He.ga K x) (.ref (He.ga K y))) &&
  (kls.contains x && (decide (PySem.W.findIn K (.ref (He.ga K x)) "__ne__" = some (some (.builtin "object.__ne__"))) && (decide (PySem.W.subIn K (.ref (He.ga K x)) (.type "tuple") = some false) && decide (PySem.W.subIn K (.ref (He.ga K x)) (.type "NoneType") = some false)))))))
theorem eqB_ok {P : Program} {W₀ : World} {base : Heap} {k : Nat} {x : Str} {kls : List Str} {t : Txt} {fd : FuncData} {Fn' : Fn} (X : K.In h) (G : h.Ns mainGlobals mg) (c : eqB K kls x = true)
    (F : FunD K t.x t.q t.params t.body t.scope [] [] (He.fAd K (x, some "__eq__")) fd) (ok : FnOk P W₀ K mg base (L2.CX P W₀) k (He.fAd K (x, some "__eq__")) fd t.ps (spF ⟨K, mg⟩ t.ps.length Fn')) (hl : t.ps.length = 2)
    (bd : ∀ (kV doc pm : Value) (an : Option Addr) (cdv ct : Value) (us : List Value), us.length = 2 → bindArgs (PySem.W.fnOf t.x t.q t.params t.body t.scope .none kV doc pm an cdv ct) ⟨us, []⟩ = pure (t.ps.zip us)) : EqC P W₀ ⟨K, mg⟩ base k kls x Fn' := by
  unfold eqB at c
  simp only [Bool.and_eq_true, decide_eq_true_eq] at c
  obtain ⟨c1, c2, c3, c4, c5, c6, c7, c8⟩ := c
  have m := He.meth_ok c2
  obtain ⟨oc, od, dV, kV, doc, pm, an, cdv, ct, osl, e, _, _, hD, _⟩ := F.ex
  have e0 := dfl_none hD
  subst e0
  refine ⟨He.ga K x, _, fd, t.ps, He.glo_ok X G c1, m.at_, m.fn, by rw [hl] at ok ⊢; exact ok, hl, fun us l => by rw [e]; exact bd _ _ _ _ _ _ us l, fun T hT => List.all_eq_true.mp c3 T hT, fun y hy Cy hm => ?_, List.contains_iff_mem.mp c5, c6, c7, c8⟩
  have q := List.all_eq_true.mp c4 y hy
  simp only [Bool.and_eq_true] at q
  have e2 := hm.symm.trans (He.glo_ok X G q.1)
  cases e2
  exact q.2
end
end Z

/-! ZM: big steps of runs. -/
namespace Z
open PySem
section
variable {G : Gm} {ρ ρ1 ρ2 ρ3 : Env} {st st1 st2 st3 : Store} {α β : Type}
theorem mBind {m : M α} {f : α → M β} {a : α} (h : m ρ st = .ok a ρ1 st1) : bind m f ρ st = f a ρ1 st1 := by
  unfold bind; rw [h]
theorem xEs {e : IE} {r : IEs} {d : D} {ds : List D} (h1 : evE G e ρ st = .ok d ρ1 st1) (h2 : evEs G r ρ1 st1 = .ok ds ρ2 st2) : evEs G (.cons e r) ρ st = .ok (d :: ds) ρ2 st2 :=
  (mBind h1).trans (mBind h2)
theorem xCall {j : Nat} {es : IEs} {ds : List D} {d : D} (h1 : evEs G es ρ st = .ok ds ρ1 st1) (h2 : fnAt G.fs j ds st1 = .ok d st2) : evE G (.call j es .nil []) ρ st = .ok d ρ1 st2 := by
  refine (mBind h1).trans ?_
  show callM (fnAt G.fs j) (ds ++ []) ρ1 st1 = _
  rw [List.append_nil]
  unfold callM
  rw [h2]
theorem xCallK {j : Nat} {es kws : IEs} {ds ks as : List D} {ord : List Nat} {d : D} (h1 : evEs G es ρ st = .ok ds ρ1 st1) (hk : evEs G kws ρ1 st1 = .ok ks ρ2 st2) (hp : pickO (ds ++ ks) ord = some as) (h2 : fnAt G.fs j as st2 = .ok d st3) :
    evE G (.call j es kws ord) ρ st = .ok d ρ2 st3 := by
  refine (mBind h1).trans ((mBind hk).trans ?_)
  rw [hp]
  show callM (fnAt G.fs j) as ρ2 st2 = _
  unfold callM
  rw [h2]
theorem xBin {op : Operator} {a b : IE} {x y z : D} (h1 : evE G a ρ st = .ok x ρ1 st1) (h2 : evE G b ρ1 st1 = .ok y ρ2 st2) (h3 : opD op (view st2 x) (view st2 y) = some z) : evE G (.bin op a b) ρ st = .ok z ρ2 st2 := by
  refine (mBind h1).trans ((mBind h2).trans ?_)
  show opt (opD op (view st2 x) (view st2 y)) ρ2 st2 = _
  rw [h3]; rfl
theorem xCmp {op : CmpOp} {a b : IE} {x y : D} {z : Bool} (h1 : evE G a ρ st = .ok x ρ1 st1) (h2 : evE G b ρ1 st1 = .ok y ρ2 st2) (h3 : cmpD op (view st2 x) (view st2 y) = some z) : evE G (.cmp op a b) ρ st = .ok (.bl z) ρ2 st2 := by
  refine (mBind h1).trans ((mBind h2).trans ?_)
  show bind (opt (cmpD op (view st2 x) (view st2 y))) (fun t => ret (D.bl t)) ρ2 st2 = _
  rw [h3]; rfl
theorem xUn {op : UnaryOp} {a : IE} {x z : D} (h1 : evE G a ρ st = .ok x ρ1 st1) (h2 : unD op x = some z) : evE G (.un op a) ρ st = .ok z ρ1 st1 := by
  refine (mBind h1).trans ?_
  show opt (unD op x) ρ1 st1 = _
  rw [h2]; rfl
theorem xNot {a : IE} {x : D} {b : Bool} (h1 : evE G a ρ st = .ok x ρ1 st1) (h2 : truD (view st1 x) = some b) : evE G (.not a) ρ st = .ok (.bl (!b)) ρ1 st1 := by
  refine (mBind h1).trans ?_
  show bind (opt (truD (view st1 x))) (fun b => ret (D.bl (!b))) ρ1 st1 = _
  rw [h2]; rfl
theorem xAndT {a b : IE} {x : D} {r : R D} (h1 : evE G a ρ st = .ok x ρ1 st1) (h2 : truD (view st1 x) = some true) (h3 : evE G b ρ1 st1 = r) : evE G (.and a b) ρ st = r := by
  refine (mBind h1).trans ?_
  show bind (opt (truD (view st1 x))) (fun t => if t then evE G b else ret x) ρ1 st1 = _
  rw [h2]; exact h3
theorem xAndF {a b : IE} {x : D} (h1 : evE G a ρ st = .ok x ρ1 st1) (h2 : truD (view st1 x) = some false) : evE G (.and a b) ρ st = .ok x ρ1 st1 := by
  refine (mBind h1).trans ?_
  show bind (opt (truD (view st1 x))) (fun t => if t then evE G b else ret x) ρ1 st1 = _
  rw [h2]; rfl
theorem xOrT {a b : IE} {x : D} (h1 : evE G a ρ st = .ok x ρ1 st1) (h2 : truD (view st1 x) = some true) : evE G (.or a b) ρ st = .ok x ρ1 st1 := by
  refine (mBind h1).trans ?_
  show bind (opt (truD (view st1 x))) (fun t => if t then ret x else evE G b) ρ1 st1 = _
  rw [h2]; rfl
theorem xOrF {a b : IE} {x : D} {r : R D} (h1 : evE G a ρ st = .ok x ρ1 st1) (h2 : truD (view st1 x) = some false) (h3 : evE G b ρ1 st1 = r) : evE G (.or a b) ρ st = r := by
  refine (mBind h1).trans ?_
  show bind (opt (truD (view st1 x))) (fun t => if t then ret x else evE G b) ρ1 st1 = _
  rw [h2]; exact h3
theorem xIfT {c a b : IE} {x : D} {r : R D} (h1 : evE G c ρ st = .ok x ρ1 st1) (h2 : truD (view st1 x) = some true) (h3 : evE G a ρ1 st1 = r) : evE G (.ite c a b) ρ st = r := by
  refine (mBind h1).trans ?_
  show bind (opt (truD (view st1 x))) (fun t => if t then evE G a else evE G b) ρ1 st1 = _
  rw [h2]; exact h3
theorem xIfF {c a b : IE} {x : D} {r : R D} (h1 : evE G c ρ st = .ok x ρ1 st1) (h2 : truD (view st1 x) = some false) (h3 : evE G b ρ1 st1 = r) : evE G (.ite c a b) ρ st = r := by
  refine (mBind h1).trans ?_
  show bind (opt (truD (view st1 x))) (fun t => if t then evE G a else evE G b) ρ1 st1 = _
  rw [h2]; exact h3
theorem xBi {f : BI} {a : IE} {x z : D} (h1 : evE G a ρ st = .ok x ρ1 st1) (h2 : biD f (view st1 x) = some z) : evE G (.bi f a) ρ st = .ok z ρ1 st1 := by
  refine (mBind h1).trans ?_
  show opt (biD f (view st1 x)) ρ1 st1 = _
  rw [h2]; rfl
theorem xBi2 {f : BI2} {a b : IE} {x y z : D} (h1 : evE G a ρ st = .ok x ρ1 st1) (h2 : evE G b ρ1 st1 = .ok y ρ2 st2) (h3 : bi2D f x y = some z) : evE G (.bi2 f a b) ρ st = .ok z ρ2 st2 := by
  refine (mBind h1).trans ((mBind h2).trans ?_)
  show opt (bi2D f x y) ρ2 st2 = _
  rw [h3]; rfl
theorem xSub {a b : IE} {x y z : D} (h1 : evE G a ρ st = .ok x ρ1 st1) (h2 : evE G b ρ1 st1 = .ok y ρ2 st2) (h3 : subD (view st2 x) y = some z) : evE G (.sub a b) ρ st = .ok z ρ2 st2 := by
  refine (mBind h1).trans ((mBind h2).trans ?_)
  show opt (subD (view st2 x) y) ρ2 st2 = _
  rw [h3]; rfl
theorem xTup {es : IEs} {ds : List D} (h1 : evEs G es ρ st = .ok ds ρ1 st1) (h2 : ds.length ≤ line) : evE G (.tup es) ρ st = .ok (.tup ds) ρ1 st1 := by
  refine (mBind h1).trans ?_
  show bind (fits ds) (fun ds => ret (D.tup ds)) ρ1 st1 = _
  unfold fits
  rw [if_pos h2]; rfl
theorem xMkP {f : IF} {c : Cell} (h : evF G f ρ st = .ok c ρ1 st1) : evE G (.mk .pure f) ρ st = .ok c.toD ρ1 st1 := mBind h
theorem xMkC {f : IF} {c : Cell} (h : evF G f ρ st = .ok c ρ1 st1) : evE G (.mk .cell f) ρ st = .ok (.ref st1.length) ρ1 (st1 ++ [c]) := mBind h
theorem xT {e : IE} {d : D} {b : Bool} (h1 : evE G e ρ st = .ok d ρ1 st1) (h2 : truD (view st1 d) = some b) : evT G (.some e) ρ st = .ok b ρ1 st1 := by
  refine (mBind h1).trans ?_
  show opt (truD (view st1 d)) ρ1 st1 = _
  rw [h2]; rfl
theorem xRange1 {a : IE} {n : Int} (h : evE G a ρ st = .ok (.int n) ρ1 st1) (hs : small n = true) : evI G (.range1 a) ρ st = .ok (rng 0 n) ρ1 st1 := by
  refine (mBind h).trans ?_
  show (if small n then ret (rng 0 n) else bad) ρ1 st1 = _
  rw [if_pos hs]; rfl
theorem xSeq {a : IE} {x : D} {xs : List D} (h : evE G a ρ st = .ok x ρ1 st1) (hs : seqItems x = some xs) : evI G (.seq a) ρ st = .ok xs ρ1 st1 := by
  refine (mBind h).trans ?_
  show opt (seqItems x) ρ1 st1 = _
  rw [hs]; rfl
theorem small_nat {n : Nat} (h : n ≤ line) : small (n : Int) = true := by
  unfold small
  have : n ≤ 16777216 := h
  simp only [Bool.and_eq_true, decide_eq_true_eq]
  omega
theorem tru_eq {p : Prop} [Decidable p] (h : p) : truD (.bl (decide p)) = some true := by rw [decide_eq_true h]; rfl
/-! statements -/
theorem xSs {s : IS} {r : ISs} (h : evS G s ρ st = .ok .next ρ1 st1) : evSs G (.cons s r) ρ st = evSs G r ρ1 st1 := mBind h
theorem xSsR {s : IS} {r : ISs} {d : D} (h : evS G s ρ st = .ok (.ret d) ρ1 st1) : evSs G (.cons s r) ρ st = .ok (.ret d) ρ1 st1 := mBind h
theorem xRet {e : IE} {d : D} (h : evE G e ρ st = .ok d ρ1 st1) : evS G (.ret e) ρ st = .ok (.ret d) ρ1 st1 := mBind h
theorem xAsg {t : Tg} {e : IE} {d : D} (h : evE G e ρ st = .ok d ρ1 st1) (hb : bindT t d ρ1 st1 = .ok () ρ2 st2) : evS G (.asg t e) ρ st = .ok .next ρ2 st2 := (mBind h).trans (mBind hb)
theorem xPar {is : List Nat} {es : IEs} {ds : List D} (h : evEs G es ρ st = .ok ds ρ1 st1) (hb : stores is ds ρ1 st1 = .ok () ρ2 st2) : evS G (.par is es) ρ st = .ok .next ρ2 st2 := (mBind h).trans (mBind hb)
theorem xSet {i : Nat} {ix e : IE} {d k : D} (h : evE G e ρ st = .ok d ρ1 st1) (ha : cellAt i ρ1 st1 = .ok () ρ1 st1) (hx : evE G ix ρ1 st1 = .ok k ρ2 st2) (hu : upM i (setC k d) ρ2 st2 = .ok () ρ3 st3) : evS G (.set i ix e) ρ st = .ok .next ρ3 st3 :=
  mBind ((mBind h).trans ((mBind ha).trans ((mBind hx).trans hu)))
theorem xExpr {e : IE} {d : D} (h : evE G e ρ st = .ok d ρ1 st1) : evS G (.expr e) ρ st = .ok .next ρ1 st1 := mBind h
theorem xIteT {c : IE} {a b : ISs} (h : evT G (.some c) ρ st = .ok true ρ1 st1) : evS G (.ite c a b) ρ st = evSs G a ρ1 st1 := mBind h
theorem xIteF {c : IE} {a b : ISs} (h : evT G (.some c) ρ st = .ok false ρ1 st1) : evS G (.ite c a b) ρ st = evSs G b ρ1 st1 := mBind h
theorem xFor {t : Tg} {it : II} {b : ISs} {xs : List D} (h : evI G it ρ st = .ok xs ρ1 st1) : evS G (.for t it b) ρ st = loopF (fun x => bind (bindT t x) fun _ => evSs G b) xs ρ1 st1 := mBind h
theorem xRun {d : Def} {ds : List D} {v : D} (hl : ds.length = d.np) (h : evSs G d.body (startE d.nn ds) st = .ok (.ret v) ρ1 st1) : run G d ds st = .ok v st1 := by
  unfold run
  rw [if_pos hl, h]
/-- a for that goes on to its end -/
theorem loop_inv {go : D → M Fl} {xs : List D} (Inv : Nat → Env → Store → Prop) (hs : ∀ i x ρ st, xs[i]? = some x → Inv i ρ st → ∃ ρ' st', go x ρ st = .ok .next ρ' st' ∧ Inv (i + 1) ρ' st') (h0 : Inv 0 ρ st) :
    ∃ ρ' st', loopF go xs ρ st = .ok .next ρ' st' ∧ Inv xs.length ρ' st' := by
  have key : ∀ (n i : Nat) (ρ : Env) (st : Store), xs.length - i = n → i ≤ xs.length → Inv i ρ st → ∃ ρ' st', loopF go (xs.drop i) ρ st = .ok .next ρ' st' ∧ Inv xs.length ρ' st' := by
    intro n
    induction n with
    | zero =>
      intro i ρ st h1 h2 h3
      have e : i = xs.length := by omega
      subst e
      exact ⟨ρ, st, by rw [List.drop_length]; rfl, h3⟩
    | succ n ih =>
      intro i ρ st h1 h2 h3
      have hlt : i < xs.length := by omega
      obtain ⟨ρ', st', e1, e2⟩ := hs i xs[i] ρ st (by simp [hlt]) h3
      obtain ⟨ρ2, st2, e3, e4⟩ := ih (i + 1) ρ' st' (by omega) hlt e2
      refine ⟨ρ2, st2, ?_, e4⟩
      rw [List.drop_eq_getElem_cons hlt]
      exact (mBind e1).trans e3
  have := key xs.length 0 ρ st (by simp) (Nat.zero_le _) h0
  rwa [List.drop_zero] at this

/-! comprehensions -/
theorem mwipe_length (ρ : Env) : ∀ vs : List Nat, (wipe ρ vs).length = ρ.length
  | [] => rfl
  | v :: vs => by unfold wipe; rw [List.length_set, mwipe_length ρ vs]
theorem restore_same {vs : List Nat} (h : wipe ρ1 vs = wipe ρ vs) : restore ρ ρ1 vs = ρ := by
  have hl : ρ1.length = ρ.length := by rw [← mwipe_length ρ1 vs, h, mwipe_length]
  have g : ∀ (us : List Nat) (i : Nat), (∀ v ∈ us, v ∈ vs) → (restore ρ ρ1 us).length = ρ.length ∧ (i < ρ.length → i ∈ us → (restore ρ ρ1 us)[i]? = ρ[i]?) ∧ (i ∉ us → (restore ρ ρ1 us)[i]? = ρ1[i]?) := by
    intro us i
    induction us with
    | nil => intro _; exact ⟨hl, fun _ h => (by cases h), fun _ => rfl⟩
    | cons v us ih =>
      intro hv
      obtain ⟨a1, a2, a3⟩ := ih fun v h => hv v (List.mem_cons_of_mem _ h)
      refine ⟨by unfold restore; rw [List.length_set]; exact a1, fun hi hm => ?_, fun hm => ?_⟩
      · unfold restore
        by_cases e : v = i
        · subst e
          rw [List.getElem?_set_self (by rw [a1]; exact hi), List.getElem?_eq_getElem hi]; rfl
        · rw [List.getElem?_set_ne e]
          rcases List.mem_cons.mp hm with z | z
          · exact absurd z.symm e
          · exact a2 hi z
      · simp only [List.mem_cons, not_or] at hm
        unfold restore
        rw [List.getElem?_set_ne (fun z => hm.1 z.symm)]
        exact a3 hm.2
  have w : ∀ (us : List Nat) (i : Nat) (ρ : Env), i ∉ us → (wipe ρ us)[i]? = ρ[i]? := by
    intro us i ρ
    induction us with
    | nil => intro _; rfl
    | cons v us ih =>
      intro hm
      simp only [List.mem_cons, not_or] at hm
      unfold wipe
      rw [List.getElem?_set_ne (fun z => hm.1 z.symm)]
      exact ih hm.2
  refine List.ext_getElem? fun i => ?_
  obtain ⟨a1, a2, a3⟩ := g vs i fun v h => h
  by_cases hi : i < ρ.length
  · by_cases hm : i ∈ vs
    · exact a2 hi hm
    · rw [a3 hm, ← w vs i ρ1 hm, h, w vs i ρ hm]
  · rw [List.getElem?_eq_none (by rw [a1]; omega), List.getElem?_eq_none (by omega)]
/-- a comprehension whose turns change nothing -/
theorem xLc {elt : IE} {t : Tg} {it : II} {ifs : IO} {vs : List Nat} {xs : List D} (p : D → Bool) (f : D → D) (hi : evI G it ρ st = .ok xs ρ1 st1) (hown : (vs.any fun i => isOwn ρ1[i]?) = false)
    (ht : ∀ x ∈ xs, ∃ ρ', bindT t x (wipe ρ1 vs) st1 = .ok () ρ' st1 ∧ wipe ρ' vs = wipe ρ1 vs ∧ evT G ifs ρ' st1 = .ok (p x) ρ' st1 ∧ (p x = true → evE G elt ρ' st1 = .ok (f x) ρ' st1)) (hl : xs.length ≤ line) :
    evF G (.lc elt t it ifs vs) ρ st = .ok (.lst ((xs.filter p).map f)) ρ1 st1 := by
  refine (mBind hi).trans ?_
  have key : ∀ (ys : List D) (ρ' : Env), (∀ x ∈ ys, x ∈ xs) → wipe ρ' vs = wipe ρ1 vs → ∃ ρ'', turns (fun x => bind (wipeM vs) fun _ => bind (bindT t x) fun _ => bind (evT G ifs) fun b => if b then bind (evE G elt) fun d => ret [d] else ret []) ys ρ' st1 = .ok ((ys.filter p).map f) ρ'' st1 ∧ wipe ρ'' vs = wipe ρ1 vs := by
    intro ys
    induction ys with
    | nil => intro ρ' _ h; exact ⟨ρ', rfl, h⟩
    | cons y ys ih =>
      intro ρ' hm h
      obtain ⟨ρ2, e1, e2, e3, e4⟩ := ht y (hm y List.mem_cons_self)
      obtain ⟨ρ3, e5, e6⟩ := ih ρ2 (fun x hx => hm x (List.mem_cons_of_mem _ hx)) e2
      refine ⟨ρ3, ?_, e6⟩
      have go : (bind (wipeM vs) fun _ => bind (bindT t y) fun _ => bind (evT G ifs) fun b => if b then bind (evE G elt) fun d => ret [d] else ret []) ρ' st1 = .ok (if p y then [f y] else []) ρ2 st1 := by
        show (bind (bindT t y) fun _ => bind (evT G ifs) fun b => if b then bind (evE G elt) fun d => ret [d] else ret []) (wipe ρ' vs) st1 = _
        rw [h]
        refine (mBind e1).trans ((mBind e3).trans ?_)
        cases hp : p y with
        | true => rw [if_pos rfl, if_pos rfl]; exact mBind (e4 hp)
        | false => rw [if_neg Bool.false_ne_true, if_neg Bool.false_ne_true]; rfl
      refine (mBind go).trans ((mBind e5).trans ?_)
      show R.ok _ ρ3 st1 = _
      cases hp : p y with
      | true => rw [if_pos rfl, List.filter_cons_of_pos hp]; rfl
      | false => rw [if_neg Bool.false_ne_true, List.filter_cons_of_neg (by simp [hp])]; rfl
  obtain ⟨ρ2, e1, e2⟩ := key xs ρ1 (fun x h => h) rfl
  have hb : block vs (turns (fun x => bind (wipeM vs) fun _ => bind (bindT t x) fun _ => bind (evT G ifs) fun b => if b then bind (evE G elt) fun d => ret [d] else ret []) xs) ρ1 st1 = .ok ((xs.filter p).map f) ρ1 st1 := by
    unfold block
    rw [hown, if_neg Bool.false_ne_true, e1]
    show R.ok _ (restore ρ1 ρ2 vs) st1 = _
    rw [restore_same e2]
  refine (mBind hb).trans ?_
  show bind (fits ((xs.filter p).map f)) (fun ds => ret (Cell.lst ds)) ρ1 st1 = _
  unfold fits
  rw [if_pos (by rw [List.length_map]; exact Nat.le_trans (List.length_filter_le _ _) hl)]
  rfl
end
end Z
namespace Z
open PySem
section
variable {st : Store} {l : Nat} {c c' : Cell} {ρ : Env} {i : Nat} {α : Type}
theorem view_ref (h : st[l]? = some c) : view st (.ref l) = c.toD := by
  show (match st[l]? with | some c => c.toD | none => D.ref l) = _
  rw [h]
theorem sub_ref {y z : D} (h : st[l]? = some c) (e : subD c.toD y = some z) : subD (view st (.ref l)) y = some z := by rw [view_ref h]; exact e
theorem upM_ref {f : Cell → Option (Cell × α)} {a : α} (hr : ρ[i]? = some (.val (.ref l))) (h : st[l]? = some c) (e : liveF f c = some (c', a)) : upM i f ρ st = .ok a ρ (st.set l c') := by
  unfold upM
  rw [hr]
  simp only [h, e]
theorem cellAt_ref {xs : List D} (hr : ρ[i]? = some (.val (.ref l))) (h : st[l]? = some (.lst xs)) : cellAt i ρ st = .ok () ρ st := by
  unfold cellAt
  rw [hr]
  simp only [h]
theorem set_get (h : st[l]? = some c) : (st.set l c')[l]? = some c' := List.getElem?_set_self (List.getElem?_eq_some_iff.mp h).1
theorem op_pow {i j : Int} (h : powOk i j = true) : opD .Pow (.int i) (.int j) = some (.int (i ^ j.toNat)) := by
  show (if powOk i j then some (D.int (i ^ j.toNat)) else none) = _
  rw [if_pos h]
theorem op_mod {i j : Int} (h : 0 < j) : opD .Mod (.int i) (.int j) = some (.int (i % j)) := by
  show (if 0 < j then some (D.int (i % j)) else none) = _
  rw [if_pos h]
theorem op_div {i j : Int} (h : 0 < j ∧ j < 1073741824) : opD .FloorDiv (.int i) (.int j) = some (.int (i / j)) := by
  show (if 0 < j ∧ j < 1073741824 then some (D.int (i / j)) else none) = _
  rw [if_pos h]
theorem op_mul {i j : Int} (h : mulOk i j = true) : opD .Mult (.int i) (.int j) = some (.int (i * j)) := by
  show (if mulOk i j then some (D.int (i * j)) else none) = _
  rw [if_pos h]
theorem op_shl {i j : Int} (h : powOk i j = true) : opD .LShift (.int i) (.int j) = some (.int (i * 2 ^ j.toNat)) := by
  show (if powOk i j then some (D.int (i * 2 ^ j.toNat)) else none) = _
  rw [if_pos h]
theorem powOk_of {i j : Int} (h0 : 0 ≤ j) (h1 : j ≤ 1000000) (h2 : -(2 ^ 64) < i) (h3 : i < 2 ^ 64) : powOk i j = true := by
  unfold powOk
  simp only [Bool.and_eq_true, decide_eq_true_eq]
  exact ⟨h0, h1, by omega⟩
theorem eq_int (a b : Int) : cmpD .Eq (.int a) (.int b) = some (decide (a = b)) := by
  show eqD0 (.int a) (.int b) = _
  unfold eqD0
  simp only [toPy]
  rw [if_pos (by rfl)]
  congr 1
end
/-- the draw box of the laws, at most n draws behind -/
def Box (st : Store) (l : Nat) (n : Int) : Prop := ∃ (g : Int) (b : Bool) (c d : Int), st[l]? = some (.lst [.int g, .bl b, .int c, .int d]) ∧ 0 ≤ c ∧ c < 2147483629 ∧ 0 ≤ d ∧ d ≤ n
/-- the draw, as each law has it -/
def takeDef : Def := ⟨2, 4, .cons (.ite (.and (.sub (.var 0) (.lit (.int 1))) (.one (.cmp .Gt (.sub (.var 0) (.lit (.int 0))) (.lit (.int 0))))) (.cons (.asg (.nm 3) (.bin .Mod (.bi .int (.sub (.var 0) (.lit (.int 0)))) (.var 1))) (.cons (.set 0 (.lit (.int 0)) (.bin .FloorDiv (.sub (.var 0) (.lit (.int 0))) (.var 1))) (.cons (.ret (.var 3)) .nil))) .nil) (.cons (.set 0 (.lit (.int 3)) (.bin .Add (.sub (.var 0) (.lit (.int 3))) (.lit (.int 1)))) (.cons (.asg (.nm 2) (.bin .Mod (.bi .int (.bin .Pow (.bin .Add (.bin .Add (.sub (.var 0) (.lit (.int 2))) (.bin .Mult (.lit (.int 15485863)) (.sub (.var 0) (.lit (.int 3))))) (.lit (.int 179424673))) (.lit (.int 5)))) (.lit (.int 2147483647)))) (.cons (.ret (.bin .Mod (.bi .int (.bin .FloorDiv (.bin .Mod (.bi .int (.bin .Pow (.bin .Add (.bin .Mult (.var 2) (.lit (.int 48271))) (.bin .Mult (.lit (.int 104729)) (.sub (.var 0) (.lit (.int 3))))) (.lit (.int 3)))) (.lit (.int 2147483587))) (.lit (.int 64)))) (.var 1))) .nil)))⟩
theorem take_ok {G : Gm} {st : Store} {l : Nat} {n m : Int} (hb : Box st l n) (hn : n ≤ 1000000) (h0 : 0 < m) (h1 : m < 1073741824) :
    ∃ v st', run G takeDef [.ref l, .int m] st = .ok (.int v) st' ∧ 0 ≤ v ∧ v < m ∧ Box st' l (n + 1) ∧ ∀ k, k ≠ l → st'[k]? = st[k]? := by
  obtain ⟨g, b, c, d, h, hc0, hc1, hd0, hd1⟩ := hb
  have hs : ∀ {ρ : Env} {k : Int} {z : D}, ρ[0]? = some (.val (.ref l)) → subD (.lst [.int g, .bl b, .int c, .int d]) (.int k) = some z → evE G (.sub (.var 0) (.lit (.int k))) ρ st = .ok z ρ st := fun {ρ k z} h1 h2 =>
    xSub (x := .ref l) (y := .int k) (by show getV 0 ρ st = _; unfold getV; rw [h1]) rfl (sub_ref h h2)
  by_cases hg : b = true ∧ 0 < g
  · -- a digit of the great number
    obtain ⟨rfl, hg⟩ := hg
    refine ⟨g % m, _, xRun (ρ1 := [.val (.ref l), .val (.int m), .un, .val (.int (g % m))]) (st1 := st.set l (.lst [.int (g / m), .bl true, .int c, .int d])) rfl ?_, Int.emod_nonneg _ (by omega), Int.emod_lt_of_pos _ h0, ⟨g / m, true, c, d, set_get h, hc0, hc1, hd0, by omega⟩, fun k hk => List.getElem?_set_ne (Ne.symm hk)⟩
    show evSs G takeDef.body [.val (.ref l), .val (.int m), .un, .un] st = _
    refine xSsR ((xIteT (ρ1 := [.val (.ref l), .val (.int m), .un, .un]) (st1 := st) (xT (xAndT (hs rfl rfl) rfl (xCmp (x := .int g) (y := .int 0) (hs rfl rfl) rfl rfl)) ?_)).trans ?_)
    · show some (decide (0 < g)) = some true
      rw [decide_eq_true hg]
    · refine (xSs (xAsg (xBin (z := .int (g % m)) (xBi (x := .int g) (hs rfl rfl) rfl) rfl (op_mod h0)) rfl)).trans ?_
      refine (xSs (xSet (xBin (z := .int (g / m)) (hs rfl rfl) rfl (op_div ⟨h0, h1⟩)) (cellAt_ref rfl h) rfl (upM_ref rfl h rfl))).trans ?_
      exact xSsR (xRet rfl)
  · -- a mixed number
    have hset : (st.set l (.lst [.int g, .bl b, .int c, .int (d + 1)]))[l]? = some (.lst [.int g, .bl b, .int c, .int (d + 1)]) := set_get h
    have hs2 : ∀ {ρ : Env} {k : Int} {z : D}, ρ[0]? = some (.val (.ref l)) → subD (.lst [.int g, .bl b, .int c, .int (d + 1)]) (.int k) = some z → evE G (.sub (.var 0) (.lit (.int k))) ρ (st.set l (.lst [.int g, .bl b, .int c, .int (d + 1)])) = .ok z ρ (st.set l (.lst [.int g, .bl b, .int c, .int (d + 1)])) := fun {ρ k z} h1 h2 =>
      xSub (x := .ref l) (y := .int k) (by show getV 0 ρ _ = _; unfold getV; rw [h1]) rfl (sub_ref hset h2)
    generalize hM : (c + 15485863 * (d + 1) + 179424673) ^ (5 : Int).toNat % 2147483647 = M
    have hM0 : 0 ≤ M := by rw [← hM]; exact Int.emod_nonneg _ (by decide)
    have hM1 : M < 2147483647 := by rw [← hM]; exact Int.emod_lt_of_pos _ (by decide)
    refine ⟨(M * 48271 + 104729 * (d + 1)) ^ (3 : Int).toNat % 2147483587 / 64 % m, _, xRun (ρ1 := [.val (.ref l), .val (.int m), .val (.int M), .un]) (st1 := st.set l (.lst [.int g, .bl b, .int c, .int (d + 1)])) rfl ?_, Int.emod_nonneg _ (by omega), Int.emod_lt_of_pos _ h0, ⟨g, b, c, d + 1, set_get h, hc0, hc1, by omega, by omega⟩, fun k hk => List.getElem?_set_ne (Ne.symm hk)⟩
    show evSs G takeDef.body [.val (.ref l), .val (.int m), .un, .un] st = _
    refine (xSs (ρ1 := [.val (.ref l), .val (.int m), .un, .un]) (st1 := st) ((xIteF (ρ1 := [.val (.ref l), .val (.int m), .un, .un]) (st1 := st) ?_).trans rfl)).trans ?_
    · cases b with
      | false => exact xT (xAndF (x := .bl false) (hs rfl rfl) rfl) rfl
      | true =>
        refine xT (xAndT (hs rfl rfl) rfl (xCmp (x := .int g) (y := .int 0) (hs rfl rfl) rfl rfl)) ?_
        show some (decide (0 < g)) = some false
        rw [decide_eq_false fun z => hg ⟨rfl, z⟩]
    refine (xSs (xSet (xBin (z := .int (d + 1)) (hs rfl rfl) rfl rfl) (cellAt_ref rfl h) rfl (upM_ref rfl h rfl))).trans ?_
    refine (xSs (xAsg (d := .int M) (xBin (xBi (z := .int ((c + 15485863 * (d + 1) + 179424673) ^ (5 : Int).toNat)) (xBin (xBin (xBin (z := .int (c + 15485863 * (d + 1))) (hs2 rfl rfl) (xBin (y := .int (d + 1)) rfl (hs2 rfl rfl) (op_mul rfl)) rfl) rfl rfl) rfl (op_pow (powOk_of (by decide) (by decide) (by omega) (by omega)))) rfl) rfl ((op_mod (by decide)).trans (by rw [hM]))) rfl)).trans ?_
    exact xSsR (xRet (xBin (xBi (xBin (xBin (xBi (z := .int ((M * 48271 + 104729 * (d + 1)) ^ (3 : Int).toNat)) (xBin (xBin (z := .int (M * 48271 + 104729 * (d + 1))) (xBin (x := .int M) rfl rfl (op_mul (by simp [mulOk]))) (xBin (y := .int (d + 1)) rfl (hs2 rfl rfl) (op_mul rfl)) rfl) rfl (op_pow (powOk_of (by decide) (by decide) (by omega) (by omega)))) rfl) rfl (op_mod (by decide))) rfl (op_div (by decide))) rfl) rfl (op_mod h0)))
end Z
namespace Z
def forB : IS → ISs
  | .for _ _ b => b
  | _ => .nil
def nthS : ISs → Nat → IS
  | .nil, _ => .pass
  | .cons s _, 0 => s
  | .cons _ r, n + 1 => nthS r n
def goF (G : Gm) (t : Tg) (b : ISs) (x : D) : M Fl := bind (bindT t x) fun _ => evSs G b
theorem xFor' {G : Gm} {ρ ρ1 ρ2 : Env} {st st1 st2 : Store} {t : Tg} {it : II} {b : ISs} {xs : List D} {f : Fl} (h : evI G it ρ st = .ok xs ρ1 st1) (hl : loopF (goF G t b) xs ρ1 st1 = .ok f ρ2 st2) : evS G (.for t it b) ρ st = .ok f ρ2 st2 := (xFor h).trans hl
end Z

/-! ZS: what a def computes, told without slots. -/
namespace Z
open PySem
inductive XR (α : Type) where
  | ok (a : α) (st : Store) | exc (x : D) (st : Store) | bad
abbrev X (α : Type) := Store → XR α
/-- how a block ends -/
inductive O (σ τ : Type) where
  | nx (s : σ) | rt (d : D) | bk (t : τ) | ct (t : τ)
namespace X
variable {α β σ τ σ' : Type}
def pure (a : α) : X α := fun st => .ok a st
def bind (x : X α) (y : α → X β) : X β := fun st => match x st with
  | .ok a st' => y a st'
  | .exc e st' => .exc e st'
  | .bad => .bad
def bad : X α := fun _ => .bad
def opt : Option α → X α
  | some a => pure a
  | none => bad
def iff (c : X Bool) (a b : X α) : X α := bind c fun t => match t with
  | true => a
  | false => b
def tru (x : D) : X Bool := fun st => opt (truD (view st x)) st
def bl (x : X Bool) : X D := bind x fun t => pure (.bl t)
def not (x : X Bool) : X Bool := bind x fun t => pure (!t)
def and (a b : X Bool) : X Bool := iff a b (pure false)
def or (a b : X Bool) : X Bool := iff a (pure true) b
def andV (a b : X D) : X D := bind a fun x => iff (tru x) b (pure x)
def orV (a b : X D) : X D := bind a fun x => iff (tru x) (pure x) b
def bin (op : Operator) (x y : D) : X D := fun st => opt (opD op (view st x) (view st y)) st
def un (op : UnaryOp) (x : D) : X D := opt (unD op x)
def cmp (op : CmpOp) (x y : D) : X Bool := fun st => opt (cmpD op (view st x) (view st y)) st
def chain (op op' : CmpOp) (x y : D) (c : X D) : X Bool := bind (opt (cmpD op x y)) fun t => match t with
  | true => bind c fun z => opt (cmpD op' y z)
  | false => pure false
def fits (ds : List D) : X (List D) := fun st => if ds.length ≤ line then .ok ds st else .bad
def tup (ds : List D) : X D := bind (fits ds) fun ds => pure (.tup ds)
def mkP (x : X (List D)) : X D := bind x fun ds => pure (.lst ds)
def mkC (x : X (List D)) : X D := bind x fun ds st => .ok (.ref st.length) (st ++ [.lst ds])
def bi (f : BI) (x : D) : X D := fun st => opt (biD f (view st x)) st
def bi2 (f : BI2) (x y : D) : X D := opt (bi2D f x y)
def frz (x : D) : X D := fun st => match x with
  | .ref l => match st[l]? with
    | some (.lst xs) => .ok (.lst xs) (st.set l (.frz xs))
    | some (.frz xs) => .ok (.lst xs) st
    | _ => .bad
  | d => .ok d st
def bits (x : D) : X D := opt (bitsD x)
def items (x : D) : X (List D) := fun st => opt (itemsD (view st x)) st
def isi (x : D) (t : Ty) : X Bool := fun st => opt (isiD (view st x) t) st
def isc (kls : List Str) (sub : List (Str × Str)) (x : D) (c : Str) : X Bool := fun st => opt (iscD kls sub (view st x) c) st
def sub (x y : D) : X D := fun st => opt (subD (view st x) y) st
def toI (d : D) : X (Option Int) := match d with
  | .int i => pure (some i)
  | _ => bad
def slc (x : D) (lo hi : Option Int) : X D := fun st => opt (slcD (view st x) lo hi) st
def fld (ats : List (Str × Str)) (x : D) (f : Str) : X D := fun st => opt (fldD ats (view st x) f) st
def lstX (x : D) : X Unit := fun st => match x with
  | .ref l => match st[l]? with
    | some (.lst _) => .ok () st
    | _ => .bad
  | _ => .bad
def upX (x : D) (f : Cell → Option (Cell × α)) : X α := fun st => match x with
  | .ref l => match st[l]? with
    | some c => match liveF f c with
      | some (c', a) => .ok a (st.set l c')
      | none => .bad
    | none => .bad
  | _ => .bad
def upL (xs : List D) (f : Cell → Option (Cell × α)) : X (List D × α) := fun st => match f (.lst xs) with
  | some (.lst ys, a) => .ok (ys, a) st
  | _ => .bad
def make (c : Str) (init : D → X D) : X D := fun st => match init (.ref st.length) (st ++ [.ins c []]) with
  | .ok .non st' => .ok (.ref st.length) st'
  | .exc x st' => .exc x st'
  | _ => .bad
def fset (ats : List (Str × Str)) (x : D) (f : Str) (d : D) : X Unit := fun st => match x with
  | .ref l => match st[l]? with
    | some (.ins c fs) => if ats.contains (c, f) && decide (fs.length < 1000) then .ok () (st.set l (.ins c (putD f d fs))) else .bad
    | _ => .bad
  | _ => .bad
def rse (p : Str × List Str) (ds : List D) : X α := fun st => if ds.length = p.2.length then .exc (.exc p.1 (p.2.zip ds).reverse) st else .bad
def eqo (kls : List Str) (c : Str) (S : D → D → X D) (x y : D) : X Bool := fun st => match eqoWay kls c st x y with
  | some q => (match S q.1 q.2 st with
    | .ok (.bl b) st' => .ok b st'
    | _ => .bad)
  | none => (match eqD (view st x) (view st y) with
    | some b => .ok b st
    | none => .bad)
/-! walked things, comprehensions -/
def seq (d : D) : X (List D) := opt (seqItems d)
def range1 (x : D) : X (List D) := match x with
  | .int n => fun st => if small n then .ok (rng 0 n) st else .bad
  | _ => bad
def range2 (x y : D) : X (List D) := match x, y with
  | .int i, .int j => fun st => if small i && small j then .ok (rng i j) st else .bad
  | _, _ => bad
def enum (x : D) : X (List D) := opt (enumD x)
def down (x y z : D) : X (List D) := opt (downD x y z)
def zip (x y : D) : X (List D) := opt (zipD x y)
def items2 (d : D) : X (D × D) := fun st => match itemsD (view st d) with
  | some [a, b] => .ok (a, b) st
  | _ => .bad
def items3 (d : D) : X (D × D × D) := fun st => match itemsD (view st d) with
  | some [a, b, c] => .ok (a, b, c) st
  | _ => .bad
def items4 (d : D) : X (D × D × D × D) := fun st => match itemsD (view st d) with
  | some [a, b, c, e] => .ok (a, b, c, e) st
  | _ => .bad
def calm (x : X α) : X α := fun st => match x st with
  | .ok a st' => .ok a st'
  | _ => .bad
def turns (go : D → X (List D)) : List D → X (List D)
  | [] => pure []
  | x :: xs => bind (go x) fun a => bind (turns go xs) fun b => pure (a ++ b)
def lc (go : D → X (List D)) (xs : List D) : X (List D) := bind (calm (turns go xs)) fits
def one (e : X D) : X (List D) := bind e fun d => pure [d]
def oneIf (c : X Bool) (e : X D) : X (List D) := iff c (one e) (pure [])
def cat (x y : D) : X (List D) := fun st => match view st x, view st y with
  | .lst xs, .lst ys => fits (xs ++ ys) st
  | _, _ => .bad
def rep (x y : D) : X (List D) := fun st => match x, y with
  | .lst xs, .int k => if small k && decide (xs.length * k.toNat ≤ line) then .ok (List.replicate k.toNat xs).flatten st else .bad
  | _, _ => .bad
def list (x : D) : X (List D) := fun st => match view st x with
  | .lst xs => .ok xs st
  | .tup xs => .ok xs st
  | _ => .bad
def listR (x : D) : X (List D) := fun st => match x with
  | .int n => if small n && decide (n.toNat ≤ line) then .ok (rng 0 n) st else .bad
  | _ => .bad
def rev (x : D) : X (List D) := fun st => match view st x with
  | .lst xs => .ok xs.reverse st
  | _ => .bad
def sort (x : D) : X (List D) := fun st => opt (sortD (view st x)) st
/-! loops -/
def forV (body : D → σ → X σ) : List D → σ → X σ
  | [], s => pure s
  | x :: xs, s => bind (body x s) fun s => forV body xs s
def forO (body : D → σ → X (O σ σ)) : List D → σ → X (O σ τ)
  | [], s => pure (.nx s)
  | x :: xs, s => bind (body x s) fun o => match o with
    | .nx s => forO body xs s
    | .ct s => forO body xs s
    | .bk s => pure (.nx s)
    | .rt d => pure (.rt d)
def whlV (c : σ → X Bool) (body : σ → X σ) : Nat → σ → X σ
  | 0, _ => bad
  | n + 1, s => iff (c s) (bind (body s) fun s => whlV c body n s) (pure s)
def whlO (c : σ → X Bool) (body : σ → X (O σ σ)) : Nat → σ → X (O σ τ)
  | 0, _ => bad
  | n + 1, s => iff (c s) (bind (body s) fun o => match o with
    | .nx s => whlO c body n s
    | .ct s => whlO c body n s
    | .bk s => pure (.nx s)
    | .rt d => pure (.rt d)) (pure (.nx s))
def qF (x : X (O σ τ)) (rest : σ → X D) : X D := bind x fun o => match o with
  | .nx s => rest s
  | .rt d => pure d
  | _ => bad
def qO (x : X (O σ τ)) (rest : σ → X (O σ' τ)) : X (O σ' τ) := bind x fun o => match o with
  | .nx s => rest s
  | .rt d => pure (.rt d)
  | .bk t => pure (.bk t)
  | .ct t => pure (.ct t)
def hnd (exm : List (Str × Str)) (xns : List Str) (h : Hds) (x : D) : Option D := match x with
  | .exc c fs => if xns.contains c then (match findH exm c h with
    | some (_, e) => evH fs e
    | none => none) else none
  | _ => none
/-- a try in the midst -/
def tri (exm : List (Str × Str)) (xns : List Str) (h : Hds) (x : X (O σ τ)) : X (O σ τ) := fun st => match x st with
  | .exc (.exc c fs) st' => if xns.contains c then (match findH exm c h with
    | some (_, e) => (match evH fs e with
      | some d => .ok (.rt d) st'
      | none => .bad)
    | none => .exc (.exc c fs) st') else .bad
  | .exc _ _ => .bad
  | r => r
/-- a try at the end -/
def triF (exm : List (Str × Str)) (xns : List Str) (h : Hds) (x : X D) : X D := fun st => match x st with
  | .exc (.exc c fs) st' => if xns.contains c then (match findH exm c h with
    | some (_, e) => (match evH fs e with
      | some d => .ok d st'
      | none => .bad)
    | none => .exc (.exc c fs) st') else .bad
  | .exc _ _ => .bad
  | r => r
end X
/-! ### what is known of the slots -/
inductive Ent where
  | any | nown | val (d : D) | own (xs : List D) | eith (d : D)
def Ent.ok : Ent → Sl → Prop
  | .any, _ => True
  | .nown, s => isOwn (some s) = false
  | .val d, s => s = .val d
  | .own xs, s => s = .own (.lst xs)
  | .eith d, s => s = .val d ∨ ∃ c, s = .own c ∧ c.toD = d
abbrev LEnv := List Ent
def lk : LEnv → Nat → Option Ent
  | [], _ => none
  | e :: _, 0 => some e
  | _ :: r, n + 1 => lk r n
def sl : LEnv → Nat → Ent → LEnv
  | [], _, _ => []
  | _ :: r, 0, e => e :: r
  | x :: r, n + 1, e => x :: sl r n e
def Has : LEnv → Env → Prop
  | [], [] => True
  | e :: L, s :: ρ => e.ok s ∧ Has L ρ
  | _, _ => False
theorem Has.length : ∀ {L : LEnv} {ρ : Env}, Has L ρ → ρ.length = L.length
  | [], [], _ => rfl
  | _ :: _, _ :: _, h => by
    show _ + 1 = _ + 1
    rw [Has.length h.2]
theorem Has.get : ∀ {L : LEnv} {ρ : Env} {i : Nat} {e : Ent}, Has L ρ → lk L i = some e → ∃ s, ρ[i]? = some s ∧ e.ok s
  | [], [], _, _, _, h => by cases h
  | _ :: _, s :: _, 0, _, h, g => by
    cases g
    exact ⟨s, rfl, h.1⟩
  | _ :: _, _ :: _, i + 1, _, h, g => by
    obtain ⟨s, h1, h2⟩ := Has.get h.2 (i := i) g
    exact ⟨s, by simpa using h1, h2⟩
theorem Has.set : ∀ {L : LEnv} {ρ : Env} {i : Nat} {e : Ent} {s : Sl}, Has L ρ → e.ok s → Has (sl L i e) (ρ.set i s)
  | [], [], _, _, _, _, _ => trivial
  | _ :: _, _ :: _, 0, _, _, h, g => ⟨g, h.2⟩
  | _ :: _, _ :: _, i + 1, _, _, h, g => ⟨h.1, Has.set h.2 g⟩
theorem Has.lt {L : LEnv} {ρ : Env} {i : Nat} {e : Ent} (h : Has L ρ) (g : lk L i = some e) : i < ρ.length := by
  obtain ⟨s, h1, _⟩ := h.get g
  exact (List.getElem?_eq_some_iff.mp h1).1
theorem lk_sl : ∀ {L : LEnv} {i : Nat} {e x : Ent}, lk L i = some x → lk (sl L i e) i = some e
  | _ :: _, 0, _, _, _ => rfl
  | _ :: L, i + 1, _, _, h => lk_sl (L := L) (i := i) h
/-- one knows less -/
def Ent.le : Ent → Ent → Prop
  | _, .any => True
  | .nown, .nown => True
  | .val _, .nown => True
  | .val d, .val e => d = e
  | .own a, .own b => a = b
  | .val d, .eith e => d = e
  | .own a, .eith e => .lst a = e
  | .eith d, .eith e => d = e
  | _, _ => False
def Sub : LEnv → LEnv → Prop
  | [], [] => True
  | a :: L, b :: M => a.le b ∧ Sub L M
  | _, _ => False
theorem Ent.le_ok : ∀ {a b : Ent} {s : Sl}, a.le b → a.ok s → b.ok s := by
  intro a b s h g
  cases b <;> cases a <;> first | trivial | (cases h; done) | (simp only [Ent.le] at h; subst h; exact g) | (have g' : s = _ := g; subst g'; rfl) | skip
  · simp only [Ent.le] at h; subst h; exact .inl g
  · simp only [Ent.le] at h; subst h; exact .inr ⟨_, g, rfl⟩
theorem Sub.has : ∀ {L M : LEnv} {ρ : Env}, Sub L M → Has L ρ → Has M ρ
  | [], [], [], _, _ => trivial
  | _ :: _, _ :: _, _ :: _, h, g => ⟨Ent.le_ok h.1 g.1, Sub.has h.2 g.2⟩
theorem Ent.le_refl : ∀ a : Ent, a.le a
  | .any => trivial
  | .nown => trivial
  | .val _ => rfl
  | .own _ => rfl
  | .eith _ => rfl
theorem Sub.refl : ∀ L : LEnv, Sub L L
  | [] => trivial
  | a :: L => ⟨a.le_refl, Sub.refl L⟩
/-! ### runs and what they compute -/
def SimG {α β : Type} (L : LEnv) (m : M α) (x : X β) (emb : β → α → Env → Prop) : Prop := ∀ ρ st, Has L ρ → match x st with
  | .ok b st' => ∃ a ρ', m ρ st = .ok a ρ' st' ∧ emb b a ρ'
  | .exc d st' => ∃ ρ', m ρ st = .exc d ρ' st' ∧ ρ'.length = L.length
  | .bad => True
abbrev embM {α : Type} (L' : LEnv) : α → α → Env → Prop := fun b a ρ' => a = b ∧ Has L' ρ'
abbrev embC (L' : LEnv) : List D → Cell → Env → Prop := fun b a ρ' => a = .lst b ∧ Has L' ρ'
/-- a term's run -/
abbrev SimM {α : Type} (L : LEnv) (m : M α) (x : X α) (L' : LEnv) : Prop := SimG L m x (embM L')
abbrev SimF (G : Gm) (L : LEnv) (f : IF) (x : X (List D)) : Prop := SimG L (evF G f) x (embC L)
def FRef (F : Fn) (ds : List D) (x : X D) : Prop := ∀ st, match x st with
  | .ok d st' => F ds st = .ok d st'
  | .exc e st' => F ds st = .exc e st'
  | .bad => True
def Atom (G : Gm) (L : LEnv) (e : IE) (d : D) : Prop := ∀ ρ st, Has L ρ → ∃ ρ', evE G e ρ st = .ok d ρ' st ∧ Has L ρ'
section
variable {G : Gm} {L L' L1 L2 : LEnv} {α β γ : Type}
theorem a_lit {d : D} : Atom G L (.lit d) d := fun ρ _ h => ⟨ρ, rfl, h⟩
theorem a_val {i : Nat} {d : D} (h : lk L i = some (.val d)) : Atom G L (.var i) d := fun ρ st g => by
  obtain ⟨s, h1, h2⟩ := g.get h
  have h2 : s = .val d := h2
  subst h2
  refine ⟨ρ, ?_, g⟩
  show getV i ρ st = _
  unfold getV; rw [h1]
theorem Has.set_same : ∀ {L : LEnv} {ρ : Env} {i : Nat} {e : Ent} {s : Sl}, Has L ρ → lk L i = some e → e.ok s → Has L (ρ.set i s)
  | [], [], _, _, _, _, _, _ => trivial
  | _ :: _, _ :: _, 0, _, _, h, g, k => by cases g; exact ⟨k, h.2⟩
  | _ :: _, _ :: _, i + 1, _, _, h, g, k => ⟨h.1, Has.set_same (i := i) h.2 g k⟩
theorem a_eith {i : Nat} {d : D} (h : lk L i = some (.eith d)) : Atom G L (.var i) d := fun ρ st g => by
  obtain ⟨s, h1, h2⟩ := g.get h
  rcases h2 with rfl | ⟨c, rfl, rfl⟩
  · refine ⟨ρ, ?_, g⟩
    show getV i ρ st = _
    unfold getV; rw [h1]
  · refine ⟨ρ.set i (.val c.toD), ?_, g.set_same h (.inl rfl)⟩
    show getV i ρ st = _
    unfold getV; rw [h1]
theorem a_con {i : Nat} {d : D} (h : G.cs[i]? = some d) : Atom G L (.con i) d := fun ρ st g => by
  refine ⟨ρ, ?_, g⟩
  show opt G.cs[i]? ρ st = _
  rw [h]; rfl
theorem a_dic0 : Atom G L .dic0 (.dct []) := fun ρ _ h => ⟨ρ, rfl, h⟩
theorem e_atom {e : IE} {d : D} (h : Atom G L e d) : SimM L (evE G e) (X.pure d) L := fun ρ st g => by
  obtain ⟨ρ1, h1, g1⟩ := h ρ st g
  exact ⟨d, ρ1, h1, rfl, g1⟩
/-! binding -/
theorem sl_length : ∀ (L : LEnv) (i : Nat) (e : Ent), (sl L i e).length = L.length
  | [], _, _ => rfl
  | _ :: _, 0, _ => rfl
  | _ :: L, i + 1, e => congrArg (· + 1) (sl_length L i e)
variable {emb : γ → β → Env → Prop}
theorem b_atom {e : IE} {d : D} {f : D → M β} {x : X γ} (h : Atom G L e d) (p : SimG L (f d) x emb) : SimG L (bind (evE G e) f) x emb := fun ρ st g => by
  obtain ⟨ρ1, h1, g1⟩ := h ρ st g
  rw [show bind (evE G e) f ρ st = f d ρ1 st from mBind h1]
  exact p ρ1 st g1
theorem b_bind {m : M α} {f : α → M β} {A : X α} {y : α → X γ} (h : SimM L m A L1) (p : ∀ a, SimG L1 (f a) (y a) emb) (hl : L1.length = L.length := by rfl) : SimG L (bind m f) (X.bind A y) emb := fun ρ st g => by
  have h1 := h ρ st g
  unfold X.bind
  cases hx : A st with
  | ok a st' =>
    rw [hx] at h1
    obtain ⟨a, ρ1, e1, rfl, g1⟩ := h1
    have h2 := p a ρ1 st' g1
    rw [show bind m f ρ st = f a ρ1 st' from mBind e1]
    rw [hl] at h2
    exact h2
  | exc d st' =>
    rw [hx] at h1
    obtain ⟨ρ1, e1, g1⟩ := h1
    refine ⟨ρ1, ?_, g1⟩
    unfold bind; rw [e1]
  | bad => trivial
theorem mbind_assoc {m : M α} {f : α → M β} {g : β → M γ} : bind (bind m f) g = bind m fun a => bind (f a) g := by
  funext ρ st
  unfold bind
  cases m ρ st <;> rfl
theorem args_eq {e : IE} {r : IEs} {f : List D → M β} : bind (evEs G (.cons e r)) f = bind (evE G e) fun d => bind (evEs G r) fun ds => f (d :: ds) := by
  show bind (bind (evE G e) fun d => bind (evEs G r) fun ds => ret (d :: ds)) f = _
  rw [mbind_assoc]
  congr 1
  funext d
  rw [mbind_assoc]
  rfl
theorem args_nil {f : List D → M β} {x : X γ} (p : SimG L (f []) x emb) : SimG L (bind (evEs G .nil) f) x emb := p
theorem args_atom {e : IE} {r : IEs} {d : D} {f : List D → M β} {x : X γ} (h : Atom G L e d) (p : SimG L (bind (evEs G r) fun ds => f (d :: ds)) x emb) : SimG L (bind (evEs G (.cons e r)) f) x emb := by
  rw [args_eq]
  exact b_atom h p
theorem args_cons {e : IE} {r : IEs} {A : X D} {f : List D → M β} {y : D → X γ} (h : SimM L (evE G e) A L) (p : ∀ d, SimG L (bind (evEs G r) fun ds => f (d :: ds)) (y d) emb) : SimG L (bind (evEs G (.cons e r)) f) (X.bind A y) emb := by
  rw [args_eq]
  exact b_bind h p rfl
/-! items, some of them starred -/
theorem sst_nil {f : List D → M β} {x : X γ} (p : SimG L (f []) x emb) : SimG L (bind (evSt G .nil) f) x emb := p
theorem sst_eq {e : IE} {r : ISt} {f : List D → M β} : bind (evSt G (.cons e r)) f = bind (evE G e) fun d => bind (evSt G r) fun ds => f (d :: ds) := by
  show bind (bind (evE G e) fun d => bind (evSt G r) fun ds => ret (d :: ds)) f = _
  rw [mbind_assoc]
  congr 1; funext d
  rw [mbind_assoc]
  rfl
theorem sst_atom {e : IE} {r : ISt} {d : D} {f : List D → M β} {x : X γ} (h : Atom G L e d) (p : SimG L (bind (evSt G r) fun ds => f (d :: ds)) x emb) : SimG L (bind (evSt G (.cons e r)) f) x emb := by
  rw [sst_eq]
  exact b_atom h p
theorem sst_cons {e : IE} {r : ISt} {A : X D} {f : List D → M β} {y : D → X γ} (h : SimM L (evE G e) A L) (p : ∀ d, SimG L (bind (evSt G r) fun ds => f (d :: ds)) (y d) emb) : SimG L (bind (evSt G (.cons e r)) f) (X.bind A y) emb := by
  rw [sst_eq]
  exact b_bind h p rfl
theorem sst_seq {e : IE} {r : ISt} {f : List D → M β} : bind (evSt G (.star e r)) f = bind (evE G e) fun x => bind (bind (viewM x) fun x => opt (itemsD x)) fun xs => bind (evSt G r) fun ds => f (xs ++ ds) := by
  show bind (bind (evE G e) fun x => bind (viewM x) fun x => bind (opt (itemsD x)) fun xs => bind (evSt G r) fun ds => ret (xs ++ ds)) f = _
  rw [mbind_assoc]
  congr 1; funext x
  rw [mbind_assoc, mbind_assoc]
  congr 1; funext y
  rw [mbind_assoc]
  congr 1; funext xs
  rw [mbind_assoc]
  rfl
/-! the ends -/
theorem t_pure {a : α} : SimM L (ret a) (X.pure a) L := fun ρ _ g => ⟨a, ρ, rfl, rfl, g⟩
theorem t_opt {o : Option α} : SimM L (opt o) (X.opt o) L := fun ρ _ g => match o with
  | some a => ⟨a, ρ, rfl, rfl, g⟩
  | none => trivial
theorem b_ret {m : M α} {x : X α} {f : α → β} (h : SimM L m x L) : SimM L (bind m fun a => ret (f a)) (X.bind x fun a => X.pure (f a)) L := b_bind h (fun _ => t_pure)
theorem e_bin {op : Operator} {a b : IE} {x : X D} (p : SimM L (bind (evE G a) fun x => bind (evE G b) fun y => bind (viewM x) fun x => bind (viewM y) fun y => opt (opD op x y)) x L) : SimM L (evE G (.bin op a b)) x L := p
theorem t_view {d : D} {f : D → M β} {x : D → X γ} (p : ∀ v, SimG L (f v) (x v) emb) : SimG L (bind (viewM d) f) (fun st => x (view st d) st) emb := fun ρ st g => p (view st d) ρ st g
theorem t_bin {op : Operator} {x y : D} : SimM L (bind (viewM x) fun x => bind (viewM y) fun y => opt (opD op x y)) (X.bin op x y) L :=
  t_view fun _ => t_view fun _ => t_opt
theorem e_un {op : UnaryOp} {a : IE} {x : X D} (p : SimM L (bind (evE G a) fun x => opt (unD op x)) x L) : SimM L (evE G (.un op a)) x L := p
theorem t_un {op : UnaryOp} {x : D} : SimM L (opt (unD op x)) (X.un op x) L := t_opt
theorem e_one {a : IE} {x : X D} (p : SimM L (evE G a) x L) : SimM L (evE G (.one a)) x L := p
theorem e_tup {es : IEs} {x : X D} (p : SimM L (bind (evEs G es) fun ds => bind (fits ds) fun ds => ret (.tup ds)) x L) : SimM L (evE G (.tup es)) x L := p
theorem t_fits {ds : List D} : SimM L (fits ds) (X.fits ds) L := fun ρ st g => by
  unfold X.fits fits
  by_cases h : ds.length ≤ line
  · simp only [if_pos h]; exact ⟨_, ρ, rfl, rfl, g⟩
  · simp only [if_neg h]
theorem t_tup {ds : List D} : SimM L (bind (fits ds) fun ds => ret (D.tup ds)) (X.tup ds) L := b_ret t_fits
theorem t_items {x : D} : SimM L (bind (viewM x) fun x => opt (itemsD x)) (X.items x) L := fun ρ st g => t_opt (o := itemsD (view st x)) ρ st g
theorem sst_starA {e : IE} {r : ISt} {d : D} {f : List D → M β} {y : List D → X γ} (h : Atom G L e d) (p : ∀ xs, SimG L (bind (evSt G r) fun ds => f (xs ++ ds)) (y xs) emb) : SimG L (bind (evSt G (.star e r)) f) (X.bind (X.items d) y) emb := by
  rw [sst_seq]
  exact b_atom h (b_bind t_items p rfl)
theorem sst_starB {e : IE} {r : ISt} {A : X D} {f : List D → M β} {y : D → List D → X γ} (h : SimM L (evE G e) A L) (p : ∀ d xs, SimG L (bind (evSt G r) fun ds => f (xs ++ ds)) (y d xs) emb) : SimG L (bind (evSt G (.star e r)) f) (X.bind A fun d => X.bind (X.items d) fun xs => y d xs) emb := by
  rw [sst_seq]
  exact b_bind h (fun d => b_bind t_items (p d) rfl) rfl
theorem e_tupS {es : ISt} {x : X D} (p : SimM L (bind (evSt G es) fun ds => bind (fits ds) fun ds => ret (.tup ds)) x L) : SimM L (evE G (.tupS es)) x L := p
theorem e_frz {a : IE} {x : X D} (p : SimM L (bind (evE G a) fun x => frzM x) x L) : SimM L (evE G (.frz a)) x L := p
theorem t_frz {x : D} : SimM L (frzM x) (X.frz x) L := fun ρ st g => by
  unfold X.frz frzM
  cases x with
  | ref l =>
    simp only
    cases st[l]? with
    | none => trivial
    | some c => cases c <;> first | trivial | exact ⟨_, ρ, rfl, rfl, g⟩
  | _ => exact ⟨_, ρ, rfl, rfl, g⟩
theorem e_bits {a : IE} {x : X D} (p : SimM L (bind (evE G a) fun x => opt (bitsD x)) x L) : SimM L (evE G (.bits a)) x L := p
theorem t_bits {x : D} : SimM L (opt (bitsD x)) (X.bits x) L := t_opt
theorem e_bi {f : BI} {a : IE} {x : X D} (p : SimM L (bind (evE G a) fun x => bind (viewM x) fun x => opt (biD f x)) x L) : SimM L (evE G (.bi f a)) x L := p
theorem t_bi {f : BI} {x : D} : SimM L (bind (viewM x) fun x => opt (biD f x)) (X.bi f x) L := t_view fun _ => t_opt
theorem e_bi2 {f : BI2} {a b : IE} {x : X D} (p : SimM L (bind (evE G a) fun x => bind (evE G b) fun y => opt (bi2D f x y)) x L) : SimM L (evE G (.bi2 f a b)) x L := p
theorem t_bi2 {f : BI2} {x y : D} : SimM L (opt (bi2D f x y)) (X.bi2 f x y) L := t_opt
theorem e_sub {a b : IE} {x : X D} (p : SimM L (bind (evE G a) fun x => bind (evE G b) fun y => bind (viewM x) fun x => opt (subD x y)) x L) : SimM L (evE G (.sub a b)) x L := p
theorem t_sub {x y : D} : SimM L (bind (viewM x) fun x => opt (subD x y)) (X.sub x y) L := t_view fun _ => t_opt
theorem e_fld {a : IE} {f : Str} {x : X D} (p : SimM L (bind (evE G a) fun x => bind (viewM x) fun x => opt (fldD G.at_ x f)) x L) : SimM L (evE G (.fld a f)) x L := p
theorem t_fld {x : D} {f : Str} {ats : List (Str × Str)} : SimM L (bind (viewM x) fun x => opt (fldD ats x f)) (X.fld ats x f) L := t_view fun _ => t_opt
/-! slices -/
theorem o_none {f : Option Int → M β} {x : X γ} (p : SimG L (f none) x emb) : SimG L (bind (evO G .none) f) x emb := p
theorem o_int {i : Int} {f : Option Int → M β} {x : X γ} (p : SimG L (f (some i)) x emb) : SimG L (bind (evO G (.some (.lit (.int i)))) f) x emb := p
theorem t_toI {d : D} : SimM L (match d with | .int i => ret (some i) | _ => bad : M (Option Int)) (X.toI d) L := fun ρ st g => by
  cases d <;> first | trivial | exact ⟨_, ρ, rfl, rfl, g⟩
theorem o_atom {e : IE} {d : D} {f : Option Int → M β} {y : Option Int → X γ} (h : Atom G L e d) (p : ∀ o, SimG L (f o) (y o) emb) : SimG L (bind (evO G (.some e)) f) (X.bind (X.toI d) y) emb := by
  show SimG L (bind (bind (evE G e) fun d => match d with | .int i => ret (some i) | _ => bad) f) _ emb
  rw [mbind_assoc]
  exact b_atom h (b_bind t_toI p rfl)
theorem xbind_assoc {m : X α} {f : α → X β} {g : β → X γ} : X.bind (X.bind m f) g = X.bind m fun a => X.bind (f a) g := by
  funext st
  unfold X.bind
  cases m st <;> rfl
theorem o_bind {e : IE} {A : X D} {f : Option Int → M β} {y : Option Int → X γ} (h : SimM L (evE G e) A L) (p : ∀ o, SimG L (f o) (y o) emb) : SimG L (bind (evO G (.some e)) f) (X.bind (X.bind A X.toI) y) emb := by
  show SimG L (bind (bind (evE G e) fun d => match d with | .int i => ret (some i) | _ => bad) f) _ emb
  rw [mbind_assoc, xbind_assoc]
  exact b_bind h (fun d => b_bind t_toI p rfl) rfl
theorem e_slc {a : IE} {lo hi : IO} {x : X D} (p : SimM L (bind (evE G a) fun x => bind (evO G lo) fun l => bind (evO G hi) fun h => bind (viewM x) fun x => opt (slcD x l h)) x L) : SimM L (evE G (.slc a lo hi)) x L := p
theorem t_slc {x : D} {lo hi : Option Int} : SimM L (bind (viewM x) fun x => opt (slcD x lo hi)) (X.slc x lo hi) L := t_view fun _ => t_opt
/-! truth -/
theorem t_tru {x : D} : SimM L (bind (viewM x) fun x => opt (truD x)) (X.tru x) L := t_view fun _ => t_opt
theorem T_gen {e : IE} {x : X Bool} (p : SimM L (bind (evE G e) fun x => bind (viewM x) fun x => opt (truD x)) x L) : SimM L (evT G (.some e)) x L := p
theorem T_none : SimM L (evT G .none) (X.pure true) L := t_pure
/-- of a term that is a Bool -/
theorem T_bl {e : IE} {x : X Bool} (p : SimM L (evE G e) (X.bl x) L) : SimM L (evT G (.some e)) x L := fun ρ st g => by
  have h := p ρ st g
  unfold X.bl X.bind at h
  cases hx : x st with
  | ok a st' =>
    rw [hx] at h
    obtain ⟨_, ρ1, e1, rfl, g1⟩ := h
    refine ⟨_, ρ1, ?_, rfl, g1⟩
    exact xT e1 rfl
  | exc d st' =>
    rw [hx] at h
    obtain ⟨ρ1, e1, g1⟩ := h
    refine ⟨ρ1, ?_, g1⟩
    show bind (evE G e) _ ρ st = _
    unfold bind; rw [e1]
  | bad => trivial
theorem e_cmp {op : CmpOp} {a b : IE} {x : X D} (p : SimM L (bind (evE G a) fun x => bind (evE G b) fun y => bind (viewM x) fun x => bind (viewM y) fun y => bind (opt (cmpD op x y)) fun t => ret (.bl t)) x L) : SimM L (evE G (.cmp op a b)) x L := p
theorem t_cmp {op : CmpOp} {x y : D} : SimM L (bind (viewM x) fun x => bind (viewM y) fun y => bind (opt (cmpD op x y)) fun t => ret (D.bl t)) (X.bl (X.cmp op x y)) L :=
  t_view (x := fun v => X.bl (fun st => X.opt (cmpD op v (view st y)) st)) fun _ => t_view (x := fun v => X.bl (X.opt (cmpD op _ v))) fun _ => b_ret t_opt
theorem e_chain {op op' : CmpOp} {a b c : IE} {x : X D} (p : SimM L (bind (evE G a) fun x => bind (evE G b) fun y => bind (opt (cmpD op x y)) fun t => if t then bind (evE G c) fun z => bind (opt (cmpD op' y z)) fun t => ret (.bl t) else ret (.bl false)) x L) : SimM L (evE G (.chain op op' a b c)) x L := p
theorem t_chain {op op' : CmpOp} {x y : D} {c : IE} {C : X D} (h : SimM L (evE G c) C L) : SimM L (bind (opt (cmpD op x y)) fun t => if t then bind (evE G c) fun z => bind (opt (cmpD op' y z)) fun t => ret (.bl t) else ret (D.bl false)) (X.bl (X.chain op op' x y C)) L := by
  unfold X.bl X.chain
  rw [xbind_assoc]
  refine b_bind t_opt (fun t => ?_) rfl
  cases t with
  | true =>
    show SimM L (bind (evE G c) fun z => bind (opt (cmpD op' y z)) fun t => ret (D.bl t)) (X.bind (X.bind C fun z => X.opt (cmpD op' y z)) fun t => X.pure (D.bl t)) L
    rw [xbind_assoc]
    exact b_bind h (fun z => b_ret t_opt) rfl
  | false => exact t_pure
theorem e_isi {a : IE} {t : Ty} {x : X D} (p : SimM L (bind (evE G a) fun x => bind (viewM x) fun x => bind (opt (isiD x t)) fun b => ret (.bl b)) x L) : SimM L (evE G (.isi a t)) x L := p
theorem t_isi {x : D} {t : Ty} : SimM L (bind (viewM x) fun x => bind (opt (isiD x t)) fun b => ret (D.bl b)) (X.bl (X.isi x t)) L :=
  t_view (x := fun v => X.bl (X.opt (isiD v t))) fun _ => b_ret t_opt
theorem e_isc {a : IE} {c : Str} {x : X D} (p : SimM L (bind (evE G a) fun x => bind (viewM x) fun x => bind (opt (iscD G.kls G.sub x c)) fun b => ret (D.bl b)) x L) : SimM L (evE G (.isc a c)) x L := p
theorem t_isc {x : D} {c : Str} {kls : List Str} {sub : List (Str × Str)} : SimM L (bind (viewM x) fun x => bind (opt (iscD kls sub x c)) fun b => ret (D.bl b)) (X.bl (X.isc kls sub x c)) L :=
  t_view (x := fun v => X.bl (X.opt (iscD kls sub v c))) fun _ => b_ret t_opt
/-- not, of a test -/
theorem e_not {a : IE} {P : X Bool} (h : SimM L (evT G (.some a)) P L) : SimM L (evE G (.not a)) (X.bl (X.not P)) L := by
  have e : evE G (.not a) = bind (evT G (.some a)) fun b => ret (D.bl (!b)) := by
    show (bind (evE G a) fun x => bind (viewM x) fun x => bind (opt (truD x)) fun b => ret (D.bl (!b))) = bind (bind (evE G a) fun x => bind (viewM x) fun x => opt (truD x)) _
    rw [mbind_assoc]
    congr 1
  rw [e]
  show SimM L _ (X.bind (X.bind P fun t => X.pure (!t)) fun t => X.pure (D.bl t)) L
  rw [xbind_assoc]
  exact b_bind h (fun b => t_pure) rfl
theorem e_andV {a b : IE} {A B : X D} (h1 : SimM L (evE G a) A L) (h2 : SimM L (evE G b) B L) : SimM L (evE G (.and a b)) (X.andV A B) L := by
  refine b_bind (m := evE G a) (f := fun x => bind (viewM x) fun v => bind (opt (truD v)) fun t => if t then evE G b else ret x) h1 (fun x => ?_) rfl
  show SimM L (bind (viewM x) fun v => bind (opt (truD v)) fun t => if t then evE G b else ret x) (fun st => (X.bind (X.opt (truD (view st x))) fun t => match t with | true => B | false => X.pure x) st) L
  refine t_view (x := fun v => X.bind (X.opt (truD v)) fun t => match t with | true => B | false => X.pure x) fun v => b_bind t_opt (fun t => ?_) rfl
  cases t with
  | true => exact h2
  | false => exact t_pure
theorem e_orV {a b : IE} {A B : X D} (h1 : SimM L (evE G a) A L) (h2 : SimM L (evE G b) B L) : SimM L (evE G (.or a b)) (X.orV A B) L := by
  refine b_bind (m := evE G a) (f := fun x => bind (viewM x) fun v => bind (opt (truD v)) fun t => if t then ret x else evE G b) h1 (fun x => ?_) rfl
  show SimM L (bind (viewM x) fun v => bind (opt (truD v)) fun t => if t then ret x else evE G b) (fun st => (X.bind (X.opt (truD (view st x))) fun t => match t with | true => X.pure x | false => B) st) L
  refine t_view (x := fun v => X.bind (X.opt (truD v)) fun t => match t with | true => X.pure x | false => B) fun v => b_bind t_opt (fun t => ?_) rfl
  cases t with
  | true => exact t_pure
  | false => exact h2
theorem bl_iff {P : X Bool} {f g : X D} {y : D → X β} : X.bind (X.bl P) y = X.bind P fun t => y (.bl t) := by
  unfold X.bl
  rw [xbind_assoc]
  rfl
theorem andV_bl {P : X Bool} {B : X D} : X.andV (X.bl P) B = X.iff P B (X.pure (.bl false)) := by
  unfold X.andV X.bl X.iff
  rw [xbind_assoc]
  congr 1
  funext t st
  cases t <;> rfl
theorem orV_bl {P : X Bool} {B : X D} : X.orV (X.bl P) B = X.iff P (X.pure (.bl true)) B := by
  unfold X.orV X.bl X.iff
  rw [xbind_assoc]
  congr 1
  funext t st
  cases t <;> rfl
theorem e_andB {a b : IE} {P Q : X Bool} (h1 : SimM L (evE G a) (X.bl P) L) (h2 : SimM L (evE G b) (X.bl Q) L) : SimM L (evE G (.and a b)) (X.bl (X.and P Q)) L := by
  have h := e_andV h1 h2
  rw [andV_bl] at h
  have e : X.bl (X.and P Q) = X.iff P (X.bl Q) (X.pure (.bl false)) := by
    unfold X.bl X.and X.iff
    rw [xbind_assoc]
    congr 1
    funext t
    cases t <;> rfl
  rw [e]; exact h
theorem e_orB {a b : IE} {P Q : X Bool} (h1 : SimM L (evE G a) (X.bl P) L) (h2 : SimM L (evE G b) (X.bl Q) L) : SimM L (evE G (.or a b)) (X.bl (X.or P Q)) L := by
  have h := e_orV h1 h2
  rw [orV_bl] at h
  have e : X.bl (X.or P Q) = X.iff P (X.pure (.bl true)) (X.bl Q) := by
    unfold X.bl X.or X.iff
    rw [xbind_assoc]
    congr 1
    funext t
    cases t <;> rfl
  rw [e]; exact h
/-- and, or as tests of any terms -/
theorem T_and {a b : IE} {P Q : X Bool} (h1 : SimM L (evT G (.some a)) P L) (h2 : SimM L (evT G (.some b)) Q L) : SimM L (evT G (.some (.and a b))) (X.and P Q) L := fun ρ st g => by
  have q1 := h1 ρ st g
  have e1 : evT G (.some a) ρ st = (match evE G a ρ st with | .ok x ρ' st' => opt (truD (view st' x)) ρ' st' | .exc x ρ' st' => .exc x ρ' st' | .bad => .bad) := by
    show bind (evE G a) _ ρ st = _
    unfold bind viewM
    cases evE G a ρ st <;> rfl
  have e2 : evT G (.some (.and a b)) ρ st = (match evE G a ρ st with | .ok x ρ' st' => (bind (fun ρ st => (opt (truD (view st' x)) ρ st : R Bool)) fun t => if t then evT G (.some b) else ret false) ρ' st' | .exc x ρ' st' => .exc x ρ' st' | .bad => .bad) := by
    show bind (evE G (.and a b)) _ ρ st = _
    have e3 : evE G (.and a b) ρ st = (match evE G a ρ st with | .ok x ρ' st' => (bind (fun ρ st => (opt (truD (view st' x)) ρ st : R Bool)) fun t => if t then evE G b else ret x) ρ' st' | .exc x ρ' st' => .exc x ρ' st' | .bad => .bad) := by
      show bind (evE G a) _ ρ st = _
      unfold bind viewM
      cases evE G a ρ st <;> rfl
    unfold bind
    rw [e3]
    cases evE G a ρ st with
    | ok x ρ' st' =>
      cases ht : truD (view st' x) with
      | none => simp only [bind, opt, ht, bad]
      | some t =>
        cases t with
        | true => simp only [bind, opt, ht, ret]; rfl
        | false => simp [bind, opt, ht, ret, viewM]
    | exc x ρ' st' => rfl
    | bad => rfl
  rw [e1] at q1
  rw [e2]
  unfold X.and X.iff X.bind
  cases hx : P st with
  | ok t st' =>
    rw [hx] at q1
    obtain ⟨_, ρ1, q2, rfl, g1⟩ := q1
    rename_i t
    cases he : evE G a ρ st with
    | ok x ρ' st2 =>
      rw [he] at q2
      simp only at q2
      unfold bind
      simp only [q2]
      cases t with
      | true => exact h2 ρ1 st' g1
      | false => exact ⟨_, ρ1, rfl, rfl, g1⟩
    | exc x ρ' st2 => rw [he] at q2; cases q2
    | bad => rw [he] at q2; cases q2
  | exc d st' =>
    rw [hx] at q1
    obtain ⟨ρ1, q2, g1⟩ := q1
    cases he : evE G a ρ st with
    | ok x ρ' st2 =>
      rw [he] at q2
      simp only at q2
      refine ⟨ρ1, ?_, g1⟩
      unfold bind
      simp only [q2]
    | exc x ρ' st2 => rw [he] at q2; exact ⟨ρ1, q2, g1⟩
    | bad => rw [he] at q2; cases q2
  | bad => trivial
theorem T_or {a b : IE} {P Q : X Bool} (h1 : SimM L (evT G (.some a)) P L) (h2 : SimM L (evT G (.some b)) Q L) : SimM L (evT G (.some (.or a b))) (X.or P Q) L := fun ρ st g => by
  have q1 := h1 ρ st g
  have e1 : evT G (.some a) ρ st = (match evE G a ρ st with | .ok x ρ' st' => opt (truD (view st' x)) ρ' st' | .exc x ρ' st' => .exc x ρ' st' | .bad => .bad) := by
    show bind (evE G a) _ ρ st = _
    unfold bind viewM
    cases evE G a ρ st <;> rfl
  have e2 : evT G (.some (.or a b)) ρ st = (match evE G a ρ st with | .ok x ρ' st' => (bind (fun ρ st => (opt (truD (view st' x)) ρ st : R Bool)) fun t => if t then ret true else evT G (.some b)) ρ' st' | .exc x ρ' st' => .exc x ρ' st' | .bad => .bad) := by
    show bind (evE G (.or a b)) _ ρ st = _
    have e3 : evE G (.or a b) ρ st = (match evE G a ρ st with | .ok x ρ' st' => (bind (fun ρ st => (opt (truD (view st' x)) ρ st : R Bool)) fun t => if t then ret x else evE G b) ρ' st' | .exc x ρ' st' => .exc x ρ' st' | .bad => .bad) := by
      show bind (evE G a) _ ρ st = _
      unfold bind viewM
      cases evE G a ρ st <;> rfl
    unfold bind
    rw [e3]
    cases evE G a ρ st with
    | ok x ρ' st' =>
      cases ht : truD (view st' x) with
      | none => simp only [bind, opt, ht, bad]
      | some t =>
        cases t with
        | false => simp only [bind, opt, ht, ret]; rfl
        | true => simp [bind, opt, ht, ret, viewM]
    | exc x ρ' st' => rfl
    | bad => rfl
  rw [e1] at q1
  rw [e2]
  unfold X.or X.iff X.bind
  cases hx : P st with
  | ok t st' =>
    rw [hx] at q1
    obtain ⟨_, ρ1, q2, rfl, g1⟩ := q1
    rename_i t
    cases he : evE G a ρ st with
    | ok x ρ' st2 =>
      rw [he] at q2
      simp only at q2
      unfold bind
      simp only [q2]
      cases t with
      | false => exact h2 ρ1 st' g1
      | true => exact ⟨_, ρ1, rfl, rfl, g1⟩
    | exc x ρ' st2 => rw [he] at q2; cases q2
    | bad => rw [he] at q2; cases q2
  | exc d st' =>
    rw [hx] at q1
    obtain ⟨ρ1, q2, g1⟩ := q1
    cases he : evE G a ρ st with
    | ok x ρ' st2 =>
      rw [he] at q2
      simp only at q2
      refine ⟨ρ1, ?_, g1⟩
      unfold bind
      simp only [q2]
    | exc x ρ' st2 => rw [he] at q2; exact ⟨ρ1, q2, g1⟩
    | bad => rw [he] at q2; cases q2
  | bad => trivial
theorem T_one {a : IE} {P : X Bool} (h : SimM L (evT G (.some a)) P L) : SimM L (evT G (.some (.one a))) P L := h
theorem b_iff {m : M Bool} {f g : M β} {C : X Bool} {A B : X γ} (h : SimM L m C L) (h1 : SimG L f A emb) (h2 : SimG L g B emb) : SimG L (bind m fun t => if t then f else g) (X.iff C A B) emb := by
  refine b_bind h (fun t => ?_) rfl
  cases t with
  | true => exact h1
  | false => exact h2
theorem e_ite {c a b : IE} {C : X Bool} {A B : X D} (h : SimM L (evT G (.some c)) C L) (h1 : SimM L (evE G a) A L) (h2 : SimM L (evE G b) B L) : SimM L (evE G (.ite c a b)) (X.iff C A B) L := by
  have e : evE G (.ite c a b) = bind (evT G (.some c)) fun t => if t then evE G a else evE G b := by
    show (bind (evE G c) fun x => bind (viewM x) fun x => bind (opt (truD x)) fun t => if t then evE G a else evE G b) = bind (bind (evE G c) fun x => bind (viewM x) fun x => opt (truD x)) _
    rw [mbind_assoc]
    congr 1
  rw [e]
  exact b_iff h h1 h2
theorem T_ite {c a b : IE} {C A B : X Bool} (h : SimM L (evT G (.some c)) C L) (h1 : SimM L (evT G (.some a)) A L) (h2 : SimM L (evT G (.some b)) B L) : SimM L (evT G (.some (.ite c a b))) (X.iff C A B) L := by
  have e : evT G (.some (.ite c a b)) = bind (evT G (.some c)) fun t => if t then evT G (.some a) else evT G (.some b) := by
    have e : evE G (.ite c a b) = bind (evT G (.some c)) fun t => if t then evE G a else evE G b := by
      show (bind (evE G c) fun x => bind (viewM x) fun x => bind (opt (truD x)) fun t => if t then evE G a else evE G b) = bind (bind (evE G c) fun x => bind (viewM x) fun x => opt (truD x)) _
      rw [mbind_assoc]
      congr 1
    show (bind (evE G (.ite c a b)) fun x => bind (viewM x) fun x => opt (truD x)) = _
    rw [e, mbind_assoc]
    congr 1
    funext t
    cases t <;> rfl
  rw [e]
  exact b_iff h h1 h2
end
end Z

/-! ZU: new lists, calls, statements, loops, defs: what they compute. -/
namespace Z
open PySem
section
variable {G : Gm} {L L' L1 L2 : LEnv} {α β γ : Type} {emb : γ → β → Env → Prop}
theorem Has.mk : ∀ {L : LEnv} {ρ : Env}, ρ.length = L.length → (∀ i e, lk L i = some e → ∃ s, ρ[i]? = some s ∧ e.ok s) → Has L ρ
  | [], [], _, _ => trivial
  | e :: L, s :: ρ, h, g => by
    refine ⟨?_, Has.mk (Nat.succ.inj h) fun i e h => ?_⟩
    · obtain ⟨s', h1, h2⟩ := g 0 e rfl
      cases h1
      exact h2
    · obtain ⟨s', h1, h2⟩ := g (i + 1) e h
      exact ⟨s', by simpa using h1, h2⟩
theorem lk_sl_ne : ∀ {L : LEnv} {i j : Nat} {e : Ent}, i ≠ j → lk (sl L i e) j = lk L j
  | [], _, _, _, _ => rfl
  | _ :: _, 0, 0, _, h => absurd rfl h
  | _ :: _, 0, _ + 1, _, _ => rfl
  | _ :: _, _ + 1, 0, _, _ => rfl
  | _ :: L, i + 1, j + 1, _, h => lk_sl_ne (L := L) fun e => h (congrArg (· + 1) e)
def wipeL (L : LEnv) : List Nat → LEnv
  | [] => L
  | v :: vs => sl (wipeL L vs) v .nown
theorem Has.wipe {L : LEnv} {ρ : Env} (h : Has L ρ) : ∀ vs, Has (wipeL L vs) (wipe ρ vs)
  | [] => h
  | v :: vs => (Has.wipe h vs).set rfl
theorem wipeL_length (L : LEnv) : ∀ vs, (wipeL L vs).length = L.length
  | [] => rfl
  | v :: vs => (sl_length _ _ _).trans (wipeL_length L vs)
def nownB (L : LEnv) (vs : List Nat) : Bool := vs.all fun v => match lk L v with
  | some .nown => true
  | some (.val _) => true
  | _ => false
theorem nown_any {vs : List Nat} (hv : nownB L vs = true) {ρ : Env} (h : Has L ρ) : (vs.any fun i => isOwn ρ[i]?) = false := by
  rw [List.any_eq_false]
  intro v hm
  have := List.all_eq_true.mp hv v hm
  cases hl : lk L v with
  | none => rw [hl] at this; cases this
  | some e =>
    rw [hl] at this
    obtain ⟨s, h1, h2⟩ := h.get hl
    rw [h1]
    cases e with
    | nown => have h2 : isOwn (some s) = false := h2; rw [h2]; exact Bool.false_ne_true
    | val d => have h2 : s = .val d := h2; subst h2; exact Bool.false_ne_true
    | _ => cases this
theorem has_restore {vs : List Nat} {ρ ρ' : Env} (h : Has L ρ) (h' : Has (wipeL L vs) (wipe ρ' vs)) : Has L (restore ρ ρ' vs) := by
  have hl : ρ.length = L.length := h.length
  have hl' : ρ'.length = L.length := by
    have := h'.length
    rw [mwipe_length, wipeL_length] at this
    exact this
  have g : ∀ (us : List Nat) (i : Nat), (restore ρ ρ' us).length = L.length ∧ (i < L.length → i ∈ us → (restore ρ ρ' us)[i]? = ρ[i]?) ∧ (i ∉ us → (restore ρ ρ' us)[i]? = ρ'[i]?) := by
    intro us i
    induction us with
    | nil => exact ⟨hl', fun _ h => (by cases h), fun _ => rfl⟩
    | cons v us ih =>
      obtain ⟨a1, a2, a3⟩ := ih
      refine ⟨by unfold restore; rw [List.length_set]; exact a1, fun hi hm => ?_, fun hm => ?_⟩
      · unfold restore
        by_cases e : v = i
        · subst e
          rw [List.getElem?_set_self (by rw [a1]; exact hi), List.getElem?_eq_getElem (by rw [hl]; exact hi)]; rfl
        · rw [List.getElem?_set_ne e]
          rcases List.mem_cons.mp hm with z | z
          · exact absurd z.symm e
          · exact a2 hi z
      · simp only [List.mem_cons, not_or] at hm
        unfold restore
        rw [List.getElem?_set_ne (fun z => hm.1 z.symm)]
        exact a3 hm.2
  have w : ∀ (us : List Nat) (i : Nat) (ρ : Env), i ∉ us → (Z.wipe ρ us)[i]? = ρ[i]? := by
    intro us i ρ
    induction us with
    | nil => intro _; rfl
    | cons v us ih =>
      intro hm
      simp only [List.mem_cons, not_or] at hm
      unfold Z.wipe
      rw [List.getElem?_set_ne (fun z => hm.1 z.symm)]
      exact ih hm.2
  have wl : ∀ (us : List Nat) (i : Nat), i ∉ us → lk (wipeL L us) i = lk L i := by
    intro us i
    induction us with
    | nil => intro _; rfl
    | cons v us ih =>
      intro hm
      simp only [List.mem_cons, not_or] at hm
      unfold wipeL
      rw [lk_sl_ne (fun z => hm.1 z.symm)]
      exact ih hm.2
  refine Has.mk (g vs 0).1 fun i e he => ?_
  have hi : i < L.length := by rw [← hl]; exact h.lt he
  obtain ⟨_, a2, a3⟩ := g vs i
  by_cases hm : i ∈ vs
  · rw [a2 hi hm]; exact h.get he
  · rw [a3 hm, ← w vs i ρ' hm]
    exact h'.get (by rw [wl vs i hm]; exact he)
/-! ### targets -/
theorem p_nm {i : Nat} {d : D} {k : M β} {x : X γ} {e : Ent} (h : lk L i = some e) (p : SimG (sl L i (.val d)) k x emb) : SimG L (bind (bindT (.nm i) d) fun _ => k) x emb := fun ρ st g => by
  have e1 : bindT (.nm i) d ρ st = .ok () (ρ.set i (.val d)) st := by
    show setSl i (.val d) ρ st = _
    unfold setSl
    rw [if_pos (g.lt h)]
  rw [show bind (bindT (.nm i) d) (fun _ => k) ρ st = k (ρ.set i (.val d)) st from mBind e1]
  have := p _ st (g.set (i := i) (e := .val d) (s := .val d) rfl)
  rw [sl_length] at this
  exact this
theorem tp_eq {ts : Tgs} {d : D} {k : M β} : bind (bindT (.tp ts) d) (fun _ => k) = bind (viewM d) fun d => bind (opt (itemsD d)) fun ds => bind (bindTs ts ds) fun _ => k := by
  show bind (bind (viewM d) fun d => bind (opt (itemsD d)) fun ds => bindTs ts ds) _ = _
  rw [mbind_assoc]
  congr 1
  funext d
  rw [mbind_assoc]
theorem p_tp2 {t1 t2 : Tg} {d : D} {k : M β} {y : D × D → X γ} (p : ∀ a b, SimG L (bind (bindT t1 a) fun _ => bind (bindT t2 b) fun _ => k) (y (a, b)) emb) : SimG L (bind (bindT (.tp (.cons t1 (.cons t2 .nil))) d) fun _ => k) (X.bind (X.items2 d) y) emb := by
  have ex : X.bind (X.items2 d) y = fun st => (match itemsD (view st d) with | some [a, b] => y (a, b) | _ => X.bad) st := by
    funext st
    unfold X.bind X.items2
    generalize itemsD (view st d) = o
    rcases o with _ | _ | ⟨a, _ | ⟨b, _ | ⟨c, r⟩⟩⟩ <;> rfl
  rw [ex, tp_eq]
  refine t_view (x := fun v => match itemsD v with | some [a, b] => y (a, b) | _ => X.bad) fun v => ?_
  generalize itemsD v = o
  rcases o with _ | _ | ⟨a, _ | ⟨b, _ | ⟨c, r⟩⟩⟩ <;> first | exact fun _ _ _ => trivial | skip
  have e2 : bind (opt (some [a, b])) (fun ds => bind (bindTs (.cons t1 (.cons t2 .nil)) ds) fun _ => k) = bind (bindT t1 a) fun _ => bind (bindT t2 b) fun _ => k := by
    show bind (bind (bindT t1 a) fun _ => bind (bindT t2 b) fun _ => ret ()) (fun _ => k) = _
    rw [mbind_assoc]
    congr 1
    funext _
    rw [mbind_assoc]
    rfl
  rw [e2]
  exact p a b
theorem p_tp3 {t1 t2 t3 : Tg} {d : D} {k : M β} {y : D × D × D → X γ} (p : ∀ a b c, SimG L (bind (bindT t1 a) fun _ => bind (bindT t2 b) fun _ => bind (bindT t3 c) fun _ => k) (y (a, b, c)) emb) : SimG L (bind (bindT (.tp (.cons t1 (.cons t2 (.cons t3 .nil)))) d) fun _ => k) (X.bind (X.items3 d) y) emb := by
  have ex : X.bind (X.items3 d) y = fun st => (match itemsD (view st d) with | some [a, b, c] => y (a, b, c) | _ => X.bad) st := by
    funext st
    unfold X.bind X.items3
    generalize itemsD (view st d) = o
    rcases o with _ | _ | ⟨a, _ | ⟨b, _ | ⟨c, _ | ⟨e, r⟩⟩⟩⟩ <;> rfl
  rw [ex, tp_eq]
  refine t_view (x := fun v => match itemsD v with | some [a, b, c] => y (a, b, c) | _ => X.bad) fun v => ?_
  generalize itemsD v = o
  rcases o with _ | _ | ⟨a, _ | ⟨b, _ | ⟨c, _ | ⟨e, r⟩⟩⟩⟩ <;> first | exact fun _ _ _ => trivial | skip
  have e2 : bind (opt (some [a, b, c])) (fun ds => bind (bindTs (.cons t1 (.cons t2 (.cons t3 .nil))) ds) fun _ => k) = bind (bindT t1 a) fun _ => bind (bindT t2 b) fun _ => bind (bindT t3 c) fun _ => k := by
    show bind (bind (bindT t1 a) fun _ => bind (bindT t2 b) fun _ => bind (bindT t3 c) fun _ => ret ()) (fun _ => k) = _
    rw [mbind_assoc]
    congr 1
    funext _
    rw [mbind_assoc]
    congr 1
    funext _
    rw [mbind_assoc]
    rfl
  rw [e2]
  exact p a b c
theorem p_tp4 {t1 t2 t3 t4 : Tg} {d : D} {k : M β} {y : D × D × D × D → X γ} (p : ∀ a b c e, SimG L (bind (bindT t1 a) fun _ => bind (bindT t2 b) fun _ => bind (bindT t3 c) fun _ => bind (bindT t4 e) fun _ => k) (y (a, b, c, e)) emb) : SimG L (bind (bindT (.tp (.cons t1 (.cons t2 (.cons t3 (.cons t4 .nil))))) d) fun _ => k) (X.bind (X.items4 d) y) emb := by
  have ex : X.bind (X.items4 d) y = fun st => (match itemsD (view st d) with | some [a, b, c, e] => y (a, b, c, e) | _ => X.bad) st := by
    funext st
    unfold X.bind X.items4
    generalize itemsD (view st d) = o
    rcases o with _ | _ | ⟨a, _ | ⟨b, _ | ⟨c, _ | ⟨e, _ | ⟨f, r⟩⟩⟩⟩⟩ <;> rfl
  rw [ex, tp_eq]
  refine t_view (x := fun v => match itemsD v with | some [a, b, c, e] => y (a, b, c, e) | _ => X.bad) fun v => ?_
  generalize itemsD v = o
  rcases o with _ | _ | ⟨a, _ | ⟨b, _ | ⟨c, _ | ⟨e, _ | ⟨f, r⟩⟩⟩⟩⟩ <;> first | exact fun _ _ _ => trivial | skip
  have e2 : bind (opt (some [a, b, c, e])) (fun ds => bind (bindTs (.cons t1 (.cons t2 (.cons t3 (.cons t4 .nil)))) ds) fun _ => k) = bind (bindT t1 a) fun _ => bind (bindT t2 b) fun _ => bind (bindT t3 c) fun _ => bind (bindT t4 e) fun _ => k := by
    show bind (bind (bindT t1 a) fun _ => bind (bindT t2 b) fun _ => bind (bindT t3 c) fun _ => bind (bindT t4 e) fun _ => ret ()) (fun _ => k) = _
    rw [mbind_assoc]
    congr 1
    funext _
    rw [mbind_assoc]
    congr 1
    funext _
    rw [mbind_assoc]
    congr 1
    funext _
    rw [mbind_assoc]
    rfl
  rw [e2]
  exact p a b c e
/-! ### new lists -/
theorem f_disp {es : IEs} {x : X (List D)} (p : SimG L (bind (evEs G es) fun ds => bind (fits ds) fun ds => ret (Cell.lst ds)) x (embC L)) : SimF G L (.disp es) x := p
theorem xb_pure {x : X α} : X.bind x X.pure = x := by
  funext st
  unfold X.bind
  cases x st <;> rfl
theorem t_disp {ds : List D} : SimG L (bind (fits ds) fun ds => ret (Cell.lst ds)) (X.fits ds) (embC L) := by
  rw [← xb_pure (x := X.fits ds)]
  exact b_bind t_fits (fun ds ρ st g => ⟨_, ρ, rfl, rfl, g⟩) rfl
theorem lc_go {elt : IE} {ifs : IO} {C : X Bool} {E : X D} (h1 : SimM L (evT G ifs) C L) (h2 : SimM L (evE G elt) E L) : SimM L (bind (evT G ifs) fun b => if b then bind (evE G elt) fun d => ret [d] else ret []) (X.oneIf C E) L :=
  b_iff h1 (b_ret h2) t_pure
theorem lc_one {elt : IE} {E : X D} (h2 : SimM L (evE G elt) E L) : SimM L (bind (evT G .none) fun b => if b then bind (evE G elt) fun d => ret [d] else ret []) (X.one E) L := b_ret h2
theorem f_lc {elt : IE} {t : Tg} {it : II} {ifs : IO} {vs : List Nat} {I : X (List D)} {go : D → X (List D)} (L2 : D → LEnv) (h : SimM L (evI G it) I L) (hv : nownB L vs = true) (hw : ∀ x, wipeL (L2 x) vs = wipeL L vs)
    (p : ∀ x, SimG (wipeL L vs) (bind (bindT t x) fun _ => bind (evT G ifs) fun b => if b then bind (evE G elt) fun d => ret [d] else ret []) (go x) (fun b a ρ' => a = b ∧ Has (L2 x) ρ')) : SimF G L (.lc elt t it ifs vs) (X.bind I fun xs => X.lc go xs) := by
  refine b_bind (m := evI G it) (f := fun xs => bind (block vs (turns (fun x => bind (wipeM vs) fun _ => bind (bindT t x) fun _ => bind (evT G ifs) fun b => if b then bind (evE G elt) fun d => ret [d] else ret []) xs)) fun ds => bind (fits ds) fun ds => ret (Cell.lst ds)) h (fun xs => ?_) rfl
  refine b_bind (A := X.calm (X.turns go xs)) ?_ (fun ds => t_disp) rfl
  intro ρ st g
  unfold X.calm block
  rw [nown_any hv g, if_neg Bool.false_ne_true]
  have key : ∀ (ys : List D) (ρ' : Env) (st : Store), Has (wipeL L vs) (wipe ρ' vs) → match X.turns go ys st with
      | .ok b st' => ∃ ρ'', turns (fun x => bind (wipeM vs) fun _ => bind (bindT t x) fun _ => bind (evT G ifs) fun b => if b then bind (evE G elt) fun d => ret [d] else ret []) ys ρ' st = .ok b ρ'' st' ∧ Has (wipeL L vs) (wipe ρ'' vs)
      | _ => True := by
    intro ys
    induction ys with
    | nil => intro ρ' st g; exact ⟨ρ', rfl, g⟩
    | cons y ys ih =>
      intro ρ' st g
      show match (X.bind (go y) fun a => X.bind (X.turns go ys) fun b => X.pure (a ++ b)) st with | .ok b st' => _ | _ => True
      have h1 := p y _ st g
      unfold X.bind
      cases hx : go y st with
      | ok a st1 =>
        rw [hx] at h1
        obtain ⟨a', ρ1, e1, rfl, g1⟩ := h1
        have g2 : Has (wipeL L vs) (wipe ρ1 vs) := by rw [← hw y]; exact g1.wipe vs
        have h2 := ih ρ1 st1 g2
        simp only
        cases hy : X.turns go ys st1 with
        | ok b st2 =>
          rw [hy] at h2
          obtain ⟨ρ2, e2, g3⟩ := h2
          exact ⟨ρ2, (mBind (m := bind (wipeM vs) fun _ => bind (bindT t y) fun _ => bind (evT G ifs) fun b => if b then bind (evE G elt) fun d => ret [d] else ret []) (show (bind (wipeM vs) fun _ => bind (bindT t y) fun _ => bind (evT G ifs) fun b => if b then bind (evE G elt) fun d => ret [d] else ret []) ρ' st = _ from e1)).trans (mBind e2), g3⟩
        | exc => trivial
        | bad => trivial
      | exc => trivial
      | bad => trivial
  have h1 := key xs ρ st (g.wipe vs)
  cases hx : X.turns go xs st with
  | ok b st' =>
    rw [hx] at h1
    obtain ⟨ρ2, e2, g3⟩ := h1
    exact ⟨b, restore ρ ρ2 vs, by rw [e2], rfl, has_restore g g3⟩
  | exc => trivial
  | bad => trivial
theorem e_mkP {f : IF} {A : X (List D)} (h : SimF G L f A) : SimM L (evE G (.mk .pure f)) (X.mkP A) L := fun ρ st g => by
  have h1 := h ρ st g
  unfold X.mkP X.bind
  cases hx : A st with
  | ok a st' =>
    rw [hx] at h1
    obtain ⟨c, ρ1, e1, rfl, g1⟩ := h1
    exact ⟨_, ρ1, mBind e1, rfl, g1⟩
  | exc d st' =>
    rw [hx] at h1
    obtain ⟨ρ1, e1, g1⟩ := h1
    refine ⟨ρ1, ?_, g1⟩
    show bind (evF G f) _ ρ st = _
    unfold bind; rw [e1]
  | bad => trivial
theorem e_mkC {f : IF} {A : X (List D)} (h : SimF G L f A) : SimM L (evE G (.mk .cell f)) (X.mkC A) L := fun ρ st g => by
  have h1 := h ρ st g
  unfold X.mkC X.bind
  cases hx : A st with
  | ok a st' =>
    rw [hx] at h1
    obtain ⟨c, ρ1, e1, rfl, g1⟩ := h1
    exact ⟨_, ρ1, mBind e1, rfl, g1⟩
  | exc d st' =>
    rw [hx] at h1
    obtain ⟨ρ1, e1, g1⟩ := h1
    refine ⟨ρ1, ?_, g1⟩
    show bind (evF G f) _ ρ st = _
    unfold bind; rw [e1]
  | bad => trivial
theorem f_cat {a b : IE} {x : X (List D)} (p : SimG L (bind (evE G a) fun x => bind (evE G b) fun y => bind (viewM x) fun x => bind (viewM y) fun y => match x, y with
    | .lst xs, .lst ys => bind (fits (xs ++ ys)) fun ds => ret (Cell.lst ds)
    | _, _ => bad) x (embC L)) : SimF G L (.cat a b) x := p
theorem t_cat {x y : D} : SimG L (bind (viewM x) fun x => bind (viewM y) fun y => match x, y with
    | .lst xs, .lst ys => bind (fits (xs ++ ys)) fun ds => ret (Cell.lst ds)
    | _, _ => bad) (X.cat x y) (embC L) := by
  refine t_view (x := fun v st => match v, view st y with | .lst xs, .lst ys => X.fits (xs ++ ys) st | _, _ => .bad) fun v => ?_
  refine t_view (x := fun w st => match v, w with | .lst xs, .lst ys => X.fits (xs ++ ys) st | _, _ => .bad) fun w => ?_
  cases v <;> cases w <;> first | exact fun _ _ _ => trivial | exact t_disp
theorem t_ifM {p : Bool} {a : α} {c : γ} {emb : γ → α → Env → Prop} (h : ∀ ρ, Has L ρ → emb c a ρ) : SimG L (if p then ret a else bad) (fun st => if p then XR.ok c st else XR.bad) emb := fun ρ st g => by
  cases p with
  | true => exact ⟨_, ρ, rfl, h ρ g⟩
  | false => trivial
theorem f_rep {a b : IE} {x : X (List D)} (p : SimG L (bind (evE G a) fun x => bind (evE G b) fun y => match x, y with
    | .lst xs, .int k => if small k && decide (xs.length * k.toNat ≤ line) then ret (Cell.lst (List.replicate k.toNat xs).flatten) else bad
    | _, _ => bad) x (embC L)) : SimF G L (.rep a b) x := p
theorem t_rep {x y : D} : SimG L (match x, y with
    | .lst xs, .int k => if small k && decide (xs.length * k.toNat ≤ line) then ret (Cell.lst (List.replicate k.toNat xs).flatten) else bad
    | _, _ => bad) (X.rep x y) (embC L) := by
  cases x <;> cases y <;> first | exact fun _ _ _ => trivial | exact t_ifM fun ρ g => ⟨rfl, g⟩
theorem f_list {a : IE} {x : X (List D)} (p : SimG L (bind (evE G a) fun x => bind (viewM x) fun x => match x with
    | .lst xs => ret (Cell.lst xs)
    | .tup xs => ret (.lst xs)
    | _ => bad) x (embC L)) : SimF G L (.list a) x := p
theorem t_list {x : D} : SimG L (bind (viewM x) fun x => match x with
    | .lst xs => ret (Cell.lst xs)
    | .tup xs => ret (.lst xs)
    | _ => bad) (X.list x) (embC L) := by
  refine t_view (x := fun v st => match v with | .lst xs => .ok xs st | .tup xs => .ok xs st | _ => .bad) fun v => ?_
  cases v <;> first | exact fun _ _ _ => trivial | exact fun ρ st g => ⟨_, ρ, rfl, rfl, g⟩
theorem f_listR {a : IE} {x : X (List D)} (p : SimG L (bind (evE G a) fun x => match x with
    | .int n => if small n && decide (n.toNat ≤ line) then ret (Cell.lst (rng 0 n)) else bad
    | _ => bad) x (embC L)) : SimF G L (.listR a) x := p
theorem t_listR {x : D} : SimG L (match x with
    | .int n => if small n && decide (n.toNat ≤ line) then ret (Cell.lst (rng 0 n)) else bad
    | _ => bad) (X.listR x) (embC L) := by
  cases x <;> first | exact fun _ _ _ => trivial | exact t_ifM fun ρ g => ⟨rfl, g⟩
theorem f_dispS {es : ISt} {x : X (List D)} (p : SimG L (bind (evSt G es) fun ds => bind (fits ds) fun ds => ret (Cell.lst ds)) x (embC L)) : SimF G L (.dispS es) x := p
theorem f_rev {a : IE} {x : X (List D)} (p : SimG L (bind (evE G a) fun x => bind (viewM x) fun x => match x with
    | .lst xs => ret (Cell.lst xs.reverse)
    | _ => bad) x (embC L)) : SimF G L (.rev a) x := p
theorem t_rev {x : D} : SimG L (bind (viewM x) fun x => match x with
    | .lst xs => ret (Cell.lst xs.reverse)
    | _ => bad) (X.rev x) (embC L) := by
  refine t_view (x := fun v st => match v with | .lst xs => .ok xs.reverse st | _ => .bad) fun v => ?_
  cases v <;> first | exact fun _ _ _ => trivial | exact fun ρ st g => ⟨_, ρ, rfl, rfl, g⟩
theorem f_sort {a : IE} {x : X (List D)} (p : SimG L (bind (evE G a) fun x => bind (viewM x) fun x => bind (opt (sortD x)) fun xs => ret (Cell.lst xs)) x (embC L)) : SimF G L (.sort a) x := p
theorem t_sort {x : D} : SimG L (bind (viewM x) fun x => bind (opt (sortD x)) fun xs => ret (Cell.lst xs)) (X.sort x) (embC L) := by
  refine t_view (x := fun v => X.opt (sortD v)) fun v => ?_
  cases sortD v with
  | none => exact fun _ _ _ => trivial
  | some ys => exact fun ρ st g => ⟨_, ρ, rfl, rfl, g⟩
/-! ### walked things -/
theorem i_seq {e : IE} {x : X (List D)} (p : SimM L (bind (evE G e) fun x => opt (seqItems x)) x L) : SimM L (evI G (.seq e)) x L := p
theorem t_seq {x : D} : SimM L (opt (seqItems x)) (X.seq x) L := t_opt
theorem i_range1 {a : IE} {x : X (List D)} (p : SimM L (bind (evE G a) fun x => match x with
    | .int n => if small n then ret (rng 0 n) else bad
    | _ => bad) x L) : SimM L (evI G (.range1 a)) x L := p
theorem t_range1 {x : D} : SimM L (match x with
    | .int n => if small n then ret (rng 0 n) else bad
    | _ => bad) (X.range1 x) L := by
  cases x <;> first | exact fun _ _ _ => trivial | exact t_ifM fun ρ g => ⟨rfl, g⟩
theorem i_range2 {a b : IE} {x : X (List D)} (p : SimM L (bind (evE G a) fun x => bind (evE G b) fun y => match x, y with
    | .int i, .int j => if small i && small j then ret (rng i j) else bad
    | _, _ => bad) x L) : SimM L (evI G (.range2 a b)) x L := p
theorem t_range2 {x y : D} : SimM L (match x, y with
    | .int i, .int j => if small i && small j then ret (rng i j) else bad
    | _, _ => bad) (X.range2 x y) L := by
  cases x <;> cases y <;> first | exact fun _ _ _ => trivial | exact t_ifM fun ρ g => ⟨rfl, g⟩
theorem i_enum {e : IE} {x : X (List D)} (p : SimM L (bind (evE G e) fun x => opt (enumD x)) x L) : SimM L (evI G (.enum e)) x L := p
theorem t_enum {x : D} : SimM L (opt (enumD x)) (X.enum x) L := t_opt
theorem i_down {a b c : IE} {x : X (List D)} (p : SimM L (bind (evE G a) fun x => bind (evE G b) fun y => bind (evE G c) fun z => opt (downD x y z)) x L) : SimM L (evI G (.down a b c)) x L := p
theorem t_down {x y z : D} : SimM L (opt (downD x y z)) (X.down x y z) L := t_opt
theorem i_zip {a b : IE} {x : X (List D)} (p : SimM L (bind (evE G a) fun x => bind (evE G b) fun y => opt (zipD x y)) x L) : SimM L (evI G (.zip a b)) x L := p
theorem t_zip {x y : D} : SimM L (opt (zipD x y)) (X.zip x y) L := t_opt
/-! ### calls -/
theorem e_call {j : Nat} {es kws : IEs} {ord : List Nat} {x : X D} (p : SimM L (bind (evEs G es) fun ds => bind (evEs G kws) fun ks => bind (opt (pickO (ds ++ ks) ord)) fun as => callM (fnAt G.fs j) as) x L) : SimM L (evE G (.call j es kws ord)) x L := p
theorem t_call {F : Fn} {ds as : List D} {ord : List Nat} {x : X D} (r : FRef F as x) (h : pickO ds ord = some as) : SimM L (bind (opt (pickO ds ord)) fun as => callM F as) x L := by
  rw [h]
  intro ρ st g
  have h1 := r st
  cases hx : x st with
  | ok d st' =>
    rw [hx] at h1
    have h1 : F as st = .ok d st' := h1
    exact ⟨d, ρ, by show callM F as ρ st = _; unfold callM; rw [h1], rfl, g⟩
  | exc e st' =>
    rw [hx] at h1
    have h1 : F as st = .exc e st' := h1
    exact ⟨ρ, by show callM F as ρ st = _; unfold callM; rw [h1], g.length⟩
  | bad => trivial
theorem e_make {j : Nat} {es kws : IEs} {ord : List Nat} {x : X D} (p : SimM L (bind (evEs G es) fun ds => bind (evEs G kws) fun ks => bind (opt (pickO (ds ++ ks) ord)) fun as => bind (opt G.mks[j]?) fun p => makeM p as) x L) : SimM L (evE G (.make j es kws ord)) x L := p
theorem t_make {ms : List (Str × Fn)} {j : Nat} {c : Str} {F : Fn} {ds as : List D} {ord : List Nat} {init : D → X D} (hm : ms[j]? = some (c, F)) (r : ∀ s, FRef F (s :: as) (init s)) (h : pickO ds ord = some as) : SimM L (bind (opt (pickO ds ord)) fun as => bind (opt ms[j]?) fun p => makeM p as) (X.make c init) L := by
  rw [h, hm]
  intro ρ st g
  have h1 := r (.ref st.length) (st ++ [.ins c []])
  have e : bind (opt (some as)) (fun as => bind (opt (some (c, F))) fun p => makeM p as) ρ st = (match F (.ref st.length :: as) (st ++ [.ins c []]) with
    | .ok .non st' => .ok (.ref st.length) ρ st'
    | .exc x st' => .exc x ρ st'
    | _ => .bad) := rfl
  rw [e]
  unfold X.make
  cases hx : init (.ref st.length) (st ++ [.ins c []]) with
  | ok d st' =>
    rw [hx] at h1
    have h1 : F (.ref st.length :: as) (st ++ [.ins c []]) = .ok d st' := h1
    rw [h1]
    cases d <;> first | trivial | exact ⟨_, ρ, rfl, rfl, g⟩
  | exc d st' =>
    rw [hx] at h1
    have h1 : F (.ref st.length :: as) (st ++ [.ins c []]) = .exc d st' := h1
    rw [h1]
    exact ⟨ρ, rfl, g.length⟩
  | bad => trivial
theorem e_eqo {neg : Bool} {j : Nat} {a b : IE} {P : X Bool} (p : SimM L (bind (evE G a) fun x => bind (evE G b) fun y => bind (opt G.eqs[j]?) fun p => bind (eqoM G.kls p x y) fun t => ret (if neg then !t else t)) P L) : SimM L (evE G (.eqo neg j a b)) (X.bl P) L := b_ret p
theorem t_eqo {es : List (Str × Fn)} {kls : List Str} {j : Nat} {c : Str} {F : Fn} {S : D → D → X D} {x y : D} (hm : es[j]? = some (c, F)) (r : ∀ a b, FRef F [a, b] (S a b)) : SimM L (bind (opt es[j]?) fun p => bind (eqoM kls p x y) fun t => ret (if false then !t else t)) (X.eqo kls c S x y) L := by
  rw [hm]
  intro ρ st g
  have e : bind (opt (some (c, F))) (fun p => bind (eqoM kls p x y) fun t => ret (if false then !t else t)) ρ st = bind (eqoM kls (c, F) x y) (fun t => ret t) ρ st := rfl
  rw [e]
  unfold X.eqo
  cases hc : eqoWay kls c st x y with
  | some q =>
    have h1 := r q.1 q.2 st
    simp only
    cases hx : S q.1 q.2 st with
    | ok d st' =>
      rw [hx] at h1
      have h1 : F [q.1, q.2] st = .ok d st' := h1
      cases d <;> first | trivial | skip
      rename_i b _
      refine ⟨b, ρ, ?_, rfl, g⟩
      refine mBind ?_
      unfold eqoM
      simp only [hc, h1]
    | exc => trivial
    | bad => trivial
  | none =>
    simp only
    cases hx : eqD (view st x) (view st y) with
    | none => trivial
    | some b =>
      refine ⟨b, ρ, ?_, rfl, g⟩
      refine mBind ?_
      unfold eqoM
      simp only [hc, hx]
theorem t_eqoN {es : List (Str × Fn)} {kls : List Str} {j : Nat} {c : Str} {F : Fn} {S : D → D → X D} {x y : D} (hm : es[j]? = some (c, F)) (r : ∀ a b, FRef F [a, b] (S a b)) : SimM L (bind (opt es[j]?) fun p => bind (eqoM kls p x y) fun t => ret (if true then !t else t)) (X.not (X.eqo kls c S x y)) L := by
  have h := t_eqo (L := L) (kls := kls) (x := x) (y := y) hm r
  rw [hm] at h ⊢
  intro ρ st g
  have h1 := h ρ st g
  unfold X.not X.bind
  have e1 : bind (opt (some (c, F))) (fun p => bind (eqoM kls p x y) fun t => ret (if false then !t else t)) ρ st = bind (eqoM kls (c, F) x y) (fun t => ret t) ρ st := rfl
  have e2 : bind (opt (some (c, F))) (fun p => bind (eqoM kls p x y) fun t => ret (if true then !t else t)) ρ st = bind (eqoM kls (c, F) x y) (fun t => ret (!t)) ρ st := rfl
  rw [e1] at h1
  rw [e2]
  cases hx : X.eqo kls c S x y st with
  | ok b st' =>
    rw [hx] at h1
    obtain ⟨a, ρ1, q, rfl, g1⟩ := h1
    unfold bind at q ⊢
    cases hq : eqoM kls (c, F) x y ρ st with
    | ok t ρ2 st2 => rw [hq] at q; cases q; exact ⟨_, ρ1, rfl, rfl, g1⟩
    | exc => rw [hq] at q; cases q
    | bad => rw [hq] at q; cases q
  | exc d st' =>
    rw [hx] at h1
    obtain ⟨ρ1, q, g1⟩ := h1
    unfold bind at q ⊢
    cases hq : eqoM kls (c, F) x y ρ st with
    | ok t ρ2 st2 => rw [hq] at q; cases q
    | exc => rw [hq] at q; cases q; exact ⟨ρ1, rfl, g1⟩
    | bad => rw [hq] at q; cases q
  | bad => trivial
/-! ### a local's list -/
theorem c_own {i : Nat} {xs : List D} {k : M β} {x : X γ} (h : lk L i = some (.own xs)) (p : SimG L k x emb) : SimG L (bind (cellAt i) fun _ => k) x emb := fun ρ st g => by
  obtain ⟨s, h1, h2⟩ := g.get h
  have h2 : s = .own (.lst xs) := h2
  subst h2
  have e : cellAt i ρ st = .ok () ρ st := by unfold cellAt; rw [h1]
  rw [show bind (cellAt i) (fun _ => k) ρ st = k ρ st from mBind e]
  exact p ρ st g
theorem c_val {i : Nat} {d : D} {k : M β} {x : X γ} (h : lk L i = some (.val d)) (p : SimG L k x emb) : SimG L (bind (cellAt i) fun _ => k) (X.bind (X.lstX d) fun _ => x) emb := fun ρ st g => by
  obtain ⟨s, h1, h2⟩ := g.get h
  have h2 : s = .val d := h2
  subst h2
  unfold X.bind X.lstX
  cases d <;> first | trivial | skip
  rename_i l
  cases hc : st[l]? with
  | none => simp only [hc]
  | some c =>
    cases c with
    | lst xs =>
      simp only [hc]
      have e : cellAt i ρ st = .ok () ρ st := by unfold cellAt; rw [h1]; simp only [hc]
      rw [show bind (cellAt i) (fun _ => k) ρ st = k ρ st from mBind e]
      exact p ρ st g
    | dct => simp only [hc]
    | ins => simp only [hc]
    | frz => simp only [hc]
theorem u_own {i : Nat} {xs : List D} {F : Cell → Option (Cell × α)} {f : α → M β} {y : List D × α → X γ} (h : lk L i = some (.own xs)) (p : ∀ ys a, SimG (sl L i (.own ys)) (f a) (y (ys, a)) emb) : SimG L (bind (upM i F) f) (X.bind (X.upL xs F) y) emb := fun ρ st g => by
  obtain ⟨s, h1, h2⟩ := g.get h
  have h2 : s = .own (.lst xs) := h2
  subst h2
  unfold X.bind X.upL
  cases hf : F (.lst xs) with
  | none => trivial
  | some q =>
    obtain ⟨c, a⟩ := q
    cases c with
    | lst ys =>
      simp only
      have e : upM i F ρ st = .ok a (ρ.set i (.own (.lst ys))) st := by unfold upM; rw [h1]; simp only [hf]
      rw [show bind (upM i F) f ρ st = f a (ρ.set i (.own (.lst ys))) st from mBind e]
      have := p ys a _ st (g.set (i := i) (e := .own ys) (s := .own (.lst ys)) rfl)
      rw [sl_length] at this
      exact this
    | dct => trivial
    | ins => trivial
    | frz => trivial
theorem u_val {i : Nat} {d : D} {F : Cell → Option (Cell × α)} {f : α → M β} {y : α → X γ} (h : lk L i = some (.val d)) (p : ∀ a, SimG L (f a) (y a) emb) : SimG L (bind (upM i F) f) (X.bind (X.upX d F) y) emb := fun ρ st g => by
  obtain ⟨s, h1, h2⟩ := g.get h
  have h2 : s = .val d := h2
  subst h2
  unfold X.bind X.upX
  cases d <;> first | trivial | skip
  rename_i l
  cases hc : st[l]? with
  | none => simp only [hc]
  | some c =>
    simp only [hc]
    cases hf : liveF F c with
    | none => trivial
    | some q =>
      obtain ⟨c', a⟩ := q
      simp only
      have e : upM i F ρ st = .ok a ρ (st.set l c') := by unfold upM; rw [h1]; simp only [hc, hf]
      rw [show bind (upM i F) f ρ st = f a ρ (st.set l c') from mBind e]
      exact p a ρ _ g
theorem b_last {m : M β} {x : X γ} (h : SimG L (bind m ret) x emb) : SimG L m x emb := by
  have : bind m ret = m := by
    funext ρ st
    unfold bind
    cases m ρ st <;> rfl
  rw [this] at h
  exact h
theorem e_pop {i : Nat} {e : IO} {x : X D} (p : SimM L (bind (cellAt i) fun _ => bind (evO G e) fun k => bind (upM i (popS k)) ret) x L) : SimM L (evE G (.pop i e)) x L := by
  have h : (bind (cellAt i) fun _ => bind (evO G e) fun k => bind (upM i (popS k)) ret) = evE G (.pop i e) := by
    show _ = bind (cellAt i) fun _ => bind (evO G e) fun k => upM i (popS k)
    congr 1
    funext _
    congr 1
    funext k ρ st
    unfold bind
    cases upM i (popS k) ρ st <;> rfl
  rw [h] at p
  exact p
/-- a look at a local -/
theorem k_own {i : Nat} {xs : List D} {f : D → M β} {x : X γ} (h : lk L i = some (.own xs)) (p : SimG L (f (.lst xs)) x emb) : SimG L (bind (peek i) f) x emb := fun ρ st g => by
  obtain ⟨s, h1, h2⟩ := g.get h
  have h2 : s = .own (.lst xs) := h2
  subst h2
  have e : peek i ρ st = .ok (.lst xs) ρ st := by unfold peek; rw [h1]; rfl
  rw [show bind (peek i) f ρ st = f (.lst xs) ρ st from mBind e]
  exact p ρ st g
theorem k_val {i : Nat} {d : D} {f : D → M β} {y : D → X γ} (h : lk L i = some (.val d) ∨ lk L i = some (.eith d)) (hd : ∀ st, (∃ c : Cell, c.toD = d) → view st d = d) (p : ∀ v, SimG L (f v) (y v) emb) : SimG L (bind (peek i) f) (fun st => y (view st d) st) emb := fun ρ st g => by
  have e : peek i ρ st = .ok (view st d) ρ st := by
    rcases h with h | h
    · obtain ⟨s, h1, h2⟩ := g.get h
      have h2 : s = .val d := h2
      subst h2
      unfold peek; rw [h1]
    · obtain ⟨s, h1, h2⟩ := g.get h
      rcases h2 with rfl | ⟨c, rfl, h3⟩
      · unfold peek; rw [h1]
      · unfold peek; rw [h1, hd st ⟨c, h3⟩, ← h3]
  rw [show bind (peek i) f ρ st = f (view st d) ρ st from mBind e]
  exact p _ ρ st g
theorem view_cell {d : D} (st : Store) (h : ∃ c : Cell, c.toD = d) : view st d = d := by
  obtain ⟨c, rfl⟩ := h
  cases c <;> rfl
theorem k_skip {i : Nat} {d : D} {k : M β} {x : X γ} (h : lk L i = some (.val d) ∨ lk L i = some (.eith d)) (p : SimG L k x emb) : SimG L (bind (peek i) fun _ => k) x emb :=
  k_val (y := fun _ => x) h (fun st => view_cell st) fun _ => p
theorem k_skipO {i : Nat} {xs : List D} {k : M β} {x : X γ} (h : lk L i = some (.own xs)) (p : SimG L k x emb) : SimG L (bind (peek i) fun _ => k) x emb := k_own h p
theorem e_cmpV {op : CmpOp} {i : Nat} {b : IE} {x : X D} (p : SimM L (bind (peek i) fun _ => bind (evE G b) fun y => bind (peek i) fun x => bind (viewM y) fun y => bind (opt (cmpD op x y)) fun t => ret (.bl t)) x L) : SimM L (evE G (.cmpV op i b)) x L := p
theorem t_cmpO {op : CmpOp} {i : Nat} {xs : List D} {y : D} (h : lk L i = some (.own xs)) : SimM L (bind (peek i) fun x => bind (viewM y) fun y => bind (opt (cmpD op x y)) fun t => ret (D.bl t)) (X.bl (X.cmp op (.lst xs) y)) L :=
  k_own h (t_view (x := fun v => X.bl (X.opt (cmpD op (.lst xs) v))) fun _ => b_ret t_opt)
theorem t_cmpV {op : CmpOp} {i : Nat} {d : D} {y : D} (h : lk L i = some (.val d) ∨ lk L i = some (.eith d)) : SimM L (bind (peek i) fun x => bind (viewM y) fun y => bind (opt (cmpD op x y)) fun t => ret (D.bl t)) (X.bl (X.cmp op d y)) L :=
  k_val (y := fun v => X.bl (fun st => X.opt (cmpD op v (view st y)) st)) h (fun st => view_cell st) fun _ => t_view (x := fun v => X.bl (X.opt (cmpD op _ v))) fun _ => b_ret t_opt
theorem e_subV {i : Nat} {b : IE} {x : X D} (p : SimM L (bind (peek i) fun _ => bind (evE G b) fun y => bind (peek i) fun x => opt (subD x y)) x L) : SimM L (evE G (.subV i b)) x L := p
theorem t_subO {i : Nat} {xs : List D} {y : D} (h : lk L i = some (.own xs)) : SimM L (bind (peek i) fun x => opt (subD x y)) (X.sub (.lst xs) y) L := k_own h t_opt
theorem t_subV {i : Nat} {d : D} {y : D} (h : lk L i = some (.val d) ∨ lk L i = some (.eith d)) : SimM L (bind (peek i) fun x => opt (subD x y)) (X.sub d y) L := k_val (y := fun v => X.opt (subD v y)) h (fun st => view_cell st) fun _ => t_opt
theorem e_biV {f : BI} {i : Nat} {x : X D} (p : SimM L (bind (peek i) fun x => opt (biD f x)) x L) : SimM L (evE G (.biV f i)) x L := p
theorem t_biO {f : BI} {i : Nat} {xs : List D} (h : lk L i = some (.own xs)) : SimM L (bind (peek i) fun x => opt (biD f x)) (X.bi f (.lst xs)) L := k_own h t_opt
theorem t_biV {f : BI} {i : Nat} {d : D} (h : lk L i = some (.val d) ∨ lk L i = some (.eith d)) : SimM L (bind (peek i) fun x => opt (biD f x)) (X.bi f d) L := k_val (y := fun v => X.opt (biD f v)) h (fun st => view_cell st) fun _ => t_opt
end
/-! ### statements -/
def seqS (m k : M Fl) : M Fl := bind m fun f => match f with
  | .next => k
  | f => ret f
def SimB {γ : Type} (G : Gm) (L : LEnv) (b : ISs) (k : M Fl) (x : X γ) (emb : γ → Fl → Env → Prop) : Prop := SimG L (seqS (evSs G b) k) x emb
def embF : D → Fl → Env → Prop := fun d fl _ => fl = .ret d ∨ (fl = .next ∧ d = .non)
def embV {σ : Type} (Ln : σ → LEnv) : σ → Fl → Env → Prop := fun s fl ρ' => fl = .next ∧ Has (Ln s) ρ'
def embO {σ τ : Type} (Ln : σ → LEnv) (Lt : τ → LEnv) : O σ τ → Fl → Env → Prop := fun o fl ρ' => match o with
  | .nx s => fl = .next ∧ Has (Ln s) ρ'
  | .rt d => fl = .ret d ∧ ρ'.length = ρ'.length
  | .bk t => fl = .brk ∧ Has (Lt t) ρ'
  | .ct t => fl = .cnt ∧ Has (Lt t) ρ'
section
variable {G : Gm} {L L' L1 L2 : LEnv} {α γ σ τ σ' : Type} {emb : γ → Fl → Env → Prop} {k : M Fl} {r : ISs}
theorem seq_assoc {m n k : M Fl} : seqS (seqS m n) k = seqS m (seqS n k) := by
  funext ρ st
  unfold seqS bind
  cases m ρ st with
  | ok f ρ' st' => cases f <;> rfl
  | exc => rfl
  | bad => rfl
theorem seq_cons {s : IS} : seqS (evSs G (.cons s r)) k = seqS (evS G s) (seqS (evSs G r) k) := by
  have : evSs G (.cons s r) = seqS (evS G s) (evSs G r) := rfl
  rw [this, seq_assoc]
theorem seq_next {m : M Fl} : seqS m (ret .next) = m := by
  funext ρ st
  unfold seqS bind
  cases m ρ st with
  | ok f ρ' st' => cases f <;> rfl
  | exc => rfl
  | bad => rfl
theorem seq_bind {m : M α} {f : α → M Fl} : seqS (bind m f) k = bind m fun a => seqS (f a) k := by
  unfold seqS
  rw [mbind_assoc]
/-- less is known -/
theorem g_sub {β : Type} {m : M β} {x : X γ} {emb : γ → β → Env → Prop} (h : Sub L L') (p : SimG L' m x emb) (hl : L'.length = L.length := by rfl) : SimG L m x emb := fun ρ st g => by
  have := p ρ st (h.has g)
  rw [hl] at this
  exact this
theorem s_sub {b : ISs} {x : X γ} (L' : LEnv) (h : Sub L L') (p : SimB G L' b k x emb) (hl : L'.length = L.length := by rfl) : SimB G L b k x emb := g_sub h p hl
theorem s_nil {x : X γ} (p : SimG L k x emb) : SimB G L .nil k x emb := p
theorem k_F : SimG L (ret Fl.next) (X.pure .non) embF := fun ρ st g => ⟨_, ρ, rfl, .inr ⟨rfl, rfl⟩⟩
theorem k_V {Ln : σ → LEnv} {s : σ} (h : Sub L (Ln s)) : SimG L (ret Fl.next) (X.pure s) (embV Ln) := fun ρ st g => ⟨_, ρ, rfl, rfl, h.has g⟩
theorem k_O {Ln : σ → LEnv} {Lt : τ → LEnv} {s : σ} (h : Sub L (Ln s)) : SimG L (ret Fl.next) (X.pure (.nx s)) (embO Ln Lt) := fun ρ st g => ⟨_, ρ, rfl, rfl, h.has g⟩
theorem s_asg {t : Tg} {e : IE} {x : X γ} (p : SimG L (bind (evE G e) fun d => bind (bindT t d) fun _ => seqS (evSs G r) k) x emb) : SimB G L (.cons (.asg t e) r) k x emb := by
  unfold SimB
  rw [seq_cons]
  show SimG L (seqS (bind (evE G e) fun d => bind (bindT t d) fun _ => ret .next) _) x emb
  rw [seq_bind]
  simp only [seq_bind]
  exact p
theorem s_asgPop {t : Tg} {i : Nat} {e : IO} {x : X γ} (p : SimG L (bind (cellAt i) fun _ => bind (evO G e) fun j => bind (upM i (popS j)) fun d => bind (bindT t d) fun _ => seqS (evSs G r) k) x emb) : SimB G L (.cons (.asg t (.pop i e)) r) k x emb := by
  refine s_asg ?_
  show SimG L (bind (bind (cellAt i) fun _ => bind (evO G e) fun j => upM i (popS j)) _) x emb
  rw [mbind_assoc]
  simp only [mbind_assoc]
  exact p
theorem s_par {is : List Nat} {es : IEs} {x : X γ} (p : SimG L (bind (evEs G es) fun ds => bind (stores is ds) fun _ => seqS (evSs G r) k) x emb) : SimB G L (.cons (.par is es) r) k x emb := by
  unfold SimB
  rw [seq_cons]
  show SimG L (seqS (bind (evEs G es) fun ds => bind (stores is ds) fun _ => ret .next) _) x emb
  rw [seq_bind]
  simp only [seq_bind]
  exact p
theorem st_nil {m : M Fl} {x : X γ} (p : SimG L m x emb) : SimG L (bind (stores [] []) fun _ => m) x emb := p
theorem st_cons {i : Nat} {is : List Nat} {d : D} {ds : List D} {e : Ent} {m : M Fl} {x : X γ} (h : lk L i = some e) (p : SimG (sl L i (.val d)) (bind (stores is ds) fun _ => m) x emb) : SimG L (bind (stores (i :: is) (d :: ds)) fun _ => m) x emb := by
  show SimG L (bind (bind (setSl i (.val d)) fun _ => stores is ds) fun _ => m) x emb
  rw [mbind_assoc]
  exact p_nm h p
theorem b_bindC {m : M Cell} {f : Cell → M Fl} {A : X (List D)} {y : List D → X γ} (h : SimG L m A (embC L)) (p : ∀ a, SimG L (f (.lst a)) (y a) emb) : SimG L (bind m f) (X.bind A y) emb := fun ρ st g => by
  have h1 := h ρ st g
  unfold X.bind
  cases hx : A st with
  | ok a st' =>
    rw [hx] at h1
    obtain ⟨c, ρ1, e1, rfl, g1⟩ := h1
    rw [show bind m f ρ st = f _ ρ1 st' from mBind e1]
    exact p a ρ1 st' g1
  | exc d st' =>
    rw [hx] at h1
    obtain ⟨ρ1, e1, g1⟩ := h1
    refine ⟨ρ1, ?_, g1⟩
    unfold bind; rw [e1]
  | bad => trivial
theorem s_own {i : Nat} {f : IF} {A : X (List D)} {y : List D → X γ} {e : Ent} (hi : lk L i = some e) (h : SimF G L f A) (p : ∀ xs, SimB G (sl L i (.own xs)) r k (y xs) emb) : SimB G L (.cons (.own i f) r) k (X.bind A y) emb := by
  unfold SimB
  rw [seq_cons]
  show SimG L (seqS (bind (evF G f) fun c => bind (setSl i (.own c)) fun _ => ret .next) _) _ emb
  rw [seq_bind]
  refine b_bindC h fun xs => ?_
  rw [seq_bind]
  intro ρ st g
  have e1 : setSl i (.own (.lst xs)) ρ st = .ok () (ρ.set i (.own (.lst xs))) st := by
    unfold setSl
    rw [if_pos (g.lt hi)]
  rw [show bind (setSl i (.own (.lst xs))) (fun _ => seqS (ret .next) (seqS (evSs G r) k)) ρ st = seqS (evSs G r) k (ρ.set i (.own (.lst xs))) st from mBind e1]
  have := p xs _ st (g.set (i := i) (e := .own xs) (s := .own (.lst xs)) rfl)
  rw [sl_length] at this
  exact this
theorem s_expr {e : IE} {x : X γ} (p : SimG L (bind (evE G e) fun _ => seqS (evSs G r) k) x emb) : SimB G L (.cons (.expr e) r) k x emb := by
  unfold SimB
  rw [seq_cons]
  show SimG L (seqS (bind (evE G e) fun d => ret .next) _) x emb
  rw [seq_bind]
  exact p
theorem s_exprPop {i : Nat} {e : IO} {x : X γ} (p : SimG L (bind (cellAt i) fun _ => bind (evO G e) fun j => bind (upM i (popS j)) fun _ => seqS (evSs G r) k) x emb) : SimB G L (.cons (.expr (.pop i e)) r) k x emb := by
  refine s_expr ?_
  show SimG L (bind (bind (cellAt i) fun _ => bind (evO G e) fun j => upM i (popS j)) _) x emb
  rw [mbind_assoc]
  simp only [mbind_assoc]
  exact p
theorem s_pass {x : X γ} (p : SimB G L r k x emb) : SimB G L (.cons .pass r) k x emb := by
  unfold SimB
  rw [seq_cons]
  exact p
theorem s_retF {e : IE} {A : X D} (h : SimM L (evE G e) A L) : SimB G L (.cons (.ret e) r) k A embF := by
  unfold SimB
  rw [seq_cons]
  show SimG L (seqS (bind (evE G e) fun d => ret (.ret d)) _) A embF
  rw [seq_bind, ← xb_pure (x := A)]
  exact b_bind h (fun d ρ st g => ⟨_, ρ, rfl, .inl rfl⟩) rfl
theorem s_retNF : SimB G L (.cons .retN r) k (X.pure .non) embF := by
  unfold SimB
  rw [seq_cons]
  exact fun ρ st g => ⟨_, ρ, rfl, .inl rfl⟩
theorem s_retO {e : IE} {A : X D} {Ln : σ → LEnv} {Lt : τ → LEnv} (h : SimM L (evE G e) A L) : SimB G L (.cons (.ret e) r) k (X.bind A fun d => X.pure (.rt d)) (embO Ln Lt) := by
  unfold SimB
  rw [seq_cons]
  show SimG L (seqS (bind (evE G e) fun d => ret (.ret d)) _) _ _
  rw [seq_bind]
  exact b_bind h (fun d ρ st g => ⟨_, ρ, rfl, rfl, rfl⟩) rfl
theorem s_retOA {e : IE} {d : D} {Ln : σ → LEnv} {Lt : τ → LEnv} (h : Atom G L e d) : SimB G L (.cons (.ret e) r) k (X.pure (.rt d)) (embO Ln Lt) := by
  unfold SimB
  rw [seq_cons]
  show SimG L (seqS (bind (evE G e) fun d => ret (.ret d)) _) _ _
  rw [seq_bind]
  exact b_atom h (fun ρ st g => ⟨_, ρ, rfl, rfl, rfl⟩)
theorem s_retNO {Ln : σ → LEnv} {Lt : τ → LEnv} : SimB G L (.cons .retN r) k (X.pure (.rt .non)) (embO Ln Lt) := by
  unfold SimB
  rw [seq_cons]
  exact fun ρ st g => ⟨_, ρ, rfl, rfl, rfl⟩
theorem s_brk {Ln : σ → LEnv} {Lt : τ → LEnv} {t : τ} (h : Sub L (Lt t)) : SimB G L (.cons .brk r) k (X.pure (.bk t)) (embO Ln Lt) := by
  unfold SimB
  rw [seq_cons]
  exact fun ρ st g => ⟨_, ρ, rfl, rfl, h.has g⟩
theorem s_cnt {Ln : σ → LEnv} {Lt : τ → LEnv} {t : τ} (h : Sub L (Lt t)) : SimB G L (.cons .cnt r) k (X.pure (.ct t)) (embO Ln Lt) := by
  unfold SimB
  rw [seq_cons]
  exact fun ρ st g => ⟨_, ρ, rfl, rfl, h.has g⟩
theorem seq_if {b : Bool} {m n k : M Fl} : seqS (if b then m else n) k = if b then seqS m k else seqS n k := by cases b <;> rfl
/-- if, both ways to the end -/
theorem s_ite {c : IE} {a b : ISs} {C : X Bool} {A B : X γ} (h : SimM L (evT G (.some c)) C L) (h1 : SimB G L a (seqS (evSs G r) k) A emb) (h2 : SimB G L b (seqS (evSs G r) k) B emb) : SimB G L (.cons (.ite c a b) r) k (X.iff C A B) emb := by
  unfold SimB
  rw [seq_cons]
  show SimG L (seqS (bind (evT G (.some c)) fun t => if t then evSs G a else evSs G b) _) _ emb
  rw [seq_bind]
  simp only [seq_if]
  exact b_iff h h1 h2
theorem g_seqV {m k : M Fl} {A : X σ} {y : σ → X γ} {Lj : σ → LEnv} (h : SimG L m A (embV Lj)) (p : ∀ s, SimG (Lj s) k (y s) emb) (hl : ∀ s, (Lj s).length = L.length) : SimG L (seqS m k) (X.bind A y) emb := fun ρ st g => by
  have h1 := h ρ st g
  unfold X.bind
  cases hx : A st with
  | ok s st' =>
    rw [hx] at h1
    obtain ⟨fl, ρ1, e1, rfl, g1⟩ := h1
    rw [show seqS m k ρ st = k ρ1 st' from mBind e1]
    have := p s ρ1 st' g1
    rw [hl] at this
    exact this
  | exc d st' =>
    rw [hx] at h1
    obtain ⟨ρ1, e1, g1⟩ := h1
    refine ⟨ρ1, ?_, g1⟩
    unfold seqS bind; rw [e1]
  | bad => trivial
theorem g_seqF {m k : M Fl} {A : X (O σ τ)} {y : σ → X D} {Lj : σ → LEnv} {Lt : τ → LEnv} (h : SimG L m A (embO Lj Lt)) (p : ∀ s, SimG (Lj s) k (y s) embF) (hl : ∀ s, (Lj s).length = L.length) : SimG L (seqS m k) (X.qF A y) embF := fun ρ st g => by
  have h1 := h ρ st g
  unfold X.qF X.bind
  cases hx : A st with
  | ok o st' =>
    rw [hx] at h1
    obtain ⟨fl, ρ1, e1, q⟩ := h1
    cases o with
    | nx s =>
      obtain ⟨rfl, g1⟩ := q
      rw [show seqS m k ρ st = k ρ1 st' from mBind e1]
      have := p s ρ1 st' g1
      rw [hl] at this
      exact this
    | rt d =>
      obtain ⟨rfl, g1⟩ := q
      exact ⟨_, ρ1, mBind e1, .inl rfl⟩
    | bk => trivial
    | ct => trivial
  | exc d st' =>
    rw [hx] at h1
    obtain ⟨ρ1, e1, g1⟩ := h1
    refine ⟨ρ1, ?_, g1⟩
    unfold seqS bind; rw [e1]
  | bad => trivial
theorem g_seqO {m k : M Fl} {A : X (O σ τ)} {y : σ → X (O σ' τ)} {Lj : σ → LEnv} {Ln : σ' → LEnv} {Lt : τ → LEnv} (h : SimG L m A (embO Lj Lt)) (p : ∀ s, SimG (Lj s) k (y s) (embO Ln Lt)) (hl : ∀ s, (Lj s).length = L.length) : SimG L (seqS m k) (X.qO A y) (embO Ln Lt) := fun ρ st g => by
  have h1 := h ρ st g
  unfold X.qO X.bind
  cases hx : A st with
  | ok o st' =>
    rw [hx] at h1
    obtain ⟨fl, ρ1, e1, q⟩ := h1
    cases o with
    | nx s =>
      obtain ⟨rfl, g1⟩ := q
      rw [show seqS m k ρ st = k ρ1 st' from mBind e1]
      have := p s ρ1 st' g1
      rw [hl] at this
      exact this
    | rt d =>
      obtain ⟨rfl, g1⟩ := q
      exact ⟨_, ρ1, mBind e1, rfl, rfl⟩
    | bk t =>
      obtain ⟨rfl, g1⟩ := q
      exact ⟨_, ρ1, mBind e1, rfl, g1⟩
    | ct t =>
      obtain ⟨rfl, g1⟩ := q
      exact ⟨_, ρ1, mBind e1, rfl, g1⟩
  | exc d st' =>
    rw [hx] at h1
    obtain ⟨ρ1, e1, g1⟩ := h1
    refine ⟨ρ1, ?_, g1⟩
    unfold seqS bind; rw [e1]
  | bad => trivial
theorem g_if {c : IE} {a b : ISs} {C : X Bool} {A B : X γ} (h : SimM L (evT G (.some c)) C L) (h1 : SimB G L a (ret .next) A emb) (h2 : SimB G L b (ret .next) B emb) : SimG L (evS G (.ite c a b)) (X.iff C A B) emb := by
  unfold SimB at h1 h2
  rw [seq_next] at h1 h2
  exact b_iff h h1 h2
/-- if, met again behind it -/
theorem s_iteV {c : IE} {a b : ISs} {C : X Bool} {A B : X σ} {y : σ → X γ} (Lj : σ → LEnv) (h : SimM L (evT G (.some c)) C L) (h1 : SimB G L a (ret .next) A (embV Lj)) (h2 : SimB G L b (ret .next) B (embV Lj)) (p : ∀ s, SimB G (Lj s) r k (y s) emb) (hl : ∀ s, (Lj s).length = L.length) : SimB G L (.cons (.ite c a b) r) k (X.bind (X.iff C A B) y) emb := by
  unfold SimB
  rw [seq_cons]
  exact g_seqV (g_if h h1 h2) p hl
theorem s_iteF {c : IE} {a b : ISs} {C : X Bool} {A B : X (O σ τ)} {y : σ → X D} (Lj : σ → LEnv) (Lt : τ → LEnv) (h : SimM L (evT G (.some c)) C L) (h1 : SimB G L a (ret .next) A (embO Lj Lt)) (h2 : SimB G L b (ret .next) B (embO Lj Lt)) (p : ∀ s, SimB G (Lj s) r k (y s) embF) (hl : ∀ s, (Lj s).length = L.length) : SimB G L (.cons (.ite c a b) r) k (X.qF (X.iff C A B) y) embF := by
  unfold SimB
  rw [seq_cons]
  exact g_seqF (g_if h h1 h2) p hl
theorem s_iteO {c : IE} {a b : ISs} {C : X Bool} {A B : X (O σ τ)} {y : σ → X (O σ' τ)} (Lj : σ → LEnv) {Ln : σ' → LEnv} {Lt : τ → LEnv} (h : SimM L (evT G (.some c)) C L) (h1 : SimB G L a (ret .next) A (embO Lj Lt)) (h2 : SimB G L b (ret .next) B (embO Lj Lt)) (p : ∀ s, SimB G (Lj s) r k (y s) (embO Ln Lt)) (hl : ∀ s, (Lj s).length = L.length) : SimB G L (.cons (.ite c a b) r) k (X.qO (X.iff C A B) y) (embO Ln Lt) := by
  unfold SimB
  rw [seq_cons]
  exact g_seqO (g_if h h1 h2) p hl
/-! loops -/
theorem g_forV {t : Tg} {b : ISs} {body : D → σ → X σ} (Lh : σ → LEnv) (hl : ∀ s s', (Lh s).length = (Lh s').length) (p : ∀ x s, SimG (Lh s) (bind (bindT t x) fun _ => seqS (evSs G b) (ret .next)) (body x s) (embV Lh)) : ∀ xs s, SimG (Lh s) (loopF (fun x => bind (bindT t x) fun _ => evSs G b) xs) (X.forV body xs s) (embV Lh)
  | [], s => fun ρ st g => ⟨_, ρ, rfl, rfl, g⟩
  | x :: xs, s => fun ρ st g => by
    have h1 := p x s ρ st g
    rw [seq_next] at h1
    show match X.bind (body x s) (fun s => X.forV body xs s) st with | .ok b st' => _ | .exc d st' => _ | .bad => True
    unfold X.bind
    cases hx : body x s st with
    | ok s' st' =>
      rw [hx] at h1
      obtain ⟨fl, ρ1, e1, rfl, g1⟩ := h1
      have h2 := g_forV Lh hl p xs s' ρ1 st' g1
      rw [hl s' s] at h2
      rw [show loopF (fun x => bind (bindT t x) fun _ => evSs G b) (x :: xs) ρ st = loopF (fun x => bind (bindT t x) fun _ => evSs G b) xs ρ1 st' from mBind e1]
      exact h2
    | exc d st' =>
      rw [hx] at h1
      obtain ⟨ρ1, e1, g1⟩ := h1
      refine ⟨ρ1, ?_, g1⟩
      show bind (bind (bindT t x) fun _ => evSs G b) _ ρ st = _
      generalize (bind (bindT t x) fun _ => evSs G b) = mm at e1 ⊢
      unfold bind; rw [e1]
    | bad => trivial
theorem g_forO {t : Tg} {b : ISs} {body : D → σ → X (O σ σ)} (Lh : σ → LEnv) (Lt : τ → LEnv) (hl : ∀ s s', (Lh s).length = (Lh s').length) (p : ∀ x s, SimG (Lh s) (bind (bindT t x) fun _ => seqS (evSs G b) (ret .next)) (body x s) (embO Lh Lh)) : ∀ xs s, SimG (Lh s) (loopF (fun x => bind (bindT t x) fun _ => evSs G b) xs) (X.forO body xs s) (embO Lh Lt)
  | [], s => fun ρ st g => ⟨_, ρ, rfl, rfl, g⟩
  | x :: xs, s => fun ρ st g => by
    have h1 := p x s ρ st g
    rw [seq_next] at h1
    have e0 : (X.forO body (x :: xs) s : X (O σ τ)) = X.bind (body x s) fun o => match o with | .nx s => X.forO body xs s | .ct s => X.forO body xs s | .bk s => X.pure (.nx s) | .rt d => X.pure (.rt d) := rfl
    rw [e0]
    unfold X.bind
    cases hx : body x s st with
    | ok o st' =>
      rw [hx] at h1
      obtain ⟨fl, ρ1, e1, q⟩ := h1
      cases o with
      | nx s' =>
        obtain ⟨rfl, g1⟩ := q
        have h2 := g_forO Lh Lt hl p xs s' ρ1 st' g1
        rw [hl s' s] at h2
        rw [show loopF (fun x => bind (bindT t x) fun _ => evSs G b) (x :: xs) ρ st = loopF (fun x => bind (bindT t x) fun _ => evSs G b) xs ρ1 st' from mBind e1]
        exact h2
      | ct s' =>
        obtain ⟨rfl, g1⟩ := q
        have h2 := g_forO Lh Lt hl p xs s' ρ1 st' g1
        rw [hl s' s] at h2
        rw [show loopF (fun x => bind (bindT t x) fun _ => evSs G b) (x :: xs) ρ st = loopF (fun x => bind (bindT t x) fun _ => evSs G b) xs ρ1 st' from mBind e1]
        exact h2
      | bk s' =>
        obtain ⟨rfl, g1⟩ := q
        exact ⟨_, ρ1, mBind e1, rfl, g1⟩
      | rt d =>
        obtain ⟨rfl, g1⟩ := q
        exact ⟨_, ρ1, mBind e1, rfl, rfl⟩
    | exc d st' =>
      rw [hx] at h1
      obtain ⟨ρ1, e1, g1⟩ := h1
      refine ⟨ρ1, ?_, g1⟩
      show bind (bind (bindT t x) fun _ => evSs G b) _ ρ st = _
      generalize (bind (bindT t x) fun _ => evSs G b) = mm at e1 ⊢
      unfold bind; rw [e1]
    | bad => trivial
theorem g_whlV {c : IE} {b : ISs} {C : σ → X Bool} {body : σ → X σ} (Lh : σ → LEnv) (hl : ∀ s s', (Lh s).length = (Lh s').length) (hc : ∀ s, SimM (Lh s) (evT G (.some c)) (C s) (Lh s)) (p : ∀ s, SimB G (Lh s) b (ret .next) (body s) (embV Lh)) : ∀ n s, SimG (Lh s) (loopW (evT G (.some c)) (evSs G b) n) (X.whlV C body n s) (embV Lh)
  | 0, s => fun ρ st g => trivial
  | n + 1, s => by
    refine b_iff (m := evT G (.some c)) (f := bind (evSs G b) fun f => match f with | .next => loopW (evT G (.some c)) (evSs G b) n | .cnt => loopW (evT G (.some c)) (evSs G b) n | .brk => ret .next | .ret d => ret (.ret d)) (g := ret .next) (hc s) ?_ (k_V (Sub.refl _))
    intro ρ st g
    have h1 := p s ρ st g
    unfold SimB at h1
    rw [seq_next] at h1
    unfold X.bind
    cases hx : body s st with
    | ok s' st' =>
      rw [hx] at h1
      obtain ⟨fl, ρ1, e1, rfl, g1⟩ := h1
      have h2 := g_whlV Lh hl hc p n s' ρ1 st' g1
      rw [hl s' s] at h2
      rw [show (bind (evSs G b) fun f => match f with | .next => loopW (evT G (.some c)) (evSs G b) n | .cnt => loopW (evT G (.some c)) (evSs G b) n | .brk => ret .next | .ret d => ret (.ret d)) ρ st = loopW (evT G (.some c)) (evSs G b) n ρ1 st' from mBind e1]
      exact h2
    | exc d st' =>
      rw [hx] at h1
      obtain ⟨ρ1, e1, g1⟩ := h1
      refine ⟨ρ1, ?_, g1⟩
      show bind (evSs G b) _ ρ st = _
      unfold bind; rw [e1]
    | bad => trivial
theorem g_whlO {c : IE} {b : ISs} {C : σ → X Bool} {body : σ → X (O σ σ)} (Lh : σ → LEnv) (Lt : τ → LEnv) (hl : ∀ s s', (Lh s).length = (Lh s').length) (hc : ∀ s, SimM (Lh s) (evT G (.some c)) (C s) (Lh s)) (p : ∀ s, SimB G (Lh s) b (ret .next) (body s) (embO Lh Lh)) : ∀ n s, SimG (Lh s) (loopW (evT G (.some c)) (evSs G b) n) (X.whlO C body n s) (embO Lh Lt)
  | 0, s => fun ρ st g => trivial
  | n + 1, s => by
    refine b_iff (m := evT G (.some c)) (f := bind (evSs G b) fun f => match f with | .next => loopW (evT G (.some c)) (evSs G b) n | .cnt => loopW (evT G (.some c)) (evSs G b) n | .brk => ret .next | .ret d => ret (.ret d)) (g := ret .next) (hc s) ?_ (k_O (Sub.refl _))
    intro ρ st g
    have h1 := p s ρ st g
    unfold SimB at h1
    rw [seq_next] at h1
    unfold X.bind
    cases hx : body s st with
    | ok o st' =>
      rw [hx] at h1
      obtain ⟨fl, ρ1, e1, q⟩ := h1
      cases o with
      | nx s' =>
        obtain ⟨rfl, g1⟩ := q
        have h2 := g_whlO Lh Lt hl hc p n s' ρ1 st' g1
        rw [hl s' s] at h2
        rw [show (bind (evSs G b) fun f => match f with | .next => loopW (evT G (.some c)) (evSs G b) n | .cnt => loopW (evT G (.some c)) (evSs G b) n | .brk => ret .next | .ret d => ret (.ret d)) ρ st = loopW (evT G (.some c)) (evSs G b) n ρ1 st' from mBind e1]
        exact h2
      | ct s' =>
        obtain ⟨rfl, g1⟩ := q
        have h2 := g_whlO Lh Lt hl hc p n s' ρ1 st' g1
        rw [hl s' s] at h2
        rw [show (bind (evSs G b) fun f => match f with | .next => loopW (evT G (.some c)) (evSs G b) n | .cnt => loopW (evT G (.some c)) (evSs G b) n | .brk => ret .next | .ret d => ret (.ret d)) ρ st = loopW (evT G (.some c)) (evSs G b) n ρ1 st' from mBind e1]
        exact h2
      | bk s' =>
        obtain ⟨rfl, g1⟩ := q
        exact ⟨_, ρ1, mBind e1, rfl, g1⟩
      | rt d =>
        obtain ⟨rfl, g1⟩ := q
        exact ⟨_, ρ1, mBind e1, rfl, rfl⟩
    | exc d st' =>
      rw [hx] at h1
      obtain ⟨ρ1, e1, g1⟩ := h1
      refine ⟨ρ1, ?_, g1⟩
      show bind (evSs G b) _ ρ st = _
      unfold bind; rw [e1]
    | bad => trivial
/-- the loop's own way in -/
theorem g_in {t : Tg} {it : II} {b : ISs} {I : X (List D)} {Lh : σ → LEnv} {s0 : σ} {y : List D → X γ} (h : SimM L (evI G it) I L) (h0 : Sub L (Lh s0)) (hl : ∀ s, (Lh s).length = L.length) (p : ∀ xs, SimG (Lh s0) (seqS (loopF (fun x => bind (bindT t x) fun _ => evSs G b) xs) (seqS (evSs G r) k)) (y xs) emb) : SimB G L (.cons (.for t it b) r) k (X.bind I y) emb := by
  unfold SimB
  rw [seq_cons]
  show SimG L (seqS (bind (evI G it) fun xs => loopF (fun x => bind (bindT t x) fun _ => evSs G b) xs) _) _ emb
  rw [seq_bind]
  exact b_bind h (fun xs => g_sub h0 (p xs) (hl s0)) rfl
theorem s_forV {t : Tg} {it : II} {b : ISs} {I : X (List D)} {body : D → σ → X σ} {s0 : σ} {y : σ → X γ} (Lh : σ → LEnv) (h : SimM L (evI G it) I L) (h0 : Sub L (Lh s0)) (hl : ∀ s, (Lh s).length = L.length)
    (p : ∀ x s, SimG (Lh s) (bind (bindT t x) fun _ => seqS (evSs G b) (ret .next)) (body x s) (embV Lh)) (q : ∀ s, SimB G (Lh s) r k (y s) emb) : SimB G L (.cons (.for t it b) r) k (X.bind I fun xs => X.bind (X.forV body xs s0) y) emb :=
  g_in h h0 hl fun xs => g_seqV (g_forV Lh (fun s s' => (hl s).trans (hl s').symm) p xs s0) q fun s => (hl s).trans (hl s0).symm
theorem s_forF {t : Tg} {it : II} {b : ISs} {I : X (List D)} {body : D → σ → X (O σ σ)} {s0 : σ} {y : σ → X D} (Lh : σ → LEnv) (h : SimM L (evI G it) I L) (h0 : Sub L (Lh s0)) (hl : ∀ s, (Lh s).length = L.length)
    (p : ∀ x s, SimG (Lh s) (bind (bindT t x) fun _ => seqS (evSs G b) (ret .next)) (body x s) (embO Lh Lh)) (q : ∀ s, SimB G (Lh s) r k (y s) embF) : SimB G L (.cons (.for t it b) r) k (X.bind I fun xs => X.qF (X.forO (τ := Unit) body xs s0) y) embF :=
  g_in h h0 hl fun xs => g_seqF (g_forO Lh (fun _ => L) (fun s s' => (hl s).trans (hl s').symm) p xs s0) q fun s => (hl s).trans (hl s0).symm
theorem s_forO {t : Tg} {it : II} {b : ISs} {I : X (List D)} {body : D → σ → X (O σ σ)} {s0 : σ} {y : σ → X (O σ' τ)} (Lh : σ → LEnv) {Ln : σ' → LEnv} {Lt : τ → LEnv} (h : SimM L (evI G it) I L) (h0 : Sub L (Lh s0)) (hl : ∀ s, (Lh s).length = L.length)
    (p : ∀ x s, SimG (Lh s) (bind (bindT t x) fun _ => seqS (evSs G b) (ret .next)) (body x s) (embO Lh Lh)) (q : ∀ s, SimB G (Lh s) r k (y s) (embO Ln Lt)) : SimB G L (.cons (.for t it b) r) k (X.bind I fun xs => X.qO (X.forO body xs s0) y) (embO Ln Lt) :=
  g_in h h0 hl fun xs => g_seqO (g_forO Lh Lt (fun s s' => (hl s).trans (hl s').symm) p xs s0) q fun s => (hl s).trans (hl s0).symm
theorem s_whlV {c : IE} {b : ISs} {C : σ → X Bool} {body : σ → X σ} {s0 : σ} {y : σ → X γ} (Lh : σ → LEnv) (h0 : Sub L (Lh s0)) (hl : ∀ s, (Lh s).length = L.length)
    (hc : ∀ s, SimM (Lh s) (evT G (.some c)) (C s) (Lh s)) (p : ∀ s, SimB G (Lh s) b (ret .next) (body s) (embV Lh)) (q : ∀ s, SimB G (Lh s) r k (y s) emb) : SimB G L (.cons (.whl c b) r) k (X.bind (X.whlV C body many s0) y) emb := by
  unfold SimB
  rw [seq_cons]
  exact g_sub h0 (g_seqV (g_whlV Lh (fun s s' => (hl s).trans (hl s').symm) hc p many s0) q fun s => (hl s).trans (hl s0).symm) (hl s0)
theorem s_whlF {c : IE} {b : ISs} {C : σ → X Bool} {body : σ → X (O σ σ)} {s0 : σ} {y : σ → X D} (Lh : σ → LEnv) (h0 : Sub L (Lh s0)) (hl : ∀ s, (Lh s).length = L.length)
    (hc : ∀ s, SimM (Lh s) (evT G (.some c)) (C s) (Lh s)) (p : ∀ s, SimB G (Lh s) b (ret .next) (body s) (embO Lh Lh)) (q : ∀ s, SimB G (Lh s) r k (y s) embF) : SimB G L (.cons (.whl c b) r) k (X.qF (X.whlO (τ := Unit) C body many s0) y) embF := by
  unfold SimB
  rw [seq_cons]
  exact g_sub h0 (g_seqF (g_whlO Lh (fun _ => L) (fun s s' => (hl s).trans (hl s').symm) hc p many s0) q fun s => (hl s).trans (hl s0).symm) (hl s0)
theorem s_whlO {c : IE} {b : ISs} {C : σ → X Bool} {body : σ → X (O σ σ)} {s0 : σ} {y : σ → X (O σ' τ)} (Lh : σ → LEnv) {Ln : σ' → LEnv} {Lt : τ → LEnv} (h0 : Sub L (Lh s0)) (hl : ∀ s, (Lh s).length = L.length)
    (hc : ∀ s, SimM (Lh s) (evT G (.some c)) (C s) (Lh s)) (p : ∀ s, SimB G (Lh s) b (ret .next) (body s) (embO Lh Lh)) (q : ∀ s, SimB G (Lh s) r k (y s) (embO Ln Lt)) : SimB G L (.cons (.whl c b) r) k (X.qO (X.whlO C body many s0) y) (embO Ln Lt) := by
  unfold SimB
  rw [seq_cons]
  exact g_sub h0 (g_seqO (g_whlO Lh Lt (fun s s' => (hl s).trans (hl s').symm) hc p many s0) q fun s => (hl s).trans (hl s0).symm) (hl s0)
/-! changes -/
theorem s_set {i : Nat} {ix e : IE} {x : X γ} (p : SimG L (bind (evE G e) fun d => bind (cellAt i) fun _ => bind (evE G ix) fun j => bind (upM i (setC j d)) fun _ => seqS (evSs G r) k) x emb) : SimB G L (.cons (.set i ix e) r) k x emb := by
  unfold SimB
  rw [seq_cons]
  show SimG L (seqS (bind (bind (evE G e) fun d => bind (cellAt i) fun _ => bind (evE G ix) fun j => upM i (setC j d)) fun _ => ret .next) _) x emb
  rw [seq_bind, mbind_assoc]
  simp only [mbind_assoc]
  exact p
theorem s_mth {i : Nat} {m : MT} {es : IEs} {x : X γ} (p : SimG L (bind (cellAt i) fun _ => bind (evEs G es) fun ds => bind (upM i (mtC m ds)) fun _ => seqS (evSs G r) k) x emb) : SimB G L (.cons (.mth i m es) r) k x emb := by
  unfold SimB
  rw [seq_cons]
  show SimG L (seqS (bind (bind (cellAt i) fun _ => bind (evEs G es) fun ds => upM i (mtC m ds)) fun _ => ret .next) _) x emb
  rw [seq_bind, mbind_assoc]
  simp only [mbind_assoc]
  exact p
/-- x.m(y.pop(..)) -/
theorem args_pop {i : Nat} {e : IO} {f : List D → M Fl} {x : X γ} (p : SimG L (bind (cellAt i) fun _ => bind (evO G e) fun j => bind (upM i (popS j)) fun d => f [d]) x emb) : SimG L (bind (evEs G (.cons (.pop i e) .nil)) f) x emb := by
  rw [args_eq]
  show SimG L (bind (bind (cellAt i) fun _ => bind (evO G e) fun j => upM i (popS j)) _) x emb
  rw [mbind_assoc]
  simp only [mbind_assoc]
  exact p
theorem s_mthE {a : IE} {m : MT} {es : IEs} {x : X γ} (p : SimG L (bind (evE G a) fun x => bind (lstX x) fun _ => bind (evEs G es) fun ds => bind (upX x (mtC m ds)) fun _ => seqS (evSs G r) k) x emb) : SimB G L (.cons (.mthE a m es) r) k x emb := by
  unfold SimB
  rw [seq_cons]
  show SimG L (seqS (bind (bind (evE G a) fun x => bind (lstX x) fun _ => bind (evEs G es) fun ds => upX x (mtC m ds)) fun _ => ret .next) _) x emb
  rw [seq_bind, mbind_assoc]
  simp only [mbind_assoc]
  exact p
theorem t_lstX {d : D} : SimM L (lstX d) (X.lstX d) L := fun ρ st g => by
  unfold lstX X.lstX
  cases d <;> first | trivial | skip
  rename_i l
  simp only
  cases hc : st[l]? with
  | none => trivial
  | some c => cases c <;> first | trivial | exact ⟨_, ρ, rfl, rfl, g⟩
theorem t_upX {d : D} {F : Cell → Option (Cell × α)} : SimM L (upX d F) (X.upX d F) L := fun ρ st g => by
  unfold upX X.upX
  cases d <;> first | trivial | skip
  rename_i l
  simp only
  cases hc : st[l]? with
  | none => trivial
  | some c =>
    simp only
    cases liveF F c with
    | none => trivial
    | some q => exact ⟨_, ρ, rfl, rfl, g⟩
theorem s_fset {a e : IE} {f : Str} {x : X γ} (p : SimG L (bind (evE G e) fun d => bind (evE G a) fun x => bind (fsetM G.at_ x f d) fun _ => seqS (evSs G r) k) x emb) : SimB G L (.cons (.fset a f e) r) k x emb := by
  unfold SimB
  rw [seq_cons]
  show SimG L (seqS (bind (bind (evE G e) fun d => bind (evE G a) fun x => fsetM G.at_ x f d) fun _ => ret .next) _) x emb
  rw [seq_bind, mbind_assoc]
  simp only [mbind_assoc]
  exact p
theorem t_fset {ats : List (Str × Str)} {d v : D} {f : Str} : SimM L (fsetM ats d f v) (X.fset ats d f v) L := fun ρ st g => by
  unfold fsetM X.fset
  cases d <;> first | trivial | skip
  rename_i l
  simp only
  cases hc : st[l]? with
  | none => trivial
  | some c =>
    cases c with
    | ins c fs =>
      by_cases h : (ats.contains (c, f) && decide (fs.length < 1000)) = true
      · simp only [h, if_true]
        exact ⟨_, ρ, rfl, rfl, g⟩
      · simp only [h]
        trivial
    | lst => trivial
    | dct => trivial
    | frz => trivial
theorem s_rse {j : Nat} {es : IEs} {x : X γ} (p : SimG L (bind (evEs G es) fun ds => bind (opt G.exs[j]?) fun p => raiseM p ds) x emb) : SimB G L (.cons (.rse j es) r) k x emb := by
  unfold SimB
  rw [seq_cons]
  show SimG L (seqS (bind (evEs G es) fun ds => bind (opt G.exs[j]?) fun p => raiseM p ds) _) x emb
  have : seqS (bind (evEs G es) fun ds => bind (opt G.exs[j]?) fun p => raiseM p ds) (seqS (evSs G r) k) = bind (evEs G es) fun ds => bind (opt G.exs[j]?) fun p => raiseM p ds := by
    rw [seq_bind]
    congr 1
    funext ds
    rw [seq_bind]
    congr 1
    funext p ρ st
    unfold seqS bind raiseM
    by_cases h : ds.length = p.2.length
    · simp only [if_pos h]
    · simp only [if_neg h]
  rw [this]
  exact p
theorem t_rse {xs : List (Str × List Str)} {j : Nat} {p : Str × List Str} {ds : List D} (h : xs[j]? = some p) : SimG L (bind (opt xs[j]?) fun p => (raiseM p ds : M Fl)) (X.rse p ds : X γ) emb := by
  rw [h]
  intro ρ st g
  unfold X.rse
  by_cases hd : ds.length = p.2.length
  · rw [if_pos hd]
    refine ⟨ρ, ?_, g.length⟩
    show raiseM p ds ρ st = _
    unfold raiseM
    rw [if_pos hd]
  · rw [if_neg hd]; trivial
/-! try -/
def hdsOk : Hds → Nat → Bool
  | .nil, _ => true
  | .cons _ o _ r, n => okO o n && hdsOk r n
theorem findH_ok {exm : List (Str × Str)} {c : Str} {n : Nat} : ∀ {h : Hds} {o : Option Nat} {e : HE}, hdsOk h n = true → findH exm c h = some (o, e) → okO o n = true
  | .cons c' o' e' r, o, e, h, g => by
    unfold hdsOk at h
    rw [Bool.and_eq_true] at h
    unfold findH at g
    split at g
    · cases g; exact h.1
    · exact findH_ok h.2 g
theorem g_tri {b : ISs} {h : Hds} {A : X (O σ τ)} {Lj : σ → LEnv} {Lt : τ → LEnv} (ho : hdsOk h L.length = true) (p : SimB G L b (ret .next) A (embO Lj Lt)) : SimG L (evS G (.tri b h)) (X.tri G.exm G.xns h A) (embO Lj Lt) := fun ρ st g => by
  have h1 := p ρ st g
  unfold SimB at h1
  rw [seq_next] at h1
  have e0 : evS G (.tri b h) = triM G.exm G.xns (evSs G b) h := rfl
  rw [e0]
  unfold X.tri triM
  cases hx : A st with
  | ok o st' =>
    rw [hx] at h1
    obtain ⟨fl, ρ1, e1, q⟩ := h1
    rw [e1]
    exact ⟨fl, ρ1, rfl, q⟩
  | exc d st' =>
    rw [hx] at h1
    obtain ⟨ρ1, e1, g1⟩ := h1
    rw [e1]
    cases d with
    | exc c fs =>
      simp only
      by_cases hc : G.xns.contains c = true
      · simp only [hc, if_true]
        cases hf : findH G.exm c h with
        | none => exact ⟨ρ1, rfl, g1⟩
        | some q =>
          obtain ⟨o, e⟩ := q
          simp only
          rw [if_pos (by rw [g1]; exact findH_ok ho hf)]
          cases evH fs e with
          | none => trivial
          | some d => exact ⟨_, ρ1, rfl, rfl, rfl⟩
      · simp only [hc]
        trivial
    | _ => trivial
  | bad => trivial
theorem s_triF {b : ISs} {h : Hds} {A : X (O σ τ)} {y : σ → X D} (Lj : σ → LEnv) (Lt : τ → LEnv) (ho : hdsOk h L.length = true) (p : SimB G L b (ret .next) A (embO Lj Lt)) (q : ∀ s, SimB G (Lj s) r k (y s) embF) (hl : ∀ s, (Lj s).length = L.length) : SimB G L (.cons (.tri b h) r) k (X.qF (X.tri G.exm G.xns h A) y) embF := by
  unfold SimB
  rw [seq_cons]
  exact g_seqF (g_tri ho p) q hl
theorem s_triO {b : ISs} {h : Hds} {A : X (O σ τ)} {y : σ → X (O σ' τ)} (Lj : σ → LEnv) {Ln : σ' → LEnv} {Lt : τ → LEnv} (ho : hdsOk h L.length = true) (p : SimB G L b (ret .next) A (embO Lj Lt)) (q : ∀ s, SimB G (Lj s) r k (y s) (embO Ln Lt)) (hl : ∀ s, (Lj s).length = L.length) : SimB G L (.cons (.tri b h) r) k (X.qO (X.tri G.exm G.xns h A) y) (embO Ln Lt) := by
  unfold SimB
  rw [seq_cons]
  exact g_seqO (g_tri ho p) q hl
/-- the last of a def's rows -/
theorem s_triE {b : ISs} {h : Hds} {A : X D} (ho : hdsOk h L.length = true) (p : SimB G L b (ret .next) A embF) : SimB G L (.cons (.tri b h) .nil) (ret .next) (X.triF G.exm G.xns h A) embF := by
  unfold SimB
  rw [seq_next]
  have : evSs G (.cons (.tri b h) .nil) = evS G (.tri b h) := by
    show seqS (evS G (.tri b h)) (ret .next) = _
    exact seq_next
  rw [this]
  intro ρ st g
  have h1 := p ρ st g
  unfold SimB at h1
  rw [seq_next] at h1
  have e0 : evS G (.tri b h) = triM G.exm G.xns (evSs G b) h := rfl
  rw [e0]
  unfold X.triF triM
  cases hx : A st with
  | ok o st' =>
    rw [hx] at h1
    obtain ⟨fl, ρ1, e1, q⟩ := h1
    rw [e1]
    exact ⟨fl, ρ1, rfl, q⟩
  | exc d st' =>
    rw [hx] at h1
    obtain ⟨ρ1, e1, g1⟩ := h1
    rw [e1]
    cases d with
    | exc c fs =>
      simp only
      by_cases hc : G.xns.contains c = true
      · simp only [hc, if_true]
        cases hf : findH G.exm c h with
        | none => exact ⟨ρ1, rfl, g1⟩
        | some q =>
          obtain ⟨o, e⟩ := q
          simp only
          rw [if_pos (by rw [g1]; exact findH_ok ho hf)]
          cases evH fs e with
          | none => trivial
          | some d => exact ⟨_, ρ1, rfl, .inl rfl⟩
      · simp only [hc]
        trivial
    | _ => trivial
  | bad => trivial
/-! ### defs -/
def startL (n : Nat) (ds : List D) : LEnv := ds.map .val ++ List.replicate (n - ds.length) .nown
theorem has_start (n : Nat) (ds : List D) : Has (startL n ds) (startE n ds) := by
  unfold startL startE
  generalize n - ds.length = m
  induction ds with
  | nil =>
    induction m with
    | zero => trivial
    | succ m ih => exact ⟨rfl, ih⟩
  | cons d ds ih => exact ⟨rfl, ih⟩
theorem d_run {d : Def} {ds : List D} {x : X D} (L : LEnv) (hl : ds.length = d.np) (hL : startL d.nn ds = L) (h : SimB G L d.body (ret .next) x embF) : FRef (run G d) ds x := fun st => by
  have h1 := h (startE d.nn ds) st (by rw [← hL]; exact has_start _ _)
  unfold SimB at h1
  rw [seq_next] at h1
  unfold run
  rw [if_pos hl]
  cases hx : x st with
  | ok v st' =>
    rw [hx] at h1
    obtain ⟨fl, ρ1, e1, q⟩ := h1
    rw [e1]
    rcases q with rfl | ⟨rfl, rfl⟩ <;> rfl
  | exc v st' =>
    rw [hx] at h1
    obtain ⟨ρ1, e1, g1⟩ := h1
    rw [e1]
  | bad => trivial
theorem f_bad {F : Fn} {ds : List D} : FRef F ds X.bad := fun _ => trivial
end
end Z
namespace Z
section
variable {α β : Type} {L M1 : LEnv}
theorem sub_nil : Sub [] [] := trivial
theorem sub_cons {a b : Ent} (h : a.le b) (t : Sub L M1) : Sub (a :: L) (b :: M1) := ⟨h, t⟩
theorem le_any {a : Ent} : a.le .any := by cases a <;> trivial
theorem le_nown : Ent.nown.le .nown := trivial
theorem le_vn {d : D} : (Ent.val d).le .nown := trivial
theorem le_val {d : D} : (Ent.val d).le (.val d) := rfl
theorem le_own {xs : List D} : (Ent.own xs).le (.own xs) := rfl
theorem le_ve {d : D} : (Ent.val d).le (.eith d) := rfl
theorem le_oe {xs : List D} : (Ent.own xs).le (.eith (.lst xs)) := rfl
theorem le_eith {d : D} : (Ent.eith d).le (.eith d) := rfl
theorem g_post {m : M α} {x : X α} {L1 L2 : LEnv} (p : SimM L m x L1) (h : Sub L1 L2) : SimM L m x L2 := fun ρ st g => by
  have h1 := p ρ st g
  cases hx : x st with
  | ok b st' =>
    rw [hx] at h1
    obtain ⟨a, ρ1, e1, rfl, g1⟩ := h1
    exact ⟨a, ρ1, e1, rfl, h.has g1⟩
  | exc d st' => rw [hx] at h1; exact h1
  | bad => trivial
theorem b_bindB {m : M α} {f : α → M D} {A : X α} {y : α → X Bool} {L1 L' : LEnv} (h : SimM L m A L1) (p : ∀ a, SimM L1 (f a) (X.bl (y a)) L') (hl : L1.length = L.length := by rfl) : SimM L (bind m f) (X.bl (X.bind A y)) L' := by
  have e : X.bl (X.bind A y) = X.bind A fun a => X.bl (y a) := by
    unfold X.bl
    rw [xbind_assoc]
  rw [e]
  exact b_bind h p hl
end
end Z

/-! ZL: what is computed, step by step; the defs that the laws share. -/
namespace Z
open PySem
namespace XR
variable {α β : Type}
def bnd (r : XR α) (y : α → X β) : XR β := match r with
  | .ok a st => y a st
  | .exc e st => .exc e st
  | .bad => .bad
def op (o : Option α) (st : Store) : XR α := match o with
  | some a => .ok a st
  | none => .bad
def sel (r : XR Bool) (a b : X α) : XR α := match r with
  | .ok true st => a st
  | .ok false st => b st
  | .exc e st => .exc e st
  | .bad => .bad
@[simp] theorem bnd_ok {a : α} {st : Store} {y : α → X β} : (XR.ok a st).bnd y = y a st := (rfl)
@[simp] theorem bnd_exc {e : D} {st : Store} {y : α → X β} : (XR.exc e st).bnd y = .exc e st := (rfl)
@[simp] theorem bnd_bad {y : α → X β} : (XR.bad).bnd y = .bad := (rfl)
@[simp] theorem op_some {a : α} {st : Store} : op (some a) st = .ok a st := (rfl)
@[simp] theorem op_none {st : Store} : (op none st : XR α) = .bad := (rfl)
@[simp] theorem sel_t {st : Store} {a b : X α} : sel (.ok true st) a b = a st := (rfl)
@[simp] theorem sel_f {st : Store} {a b : X α} : sel (.ok false st) a b = b st := (rfl)
@[simp] theorem sel_e {st : Store} {e : D} {a b : X α} : sel (.exc e st) a b = .exc e st := (rfl)
@[simp] theorem sel_bad {a b : X α} : sel .bad a b = .bad := (rfl)
theorem sel_b {st : Store} {t : Bool} {a b : X α} : sel (.ok t st) a b = if t then a st else b st := by cases t <;> rfl
end XR
namespace X
variable {α β σ τ σ' : Type} {st : Store}
@[simp] theorem ap_pure {a : α} : X.pure a st = .ok a st := (rfl)
@[simp] theorem ap_bad : (X.bad : X α) st = .bad := (rfl)
@[simp] theorem ap_bind {x : X α} {y : α → X β} : X.bind x y st = (x st).bnd y := (rfl)
@[simp] theorem ap_opt {o : Option α} : X.opt o st = XR.op o st := by cases o <;> rfl
@[simp] theorem ap_iff {c : X Bool} {a b : X α} : X.iff c a b st = XR.sel (c st) a b := by
  show (X.bind c _) st = _
  unfold X.bind XR.sel
  cases c st with
  | ok t st => cases t <;> rfl
  | exc => rfl
  | bad => rfl
@[simp] theorem ap_tru {x : D} : X.tru x st = XR.op (truD (view st x)) st := (ap_opt)
@[simp] theorem ap_bl {x : X Bool} : X.bl x st = (x st).bnd fun t => X.pure (.bl t) := (rfl)
@[simp] theorem ap_not {x : X Bool} : X.not x st = (x st).bnd fun t => X.pure (!t) := (rfl)
@[simp] theorem ap_and {a b : X Bool} : X.and a b st = XR.sel (a st) b (X.pure false) := ap_iff
@[simp] theorem ap_or {a b : X Bool} : X.or a b st = XR.sel (a st) (X.pure true) b := ap_iff
@[simp] theorem ap_andV {a b : X D} : X.andV a b st = (a st).bnd fun x => X.iff (tru x) b (X.pure x) := (rfl)
@[simp] theorem ap_orV {a b : X D} : X.orV a b st = (a st).bnd fun x => X.iff (tru x) (X.pure x) b := (rfl)
@[simp] theorem ap_bin {op : Operator} {x y : D} : X.bin op x y st = XR.op (opD op (view st x) (view st y)) st := (ap_opt)
@[simp] theorem ap_un {op : UnaryOp} {x : D} : X.un op x st = XR.op (unD op x) st := (ap_opt)
@[simp] theorem ap_cmp {op : CmpOp} {x y : D} : X.cmp op x y st = XR.op (cmpD op (view st x) (view st y)) st := (ap_opt)
@[simp] theorem ap_fits {ds : List D} : X.fits ds st = if ds.length ≤ line then .ok ds st else .bad := (rfl)
@[simp] theorem ap_tup {ds : List D} : X.tup ds st = (X.fits ds st).bnd fun ds => X.pure (.tup ds) := (rfl)
@[simp] theorem ap_mkP {x : X (List D)} : X.mkP x st = (x st).bnd fun ds => X.pure (.lst ds) := (rfl)
@[simp] theorem ap_mkC {x : X (List D)} : X.mkC x st = (x st).bnd fun ds st => .ok (.ref st.length) (st ++ [.lst ds]) := (rfl)
@[simp] theorem ap_bi {f : BI} {x : D} : X.bi f x st = XR.op (biD f (view st x)) st := (ap_opt)
@[simp] theorem ap_bi2 {f : BI2} {x y : D} : X.bi2 f x y st = XR.op (bi2D f x y) st := (ap_opt)
@[simp] theorem ap_isi {x : D} {t : Ty} : X.isi x t st = XR.op (isiD (view st x) t) st := (ap_opt)
@[simp] theorem ap_isc {kls : List Str} {sub : List (Str × Str)} {x : D} {c : Str} : X.isc kls sub x c st = XR.op (iscD kls sub (view st x) c) st := (ap_opt)
@[simp] theorem ap_sub {x y : D} : X.sub x y st = XR.op (subD (view st x) y) st := (ap_opt)
@[simp] theorem ap_slc {x : D} {lo hi : Option Int} : X.slc x lo hi st = XR.op (slcD (view st x) lo hi) st := (ap_opt)
@[simp] theorem ap_fld {ats : List (Str × Str)} {x : D} {f : Str} : X.fld ats x f st = XR.op (fldD ats (view st x) f) st := (ap_opt)
@[simp] theorem toI_int {i : Int} : X.toI (.int i) = X.pure (some i) := (rfl)
@[simp] theorem ap_range1 {i : Int} : X.range1 (.int i) st = if small i then .ok (rng 0 i) st else .bad := (rfl)
@[simp] theorem ap_range2 {i j : Int} : X.range2 (.int i) (.int j) st = if small i && small j then .ok (rng i j) st else .bad := (rfl)
@[simp] theorem ap_seq {x : D} : X.seq x st = XR.op (seqItems x) st := (ap_opt)
@[simp] theorem ap_listT {xs : List D} : X.list (.tup xs) st = .ok xs st := (rfl)
@[simp] theorem ap_listL {xs : List D} : X.list (.lst xs) st = .ok xs st := (rfl)
@[simp] theorem ap_catL {xs ys : List D} : X.cat (.lst xs) (.lst ys) st = X.fits (xs ++ ys) st := (rfl)
@[simp] theorem ap_items2 {x y : D} : X.items2 (.tup [x, y]) st = .ok (x, y) st := (rfl)
@[simp] theorem ap_items3 {x y z : D} : X.items3 (.tup [x, y, z]) st = .ok (x, y, z) st := (rfl)
@[simp] theorem ap_items4 {x y z w : D} : X.items4 (.tup [x, y, z, w]) st = .ok (x, y, z, w) st := (rfl)
@[simp] theorem ap_one {e : X D} : X.one e st = (e st).bnd fun d => X.pure [d] := (rfl)
@[simp] theorem ap_oneIf {c : X Bool} {e : X D} : X.oneIf c e st = XR.sel (c st) (X.one e) (X.pure []) := ap_iff
@[simp] theorem ap_enum {x : D} : X.enum x st = XR.op (enumD x) st := ap_opt
@[simp] theorem ap_zip {x y : D} : X.zip x y st = XR.op (zipD x y) st := ap_opt
@[simp] theorem ap_frzI {i : Int} : X.frz (.int i) st = .ok (.int i) st := (rfl)
@[simp] theorem ap_frzL {xs : List D} : X.frz (.lst xs) st = .ok (.lst xs) st := (rfl)
theorem frz_ok {l : Nat} {xs : List D} (h : st[l]? = some (.lst xs)) : X.frz (.ref l) st = .ok (.lst xs) (st.set l (.frz xs)) := by
  unfold X.frz
  simp only [h]
@[simp] theorem ap_bits {x : D} : X.bits x st = XR.op (bitsD x) st := ap_opt
@[simp] theorem ap_items {x : D} : X.items x st = XR.op (itemsD (view st x)) st := (ap_opt)
@[simp] theorem ap_down {x y z : D} : X.down x y z st = XR.op (downD x y z) st := ap_opt
@[simp] theorem ap_sort {x : D} : X.sort x st = XR.op (sortD (view st x)) st := (ap_opt)
@[simp] theorem ap_revL {xs : List D} : X.rev (.lst xs) st = .ok xs.reverse st := (rfl)
@[simp] theorem enumD_lst {xs : List D} : enumD (.lst xs) = some (enumL xs) := (rfl)
@[simp] theorem zipD_lst {xs ys : List D} : zipD (.lst xs) (.lst ys) = some (zipL xs ys) := (rfl)
@[simp] theorem zipD_tup {xs ys : List D} : zipD (.tup xs) (.tup ys) = some (zipL xs ys) := (rfl)
@[simp] theorem ap_qF {x : X (O σ τ)} {r : σ → X D} : X.qF x r st = (x st).bnd fun o => match o with
  | .nx s => r s
  | .rt d => X.pure d
  | _ => X.bad := (rfl)
@[simp] theorem ap_qO {x : X (O σ τ)} {r : σ → X (O σ' τ)} : X.qO x r st = (x st).bnd fun o => match o with
  | .nx s => r s
  | .rt d => X.pure (.rt d)
  | .bk t => X.pure (.bk t)
  | .ct t => X.pure (.ct t) := (rfl)
@[simp] theorem ap_forV0 {body : D → σ → X σ} {s : σ} : X.forV body [] s st = .ok s st := (rfl)
@[simp] theorem ap_forO0 {body : D → σ → X (O σ σ)} {s : σ} : (X.forO body [] s : X (O σ τ)) st = .ok (.nx s) st := (rfl)
@[simp] theorem ap_forV1 {body : D → σ → X σ} {x : D} {xs : List D} {s : σ} : X.forV body (x :: xs) s st = (body x s st).bnd fun s => X.forV body xs s := (rfl)
@[simp] theorem ap_forO1 {body : D → σ → X (O σ σ)} {x : D} {xs : List D} {s : σ} : (X.forO body (x :: xs) s : X (O σ τ)) st = (body x s st).bnd fun o => match o with
    | .nx s => X.forO body xs s
    | .ct s => X.forO body xs s
    | .bk s => X.pure (.nx s)
    | .rt d => X.pure (.rt d) := (rfl)
end X
section
variable {st : Store}
@[simp] theorem view_int {i : Int} : view st (.int i) = .int i := (rfl)
@[simp] theorem view_bl {i : Bool} : view st (.bl i) = .bl i := (rfl)
@[simp] theorem view_str {i : Str} : view st (.str i) = .str i := (rfl)
@[simp] theorem view_non : view st .non = .non := (rfl)
@[simp] theorem view_tup {i : List D} : view st (.tup i) = .tup i := (rfl)
@[simp] theorem view_lst {i : List D} : view st (.lst i) = .lst i := (rfl)
@[simp] theorem view_dct {i : List (D × D)} : view st (.dct i) = .dct i := (rfl)
@[simp] theorem view_scr {i : List Int} : view st (.scr i) = .scr i := (rfl)
@[simp] theorem toD_lst {xs : List D} : (Cell.lst xs).toD = .lst xs := (rfl)
@[simp] theorem toD_ins {c : Str} {fs : List (Str × D)} : (Cell.ins c fs).toD = .ins c fs := (rfl)
@[simp] theorem items_tup {xs : List D} : itemsD (.tup xs) = some xs := (rfl)
@[simp] theorem items_lst {xs : List D} : itemsD (.lst xs) = some xs := (rfl)
@[simp] theorem bitsD_int {i : Int} : bitsD (.int i) = some (.int (Builtin.Int.intBits i : Nat)) := (rfl)
@[simp] theorem op_add {i j : Int} : opD .Add (.int i) (.int j) = some (.int (i + j)) := (rfl)
@[simp] theorem op_sub {i j : Int} : opD .Sub (.int i) (.int j) = some (.int (i - j)) := (rfl)
theorem op_mulI {i j : Int} : opD .Mult (.int i) (.int j) = if mulOk i j then some (.int (i * j)) else none := rfl
@[simp] theorem op_modI {i j : Int} : opD .Mod (.int i) (.int j) = if 0 < j then some (.int (i % j)) else none := (rfl)
@[simp] theorem op_divI {i j : Int} : opD .FloorDiv (.int i) (.int j) = if 0 < j ∧ j < 1073741824 then some (.int (i / j)) else none := (rfl)
@[simp] theorem op_shrI {i j : Int} : opD .RShift (.int i) (.int j) = if 0 ≤ j then some (.int (i / 2 ^ j.toNat)) else none := (rfl)
@[simp] theorem op_band {i j : Int} : opD .BitAnd (.int i) (.int j) = some (.int (Builtin.bitAnd i j)) := (rfl)
@[simp] theorem op_bor {i j : Int} : opD .BitOr (.int i) (.int j) = some (.int (Builtin.bitOr i j)) := (rfl)
@[simp] theorem op_bxor {i j : Int} : opD .BitXor (.int i) (.int j) = some (.int (Builtin.bitXor i j)) := (rfl)
@[simp] theorem un_neg {i : Int} : unD .USub (.int i) = some (.int (-i)) := (rfl)
@[simp] theorem un_inv {i : Int} : unD .Invert (.int i) = some (.int (Builtin.bitNot i)) := (rfl)
@[simp] theorem op_tup {a b : List D} : opD .Add (.tup a) (.tup b) = if a.length + b.length ≤ line then some (.tup (a ++ b)) else none := (rfl)
@[simp] theorem tru_bl {b : Bool} : truD (.bl b) = some b := (rfl)
@[simp] theorem tru_non : truD .non = some false := (rfl)
@[simp] theorem tru_int {i : Int} : truD (.int i) = some (i != 0) := (rfl)
@[simp] theorem tru_tup {xs : List D} : truD (.tup xs) = some (!xs.isEmpty) := (rfl)
@[simp] theorem tru_lst {xs : List D} : truD (.lst xs) = some (!xs.isEmpty) := (rfl)
@[simp] theorem cmp_lt {i j : Int} : cmpD .Lt (.int i) (.int j) = some (decide (i < j)) := (rfl)
@[simp] theorem cmp_le {i j : Int} : cmpD .LtE (.int i) (.int j) = some (decide (i ≤ j)) := (rfl)
@[simp] theorem cmp_gt {i j : Int} : cmpD .Gt (.int i) (.int j) = some (decide (j < i)) := (rfl)
@[simp] theorem cmp_ge {i j : Int} : cmpD .GtE (.int i) (.int j) = some (decide (j ≤ i)) := (rfl)
@[simp] theorem cmp_eqD {x y : D} : cmpD .Eq x y = eqD x y := (rfl)
@[simp] theorem cmp_neD {x y : D} : cmpD .NotEq x y = (eqD x y).map (!·) := (rfl)
@[simp] theorem is_non : cmpD .Is .non .non = some true := (rfl)
@[simp] theorem is_int {i : Int} : cmpD .Is (.int i) .non = some false := (rfl)
@[simp] theorem is_bl {i : Bool} : cmpD .Is (.bl i) .non = some false := (rfl)
@[simp] theorem is_str {i : Str} : cmpD .Is (.str i) .non = some false := (rfl)
@[simp] theorem is_tup {i : List D} : cmpD .Is (.tup i) .non = some false := (rfl)
@[simp] theorem is_lst {i : List D} : cmpD .Is (.lst i) .non = some false := (rfl)
@[simp] theorem is_dct {i : List (D × D)} : cmpD .Is (.dct i) .non = some false := (rfl)
@[simp] theorem is_ins {c : Str} {i : List (Str × D)} : cmpD .Is (.ins c i) .non = some false := (rfl)
@[simp] theorem is_ref {l : Nat} : cmpD .Is (.ref l) .non = some false := (rfl)
@[simp] theorem is_blb {a b : Bool} : cmpD .Is (.bl a) (.bl b) = some (decide (a = b)) := (rfl)
@[simp] theorem isn_non : cmpD .IsNot .non .non = some false := (rfl)
@[simp] theorem isn_int {i : Int} : cmpD .IsNot (.int i) .non = some true := (rfl)
@[simp] theorem isn_tup {i : List D} : cmpD .IsNot (.tup i) .non = some true := (rfl)
@[simp] theorem isn_lst {i : List D} : cmpD .IsNot (.lst i) .non = some true := (rfl)
@[simp] theorem isn_ref {l : Nat} : cmpD .IsNot (.ref l) .non = some true := (rfl)
@[simp] theorem isi_non {t : Ty} : isiD .non t = some false := (rfl)
@[simp] theorem isi_bl {b : Bool} {t : Ty} : isiD (.bl b) t = some (decide (t = .bool ∨ t = .int)) := (rfl)
@[simp] theorem isi_int {b : Int} {t : Ty} : isiD (.int b) t = some (decide (t = .int)) := (rfl)
@[simp] theorem isi_str {b : Str} {t : Ty} : isiD (.str b) t = some (decide (t = .str)) := (rfl)
@[simp] theorem isi_lst {b : List D} {t : Ty} : isiD (.lst b) t = some (decide (t = .list)) := (rfl)
@[simp] theorem isi_tup {b : List D} {t : Ty} : isiD (.tup b) t = some (decide (t = .tuple)) := (rfl)
@[simp] theorem isi_dct {b : List (D × D)} {t : Ty} : isiD (.dct b) t = some (decide (t = .dict)) := (rfl)
@[simp] theorem bi_lenT {xs : List D} : biD .len (.tup xs) = some (.int xs.length) := (rfl)
@[simp] theorem bi_lenL {xs : List D} : biD .len (.lst xs) = some (.int xs.length) := (rfl)
@[simp] theorem bi_lenS {xs : List Int} : biD .len (.scr xs) = some (.int xs.length) := (rfl)
@[simp] theorem bi_lenD {xs : List (D × D)} : biD .len (.dct xs) = some (.int xs.length) := (rfl)
@[simp] theorem bi_int {i : Int} : biD .int (.int i) = some (.int i) := (rfl)
@[simp] theorem bi_intB {i : Bool} : biD .int (.bl i) = some (.int (if i then 1 else 0)) := (rfl)
@[simp] theorem bi_tupL {xs : List D} : biD .tuple (.lst xs) = some (.tup xs) := (rfl)
@[simp] theorem bi_tupT {xs : List D} : biD .tuple (.tup xs) = some (.tup xs) := (rfl)
@[simp] theorem bi_abs {i : Int} : biD .abs (.int i) = some (.int (if i < 0 then -i else i)) := (rfl)
@[simp] theorem bi_sum {xs : List D} : biD .sum (.lst xs) = (intsD xs).map fun ns => .int ns.sum := (rfl)
@[simp] theorem bi_all {xs : List D} : biD .all (.lst xs) = (blsD xs).map fun bs => .bl (bs.all id) := (rfl)
@[simp] theorem bi_any {xs : List D} : biD .any (.lst xs) = (blsD xs).map fun bs => .bl (bs.any id) := (rfl)
@[simp] theorem max_int {i j : Int} : bi2D .max (.int i) (.int j) = some (.int (if j > i then j else i)) := (rfl)
@[simp] theorem min_int {i j : Int} : bi2D .min (.int i) (.int j) = some (.int (if j < i then j else i)) := (rfl)
@[simp] theorem seqI_tup {xs : List D} : seqItems (.tup xs) = some xs := (rfl)
@[simp] theorem seqI_lst {xs : List D} : seqItems (.lst xs) = some xs := (rfl)
@[simp] theorem X.ap_chain_le {st : Store} {a b c : Int} : X.chain .LtE .LtE (.int a) (.int b) (X.pure (.int c)) st = .ok (decide (a ≤ b) && decide (b ≤ c)) st := by
  unfold X.chain
  by_cases h : a ≤ b <;> simp [h]
theorem fit {n : Nat} (h : n ≤ 16777216) : n ≤ line := h
theorem line_is : line = 16777216 := (rfl)
@[simp] theorem le_line0 : 0 ≤ line := Nat.zero_le _
@[simp] theorem le_line1 : 1 ≤ line := (by decide : 1 ≤ 16777216)
@[simp] theorem le_line2 : 2 ≤ line := (by decide : 2 ≤ 16777216)
@[simp] theorem le_line3 : 3 ≤ line := (by decide : 3 ≤ 16777216)
@[simp] theorem le_line4 : 4 ≤ line := (by decide : 4 ≤ 16777216)
@[simp] theorem le_line5 : 5 ≤ line := (by decide : 5 ≤ 16777216)
@[simp] theorem le_line6 : 6 ≤ line := (by decide : 6 ≤ 16777216)
@[simp] theorem le_line7 : 7 ≤ line := (by decide : 7 ≤ 16777216)
@[simp] theorem le_line8 : 8 ≤ line := (by decide : 8 ≤ 16777216)
@[simp] theorem le_line9 : 9 ≤ line := (by decide : 9 ≤ 16777216)
@[simp] theorem le_line10 : 10 ≤ line := (by decide : 10 ≤ 16777216)
@[simp] theorem le_line11 : 11 ≤ line := (by decide : 11 ≤ 16777216)
@[simp] theorem le_line12 : 12 ≤ line := (by decide : 12 ≤ 16777216)
@[simp] theorem le_line13 : 13 ≤ line := (by decide : 13 ≤ 16777216)
@[simp] theorem le_line14 : 14 ≤ line := (by decide : 14 ≤ 16777216)
@[simp] theorem le_line15 : 15 ≤ line := (by decide : 15 ≤ 16777216)
@[simp] theorem le_line16 : 16 ≤ line := (by decide : 16 ≤ 16777216)
@[simp] theorem le_line17 : 17 ≤ line := (by decide : 17 ≤ 16777216)
@[simp] theorem le_line18 : 18 ≤ line := (by decide : 18 ≤ 16777216)
@[simp] theorem le_line19 : 19 ≤ line := (by decide : 19 ≤ 16777216)
@[simp] theorem le_line20 : 20 ≤ line := (by decide : 20 ≤ 16777216)
@[simp] theorem le_line21 : 21 ≤ line := (by decide : 21 ≤ 16777216)
@[simp] theorem le_line22 : 22 ≤ line := (by decide : 22 ≤ 16777216)
@[simp] theorem le_line23 : 23 ≤ line := (by decide : 23 ≤ 16777216)
@[simp] theorem le_line24 : 24 ≤ line := (by decide : 24 ≤ 16777216)
@[simp] theorem eq_ints {a b : Int} : eqD (.int a) (.int b) = some (decide (a = b)) := by
  have := eq_int a b
  exact this
@[simp] theorem eq_bls {a b : Bool} : eqD (.bl a) (.bl b) = some (decide (a = b)) := by
  cases a <;> cases b <;> rfl
theorem ixN_of {n i : Nat} (h : i < n) : ixN n (i : Int) = some i := by
  unfold ixN
  rw [if_pos (by omega), if_pos (by omega)]
  simp
theorem sub_tup {xs : List D} {i : Nat} {x : D} (h : xs[i]? = some x) : subD (.tup xs) (.int (i : Int)) = some x := by
  show (ixN xs.length (i : Int)).bind (fun j => xs[j]?) = _
  rw [ixN_of (List.getElem?_eq_some_iff.mp h).1]; exact h
theorem sub_lst {xs : List D} {i : Nat} {x : D} (h : xs[i]? = some x) : subD (.lst xs) (.int (i : Int)) = some x := by
  show (ixN xs.length (i : Int)).bind (fun j => xs[j]?) = _
  rw [ixN_of (List.getElem?_eq_some_iff.mp h).1]; exact h
end
theorem and_ok {st : Store} {P Q : X Bool} {p q : Bool} (h : P st = .ok p st) (g : p = true → Q st = .ok q st) : X.and P Q st = .ok (p && q) st := by
  cases p with
  | true => simp [h, g rfl]
  | false => simp [h]
theorem or_ok {st : Store} {P Q : X Bool} {p q : Bool} (h : P st = .ok p st) (g : p = false → Q st = .ok q st) : X.or P Q st = .ok (p || q) st := by
  cases p with
  | true => simp [h]
  | false => simp [h, g rfl]
theorem not_ok {st : Store} {P : X Bool} {p : Bool} (h : P st = .ok p st) : X.not P st = .ok (!p) st := by simp [h]
theorem bl_ok {st : Store} {P : X Bool} {p : Bool} (h : P st = .ok p st) : X.bl P st = .ok (.bl p) st := by simp [h]
theorem xbind_ok {α β : Type} {st st1 : Store} {x : X α} {y : α → X β} {a : α} {r : XR β} (h : x st = .ok a st1) (g : y a st1 = r) : X.bind x y st = r := by rw [X.ap_bind, h]; exact g
theorem iff_ok {α : Type} {st st1 : Store} {c : X Bool} {a b : X α} {t : Bool} {r : XR α} (h : c st = .ok t st1) (g : (if t then a st1 else b st1) = r) : X.iff c a b st = r := by rw [X.ap_iff, h, XR.sel_b]; exact g
theorem trub_ok {st st1 : Store} {x : X D} {b : Bool} (h : x st = .ok (.bl b) st1) : X.bind x (fun t => X.tru t) st = .ok b st1 := by simp [h]
theorem mkP_ok {st st1 : Store} {x : X (List D)} {xs : List D} (h : x st = .ok xs st1) : X.mkP x st = .ok (.lst xs) st1 := by simp [h]
theorem make_ok {st st1 : Store} {c : Str} {init : D → X D} (h : init (.ref st.length) (st ++ [.ins c []]) = .ok .non st1) : X.make c init st = .ok (.ref st.length) st1 := by unfold X.make; rw [h]
theorem make_exc {st st1 : Store} {c : Str} {init : D → X D} {e : D} (h : init (.ref st.length) (st ++ [.ins c []]) = .exc e st1) : X.make c init st = .exc e st1 := by unfold X.make; rw [h]
theorem bind_exc {α β : Type} {st st1 : Store} {x : X α} {y : α → X β} {e : D} (h : x st = .exc e st1) : X.bind x y st = .exc e st1 := by rw [X.ap_bind, h]; rfl
theorem mkP_exc {st st1 : Store} {x : X (List D)} {e : D} (h : x st = .exc e st1) : X.mkP x st = .exc e st1 := by rw [X.ap_mkP, h]; rfl
theorem triF_ok {st st1 : Store} {exm : List (Str × Str)} {xns : List Str} {h : Hds} {x : X D} {d : D} (e : x st = .ok d st1) : X.triF exm xns h x st = .ok d st1 := by unfold X.triF; rw [e]
theorem triF_exc {st st1 : Store} {exm : List (Str × Str)} {xns : List Str} {h : Hds} {x : X D} {c : Str} {fs : List (Str × D)} {d : D} (e : x st = .exc (.exc c fs) st1) (hd : X.hnd exm xns h (.exc c fs) = some d) : X.triF exm xns h x st = .ok d st1 := by
  simp only [X.hnd] at hd
  unfold X.triF
  rw [e]
  simp only
  by_cases hc : xns.contains c = true
  · rw [if_pos hc] at hd ⊢
    cases hf : findH exm c h with
    | none => rw [hf] at hd; cases hd
    | some q =>
      obtain ⟨o, f⟩ := q
      rw [hf] at hd
      simp only at hd ⊢
      rw [hd]
  · rw [if_neg hc] at hd; cases hd
theorem fset_ok {st : Store} {ats : List (Str × Str)} {l : Nat} {c f : Str} {fs : List (Str × D)} {v : D} (h : st[l]? = some (.ins c fs)) (ha : ats.contains (c, f) = true) (hn : fs.length < 1000) : X.fset ats (.ref l) f v st = .ok () (st.set l (.ins c (putD f v fs))) := by
  have : (ats.contains (c, f) && decide (fs.length < 1000)) = true := by rw [ha, decide_eq_true hn]; rfl
  simp only [X.fset, h, this, if_true]
theorem set_set {st : Store} {l : Nat} {a b : Cell} : (st.set l a).set l b = st.set l b := by simp
theorem set_app {st : Store} {a b : Cell} : (st ++ [a]).set st.length b = st ++ [b] := by
  rw [List.set_append_right _ _ (Nat.le_refl _)]
  simp
theorem get_app {st : Store} {a : Cell} : (st ++ [a])[st.length]? = some a := by simp
@[simp] theorem liveF_lst {α : Type} {f : Cell → Option (Cell × α)} {xs : List D} : liveF f (.lst xs) = f (.lst xs) := (rfl)
@[simp] theorem liveF_ins {α : Type} {f : Cell → Option (Cell × α)} {c : Str} {fs : List (Str × D)} : liveF f (.ins c fs) = f (.ins c fs) := (rfl)
theorem X.app_ok {st : Store} {xs : List D} {d : D} (h : xs.length < line) : X.upL xs (mtC .append [d]) st = .ok (xs ++ [d], ()) st := by
  unfold X.upL mtC
  simp only [if_pos h]
theorem X.appX_ok {st : Store} {l : Nat} {xs : List D} {d : D} (hc : st[l]? = some (.lst xs)) (h : xs.length < line) : X.upX (.ref l) (mtC .append [d]) st = .ok () (st.set l (.lst (xs ++ [d]))) := by
  unfold X.upX mtC
  simp only [hc, liveF_lst, if_pos h]
/-! ### steps of a run -/
def WR {α : Type} (r : XR α) (Q : α → Store → Prop) : Prop := ∃ a st', r = .ok a st' ∧ Q a st'
section
variable {α β γ : Type} {st : Store}
@[simp] theorem wr_ok {a : α} {Q : α → Store → Prop} : WR (.ok a st) Q ↔ Q a st := ⟨fun ⟨_, _, e, q⟩ => by cases e; exact q, fun q => ⟨a, st, rfl, q⟩⟩
@[simp] theorem wr_bad {Q : α → Store → Prop} : WR .bad Q ↔ False := ⟨fun ⟨_, _, e, q⟩ => (by cases e), fun q => q.elim⟩
@[simp] theorem wr_exc {e : D} {Q : α → Store → Prop} : WR (.exc e st) Q ↔ False := ⟨fun ⟨_, _, e, q⟩ => (by cases e), fun q => q.elim⟩
theorem wr_bnd {r : XR α} {f : α → X β} {P : α → Store → Prop} {Q : β → Store → Prop} (h : WR r P) (k : ∀ a st', P a st' → WR (f a st') Q) : WR (r.bnd f) Q := by
  obtain ⟨a, st', rfl, p⟩ := h
  exact k a st' p
theorem wr_mono {r : XR α} {P Q : α → Store → Prop} (h : WR r P) (k : ∀ a st', P a st' → Q a st') : WR r Q := by
  obtain ⟨a, st', rfl, p⟩ := h
  exact ⟨a, st', rfl, k a st' p⟩
@[simp] theorem bnd_bnd {r : XR α} {f : α → X β} {g : β → X γ} : (r.bnd f).bnd g = r.bnd fun a => X.bind (f a) g := by cases r <;> rfl
@[simp] theorem sel_bnd {r : XR α} {f : α → X Bool} {a b : X β} : XR.sel (r.bnd f) a b = r.bnd fun x => X.iff (f x) a b := by
  cases r with
  | ok x st =>
    show XR.sel (f x st) a b = X.iff (f x) a b st
    rw [X.ap_iff]
  | exc => rfl
  | bad => rfl
@[simp] theorem sel_sel {r : XR Bool} {p q : X Bool} {a b : X β} : XR.sel (XR.sel r p q) a b = XR.sel r (X.iff p a b) (X.iff q a b) := by
  cases r with
  | ok x st =>
    cases x
    · show XR.sel (q st) a b = X.iff q a b st
      rw [X.ap_iff]
    · show XR.sel (p st) a b = X.iff p a b st
      rw [X.ap_iff]
  | exc => rfl
  | bad => rfl
@[simp] theorem sel_dec {p : Prop} [Decidable p] {a b : X β} : XR.sel (.ok (decide p) st) a b = if p then a st else b st := by
  by_cases h : p <;> simp [h]
theorem bnd_sel {r : XR Bool} {a b : X α} {f : α → X β} : (XR.sel r a b).bnd f = XR.sel r (X.bind a f) (X.bind b f) := by
  cases r with
  | ok x st => cases x <;> rfl
  | exc => rfl
  | bad => rfl
theorem bnd_ite {p : Prop} [Decidable p] {a b : XR α} {f : α → X β} : (if p then a else b).bnd f = if p then a.bnd f else b.bnd f := by split <;> rfl
@[simp] theorem pure_bnd {r : XR α} : r.bnd X.pure = r := by cases r <;> rfl
end
/-! ### runs that end well -/
def Wp {α : Type} (x : X α) (st : Store) (Q : α → Store → Prop) : Prop := ∃ a st', x st = .ok a st' ∧ Q a st'
section
variable {α β σ τ σ' : Type} {st st1 : Store} {Q : β → Store → Prop}
theorem wp_bind {x : X α} {y : α → X β} (P : α → Store → Prop) (h : Wp x st P) (k : ∀ a st', P a st' → Wp (y a) st' Q) : Wp (X.bind x y) st Q := by
  obtain ⟨a, st', e, p⟩ := h
  obtain ⟨b, st2, e2, q⟩ := k a st' p
  exact ⟨b, st2, by rw [X.ap_bind, e]; exact e2, q⟩
theorem wp_ok {x : X α} {y : α → X β} {a : α} (h : x st = .ok a st1) (k : Wp (y a) st1 Q) : Wp (X.bind x y) st Q := by
  obtain ⟨b, st2, e2, q⟩ := k
  exact ⟨b, st2, by rw [X.ap_bind, h]; exact e2, q⟩
theorem wp_pure {b : β} (h : Q b st) : Wp (X.pure b) st Q := ⟨b, st, rfl, h⟩
theorem wp_eq {x : X β} {b : β} (e : x st = .ok b st1) (h : Q b st1) : Wp x st Q := ⟨b, st1, e, h⟩
theorem wp_t {c : X Bool} {a b : X β} (h : c st = .ok true st1) (k : Wp a st1 Q) : Wp (X.iff c a b) st Q := by
  obtain ⟨r, st2, e2, q⟩ := k
  exact ⟨r, st2, by rw [X.ap_iff, h]; exact e2, q⟩
theorem wp_f {c : X Bool} {a b : X β} (h : c st = .ok false st1) (k : Wp b st1 Q) : Wp (X.iff c a b) st Q := by
  obtain ⟨r, st2, e2, q⟩ := k
  exact ⟨r, st2, by rw [X.ap_iff, h]; exact e2, q⟩
theorem wp_if {c : X Bool} {a b : X β} {t : Bool} (h : c st = .ok t st1) (k1 : t = true → Wp a st1 Q) (k2 : t = false → Wp b st1 Q) : Wp (X.iff c a b) st Q := by
  cases t with
  | true => exact wp_t h (k1 rfl)
  | false => exact wp_f h (k2 rfl)
theorem wp_mono {x : X β} {P : β → Store → Prop} (h : Wp x st P) (k : ∀ a st', P a st' → Q a st') : Wp x st Q := by
  obtain ⟨a, st', e, p⟩ := h
  exact ⟨a, st', e, k a st' p⟩
theorem wp_qF {x : X (O σ τ)} {r : σ → X D} {Q : D → Store → Prop} (P : O σ τ → Store → Prop) (h : Wp x st P) (k1 : ∀ s st', P (.nx s) st' → Wp (r s) st' Q) (k2 : ∀ d st', P (.rt d) st' → Q d st') (k3 : ∀ t st', ¬ P (.bk t) st') (k4 : ∀ t st', ¬ P (.ct t) st') : Wp (X.qF x r) st Q := by
  refine wp_bind P h fun o st' p => ?_
  cases o with
  | nx s => exact k1 s st' p
  | rt d => exact wp_pure (k2 d st' p)
  | bk t => exact absurd p (k3 t st')
  | ct t => exact absurd p (k4 t st')
/-- a loop that is never left -/
theorem wp_forV {body : D → σ → X σ} {xs : List D} {s0 : σ} (Inv : Nat → σ → Store → Prop) (h0 : Inv 0 s0 st) (hs : ∀ i x s st, xs[i]? = some x → Inv i s st → Wp (body x s) st (Inv (i + 1))) : Wp (X.forV body xs s0) st (Inv xs.length) := by
  have key : ∀ (n i : Nat) (s : σ) (st : Store), xs.length - i = n → i ≤ xs.length → Inv i s st → Wp (X.forV body (xs.drop i) s) st (Inv xs.length) := by
    intro n
    induction n with
    | zero =>
      intro i s st h1 h2 h3
      have e : i = xs.length := by omega
      subst e
      exact ⟨s, st, by rw [List.drop_length]; rfl, h3⟩
    | succ n ih =>
      intro i s st h1 h2 h3
      have hlt : i < xs.length := by omega
      rw [List.drop_eq_getElem_cons hlt]
      exact wp_bind (Inv (i + 1)) (hs i xs[i] s st (by simp [hlt]) h3) fun s' st' h => ih (i + 1) s' st' (by omega) hlt h
  have := key xs.length 0 s0 st (by simp) (Nat.zero_le _) h0
  rwa [List.drop_zero] at this
/-- a loop with ways out: Ret tells what may be handed back -/
theorem wp_forO {body : D → σ → X (O σ σ)} {xs : List D} {s0 : σ} (Inv : Nat → σ → Store → Prop) (Ret : D → Store → Prop) (End : σ → Store → Prop) (h0 : Inv 0 s0 st)
    (hs : ∀ i x s st, xs[i]? = some x → Inv i s st → Wp (body x s) st fun o st' => match o with
      | .nx s' => Inv (i + 1) s' st'
      | .ct s' => Inv (i + 1) s' st'
      | .bk s' => End s' st'
      | .rt d => Ret d st') (he : ∀ s st, Inv xs.length s st → End s st) : Wp (X.forO body xs s0 : X (O σ τ)) st fun o st' => match o with
      | .nx s' => End s' st'
      | .rt d => Ret d st'
      | _ => False := by
  have key : ∀ (n i : Nat) (s : σ) (st : Store), xs.length - i = n → i ≤ xs.length → Inv i s st → Wp (X.forO body (xs.drop i) s : X (O σ τ)) st fun o st' => match o with
      | .nx s' => End s' st'
      | .rt d => Ret d st'
      | _ => False := by
    intro n
    induction n with
    | zero =>
      intro i s st h1 h2 h3
      have e : i = xs.length := by omega
      subst e
      exact ⟨.nx s, st, by rw [List.drop_length]; rfl, he s st h3⟩
    | succ n ih =>
      intro i s st h1 h2 h3
      have hlt : i < xs.length := by omega
      rw [List.drop_eq_getElem_cons hlt]
      obtain ⟨o, st', e, p⟩ := hs i xs[i] s st (by simp [hlt]) h3
      cases o with
      | nx s' =>
        obtain ⟨o2, st2, e2, p2⟩ := ih (i + 1) s' st' (by omega) hlt p
        exact ⟨o2, st2, by rw [X.ap_forO1, e]; exact e2, p2⟩
      | ct s' =>
        obtain ⟨o2, st2, e2, p2⟩ := ih (i + 1) s' st' (by omega) hlt p
        exact ⟨o2, st2, by rw [X.ap_forO1, e]; exact e2, p2⟩
      | bk s' => exact ⟨.nx s', st', by rw [X.ap_forO1, e]; rfl, p⟩
      | rt d => exact ⟨.rt d, st', by rw [X.ap_forO1, e]; rfl, p⟩
  have := key xs.length 0 s0 st (by simp) (Nat.zero_le _) h0
  rwa [List.drop_zero] at this
/-- a while: so many turns are left at most -/
theorem wp_whlV {c : σ → X Bool} {body : σ → X σ} {s0 : σ} (Inv : Nat → σ → Store → Prop) (End : σ → Store → Prop) (n : Nat) (hn : n < many) (h0 : Inv n s0 st)
    (hs : ∀ n s st, Inv n s st → ∃ t st1, c s st = .ok t st1 ∧ (t = true → 0 < n ∧ Wp (body s) st1 (Inv (n - 1))) ∧ (t = false → End s st1)) : Wp (X.whlV c body many s0) st End := by
  have key : ∀ (m n : Nat) (s : σ) (st : Store), n < m → Inv n s st → Wp (X.whlV c body m s) st End := by
    intro m
    induction m with
    | zero => intro n s st h; omega
    | succ m ih =>
      intro n s st h hi
      obtain ⟨t, st1, e, h1, h2⟩ := hs n s st hi
      cases t with
      | true =>
        obtain ⟨hp, hb⟩ := h1 rfl
        exact wp_t e (wp_bind (Inv (n - 1)) hb fun s' st' h => ih (n - 1) s' st' (by omega) h)
      | false => exact wp_f e (wp_pure (h2 rfl))
  exact key many n s0 st hn h0
/-! comprehensions -/
theorem turns_eq {go : D → X (List D)} {g : D → List D} : ∀ {xs : List D}, (∀ x ∈ xs, go x st = .ok (g x) st) → X.turns go xs st = .ok (xs.flatMap g) st
  | [], _ => rfl
  | x :: xs, h => by
    show (X.bind (go x) fun a => X.bind (X.turns go xs) fun b => X.pure (a ++ b)) st = _
    rw [X.ap_bind, h x List.mem_cons_self, XR.bnd_ok, X.ap_bind, turns_eq fun y hy => h y (List.mem_cons_of_mem _ hy)]
    rfl
theorem lc_eq {go : D → X (List D)} {g : D → List D} {xs : List D} (h : ∀ x ∈ xs, go x st = .ok (g x) st) (hl : (xs.flatMap g).length ≤ line) : X.lc go xs st = .ok (xs.flatMap g) st := by
  unfold X.lc
  rw [X.ap_bind]
  unfold X.calm
  rw [turns_eq h]
  show X.fits _ st = _
  rw [X.ap_fits, if_pos hl]
theorem flatMap_one {f : D → D} : ∀ xs : List D, xs.flatMap (fun x => [f x]) = xs.map f
  | [] => rfl
  | x :: xs => by rw [List.flatMap_cons, flatMap_one xs]; rfl
theorem flatMap_if {p : D → Bool} {f : D → D} : ∀ xs : List D, xs.flatMap (fun x => if p x then [f x] else []) = (xs.filter p).map f
  | [] => rfl
  | x :: xs => by
    rw [List.flatMap_cons, flatMap_if xs]
    cases h : p x with
    | true => rw [List.filter_cons_of_pos h]; rfl
    | false => rw [List.filter_cons_of_neg (by simp [h])]; rfl
theorem lc_map {e : D → X D} {xs : List D} (f : D → D) (h : ∀ x ∈ xs, e x st = .ok (f x) st) (hl : xs.length ≤ line) : X.lc (fun x => X.one (e x)) xs st = .ok (xs.map f) st := by
  rw [lc_eq (g := fun x => [f x]) (fun x hx => by rw [X.ap_one, h x hx]; rfl) (by rw [flatMap_one, List.length_map]; exact hl), flatMap_one]
theorem lc_filter {c : D → X Bool} {e : D → X D} {xs : List D} (p : D → Bool) (f : D → D) (hc : ∀ x ∈ xs, c x st = .ok (p x) st) (h : ∀ x ∈ xs, p x = true → e x st = .ok (f x) st) (hl : xs.length ≤ line) : X.lc (fun x => X.oneIf (c x) (e x)) xs st = .ok ((xs.filter p).map f) st := by
  rw [lc_eq (g := fun x => if p x then [f x] else []) (fun x hx => ?_) (by rw [flatMap_if, List.length_map]; exact Nat.le_trans (List.length_filter_le _ _) hl), flatMap_if]
  rw [X.ap_oneIf, hc x hx]
  cases hp : p x with
  | true => rw [XR.sel_t, X.ap_one, h x hx hp]; rfl
  | false => rfl
/-- a comprehension that changes the store -/
theorem wp_lc {e : D → X D} {xs : List D} {Q : List D → Store → Prop} (Inv : Nat → List D → Store → Prop) (h0 : Inv 0 [] st) (hs : ∀ i x ds st, xs[i]? = some x → Inv i ds st → Wp (e x) st fun d st' => Inv (i + 1) (ds ++ [d]) st') (hl : xs.length ≤ line) (he : ∀ ds st, ds.length = xs.length → Inv xs.length ds st → Q ds st) : Wp (X.lc (fun x => X.one (e x)) xs) st Q := by
  have key : ∀ (n i : Nat) (ds : List D) (st : Store), xs.length - i = n → i ≤ xs.length → Inv i ds st → ∃ es st', X.turns (fun x => X.one (e x)) (xs.drop i) st = .ok es st' ∧ es.length = xs.length - i ∧ Inv xs.length (ds ++ es) st' := by
    intro n
    induction n with
    | zero =>
      intro i ds st h1 h2 h3
      have ei : i = xs.length := by omega
      subst ei
      exact ⟨[], st, by rw [List.drop_length]; rfl, by simp, by rw [List.append_nil]; exact h3⟩
    | succ n ih =>
      intro i ds st h1 h2 h3
      have hlt : i < xs.length := by omega
      obtain ⟨d, st1, e1, h4⟩ := hs i xs[i] ds st (by simp [hlt]) h3
      obtain ⟨es, st2, e2, hl2, h5⟩ := ih (i + 1) (ds ++ [d]) st1 (by omega) hlt h4
      refine ⟨d :: es, st2, ?_, by simp; omega, by simpa using h5⟩
      rw [List.drop_eq_getElem_cons hlt]
      show (X.bind (X.one (e xs[i])) fun a => X.bind (X.turns _ (xs.drop (i + 1))) fun b => X.pure (a ++ b)) st = _
      rw [X.ap_bind, X.ap_one, e1]
      show (X.bind (X.turns _ (xs.drop (i + 1))) fun b => X.pure ([d] ++ b)) st1 = _
      rw [X.ap_bind, e2]
      rfl
  obtain ⟨es, st', e1, hl1, h1⟩ := key xs.length 0 [] st (by simp) (Nat.zero_le _) h0
  rw [List.drop_zero] at e1
  refine ⟨es, st', ?_, he es st' (by simpa using hl1) (by simpa using h1)⟩
  unfold X.lc
  rw [X.ap_bind]
  unfold X.calm
  rw [e1]
  show X.fits _ st' = _
  rw [X.ap_fits, if_pos (by rw [hl1]; exact Nat.le_trans (Nat.sub_le _ _) hl)]
end
end Z

/-! ZG: the laws' draws, and what is the same. -/
namespace Z
open PySem
def L_box (great0 : D) : X D := X.mkC (X.bind (X.bi .abs great0) fun t0 => X.bind (X.bl (X.bind (X.bi .abs great0) fun t1 => X.bind (X.bin .Pow (D.int 10) (D.int 18)) fun t2 => X.cmp .GtE t1 t2)) fun t3 => X.bind (X.bind (X.bind (X.bi .abs great0) fun t4 => X.bi .int t4) fun t5 => X.bin .Mod t5 (D.int 2147483629)) fun t6 => X.fits [t0, t3, t6, (D.int 0)])
def L_cell (script0 k0 : D) : X D := X.iff (X.bind (X.bi .len script0) fun t0 => X.cmp .Lt k0 t0) (X.sub script0 k0) (X.bind (X.bin .Mult (D.int 6007) k0) fun t1 => X.bind (X.bind (X.bind (X.bind (X.slc script0 none (some 1)) fun t2 => X.bi .sum t2) fun t3 => X.bi .int t3) fun t4 => X.bin .Mod t4 (D.int 1000033)) fun t5 => X.bin .Add t1 t5)
def L_take (box0 many0 : D) : X D := X.iff (X.and (X.bind (X.sub box0 (D.int 1)) fun t0 => X.tru t0) (X.bind (X.sub box0 (D.int 0)) fun t1 => X.cmp .Gt t1 (D.int 0))) (X.bind (X.bind (X.bind (X.sub box0 (D.int 0)) fun t2 => X.bi .int t2) fun t3 => X.bin .Mod t3 many0) fun digit0 => X.bind (X.bind (X.sub box0 (D.int 0)) fun t4 => X.bin .FloorDiv t4 many0) fun t5 => X.bind (X.lstX box0) fun _ => X.bind (X.upX box0 (setC (D.int 0) t5)) fun _ => X.pure digit0) (X.bind (X.bind (X.sub box0 (D.int 3)) fun t6 => X.bin .Add t6 (D.int 1)) fun t7 => X.bind (X.lstX box0) fun _ => X.bind (X.upX box0 (setC (D.int 3) t7)) fun _ => X.bind (X.bind (X.bind (X.bind (X.bind (X.bind (X.sub box0 (D.int 2)) fun t8 => X.bind (X.bind (X.sub box0 (D.int 3)) fun t9 => X.bin .Mult (D.int 15485863) t9) fun t10 => X.bin .Add t8 t10) fun t11 => X.bin .Add t11 (D.int 179424673)) fun t12 => X.bin .Pow t12 (D.int 5)) fun t13 => X.bi .int t13) fun t14 => X.bin .Mod t14 (D.int 2147483647)) fun mixed0 => X.bind (X.bind (X.bind (X.bind (X.bind (X.bind (X.bind (X.bin .Mult mixed0 (D.int 48271)) fun t15 => X.bind (X.bind (X.sub box0 (D.int 3)) fun t16 => X.bin .Mult (D.int 104729) t16) fun t17 => X.bin .Add t15 t17) fun t18 => X.bin .Pow t18 (D.int 3)) fun t19 => X.bi .int t19) fun t20 => X.bin .Mod t20 (D.int 2147483587)) fun t21 => X.bin .FloorDiv t21 (D.int 64)) fun t22 => X.bi .int t22) fun t23 => X.bin .Mod t23 many0)
/-- only the cell l and new cells differ -/
def Fr (l : Nat) (st st' : Store) : Prop := st.length ≤ st'.length ∧ ∀ k, k < st.length → k ≠ l → st'[k]? = st[k]?
/-- the draw box stands at l, at most n draws behind; all else as in st0 -/
def Bx (l : Nat) (n : Int) (st0 st : Store) : Prop := Box st l n ∧ Fr l st0 st
theorem Fr.refl (l : Nat) (st : Store) : Fr l st st := ⟨Nat.le_refl _, fun _ _ _ => rfl⟩
theorem Fr.trans {l : Nat} {a b c : Store} (h : Fr l a b) (g : Fr l b c) : Fr l a c := ⟨Nat.le_trans h.1 g.1, fun k hk hl => (g.2 k (Nat.lt_of_lt_of_le hk h.1) hl).trans (h.2 k hk hl)⟩
theorem Fr.app (l : Nat) (st ys : Store) : Fr l st (st ++ ys) := ⟨by simp, fun k hk _ => List.getElem?_append_left hk⟩
theorem Fr.set (l : Nat) (st : Store) (c : Cell) : Fr l st (st.set l c) := ⟨by simp, fun k _ hl => List.getElem?_set_ne (Ne.symm hl)⟩
theorem Fr.get {l : Nat} {a b : Store} (h : Fr l a b) {k : Nat} {c : Cell} (hk : a[k]? = some c) (hl : k ≠ l) : b[k]? = some c := (h.2 k (List.getElem?_eq_some_iff.mp hk).1 hl).trans hk
theorem Box.mono {st : Store} {l : Nat} {n m : Int} (h : Box st l n) (g : n ≤ m) : Box st l m := by
  obtain ⟨a, b, c, d, h1, h2, h3, h4, h5⟩ := h
  exact ⟨a, b, c, d, h1, h2, h3, h4, by omega⟩
theorem Bx.mono {st0 st : Store} {l : Nat} {n m : Int} (h : Bx l n st0 st) (g : n ≤ m) : Bx l m st0 st := ⟨h.1.mono g, h.2⟩
theorem Box.lt {st : Store} {l : Nat} {n : Int} (h : Box st l n) : l < st.length := by
  obtain ⟨a, b, c, d, h1, _⟩ := h
  exact (List.getElem?_eq_some_iff.mp h1).1
theorem Bx.app {st0 st : Store} {l : Nat} {n : Int} (h : Bx l n st0 st) (ys : Store) : Bx l n st0 (st ++ ys) := by
  refine ⟨?_, h.2.trans (Fr.app l st ys)⟩
  obtain ⟨a, b, c, d, h1, h2⟩ := h.1
  exact ⟨a, b, c, d, by rw [List.getElem?_append_left h.1.lt]; exact h1, h2⟩
theorem Bx.base {st0 st : Store} {l : Nat} {n : Int} (h : Bx l n st0 st) : Bx l n st st := ⟨h.1, Fr.refl l st⟩
theorem Bx.back {a b c : Store} {l : Nat} {n m : Int} (h : Bx l n a b) (g : Bx l m b c) : Bx l m a c := ⟨g.1, h.2.trans g.2⟩
theorem vref {st : Store} {l : Nat} {c : Cell} (h : st[l]? = some c) : view st (.ref l) = c.toD := view_ref h
theorem take_wp {st0 st : Store} {l : Nat} {n m : Int} (hb : Bx l n st0 st) (hn : n ≤ 1000000) (h0 : 0 < m) (h1 : m < 1073741824) :
    Wp (L_take (.ref l) (.int m)) st fun d st' => ∃ v, d = .int v ∧ 0 ≤ v ∧ v < m ∧ Bx l (n + 1) st0 st' := by
  obtain ⟨⟨g, b, c, d, h, hc0, hc1, hd0, hd1⟩, hf⟩ := hb
  have hv := vref h
  have s0 : subD (.lst [.int g, .bl b, .int c, .int d]) (.int 0) = some (.int g) := rfl
  have s1 : subD (.lst [.int g, .bl b, .int c, .int d]) (.int 1) = some (.bl b) := rfl
  have s3 : subD (.lst [.int g, .bl b, .int c, .int d]) (.int 3) = some (.int d) := rfl
  have hlst : X.lstX (.ref l) st = .ok () st := by simp only [X.lstX, h]
  have ev : ∀ {α : Type} {f : Cell → Option (Cell × α)} {c' : Cell} {a : α}, f (.lst [.int g, .bl b, .int c, .int d]) = some (c', a) → X.upX (.ref l) f st = .ok a (st.set l c') := fun e => by simp only [X.upX, h, liveF_lst, e]
  by_cases hg : b = true ∧ 0 < g
  · obtain ⟨rfl, hg⟩ := hg
    refine wp_t (st1 := st) (by simp [hv, s0, s1, hg]) ?_
    refine wp_ok (a := .int (g % m)) (st1 := st) (by simp [hv, s0, h0]) ?_
    refine wp_ok (a := .int (g / m)) (st1 := st) (by simp [hv, s0, h0, h1]) ?_
    refine wp_ok hlst (wp_ok (ev rfl) (wp_pure ⟨_, rfl, Int.emod_nonneg _ (by omega), Int.emod_lt_of_pos _ h0, ⟨g / m, true, c, d, set_get h, hc0, hc1, hd0, by omega⟩, hf.trans (Fr.set _ _ _)⟩))
  · have hset : (st.set l (.lst [.int g, .bl b, .int c, .int (d + 1)]))[l]? = some (.lst [.int g, .bl b, .int c, .int (d + 1)]) := set_get h
    have hv2 := vref hset
    refine wp_f (st1 := st) ?_ ?_
    · cases b with
      | false => simp [hv, s1]
      | true =>
        have : ¬ 0 < g := fun z => hg ⟨rfl, z⟩
        simp [hv, s1, s0, this]
    refine wp_ok (a := .int (d + 1)) (st1 := st) (by simp [hv, s3]) ?_
    refine wp_ok hlst (wp_ok (ev (c' := .lst [.int g, .bl b, .int c, .int (d + 1)]) rfl) ?_)
    have s2' : subD (.lst [.int g, .bl b, .int c, .int (d + 1)]) (.int 2) = some (.int c) := rfl
    have s3' : subD (.lst [.int g, .bl b, .int c, .int (d + 1)]) (.int 3) = some (.int (d + 1)) := rfl
    generalize hM : (c + 15485863 * (d + 1) + 179424673) ^ (5 : Int).toNat % 2147483647 = M
    have hM0 : 0 ≤ M := by rw [← hM]; exact Int.emod_nonneg _ (by decide)
    have hM1 : M < 2147483647 := by rw [← hM]; exact Int.emod_lt_of_pos _ (by decide)
    have q1 : ∀ j, opD .Mult (.int 15485863) (.int j) = some (.int (15485863 * j)) := fun j => op_mul rfl
    have q2 : opD .Pow (.int (c + 15485863 * (d + 1) + 179424673)) (.int 5) = some (.int ((c + 15485863 * (d + 1) + 179424673) ^ (5 : Int).toNat)) := op_pow (powOk_of (by decide) (by decide) (by omega) (by omega))
    have q3 : opD .Mult (.int M) (.int 48271) = some (.int (M * 48271)) := op_mul (by simp [mulOk])
    have q4 : ∀ j, opD .Mult (.int 104729) (.int j) = some (.int (104729 * j)) := fun j => op_mul rfl
    have q5 : opD .Pow (.int (M * 48271 + 104729 * (d + 1))) (.int 3) = some (.int ((M * 48271 + 104729 * (d + 1)) ^ (3 : Int).toNat)) := op_pow (powOk_of (by decide) (by decide) (by omega) (by omega))
    refine wp_ok (a := .int M) (st1 := st.set l (.lst [.int g, .bl b, .int c, .int (d + 1)])) ?_ ?_
    · simp only [X.ap_bind, X.ap_sub, hv2, toD_lst, s2', s3', XR.op_some, XR.bnd_ok, X.ap_bin, view_int, q1, op_add, q2, X.ap_bi, bi_int, op_modI, hM]
      simp [hM]
    · refine wp_eq (b := .int ((M * 48271 + 104729 * (d + 1)) ^ (3 : Int).toNat % 2147483587 / 64 % m)) ?_ ⟨_, rfl, Int.emod_nonneg _ (by omega), Int.emod_lt_of_pos _ h0, ⟨g, b, c, d + 1, set_get h, hc0, hc1, by omega, by omega⟩, hf.trans (Fr.set _ _ _)⟩
      simp only [X.ap_bind, X.ap_sub, hv2, toD_lst, s3', XR.op_some, XR.bnd_ok, X.ap_bin, view_int, q3, q4, op_add, q5, X.ap_bi, bi_int, op_modI, op_divI]
      simp [h0]
theorem take_wr {st0 st : Store} {l : Nat} {n m : Int} (hb : Bx l n st0 st) (hn : n ≤ 1000000) (h0 : 0 < m) (h1 : m < 1073741824) : WR (L_take (.ref l) (.int m) st) fun d st' => ∃ v, d = .int v ∧ 0 ≤ v ∧ v < m ∧ Bx l (n + 1) st0 st' := take_wp hb hn h0 h1
theorem ints_map' : ∀ ns : List Int, intsD (ns.map .int) = some ns
  | [] => rfl
  | n :: ns => by
    show (intsD (ns.map .int)).map (n :: ·) = _
    rw [ints_map' ns]; rfl
theorem cell_eq (ns : List Int) (k : Nat) (st : Store) : ∃ g, L_cell (.scr ns) (.int k) st = .ok (.int g) st := by
  unfold L_cell
  by_cases h : k < ns.length
  · refine ⟨ns[k], ?_⟩
    have e : subD (.scr ns) (.int k) = some (.int ns[k]) := by
      show (ixN ns.length (k : Int)).bind (fun j => ns[j]?.map D.int) = _
      rw [ixN_of h]
      simp [h]
    simp [e, h]
  · refine ⟨6007 * (k : Int) + (cut ns none (some 1)).sum % 1000033, ?_⟩
    have e : slcD (.scr ns) none (some 1) = some (.lst ((cut ns none (some 1)).map .int)) := rfl
    have e2 : opD .Mult (.int 6007) (.int k) = some (.int (6007 * k)) := op_mul rfl
    simp [e, e2, h, ints_map']
def nwBox (g : Int) : Cell := .lst [.int (if g < 0 then -g else g), .bl (decide (10 ^ 18 ≤ if g < 0 then -g else g)), .int ((if g < 0 then -g else g) % 2147483629), .int 0]
theorem box_eq' (g : Int) (st : Store) : L_box (.int g) st = .ok (.ref st.length) (st ++ [nwBox g]) := rfl
theorem box_bx (g : Int) (st : Store) : Bx st.length 0 st (st ++ [nwBox g]) :=
  ⟨⟨if g < 0 then -g else g, decide (10 ^ 18 ≤ if g < 0 then -g else g), (if g < 0 then -g else g) % 2147483629, 0, by simp [nwBox], Int.emod_nonneg _ (by decide), Int.emod_lt_of_pos _ (by decide), by decide, by decide⟩, Fr.app _ _ _⟩
def L_same : Nat → D → D → X D
  | 0, _, _ => X.bad
  | n + 1, told0, due0 => X.iff (X.or (X.cmp .Is due0 D.non) (X.isi due0 .bool)) (X.iff (X.cmp .Is due0 D.non) (X.bl (X.cmp .Is told0 D.non)) (X.bl (X.and (X.isi told0 .bool) (X.bind (X.bl (X.cmp .Is told0 (D.bl true))) fun t0 => X.bind (X.bl (X.cmp .Is due0 (D.bl true))) fun t1 => X.cmp .Eq t0 t1)))) (X.iff (X.isi due0 .int) (X.bl (X.and (X.isi told0 .int) (X.and (X.not (X.isi told0 .bool)) (X.bind (X.bind (X.bi .int told0) fun t2 => X.bin .Sub t2 due0) fun t3 => X.cmp .Eq t3 (D.int 0))))) (X.iff (X.isi due0 .str) (X.bl (X.and (X.isi told0 .str) (X.and (X.bind (X.bi .len told0) fun t4 => X.bind (X.bi .len due0) fun t5 => X.cmp .Eq t4 t5) (X.bind (X.mkP (X.bind (X.bind (X.bi .len due0) fun t6 => X.range1 t6) fun xs => X.lc (fun k0 => X.oneIf (X.bind (X.bind (X.toI k0) fun i0 => X.bind (X.bind (X.bin .Add k0 (D.int 1)) X.toI) fun i1 => X.slc told0 i0 i1) fun t7 => X.bind (X.sub due0 k0) fun t8 => X.cmp .NotEq t7 t8) (X.pure k0)) xs)) fun t9 => X.bind (X.mkP (X.fits [])) fun t10 => X.cmp .Eq t9 t10)))) (X.iff (X.or (X.bind (X.bl (X.isi told0 .list)) fun t11 => X.bind (X.bl (X.isi due0 .list)) fun t12 => X.cmp .NotEq t11 t12) (X.bind (X.bl (X.isi told0 .tuple)) fun t13 => X.bind (X.bl (X.isi due0 .tuple)) fun t14 => X.cmp .NotEq t13 t14)) (X.pure (D.bl false)) (X.bl (X.and (X.bind (X.bi .len told0) fun t15 => X.bind (X.bi .len due0) fun t16 => X.cmp .Eq t15 t16) (X.bind (X.mkP (X.bind (X.bind (X.bi .len due0) fun t17 => X.range1 t17) fun xs => X.lc (fun k1 => X.oneIf (X.not (X.bind (X.bind (X.sub told0 k1) fun t18 => X.bind (X.sub due0 k1) fun t19 => L_same n t18 t19) fun t20 => X.tru t20)) (X.pure k1)) xs)) fun t21 => X.bind (X.mkP (X.fits [])) fun t22 => X.cmp .Eq t21 t22))))))
/-- the same all through, lists by their content -/
def SameD (st : Store) : Nat → D → D → Prop
  | 0, _, _ => False
  | n + 1, x, y => match view st x, view st y with
    | .non, .non => True
    | .bl a, .bl b => a = b
    | .int a, .int b => a = b
    | .str a, .str b => a = b ∧ a.length ≤ line
    | .lst xs, .lst ys => xs.length = ys.length ∧ ys.length ≤ line ∧ ∀ (i : Nat) (a b : D), xs[i]? = some a → ys[i]? = some b → SameD st n a b
    | .tup xs, .tup ys => xs.length = ys.length ∧ ys.length ≤ line ∧ ∀ (i : Nat) (a b : D), xs[i]? = some a → ys[i]? = some b → SameD st n a b
    | _, _ => False
theorem rng_mem' {n : Nat} {x : D} (h : x ∈ rng 0 n) : ∃ i < n, x = .int (i : Nat) := by
  unfold rng at h
  simp only [List.mem_map, List.mem_range] at h
  obtain ⟨i, h1, rfl⟩ := h
  exact ⟨i, by omega, by simp⟩
theorem rng_len (n : Nat) : (rng 0 n).length = n := by unfold rng; simp
theorem small_nat' {n : Nat} (h : n ≤ 16777216) : small (n : Int) = true := small_nat (show n ≤ line from h)
theorem filter_no {xs : List D} : (xs.filter fun _ => false).map (id : D → D) = [] := by
  rw [List.filter_eq_nil_iff.mpr fun _ _ => by simp]; rfl
@[simp] theorem eq_nil : eqD (.lst []) (.lst []) = some true := rfl
theorem same_items {go : D → D → X D} {x y : D} {st : Store} {xs ys : List D} (hx : ∀ i, X.sub x i st = XR.op (subD (.lst xs) i) st ∨ X.sub x i st = XR.op (subD (.tup xs) i) st) (hy : ∀ i, X.sub y i st = XR.op (subD (.lst ys) i) st ∨ X.sub y i st = XR.op (subD (.tup ys) i) st) (hl : xs.length = ys.length) (hz : ys.length ≤ line)
    (h : ∀ (i : Nat) (a b : D), xs[i]? = some a → ys[i]? = some b → go a b st = .ok (.bl true) st) : X.lc (fun k1 => X.oneIf (X.not (X.bind (X.bind (X.sub x k1) fun t18 => X.bind (X.sub y k1) fun t19 => go t18 t19) fun t20 => X.tru t20)) (X.pure k1)) (rng 0 (ys.length : Nat)) st = .ok [] st := by
  rw [lc_filter (fun _ => false) id (fun k hk => ?_) (fun _ _ z => by cases z) (by rw [rng_len]; exact hz), filter_no]
  obtain ⟨i, hi, rfl⟩ := rng_mem' hk
  have h1 : xs[i]? = some xs[i] := List.getElem?_eq_getElem (by omega)
  have h2 : ys[i]? = some ys[i] := List.getElem?_eq_getElem hi
  have e1 : X.sub x (.int i) st = .ok xs[i] st := by rcases hx (.int i) with e | e <;> rw [e] <;> first | rw [sub_lst h1]; rfl | rw [sub_tup h1]; rfl
  have e2 : X.sub y (.int i) st = .ok ys[i] st := by rcases hy (.int i) with e | e <;> rw [e] <;> first | rw [sub_lst h2]; rfl | rw [sub_tup h2]; rfl
  rw [X.ap_not, X.ap_bind, X.ap_bind, e1, XR.bnd_ok, X.ap_bind, e2, XR.bnd_ok, h i _ _ h1 h2]
  rfl
theorem str_at {s : Str} {i : Nat} (hz : s.length ≤ line) (h : i < s.cps.toList.length) : subD (.str s) (.int i) = some (.str ⟨#[s.cps.toList[i]]⟩) := by
  show (if s.length ≤ line then _ else _) = _
  rw [if_pos hz, ixN_of h]
  simp
theorem str_cut {s : Str} {i : Nat} (hz : s.length ≤ line) (h : i < s.cps.toList.length) : slcD (.str s) (some i) (some (i + 1)) = some (.str ⟨#[s.cps.toList[i]]⟩) := by
  show (if s.length ≤ line then _ else _) = _
  rw [if_pos hz]
  unfold cut sIx
  simp only
  rw [if_neg (by omega), if_neg (by omega)]
  have e1 : ((i : Int)).toNat = i := by omega
  have e2 : ((i : Int) + 1).toNat = i + 1 := by omega
  rw [e1, e2, Nat.min_eq_left (by omega), Nat.min_eq_left (by omega), show i + 1 - i = 1 by omega, List.drop_eq_getElem_cons h]
  simp
theorem eq_str (s : Str) (h : PyData.canLay0 (.str s) = true) : eqD (.str s) (.str s) = some true := by
  show eqD0 (.str s) (.str s) = _
  unfold eqD0
  have : SeqAt.shaped (.str s) = true := by
    unfold SeqAt.shaped
    rw [h]; rfl
  simp only [toPy, this, Bool.and_self, if_true]
  congr 1
  exact SeqAt.eqv_refl _ h
section
variable {n : Nat} {x y : D} {st : Store}
theorem same_non (hx : view st x = .non) (hy : view st y = .non) : L_same (n + 1) x y st = .ok (.bl true) st := by unfold L_same; simp [hx, hy]
theorem same_bl {b : Bool} (hx : view st x = .bl b) (hy : view st y = .bl b) : L_same (n + 1) x y st = .ok (.bl true) st := by unfold L_same; simp [hx, hy]
theorem same_int {b : Int} (hx : view st x = .int b) (hy : view st y = .int b) : L_same (n + 1) x y st = .ok (.bl true) st := by unfold L_same; simp [hx, hy]
theorem same_str {s : Str} (hx : view st x = .str s) (hy : view st y = .str s) (hz : s.length ≤ line) (hc : PyData.canLay0 (.str s) = true) (hc1 : ∀ c ∈ s.cps.toList, PyData.canLay0 (.str ⟨#[c]⟩) = true) : L_same (n + 1) x y st = .ok (.bl true) st := by
  have hl : s.length = s.cps.toList.length := by simp [Str.length]
  have q : ∀ k ∈ rng 0 (s.length : Nat), (X.bind (X.bind (X.toI k) fun i0 => X.bind (X.bind (X.bin .Add k (D.int 1)) X.toI) fun i1 => X.slc x i0 i1) fun t7 => X.bind (X.sub y k) fun t8 => X.cmp .NotEq t7 t8) st = .ok false st := by
    intro k hk
    obtain ⟨i, hi, rfl⟩ := rng_mem' hk
    have hi' : i < s.cps.toList.length := by omega
    simp only [X.toI_int, X.ap_bind, X.ap_pure, XR.bnd_ok, X.ap_bin, view_int, op_add, XR.op_some, X.ap_slc, hx, str_cut hz hi', X.ap_sub, hy, str_at hz hi', X.ap_cmp, view_str, cmp_neD, eq_str _ (hc1 _ (List.getElem_mem hi'))]
    rfl
  have q2 := lc_filter (xs := rng 0 (s.length : Nat)) (e := X.pure) (fun _ => false) id q (fun _ _ z => by cases z) (by rw [rng_len]; exact hz)
  rw [filter_no] at q2
  have hlen : biD .len (.str s) = some (.int s.length) := by show (if s.length ≤ line then _ else _) = _; rw [if_pos hz]
  unfold L_same
  simp [hx, hy, hlen, small_nat' hz, q2]
theorem same_lst {xs ys : List D} (hx : view st x = .lst xs) (hy : view st y = .lst ys) (h1 : xs.length = ys.length) (h2 : ys.length ≤ line) (h3 : ∀ (i : Nat) (a b : D), xs[i]? = some a → ys[i]? = some b → L_same n a b st = .ok (.bl true) st) : L_same (n + 1) x y st = .ok (.bl true) st := by
  have := same_items (go := L_same n) (x := x) (y := y) (st := st) (xs := xs) (ys := ys) (fun i => .inl (by simp [hx])) (fun i => .inl (by simp [hy])) h1 h2 h3
  unfold L_same
  simp [hx, hy, h1, small_nat' h2, this]
theorem same_tup {xs ys : List D} (hx : view st x = .tup xs) (hy : view st y = .tup ys) (h1 : xs.length = ys.length) (h2 : ys.length ≤ line) (h3 : ∀ (i : Nat) (a b : D), xs[i]? = some a → ys[i]? = some b → L_same n a b st = .ok (.bl true) st) : L_same (n + 1) x y st = .ok (.bl true) st := by
  have := same_items (go := L_same n) (x := x) (y := y) (st := st) (xs := xs) (ys := ys) (fun i => .inr (by simp [hx])) (fun i => .inr (by simp [hy])) h1 h2 h3
  unfold L_same
  simp [hx, hy, h1, small_nat' h2, this]
end
/-! kinds of values -/
def kindOk : D → Bool
  | .non | .bl _ | .int _ | .str _ | .tup _ | .lst _ | .dct _ => true
  | _ => false
/-- a value of a kind that isinstance knows -/
def Knd (st : Store) (v : D) : Prop := kindOk (view st v) = true
theorem ref_cases (st : Store) (l : Nat) : (∃ c, st[l]? = some c ∧ view st (.ref l) = c.toD) ∨ (st[l]? = none ∧ view st (.ref l) = .ref l) := by
  cases h : st[l]? with
  | none => exact .inr ⟨rfl, by simp [view, h]⟩
  | some c => exact .inl ⟨c, rfl, by simp [view, h]⟩
/-- an int, a truth value, or neither -/
theorem Knd.cases {st : Store} {v : D} (h : Knd st v) : (∃ i, v = .int i) ∨ (∃ b, v = .bl b) ∨ ((∀ i, v ≠ .int i) ∧ (∀ i, v ≠ .bl i) ∧ isiD (view st v) .int = some false ∧ isiD (view st v) .bool = some false) := by
  unfold Knd at h
  cases v with
  | int i => exact .inl ⟨i, rfl⟩
  | bl b => exact .inr (.inl ⟨b, rfl⟩)
  | ref l =>
    refine .inr (.inr ⟨fun i => by simp, fun i => by simp, ?_⟩)
    rcases ref_cases st l with ⟨c, h1, h2⟩ | ⟨h1, h2⟩
    · rw [h2] at h ⊢
      cases c with
      | lst => exact ⟨rfl, rfl⟩
      | dct => exact ⟨rfl, rfl⟩
      | ins => cases h
      | frz => exact ⟨rfl, rfl⟩
    · rw [h2] at h; cases h
  | ins => cases h
  | exc => cases h
  | scr => cases h
  | _ => exact .inr (.inr ⟨fun i => by simp, fun i => by simp, by simp, by simp⟩)
/-! values that are the same as themselves, their lists at places from l on -/
def Slf (st : Store) (l : Nat) : Nat → D → Prop
  | 0, _ => False
  | n + 1, v => match v with
    | .non | .bl _ | .int _ => True
    | .str s => s.length ≤ line ∧ PyData.canLay0 (.str s) = true ∧ ∀ c ∈ s.cps.toList, PyData.canLay0 (.str ⟨#[c]⟩) = true
    | .tup xs => xs.length ≤ 100000 ∧ ∀ x ∈ xs, Slf st l n x
    | .lst xs => xs.length ≤ 100000 ∧ ∀ x ∈ xs, Slf st l n x
    | .dct kvs => kvs = []
    | .ref r => l ≤ r ∧ ∃ xs, st[r]? = some (.lst xs) ∧ xs.length ≤ 100000 ∧ ∀ x ∈ xs, Slf st l n x
    | _ => False
theorem Slf.go {l l' : Nat} {st st' : Store} (hl : l' ≤ l) (f : ∀ r c, l ≤ r → st[r]? = some c → st'[r]? = some c) : ∀ {n : Nat} {v : D}, Slf st l n v → Slf st' l' n v
  | 0, _, h => h
  | n + 1, v, h => by
    cases v <;> simp only [Slf] at h ⊢ <;> try exact h
    · exact ⟨h.1, fun x hx => Slf.go hl f (h.2 x hx)⟩
    · exact ⟨h.1, fun x hx => Slf.go hl f (h.2 x hx)⟩
    · obtain ⟨h1, xs, h2, h3, h4⟩ := h
      exact ⟨Nat.le_trans hl h1, xs, f _ _ h1 h2, h3, fun x hx => Slf.go hl f (h4 x hx)⟩
theorem Slf.fr {l z : Nat} {st st' : Store} {n : Nat} {v : D} (h : Slf st z n v) (f : Fr l st st') (hl : l < z) : Slf st' z n v := h.go (Nat.le_refl _) fun r c h1 h2 => f.get h2 (by omega)
theorem Slf.set {r z : Nat} {st : Store} {c : Cell} {n : Nat} {v : D} (h : Slf st z n v) (hl : r < z) : Slf (st.set r c) z n v := h.go (Nat.le_refl _) fun k c h1 h2 => by rw [List.getElem?_set_ne (by omega)]; exact h2
theorem Bx.set {st0 st : Store} {l r : Nat} {n : Int} {c : Cell} (b : Bx l n st0 st) (h1 : r ≠ l) (h2 : st0.length ≤ r) : Bx l n st0 (st.set r c) := by
  refine ⟨?_, by simp; exact b.2.1, fun k hk hl => by rw [List.getElem?_set_ne (by omega)]; exact b.2.2 k hk hl⟩
  obtain ⟨g, b', c', d, q, q2⟩ := b.1
  exact ⟨g, b', c', d, by rw [List.getElem?_set_ne h1]; exact q, q2⟩
theorem Slf.up {l : Nat} {st : Store} : ∀ {n : Nat} {v : D}, Slf st l n v → Slf st l (n + 1) v
  | 0, _, h => h.elim
  | n + 1, v, h => by
    cases v <;> simp only [Slf] at h ⊢ <;> try exact h
    · exact ⟨h.1, fun x hx => Slf.up (h.2 x hx)⟩
    · exact ⟨h.1, fun x hx => Slf.up (h.2 x hx)⟩
    · obtain ⟨h1, xs, h2, h3, h4⟩ := h
      exact ⟨h1, xs, h2, h3, fun x hx => Slf.up (h4 x hx)⟩
theorem Slf.knd {l : Nat} {st : Store} : ∀ {n : Nat} {v : D}, Slf st l n v → Knd st v
  | 0, _, h => h.elim
  | n + 1, v, h => by
    cases v <;> simp only [Slf] at h <;> first | rfl | (exact h.elim) | skip
    obtain ⟨h1, xs, h2, h3, h4⟩ := h
    unfold Knd
    rw [vref h2]; rfl
theorem same_dct0 {n : Nat} {x y : D} {st : Store} (hx : view st x = .dct []) (hy : view st y = .dct []) : L_same (n + 1) x y st = .ok (.bl true) st := by
  unfold L_same
  have e : X.lc (fun k1 => X.oneIf (X.not (X.bind (X.bind (X.sub x k1) fun t18 => X.bind (X.sub y k1) fun t19 => L_same n t18 t19) fun t20 => X.tru t20)) (X.pure k1)) (rng 0 0) st = .ok [] st := rfl
  have e2 : small 0 = true := by decide
  simp [hx, hy, e, e2]
theorem same_self {l : Nat} {st : Store} : ∀ {n : Nat} {v : D}, Slf st l n v → L_same n v v st = .ok (.bl true) st
  | 0, _, h => h.elim
  | n + 1, v, h => by
    cases v <;> simp only [Slf] at h <;> try (exact h.elim)
    · exact same_non rfl rfl
    · exact same_bl rfl rfl
    · exact same_int rfl rfl
    · exact same_str rfl rfl h.1 h.2.1 h.2.2
    · exact same_tup rfl rfl rfl (Nat.le_trans h.1 (by decide)) fun i a b ha hb => by
        rw [ha] at hb; cases hb
        exact same_self (h.2 _ (List.mem_of_getElem? ha))
    · exact same_lst rfl rfl rfl (Nat.le_trans h.1 (by decide)) fun i a b ha hb => by
        rw [ha] at hb; cases hb
        exact same_self (h.2 _ (List.mem_of_getElem? ha))
    · subst h; exact same_dct0 rfl rfl
    · obtain ⟨h1, xs, h2, h3, h4⟩ := h
      exact same_lst (vref h2) (vref h2) rfl (Nat.le_trans h3 (by decide)) fun i a b ha hb => by
        rw [ha] at hb; cases hb
        exact same_self (h4 _ (List.mem_of_getElem? ha))
theorem sub_mem {xs : List D} {v : Int} (h0 : 0 ≤ v) (h1 : v < xs.length) : ∃ x, subD (.lst xs) (.int v) = some x ∧ subD (.tup xs) (.int v) = some x ∧ x ∈ xs ∧ xs[v.toNat]? = some x := by
  obtain ⟨i, rfl⟩ : ∃ i : Nat, v = i := ⟨v.toNat, by omega⟩
  have h2 : xs[i]? = some xs[i] := List.getElem?_eq_getElem (by omega)
  exact ⟨xs[i], sub_lst h2, sub_tup h2, List.getElem_mem _, by simpa using h2⟩
def nums (xs : List Int) : List D := xs.map D.int
@[simp] theorem nums_nil : nums [] = [] := (rfl)
theorem nums_cons (x : Int) (xs : List Int) : nums (x :: xs) = .int x :: nums xs := (rfl)
@[simp] theorem nums_len (xs : List Int) : (nums xs).length = xs.length := by simp [nums]
@[simp] theorem nums_app (xs ys : List Int) : nums xs ++ nums ys = nums (xs ++ ys) := by simp [nums]
@[simp] theorem nums_snoc (xs : List Int) (t : Int) : nums xs ++ [.int t] = nums (xs ++ [t]) := by simp [nums]
@[simp] theorem nums_get (xs : List Int) (i : Nat) : (nums xs)[i]? = xs[i]?.map D.int := by simp [nums]
@[simp] theorem nums_getElem (xs : List Int) (i : Nat) (h : i < (nums xs).length) : (nums xs)[i] = .int (xs[i]'(by simpa using h)) := by simp [nums]
theorem nums_mem {xs : List Int} {x : D} (h : x ∈ nums xs) : ∃ i ∈ xs, x = .int i := by
  obtain ⟨i, h1, rfl⟩ := List.mem_map.mp h
  exact ⟨i, h1, rfl⟩
theorem nums_inj {xs ys : List Int} (h : nums xs = nums ys) : xs = ys := List.map_inj_right (fun a b e => by cases e; rfl) |>.mp h
theorem intsD_nums (xs : List Int) : intsD (nums xs) = some xs := ints_map' xs
theorem slf_int {st : Store} {l n : Nat} {i : Int} : Slf st l (n + 1) (.int i) := trivial
theorem slf_ints {st : Store} {l n : Nat} {xs : List Int} (h : xs.length ≤ 100000) : Slf st l (n + 2) (.tup (nums xs)) := by
  refine ⟨by simpa using h, fun x hx => ?_⟩
  obtain ⟨i, _, rfl⟩ := nums_mem hx
  trivial
theorem eq_lnil (xs : List D) : eqD (.lst xs) (.lst []) = some xs.isEmpty := by
  cases xs with
  | nil => rfl
  | cons x xs =>
    unfold eqD lenDiff
    rw [if_pos (by simp)]
    rfl
theorem bls_map {α : Type} (f : α → Bool) : ∀ xs : List α, blsD (xs.map fun x => D.bl (f x)) = some (xs.map f)
  | [] => rfl
  | x :: xs => by
    show (blsD (xs.map fun x => D.bl (f x))).map (f x :: ·) = _
    rw [bls_map f xs]; rfl
theorem Knd.app {st ys : Store} {v : D} (h : Knd st v) : Knd (st ++ ys) v ∧ view (st ++ ys) v = view st v := by
  cases v <;> first | exact ⟨h, rfl⟩ | skip
  rename_i l
  rcases ref_cases st l with ⟨c, h1, h2⟩ | ⟨h1, h2⟩
  · have : (st ++ ys)[l]? = some c := by rw [List.getElem?_append_left (List.getElem?_eq_some_iff.mp h1).1]; exact h1
    have e : view (st ++ ys) (.ref l) = view st (.ref l) := by rw [vref this, vref h1]
    exact ⟨by unfold Knd; rw [e]; exact h, e⟩
  · unfold Knd at h; rw [h2] at h; cases h
/-! == of tuples and lists of ints -/
theorem toPys_nums : ∀ xs : List Int, toPys (nums xs) = some (xs.map PyData.int)
  | [] => rfl
  | x :: xs => by
    show (match toPy (.int x), toPys (nums xs) with | some a, some as => some (a :: as) | _, _ => none) = _
    rw [toPys_nums xs]; rfl
theorem canLay_nums : ∀ xs : List Int, PyData.canLayAll0 (xs.map PyData.int) = true
  | [] => rfl
  | x :: xs => by
    show (PyData.canLay0 (.int x) && PyData.canLayAll0 (xs.map PyData.int)) = true
    rw [canLay_nums xs]; rfl
theorem depth_nums : ∀ xs : List Int, PyData.depthAll (xs.map PyData.int) = 0
  | [] => rfl
  | x :: xs => by
    show max (PyData.depth (.int x)) (PyData.depthAll (xs.map PyData.int)) = 0
    rw [depth_nums xs]; rfl
theorem eqv_nums : ∀ xs ys : List Int, PyData.eqvAll (xs.map PyData.int) (ys.map PyData.int) = decide (xs = ys)
  | [], [] => rfl
  | [], _ :: _ => rfl
  | _ :: _, [] => rfl
  | x :: xs, y :: ys => by
    show ((x == y) && PyData.eqvAll (xs.map PyData.int) (ys.map PyData.int)) = _
    rw [eqv_nums xs ys]
    by_cases h : x = y
    · subst h; simp
    · have : (x == y) = false := by simp [h]
      rw [this]; simp [h]
theorem eq_tups (xs ys : List Int) : eqD (.tup (nums xs)) (.tup (nums ys)) = some (decide (xs = ys)) := by
  show eqD0 _ _ = _
  have e : ∀ zs : List Int, toPy (.tup (nums zs)) = some (.tuple (zs.map PyData.int)) := fun zs => by
    show (toPys (nums zs)).map PyData.tuple = _
    rw [toPys_nums]; rfl
  have s : ∀ zs : List Int, SeqAt.shaped (.tuple (zs.map PyData.int)) = true := fun zs => by
    unfold SeqAt.shaped
    rw [show PyData.canLay0 (.tuple (zs.map PyData.int)) = PyData.canLayAll0 (zs.map PyData.int) from rfl, canLay_nums, show PyData.depth (.tuple (zs.map PyData.int)) = PyData.depthAll (zs.map PyData.int) + 1 from rfl, depth_nums]; rfl
  unfold eqD0
  rw [e, e]
  simp only [s, Bool.and_self, if_true]
  congr 1
  exact eqv_nums xs ys
end Z

/-! K69p: rows and groups, no program in sight. -/
namespace Z
namespace Rw
def fstAb (n : Nat) (l : Nat → Int) (b : Int) : Option Nat := (List.range n).find? fun k => decide (b < l k)
def bnd (m : Int) (p : Nat → Int) (fs : List Nat) : Int := match fs.getLast? with
  | none => 0
  | some e => p e - fs.length * m
def rowF (m : Int) (n : Nat) (p l : Nat → Int) : Nat → List Nat → List Nat
  | 0, fs => fs
  | f + 1, fs => match fstAb n l (bnd m p fs) with
    | none => fs
    | some k => if ∃ e, fs.getLast? = some e ∧ k ≤ e then fs ++ [k] else rowF m n p l f (fs ++ [k])
/-- the state behind k ranks: rooms, ahead -/
def grp (m : Int) (p : Nat → Int) (S : Nat → Bool) : Nat → Int × Int
  | 0 => (0, 0)
  | k + 1 => if S k then ((grp m p S k).1 + p k - (grp m p S k).2 - m, p k) else grp m p S k
def Valid (m : Int) (n : Nat) (p l : Nat → Int) (S : Nat → Bool) : Prop := ∀ k < n, (S k = true → m ≤ p k - (grp m p S k).2) ∧ l k ≤ (grp m p S (k + 1)).1
theorem fst_none {n : Nat} {l : Nat → Int} {b : Int} (h : fstAb n l b = none) : ∀ k < n, l k ≤ b := by
  intro k hk
  have := List.find?_eq_none.mp h k (List.mem_range.mpr hk)
  simp only [decide_eq_true_eq] at this
  omega
theorem fst_some {n : Nat} {l : Nat → Int} {b : Int} {k : Nat} (h : fstAb n l b = some k) : k < n ∧ b < l k ∧ ∀ j < k, l j ≤ b := by
  unfold fstAb at h
  obtain ⟨h1, as, bs, h2, h3⟩ := List.find?_eq_some_iff_append.mp h
  have hm : k ∈ List.range n := by rw [h2]; simp
  refine ⟨List.mem_range.mp hm, by simpa using h1, fun j hj => ?_⟩
  have hl : as.length = k := by
    have e : (List.range n)[as.length]? = some k := by rw [h2]; simp
    obtain ⟨h4, h5⟩ := List.getElem?_eq_some_iff.mp e
    simpa using h5
  have : j ∈ as := by
    have e : (List.range n)[j]? = some j := by
      have := List.mem_range.mp hm
      rw [List.getElem?_range (by omega)]
    rw [h2, List.getElem?_append_left (by omega)] at e
    exact List.mem_of_getElem? e
  have := h3 j this
  simp only [Bool.not_eq_true', decide_eq_false_iff_not] at this
  omega
section
variable {m : Int} {n : Nat} {p l : Nat → Int}
/-- so far it rises -/
inductive Pre (m : Int) (n : Nat) (p l : Nat → Int) : List Nat → Prop
  | nil : Pre m n p l []
  | snoc {fs : List Nat} {k : Nat} (h : Pre m n p l fs) (hk : fstAb n l (bnd m p fs) = some k) (up : ∀ e, fs.getLast? = some e → e < k) : Pre m n p l (fs ++ [k])
theorem Pre.up {fs : List Nat} (h : Pre m n p l fs) : fs.Pairwise (· < ·) ∧ (∀ k ∈ fs, k < n) ∧ ∀ e, fs.getLast? = some e → ∀ k ∈ fs, k ≤ e := by
  induction h with
  | nil => exact ⟨List.Pairwise.nil, fun k hk => (by cases hk), fun e h => (by cases h)⟩
  | @snoc fs k h hk up ih =>
    obtain ⟨h1, h2, h3⟩ := ih
    have lt : ∀ j ∈ fs, j < k := fun j hj => by
      cases e : fs.getLast? with
      | none => rw [List.getLast?_eq_none_iff.mp e] at hj; cases hj
      | some e' => exact Nat.lt_of_le_of_lt (h3 e' e j hj) (up e' e)
    refine ⟨List.pairwise_append.mpr ⟨h1, List.pairwise_singleton _ _, fun a ha b hb => by rw [List.mem_singleton.mp hb]; exact lt a ha⟩, fun j hj => ?_, fun e he j hj => ?_⟩
    · rcases List.mem_append.mp hj with hj | hj
      · exact h2 j hj
      · rw [List.mem_singleton.mp hj]; exact (fst_some hk).1
    · simp at he
      subst he
      rcases List.mem_append.mp hj with hj | hj
      · exact Nat.le_of_lt (lt j hj)
      · rw [List.mem_singleton.mp hj]; exact Nat.le_refl _
theorem up_len : ∀ (n : Nat) {fs : List Nat}, fs.Pairwise (· < ·) → (∀ k ∈ fs, k < n) → fs.length ≤ n := by
  intro n fs h1 h2
  have h3 : fs.Nodup := h1.imp fun h e => by subst e; exact Nat.lt_irrefl _ h
  have h4 : fs ⊆ List.range n := fun k hk => List.mem_range.mpr (h2 k hk)
  simpa using h3.length_le_of_subset h4
theorem Pre.len {fs : List Nat} (h : Pre m n p l fs) : fs.length ≤ n := up_len n h.up.1 h.up.2.1
/-- how a row ends -/
theorem row_ends : ∀ (f : Nat) (fs : List Nat), Pre m n p l fs → n < f + fs.length →
    (Pre m n p l (rowF m n p l f fs) ∧ fstAb n l (bnd m p (rowF m n p l f fs)) = none) ∨
    ∃ gs k e, rowF m n p l f fs = gs ++ [k] ∧ Pre m n p l gs ∧ gs.getLast? = some e ∧ k ≤ e ∧ fstAb n l (bnd m p gs) = some k
  | 0, fs, h, hf => by have := h.len; omega
  | f + 1, fs, h, hf => by
    unfold rowF
    cases e : fstAb n l (bnd m p fs) with
    | none => exact .inl ⟨h, e⟩
    | some k =>
      simp only
      split
      · rename_i hx
        obtain ⟨e', h1, h2⟩ := hx
        exact .inr ⟨fs, k, e', rfl, h, h1, h2, e⟩
      · rename_i hx
        exact row_ends f (fs ++ [k]) (.snoc h e fun e' h' => Nat.lt_of_not_le fun z => hx ⟨e', h', z⟩) (by simp; omega)
theorem grp_succ {S : Nat → Bool} {k : Nat} : grp m p S (k + 1) = if S k then ((grp m p S k).1 + p k - (grp m p S k).2 - m, p k) else grp m p S k := rfl
theorem grp_mono {S : Nat → Bool} (hv : Valid m n p l S) : ∀ {k : Nat}, k < n → (grp m p S k).1 ≤ (grp m p S (k + 1)).1 := by
  intro k hk
  rw [grp_succ]
  split
  · rename_i h
    have := (hv k hk).1 h
    show _ ≤ (grp m p S k).1 + p k - (grp m p S k).2 - m
    omega
  · exact Int.le_refl _
/-- how many groups -/
def cnt (S : Nat → Bool) : Nat → Nat
  | 0 => 0
  | k + 1 => cnt S k + if S k then 1 else 0
theorem grp_cnt {S : Nat → Bool} : ∀ k : Nat, (grp m p S k).1 = (grp m p S k).2 - cnt S k * m
  | 0 => by simp [grp, cnt]
  | k + 1 => by
    have ih := grp_cnt (S := S) k
    rw [grp_succ]
    show _ = _ - ((cnt S k + if S k then 1 else 0 : Nat) : Int) * m
    split
    · show (grp m p S k).1 + p k - (grp m p S k).2 - m = p k - _
      rw [ih]
      push_cast
      rw [Int.add_mul]
      omega
    · simpa using ih
theorem cnt_mono {S : Nat → Bool} : ∀ {i j : Nat}, i ≤ j → cnt S i ≤ cnt S j := by
  intro i j h
  induction h with
  | refl => exact Nat.le_refl _
  | step _ ih => exact Nat.le_trans ih (Nat.le_add_right _ _)
/-- no end between: the state is kept -/
theorem grp_same {S : Nat → Bool} {i : Nat} : ∀ {j : Nat}, i ≤ j → cnt S i = cnt S j → grp m p S i = grp m p S j := by
  intro j h
  induction h with
  | refl => exact fun _ => rfl
  | @step j h ih =>
    intro e
    have h1 := cnt_mono (S := S) h
    have e : cnt S i = cnt S j + if S j then 1 else 0 := e
    by_cases hs : S j = true
    · rw [if_pos hs] at e; omega
    · rw [if_neg hs] at e
      show _ = grp m p S (j + 1)
      rw [grp_succ, if_neg hs]
      exact ih (by omega)
theorem ahead_le {S : Nat → Bool} (hp : ∀ i j, i ≤ j → j < n → p i ≤ p j) (h0 : ∀ k < n, 0 ≤ p k) : ∀ {k : Nat}, k < n → (grp m p S (k + 1)).2 ≤ p k
  | 0, hk => by
    rw [grp_succ]
    split
    · exact Int.le_refl _
    · exact h0 0 hk
  | k + 1, hk => by
    rw [grp_succ]
    split
    · exact Int.le_refl _
    · exact Int.le_trans (ahead_le hp h0 (k := k) (by omega)) (hp k (k + 1) (by omega) hk)
theorem grp_up {S : Nat → Bool} (hv : Valid m n p l S) : ∀ {i j : Nat}, i ≤ j → j ≤ n → (grp m p S i).1 ≤ (grp m p S j).1 := by
  intro i j h
  induction h with
  | refl => exact fun _ => Int.le_refl _
  | @step j h ih => exact fun hj => Int.le_trans (ih (by omega)) (grp_mono hv hj)
/-- where there are groups, the row rises -/
theorem rises {S : Nat → Bool} (hm : 0 ≤ m) (hv : Valid m n p l S) (hp : ∀ i j, i ≤ j → j < n → p i ≤ p j) (h0 : ∀ k < n, 0 ≤ p k) {fs : List Nat} (h : Pre m n p l fs) :
    ∀ e, fs.getLast? = some e → fs.length ≤ cnt S (e + 1) ∧ ∀ k ≤ e, l k ≤ bnd m p fs := by
  induction h with
  | nil => exact fun e h => by cases h
  | @snoc fs k h hk up ih =>
    intro e he
    simp at he
    subst he
    obtain ⟨k1, k2, k3⟩ := fst_some hk
    have c : (fs ++ [k]).length ≤ cnt S (k + 1) := by
      have hr := (hv k k1).2
      cases e : fs.getLast? with
      | none =>
        have : fs = [] := List.getLast?_eq_none_iff.mp e
        subst this
        have k2 : (0 : Int) < l k := k2
        rcases Nat.eq_zero_or_pos (cnt S (k + 1)) with z | z
        · have g := grp_same (m := m) (p := p) (S := S) (i := 0) (j := k + 1) (Nat.zero_le _) (by rw [z]; rfl)
          rw [← g] at hr
          have : (grp m p S 0).1 = 0 := rfl
          omega
        · exact z
      | some e' =>
        have hu := up e' e
        obtain ⟨c1, c2⟩ := ih e' e
        have hb : bnd m p fs = p e' - fs.length * m := by unfold bnd; rw [e]
        have hmn := cnt_mono (S := S) (i := e' + 1) (j := k + 1) (by omega)
        rw [List.length_append]
        by_cases hc : fs.length + 1 ≤ cnt S (k + 1)
        · simpa using hc
        · have e1 : cnt S (e' + 1) = cnt S (k + 1) := by omega
          have e2 : cnt S (k + 1) = fs.length := by omega
          have g := grp_same (m := m) (p := p) (S := S) (i := e' + 1) (j := k + 1) (by omega) e1
          rw [← g, grp_cnt, e1, e2] at hr
          have := ahead_le (m := m) (S := S) hp h0 (k := e') (by omega)
          omega
    refine ⟨c, fun j hj => ?_⟩
    have hb : bnd m p (fs ++ [k]) = p k - (fs ++ [k]).length * m := by unfold bnd; simp
    have r1 := (hv j (by omega)).2
    have r2 := grp_up hv (i := j + 1) (j := k + 1) (by omega) (by omega)
    have r3 := grp_cnt (m := m) (p := p) (S := S) (k + 1)
    have r4 := ahead_le (m := m) (S := S) hp h0 (k := k) k1
    have r5 : ((fs ++ [k]).length : Int) * m ≤ cnt S (k + 1) * m := Int.mul_le_mul_of_nonneg_right (by exact_mod_cast c) hm
    rw [hb]
    omega
theorem grp_congr {S S' : Nat → Bool} : ∀ {k : Nat}, (∀ j < k, S j = S' j) → grp m p S k = grp m p S' k
  | 0, _ => rfl
  | k + 1, h => by rw [grp_succ, grp_succ, h k (Nat.lt_succ_self k), grp_congr fun j hj => h j (Nat.lt_succ_of_lt hj)]
theorem grp_idle {S : Nat → Bool} {i : Nat} : ∀ {k : Nat}, i ≤ k → (∀ j, i ≤ j → j < k → S j = false) → grp m p S k = grp m p S i := by
  intro k h
  induction h with
  | refl => exact fun _ => rfl
  | @step k h ih =>
    intro z
    show grp m p S (k + 1) = _
    have h : i ≤ k := h
    rw [grp_succ, z k h (Nat.lt_succ_self k), if_neg Bool.false_ne_true]
    exact ih fun j h1 h2 => z j h1 (Nat.lt_succ_of_lt h2)
def pl (p : Nat → Int) (fs : List Nat) : Int := match fs.getLast? with
  | none => 0
  | some e => p e
theorem bnd_pl (fs : List Nat) : bnd m p fs = pl p fs - fs.length * m := by
  unfold bnd pl
  cases e : fs.getLast? with
  | none => rw [List.getLast?_eq_none_iff.mp e]; simp
  | some e' => rfl
def In (fs : List Nat) (k : Nat) : Bool := decide (k ∈ fs)
theorem in_app {fs : List Nat} {k j : Nat} (h : j ≠ k) : In (fs ++ [k]) j = In fs j := by simp [In, h]
theorem grp_last {fs : List Nat} (h : Pre m n p l fs) : ∀ k, (∀ j ∈ fs, j < k) → grp m p (In fs) k = (bnd m p fs, pl p fs) := by
  induction h with
  | nil => intro k _; rw [grp_idle (S := In []) (Nat.zero_le k) fun j _ _ => rfl]; rfl
  | @snoc fs k0 h hk up ih =>
    intro k hj
    have lt : ∀ j ∈ fs, j < k0 := fun j hj => by
      cases e : fs.getLast? with
      | none => rw [List.getLast?_eq_none_iff.mp e] at hj; cases hj
      | some e' => exact Nat.lt_of_le_of_lt (h.up.2.2 e' e j hj) (up e' e)
    have h0 : k0 < k := hj k0 (by simp)
    rw [grp_idle (S := In (fs ++ [k0])) (i := k0 + 1) h0 fun j h1 h2 => decide_eq_false fun z => by
      rcases List.mem_append.mp z with z | z
      · have := lt j z; omega
      · have := List.mem_singleton.mp z; omega]
    rw [grp_succ, show In (fs ++ [k0]) k0 = true by simp [In], if_pos rfl, grp_congr (S' := In fs) (fun j hj => in_app (by omega)), ih k0 lt, bnd_pl fs, bnd_pl (fs ++ [k0])]
    have e : pl p (fs ++ [k0]) = p k0 := by unfold pl; simp
    rw [e, List.length_append]
    congr 1
    push_cast
    simp only [List.length_singleton]
    rw [Int.add_mul]
    omega
theorem part_ok {fs : List Nat} (h : Pre m n p l fs) : (∀ e, fs.getLast? = some e → ∀ j ≤ e, l j ≤ bnd m p fs) → ∀ k e, fs.getLast? = some e → k ≤ e → (In fs k = true → m ≤ p k - (grp m p (In fs) k).2) ∧ l k ≤ (grp m p (In fs) (k + 1)).1 := by
  induction h with
  | nil => intro _ k e he; cases he
  | @snoc fs k0 h hk up ih =>
    intro H k e he hke
    simp at he
    subst he
    obtain ⟨k1, k2, k3⟩ := fst_some hk
    have hw := h.snoc hk up
    have lt : ∀ j ∈ fs, j < k0 := fun j hj => by
      cases e : fs.getLast? with
      | none => rw [List.getLast?_eq_none_iff.mp e] at hj; cases hj
      | some e' => exact Nat.lt_of_le_of_lt (h.up.2.2 e' e j hj) (up e' e)
    rcases Nat.lt_or_eq_of_le hke with hlt | rfl
    · have c1 : grp m p (In (fs ++ [k0])) k = grp m p (In fs) k := grp_congr fun j hj => in_app (by omega)
      have c2 : grp m p (In (fs ++ [k0])) (k + 1) = grp m p (In fs) (k + 1) := grp_congr fun j hj => in_app (by omega)
      rw [c1, c2, in_app (by omega)]
      by_cases hx : ∃ e', fs.getLast? = some e' ∧ k ≤ e'
      · obtain ⟨e', h1, h2⟩ := hx
        exact ih (fun e'' h'' j hj => k3 j (Nat.lt_of_le_of_lt hj (up e'' h''))) k e' h1 h2
      · have nb : ∀ j ∈ fs, j < k := fun j hj => by
          cases e : fs.getLast? with
          | none => rw [List.getLast?_eq_none_iff.mp e] at hj; cases hj
          | some e' => exact Nat.lt_of_le_of_lt (h.up.2.2 e' e j hj) (Nat.lt_of_not_le fun z => hx ⟨e', e, z⟩)
        have ni : In fs k = false := decide_eq_false fun z => Nat.lt_irrefl _ (nb k z)
        rw [ni, grp_last h (k + 1) fun j hj => Nat.lt_succ_of_lt (nb j hj)]
        exact ⟨fun z => (by cases z), k3 k hlt⟩
    · have hb := H k (by simp) k (Nat.le_refl _)
      have c1 : grp m p (In (fs ++ [k])) k = (bnd m p fs, pl p fs) := by rw [grp_congr (S' := In fs) fun j hj => in_app (by omega)]; exact grp_last h k lt
      have c2 := grp_last hw (k + 1) fun j hj => by
        rcases List.mem_append.mp hj with z | z
        · exact Nat.lt_succ_of_lt (lt j z)
        · rw [List.mem_singleton.mp z]; exact Nat.lt_succ_self _
      rw [c1, c2]
      refine ⟨fun _ => ?_, hb⟩
      rw [bnd_pl] at k2 hb
      have e : pl p (fs ++ [k]) = p k := by unfold pl; simp
      rw [e, List.length_append, List.length_singleton] at hb
      push_cast at hb
      rw [Int.add_mul] at hb
      show m ≤ p k - pl p fs
      omega
/-- a row that rises to its end shows groups -/
theorem groups {fs : List Nat} (h : Pre m n p l fs) (hc : fstAb n l (bnd m p fs) = none) : Valid m n p l (In fs) := by
  intro k hk
  have cl := fst_none hc
  by_cases hx : ∃ e', fs.getLast? = some e' ∧ k ≤ e'
  · obtain ⟨e', h1, h2⟩ := hx
    exact part_ok h (fun e'' h'' j hj => cl j (Nat.lt_of_le_of_lt hj (h.up.2.1 e'' (List.mem_of_getLast? h'')))) k e' h1 h2
  · have nb : ∀ j ∈ fs, j < k := fun j hj => by
      cases e : fs.getLast? with
      | none => rw [List.getLast?_eq_none_iff.mp e] at hj; cases hj
      | some e' => exact Nat.lt_of_le_of_lt (h.up.2.2 e' e j hj) (Nat.lt_of_not_le fun z => hx ⟨e', e, z⟩)
    have ni : In fs k = false := decide_eq_false fun z => Nat.lt_irrefl _ (nb k z)
    rw [ni, grp_last h (k + 1) fun j hj => Nat.lt_succ_of_lt (nb j hj)]
    exact ⟨fun z => (by cases z), cl k hk⟩
def Up (fs : List Nat) : Prop := ∀ k, k + 1 < fs.length → fs.getD k 0 < fs.getD (k + 1) 0
/-- the row rises exactly if there are groups -/
theorem row_iff (hm : 0 ≤ m) (hp : ∀ i j, i ≤ j → j < n → p i ≤ p j) (h0 : ∀ k < n, 0 ≤ p k) : (∃ S, Valid m n p l S) ↔ (rowF m n p l (n + 1) []).Pairwise (· < ·) := by
  have he := row_ends (m := m) (n := n) (p := p) (l := l) (n + 1) [] .nil (by simp)
  constructor
  · rintro ⟨S, hv⟩
    rcases he with ⟨h1, _⟩ | ⟨gs, k, e, h1, h2, h3, h4, h5⟩
    · exact h1.up.1
    · have := (rises hm hv hp h0 h2 e h3).2 k h4
      have := (fst_some h5).2.1
      omega
  · intro hu
    rcases he with ⟨h1, h2⟩ | ⟨gs, k, e, h1, h2, h3, h4, h5⟩
    · exact ⟨_, groups h1 h2⟩
    · rw [h1] at hu
      have := (List.pairwise_append.mp hu).2.2 e (List.mem_of_getLast? h3) k (by simp)
      omega
/-- a number for a choice -/
def numS (S : Nat → Bool) : Nat → Nat
  | 0 => 0
  | k + 1 => numS S k + if S k then 2 ^ k else 0
theorem numS_lt (S : Nat → Bool) : ∀ k, numS S k < 2 ^ k
  | 0 => by simp [numS]
  | k + 1 => by
    have := numS_lt S k
    unfold numS
    rw [Nat.pow_succ]
    split <;> omega
theorem numS_bit (S : Nat → Bool) : ∀ {k j : Nat}, j < k → (numS S k).testBit j = S j
  | k + 1, j, h => by
    have hl := numS_lt S k
    unfold numS
    by_cases hj : j = k
    · subst hj
      split
      · rename_i hs
        rw [Nat.add_comm, Nat.testBit_two_pow_add_eq, Nat.testBit_lt_two_pow hl, hs]; rfl
      · rename_i hs
        rw [Nat.add_zero, Nat.testBit_lt_two_pow hl]
        simpa using hs
    · have hj : j < k := by omega
      split
      · rw [Nat.add_comm, Nat.testBit_two_pow_add_gt hj]
        exact numS_bit S hj
      · rw [Nat.add_zero]; exact numS_bit S hj
theorem Valid.congr {S S' : Nat → Bool} (h : Valid m n p l S) (e : ∀ k < n, S' k = S k) : Valid m n p l S' := by
  intro k hk
  rw [grp_congr (S' := S) fun j hj => e j (by omega), grp_congr (S' := S) (k := k + 1) fun j hj => e j (by omega), e k hk]
  exact h k hk
theorem valid_num {S : Nat → Bool} (h : Valid m n p l S) : ∃ x < 2 ^ n, Valid m n p l fun k => x.testBit k := ⟨numS S n, numS_lt S n, h.congr fun k hk => numS_bit S hk⟩
end
end Rw
end Z

namespace Z
open PySem
def gAts : List (Str × Str) := [("Ranks", "most"), ("Ranks", "people"), ("Ranks", "lessons")]
def gKls : List Str := ["Ranks"]
def gXns : List Str := ["SchoolError", "InvalidLessons", "InvalidMost", "InvalidPeople"]
def gExm : List (Str × Str) := [("SchoolError", "SchoolError"), ("InvalidLessons", "InvalidLessons"), ("InvalidLessons", "SchoolError"), ("InvalidMost", "InvalidMost"), ("InvalidMost", "SchoolError"), ("InvalidPeople", "InvalidPeople"), ("InvalidPeople", "SchoolError")]
def f_law_box : Def := ⟨1, 1, (.cons (.ret (.mk .cell (.disp (.cons (.bi .abs (.var 0)) (.cons (.cmp .GtE (.bi .abs (.var 0)) (.bin .Pow (.lit (.int 10)) (.lit (.int 18)))) (.cons (.bin .Mod (.bi .int (.bi .abs (.var 0))) (.lit (.int 2147483629))) (.cons (.lit (.int 0)) .nil))))))) .nil)⟩
def F_law_box : Fn := run { fs := [], cs := [], at_ := gAts, kls := gKls, sub := [], xns := gXns, exm := gExm, mks := [], exs := [], eqs := [] } f_law_box
def f_law_cell : Def := ⟨2, 2, (.cons (.ret (.ite (.cmp .Lt (.var 1) (.bi .len (.var 0))) (.sub (.var 0) (.var 1)) (.bin .Add (.bin .Mult (.lit (.int 6007)) (.var 1)) (.bin .Mod (.bi .int (.bi .sum (.slc (.var 0) .none (.some (.lit (.int 1)))))) (.lit (.int 1000033)))))) .nil)⟩
def F_law_cell : Fn := run { fs := [], cs := [], at_ := gAts, kls := gKls, sub := [], xns := gXns, exm := gExm, mks := [], exs := [], eqs := [] } f_law_cell
def f_law_take : Def := ⟨2, 4, (.cons (.ite (.and (.sub (.var 0) (.lit (.int 1))) (.one (.cmp .Gt (.sub (.var 0) (.lit (.int 0))) (.lit (.int 0))))) (.cons (.asg (.nm 3) (.bin .Mod (.bi .int (.sub (.var 0) (.lit (.int 0)))) (.var 1))) (.cons (.set 0 (.lit (.int 0)) (.bin .FloorDiv (.sub (.var 0) (.lit (.int 0))) (.var 1))) (.cons (.ret (.var 3)) .nil))) .nil) (.cons (.set 0 (.lit (.int 3)) (.bin .Add (.sub (.var 0) (.lit (.int 3))) (.lit (.int 1)))) (.cons (.asg (.nm 2) (.bin .Mod (.bi .int (.bin .Pow (.bin .Add (.bin .Add (.sub (.var 0) (.lit (.int 2))) (.bin .Mult (.lit (.int 15485863)) (.sub (.var 0) (.lit (.int 3))))) (.lit (.int 179424673))) (.lit (.int 5)))) (.lit (.int 2147483647)))) (.cons (.ret (.bin .Mod (.bi .int (.bin .FloorDiv (.bin .Mod (.bi .int (.bin .Pow (.bin .Add (.bin .Mult (.var 2) (.lit (.int 48271))) (.bin .Mult (.lit (.int 104729)) (.sub (.var 0) (.lit (.int 3))))) (.lit (.int 3)))) (.lit (.int 2147483587))) (.lit (.int 64)))) (.var 1))) .nil))))⟩
def F_law_take : Fn := run { fs := [], cs := [], at_ := gAts, kls := gKls, sub := [], xns := gXns, exm := gExm, mks := [], exs := [], eqs := [] } f_law_take
def f_law_tight : Def := ⟨1, 11, (.cons (.par [2, 3, 4] (.cons (.sub (.mk .pure (.disp (.cons (.call 0 (.cons (.var 0) (.cons (.lit (.int 4)) .nil)) .nil []) (.cons (.call 0 (.cons (.var 0) (.cons (.lit (.int 4)) .nil)) .nil []) (.cons (.call 0 (.cons (.var 0) (.cons (.lit (.int 101)) .nil)) .nil []) .nil))))) (.call 0 (.cons (.var 0) (.cons (.lit (.int 3)) .nil)) .nil [])) (.cons (.mk .cell (.disp .nil)) (.cons (.mk .cell (.disp .nil)) .nil)))) (.cons (.par [5, 6, 7] (.cons (.lit (.int 0)) (.cons (.lit (.int 0)) (.cons (.bin .Add (.lit (.int 1)) (.call 0 (.cons (.var 0) (.cons (.lit (.int 8)) .nil)) .nil [])) .nil)))) (.cons (.for (.nm 1) (.range1 (.var 7)) (.cons (.asg (.nm 8) (.sub (.mk .pure (.disp (.cons (.call 0 (.cons (.var 0) (.cons (.lit (.int 4)) .nil)) .nil []) (.cons (.var 2) (.cons (.bin .Add (.bin .Add (.var 2) (.lit (.int 1))) (.call 0 (.cons (.var 0) (.cons (.lit (.int 3)) .nil)) .nil [])) (.cons (.bin .Add (.var 2) (.call 0 (.cons (.var 0) (.cons (.lit (.int 30)) .nil)) .nil [])) (.cons (.lit (.int 0)) .nil))))))) (.call 0 (.cons (.var 0) (.cons (.lit (.int 5)) .nil)) .nil []))) (.cons (.mth 3 .append (.cons (.bi2 .min (.lit (.int 100)) (.var 8)) .nil)) (.cons (.asg (.nm 9) (.bin .Sub (.biV .sum 3) (.bin .Mult (.bin .Add (.var 6) (.lit (.int 1))) (.var 2)))) (.cons (.ite (.and (.cmp .Gt (.var 9) (.var 5)) (.one (.cmp .Gt (.call 0 (.cons (.var 0) (.cons (.lit (.int 4)) .nil)) .nil []) (.lit (.int 0))))) (.cons (.par [5, 6] (.cons (.var 9) (.cons (.bin .Add (.var 6) (.lit (.int 1))) .nil))) .nil) .nil) (.cons (.asg (.nm 10) (.bi2 .min (.lit (.int 100)) (.bin .Sub (.var 5) (.biV .sum 4)))) (.cons (.mth 4 .append (.cons (.sub (.mk .pure (.disp (.cons (.var 10) (.cons (.var 10) (.cons (.lit (.int 0)) (.cons (.call 0 (.cons (.var 0) (.cons (.bin .Add (.var 10) (.lit (.int 1))) .nil)) .nil []) .nil)))))) (.call 0 (.cons (.var 0) (.cons (.lit (.int 4)) .nil)) .nil [])) .nil)) .nil))))))) (.cons (.ret (.mk .pure (.disp (.cons (.var 2) (.cons (.frz (.var 3)) (.cons (.frz (.var 4)) .nil)))))) .nil))))⟩
def F_law_tight : Fn := run { fs := [F_law_take], cs := [], at_ := gAts, kls := gKls, sub := [], xns := gXns, exm := gExm, mks := [], exs := [], eqs := [] } f_law_tight
def f_law_plain : Def := ⟨1, 5, (.cons (.asg (.tp (.cons (.nm 2) (.cons (.nm 3) .nil))) (.tup (.cons (.bin .Add (.lit (.int 1)) (.call 0 (.cons (.var 0) (.cons (.lit (.int 8)) .nil)) .nil [])) (.cons (.sub (.mk .pure (.disp (.cons (.mk .pure (.disp (.cons (.lit (.int 2)) (.cons (.lit (.int 4)) (.cons (.lit (.int 3)) .nil))))) (.cons (.mk .pure (.disp (.cons (.lit (.int 4)) (.cons (.lit (.int 9)) (.cons (.lit (.int 4)) .nil))))) (.cons (.mk .pure (.disp (.cons (.lit (.int 3)) (.cons (.lit (.int 3)) (.cons (.lit (.int 3)) .nil))))) (.cons (.mk .pure (.disp (.cons (.lit (.int 101)) (.cons (.lit (.int 101)) (.cons (.lit (.int 101)) .nil))))) (.cons (.mk .pure (.disp (.cons (.lit (.int 40)) (.cons (.lit (.int 101)) (.cons (.lit (.int 30)) .nil))))) .nil))))))) (.call 0 (.cons (.var 0) (.cons (.lit (.int 5)) .nil)) .nil [])) .nil)))) (.cons (.asg (.nm 1) (.mk .pure (.lc (.bin .Mult (.call 0 (.cons (.var 0) (.cons (.sub (.var 3) (.lit (.int 1))) .nil)) .nil []) (.bi .int (.cmp .Gt (.call 0 (.cons (.var 0) (.cons (.lit (.int 5)) .nil)) .nil []) (.lit (.int 0))))) (.nm 4) (.range1 (.var 2)) .none [4]))) (.cons (.ret (.mk .pure (.disp (.cons (.call 0 (.cons (.var 0) (.cons (.sub (.var 3) (.lit (.int 0))) .nil)) .nil []) (.cons (.var 1) (.cons (.mk .pure (.lc (.bin .Mult (.call 0 (.cons (.var 0) (.cons (.sub (.var 3) (.lit (.int 2))) .nil)) .nil []) (.bi .int (.cmp .Gt (.call 0 (.cons (.var 0) (.cons (.lit (.int 3)) .nil)) .nil []) (.lit (.int 0))))) (.nm 4) (.range1 (.var 2)) .none [4])) .nil)))))) .nil)))⟩
def F_law_plain : Fn := run { fs := [F_law_take], cs := [], at_ := gAts, kls := gKls, sub := [], xns := gXns, exm := gExm, mks := [], exs := [], eqs := [] } f_law_plain
def f_law_spoilt : Def := ⟨4, 6, (.cons (.asg (.tp (.cons (.nm 2) (.cons (.nm 3) (.cons (.nm 4) (.cons (.nm 5) .nil))))) (.tup (.cons (.mk .cell (.list (.var 2))) (.cons (.mk .cell (.list (.var 3))) (.cons (.call 0 (.cons (.var 0) (.cons (.bi .len (.var 2)) .nil)) .nil []) (.cons (.call 0 (.cons (.var 0) (.cons (.lit (.int 5)) .nil)) .nil []) .nil)))))) (.cons (.ite (.and (.cmp .Lt (.var 5) (.lit (.int 2))) (.one (.cmp .Lt (.sub (.var 3) (.var 4)) (.lit (.int 100))))) (.cons (.set 3 (.var 4) (.bin .Add (.sub (.var 3) (.var 4)) (.lit (.int 1)))) .nil) .nil) (.cons (.ite (.and (.cmp .Eq (.var 5) (.lit (.int 2))) (.one (.cmp .Gt (.sub (.var 2) (.var 4)) (.lit (.int 0))))) (.cons (.set 2 (.var 4) (.bin .Sub (.sub (.var 2) (.var 4)) (.lit (.int 1)))) .nil) .nil) (.cons (.ite (.and (.cmp .Eq (.var 5) (.lit (.int 3))) (.one (.cmp .Lt (.sub (.var 2) (.var 4)) (.lit (.int 100))))) (.cons (.set 2 (.var 4) (.bin .Add (.sub (.var 2) (.var 4)) (.lit (.int 1)))) .nil) .nil) (.cons (.ret (.mk .pure (.disp (.cons (.bi2 .min (.lit (.int 100)) (.bin .Add (.var 1) (.bi .int (.cmp .Eq (.var 5) (.lit (.int 4)))))) (.cons (.frz (.var 2)) (.cons (.frz (.var 3)) .nil)))))) .nil)))))⟩
def F_law_spoilt : Fn := run { fs := [F_law_take], cs := [], at_ := gAts, kls := gKls, sub := [], xns := gXns, exm := gExm, mks := [], exs := [], eqs := [] } f_law_spoilt
def f_law_sums : Def := ⟨1, 3, (.cons (.own 1 (.disp .nil)) (.cons (.for (.nm 2) (.seq (.var 0)) (.cons (.mth 1 .append (.cons (.bin .Add (.var 2) (.ite (.cmpV .NotEq 1 (.mk .pure (.disp .nil))) (.subV 1 (.un .USub (.lit (.int 1)))) (.lit (.int 0)))) .nil)) .nil)) (.cons (.ret (.var 1)) .nil)))⟩
def F_law_sums : Fn := run { fs := [], cs := [], at_ := gAts, kls := gKls, sub := [], xns := gXns, exm := gExm, mks := [], exs := [], eqs := [] } f_law_sums
def f_law_ranks_row : Def := ⟨3, 10, (.cons (.asg (.tp (.cons (.nm 4) (.cons (.nm 5) (.cons (.nm 6) .nil)))) (.tup (.cons (.call 0 (.cons (.var 1) .nil) .nil []) (.cons (.call 0 (.cons (.var 2) .nil) .nil []) (.cons (.mk .cell (.disp .nil)) .nil))))) (.cons (.for (.nm 3) (.range1 (.bin .Add (.bi .len (.var 1)) (.lit (.int 1)))) (.cons (.asg (.nm 7) (.ite (.cmpV .NotEq 6 (.mk .pure (.disp .nil))) (.bin .Sub (.sub (.var 4) (.subV 6 (.un .USub (.lit (.int 1))))) (.bin .Mult (.var 3) (.var 0))) (.lit (.int 0)))) (.cons (.asg (.nm 8) (.mk .pure (.lc (.var 9) (.nm 9) (.range1 (.bi .len (.var 1))) (.some (.cmp .Gt (.sub (.var 5) (.var 9)) (.var 7))) [9]))) (.cons (.ite (.cmp .Eq (.var 8) (.mk .pure (.disp .nil))) (.cons (.ret (.frz (.var 6))) .nil) .nil) (.cons (.mth 6 .append (.cons (.sub (.var 8) (.lit (.int 0))) .nil)) (.cons (.ite (.and (.cmp .Gt (.var 3) (.lit (.int 0))) (.one (.cmp .LtE (.subV 6 (.un .USub (.lit (.int 1)))) (.subV 6 (.un .USub (.lit (.int 2))))))) (.cons (.ret (.frz (.var 6))) .nil) .nil) .nil)))))) (.cons (.ret (.frz (.var 6))) .nil)))⟩
def F_law_ranks_row : Fn := run { fs := [F_law_sums], cs := [], at_ := gAts, kls := gKls, sub := [], xns := gXns, exm := gExm, mks := [], exs := [], eqs := [] } f_law_ranks_row
def f_law_rising : Def := ⟨1, 2, (.cons (.ret (.cmp .Eq (.mk .pure (.lc (.var 1) (.nm 1) (.range2 (.lit (.int 1)) (.bi .len (.var 0))) (.some (.cmp .LtE (.sub (.var 0) (.var 1)) (.sub (.var 0) (.bin .Sub (.var 1) (.lit (.int 1)))))) [1])) (.mk .pure (.disp .nil)))) .nil)⟩
def F_law_rising : Fn := run { fs := [], cs := [], at_ := gAts, kls := gKls, sub := [], xns := gXns, exm := gExm, mks := [], exs := [], eqs := [] } f_law_rising
def f_law_has_groups : Def := ⟨3, 11, (.cons (.par [4, 5, 6] (.cons (.call 0 (.cons (.var 1) .nil) .nil []) (.cons (.call 0 (.cons (.var 2) .nil) .nil []) (.cons (.bi .len (.var 1)) .nil)))) (.cons (.for (.nm 3) (.range1 (.bin .LShift (.lit (.int 1)) (.var 6))) (.cons (.asg (.tp (.cons (.nm 8) (.cons (.nm 9) (.cons (.nm 10) .nil)))) (.tup (.cons (.lit (.int 0)) (.cons (.lit (.int 0)) (.cons (.lit (.bl true)) .nil))))) (.cons (.for (.nm 7) (.range1 (.var 6)) (.cons (.ite (.bin .BitAnd (.bin .RShift (.var 3) (.var 7)) (.lit (.int 1))) (.cons (.asg (.nm 10) (.cmp .GtE (.bin .Sub (.sub (.var 4) (.var 7)) (.var 9)) (.var 0))) (.cons (.par [8, 9] (.cons (.bin .Sub (.bin .Sub (.bin .Add (.var 8) (.sub (.var 4) (.var 7))) (.var 9)) (.var 0)) (.cons (.sub (.var 4) (.var 7)) .nil))) .nil)) .nil) (.cons (.ite (.or (.not (.var 10)) (.one (.cmp .Gt (.sub (.var 5) (.var 7)) (.var 8)))) (.cons (.asg (.nm 10) (.lit (.bl false))) (.cons .brk .nil)) .nil) .nil))) (.cons (.ite (.var 10) (.cons (.ret (.lit (.bl true))) .nil) .nil) .nil)))) (.cons (.ret (.lit (.bl false))) .nil)))⟩
def F_law_has_groups : Fn := run { fs := [F_law_sums], cs := [], at_ := gAts, kls := gKls, sub := [], xns := gXns, exm := gExm, mks := [], exs := [], eqs := [] } f_law_has_groups
def f_law_groups : Def := ⟨3, 7, (.cons (.asg (.nm 3) (.call 0 (.cons (.var 1) .nil) .nil [])) (.cons (.asg (.nm 4) (.mk .pure (.lc (.sub (.var 3) (.var 6)) (.nm 6) (.seq (.var 2)) .none [6]))) (.cons (.asg (.nm 5) (.mk .pure (.cat (.mk .pure (.disp (.cons (.lit (.int 0)) .nil))) (.var 4)))) (.cons (.ret (.mk .pure (.lc (.tup (.cons (.bin .Sub (.sub (.var 4) (.var 6)) (.sub (.var 5) (.var 6))) (.cons (.bin .Sub (.bin .Sub (.sub (.var 4) (.var 6)) (.sub (.var 5) (.var 6))) (.var 0)) .nil))) (.nm 6) (.range1 (.bi .len (.var 4))) .none [6]))) .nil))))⟩
def F_law_groups : Fn := run { fs := [F_law_sums], cs := [], at_ := gAts, kls := gKls, sub := [], xns := gXns, exm := gExm, mks := [], exs := [], eqs := [] } f_law_groups
def f_first_above : Def := ⟨2, 4, (.cons (.ret (.slc (.mk .pure (.lc (.var 2) (.tp (.cons (.nm 2) (.cons (.nm 3) .nil))) (.enum (.var 0)) (.some (.cmp .Gt (.var 3) (.var 1))) [2, 3])) .none (.some (.lit (.int 1))))) .nil)⟩
def F_first_above : Fn := run { fs := [], cs := [], at_ := gAts, kls := gKls, sub := [], xns := gXns, exm := gExm, mks := [], exs := [], eqs := [] } f_first_above
def f_is_ascending : Def := ⟨1, 2, (.cons (.ret (.bi .all (.mk .pure (.lc (.cmp .Lt (.sub (.var 0) (.var 1)) (.sub (.var 0) (.bin .Add (.var 1) (.lit (.int 1))))) (.nm 1) (.range1 (.bin .Sub (.bi .len (.var 0)) (.lit (.int 1)))) .none [1])))) .nil)⟩
def F_is_ascending : Fn := run { fs := [], cs := [], at_ := gAts, kls := gKls, sub := [], xns := gXns, exm := gExm, mks := [], exs := [], eqs := [] } f_is_ascending
def f_row_of : Def := ⟨3, 5, (.cons (.par [3, 4] (.cons (.mk .cell (.disp .nil)) (.cons (.call 0 (.cons (.var 2) (.cons (.lit (.int 0)) .nil)) .nil []) .nil))) (.cons (.whl (.cmp .NotEq (.var 4) (.mk .pure (.disp .nil))) (.cons (.mth 3 .extend (.cons (.var 4) .nil)) (.cons (.ite (.not (.call 1 (.cons (.slc (.var 3) (.some (.un .USub (.lit (.int 2)))) .none) .nil) .nil [])) (.cons (.ret (.var 3)) .nil) .nil) (.cons (.asg (.nm 4) (.call 0 (.cons (.var 2) (.cons (.bin .Sub (.sub (.var 1) (.subV 3 (.un .USub (.lit (.int 1))))) (.bin .Mult (.biV .len 3) (.var 0))) .nil)) .nil [])) .nil)))) (.cons (.ret (.var 3)) .nil)))⟩
def F_row_of : Fn := run { fs := [F_first_above, F_is_ascending], cs := [], at_ := gAts, kls := gKls, sub := [], xns := gXns, exm := gExm, mks := [], exs := [], eqs := [] } f_row_of
def f_totals : Def := ⟨1, 3, (.cons (.asg (.nm 1) (.mk .cell (.disp .nil))) (.cons (.for (.nm 2) (.seq (.var 0)) (.cons (.mth 1 .append (.cons (.bin .Add (.var 2) (.ite (.var 1) (.sub (.var 1) (.un .USub (.lit (.int 1)))) (.lit (.int 0)))) .nil)) .nil)) (.cons (.ret (.frz (.var 1))) .nil)))⟩
def F_totals : Fn := run { fs := [], cs := [], at_ := gAts, kls := gKls, sub := [], xns := gXns, exm := gExm, mks := [], exs := [], eqs := [] } f_totals
def f_row : Def := ⟨1, 1, (.cons (.ret (.call 0 (.cons (.fld (.var 0) "most") (.cons (.call 1 (.cons (.fld (.var 0) "people") .nil) .nil []) (.cons (.call 1 (.cons (.fld (.var 0) "lessons") .nil) .nil []) .nil))) .nil [])) .nil)⟩
def F_row : Fn := run { fs := [F_row_of, F_totals], cs := [], at_ := gAts, kls := gKls, sub := [], xns := gXns, exm := gExm, mks := [], exs := [], eqs := [] } f_row
def f_stays : Def := ⟨1, 1, (.cons (.ret (.call 0 (.cons (.call 1 (.cons (.var 0) .nil) .nil []) .nil) .nil [])) .nil)⟩
def F_stays : Fn := run { fs := [F_is_ascending, F_row], cs := [], at_ := gAts, kls := gKls, sub := [], xns := gXns, exm := gExm, mks := [], exs := [], eqs := [] } f_stays
def f_parts : Def := ⟨1, 6, (.cons (.ite (.not (.call 0 (.cons (.var 0) .nil) .nil [])) (.cons (.ret (.lit .non)) .nil) .nil) (.cons (.par [2, 3, 4] (.cons (.call 1 (.cons (.fld (.var 0) "people") .nil) .nil []) (.cons (.mk .cell (.disp .nil)) (.cons (.lit (.int 0)) .nil)))) (.cons (.for (.nm 1) (.seq (.frz (.call 2 (.cons (.var 0) .nil) .nil []))) (.cons (.asg (.nm 5) (.bin .Sub (.sub (.var 2) (.var 1)) (.var 4))) (.cons (.mth 3 .append (.cons (.tup (.cons (.var 5) (.cons (.bin .Sub (.var 5) (.fld (.var 0) "most")) .nil))) .nil)) (.cons (.asg (.nm 4) (.sub (.var 2) (.var 1))) .nil)))) (.cons (.ret (.var 3)) .nil))))⟩
def F_parts : Fn := run { fs := [F_stays, F_totals, F_row], cs := [], at_ := gAts, kls := gKls, sub := [], xns := gXns, exm := gExm, mks := [], exs := [], eqs := [] } f_parts
def f_law_same : Def := ⟨2, 3, (.cons (.ite (.or (.cmp .Is (.var 1) (.lit .non)) (.one (.isi (.var 1) .bool))) (.cons (.ret (.ite (.cmp .Is (.var 1) (.lit .non)) (.cmp .Is (.var 0) (.lit .non)) (.and (.isi (.var 0) .bool) (.one (.cmp .Eq (.cmp .Is (.var 0) (.lit (.bl true))) (.cmp .Is (.var 1) (.lit (.bl true)))))))) .nil) .nil) (.cons (.ite (.isi (.var 1) .int) (.cons (.ret (.and (.isi (.var 0) .int) (.and (.not (.isi (.var 0) .bool)) (.one (.cmp .Eq (.bin .Sub (.bi .int (.var 0)) (.var 1)) (.lit (.int 0))))))) .nil) .nil) (.cons (.ite (.isi (.var 1) .str) (.cons (.ret (.and (.isi (.var 0) .str) (.and (.cmp .Eq (.bi .len (.var 0)) (.bi .len (.var 1))) (.one (.cmp .Eq (.mk .pure (.lc (.var 2) (.nm 2) (.range1 (.bi .len (.var 1))) (.some (.cmp .NotEq (.slc (.var 0) (.some (.var 2)) (.some (.bin .Add (.var 2) (.lit (.int 1))))) (.sub (.var 1) (.var 2)))) [2])) (.mk .pure (.disp .nil))))))) .nil) .nil) (.cons (.ite (.or (.cmp .NotEq (.isi (.var 0) .list) (.isi (.var 1) .list)) (.one (.cmp .NotEq (.isi (.var 0) .tuple) (.isi (.var 1) .tuple)))) (.cons (.ret (.lit (.bl false))) .nil) .nil) (.cons (.ret (.and (.cmp .Eq (.bi .len (.var 0)) (.bi .len (.var 1))) (.one (.cmp .Eq (.mk .pure (.lc (.var 2) (.nm 2) (.range1 (.bi .len (.var 1))) (.some (.not (.call 0 (.cons (.sub (.var 0) (.var 2)) (.cons (.sub (.var 1) (.var 2)) .nil)) .nil []))) [2])) (.mk .pure (.disp .nil)))))) .nil)))))⟩
def F_law_same : Fn := runRec { fs := [], cs := [], at_ := gAts, kls := gKls, sub := [], xns := gXns, exm := gExm, mks := [], exs := [], eqs := [] } f_law_same 8
def f_law_right : Def := ⟨3, 6, (.cons (.for (.nm 3) (.range1 (.lit (.int 2))) (.cons (.asg (.nm 4) (.cmp .Eq (.call 0 (.cons (.var 0) (.cons (.lit (.int 2)) .nil)) .nil []) (.lit (.int 0)))) (.cons (.asg (.nm 5) (.ite (.var 4) (.mk .pure (.disp (.cons (.call 1 .nil (.cons (.var 1) .nil) [0]) (.cons (.call 2 .nil (.cons (.var 1) .nil) [0]) (.cons (.call 3 .nil (.cons (.var 1) .nil) [0]) .nil))))) (.mk .pure (.disp (.cons (.call 1 (.cons (.var 1) .nil) .nil []) (.cons (.call 2 (.cons (.var 1) .nil) .nil []) (.cons (.call 3 (.cons (.var 1) .nil) .nil []) .nil))))))) (.cons (.ite (.not (.call 4 (.cons (.var 5) (.cons (.var 2) .nil)) .nil [])) (.cons (.ret (.lit (.bl false))) .nil) .nil) (.cons (.mthE (.sub (.var 5) (.lit (.int 0))) .append (.cons (.lit (.int 7)) .nil)) (.cons (.mthE (.sub (.var 5) (.lit (.int 0))) .reverse .nil) (.cons (.ite (.cmp .IsNot (.sub (.var 5) (.lit (.int 2))) (.lit .non)) (.cons (.mthE (.sub (.var 5) (.lit (.int 2))) .append (.cons (.tup (.cons (.lit (.int 1)) (.cons (.lit (.int 1)) .nil))) .nil)) .nil) .nil) .nil))))))) (.cons (.ret (.lit (.bl true))) .nil))⟩
def F_law_right : Fn := run { fs := [F_law_take, F_row, F_stays, F_parts, F_law_same], cs := [], at_ := gAts, kls := gKls, sub := [], xns := gXns, exm := gExm, mks := [], exs := [], eqs := [] } f_law_right
def f_is_integer : Def := ⟨1, 1, (.cons (.ret (.and (.isi (.var 0) .int) (.one (.not (.isi (.var 0) .bool))))) .nil)⟩
def F_is_integer : Fn := run { fs := [], cs := [], at_ := gAts, kls := gKls, sub := [], xns := gXns, exm := gExm, mks := [], exs := [], eqs := [] } f_is_integer
def f_is_between : Def := ⟨3, 3, (.cons (.ret (.and (.call 0 (.cons (.var 0) .nil) .nil []) (.one (.chain .LtE .LtE (.var 1) (.var 0) (.var 2))))) .nil)⟩
def F_is_between : Fn := run { fs := [F_is_integer], cs := [], at_ := gAts, kls := gKls, sub := [], xns := gXns, exm := gExm, mks := [], exs := [], eqs := [] } f_is_between
def f_are_between : Def := ⟨3, 4, (.cons (.ret (.bi .all (.mk .pure (.lc (.call 0 (.cons (.var 3) (.cons (.var 1) (.cons (.var 2) .nil))) .nil []) (.nm 3) (.seq (.var 0)) .none [3])))) .nil)⟩
def F_are_between : Fn := run { fs := [F_is_between], cs := [], at_ := gAts, kls := gKls, sub := [], xns := gXns, exm := gExm, mks := [], exs := [], eqs := [] } f_are_between
def f_are_numbers : Def := ⟨1, 1, (.cons (.ret (.and (.isi (.var 0) .tuple) (.one (.call 0 (.cons (.var 0) (.cons (.lit (.int 0)) (.cons (.con 0) .nil))) .nil [])))) .nil)⟩
def F_are_numbers : Fn := run { fs := [F_are_between], cs := [.int 100], at_ := gAts, kls := gKls, sub := [], xns := gXns, exm := gExm, mks := [], exs := [], eqs := [] } f_are_numbers
def f_Ranks___init__ : Def := ⟨4, 4, (.cons (.ite (.not (.call 0 (.cons (.var 1) (.cons (.lit (.int 0)) (.cons (.con 0) .nil))) .nil [])) (.cons (.rse 0 (.cons (.var 1) .nil)) .nil) .nil) (.cons (.ite (.or (.not (.call 1 (.cons (.var 2) .nil) .nil [])) (.one (.not (.chain .LtE .LtE (.lit (.int 1)) (.bi .len (.var 2)) (.con 1))))) (.cons (.rse 1 (.cons (.var 2) .nil)) .nil) .nil) (.cons (.ite (.or (.not (.call 1 (.cons (.var 3) .nil) .nil [])) (.one (.cmp .NotEq (.bi .len (.var 3)) (.bi .len (.var 2))))) (.cons (.rse 2 (.cons (.var 3) .nil)) .nil) .nil) (.cons (.fset (.var 0) "most" (.var 1)) (.cons (.fset (.var 0) "people" (.var 2)) (.cons (.fset (.var 0) "lessons" (.var 3)) .nil))))))⟩
def F_Ranks___init__ : Fn := run { fs := [F_is_between, F_are_numbers], cs := [.int 100, .int 8], at_ := gAts, kls := gKls, sub := [], xns := gXns, exm := gExm, mks := [], exs := [("InvalidMost", ["given"]), ("InvalidPeople", ["given"]), ("InvalidLessons", ["given"])], eqs := [] } f_Ranks___init__
def f_law : Def := ⟨1, 12, (.cons (.for (.nm 1) (.range1 (.bi2 .max (.lit (.int 2)) (.bi2 .min (.lit (.int 8)) (.bi .len (.var 0))))) (.cons (.par [3, 4] (.cons (.call 0 (.cons (.call 1 (.cons (.var 0) (.cons (.var 1) .nil)) .nil []) .nil) .nil []) (.cons (.mk .cell (.disp .nil)) .nil))) (.cons (.asg (.nm 2) (.ite (.cmp .Gt (.call 2 (.cons (.var 3) (.cons (.lit (.int 3)) .nil)) .nil []) (.lit (.int 0))) (.call 3 (.cons (.var 3) .nil) .nil []) (.call 4 (.cons (.var 3) .nil) .nil []))) (.cons (.for (.tp (.cons (.nm 5) (.cons (.nm 6) (.cons (.nm 7) .nil)))) (.seq (.mk .pure (.disp (.cons (.var 2) (.cons (.call 5 (.cons (.var 3) (.cons (.sub (.var 2) (.lit (.int 0))) (.cons (.sub (.var 2) (.lit (.int 1))) (.cons (.sub (.var 2) (.lit (.int 2))) .nil)))) .nil []) (.cons (.call 4 (.cons (.var 3) .nil) .nil []) .nil)))))) (.cons (.asg (.nm 8) (.call 6 (.cons (.var 5) (.cons (.var 6) (.cons (.var 7) .nil))) .nil [])) (.cons (.asg (.nm 9) (.call 7 (.cons (.var 8) .nil) .nil [])) (.cons (.ite (.cmp .NotEq (.var 9) (.call 8 (.cons (.var 5) (.cons (.var 6) (.cons (.var 7) .nil))) .nil [])) (.cons (.ret (.lit (.bl false))) .nil) .nil) (.cons (.asg (.nm 10) (.mk .pure (.disp (.cons (.var 8) (.cons (.var 9) (.cons (.ite (.var 9) (.call 9 (.cons (.var 5) (.cons (.var 6) (.cons (.var 8) .nil))) .nil []) (.lit .non)) .nil)))))) (.cons (.mth 4 .append (.cons (.mk .pure (.disp (.cons (.make 0 (.cons (.var 5) (.cons (.bi .tuple (.var 6)) (.cons (.bi .tuple (.var 7)) .nil))) .nil [0, 1, 2]) (.cons (.var 10) .nil)))) .nil)) .nil)))))) (.cons (.for (.tp (.cons (.nm 11) (.cons (.nm 10) .nil))) (.seq (.frz (.var 4))) (.cons (.ite (.not (.call 10 (.cons (.var 3) (.cons (.var 11) (.cons (.var 10) .nil))) .nil [])) (.cons (.ret (.lit (.bl false))) .nil) .nil) .nil)) (.cons (.for (.tp (.cons (.nm 11) (.cons (.nm 10) .nil))) (.seq (.mk .pure (.rev (.var 4)))) (.cons (.ite (.not (.call 10 (.cons (.var 3) (.cons (.var 11) (.cons (.var 10) .nil))) .nil [])) (.cons (.ret (.lit (.bl false))) .nil) .nil) .nil)) .nil)))))) (.cons (.ret (.lit (.bl true))) .nil))⟩
def F_law : Fn := run { fs := [F_law_box, F_law_cell, F_law_take, F_law_tight, F_law_plain, F_law_spoilt, F_law_ranks_row, F_law_rising, F_law_has_groups, F_law_groups, F_law_right], cs := [], at_ := gAts, kls := gKls, sub := [], xns := gXns, exm := gExm, mks := [("Ranks", F_Ranks___init__)], exs := [], eqs := [] } f_law
end Z

namespace Z
open PySem
def S_law_tight (box0 : D) : X D := X.bind (X.bind (X.mkP (X.bind (L_take box0 (D.int 4)) fun t0 => X.bind (L_take box0 (D.int 4)) fun t1 => X.bind (L_take box0 (D.int 101)) fun t2 => X.fits [t0, t1, t2])) fun t3 => X.bind (L_take box0 (D.int 3)) fun t4 => X.sub t3 t4) fun t5 => X.bind (X.mkC (X.fits [])) fun t6 => X.bind (X.mkC (X.fits [])) fun t7 => X.bind (X.bind (L_take box0 (D.int 8)) fun t8 => X.bin .Add (D.int 1) t8) fun t9 => X.bind (X.range1 t9) fun xs => X.bind (X.forV (fun k0 (people0, lessons0, room0, groups0) => X.bind (X.bind (X.mkP (X.bind (L_take box0 (D.int 4)) fun t10 => X.bind (X.bind (X.bin .Add t5 (D.int 1)) fun t11 => X.bind (L_take box0 (D.int 3)) fun t12 => X.bin .Add t11 t12) fun t13 => X.bind (X.bind (L_take box0 (D.int 30)) fun t14 => X.bin .Add t5 t14) fun t15 => X.fits [t10, t5, t13, t15, (D.int 0)])) fun t16 => X.bind (L_take box0 (D.int 5)) fun t17 => X.sub t16 t17) fun more0 => X.bind (X.lstX people0) fun _ => X.bind (X.bi2 .min (D.int 100) more0) fun t18 => X.bind (X.upX people0 (mtC .append [t18])) fun _ => X.bind (X.bind (X.bi .sum people0) fun t19 => X.bind (X.bind (X.bin .Add groups0 (D.int 1)) fun t20 => X.bin .Mult t20 t5) fun t21 => X.bin .Sub t19 t21) fun closed0 => X.bind (X.iff (X.and (X.cmp .Gt closed0 room0) (X.bind (L_take box0 (D.int 4)) fun t22 => X.cmp .Gt t22 (D.int 0))) (X.bind (X.bin .Add groups0 (D.int 1)) fun t23 => X.pure (closed0, t23)) (X.pure (room0, groups0))) (fun (room2, groups2) => X.bind (X.bind (X.bind (X.bi .sum lessons0) fun t24 => X.bin .Sub room2 t24) fun t25 => X.bi2 .min (D.int 100) t25) fun left0 => X.bind (X.lstX lessons0) fun _ => X.bind (X.bind (X.mkP (X.bind (X.bind (X.bin .Add left0 (D.int 1)) fun t26 => L_take box0 t26) fun t27 => X.fits [left0, left0, (D.int 0), t27])) fun t28 => X.bind (L_take box0 (D.int 4)) fun t29 => X.sub t28 t29) fun t30 => X.bind (X.upX lessons0 (mtC .append [t30])) fun _ => X.pure (people0, lessons0, room2, groups2))) xs (t6, t7, (D.int 0), (D.int 0))) (fun (people2, lessons2, room4, groups4) => X.mkP (X.bind (X.frz people2) fun t31 => X.bind (X.frz lessons2) fun t32 => X.fits [t5, t31, t32]))
def S_law_plain (box0 : D) : X D := X.bind (X.bind (X.bind (L_take box0 (D.int 8)) fun t0 => X.bin .Add (D.int 1) t0) fun t1 => X.bind (X.bind (X.mkP (X.bind (X.mkP (X.fits [(D.int 2), (D.int 4), (D.int 3)])) fun t2 => X.bind (X.mkP (X.fits [(D.int 4), (D.int 9), (D.int 4)])) fun t3 => X.bind (X.mkP (X.fits [(D.int 3), (D.int 3), (D.int 3)])) fun t4 => X.bind (X.mkP (X.fits [(D.int 101), (D.int 101), (D.int 101)])) fun t5 => X.bind (X.mkP (X.fits [(D.int 40), (D.int 101), (D.int 30)])) fun t6 => X.fits [t2, t3, t4, t5, t6])) fun t7 => X.bind (L_take box0 (D.int 5)) fun t8 => X.sub t7 t8) fun t9 => X.tup [t1, t9]) fun x0 => X.bind (X.items2 x0) fun (many0, top0) => X.bind (X.mkP (X.bind (X.range1 many0) fun xs => X.lc (fun k0 => X.one (X.bind (X.bind (X.sub top0 (D.int 1)) fun t10 => L_take box0 t10) fun t11 => X.bind (X.bind (X.bl (X.bind (L_take box0 (D.int 5)) fun t12 => X.cmp .Gt t12 (D.int 0))) fun t13 => X.bi .int t13) fun t14 => X.bin .Mult t11 t14)) xs)) fun people0 => X.mkP (X.bind (X.bind (X.sub top0 (D.int 0)) fun t15 => L_take box0 t15) fun t16 => X.bind (X.mkP (X.bind (X.range1 many0) fun xs => X.lc (fun k1 => X.one (X.bind (X.bind (X.sub top0 (D.int 2)) fun t17 => L_take box0 t17) fun t18 => X.bind (X.bind (X.bl (X.bind (L_take box0 (D.int 3)) fun t19 => X.cmp .Gt t19 (D.int 0))) fun t20 => X.bi .int t20) fun t21 => X.bin .Mult t18 t21)) xs)) fun t22 => X.fits [t16, people0, t22])
def S_law_spoilt (box0 most0 people0 lessons0 : D) : X D := X.bind (X.bind (X.mkC (X.list people0)) fun t0 => X.bind (X.mkC (X.list lessons0)) fun t1 => X.bind (X.bind (X.bi .len people0) fun t2 => L_take box0 t2) fun t3 => X.bind (L_take box0 (D.int 5)) fun t4 => X.tup [t0, t1, t3, t4]) fun x0 => X.bind (X.items4 x0) fun (people1, lessons1, at0, way0) => X.bind (X.iff (X.and (X.cmp .Lt way0 (D.int 2)) (X.bind (X.sub lessons1 at0) fun t5 => X.cmp .Lt t5 (D.int 100))) (X.bind (X.bind (X.sub lessons1 at0) fun t6 => X.bin .Add t6 (D.int 1)) fun t7 => X.bind (X.lstX lessons1) fun _ => X.bind (X.upX lessons1 (setC at0 t7)) fun _ => X.pure lessons1) (X.pure lessons1)) (fun lessons2 => X.bind (X.iff (X.and (X.cmp .Eq way0 (D.int 2)) (X.bind (X.sub people1 at0) fun t8 => X.cmp .Gt t8 (D.int 0))) (X.bind (X.bind (X.sub people1 at0) fun t9 => X.bin .Sub t9 (D.int 1)) fun t10 => X.bind (X.lstX people1) fun _ => X.bind (X.upX people1 (setC at0 t10)) fun _ => X.pure people1) (X.pure people1)) (fun people2 => X.bind (X.iff (X.and (X.cmp .Eq way0 (D.int 3)) (X.bind (X.sub people2 at0) fun t11 => X.cmp .Lt t11 (D.int 100))) (X.bind (X.bind (X.sub people2 at0) fun t12 => X.bin .Add t12 (D.int 1)) fun t13 => X.bind (X.lstX people2) fun _ => X.bind (X.upX people2 (setC at0 t13)) fun _ => X.pure people2) (X.pure people2)) (fun people4 => X.mkP (X.bind (X.bind (X.bind (X.bind (X.bl (X.cmp .Eq way0 (D.int 4))) fun t14 => X.bi .int t14) fun t15 => X.bin .Add most0 t15) fun t16 => X.bi2 .min (D.int 100) t16) fun t17 => X.bind (X.frz people4) fun t18 => X.bind (X.frz lessons2) fun t19 => X.fits [t17, t18, t19]))))
def S_law_sums (items0 : D) : X D := X.bind (X.fits []) fun found0 => X.bind (X.seq items0) fun xs => X.bind (X.forV (fun one0 found1 => X.bind (X.bind (X.iff (X.bind (X.mkP (X.fits [])) fun t0 => X.cmp .NotEq (.lst found1) t0) (X.bind (X.un .USub (D.int 1)) fun t1 => X.sub (.lst found1) t1) (X.pure (D.int 0))) fun t2 => X.bin .Add one0 t2) fun t3 => X.bind (X.upL found1 (mtC .append [t3])) fun (found3, _) => X.pure found3) xs found0) (fun found4 => X.pure (D.lst found4))
def S_law_ranks_row (most0 people0 lessons0 : D) : X D := X.bind (X.bind (S_law_sums people0) fun t0 => X.bind (S_law_sums lessons0) fun t1 => X.bind (X.mkC (X.fits [])) fun t2 => X.tup [t0, t1, t2]) fun x0 => X.bind (X.items3 x0) fun (have0, wanted0, found0) => X.bind (X.bind (X.bind (X.bi .len people0) fun t3 => X.bin .Add t3 (D.int 1)) fun t4 => X.range1 t4) fun xs => X.qF (X.forO (τ := Unit) (fun turn0 found1 => X.bind (X.iff (X.bind (X.mkP (X.fits [])) fun t5 => X.cmp .NotEq found1 t5) (X.bind (X.bind (X.bind (X.un .USub (D.int 1)) fun t6 => X.sub found1 t6) fun t7 => X.sub have0 t7) fun t8 => X.bind (X.bin .Mult turn0 most0) fun t9 => X.bin .Sub t8 t9) (X.pure (D.int 0))) fun bound0 => X.bind (X.mkP (X.bind (X.bind (X.bi .len people0) fun t10 => X.range1 t10) fun xs => X.lc (fun k0 => X.oneIf (X.bind (X.sub wanted0 k0) fun t11 => X.cmp .Gt t11 bound0) (X.pure k0)) xs)) fun some0 => X.iff (X.bind (X.mkP (X.fits [])) fun t12 => X.cmp .Eq some0 t12) (X.bind (X.frz found1) fun d => X.pure (.rt d)) (X.bind (X.lstX found1) fun _ => X.bind (X.sub some0 (D.int 0)) fun t13 => X.bind (X.upX found1 (mtC .append [t13])) fun _ => X.iff (X.and (X.cmp .Gt turn0 (D.int 0)) (X.bind (X.bind (X.un .USub (D.int 1)) fun t14 => X.sub found1 t14) fun t15 => X.bind (X.bind (X.un .USub (D.int 2)) fun t16 => X.sub found1 t16) fun t17 => X.cmp .LtE t15 t17)) (X.bind (X.frz found1) fun d => X.pure (.rt d)) (X.pure (.nx found1)))) xs found0) (fun found3 => X.frz found3)
def S_law_rising (items0 : D) : X D := X.bl (X.bind (X.mkP (X.bind (X.bind (X.bi .len items0) fun t0 => X.range2 (D.int 1) t0) fun xs => X.lc (fun k0 => X.oneIf (X.bind (X.sub items0 k0) fun t1 => X.bind (X.bind (X.bin .Sub k0 (D.int 1)) fun t2 => X.sub items0 t2) fun t3 => X.cmp .LtE t1 t3) (X.pure k0)) xs)) fun t4 => X.bind (X.mkP (X.fits [])) fun t5 => X.cmp .Eq t4 t5)
def S_law_has_groups (most0 people0 lessons0 : D) : X D := X.bind (S_law_sums people0) fun t0 => X.bind (S_law_sums lessons0) fun t1 => X.bind (X.bi .len people0) fun t2 => X.bind (X.bind (X.bin .LShift (D.int 1) t2) fun t3 => X.range1 t3) fun xs => X.qF (X.forO (τ := Unit) (fun number0 _ => X.bind (X.tup [(D.int 0), (D.int 0), (D.bl true)]) fun x0 => X.bind (X.items3 x0) fun (rooms0, ahead0, good0) => X.bind (X.range1 t2) fun xs => X.qO (X.forO (fun k0 (rooms1, ahead1, good1) => X.bind (X.iff (X.bind (X.bind (X.bin .RShift number0 k0) fun t4 => X.bin .BitAnd t4 (D.int 1)) fun t5 => X.tru t5) (X.bind (X.bl (X.bind (X.bind (X.sub t0 k0) fun t6 => X.bin .Sub t6 ahead1) fun t7 => X.cmp .GtE t7 most0)) fun good5 => X.bind (X.bind (X.bind (X.bind (X.sub t0 k0) fun t8 => X.bin .Add rooms1 t8) fun t9 => X.bin .Sub t9 ahead1) fun t10 => X.bin .Sub t10 most0) fun t11 => X.bind (X.sub t0 k0) fun t12 => X.pure (t11, t12, good5)) (X.pure (rooms1, ahead1, good1))) (fun (rooms3, ahead3, good3) => X.iff (X.or (X.not (X.tru good3)) (X.bind (X.sub t1 k0) fun t13 => X.cmp .Gt t13 rooms3)) (X.pure (.bk (rooms3, ahead3, (D.bl false)))) (X.pure (.nx (rooms3, ahead3, good3))))) xs (rooms0, ahead0, good0)) (fun (rooms5, ahead5, good6) => X.iff (X.tru good6) (X.pure (.rt (D.bl true))) (X.pure (.nx ())))) xs ()) (fun _ => X.pure (D.bl false))
def S_law_groups (most0 people0 found0 : D) : X D := X.bind (S_law_sums people0) fun have0 => X.bind (X.mkP (X.bind (X.seq found0) fun xs => X.lc (fun k0 => X.one (X.sub have0 k0)) xs)) fun ends0 => X.bind (X.mkP (X.bind (X.mkP (X.fits [(D.int 0)])) fun t0 => X.cat t0 ends0)) fun begins0 => X.mkP (X.bind (X.bind (X.bi .len ends0) fun t1 => X.range1 t1) fun xs => X.lc (fun k1 => X.one (X.bind (X.bind (X.sub ends0 k1) fun t2 => X.bind (X.sub begins0 k1) fun t3 => X.bin .Sub t2 t3) fun t4 => X.bind (X.bind (X.bind (X.sub ends0 k1) fun t5 => X.bind (X.sub begins0 k1) fun t6 => X.bin .Sub t5 t6) fun t7 => X.bin .Sub t7 most0) fun t8 => X.tup [t4, t8])) xs)
def S_first_above (sums0 number0 : D) : X D := X.bind (X.mkP (X.bind (X.enum sums0) fun xs => X.lc (fun x0 => X.bind (X.items2 x0) fun (rank0, total0) => X.oneIf (X.cmp .Gt total0 number0) (X.pure rank0)) xs)) fun t0 => X.slc t0 none (some 1)
def S_is_ascending (items0 : D) : X D := X.bind (X.mkP (X.bind (X.bind (X.bind (X.bi .len items0) fun t0 => X.bin .Sub t0 (D.int 1)) fun t1 => X.range1 t1) fun xs => X.lc (fun at0 => X.one (X.bl (X.bind (X.sub items0 at0) fun t2 => X.bind (X.bind (X.bin .Add at0 (D.int 1)) fun t3 => X.sub items0 t3) fun t4 => X.cmp .Lt t2 t4))) xs)) fun t5 => X.bi .all t5
def S_row_of (most0 people0 lessons0 : D) : X D := X.bind (X.mkC (X.fits [])) fun t0 => X.bind (S_first_above lessons0 (D.int 0)) fun t1 => X.qF (X.whlO (τ := Unit) (fun (found0, further0) => X.bind (X.mkP (X.fits [])) fun t2 => X.cmp .NotEq further0 t2) (fun (found0, further0) => X.bind (X.lstX found0) fun _ => X.bind (X.upX found0 (mtC .extend [further0])) fun _ => X.iff (X.not (X.bind (X.bind (X.bind (X.bind (X.un .USub (D.int 2)) X.toI) fun i0 => X.slc found0 i0 none) fun t3 => S_is_ascending t3) fun t4 => X.tru t4)) (X.pure (.rt found0)) (X.bind (X.bind (X.bind (X.bind (X.bind (X.un .USub (D.int 1)) fun t5 => X.sub found0 t5) fun t6 => X.sub people0 t6) fun t7 => X.bind (X.bind (X.bi .len found0) fun t8 => X.bin .Mult t8 most0) fun t9 => X.bin .Sub t7 t9) fun t10 => S_first_above lessons0 t10) fun further2 => X.pure (.nx (found0, further2)))) many (t0, t1)) (fun (found2, further3) => X.pure found2)
def S_totals (numbers0 : D) : X D := X.bind (X.mkC (X.fits [])) fun found0 => X.bind (X.seq numbers0) fun xs => X.bind (X.forV (fun number0 found1 => X.bind (X.lstX found1) fun _ => X.bind (X.bind (X.iff (X.tru found1) (X.bind (X.un .USub (D.int 1)) fun t0 => X.sub found1 t0) (X.pure (D.int 0))) fun t1 => X.bin .Add number0 t1) fun t2 => X.bind (X.upX found1 (mtC .append [t2])) fun _ => X.pure found1) xs found0) (fun found3 => X.frz found3)
def S_row (ranks0 : D) : X D := X.bind (X.fld gAts ranks0 "most") fun t0 => X.bind (X.bind (X.fld gAts ranks0 "people") fun t1 => S_totals t1) fun t2 => X.bind (X.bind (X.fld gAts ranks0 "lessons") fun t3 => S_totals t3) fun t4 => S_row_of t0 t2 t4
def S_stays (ranks0 : D) : X D := X.bind (S_row ranks0) fun t0 => S_is_ascending t0
def S_parts (ranks0 : D) : X D := X.iff (X.not (X.bind (S_stays ranks0) fun t0 => X.tru t0)) (X.pure D.non) (X.bind (X.bind (X.fld gAts ranks0 "people") fun t1 => S_totals t1) fun t2 => X.bind (X.mkC (X.fits [])) fun t3 => X.bind (X.bind (X.bind (S_row ranks0) fun t4 => X.frz t4) fun t5 => X.seq t5) fun xs => X.bind (X.forV (fun rank0 (found0, ahead0) => X.bind (X.bind (X.sub t2 rank0) fun t6 => X.bin .Sub t6 ahead0) fun people0 => X.bind (X.lstX found0) fun _ => X.bind (X.bind (X.bind (X.fld gAts ranks0 "most") fun t7 => X.bin .Sub people0 t7) fun t8 => X.tup [people0, t8]) fun t9 => X.bind (X.upX found0 (mtC .append [t9])) fun _ => X.bind (X.sub t2 rank0) fun ahead2 => X.pure (found0, ahead2)) xs (t3, (D.int 0))) (fun (found2, ahead3) => X.pure found2))
def S_law_right (box0 made0 due0 : D) : X D := X.bind (X.range1 (D.int 2)) fun xs => X.qF (X.forO (τ := Unit) (fun turn0 _ => X.bind (X.bl (X.bind (L_take box0 (D.int 2)) fun t0 => X.cmp .Eq t0 (D.int 0))) fun named0 => X.bind (X.iff (X.tru named0) (X.mkP (X.bind (S_row made0) fun t1 => X.bind (S_stays made0) fun t2 => X.bind (S_parts made0) fun t3 => X.fits [t1, t2, t3])) (X.mkP (X.bind (S_row made0) fun t4 => X.bind (S_stays made0) fun t5 => X.bind (S_parts made0) fun t6 => X.fits [t4, t5, t6]))) fun told0 => X.iff (X.not (X.bind (L_same 8 told0 due0) fun t7 => X.tru t7)) (X.pure (.rt (D.bl false))) (X.bind (X.sub told0 (D.int 0)) fun t8 => X.bind (X.lstX t8) fun _ => X.bind (X.upX t8 (mtC .append [(D.int 7)])) fun _ => X.bind (X.sub told0 (D.int 0)) fun t9 => X.bind (X.lstX t9) fun _ => X.bind (X.upX t9 (mtC .reverse [])) fun _ => X.iff (X.bind (X.sub told0 (D.int 2)) fun t10 => X.cmp .IsNot t10 D.non) (X.bind (X.sub told0 (D.int 2)) fun t11 => X.bind (X.lstX t11) fun _ => X.bind (X.tup [(D.int 1), (D.int 1)]) fun t12 => X.bind (X.upX t11 (mtC .append [t12])) fun _ => X.pure (.nx ())) (X.pure (.nx ())))) xs ()) (fun _ => X.pure (D.bl true))
def S_is_integer (value0 : D) : X D := X.bl (X.and (X.isi value0 .int) (X.not (X.isi value0 .bool)))
def S_is_between (value0 least0 most0 : D) : X D := X.andV (S_is_integer value0) (X.bl (X.chain .LtE .LtE least0 value0 (X.pure most0)))
def S_are_between (values0 least0 most0 : D) : X D := X.bind (X.mkP (X.bind (X.seq values0) fun xs => X.lc (fun value0 => X.one (S_is_between value0 least0 most0)) xs)) fun t0 => X.bi .all t0
def S_are_numbers (value0 : D) : X D := X.andV (X.bl (X.isi value0 .tuple)) (S_are_between value0 (D.int 0) (D.int 100))
def S_Ranks___init__ (self0 most0 people0 lessons0 : D) : X D := X.iff (X.not (X.bind (S_is_between most0 (D.int 0) (D.int 100)) fun t0 => X.tru t0)) (X.rse ("InvalidMost", ["given"]) [most0]) (X.iff (X.or (X.not (X.bind (S_are_numbers people0) fun t1 => X.tru t1)) (X.not (X.bind (X.bi .len people0) fun t2 => X.chain .LtE .LtE (D.int 1) t2 (X.pure (D.int 8))))) (X.rse ("InvalidPeople", ["given"]) [people0]) (X.iff (X.or (X.not (X.bind (S_are_numbers lessons0) fun t3 => X.tru t3)) (X.bind (X.bi .len lessons0) fun t4 => X.bind (X.bi .len people0) fun t5 => X.cmp .NotEq t4 t5)) (X.rse ("InvalidLessons", ["given"]) [lessons0]) (X.bind (X.fset gAts self0 "most" most0) fun _ => X.bind (X.fset gAts self0 "people" people0) fun _ => X.bind (X.fset gAts self0 "lessons" lessons0) fun _ => X.pure .non)))
def S_law (script0 : D) : X D := X.bind (X.bind (X.bind (X.bind (X.bi .len script0) fun t0 => X.bi2 .min (D.int 8) t0) fun t1 => X.bi2 .max (D.int 2) t1) fun t2 => X.range1 t2) fun xs => X.qF (X.forO (τ := Unit) (fun k0 _ => X.bind (X.bind (L_cell script0 k0) fun t3 => L_box t3) fun t4 => X.bind (X.mkC (X.fits [])) fun t5 => X.bind (X.iff (X.bind (L_take t4 (D.int 3)) fun t6 => X.cmp .Gt t6 (D.int 0)) (S_law_tight t4) (S_law_plain t4)) fun first0 => X.bind (X.bind (X.mkP (X.bind (X.bind (X.sub first0 (D.int 0)) fun t7 => X.bind (X.sub first0 (D.int 1)) fun t8 => X.bind (X.sub first0 (D.int 2)) fun t9 => S_law_spoilt t4 t7 t8 t9) fun t10 => X.bind (S_law_plain t4) fun t11 => X.fits [first0, t10, t11])) fun t12 => X.seq t12) fun xs => X.qO (X.forO (fun x0 cases0 => X.bind (X.items3 x0) fun (most0, people0, lessons0) => X.bind (S_law_ranks_row most0 people0 lessons0) fun found0 => X.bind (S_law_rising found0) fun rising0 => X.iff (X.bind (S_law_has_groups most0 people0 lessons0) fun t13 => X.cmp .NotEq rising0 t13) (X.pure (.rt (D.bl false))) (X.bind (X.mkP (X.bind (X.iff (X.tru rising0) (S_law_groups most0 people0 found0) (X.pure D.non)) fun t14 => X.fits [found0, rising0, t14])) fun due0 => X.bind (X.lstX cases0) fun _ => X.bind (X.mkP (X.bind (X.bind (X.bi .tuple people0) fun t15 => X.bind (X.bi .tuple lessons0) fun t16 => X.make "Ranks" fun self => S_Ranks___init__ self most0 t15 t16) fun t17 => X.fits [t17, due0])) fun t18 => X.bind (X.upX cases0 (mtC .append [t18])) fun _ => X.pure (.nx cases0))) xs t5) (fun cases2 => X.bind (X.bind (X.frz cases2) fun t19 => X.seq t19) fun xs => X.qO (X.forO (fun x1 _ => X.bind (X.items2 x1) fun (made0, due1) => X.iff (X.not (X.bind (S_law_right t4 made0 due1) fun t20 => X.tru t20)) (X.pure (.rt (D.bl false))) (X.pure (.nx ()))) xs ()) (fun _ => X.bind (X.bind (X.mkP (X.rev cases2)) fun t21 => X.seq t21) fun xs => X.qO (X.forO (fun x2 _ => X.bind (X.items2 x2) fun (made1, due2) => X.iff (X.not (X.bind (S_law_right t4 made1 due2) fun t22 => X.tru t22)) (X.pure (.rt (D.bl false))) (X.pure (.nx ()))) xs ()) (fun _ => X.pure (.nx ()))))) xs ()) (fun _ => X.pure (D.bl true))
end Z

namespace Z
open PySem
theorem r_law_box (great0 : D) : FRef F_law_box [great0] (L_box great0) := d_run (G := { fs := [], cs := [], at_ := gAts, kls := gKls, sub := [], xns := gXns, exm := gExm, mks := [], exs := [], eqs := [] }) (d := f_law_box) [.val great0] rfl rfl (s_retF (e_mkC (f_disp (args_cons (e_bi (b_atom (a_val rfl) t_bi)) fun t0 => (args_cons (e_cmp (b_bindB (e_bi (b_atom (a_val rfl) t_bi)) fun t1 => (b_bindB (e_bin (b_atom a_lit (b_atom a_lit t_bin))) fun t2 => t_cmp))) fun t3 => (args_cons (e_bin (b_bind (e_bi (b_bind (e_bi (b_atom (a_val rfl) t_bi)) fun t4 => t_bi)) fun t5 => (b_atom a_lit t_bin))) fun t6 => (args_atom a_lit (args_nil t_disp))))))))
theorem r_law_cell (script0 k0 : D) : FRef F_law_cell [script0, k0] (L_cell script0 k0) := d_run (G := { fs := [], cs := [], at_ := gAts, kls := gKls, sub := [], xns := gXns, exm := gExm, mks := [], exs := [], eqs := [] }) (d := f_law_cell) [.val script0, .val k0] rfl rfl (s_retF (e_ite (T_bl (e_cmp (b_atom (a_val rfl) (b_bindB (e_bi (b_atom (a_val rfl) t_bi)) fun t0 => t_cmp)))) (e_sub (b_atom (a_val rfl) (b_atom (a_val rfl) t_sub))) (e_bin (b_bind (e_bin (b_atom a_lit (b_atom (a_val rfl) t_bin))) fun t1 => (b_bind (e_bin (b_bind (e_bi (b_bind (e_bi (b_bind (e_slc (b_atom (a_val rfl) (o_none (o_int t_slc)))) fun t2 => t_bi)) fun t3 => t_bi)) fun t4 => (b_atom a_lit t_bin))) fun t5 => t_bin)))))
theorem r_law_take (box0 many0 : D) : FRef F_law_take [box0, many0] (L_take box0 many0) := d_run (G := { fs := [], cs := [], at_ := gAts, kls := gKls, sub := [], xns := gXns, exm := gExm, mks := [], exs := [], eqs := [] }) (d := f_law_take) [.val box0, .val many0, .nown, .nown] rfl rfl (s_ite (T_and (T_gen (b_bind (e_sub (b_atom (a_val rfl) (b_atom a_lit t_sub))) fun t0 => t_tru)) (T_bl (e_one (e_cmp (b_bindB (e_sub (b_atom (a_val rfl) (b_atom a_lit t_sub))) fun t1 => (b_atom a_lit t_cmp)))))) (s_asg (b_bind (e_bin (b_bind (e_bi (b_bind (e_sub (b_atom (a_val rfl) (b_atom a_lit t_sub))) fun t2 => t_bi)) fun t3 => (b_atom (a_val rfl) t_bin))) fun digit0 => (p_nm rfl (s_set (b_bind (e_bin (b_bind (e_sub (b_atom (a_val rfl) (b_atom a_lit t_sub))) fun t4 => (b_atom (a_val rfl) t_bin))) fun t5 => (c_val rfl (b_atom a_lit (u_val rfl fun _ => (s_retF (e_atom (a_val rfl))))))))))) (s_nil (s_set (b_bind (e_bin (b_bind (e_sub (b_atom (a_val rfl) (b_atom a_lit t_sub))) fun t6 => (b_atom a_lit t_bin))) fun t7 => (c_val rfl (b_atom a_lit (u_val rfl fun _ => (s_asg (b_bind (e_bin (b_bind (e_bi (b_bind (e_bin (b_bind (e_bin (b_bind (e_bin (b_bind (e_sub (b_atom (a_val rfl) (b_atom a_lit t_sub))) fun t8 => (b_bind (e_bin (b_atom a_lit (b_bind (e_sub (b_atom (a_val rfl) (b_atom a_lit t_sub))) fun t9 => t_bin))) fun t10 => t_bin))) fun t11 => (b_atom a_lit t_bin))) fun t12 => (b_atom a_lit t_bin))) fun t13 => t_bi)) fun t14 => (b_atom a_lit t_bin))) fun mixed0 => (p_nm rfl (s_retF (e_bin (b_bind (e_bi (b_bind (e_bin (b_bind (e_bin (b_bind (e_bi (b_bind (e_bin (b_bind (e_bin (b_bind (e_bin (b_atom (a_val rfl) (b_atom a_lit t_bin))) fun t15 => (b_bind (e_bin (b_atom a_lit (b_bind (e_sub (b_atom (a_val rfl) (b_atom a_lit t_sub))) fun t16 => t_bin))) fun t17 => t_bin))) fun t18 => (b_atom a_lit t_bin))) fun t19 => t_bi)) fun t20 => (b_atom a_lit t_bin))) fun t21 => (b_atom a_lit t_bin))) fun t22 => t_bi)) fun t23 => (b_atom (a_val rfl) t_bin))))))))))))))
theorem r_law_tight (box0 : D) : FRef F_law_tight [box0] (S_law_tight box0) := d_run (G := { fs := [F_law_take], cs := [], at_ := gAts, kls := gKls, sub := [], xns := gXns, exm := gExm, mks := [], exs := [], eqs := [] }) (d := f_law_tight) [.val box0, .nown, .nown, .nown, .nown, .nown, .nown, .nown, .nown, .nown, .nown] rfl rfl (s_par (args_cons (e_sub (b_bind (e_mkP (f_disp (args_cons (e_call (args_atom (a_val rfl) (args_atom a_lit (args_nil (args_nil (t_call (r_law_take box0 (D.int 4)) rfl)))))) fun t0 => (args_cons (e_call (args_atom (a_val rfl) (args_atom a_lit (args_nil (args_nil (t_call (r_law_take box0 (D.int 4)) rfl)))))) fun t1 => (args_cons (e_call (args_atom (a_val rfl) (args_atom a_lit (args_nil (args_nil (t_call (r_law_take box0 (D.int 101)) rfl)))))) fun t2 => (args_nil t_disp)))))) fun t3 => (b_bind (e_call (args_atom (a_val rfl) (args_atom a_lit (args_nil (args_nil (t_call (r_law_take box0 (D.int 3)) rfl)))))) fun t4 => t_sub))) fun t5 => (args_cons (e_mkC (f_disp (args_nil t_disp))) fun t6 => (args_cons (e_mkC (f_disp (args_nil t_disp))) fun t7 => (args_nil (st_cons rfl (st_cons rfl (st_cons rfl (st_nil (s_par (args_atom a_lit (args_atom a_lit (args_cons (e_bin (b_atom a_lit (b_bind (e_call (args_atom (a_val rfl) (args_atom a_lit (args_nil (args_nil (t_call (r_law_take box0 (D.int 8)) rfl)))))) fun t8 => t_bin))) fun t9 => (args_nil (st_cons rfl (st_cons rfl (st_cons rfl (st_nil (s_forV (fun (s : D × D × D × D) => match s with | (people1, lessons1, room1, groups1) => [.val box0, .nown, .val t5, .val people1, .val lessons1, .val room1, .val groups1, .val t9, .nown, .nown, .nown]) (i_range1 (b_atom (a_val rfl) (t_range1 (x := t9)))) (sub_cons le_val (sub_cons le_nown (sub_cons le_val (sub_cons le_val (sub_cons le_val (sub_cons le_val (sub_cons le_val (sub_cons le_val (sub_cons le_nown (sub_cons le_nown (sub_cons le_nown sub_nil))))))))))) (fun _ => rfl) (fun k0 ⟨people0, lessons0, room0, groups0⟩ => (p_nm rfl (s_asg (b_bind (e_sub (b_bind (e_mkP (f_disp (args_cons (e_call (args_atom (a_val rfl) (args_atom a_lit (args_nil (args_nil (t_call (r_law_take box0 (D.int 4)) rfl)))))) fun t10 => (args_atom (a_val rfl) (args_cons (e_bin (b_bind (e_bin (b_atom (a_val rfl) (b_atom a_lit t_bin))) fun t11 => (b_bind (e_call (args_atom (a_val rfl) (args_atom a_lit (args_nil (args_nil (t_call (r_law_take box0 (D.int 3)) rfl)))))) fun t12 => t_bin))) fun t13 => (args_cons (e_bin (b_atom (a_val rfl) (b_bind (e_call (args_atom (a_val rfl) (args_atom a_lit (args_nil (args_nil (t_call (r_law_take box0 (D.int 30)) rfl)))))) fun t14 => t_bin))) fun t15 => (args_atom a_lit (args_nil t_disp)))))))) fun t16 => (b_bind (e_call (args_atom (a_val rfl) (args_atom a_lit (args_nil (args_nil (t_call (r_law_take box0 (D.int 5)) rfl)))))) fun t17 => t_sub))) fun more0 => (p_nm rfl (s_mth (c_val rfl (args_cons (e_bi2 (b_atom a_lit (b_atom (a_val rfl) t_bi2))) fun t18 => (args_nil (u_val rfl fun _ => (s_asg (b_bind (e_bin (b_bind (e_biV (t_biV (.inl rfl))) fun t19 => (b_bind (e_bin (b_bind (e_bin (b_atom (a_val rfl) (b_atom a_lit t_bin))) fun t20 => (b_atom (a_val rfl) t_bin))) fun t21 => t_bin))) fun closed0 => (p_nm rfl (s_iteV (fun (s : D × D) => match s with | (room3, groups3) => [.val box0, .val k0, .val t5, .val people0, .val lessons0, .val room3, .val groups3, .val t9, .val more0, .val closed0, .nown]) (T_bl (e_andB (e_cmp (b_atom (a_val rfl) (b_atom (a_val rfl) t_cmp))) (e_one (e_cmp (b_bindB (e_call (args_atom (a_val rfl) (args_atom a_lit (args_nil (args_nil (t_call (r_law_take box0 (D.int 4)) rfl)))))) fun t22 => (b_atom a_lit t_cmp)))))) (s_par (args_atom (a_val rfl) (args_cons (e_bin (b_atom (a_val rfl) (b_atom a_lit t_bin))) fun t23 => (args_nil (st_cons rfl (st_cons rfl (st_nil (s_nil (k_V (sub_cons le_val (sub_cons le_val (sub_cons le_val (sub_cons le_val (sub_cons le_val (sub_cons le_val (sub_cons le_val (sub_cons le_val (sub_cons le_val (sub_cons le_val (sub_cons le_nown sub_nil)))))))))))))))))))) (s_nil (k_V (sub_cons le_val (sub_cons le_val (sub_cons le_val (sub_cons le_val (sub_cons le_val (sub_cons le_val (sub_cons le_val (sub_cons le_val (sub_cons le_val (sub_cons le_val (sub_cons le_nown sub_nil))))))))))))) (fun ⟨room2, groups2⟩ => (s_asg (b_bind (e_bi2 (b_atom a_lit (b_bind (e_bin (b_atom (a_val rfl) (b_bind (e_biV (t_biV (.inl rfl))) fun t24 => t_bin))) fun t25 => t_bi2))) fun left0 => (p_nm rfl (s_mth (c_val rfl (args_cons (e_sub (b_bind (e_mkP (f_disp (args_atom (a_val rfl) (args_atom (a_val rfl) (args_atom a_lit (args_cons (e_call (args_atom (a_val rfl) (args_cons (e_bin (b_atom (a_val rfl) (b_atom a_lit t_bin))) fun t26 => (args_nil (args_nil (t_call (r_law_take box0 t26) rfl)))))) fun t27 => (args_nil t_disp))))))) fun t28 => (b_bind (e_call (args_atom (a_val rfl) (args_atom a_lit (args_nil (args_nil (t_call (r_law_take box0 (D.int 4)) rfl)))))) fun t29 => t_sub))) fun t30 => (args_nil (u_val rfl fun _ => (s_nil (k_V (sub_cons le_val (sub_cons le_vn (sub_cons le_val (sub_cons le_val (sub_cons le_val (sub_cons le_val (sub_cons le_val (sub_cons le_val (sub_cons le_vn (sub_cons le_vn (sub_cons le_vn sub_nil)))))))))))))))))))))) fun _ => rfl)))))))))))))) (fun ⟨people2, lessons2, room4, groups4⟩ => (s_retF (e_mkP (f_disp (args_atom (a_val rfl) (args_cons (e_frz (b_atom (a_val rfl) t_frz)) fun t31 => (args_cons (e_frz (b_atom (a_val rfl) t_frz)) fun t32 => (args_nil t_disp)))))))))))))))))))))))))))
theorem r_law_plain (box0 : D) : FRef F_law_plain [box0] (S_law_plain box0) := d_run (G := { fs := [F_law_take], cs := [], at_ := gAts, kls := gKls, sub := [], xns := gXns, exm := gExm, mks := [], exs := [], eqs := [] }) (d := f_law_plain) [.val box0, .nown, .nown, .nown, .nown] rfl rfl (s_asg (b_bind (e_tup (args_cons (e_bin (b_atom a_lit (b_bind (e_call (args_atom (a_val rfl) (args_atom a_lit (args_nil (args_nil (t_call (r_law_take box0 (D.int 8)) rfl)))))) fun t0 => t_bin))) fun t1 => (args_cons (e_sub (b_bind (e_mkP (f_disp (args_cons (e_mkP (f_disp (args_atom a_lit (args_atom a_lit (args_atom a_lit (args_nil t_disp)))))) fun t2 => (args_cons (e_mkP (f_disp (args_atom a_lit (args_atom a_lit (args_atom a_lit (args_nil t_disp)))))) fun t3 => (args_cons (e_mkP (f_disp (args_atom a_lit (args_atom a_lit (args_atom a_lit (args_nil t_disp)))))) fun t4 => (args_cons (e_mkP (f_disp (args_atom a_lit (args_atom a_lit (args_atom a_lit (args_nil t_disp)))))) fun t5 => (args_cons (e_mkP (f_disp (args_atom a_lit (args_atom a_lit (args_atom a_lit (args_nil t_disp)))))) fun t6 => (args_nil t_disp)))))))) fun t7 => (b_bind (e_call (args_atom (a_val rfl) (args_atom a_lit (args_nil (args_nil (t_call (r_law_take box0 (D.int 5)) rfl)))))) fun t8 => t_sub))) fun t9 => (args_nil t_tup)))) fun x0 => (p_tp2 fun many0 top0 => (p_nm rfl (p_nm rfl (s_asg (b_bind (e_mkP (f_lc (fun _ => [.val box0, .nown, .val many0, .val top0, .nown]) (i_range1 (b_atom (a_val rfl) (t_range1 (x := many0)))) rfl (fun _ => rfl) (fun k0 => (p_nm rfl (g_post (lc_one (e_bin (b_bind (e_call (args_atom (a_val rfl) (args_cons (e_sub (b_atom (a_val rfl) (b_atom a_lit t_sub))) fun t10 => (args_nil (args_nil (t_call (r_law_take box0 t10) rfl)))))) fun t11 => (b_bind (e_bi (b_bind (e_cmp (b_bindB (e_call (args_atom (a_val rfl) (args_atom a_lit (args_nil (args_nil (t_call (r_law_take box0 (D.int 5)) rfl)))))) fun t12 => (b_atom a_lit t_cmp))) fun t13 => t_bi)) fun t14 => t_bin)))) (sub_cons le_val (sub_cons le_nown (sub_cons le_val (sub_cons le_val (sub_cons le_vn sub_nil)))))))))) fun people0 => (p_nm rfl (s_retF (e_mkP (f_disp (args_cons (e_call (args_atom (a_val rfl) (args_cons (e_sub (b_atom (a_val rfl) (b_atom a_lit t_sub))) fun t15 => (args_nil (args_nil (t_call (r_law_take box0 t15) rfl)))))) fun t16 => (args_atom (a_val rfl) (args_cons (e_mkP (f_lc (fun _ => [.val box0, .val people0, .val many0, .val top0, .nown]) (i_range1 (b_atom (a_val rfl) (t_range1 (x := many0)))) rfl (fun _ => rfl) (fun k1 => (p_nm rfl (g_post (lc_one (e_bin (b_bind (e_call (args_atom (a_val rfl) (args_cons (e_sub (b_atom (a_val rfl) (b_atom a_lit t_sub))) fun t17 => (args_nil (args_nil (t_call (r_law_take box0 t17) rfl)))))) fun t18 => (b_bind (e_bi (b_bind (e_cmp (b_bindB (e_call (args_atom (a_val rfl) (args_atom a_lit (args_nil (args_nil (t_call (r_law_take box0 (D.int 3)) rfl)))))) fun t19 => (b_atom a_lit t_cmp))) fun t20 => t_bi)) fun t21 => t_bin)))) (sub_cons le_val (sub_cons le_val (sub_cons le_val (sub_cons le_val (sub_cons le_vn sub_nil)))))))))) fun t22 => (args_nil t_disp)))))))))))))))
theorem r_law_spoilt (box0 most0 people0 lessons0 : D) : FRef F_law_spoilt [box0, most0, people0, lessons0] (S_law_spoilt box0 most0 people0 lessons0) := d_run (G := { fs := [F_law_take], cs := [], at_ := gAts, kls := gKls, sub := [], xns := gXns, exm := gExm, mks := [], exs := [], eqs := [] }) (d := f_law_spoilt) [.val box0, .val most0, .val people0, .val lessons0, .nown, .nown] rfl rfl (s_asg (b_bind (e_tup (args_cons (e_mkC (f_list (b_atom (a_val rfl) (t_list (x := people0))))) fun t0 => (args_cons (e_mkC (f_list (b_atom (a_val rfl) (t_list (x := lessons0))))) fun t1 => (args_cons (e_call (args_atom (a_val rfl) (args_cons (e_bi (b_atom (a_val rfl) t_bi)) fun t2 => (args_nil (args_nil (t_call (r_law_take box0 t2) rfl)))))) fun t3 => (args_cons (e_call (args_atom (a_val rfl) (args_atom a_lit (args_nil (args_nil (t_call (r_law_take box0 (D.int 5)) rfl)))))) fun t4 => (args_nil t_tup)))))) fun x0 => (p_tp4 fun people1 lessons1 at0 way0 => (p_nm rfl (p_nm rfl (p_nm rfl (p_nm rfl (s_iteV (fun (lessons3 : D) => [.val box0, .val most0, .val people1, .val lessons3, .val at0, .val way0]) (T_bl (e_andB (e_cmp (b_atom (a_val rfl) (b_atom a_lit t_cmp))) (e_one (e_cmp (b_bindB (e_sub (b_atom (a_val rfl) (b_atom (a_val rfl) t_sub))) fun t5 => (b_atom a_lit t_cmp)))))) (s_set (b_bind (e_bin (b_bind (e_sub (b_atom (a_val rfl) (b_atom (a_val rfl) t_sub))) fun t6 => (b_atom a_lit t_bin))) fun t7 => (c_val rfl (b_atom (a_val rfl) (u_val rfl fun _ => (s_nil (k_V (sub_cons le_val (sub_cons le_val (sub_cons le_val (sub_cons le_val (sub_cons le_val (sub_cons le_val sub_nil))))))))))))) (s_nil (k_V (sub_cons le_val (sub_cons le_val (sub_cons le_val (sub_cons le_val (sub_cons le_val (sub_cons le_val sub_nil)))))))) (fun lessons2 => (s_iteV (fun (people3 : D) => [.val box0, .val most0, .val people3, .val lessons2, .val at0, .val way0]) (T_bl (e_andB (e_cmp (b_atom (a_val rfl) (b_atom a_lit t_cmp))) (e_one (e_cmp (b_bindB (e_sub (b_atom (a_val rfl) (b_atom (a_val rfl) t_sub))) fun t8 => (b_atom a_lit t_cmp)))))) (s_set (b_bind (e_bin (b_bind (e_sub (b_atom (a_val rfl) (b_atom (a_val rfl) t_sub))) fun t9 => (b_atom a_lit t_bin))) fun t10 => (c_val rfl (b_atom (a_val rfl) (u_val rfl fun _ => (s_nil (k_V (sub_cons le_val (sub_cons le_val (sub_cons le_val (sub_cons le_val (sub_cons le_val (sub_cons le_val sub_nil))))))))))))) (s_nil (k_V (sub_cons le_val (sub_cons le_val (sub_cons le_val (sub_cons le_val (sub_cons le_val (sub_cons le_val sub_nil)))))))) (fun people2 => (s_iteV (fun (people5 : D) => [.val box0, .val most0, .val people5, .val lessons2, .val at0, .val way0]) (T_bl (e_andB (e_cmp (b_atom (a_val rfl) (b_atom a_lit t_cmp))) (e_one (e_cmp (b_bindB (e_sub (b_atom (a_val rfl) (b_atom (a_val rfl) t_sub))) fun t11 => (b_atom a_lit t_cmp)))))) (s_set (b_bind (e_bin (b_bind (e_sub (b_atom (a_val rfl) (b_atom (a_val rfl) t_sub))) fun t12 => (b_atom a_lit t_bin))) fun t13 => (c_val rfl (b_atom (a_val rfl) (u_val rfl fun _ => (s_nil (k_V (sub_cons le_val (sub_cons le_val (sub_cons le_val (sub_cons le_val (sub_cons le_val (sub_cons le_val sub_nil))))))))))))) (s_nil (k_V (sub_cons le_val (sub_cons le_val (sub_cons le_val (sub_cons le_val (sub_cons le_val (sub_cons le_val sub_nil)))))))) (fun people4 => (s_retF (e_mkP (f_disp (args_cons (e_bi2 (b_atom a_lit (b_bind (e_bin (b_atom (a_val rfl) (b_bind (e_bi (b_bind (e_cmp (b_atom (a_val rfl) (b_atom a_lit t_cmp))) fun t14 => t_bi)) fun t15 => t_bin))) fun t16 => t_bi2))) fun t17 => (args_cons (e_frz (b_atom (a_val rfl) t_frz)) fun t18 => (args_cons (e_frz (b_atom (a_val rfl) t_frz)) fun t19 => (args_nil t_disp)))))))) fun _ => rfl)) fun _ => rfl)) fun _ => rfl))))))))
theorem r_law_sums (items0 : D) : FRef F_law_sums [items0] (S_law_sums items0) := d_run (G := { fs := [], cs := [], at_ := gAts, kls := gKls, sub := [], xns := gXns, exm := gExm, mks := [], exs := [], eqs := [] }) (d := f_law_sums) [.val items0, .nown, .nown] rfl rfl (s_own rfl (f_disp (args_nil t_disp)) fun found0 => (s_forV (fun (found2 : List D) => [.val items0, .own found2, .nown]) (i_seq (b_atom (a_val rfl) (t_seq (x := items0)))) (sub_cons le_val (sub_cons le_own (sub_cons le_nown sub_nil))) (fun _ => rfl) (fun one0 found1 => (p_nm rfl (s_mth (c_own rfl (args_cons (e_bin (b_atom (a_val rfl) (b_bind (e_ite (T_bl (e_cmpV (k_skipO rfl (b_bindB (e_mkP (f_disp (args_nil t_disp))) fun t0 => (t_cmpO rfl))))) (e_subV (k_skipO rfl (b_bind (e_un (b_atom a_lit t_un)) fun t1 => (t_subO rfl)))) (e_atom a_lit)) fun t2 => t_bin))) fun t3 => (args_nil (u_own rfl fun found3 _ => (s_nil (k_V (sub_cons le_val (sub_cons le_own (sub_cons le_vn sub_nil)))))))))))) (fun found4 => (s_sub [.val items0, .eith (D.lst found4), .nown] (sub_cons le_val (sub_cons le_oe (sub_cons le_nown sub_nil))) (s_retF (e_atom (a_eith rfl)))))))
theorem r_law_ranks_row (most0 people0 lessons0 : D) : FRef F_law_ranks_row [most0, people0, lessons0] (S_law_ranks_row most0 people0 lessons0) := d_run (G := { fs := [F_law_sums], cs := [], at_ := gAts, kls := gKls, sub := [], xns := gXns, exm := gExm, mks := [], exs := [], eqs := [] }) (d := f_law_ranks_row) [.val most0, .val people0, .val lessons0, .nown, .nown, .nown, .nown, .nown, .nown, .nown] rfl rfl (s_asg (b_bind (e_tup (args_cons (e_call (args_atom (a_val rfl) (args_nil (args_nil (t_call (r_law_sums people0) rfl))))) fun t0 => (args_cons (e_call (args_atom (a_val rfl) (args_nil (args_nil (t_call (r_law_sums lessons0) rfl))))) fun t1 => (args_cons (e_mkC (f_disp (args_nil t_disp))) fun t2 => (args_nil t_tup))))) fun x0 => (p_tp3 fun have0 wanted0 found0 => (p_nm rfl (p_nm rfl (p_nm rfl (s_forF (fun (found2 : D) => [.val most0, .val people0, .val lessons0, .nown, .val have0, .val wanted0, .val found2, .nown, .nown, .nown]) (i_range1 (b_bind (e_bin (b_bind (e_bi (b_atom (a_val rfl) t_bi)) fun t3 => (b_atom a_lit t_bin))) fun t4 => (t_range1 (x := t4)))) (sub_cons le_val (sub_cons le_val (sub_cons le_val (sub_cons le_nown (sub_cons le_val (sub_cons le_val (sub_cons le_val (sub_cons le_nown (sub_cons le_nown (sub_cons le_nown sub_nil)))))))))) (fun _ => rfl) (fun turn0 found1 => (p_nm rfl (s_asg (b_bind (e_ite (T_bl (e_cmpV (k_skip (.inl rfl) (b_bindB (e_mkP (f_disp (args_nil t_disp))) fun t5 => (t_cmpV (.inl rfl)))))) (e_bin (b_bind (e_sub (b_atom (a_val rfl) (b_bind (e_subV (k_skip (.inl rfl) (b_bind (e_un (b_atom a_lit t_un)) fun t6 => (t_subV (.inl rfl))))) fun t7 => t_sub))) fun t8 => (b_bind (e_bin (b_atom (a_val rfl) (b_atom (a_val rfl) t_bin))) fun t9 => t_bin))) (e_atom a_lit)) fun bound0 => (p_nm rfl (s_asg (b_bind (e_mkP (f_lc (fun _ => [.val most0, .val people0, .val lessons0, .val turn0, .val have0, .val wanted0, .val found1, .val bound0, .nown, .nown]) (i_range1 (b_bind (e_bi (b_atom (a_val rfl) t_bi)) fun t10 => (t_range1 (x := t10)))) rfl (fun _ => rfl) (fun k0 => (p_nm rfl (g_post (lc_go (T_bl (e_cmp (b_bindB (e_sub (b_atom (a_val rfl) (b_atom (a_val rfl) t_sub))) fun t11 => (b_atom (a_val rfl) t_cmp)))) (e_atom (a_val rfl))) (sub_cons le_val (sub_cons le_val (sub_cons le_val (sub_cons le_val (sub_cons le_val (sub_cons le_val (sub_cons le_val (sub_cons le_val (sub_cons le_nown (sub_cons le_vn sub_nil))))))))))))))) fun some0 => (p_nm rfl (s_ite (T_bl (e_cmp (b_atom (a_val rfl) (b_bindB (e_mkP (f_disp (args_nil t_disp))) fun t12 => t_cmp)))) (s_retO (e_frz (b_atom (a_val rfl) t_frz))) (s_nil (s_mth (c_val rfl (args_cons (e_sub (b_atom (a_val rfl) (b_atom a_lit t_sub))) fun t13 => (args_nil (u_val rfl fun _ => (s_ite (T_bl (e_andB (e_cmp (b_atom (a_val rfl) (b_atom a_lit t_cmp))) (e_one (e_cmp (b_bindB (e_subV (k_skip (.inl rfl) (b_bind (e_un (b_atom a_lit t_un)) fun t14 => (t_subV (.inl rfl))))) fun t15 => (b_bindB (e_subV (k_skip (.inl rfl) (b_bind (e_un (b_atom a_lit t_un)) fun t16 => (t_subV (.inl rfl))))) fun t17 => t_cmp)))))) (s_retO (e_frz (b_atom (a_val rfl) t_frz))) (s_nil (s_nil (k_O (sub_cons le_val (sub_cons le_val (sub_cons le_val (sub_cons le_vn (sub_cons le_val (sub_cons le_val (sub_cons le_val (sub_cons le_vn (sub_cons le_vn (sub_cons le_nown sub_nil))))))))))))))))))))))))))))) (fun found3 => (s_retF (e_frz (b_atom (a_val rfl) t_frz)))))))))))
theorem r_law_rising (items0 : D) : FRef F_law_rising [items0] (S_law_rising items0) := d_run (G := { fs := [], cs := [], at_ := gAts, kls := gKls, sub := [], xns := gXns, exm := gExm, mks := [], exs := [], eqs := [] }) (d := f_law_rising) [.val items0, .nown] rfl rfl (s_retF (e_cmp (b_bindB (e_mkP (f_lc (fun _ => [.val items0, .nown]) (i_range2 (b_atom a_lit (b_bind (e_bi (b_atom (a_val rfl) t_bi)) fun t0 => (t_range2 (x := (D.int 1)) (y := t0))))) rfl (fun _ => rfl) (fun k0 => (p_nm rfl (g_post (lc_go (T_bl (e_cmp (b_bindB (e_sub (b_atom (a_val rfl) (b_atom (a_val rfl) t_sub))) fun t1 => (b_bindB (e_sub (b_atom (a_val rfl) (b_bind (e_bin (b_atom (a_val rfl) (b_atom a_lit t_bin))) fun t2 => t_sub))) fun t3 => t_cmp)))) (e_atom (a_val rfl))) (sub_cons le_val (sub_cons le_vn sub_nil))))))) fun t4 => (b_bindB (e_mkP (f_disp (args_nil t_disp))) fun t5 => t_cmp))))
theorem r_law_has_groups (most0 people0 lessons0 : D) : FRef F_law_has_groups [most0, people0, lessons0] (S_law_has_groups most0 people0 lessons0) := d_run (G := { fs := [F_law_sums], cs := [], at_ := gAts, kls := gKls, sub := [], xns := gXns, exm := gExm, mks := [], exs := [], eqs := [] }) (d := f_law_has_groups) [.val most0, .val people0, .val lessons0, .nown, .nown, .nown, .nown, .nown, .nown, .nown, .nown] rfl rfl (s_par (args_cons (e_call (args_atom (a_val rfl) (args_nil (args_nil (t_call (r_law_sums people0) rfl))))) fun t0 => (args_cons (e_call (args_atom (a_val rfl) (args_nil (args_nil (t_call (r_law_sums lessons0) rfl))))) fun t1 => (args_cons (e_bi (b_atom (a_val rfl) t_bi)) fun t2 => (args_nil (st_cons rfl (st_cons rfl (st_cons rfl (st_nil (s_forF (fun (_ : Unit) => [.val most0, .val people0, .val lessons0, .nown, .val t0, .val t1, .val t2, .nown, .nown, .nown, .nown]) (i_range1 (b_bind (e_bin (b_atom a_lit (b_atom (a_val rfl) t_bin))) fun t3 => (t_range1 (x := t3)))) (sub_cons le_val (sub_cons le_val (sub_cons le_val (sub_cons le_nown (sub_cons le_val (sub_cons le_val (sub_cons le_val (sub_cons le_nown (sub_cons le_nown (sub_cons le_nown (sub_cons le_nown sub_nil))))))))))) (fun _ => rfl) (fun number0 _ => (p_nm rfl (s_asg (b_bind (e_tup (args_atom a_lit (args_atom a_lit (args_atom a_lit (args_nil t_tup))))) fun x0 => (p_tp3 fun rooms0 ahead0 good0 => (p_nm rfl (p_nm rfl (p_nm rfl (s_forO (fun (s : D × D × D) => match s with | (rooms2, ahead2, good2) => [.val most0, .val people0, .val lessons0, .val number0, .val t0, .val t1, .val t2, .nown, .val rooms2, .val ahead2, .val good2]) (i_range1 (b_atom (a_val rfl) (t_range1 (x := t2)))) (sub_cons le_val (sub_cons le_val (sub_cons le_val (sub_cons le_val (sub_cons le_val (sub_cons le_val (sub_cons le_val (sub_cons le_nown (sub_cons le_val (sub_cons le_val (sub_cons le_val sub_nil))))))))))) (fun _ => rfl) (fun k0 ⟨rooms1, ahead1, good1⟩ => (p_nm rfl (s_iteV (fun (s : D × D × D) => match s with | (rooms4, ahead4, good4) => [.val most0, .val people0, .val lessons0, .val number0, .val t0, .val t1, .val t2, .val k0, .val rooms4, .val ahead4, .val good4]) (T_gen (b_bind (e_bin (b_bind (e_bin (b_atom (a_val rfl) (b_atom (a_val rfl) t_bin))) fun t4 => (b_atom a_lit t_bin))) fun t5 => t_tru)) (s_asg (b_bind (e_cmp (b_bindB (e_bin (b_bind (e_sub (b_atom (a_val rfl) (b_atom (a_val rfl) t_sub))) fun t6 => (b_atom (a_val rfl) t_bin))) fun t7 => (b_atom (a_val rfl) t_cmp))) fun good5 => (p_nm rfl (s_par (args_cons (e_bin (b_bind (e_bin (b_bind (e_bin (b_atom (a_val rfl) (b_bind (e_sub (b_atom (a_val rfl) (b_atom (a_val rfl) t_sub))) fun t8 => t_bin))) fun t9 => (b_atom (a_val rfl) t_bin))) fun t10 => (b_atom (a_val rfl) t_bin))) fun t11 => (args_cons (e_sub (b_atom (a_val rfl) (b_atom (a_val rfl) t_sub))) fun t12 => (args_nil (st_cons rfl (st_cons rfl (st_nil (s_nil (k_V (sub_cons le_val (sub_cons le_val (sub_cons le_val (sub_cons le_val (sub_cons le_val (sub_cons le_val (sub_cons le_val (sub_cons le_val (sub_cons le_val (sub_cons le_val (sub_cons le_val sub_nil))))))))))))))))))))))) (s_nil (k_V (sub_cons le_val (sub_cons le_val (sub_cons le_val (sub_cons le_val (sub_cons le_val (sub_cons le_val (sub_cons le_val (sub_cons le_val (sub_cons le_val (sub_cons le_val (sub_cons le_val sub_nil))))))))))))) (fun ⟨rooms3, ahead3, good3⟩ => (s_ite (T_bl (e_orB (e_not (T_gen (b_atom (a_val rfl) t_tru))) (e_one (e_cmp (b_bindB (e_sub (b_atom (a_val rfl) (b_atom (a_val rfl) t_sub))) fun t13 => (b_atom (a_val rfl) t_cmp)))))) (s_asg (b_atom a_lit (p_nm rfl (s_brk (sub_cons le_val (sub_cons le_val (sub_cons le_val (sub_cons le_val (sub_cons le_val (sub_cons le_val (sub_cons le_val (sub_cons le_vn (sub_cons le_val (sub_cons le_val (sub_cons le_val sub_nil))))))))))))))) (s_nil (s_nil (k_O (sub_cons le_val (sub_cons le_val (sub_cons le_val (sub_cons le_val (sub_cons le_val (sub_cons le_val (sub_cons le_val (sub_cons le_vn (sub_cons le_val (sub_cons le_val (sub_cons le_val sub_nil)))))))))))))))) fun _ => rfl))) (fun ⟨rooms5, ahead5, good6⟩ => (s_ite (T_gen (b_atom (a_val rfl) t_tru)) (s_retOA a_lit) (s_nil (s_nil (k_O (sub_cons le_val (sub_cons le_val (sub_cons le_val (sub_cons le_vn (sub_cons le_val (sub_cons le_val (sub_cons le_val (sub_cons le_nown (sub_cons le_vn (sub_cons le_vn (sub_cons le_vn sub_nil))))))))))))))))))))))))) (fun _ => (s_retF (e_atom a_lit)))))))))))))
theorem r_law_groups (most0 people0 found0 : D) : FRef F_law_groups [most0, people0, found0] (S_law_groups most0 people0 found0) := d_run (G := { fs := [F_law_sums], cs := [], at_ := gAts, kls := gKls, sub := [], xns := gXns, exm := gExm, mks := [], exs := [], eqs := [] }) (d := f_law_groups) [.val most0, .val people0, .val found0, .nown, .nown, .nown, .nown] rfl rfl (s_asg (b_bind (e_call (args_atom (a_val rfl) (args_nil (args_nil (t_call (r_law_sums people0) rfl))))) fun have0 => (p_nm rfl (s_asg (b_bind (e_mkP (f_lc (fun _ => [.val most0, .val people0, .val found0, .val have0, .nown, .nown, .nown]) (i_seq (b_atom (a_val rfl) (t_seq (x := found0)))) rfl (fun _ => rfl) (fun k0 => (p_nm rfl (g_post (lc_one (e_sub (b_atom (a_val rfl) (b_atom (a_val rfl) t_sub)))) (sub_cons le_val (sub_cons le_val (sub_cons le_val (sub_cons le_val (sub_cons le_nown (sub_cons le_nown (sub_cons le_vn sub_nil)))))))))))) fun ends0 => (p_nm rfl (s_asg (b_bind (e_mkP (f_cat (b_bind (e_mkP (f_disp (args_atom a_lit (args_nil t_disp)))) fun t0 => (b_atom (a_val rfl) (t_cat (x := t0) (y := ends0)))))) fun begins0 => (p_nm rfl (s_retF (e_mkP (f_lc (fun _ => [.val most0, .val people0, .val found0, .val have0, .val ends0, .val begins0, .nown]) (i_range1 (b_bind (e_bi (b_atom (a_val rfl) t_bi)) fun t1 => (t_range1 (x := t1)))) rfl (fun _ => rfl) (fun k1 => (p_nm rfl (g_post (lc_one (e_tup (args_cons (e_bin (b_bind (e_sub (b_atom (a_val rfl) (b_atom (a_val rfl) t_sub))) fun t2 => (b_bind (e_sub (b_atom (a_val rfl) (b_atom (a_val rfl) t_sub))) fun t3 => t_bin))) fun t4 => (args_cons (e_bin (b_bind (e_bin (b_bind (e_sub (b_atom (a_val rfl) (b_atom (a_val rfl) t_sub))) fun t5 => (b_bind (e_sub (b_atom (a_val rfl) (b_atom (a_val rfl) t_sub))) fun t6 => t_bin))) fun t7 => (b_atom (a_val rfl) t_bin))) fun t8 => (args_nil t_tup))))) (sub_cons le_val (sub_cons le_val (sub_cons le_val (sub_cons le_val (sub_cons le_val (sub_cons le_val (sub_cons le_vn sub_nil))))))))))))))))))))))
theorem r_first_above (sums0 number0 : D) : FRef F_first_above [sums0, number0] (S_first_above sums0 number0) := d_run (G := { fs := [], cs := [], at_ := gAts, kls := gKls, sub := [], xns := gXns, exm := gExm, mks := [], exs := [], eqs := [] }) (d := f_first_above) [.val sums0, .val number0, .nown, .nown] rfl rfl (s_retF (e_slc (b_bind (e_mkP (f_lc (fun _ => [.val sums0, .val number0, .nown, .nown]) (i_enum (b_atom (a_val rfl) (t_enum (x := sums0)))) rfl (fun _ => rfl) (fun x0 => (p_tp2 fun rank0 total0 => (p_nm rfl (p_nm rfl (g_post (lc_go (T_bl (e_cmp (b_atom (a_val rfl) (b_atom (a_val rfl) t_cmp)))) (e_atom (a_val rfl))) (sub_cons le_val (sub_cons le_val (sub_cons le_vn (sub_cons le_vn sub_nil))))))))))) fun t0 => (o_none (o_int t_slc)))))
theorem r_is_ascending (items0 : D) : FRef F_is_ascending [items0] (S_is_ascending items0) := d_run (G := { fs := [], cs := [], at_ := gAts, kls := gKls, sub := [], xns := gXns, exm := gExm, mks := [], exs := [], eqs := [] }) (d := f_is_ascending) [.val items0, .nown] rfl rfl (s_retF (e_bi (b_bind (e_mkP (f_lc (fun _ => [.val items0, .nown]) (i_range1 (b_bind (e_bin (b_bind (e_bi (b_atom (a_val rfl) t_bi)) fun t0 => (b_atom a_lit t_bin))) fun t1 => (t_range1 (x := t1)))) rfl (fun _ => rfl) (fun at0 => (p_nm rfl (g_post (lc_one (e_cmp (b_bindB (e_sub (b_atom (a_val rfl) (b_atom (a_val rfl) t_sub))) fun t2 => (b_bindB (e_sub (b_atom (a_val rfl) (b_bind (e_bin (b_atom (a_val rfl) (b_atom a_lit t_bin))) fun t3 => t_sub))) fun t4 => t_cmp)))) (sub_cons le_val (sub_cons le_vn sub_nil))))))) fun t5 => t_bi)))
theorem r_row_of (most0 people0 lessons0 : D) : FRef F_row_of [most0, people0, lessons0] (S_row_of most0 people0 lessons0) := d_run (G := { fs := [F_first_above, F_is_ascending], cs := [], at_ := gAts, kls := gKls, sub := [], xns := gXns, exm := gExm, mks := [], exs := [], eqs := [] }) (d := f_row_of) [.val most0, .val people0, .val lessons0, .nown, .nown] rfl rfl (s_par (args_cons (e_mkC (f_disp (args_nil t_disp))) fun t0 => (args_cons (e_call (args_atom (a_val rfl) (args_atom a_lit (args_nil (args_nil (t_call (r_first_above lessons0 (D.int 0)) rfl)))))) fun t1 => (args_nil (st_cons rfl (st_cons rfl (st_nil (s_whlF (fun (s : D × D) => match s with | (found1, further1) => [.val most0, .val people0, .val lessons0, .val found1, .val further1]) (sub_cons le_val (sub_cons le_val (sub_cons le_val (sub_cons le_val (sub_cons le_val sub_nil))))) (fun _ => rfl) (fun ⟨found0, further0⟩ => (T_bl (e_cmp (b_atom (a_val rfl) (b_bindB (e_mkP (f_disp (args_nil t_disp))) fun t2 => t_cmp))))) (fun ⟨found0, further0⟩ => (s_mth (c_val rfl (args_atom (a_val rfl) (args_nil (u_val rfl fun _ => (s_ite (T_bl (e_not (T_gen (b_bind (e_call (args_cons (e_slc (b_atom (a_val rfl) (o_bind (e_un (b_atom a_lit t_un)) fun i0 => (o_none t_slc)))) fun t3 => (args_nil (args_nil (t_call (r_is_ascending t3) rfl))))) fun t4 => t_tru)))) (s_retOA (a_val rfl)) (s_nil (s_asg (b_bind (e_call (args_atom (a_val rfl) (args_cons (e_bin (b_bind (e_sub (b_atom (a_val rfl) (b_bind (e_subV (k_skip (.inl rfl) (b_bind (e_un (b_atom a_lit t_un)) fun t5 => (t_subV (.inl rfl))))) fun t6 => t_sub))) fun t7 => (b_bind (e_bin (b_bind (e_biV (t_biV (.inl rfl))) fun t8 => (b_atom (a_val rfl) t_bin))) fun t9 => t_bin))) fun t10 => (args_nil (args_nil (t_call (r_first_above lessons0 t10) rfl)))))) fun further2 => (p_nm rfl (s_nil (k_O (sub_cons le_val (sub_cons le_val (sub_cons le_val (sub_cons le_val (sub_cons le_val sub_nil)))))))))))))))))) (fun ⟨found2, further3⟩ => (s_retF (e_atom (a_val rfl))))))))))))
theorem r_totals (numbers0 : D) : FRef F_totals [numbers0] (S_totals numbers0) := d_run (G := { fs := [], cs := [], at_ := gAts, kls := gKls, sub := [], xns := gXns, exm := gExm, mks := [], exs := [], eqs := [] }) (d := f_totals) [.val numbers0, .nown, .nown] rfl rfl (s_asg (b_bind (e_mkC (f_disp (args_nil t_disp))) fun found0 => (p_nm rfl (s_forV (fun (found2 : D) => [.val numbers0, .val found2, .nown]) (i_seq (b_atom (a_val rfl) (t_seq (x := numbers0)))) (sub_cons le_val (sub_cons le_val (sub_cons le_nown sub_nil))) (fun _ => rfl) (fun number0 found1 => (p_nm rfl (s_mth (c_val rfl (args_cons (e_bin (b_atom (a_val rfl) (b_bind (e_ite (T_gen (b_atom (a_val rfl) t_tru)) (e_sub (b_atom (a_val rfl) (b_bind (e_un (b_atom a_lit t_un)) fun t0 => t_sub))) (e_atom a_lit)) fun t1 => t_bin))) fun t2 => (args_nil (u_val rfl fun _ => (s_nil (k_V (sub_cons le_val (sub_cons le_val (sub_cons le_vn sub_nil)))))))))))) (fun found3 => (s_retF (e_frz (b_atom (a_val rfl) t_frz))))))))
theorem r_row (ranks0 : D) : FRef F_row [ranks0] (S_row ranks0) := d_run (G := { fs := [F_row_of, F_totals], cs := [], at_ := gAts, kls := gKls, sub := [], xns := gXns, exm := gExm, mks := [], exs := [], eqs := [] }) (d := f_row) [.val ranks0] rfl rfl (s_retF (e_call (args_cons (e_fld (b_atom (a_val rfl) t_fld)) fun t0 => (args_cons (e_call (args_cons (e_fld (b_atom (a_val rfl) t_fld)) fun t1 => (args_nil (args_nil (t_call (r_totals t1) rfl))))) fun t2 => (args_cons (e_call (args_cons (e_fld (b_atom (a_val rfl) t_fld)) fun t3 => (args_nil (args_nil (t_call (r_totals t3) rfl))))) fun t4 => (args_nil (args_nil (t_call (r_row_of t0 t2 t4) rfl))))))))
theorem r_stays (ranks0 : D) : FRef F_stays [ranks0] (S_stays ranks0) := d_run (G := { fs := [F_is_ascending, F_row], cs := [], at_ := gAts, kls := gKls, sub := [], xns := gXns, exm := gExm, mks := [], exs := [], eqs := [] }) (d := f_stays) [.val ranks0] rfl rfl (s_retF (e_call (args_cons (e_call (args_atom (a_val rfl) (args_nil (args_nil (t_call (r_row ranks0) rfl))))) fun t0 => (args_nil (args_nil (t_call (r_is_ascending t0) rfl))))))
theorem r_parts (ranks0 : D) : FRef F_parts [ranks0] (S_parts ranks0) := d_run (G := { fs := [F_stays, F_totals, F_row], cs := [], at_ := gAts, kls := gKls, sub := [], xns := gXns, exm := gExm, mks := [], exs := [], eqs := [] }) (d := f_parts) [.val ranks0, .nown, .nown, .nown, .nown, .nown] rfl rfl (s_ite (T_bl (e_not (T_gen (b_bind (e_call (args_atom (a_val rfl) (args_nil (args_nil (t_call (r_stays ranks0) rfl))))) fun t0 => t_tru)))) (s_retF (e_atom a_lit)) (s_nil (s_par (args_cons (e_call (args_cons (e_fld (b_atom (a_val rfl) t_fld)) fun t1 => (args_nil (args_nil (t_call (r_totals t1) rfl))))) fun t2 => (args_cons (e_mkC (f_disp (args_nil t_disp))) fun t3 => (args_atom a_lit (args_nil (st_cons rfl (st_cons rfl (st_cons rfl (st_nil (s_forV (fun (s : D × D) => match s with | (found1, ahead1) => [.val ranks0, .nown, .val t2, .val found1, .val ahead1, .nown]) (i_seq (b_bind (e_frz (b_bind (e_call (args_atom (a_val rfl) (args_nil (args_nil (t_call (r_row ranks0) rfl))))) fun t4 => t_frz)) fun t5 => (t_seq (x := t5)))) (sub_cons le_val (sub_cons le_nown (sub_cons le_val (sub_cons le_val (sub_cons le_val (sub_cons le_nown sub_nil)))))) (fun _ => rfl) (fun rank0 ⟨found0, ahead0⟩ => (p_nm rfl (s_asg (b_bind (e_bin (b_bind (e_sub (b_atom (a_val rfl) (b_atom (a_val rfl) t_sub))) fun t6 => (b_atom (a_val rfl) t_bin))) fun people0 => (p_nm rfl (s_mth (c_val rfl (args_cons (e_tup (args_atom (a_val rfl) (args_cons (e_bin (b_atom (a_val rfl) (b_bind (e_fld (b_atom (a_val rfl) t_fld)) fun t7 => t_bin))) fun t8 => (args_nil t_tup)))) fun t9 => (args_nil (u_val rfl fun _ => (s_asg (b_bind (e_sub (b_atom (a_val rfl) (b_atom (a_val rfl) t_sub))) fun ahead2 => (p_nm rfl (s_nil (k_V (sub_cons le_val (sub_cons le_vn (sub_cons le_val (sub_cons le_val (sub_cons le_val (sub_cons le_vn sub_nil))))))))))))))))))))) (fun ⟨found2, ahead3⟩ => (s_retF (e_atom (a_val rfl))))))))))))))))
theorem r_law_same : ∀ (n : Nat) (told0 due0 : D), FRef (runRec { fs := [], cs := [], at_ := gAts, kls := gKls, sub := [], xns := gXns, exm := gExm, mks := [], exs := [], eqs := [] } f_law_same n) [told0, due0] (L_same n told0 due0)
  | 0, _, _ => f_bad
  | n + 1, told0, due0 => d_run [.val told0, .val due0, .nown] rfl rfl (s_ite (T_bl (e_orB (e_cmp (b_atom (a_val rfl) (b_atom a_lit t_cmp))) (e_one (e_isi (b_atom (a_val rfl) t_isi))))) (s_retF (e_ite (T_bl (e_cmp (b_atom (a_val rfl) (b_atom a_lit t_cmp)))) (e_cmp (b_atom (a_val rfl) (b_atom a_lit t_cmp))) (e_andB (e_isi (b_atom (a_val rfl) t_isi)) (e_one (e_cmp (b_bindB (e_cmp (b_atom (a_val rfl) (b_atom a_lit t_cmp))) fun t0 => (b_bindB (e_cmp (b_atom (a_val rfl) (b_atom a_lit t_cmp))) fun t1 => t_cmp))))))) (s_nil (s_ite (T_bl (e_isi (b_atom (a_val rfl) t_isi))) (s_retF (e_andB (e_isi (b_atom (a_val rfl) t_isi)) (e_andB (e_not (T_bl (e_isi (b_atom (a_val rfl) t_isi)))) (e_one (e_cmp (b_bindB (e_bin (b_bind (e_bi (b_atom (a_val rfl) t_bi)) fun t2 => (b_atom (a_val rfl) t_bin))) fun t3 => (b_atom a_lit t_cmp))))))) (s_nil (s_ite (T_bl (e_isi (b_atom (a_val rfl) t_isi))) (s_retF (e_andB (e_isi (b_atom (a_val rfl) t_isi)) (e_andB (e_cmp (b_bindB (e_bi (b_atom (a_val rfl) t_bi)) fun t4 => (b_bindB (e_bi (b_atom (a_val rfl) t_bi)) fun t5 => t_cmp))) (e_one (e_cmp (b_bindB (e_mkP (f_lc (fun _ => [.val told0, .val due0, .nown]) (i_range1 (b_bind (e_bi (b_atom (a_val rfl) t_bi)) fun t6 => (t_range1 (x := t6)))) rfl (fun _ => rfl) (fun k0 => (p_nm rfl (g_post (lc_go (T_bl (e_cmp (b_bindB (e_slc (b_atom (a_val rfl) (o_atom (a_val rfl) fun i0 => (o_bind (e_bin (b_atom (a_val rfl) (b_atom a_lit t_bin))) fun i1 => t_slc)))) fun t7 => (b_bindB (e_sub (b_atom (a_val rfl) (b_atom (a_val rfl) t_sub))) fun t8 => t_cmp)))) (e_atom (a_val rfl))) (sub_cons le_val (sub_cons le_val (sub_cons le_vn sub_nil)))))))) fun t9 => (b_bindB (e_mkP (f_disp (args_nil t_disp))) fun t10 => t_cmp))))))) (s_nil (s_ite (T_bl (e_orB (e_cmp (b_bindB (e_isi (b_atom (a_val rfl) t_isi)) fun t11 => (b_bindB (e_isi (b_atom (a_val rfl) t_isi)) fun t12 => t_cmp))) (e_one (e_cmp (b_bindB (e_isi (b_atom (a_val rfl) t_isi)) fun t13 => (b_bindB (e_isi (b_atom (a_val rfl) t_isi)) fun t14 => t_cmp)))))) (s_retF (e_atom a_lit)) (s_nil (s_retF (e_andB (e_cmp (b_bindB (e_bi (b_atom (a_val rfl) t_bi)) fun t15 => (b_bindB (e_bi (b_atom (a_val rfl) t_bi)) fun t16 => t_cmp))) (e_one (e_cmp (b_bindB (e_mkP (f_lc (fun _ => [.val told0, .val due0, .nown]) (i_range1 (b_bind (e_bi (b_atom (a_val rfl) t_bi)) fun t17 => (t_range1 (x := t17)))) rfl (fun _ => rfl) (fun k1 => (p_nm rfl (g_post (lc_go (T_bl (e_not (T_gen (b_bind (e_call (args_cons (e_sub (b_atom (a_val rfl) (b_atom (a_val rfl) t_sub))) fun t18 => (args_cons (e_sub (b_atom (a_val rfl) (b_atom (a_val rfl) t_sub))) fun t19 => (args_nil (args_nil (t_call (r_law_same n t18 t19) rfl)))))) fun t20 => t_tru)))) (e_atom (a_val rfl))) (sub_cons le_val (sub_cons le_val (sub_cons le_vn sub_nil)))))))) fun t21 => (b_bindB (e_mkP (f_disp (args_nil t_disp))) fun t22 => t_cmp))))))))))))))
theorem r_law_right (box0 made0 due0 : D) : FRef F_law_right [box0, made0, due0] (S_law_right box0 made0 due0) := d_run (G := { fs := [F_law_take, F_row, F_stays, F_parts, F_law_same], cs := [], at_ := gAts, kls := gKls, sub := [], xns := gXns, exm := gExm, mks := [], exs := [], eqs := [] }) (d := f_law_right) [.val box0, .val made0, .val due0, .nown, .nown, .nown] rfl rfl (s_forF (fun (_ : Unit) => [.val box0, .val made0, .val due0, .nown, .nown, .nown]) (i_range1 (b_atom a_lit (t_range1 (x := (D.int 2))))) (sub_cons le_val (sub_cons le_val (sub_cons le_val (sub_cons le_nown (sub_cons le_nown (sub_cons le_nown sub_nil)))))) (fun _ => rfl) (fun turn0 _ => (p_nm rfl (s_asg (b_bind (e_cmp (b_bindB (e_call (args_atom (a_val rfl) (args_atom a_lit (args_nil (args_nil (t_call (r_law_take box0 (D.int 2)) rfl)))))) fun t0 => (b_atom a_lit t_cmp))) fun named0 => (p_nm rfl (s_asg (b_bind (e_ite (T_gen (b_atom (a_val rfl) t_tru)) (e_mkP (f_disp (args_cons (e_call (args_nil (args_atom (a_val rfl) (args_nil (t_call (r_row made0) rfl))))) fun t1 => (args_cons (e_call (args_nil (args_atom (a_val rfl) (args_nil (t_call (r_stays made0) rfl))))) fun t2 => (args_cons (e_call (args_nil (args_atom (a_val rfl) (args_nil (t_call (r_parts made0) rfl))))) fun t3 => (args_nil t_disp)))))) (e_mkP (f_disp (args_cons (e_call (args_atom (a_val rfl) (args_nil (args_nil (t_call (r_row made0) rfl))))) fun t4 => (args_cons (e_call (args_atom (a_val rfl) (args_nil (args_nil (t_call (r_stays made0) rfl))))) fun t5 => (args_cons (e_call (args_atom (a_val rfl) (args_nil (args_nil (t_call (r_parts made0) rfl))))) fun t6 => (args_nil t_disp))))))) fun told0 => (p_nm rfl (s_ite (T_bl (e_not (T_gen (b_bind (e_call (args_atom (a_val rfl) (args_atom (a_val rfl) (args_nil (args_nil (t_call (r_law_same 8 told0 due0) rfl)))))) fun t7 => t_tru)))) (s_retOA a_lit) (s_nil (s_mthE (b_bind (e_sub (b_atom (a_val rfl) (b_atom a_lit t_sub))) fun t8 => (b_bind t_lstX fun _ => (args_atom a_lit (args_nil (b_bind t_upX fun _ => (s_mthE (b_bind (e_sub (b_atom (a_val rfl) (b_atom a_lit t_sub))) fun t9 => (b_bind t_lstX fun _ => (args_nil (b_bind t_upX fun _ => (s_ite (T_bl (e_cmp (b_bindB (e_sub (b_atom (a_val rfl) (b_atom a_lit t_sub))) fun t10 => (b_atom a_lit t_cmp)))) (s_mthE (b_bind (e_sub (b_atom (a_val rfl) (b_atom a_lit t_sub))) fun t11 => (b_bind t_lstX fun _ => (args_cons (e_tup (args_atom a_lit (args_atom a_lit (args_nil t_tup)))) fun t12 => (args_nil (b_bind t_upX fun _ => (s_nil (s_nil (k_O (sub_cons le_val (sub_cons le_val (sub_cons le_val (sub_cons le_vn (sub_cons le_vn (sub_cons le_vn sub_nil))))))))))))))) (s_nil (s_nil (k_O (sub_cons le_val (sub_cons le_val (sub_cons le_val (sub_cons le_vn (sub_cons le_vn (sub_cons le_vn sub_nil))))))))))))))))))))))))))))))) (fun _ => (s_retF (e_atom a_lit))))
theorem r_is_integer (value0 : D) : FRef F_is_integer [value0] (S_is_integer value0) := d_run (G := { fs := [], cs := [], at_ := gAts, kls := gKls, sub := [], xns := gXns, exm := gExm, mks := [], exs := [], eqs := [] }) (d := f_is_integer) [.val value0] rfl rfl (s_retF (e_andB (e_isi (b_atom (a_val rfl) t_isi)) (e_one (e_not (T_bl (e_isi (b_atom (a_val rfl) t_isi)))))))
theorem r_is_between (value0 least0 most0 : D) : FRef F_is_between [value0, least0, most0] (S_is_between value0 least0 most0) := d_run (G := { fs := [F_is_integer], cs := [], at_ := gAts, kls := gKls, sub := [], xns := gXns, exm := gExm, mks := [], exs := [], eqs := [] }) (d := f_is_between) [.val value0, .val least0, .val most0] rfl rfl (s_retF (e_andV (e_call (args_atom (a_val rfl) (args_nil (args_nil (t_call (r_is_integer value0) rfl))))) (e_one (e_chain (b_atom (a_val rfl) (b_atom (a_val rfl) (t_chain (e_atom (a_val rfl)))))))))
theorem r_are_between (values0 least0 most0 : D) : FRef F_are_between [values0, least0, most0] (S_are_between values0 least0 most0) := d_run (G := { fs := [F_is_between], cs := [], at_ := gAts, kls := gKls, sub := [], xns := gXns, exm := gExm, mks := [], exs := [], eqs := [] }) (d := f_are_between) [.val values0, .val least0, .val most0, .nown] rfl rfl (s_retF (e_bi (b_bind (e_mkP (f_lc (fun _ => [.val values0, .val least0, .val most0, .nown]) (i_seq (b_atom (a_val rfl) (t_seq (x := values0)))) rfl (fun _ => rfl) (fun value0 => (p_nm rfl (g_post (lc_one (e_call (args_atom (a_val rfl) (args_atom (a_val rfl) (args_atom (a_val rfl) (args_nil (args_nil (t_call (r_is_between value0 least0 most0) rfl)))))))) (sub_cons le_val (sub_cons le_val (sub_cons le_val (sub_cons le_vn sub_nil))))))))) fun t0 => t_bi)))
theorem r_are_numbers (value0 : D) : FRef F_are_numbers [value0] (S_are_numbers value0) := d_run (G := { fs := [F_are_between], cs := [.int 100], at_ := gAts, kls := gKls, sub := [], xns := gXns, exm := gExm, mks := [], exs := [], eqs := [] }) (d := f_are_numbers) [.val value0] rfl rfl (s_retF (e_andV (e_isi (b_atom (a_val rfl) t_isi)) (e_one (e_call (args_atom (a_val rfl) (args_atom a_lit (args_atom (a_con rfl) (args_nil (args_nil (t_call (r_are_between value0 (D.int 0) (D.int 100)) rfl))))))))))
theorem r_Ranks___init__ (self0 most0 people0 lessons0 : D) : FRef F_Ranks___init__ [self0, most0, people0, lessons0] (S_Ranks___init__ self0 most0 people0 lessons0) := d_run (G := { fs := [F_is_between, F_are_numbers], cs := [.int 100, .int 8], at_ := gAts, kls := gKls, sub := [], xns := gXns, exm := gExm, mks := [], exs := [("InvalidMost", ["given"]), ("InvalidPeople", ["given"]), ("InvalidLessons", ["given"])], eqs := [] }) (d := f_Ranks___init__) [.val self0, .val most0, .val people0, .val lessons0] rfl rfl (s_ite (T_bl (e_not (T_gen (b_bind (e_call (args_atom (a_val rfl) (args_atom a_lit (args_atom (a_con rfl) (args_nil (args_nil (t_call (r_is_between most0 (D.int 0) (D.int 100)) rfl))))))) fun t0 => t_tru)))) (s_rse (args_atom (a_val rfl) (args_nil (t_rse rfl)))) (s_nil (s_ite (T_bl (e_orB (e_not (T_gen (b_bind (e_call (args_atom (a_val rfl) (args_nil (args_nil (t_call (r_are_numbers people0) rfl))))) fun t1 => t_tru))) (e_one (e_not (T_bl (e_chain (b_atom a_lit (b_bindB (e_bi (b_atom (a_val rfl) t_bi)) fun t2 => (t_chain (e_atom (a_con rfl))))))))))) (s_rse (args_atom (a_val rfl) (args_nil (t_rse rfl)))) (s_nil (s_ite (T_bl (e_orB (e_not (T_gen (b_bind (e_call (args_atom (a_val rfl) (args_nil (args_nil (t_call (r_are_numbers lessons0) rfl))))) fun t3 => t_tru))) (e_one (e_cmp (b_bindB (e_bi (b_atom (a_val rfl) t_bi)) fun t4 => (b_bindB (e_bi (b_atom (a_val rfl) t_bi)) fun t5 => t_cmp)))))) (s_rse (args_atom (a_val rfl) (args_nil (t_rse rfl)))) (s_nil (s_fset (b_atom (a_val rfl) (b_atom (a_val rfl) (b_bind t_fset fun _ => (s_fset (b_atom (a_val rfl) (b_atom (a_val rfl) (b_bind t_fset fun _ => (s_fset (b_atom (a_val rfl) (b_atom (a_val rfl) (b_bind t_fset fun _ => (s_nil k_F)))))))))))))))))))
theorem r_law (script0 : D) : FRef F_law [script0] (S_law script0) := d_run (G := { fs := [F_law_box, F_law_cell, F_law_take, F_law_tight, F_law_plain, F_law_spoilt, F_law_ranks_row, F_law_rising, F_law_has_groups, F_law_groups, F_law_right], cs := [], at_ := gAts, kls := gKls, sub := [], xns := gXns, exm := gExm, mks := [("Ranks", F_Ranks___init__)], exs := [], eqs := [] }) (d := f_law) [.val script0, .nown, .nown, .nown, .nown, .nown, .nown, .nown, .nown, .nown, .nown, .nown] rfl rfl (s_forF (fun (_ : Unit) => [.val script0, .nown, .nown, .nown, .any, .nown, .nown, .nown, .nown, .nown, .nown, .nown]) (i_range1 (b_bind (e_bi2 (b_atom a_lit (b_bind (e_bi2 (b_atom a_lit (b_bind (e_bi (b_atom (a_val rfl) t_bi)) fun t0 => t_bi2))) fun t1 => t_bi2))) fun t2 => (t_range1 (x := t2)))) (sub_cons le_val (sub_cons le_nown (sub_cons le_nown (sub_cons le_nown (sub_cons le_any (sub_cons le_nown (sub_cons le_nown (sub_cons le_nown (sub_cons le_nown (sub_cons le_nown (sub_cons le_nown (sub_cons le_nown sub_nil)))))))))))) (fun _ => rfl) (fun k0 _ => (p_nm rfl (s_par (args_cons (e_call (args_cons (e_call (args_atom (a_val rfl) (args_atom (a_val rfl) (args_nil (args_nil (t_call (r_law_cell script0 k0) rfl)))))) fun t3 => (args_nil (args_nil (t_call (r_law_box t3) rfl))))) fun t4 => (args_cons (e_mkC (f_disp (args_nil t_disp))) fun t5 => (args_nil (st_cons rfl (st_cons rfl (st_nil (s_asg (b_bind (e_ite (T_bl (e_cmp (b_bindB (e_call (args_atom (a_val rfl) (args_atom a_lit (args_nil (args_nil (t_call (r_law_take t4 (D.int 3)) rfl)))))) fun t6 => (b_atom a_lit t_cmp)))) (e_call (args_atom (a_val rfl) (args_nil (args_nil (t_call (r_law_tight t4) rfl))))) (e_call (args_atom (a_val rfl) (args_nil (args_nil (t_call (r_law_plain t4) rfl)))))) fun first0 => (p_nm rfl (s_forO (fun (cases1 : D) => [.val script0, .val k0, .val first0, .val t4, .val cases1, .nown, .nown, .nown, .nown, .nown, .nown, .nown]) (i_seq (b_bind (e_mkP (f_disp (args_atom (a_val rfl) (args_cons (e_call (args_atom (a_val rfl) (args_cons (e_sub (b_atom (a_val rfl) (b_atom a_lit t_sub))) fun t7 => (args_cons (e_sub (b_atom (a_val rfl) (b_atom a_lit t_sub))) fun t8 => (args_cons (e_sub (b_atom (a_val rfl) (b_atom a_lit t_sub))) fun t9 => (args_nil (args_nil (t_call (r_law_spoilt t4 t7 t8 t9) rfl)))))))) fun t10 => (args_cons (e_call (args_atom (a_val rfl) (args_nil (args_nil (t_call (r_law_plain t4) rfl))))) fun t11 => (args_nil t_disp)))))) fun t12 => (t_seq (x := t12)))) (sub_cons le_val (sub_cons le_val (sub_cons le_val (sub_cons le_val (sub_cons le_val (sub_cons le_nown (sub_cons le_nown (sub_cons le_nown (sub_cons le_nown (sub_cons le_nown (sub_cons le_nown (sub_cons le_nown sub_nil)))))))))))) (fun _ => rfl) (fun x0 cases0 => (p_tp3 fun most0 people0 lessons0 => (p_nm rfl (p_nm rfl (p_nm rfl (s_asg (b_bind (e_call (args_atom (a_val rfl) (args_atom (a_val rfl) (args_atom (a_val rfl) (args_nil (args_nil (t_call (r_law_ranks_row most0 people0 lessons0) rfl))))))) fun found0 => (p_nm rfl (s_asg (b_bind (e_call (args_atom (a_val rfl) (args_nil (args_nil (t_call (r_law_rising found0) rfl))))) fun rising0 => (p_nm rfl (s_ite (T_bl (e_cmp (b_atom (a_val rfl) (b_bindB (e_call (args_atom (a_val rfl) (args_atom (a_val rfl) (args_atom (a_val rfl) (args_nil (args_nil (t_call (r_law_has_groups most0 people0 lessons0) rfl))))))) fun t13 => t_cmp)))) (s_retOA a_lit) (s_nil (s_asg (b_bind (e_mkP (f_disp (args_atom (a_val rfl) (args_atom (a_val rfl) (args_cons (e_ite (T_gen (b_atom (a_val rfl) t_tru)) (e_call (args_atom (a_val rfl) (args_atom (a_val rfl) (args_atom (a_val rfl) (args_nil (args_nil (t_call (r_law_groups most0 people0 found0) rfl))))))) (e_atom a_lit)) fun t14 => (args_nil t_disp)))))) fun due0 => (p_nm rfl (s_mth (c_val rfl (args_cons (e_mkP (f_disp (args_cons (e_make (args_atom (a_val rfl) (args_cons (e_bi (b_atom (a_val rfl) t_bi)) fun t15 => (args_cons (e_bi (b_atom (a_val rfl) t_bi)) fun t16 => (args_nil (args_nil (t_make rfl (fun self => r_Ranks___init__ self most0 t15 t16) rfl))))))) fun t17 => (args_atom (a_val rfl) (args_nil t_disp))))) fun t18 => (args_nil (u_val rfl fun _ => (s_nil (k_O (sub_cons le_val (sub_cons le_val (sub_cons le_val (sub_cons le_val (sub_cons le_val (sub_cons le_vn (sub_cons le_vn (sub_cons le_vn (sub_cons le_vn (sub_cons le_vn (sub_cons le_vn (sub_cons le_nown sub_nil))))))))))))))))))))))))))))))))))) (fun cases2 => (s_forO (fun (_ : Unit) => [.val script0, .val k0, .val first0, .val t4, .val cases2, .nown, .nown, .nown, .nown, .nown, .nown, .nown]) (i_seq (b_bind (e_frz (b_atom (a_val rfl) t_frz)) fun t19 => (t_seq (x := t19)))) (sub_cons le_val (sub_cons le_val (sub_cons le_val (sub_cons le_val (sub_cons le_val (sub_cons le_nown (sub_cons le_nown (sub_cons le_nown (sub_cons le_nown (sub_cons le_nown (sub_cons le_nown (sub_cons le_nown sub_nil)))))))))))) (fun _ => rfl) (fun x1 _ => (p_tp2 fun made0 due1 => (p_nm rfl (p_nm rfl (s_ite (T_bl (e_not (T_gen (b_bind (e_call (args_atom (a_val rfl) (args_atom (a_val rfl) (args_atom (a_val rfl) (args_nil (args_nil (t_call (r_law_right t4 made0 due1) rfl))))))) fun t20 => t_tru)))) (s_retOA a_lit) (s_nil (s_nil (k_O (sub_cons le_val (sub_cons le_val (sub_cons le_val (sub_cons le_val (sub_cons le_val (sub_cons le_nown (sub_cons le_nown (sub_cons le_nown (sub_cons le_nown (sub_cons le_nown (sub_cons le_vn (sub_cons le_vn sub_nil)))))))))))))))))))) (fun _ => (s_forO (fun (_ : Unit) => [.val script0, .val k0, .val first0, .val t4, .val cases2, .nown, .nown, .nown, .nown, .nown, .nown, .nown]) (i_seq (b_bind (e_mkP (f_rev (b_atom (a_val rfl) (t_rev (x := cases2))))) fun t21 => (t_seq (x := t21)))) (sub_cons le_val (sub_cons le_val (sub_cons le_val (sub_cons le_val (sub_cons le_val (sub_cons le_nown (sub_cons le_nown (sub_cons le_nown (sub_cons le_nown (sub_cons le_nown (sub_cons le_nown (sub_cons le_nown sub_nil)))))))))))) (fun _ => rfl) (fun x2 _ => (p_tp2 fun made1 due2 => (p_nm rfl (p_nm rfl (s_ite (T_bl (e_not (T_gen (b_bind (e_call (args_atom (a_val rfl) (args_atom (a_val rfl) (args_atom (a_val rfl) (args_nil (args_nil (t_call (r_law_right t4 made1 due2) rfl))))))) fun t22 => t_tru)))) (s_retOA a_lit) (s_nil (s_nil (k_O (sub_cons le_val (sub_cons le_val (sub_cons le_val (sub_cons le_val (sub_cons le_val (sub_cons le_nown (sub_cons le_nown (sub_cons le_nown (sub_cons le_nown (sub_cons le_nown (sub_cons le_vn (sub_cons le_vn sub_nil)))))))))))))))))))) (fun _ => (s_nil (k_O (sub_cons le_val (sub_cons le_vn (sub_cons le_vn (sub_cons le_vn (sub_cons le_any (sub_cons le_nown (sub_cons le_nown (sub_cons le_nown (sub_cons le_nown (sub_cons le_nown (sub_cons le_nown (sub_cons le_nown sub_nil)))))))))))))))))))))))))))))))) (fun _ => (s_retF (e_atom a_lit))))
end Z

namespace Z
open PySem
def isNum : D → Bool
  | .int i => decide (0 ≤ i) && decide (i ≤ 100)
  | _ => false
theorem isNum_no {v : D} (h : ∀ i, v ≠ .int i) : isNum v = false := by cases v <;> first | rfl | exact absurd rfl (h _)
theorem between_eq {st : Store} {v : D} (h : Knd st v) : S_is_between v (.int 0) (.int 100) st = .ok (.bl (isNum v)) st := by
  unfold S_is_between S_is_integer
  rcases h.cases with ⟨i, rfl⟩ | ⟨b, rfl⟩ | ⟨h1, h2, h3, h4⟩
  · simp [isNum]
  · simp [isNum]
  · simp [h3, isNum_no h1]
def areNums : D → Bool
  | .tup vs => vs.all isNum
  | _ => false
def lawNums : D → Bool
  | .tup vs => true && ((decide ((1 : Int) ≤ vs.length) && decide ((vs.length : Int) ≤ 8)) && vs.all isNum)
  | _ => false
/-- an argument: a tuple of known kinds, or a thing of another kind -/
def Arg (st : Store) (v : D) : Prop := (∃ vs, v = .tup vs ∧ vs.length ≤ 1000 ∧ ∀ x ∈ vs, Knd st x) ∨ (Knd st v ∧ (∀ vs, v ≠ .tup vs) ∧ isiD (view st v) .tuple = some false)
theorem are_between_eq {st : Store} {vs : List D} (hl : vs.length ≤ 1000) (h : ∀ x ∈ vs, Knd st x) : S_are_between (.tup vs) (.int 0) (.int 100) st = .ok (.bl (vs.all isNum)) st := by
  unfold S_are_between
  have e := lc_map (st := st) (e := fun x => S_is_between x (.int 0) (.int 100)) (xs := vs) (fun x => .bl (isNum x)) (fun x hx => between_eq (h x hx)) (Nat.le_trans hl (by decide))
  simp [e, bls_map]
theorem are_numbers_eq {st : Store} {v : D} (h : Arg st v) : S_are_numbers v st = .ok (.bl (areNums v)) st := by
  unfold S_are_numbers
  rcases h with ⟨vs, rfl, hl, hk⟩ | ⟨h1, h2, h3⟩
  · simp [are_between_eq hl hk, areNums]
  · have : areNums v = false := by cases v <;> first | rfl | exact absurd rfl (h2 _)
    simp [h3, this]
theorem Arg.app {st ys : Store} {v : D} (h : Arg st v) : Arg (st ++ ys) v := by
  rcases h with ⟨vs, rfl, hl, hk⟩ | ⟨h1, h2, h3⟩
  · exact .inl ⟨vs, rfl, hl, fun x hx => (hk x hx).app.1⟩
  · exact .inr ⟨h1.app.1, h2, by rw [h1.app.2]; exact h3⟩
def lenT : D → Nat
  | .tup vs => vs.length
  | _ => 0
def good3 (people lessons : D) : Bool := lawNums lessons && decide (lenT lessons = lenT people)
theorem lawNums_tup {v : D} (h : lawNums v = true) : ∃ vs, v = .tup vs ∧ 1 ≤ vs.length ∧ vs.length ≤ 8 ∧ vs.all isNum = true := by
  cases v <;> first | (cases h; done) | skip
  rename_i vs
  simp only [lawNums, Bool.true_and, Bool.and_eq_true, decide_eq_true_eq] at h
  exact ⟨vs, rfl, by omega, by omega, h.2⟩
theorem cond2 {st : Store} {v : D} (h : Arg st v) : X.or (X.not (X.bind (S_are_numbers v) fun t1 => X.tru t1)) (X.not (X.bind (X.bi .len v) fun t2 => X.chain .LtE .LtE (D.int 1) t2 (X.pure (D.int 8)))) st = .ok (!lawNums v) st := by
  have e := or_ok (P := X.not (X.bind (S_are_numbers v) fun t1 => X.tru t1)) (Q := X.not (X.bind (X.bi .len v) fun t2 => X.chain .LtE .LtE (D.int 1) t2 (X.pure (D.int 8)))) (p := !areNums v) (q := !(decide ((1 : Int) ≤ lenT v) && decide ((lenT v : Int) ≤ 8))) (st := st) (not_ok (trub_ok (are_numbers_eq h))) (fun g => by
    cases v <;> first | (simp [areNums] at g; done) | skip
    simp [lenT] <;> rfl)
  rw [e]
  congr 1
  cases v <;> simp [areNums, lawNums, lenT]
  rename_i vs
  cases vs.all isNum <;> simp <;> rfl
theorem cond3 {st : Store} {p v : D} (hp : lawNums p = true) (h : Arg st v) : X.or (X.not (X.bind (S_are_numbers v) fun t3 => X.tru t3)) (X.bind (X.bi .len v) fun t4 => X.bind (X.bi .len p) fun t5 => X.cmp .NotEq t4 t5) st = .ok (!good3 p v) st := by
  obtain ⟨ps, rfl, h1, h8, _⟩ := lawNums_tup hp
  have e := or_ok (P := X.not (X.bind (S_are_numbers v) fun t1 => X.tru t1)) (Q := X.bind (X.bi .len v) fun t4 => X.bind (X.bi .len (.tup ps)) fun t5 => X.cmp .NotEq t4 t5) (p := !areNums v) (q := !decide ((lenT v : Int) = ps.length)) (st := st) (not_ok (trub_ok (are_numbers_eq h))) (fun g => by
    cases v <;> first | (simp [areNums] at g; done) | skip
    simp [lenT] <;> rfl)
  rw [e]
  congr 1
  cases v <;> simp [areNums, good3, lawNums, lenT]
  rename_i vs
  cases ha : vs.all isNum <;> simp
  by_cases hl : vs.length = ps.length
  · have c1 : (1 : Int) ≤ vs.length := by omega
    have c2 : (vs.length : Int) ≤ 8 := by omega
    simp [hl, h1, h8]
    omega
  · have : ¬ ((vs.length : Int) = ps.length) := by omega
    simp [hl, this]
section
variable {st : Store} {l : Nat} {m p v : D}
theorem c1_eq (h : Knd st m) : X.not (X.bind (S_is_between m (D.int 0) (D.int 100)) fun t0 => X.tru t0) st = .ok (!isNum m) st := not_ok (trub_ok (between_eq h))
theorem init_4 (hc : st[l]? = some (.ins "Ranks" [])) (h1 : Knd st m) (h2 : Arg st p) (h3 : Arg st v) (g1 : isNum m = true) (g2 : lawNums p = true) (g : good3 p v = true) : S_Ranks___init__ (.ref l) m p v st = .ok .non (st.set l (.ins "Ranks" [("most", m), ("people", p), ("lessons", v)])) := by
  unfold S_Ranks___init__
  refine iff_ok (c1_eq h1) ?_
  rw [g1]
  refine iff_ok (cond2 h2) ?_
  rw [g2]
  refine iff_ok (cond3 g2 h3) ?_
  rw [g]
  refine xbind_ok (fset_ok hc (by decide +kernel) (by decide)) ?_
  refine xbind_ok (fset_ok (fs := [("most", m)]) (set_get hc) (by decide +kernel) (by decide : 1 < 1000)) ?_
  refine xbind_ok (fset_ok (fs := [("most", m), ("people", p)]) (set_get (set_get hc)) (by decide +kernel) (by decide : 2 < 1000)) ?_
  rw [set_set, set_set]; rfl
end
/-- ranks that were made -/
def Rk (st : Store) (r : Nat) (m : Int) (ps vs : List Int) : Prop := st[r]? = some (.ins "Ranks" [("most", .int m), ("people", .tup (nums ps)), ("lessons", .tup (nums vs))])
theorem fld_most {m p v : D} : fldD gAts (.ins "Ranks" [("most", m), ("people", p), ("lessons", v)]) "most" = some m := rfl
theorem fld_people {m p v : D} : fldD gAts (.ins "Ranks" [("most", m), ("people", p), ("lessons", v)]) "people" = some p := rfl
theorem fld_lessons {m p v : D} : fldD gAts (.ins "Ranks" [("most", m), ("people", p), ("lessons", v)]) "lessons" = some v := rfl

/-! sums -/
def sums (a : Int) : List Int → List Int
  | [] => []
  | x :: xs => (x + a) :: sums (x + a) xs
theorem sums_len (xs : List Int) : ∀ a, (sums a xs).length = xs.length := by
  induction xs with
  | nil => intro a; rfl
  | cons x xs ih => intro a; simp [sums, ih]
def lst0 (xs : List Int) : Int := xs.getLast?.getD 0
theorem lst0_nil : lst0 [] = 0 := rfl
theorem lst0_snoc (xs : List Int) (x : Int) : lst0 (xs ++ [x]) = x := by simp [lst0]
theorem sub_last {xs : List Int} (h : xs ≠ []) : subD (.lst (nums xs)) (.int (-1)) = some (.int (lst0 xs)) := by
  have hl : 0 < xs.length := List.length_pos_iff.mpr h
  have e : ixN (nums xs).length (-1) = some (xs.length - 1) := by
    unfold ixN
    rw [if_neg (by omega), nums_len, if_pos (by omega)]
    congr 1
    omega
  show (ixN (nums xs).length (-1)).bind (fun j => (nums xs)[j]?) = _
  rw [e]
  show (nums xs)[xs.length - 1]? = _
  rw [nums_get, ← List.getLast?_eq_getElem?, lst0, List.getLast?_eq_some_getLast h]
  rfl
theorem ne_lnil (xs : List D) : cmpD .NotEq (.lst xs) (.lst []) = some (!xs.isEmpty) := by
  show (eqD (.lst xs) (.lst [])).map (!·) = _
  rw [eq_lnil]; rfl
theorem eq_lnil' (xs : List D) : cmpD .Eq (.lst xs) (.lst []) = some xs.isEmpty := eq_lnil xs
@[simp] theorem nums_emp (xs : List Int) : (nums xs).isEmpty = xs.isEmpty := by cases xs <;> rfl
theorem lsums_eq {xs : List Int} {st : Store} (h : xs.length ≤ 100) : S_law_sums (.lst (nums xs)) st = .ok (.lst (nums (sums 0 xs))) st := by
  unfold S_law_sums
  have key : ∀ (xs acc : List Int), acc.length + xs.length ≤ 100 → X.forV (fun one0 found1 => X.bind (X.bind (X.iff (X.bind (X.mkP (X.fits [])) fun t0 => X.cmp .NotEq (.lst found1) t0) (X.bind (X.un .USub (D.int 1)) fun t1 => X.sub (.lst found1) t1) (X.pure (D.int 0))) fun t2 => X.bin .Add one0 t2) fun t3 => X.bind (X.upL found1 (mtC .append [t3])) fun (found3, _) => X.pure found3) (nums xs) (nums acc) st = .ok (nums (acc ++ sums (lst0 acc) xs)) st := by
    intro xs
    induction xs with
    | nil => intro acc _; simp [sums]
    | cons x xs ih =>
      intro acc hl
      have hl' : (nums acc).length < line := by simp [line]; simp at hl; omega
      have c : X.bind (X.iff (X.bind (X.mkP (X.fits [])) fun t0 => X.cmp .NotEq (.lst (nums acc)) t0) (X.bind (X.un .USub (D.int 1)) fun t1 => X.sub (.lst (nums acc)) t1) (X.pure (D.int 0))) (fun t2 => X.bin .Add (.int x) t2) st = .ok (.int (x + lst0 acc)) st := by
        cases acc with
        | nil => simp [lst0_nil]
        | cons a as => simp [eq_lnil, sub_last]
      refine xbind_ok (xbind_ok c (xbind_ok (X.app_ok hl') rfl)) ?_
      rw [nums_snoc]
      refine (ih _ (by simp at hl ⊢; omega)).trans ?_
      rw [lst0_snoc]
      simp [sums]
  refine xbind_ok (a := []) (st1 := st) (by simp) (xbind_ok (a := nums xs) (st1 := st) (by simp) (xbind_ok (key xs [] (by simpa using h)) ?_))
  simp [lst0_nil]
theorem totals_eq {xs : List Int} {st : Store} (h : xs.length ≤ 100) : S_totals (.tup (nums xs)) st = .ok (.lst (nums (sums 0 xs))) (st ++ [.frz (nums (sums 0 xs))]) := by
  unfold S_totals
  have key : ∀ (xs acc : List Int) (st : Store) (q : Nat), st[q]? = some (.lst (nums acc)) → acc.length + xs.length ≤ 100 → X.forV (fun number0 found1 => X.bind (X.lstX found1) fun _ => X.bind (X.bind (X.iff (X.tru found1) (X.bind (X.un .USub (D.int 1)) fun t0 => X.sub found1 t0) (X.pure (D.int 0))) fun t1 => X.bin .Add number0 t1) fun t2 => X.bind (X.upX found1 (mtC .append [t2])) fun _ => X.pure found1) (nums xs) (.ref q) st = .ok (.ref q) (st.set q (.lst (nums (acc ++ sums (lst0 acc) xs)))) := by
    intro xs
    induction xs with
    | nil =>
      intro acc st q hq _
      obtain ⟨h1, h2⟩ := List.getElem?_eq_some_iff.mp hq
      simp [sums, ← h2]
    | cons x xs ih =>
      intro acc st q hq hl
      have hl' : (nums acc).length < line := by simp [line]; simp at hl; omega
      have v := vref hq
      have c : X.bind (X.iff (X.tru (.ref q)) (X.bind (X.un .USub (D.int 1)) fun t0 => X.sub (.ref q) t0) (X.pure (D.int 0))) (fun t1 => X.bin .Add (.int x) t1) st = .ok (.int (x + lst0 acc)) st := by
        cases acc with
        | nil => simp [v, lst0_nil]
        | cons a as => simp [v, sub_last]
      refine xbind_ok (xbind_ok (a := ()) (st1 := st) (by simp [X.lstX, hq]) (xbind_ok c (xbind_ok (X.appX_ok hq hl') rfl))) ?_
      rw [nums_snoc]
      refine (ih _ _ _ (set_get hq) (by simp at hl ⊢; omega)).trans ?_
      rw [lst0_snoc, set_set]
      simp [sums]
  refine xbind_ok (a := .ref st.length) (st1 := st ++ [.lst []]) (by simp) (xbind_ok (a := nums xs) (by simp) (xbind_ok (key xs [] _ st.length get_app (by simpa using h)) ?_))
  rw [lst0_nil, set_app, List.nil_append, X.frz_ok get_app, set_app]
/-! rows -/
def nats (fs : List Nat) : List Int := fs.map fun (k : Nat) => (k : Int)
@[simp] theorem nats_len (fs : List Nat) : (nats fs).length = fs.length := by simp [nats]
theorem nats_snoc (fs : List Nat) (k : Nat) : nats (fs ++ [k]) = nats fs ++ [(k : Int)] := by simp [nats]
theorem nats_last {fs : List Nat} {e : Nat} (h : fs.getLast? = some e) : lst0 (nats fs) = e := by
  unfold lst0 nats
  rw [List.getLast?_map, h]; rfl
def fn (xs : List Int) (k : Nat) : Int := xs.getD k 0
theorem sub_fn {xs : List Int} {k : Nat} (h : k < xs.length) : subD (.lst (nums xs)) (.int k) = some (.int (fn xs k)) := by
  refine sub_lst ?_
  rw [nums_get, fn, List.getD_eq_getElem?_getD, List.getElem?_eq_getElem h]
  rfl
def abv (n : Nat) (l : Nat → Int) (b : Int) : List Nat := (List.range n).filter fun k => decide (b < l k)
theorem abv_head {n : Nat} {l : Nat → Int} {b : Int} : (abv n l b).head? = Rw.fstAb n l b := List.head?_filter
theorem rng_nats (n : Nat) : rng 0 n = (List.range n).map fun (k : Nat) => D.int (k : Int) := by
  unfold rng
  simp
theorem some_eq {n : Nat} {ls : List Int} {b : Int} {R : X (List D)} {st : Store} (hl : ls.length = n) (h : n ≤ 100) (hR : R st = .ok (rng 0 n) st) : X.mkP (X.bind R fun xs => X.lc (fun k0 => X.oneIf (X.bind (X.sub (.lst (nums ls)) k0) fun t11 => X.cmp .Gt t11 (.int b)) (X.pure k0)) xs) st = .ok (.lst (nums (nats (abv n (fn ls) b)))) st := by
  refine mkP_ok (xbind_ok hR ?_)
  have e := lc_filter (st := st) (c := fun k0 => X.bind (X.sub (.lst (nums ls)) k0) fun t11 => X.cmp .Gt t11 (.int b)) (e := X.pure) (xs := rng 0 n) (fun x => match x with | .int k => decide (b < fn ls k.toNat) | _ => false) id (fun x hx => by
    obtain ⟨i, hi, rfl⟩ := rng_mem' hx
    simp [sub_fn (hl ▸ hi)]) (fun x _ _ => rfl) (by rw [rng_len]; exact Nat.le_trans h (by decide))
  refine e.trans ?_
  rw [List.map_id, rng_nats, List.filter_map]
  unfold abv nats nums
  rw [List.map_map]
  rfl
/-! a for that may hand something back -/
section
variable {σ τ : Type} {st st1 : Store} {body : D → σ → X (O σ σ)} {r : σ → X D} {s s1 : σ} {x d : D} {xs : List D}
theorem qf_nil : X.qF (X.forO (τ := τ) body [] s) r st = r s st := by simp
theorem qf_nx (h : body x s st = .ok (.nx s1) st1) : X.qF (X.forO (τ := τ) body (x :: xs) s) r st = X.qF (X.forO (τ := τ) body xs s1) r st1 := by simp [h]
theorem qf_rt (h : body x s st = .ok (.rt d) st1) : X.qF (X.forO (τ := τ) body (x :: xs) s) r st = .ok d st1 := by simp [h]
end
theorem emp_nats (fs : List Nat) : (nums (nats fs)).isEmpty = fs.isEmpty := by cases fs <;> rfl
theorem view_len {st : Store} {q : Nat} {xs : List D} (h : st[q]? = some (.lst xs)) : view st (.ref q) = .lst xs := vref h
theorem mul_small {i j : Int} (h0 : 0 ≤ i) (h : i ≤ 1000) : opD .Mult (.int i) (.int j) = some (.int (i * j)) := by
  rw [op_mulI, if_pos]
  unfold mulOk
  have h1 : -(2 ^ 64 : Int) < i := by omega
  have h2 : i < (2 ^ 64 : Int) := by omega
  rw [decide_eq_true h1, decide_eq_true h2]; rfl
theorem bound_eq {n q : Nat} {m : Int} {P : List Int} {fs : List Nat} {st : Store} (hP : P.length = n) (hf : fs.length ≤ 1000) (hlt : ∀ e ∈ fs, e < n) (hq : st[q]? = some (.lst (nums (nats fs)))) :
    X.iff (X.bind (X.mkP (X.fits [])) fun t5 => X.cmp .NotEq (.ref q) t5) (X.bind (X.bind (X.bind (X.un .USub (D.int 1)) fun t6 => X.sub (.ref q) t6) fun t7 => X.sub (.lst (nums P)) t7) fun t8 => X.bind (X.bin .Mult (.int fs.length) (.int m)) fun t9 => X.bin .Sub t8 t9) (X.pure (D.int 0)) st = .ok (.int (Rw.bnd m (fn P) fs)) st := by
  have v := view_len hq
  cases e : fs.getLast? with
  | none =>
    have : fs = [] := List.getLast?_eq_none_iff.mp e
    subst this
    refine iff_ok (t := false) (st1 := st) ?_ ?_
    · simp [v, eq_lnil, nats]
    · rfl
  | some k =>
    have hk := List.mem_of_getLast? e
    have hne : nats fs ≠ [] := fun z => by
      have : fs = [] := by simpa [nats] using z
      subst this
      cases hk
    have hs := sub_last hne
    rw [nats_last e] at hs
    refine iff_ok (t := true) (st1 := st) ?_ ?_
    · simp [v, eq_lnil, hne]
    · have := sub_fn (xs := P) (k := k) (hP ▸ hlt k hk)
      rw [if_pos rfl]
      simp [v, hs, this, mul_small (i := fs.length) (j := m) (by omega) (by omega)]
      unfold Rw.bnd
      rw [e]
theorem sub_last2 {xs : List Int} {x : Int} (h : xs ≠ []) : subD (.lst (nums (xs ++ [x]))) (.int (-2)) = some (.int (lst0 xs)) := by
  have hl : 0 < xs.length := List.length_pos_iff.mpr h
  have e : ixN (nums (xs ++ [x])).length (-2) = some (xs.length - 1) := by
    unfold ixN
    rw [if_neg (by omega), nums_len, List.length_append, List.length_singleton, if_pos (by omega)]
    congr 1
    omega
  show (ixN (nums (xs ++ [x])).length (-2)).bind (fun j => (nums (xs ++ [x]))[j]?) = _
  rw [e]
  show (nums (xs ++ [x]))[xs.length - 1]? = _
  rw [nums_get, List.getElem?_append_left (by omega), ← List.getLast?_eq_getElem?, lst0, List.getLast?_eq_some_getLast h]
  rfl
theorem sub_head {x : D} {xs : List D} : subD (.lst (x :: xs)) (.int 0) = some x := sub_lst (i := 0) (xs := x :: xs) rfl
def lrowB (most0 people0 have0 wanted0 : D) : D → D → X (O D D) := (fun turn0 found1 => X.bind (X.iff (X.bind (X.mkP (X.fits [])) fun t5 => X.cmp .NotEq found1 t5) (X.bind (X.bind (X.bind (X.un .USub (D.int 1)) fun t6 => X.sub found1 t6) fun t7 => X.sub have0 t7) fun t8 => X.bind (X.bin .Mult turn0 most0) fun t9 => X.bin .Sub t8 t9) (X.pure (D.int 0))) fun bound0 => X.bind (X.mkP (X.bind (X.bind (X.bi .len people0) fun t10 => X.range1 t10) fun xs => X.lc (fun k0 => X.oneIf (X.bind (X.sub wanted0 k0) fun t11 => X.cmp .Gt t11 bound0) (X.pure k0)) xs)) fun some0 => X.iff (X.bind (X.mkP (X.fits [])) fun t12 => X.cmp .Eq some0 t12) (X.bind (X.frz found1) fun d => X.pure (.rt d)) (X.bind (X.lstX found1) fun _ => X.bind (X.sub some0 (D.int 0)) fun t13 => X.bind (X.upX found1 (mtC .append [t13])) fun _ => X.iff (X.and (X.cmp .Gt turn0 (D.int 0)) (X.bind (X.bind (X.un .USub (D.int 1)) fun t14 => X.sub found1 t14) fun t15 => X.bind (X.bind (X.un .USub (D.int 2)) fun t16 => X.sub found1 t16) fun t17 => X.cmp .LtE t15 t17)) (X.bind (X.frz found1) fun d => X.pure (.rt d)) (X.pure (.nx found1))))
theorem snoc_ne {xs : List Int} {x : Int} : xs ++ [x] ≠ [] := by simp
theorem lrow_step {n q : Nat} {m : Int} {ps P L : List Int} {fs : List Nat} {st : Store} (hps : ps.length = n) (hP : P.length = n) (hL : L.length = n) (hn : n ≤ 100) (hf : fs.length ≤ 200) (hlt : ∀ e ∈ fs, e < n) (hq : st[q]? = some (.lst (nums (nats fs)))) :
    lrowB (.int m) (.lst (nums ps)) (.lst (nums P)) (.lst (nums L)) (.int fs.length) (.ref q) st = match Rw.fstAb n (fn L) (Rw.bnd m (fn P) fs) with
      | none => .ok (.rt (.lst (nums (nats fs)))) (st.set q (.frz (nums (nats fs))))
      | some k => if ∃ e, fs.getLast? = some e ∧ k ≤ e then .ok (.rt (.lst (nums (nats (fs ++ [k]))))) (st.set q (.frz (nums (nats (fs ++ [k]))))) else .ok (.nx (.ref q)) (st.set q (.lst (nums (nats (fs ++ [k]))))) := by
  unfold lrowB
  refine xbind_ok (bound_eq hP (by omega) hlt hq) ?_
  refine xbind_ok (some_eq (st := st) (b := Rw.bnd m (fn P) fs) hL hn (R := X.bind (X.bi .len (.lst (nums ps))) fun t10 => X.range1 t10) (by simp [hps, small_nat' (show n ≤ 16777216 by omega)])) ?_
  have hh := abv_head (n := n) (l := fn L) (b := Rw.bnd m (fn P) fs)
  cases e : abv n (fn L) (Rw.bnd m (fn P) fs) with
  | nil =>
    rw [e] at hh
    rw [← hh]
    refine iff_ok (t := true) (st1 := st) (by simp [nats, eq_lnil]) ?_
    rw [if_pos rfl]
    exact xbind_ok (X.frz_ok hq) rfl
  | cons k rest =>
    rw [e] at hh
    rw [← hh]
    have hnl : (nums (nats fs)).length < line := by simp [line]; omega
    refine iff_ok (t := false) (st1 := st) (by simp [nats, eq_lnil, nums_cons]) ?_
    rw [if_neg Bool.false_ne_true]
    refine xbind_ok (a := ()) (st1 := st) (by simp [X.lstX, hq]) ?_
    refine xbind_ok (a := .int k) (st1 := st) (by simp [nats, nums_cons, sub_head]) ?_
    refine xbind_ok (X.appX_ok hq hnl) ?_
    rw [nums_snoc, ← nats_snoc]
    have hq' := set_get (c' := .lst (nums (nats (fs ++ [k])))) hq
    have v := view_len hq'
    simp only [List.head?_cons]
    have c : X.and (X.cmp .Gt (.int fs.length) (D.int 0)) (X.bind (X.bind (X.un .USub (D.int 1)) fun t14 => X.sub (.ref q) t14) fun t15 => X.bind (X.bind (X.un .USub (D.int 2)) fun t16 => X.sub (.ref q) t16) fun t17 => X.cmp .LtE t15 t17) (st.set q (.lst (nums (nats (fs ++ [k]))))) = .ok (decide (∃ e, fs.getLast? = some e ∧ k ≤ e)) (st.set q (.lst (nums (nats (fs ++ [k]))))) := by
      cases e' : fs.getLast? with
      | none =>
        have : fs = [] := List.getLast?_eq_none_iff.mp e'
        subst this
        simp
      | some e0 =>
        have hk := List.mem_of_getLast? e'
        have hne : nats fs ≠ [] := fun z => by
          have : fs = [] := by simpa [nats] using z
          subst this
          cases hk
        have s2 := sub_last2 (x := (k : Int)) hne
        have s1 := sub_last (xs := nats fs ++ [(k : Int)]) snoc_ne
        rw [lst0_snoc] at s1
        rw [nats_last e'] at s2
        have hpos : 0 < fs.length := List.length_pos_iff.mpr fun z => by subst z; cases hk
        rw [nats_snoc] at v ⊢
        refine (and_ok (p := true) (q := decide (k ≤ e0)) (by simp [hpos]) fun _ => ?_).trans ?_
        · simp [v, s1, s2]
        · simp
    refine iff_ok c ?_
    by_cases hx : ∃ e, fs.getLast? = some e ∧ k ≤ e
    · rw [decide_eq_true hx, if_pos rfl, if_pos hx]
      refine xbind_ok (X.frz_ok hq') ?_
      rw [set_set]
      rfl
    · rw [decide_eq_false hx, if_neg Bool.false_ne_true, if_neg hx]
      rfl
theorem rng_drop {n i : Nat} (h : i < n) : (rng 0 n).drop i = .int i :: (rng 0 n).drop (i + 1) := by
  rw [rng_nats, List.drop_eq_getElem_cons (by simpa using h)]
  simp
theorem lrow_loop {n q : Nat} {m : Int} {ps P L : List Int} (hps : ps.length = n) (hP : P.length = n) (hL : L.length = n) (hn : n ≤ 100) : ∀ (f : Nat) (fs : List Nat) (st : Store), fs.length + f = n + 1 → (∀ e ∈ fs, e < n) → st[q]? = some (.lst (nums (nats fs))) →
    X.qF (X.forO (τ := Unit) (lrowB (.int m) (.lst (nums ps)) (.lst (nums P)) (.lst (nums L))) ((rng 0 ((n + 1 : Nat) : Int)).drop fs.length) (.ref q)) (fun found3 => X.frz found3) st =
      .ok (.lst (nums (nats (Rw.rowF m n (fn P) (fn L) f fs)))) (st.set q (.frz (nums (nats (Rw.rowF m n (fn P) (fn L) f fs)))))
  | 0, fs, st, hf, hlt, hq => by
    rw [List.drop_of_length_le (by rw [rng_len]; omega), qf_nil, X.frz_ok hq]
    rfl
  | f + 1, fs, st, hf, hlt, hq => by
    rw [rng_drop (by omega)]
    have s := lrow_step (m := m) hps hP hL hn (by omega) hlt hq
    unfold Rw.rowF
    cases e : Rw.fstAb n (fn L) (Rw.bnd m (fn P) fs) with
    | none =>
      rw [e] at s
      exact qf_rt s
    | some k =>
      rw [e] at s
      simp only at s ⊢
      split at s
      · rename_i hx
        rw [if_pos hx]
        exact qf_rt s
      · rename_i hx
        rw [if_neg hx]
        rw [qf_nx s]
        have hk := (Rw.fst_some e).1
        have ih := lrow_loop (m := m) hps hP hL hn f (fs ++ [k]) (st.set q (.lst (nums (nats (fs ++ [k]))))) (by simp; omega) (fun e he => by
          rcases List.mem_append.mp he with z | z
          · exact hlt e z
          · rw [List.mem_singleton.mp z]; exact hk) (set_get hq)
        rw [set_set, List.length_append, List.length_singleton] at ih
        exact ih
/-- the row by the law -/
def rowL (m : Int) (ps ls : List Int) : List Nat := Rw.rowF m ps.length (fn (sums 0 ps)) (fn (sums 0 ls)) (ps.length + 1) []
theorem lrow_eq {m : Int} {ps ls : List Int} {st : Store} (hl : ls.length = ps.length) (hn : ps.length ≤ 100) : S_law_ranks_row (.int m) (.lst (nums ps)) (.lst (nums ls)) st = .ok (.lst (nums (nats (rowL m ps ls)))) (st ++ [.frz (nums (nats (rowL m ps ls)))]) := by
  unfold S_law_ranks_row
  refine xbind_ok (a := .tup [.lst (nums (sums 0 ps)), .lst (nums (sums 0 ls)), .ref st.length]) (st1 := st ++ [.lst []]) ?_ ?_
  · exact xbind_ok (lsums_eq hn) (xbind_ok (lsums_eq (by omega)) (by simp))
  refine xbind_ok (a := (.lst (nums (sums 0 ps)), .lst (nums (sums 0 ls)), .ref st.length)) (st1 := st ++ [.lst []]) rfl ?_
  refine xbind_ok (a := rng 0 ((ps.length + 1 : Nat) : Int)) (st1 := st ++ [.lst []]) ?_ ?_
  · have := small_nat' (n := ps.length + 1) (by omega)
    simp at this
    simp [this]
  have k := lrow_loop (m := m) (q := st.length) (ps := ps) (P := sums 0 ps) (L := sums 0 ls) rfl (sums_len _ _) ((sums_len _ _).trans hl) hn (ps.length + 1) [] (st ++ [.lst []]) (by simp) (fun e he => by cases he) get_app
  rw [set_app] at k
  exact k
/-! the program's row -/
def ascB (xs : List Int) : Bool := (List.range (xs.length - 1)).all fun i => decide (fn xs i < fn xs (i + 1))
theorem rng_pred (n : Nat) : rng 0 ((n : Int) - 1) = rng 0 ((n - 1 : Nat) : Int) := by
  unfold rng
  congr 2
  omega
theorem small_pred {n : Nat} (h : n ≤ 1000) : small ((n : Int) - 1) = true := by
  unfold small
  rw [decide_eq_true (by omega : -(2 ^ 62 : Int) ≤ (n : Int) - 1), decide_eq_true (by omega : (n : Int) - 1 < 2 ^ 62)]
  rfl
theorem asc_eq {x : D} {xs : List Int} {st : Store} (v : view st x = .lst (nums xs)) (h : xs.length ≤ 1000) : S_is_ascending x st = .ok (.bl (ascB xs)) st := by
  unfold S_is_ascending
  have e := lc_map (st := st) (e := fun at0 => X.bl (X.bind (X.sub x at0) fun t2 => X.bind (X.bind (X.bin .Add at0 (D.int 1)) fun t3 => X.sub x t3) fun t4 => X.cmp .Lt t2 t4)) (xs := rng 0 ((xs.length - 1 : Nat) : Int)) (fun x => match x with | .int k => .bl (decide (fn xs k.toNat < fn xs (k.toNat + 1))) | _ => .non) (fun y hy => by
    obtain ⟨i, hi, rfl⟩ := rng_mem' hy
    have s1 := sub_fn (xs := xs) (k := i) (by omega)
    have s2 := sub_fn (xs := xs) (k := i + 1) (by omega)
    simp at s2
    simp [v, s1, s2]) (by rw [rng_len]; exact Nat.le_trans (show xs.length - 1 ≤ 1000 by omega) (by decide))
  refine xbind_ok (mkP_ok (xbind_ok (a := rng 0 ((xs.length - 1 : Nat) : Int)) (st1 := st) ?_ e)) ?_
  · simp [v, small_pred h, rng_pred]
  · rw [rng_nats, List.map_map]
    have b := bls_map (fun i : Nat => decide (fn xs i < fn xs (i + 1))) (List.range (xs.length - 1))
    rw [X.ap_bi, view_lst]
    show XR.op ((blsD _).map _) st = _
    have e2 : (List.range (xs.length - 1)).map ((fun x => match x with | D.int k => D.bl (decide (fn xs k.toNat < fn xs (k.toNat + 1))) | _ => D.non) ∘ fun (k : Nat) => D.int (k : Int)) = (List.range (xs.length - 1)).map fun i => D.bl (decide (fn xs i < fn xs (i + 1))) := by
      refine List.map_congr_left fun i _ => ?_
      simp
    rw [e2, b]
    simp [ascB, List.all_map]
theorem enum_nats (L : List Int) : enumL (nums L) = (List.range L.length).map fun (i : Nat) => D.tup [.int (i : Int), .int (fn L i)] := by
  refine List.ext_getElem? fun i => ?_
  unfold enumL
  rw [List.getElem?_map, List.getElem?_map]
  by_cases hi : i < L.length
  · have : ((List.range (nums L).length).zip (nums L))[i]? = some (i, .int (fn L i)) := by
      rw [List.getElem?_zip_eq_some]
      refine ⟨by rw [List.getElem?_range (by simpa using hi)], ?_⟩
      rw [nums_get, fn, List.getD_eq_getElem?_getD, List.getElem?_eq_getElem hi]
      rfl
    rw [this, List.getElem?_range hi]
    rfl
  · rw [List.getElem?_eq_none (by simp; omega), List.getElem?_eq_none (by simp; omega)]
    rfl
theorem flat_abv (n : Nat) (l : Nat → Int) (b : Int) : ((List.range n).flatMap fun (i : Nat) => if b < l i then [D.int (i : Int)] else []) = nums (nats (abv n l b)) := by
  unfold abv
  induction List.range n with
  | nil => rfl
  | cons i r ih =>
    rw [List.flatMap_cons, ih]
    by_cases h : b < l i
    · rw [if_pos h, List.filter_cons_of_pos (by simpa using h)]; rfl
    · rw [if_neg h, List.filter_cons_of_neg (by simpa using h)]; rfl
theorem first_eq {L : List Int} {b : Int} {st : Store} (h : L.length ≤ 100) : S_first_above (.lst (nums L)) (.int b) st = .ok (.lst (nums (nats ((abv L.length (fn L) b).take 1)))) st := by
  unfold S_first_above
  have e := lc_eq (st := st) (go := fun x0 => X.bind (X.items2 x0) fun (rank0, total0) => X.oneIf (X.cmp .Gt total0 (.int b)) (X.pure rank0)) (g := fun x => match x with | .tup [.int i, .int t] => if b < t then [D.int i] else [] | _ => []) (xs := enumL (nums L)) (fun x hx => by
    rw [enum_nats] at hx
    obtain ⟨i, _, rfl⟩ := List.mem_map.mp hx
    by_cases hb : b < fn L i <;> simp [hb]) (by
    refine Nat.le_trans (m := 100) ?_ (by decide)
    rw [enum_nats, List.flatMap_map, flat_abv]
    simp only [nums_len, nats_len, abv]
    exact Nat.le_trans (List.length_filter_le _ _) (by simpa using h))
  refine xbind_ok (mkP_ok (xbind_ok (a := enumL (nums L)) (st1 := st) (by simp) e)) ?_
  rw [enum_nats, List.flatMap_map, flat_abv]
  rw [X.ap_slc, view_lst]
  show XR.op (some (D.lst (cut _ none (some 1)))) st = _
  have : ∀ xs : List D, cut xs none (some 1) = xs.take 1 := by
    intro xs
    unfold cut sIx
    cases xs <;> simp
  rw [this]
  unfold nums nats
  rw [← List.map_take, ← List.map_take]
  rfl
def rowC : D × D → X Bool := (fun (found0, further0) => X.bind (X.mkP (X.fits [])) fun t2 => X.cmp .NotEq further0 t2)
def rowB (most0 people0 lessons0 : D) : D × D → X (O (D × D) (D × D)) := (fun (found0, further0) => X.bind (X.lstX found0) fun _ => X.bind (X.upX found0 (mtC .extend [further0])) fun _ => X.iff (X.not (X.bind (X.bind (X.bind (X.bind (X.un .USub (D.int 2)) X.toI) fun i0 => X.slc found0 i0 none) fun t3 => S_is_ascending t3) fun t4 => X.tru t4)) (X.pure (.rt found0)) (X.bind (X.bind (X.bind (X.bind (X.bind (X.un .USub (D.int 1)) fun t5 => X.sub found0 t5) fun t6 => X.sub people0 t6) fun t7 => X.bind (X.bind (X.bi .len found0) fun t8 => X.bin .Mult t8 most0) fun t9 => X.bin .Sub t7 t9) fun t10 => S_first_above lessons0 t10) fun further2 => X.pure (.nx (found0, further2))))
theorem fa_none {n : Nat} {l : Nat → Int} {b : Int} (h : Rw.fstAb n l b = none) : (abv n l b).take 1 = [] := by
  rw [← abv_head] at h
  rw [List.head?_eq_none_iff.mp h]; rfl
theorem fa_some {n : Nat} {l : Nat → Int} {b : Int} {k : Nat} (h : Rw.fstAb n l b = some k) : (abv n l b).take 1 = [k] := by
  rw [← abv_head] at h
  cases e : abv n l b with
  | nil => rw [e] at h; cases h
  | cons a r => rw [e] at h; cases h; rfl
theorem cut_last2 (xs : List D) : cut xs (some (-2)) none = xs.drop (xs.length - 2) := by
  unfold cut sIx
  simp only
  rw [if_pos (by omega)]
  have : ((-2 : Int) + xs.length).toNat = xs.length - 2 := by omega
  rw [this, List.take_of_length_le (by simp)]
theorem asc_tail {fs : List Nat} {k : Nat} : ascB ((nats (fs ++ [k])).drop ((nats (fs ++ [k])).length - 2)) = !decide (∃ e, fs.getLast? = some e ∧ k ≤ e) := by
  cases e : fs.getLast? with
  | none =>
    have : fs = [] := List.getLast?_eq_none_iff.mp e
    subst this
    simp [nats, ascB]
  | some e0 =>
    obtain ⟨gs, rfl⟩ := List.getLast?_eq_some_iff.mp e
    have : (nats (gs ++ [e0] ++ [k])).drop ((nats (gs ++ [e0] ++ [k])).length - 2) = [(e0 : Int), (k : Int)] := by
      rw [nats_len, List.append_assoc]
      simp [nats]
    rw [this]
    by_cases h : k ≤ e0
    · have h2 : ¬ ((e0 : Int) < k) := by omega
      simp [ascB, fn, h, h2]
    · have h2 : ((e0 : Int) < k) := by omega
      simp [ascB, fn, h, h2]
theorem len_mul {n : Nat} {m : Int} (h : n ≤ 1000) : opD .Mult (.int n) (.int m) = some (.int (n * m)) := mul_small (by omega) (by omega)
theorem row_loop {n q : Nat} {m : Int} {P L : List Int} (hP : P.length = n) (hL : L.length = n) (hn : n ≤ 100) : ∀ (f : Nat) (fs : List Nat) (st : Store) (N : Nat), Rw.Pre m n (fn P) (fn L) fs → n < f + fs.length → f < N → st[q]? = some (.lst (nums (nats fs))) →
    X.qF (X.whlO (τ := Unit) rowC (rowB (.int m) (.lst (nums P)) (.lst (nums L))) N (.ref q, .lst (nums (nats ((abv n (fn L) (Rw.bnd m (fn P) fs)).take 1))))) (fun (found2, further3) => X.pure found2) st =
      .ok (.ref q) (st.set q (.lst (nums (nats (Rw.rowF m n (fn P) (fn L) f fs)))))
  | 0, fs, st, N, hp, hf, hN, hq => by have := hp.len; omega
  | f + 1, fs, st, 0, hp, hf, hN, hq => by omega
  | f + 1, fs, st, N + 1, hp, hf, hN, hq => by
    have hlen := hp.len
    unfold Rw.rowF
    cases e : Rw.fstAb n (fn L) (Rw.bnd m (fn P) fs) with
    | none =>
      rw [fa_none e]
      have c : rowC (.ref q, .lst (nums (nats []))) st = .ok false st := by simp [rowC, nats, eq_lnil]
      rw [X.ap_qF]
      show (X.iff _ _ _ st).bnd _ = _
      rw [X.ap_iff, c]
      obtain ⟨h1, h2⟩ := List.getElem?_eq_some_iff.mp hq
      simp [← h2]
    | some k =>
      rw [fa_some e]
      have hk := (Rw.fst_some e).1
      have c : rowC (.ref q, .lst (nums (nats [k]))) st = .ok true st := by simp [rowC, nats, eq_lnil]
      have hq' := set_get (c' := .lst (nums (nats (fs ++ [k])))) hq
      have v := view_len hq'
      have u : X.upX (.ref q) (mtC .extend [.lst (nums (nats [k]))]) st = .ok () (st.set q (.lst (nums (nats (fs ++ [k]))))) := by
        have hl : (nums (nats fs)).length + (nums (nats [k])).length ≤ line := by simp [line]; omega
        unfold X.upX mtC
        simp only [hq, liveF_lst, if_pos hl, nums_app]
        rw [nats_snoc]; rfl
      have asc : X.not (X.bind (X.bind (X.bind (X.bind (X.un .USub (D.int 2)) X.toI) fun i0 => X.slc (.ref q) i0 none) fun t3 => S_is_ascending t3) fun t4 => X.tru t4) (st.set q (.lst (nums (nats (fs ++ [k]))))) = .ok (decide (∃ e, fs.getLast? = some e ∧ k ≤ e)) (st.set q (.lst (nums (nats (fs ++ [k]))))) := by
        have a := asc_eq (x := .lst (nums ((nats (fs ++ [k])).drop ((nats (fs ++ [k])).length - 2)))) (st := st.set q (.lst (nums (nats (fs ++ [k]))))) rfl (by simp; omega)
        rw [asc_tail] at a
        have s : slcD (.lst (nums (nats (fs ++ [k])))) (some (-2)) none = some (.lst (nums ((nats (fs ++ [k])).drop ((nats (fs ++ [k])).length - 2)))) := by
          show some (D.lst (cut _ _ _)) = _
          rw [cut_last2]
          unfold nums
          rw [List.map_drop, List.length_map]
        refine (not_ok (trub_ok (xbind_ok (a := .lst (nums ((nats (fs ++ [k])).drop ((nats (fs ++ [k])).length - 2)))) (st1 := st.set q (.lst (nums (nats (fs ++ [k]))))) ?_ a))).trans ?_
        · simp [v, s]
        · simp
      rw [X.ap_qF]
      show (X.iff _ _ _ st).bnd _ = _
      rw [X.ap_iff, c, XR.sel_t]
      have lx : X.lstX (.ref q) st = .ok () st := by simp [X.lstX, hq]
      simp only
      by_cases hx : ∃ e, fs.getLast? = some e ∧ k ≤ e
      · have b : rowB (.int m) (.lst (nums P)) (.lst (nums L)) (.ref q, .lst (nums (nats [k]))) st = .ok (.rt (.ref q)) (st.set q (.lst (nums (nats (fs ++ [k]))))) := by
          unfold rowB
          refine xbind_ok lx (xbind_ok u (iff_ok asc ?_))
          rw [decide_eq_true hx]; rfl
        rw [X.ap_bind, b, if_pos hx]
        rfl
      · have hp' := hp.snoc e fun e' h' => Nat.lt_of_not_le fun z => hx ⟨e', h', z⟩
        have b : rowB (.int m) (.lst (nums P)) (.lst (nums L)) (.ref q, .lst (nums (nats [k]))) st = .ok (.nx (.ref q, .lst (nums (nats ((abv n (fn L) (Rw.bnd m (fn P) (fs ++ [k]))).take 1))))) (st.set q (.lst (nums (nats (fs ++ [k]))))) := by
          unfold rowB
          refine xbind_ok lx (xbind_ok u (iff_ok asc ?_))
          rw [decide_eq_false hx, if_neg Bool.false_ne_true]
          have s1 := sub_last (xs := nats (fs ++ [k])) (by rw [nats_snoc]; simp)
          rw [nats_last (e := k) (by simp)] at s1
          have s2 := sub_fn (xs := P) (k := k) (hP ▸ hk)
          have bq : Rw.bnd m (fn P) (fs ++ [k]) = fn P k - ((fs ++ [k]).length : Nat) * m := by unfold Rw.bnd; simp
          have ml := len_mul (n := (nums (nats (fs ++ [k]))).length) (m := m) (by simp; omega)
          refine xbind_ok (a := .lst (nums (nats ((abv n (fn L) (Rw.bnd m (fn P) (fs ++ [k]))).take 1)))) (st1 := st.set q (.lst (nums (nats (fs ++ [k]))))) ?_ rfl
          refine xbind_ok (a := .int (Rw.bnd m (fn P) (fs ++ [k]))) (st1 := st.set q (.lst (nums (nats (fs ++ [k]))))) ?_ ?_
          · rw [bq]
            refine xbind_ok (a := .int (fn P k)) (st1 := st.set q (.lst (nums (nats (fs ++ [k]))))) (by simp [v, s1, s2]) ?_
            refine xbind_ok (a := .int (((nums (nats (fs ++ [k]))).length : Nat) * m)) (st1 := st.set q (.lst (nums (nats (fs ++ [k]))))) (xbind_ok (a := .int ((nums (nats (fs ++ [k]))).length : Nat)) (st1 := st.set q (.lst (nums (nats (fs ++ [k]))))) (by rw [X.ap_bi, v]; rfl) (by rw [X.ap_bin, view_int, view_int, ml]; rfl)) ?_
            simp
          · have := first_eq (L := L) (b := Rw.bnd m (fn P) (fs ++ [k])) (st := st.set q (.lst (nums (nats (fs ++ [k]))))) (by omega)
            rw [hL] at this
            exact this
        rw [X.ap_bind, b, if_neg hx]
        have ih := row_loop hP hL hn f (fs ++ [k]) (st.set q (.lst (nums (nats (fs ++ [k]))))) N hp' (by simp; omega) (by omega) hq'
        rw [set_set, X.ap_qF] at ih
        exact ih
theorem rowof_eq {m : Int} {ps ls : List Int} {st : Store} (hl : ls.length = ps.length) (hn : ps.length ≤ 100) : S_row_of (.int m) (.lst (nums (sums 0 ps))) (.lst (nums (sums 0 ls))) st = .ok (.ref st.length) (st ++ [.lst (nums (nats (rowL m ps ls)))]) := by
  unfold S_row_of
  refine xbind_ok (a := .ref st.length) (st1 := st ++ [.lst []]) (by simp) ?_
  have f := first_eq (L := sums 0 ls) (b := 0) (st := st ++ [.lst []]) (by rw [sums_len]; omega)
  rw [sums_len, hl] at f
  refine xbind_ok f ?_
  have k := row_loop (m := m) (n := ps.length) (q := st.length) (P := sums 0 ps) (L := sums 0 ls) (sums_len _ _) ((sums_len _ _).trans hl) hn (ps.length + 1) [] (st ++ [.lst []]) many .nil (by simp) (by unfold many; omega) get_app
  rw [set_app] at k
  exact k
theorem Rk.app {st ys : Store} {r : Nat} {m : Int} {ps vs : List Int} (h : Rk st r m ps vs) : Rk (st ++ ys) r m ps vs := by
  unfold Rk at h ⊢
  rw [List.getElem?_append_left (List.getElem?_eq_some_iff.mp h).1]
  exact h
theorem fldm {st : Store} {r : Nat} {m : Int} {ps vs : List Int} (h : Rk st r m ps vs) : X.fld gAts (.ref r) "most" st = .ok (.int m) st := by rw [X.ap_fld, vref h]; rfl
theorem fldp {st : Store} {r : Nat} {m : Int} {ps vs : List Int} (h : Rk st r m ps vs) : X.fld gAts (.ref r) "people" st = .ok (.tup (nums ps)) st := by rw [X.ap_fld, vref h]; rfl
theorem fldl {st : Store} {r : Nat} {m : Int} {ps vs : List Int} (h : Rk st r m ps vs) : X.fld gAts (.ref r) "lessons" st = .ok (.tup (nums vs)) st := by rw [X.ap_fld, vref h]; rfl
/-- what a row leaves in the store -/
def rowS (m : Int) (ps ls : List Int) : Store := [.frz (nums (sums 0 ps)), .frz (nums (sums 0 ls)), .lst (nums (nats (rowL m ps ls)))]
theorem prow_eq {st : Store} {r : Nat} {m : Int} {ps ls : List Int} (h : Rk st r m ps ls) (hl : ls.length = ps.length) (hn : ps.length ≤ 100) : S_row (.ref r) st = .ok (.ref (st.length + 2)) (st ++ rowS m ps ls) := by
  unfold S_row
  refine xbind_ok (fldm h) ?_
  refine xbind_ok (xbind_ok (fldp h) (totals_eq hn)) ?_
  refine xbind_ok (xbind_ok (fldl h.app) (totals_eq (by omega))) ?_
  rw [rowof_eq hl hn]
  simp [rowS]
theorem row_at {st : Store} {m : Int} {ps ls : List Int} : (st ++ rowS m ps ls)[st.length + 2]? = some (.lst (nums (nats (rowL m ps ls)))) := by simp [rowS]
theorem rowL_len {m : Int} {ps ls : List Int} : (rowL m ps ls).length ≤ ps.length + 1 := by
  rcases Rw.row_ends (m := m) (n := ps.length) (p := fn (sums 0 ps)) (l := fn (sums 0 ls)) (ps.length + 1) [] .nil (by simp) with ⟨h1, _⟩ | ⟨gs, k, e, h1, h2, _⟩
  · exact Nat.le_succ_of_le h1.len
  · show (Rw.rowF m ps.length (fn (sums 0 ps)) (fn (sums 0 ls)) (ps.length + 1) []).length ≤ _
    rw [h1]
    simp
    exact h2.len
theorem rowL_lt {m : Int} {ps ls : List Int} : ∀ k ∈ rowL m ps ls, k < ps.length := by
  intro k hk
  rcases Rw.row_ends (m := m) (n := ps.length) (p := fn (sums 0 ps)) (l := fn (sums 0 ls)) (ps.length + 1) [] .nil (by simp) with ⟨h1, _⟩ | ⟨gs, k', e, h1, h2, _, _, h5⟩
  · exact h1.up.2.1 k hk
  · have hk : k ∈ Rw.rowF m ps.length (fn (sums 0 ps)) (fn (sums 0 ls)) (ps.length + 1) [] := hk
    rw [h1] at hk
    rcases List.mem_append.mp hk with z | z
    · exact h2.up.2.1 k z
    · rw [List.mem_singleton.mp z]; exact (Rw.fst_some h5).1
theorem stays_eq {st : Store} {r : Nat} {m : Int} {ps ls : List Int} (h : Rk st r m ps ls) (hl : ls.length = ps.length) (hn : ps.length ≤ 100) : S_stays (.ref r) st = .ok (.bl (ascB (nats (rowL m ps ls)))) (st ++ rowS m ps ls) := by
  unfold S_stays
  refine xbind_ok (prow_eq h hl hn) (asc_eq (vref row_at) ?_)
  have := rowL_len (m := m) (ps := ps) (ls := ls)
  simp
  omega
/-- the groups of a row -/
def grpD (m : Int) (p : Nat → Int) : Int → List Nat → List D
  | _, [] => []
  | a, k :: ks => .tup [.int (p k - a), .int (p k - a - m)] :: grpD m p (p k) ks
theorem grpD_len (m : Int) (p : Nat → Int) : ∀ (fs : List Nat) (a : Int), (grpD m p a fs).length = fs.length
  | [], _ => rfl
  | k :: ks, a => by simp [grpD, grpD_len m p ks]
def partB (t2 ranks0 : D) : D → D × D → X (D × D) := (fun rank0 (found0, ahead0) => X.bind (X.bind (X.sub t2 rank0) fun t6 => X.bin .Sub t6 ahead0) fun people0 => X.bind (X.lstX found0) fun _ => X.bind (X.bind (X.bind (X.fld gAts ranks0 "most") fun t7 => X.bin .Sub people0 t7) fun t8 => X.tup [people0, t8]) fun t9 => X.bind (X.upX found0 (mtC .append [t9])) fun _ => X.bind (X.sub t2 rank0) fun ahead2 => X.pure (found0, ahead2))
theorem part_loop {q r : Nat} {m : Int} {ps ls P : List Int} : ∀ (fs : List Nat) (a : Int) (acc : List D) (st : Store), Rk st r m ps ls → (∀ k ∈ fs, k < P.length) → q ≠ r → st[q]? = some (.lst acc) → acc.length + fs.length ≤ 1000 →
    ∃ a', X.forV (partB (.lst (nums P)) (.ref r)) (nums (nats fs)) (.ref q, .int a) st = .ok (.ref q, .int a') (st.set q (.lst (acc ++ grpD m (fn P) a fs)))
  | [], a, acc, st, h, hlt, hqr, hq, hl => ⟨a, by
    obtain ⟨h1, h2⟩ := List.getElem?_eq_some_iff.mp hq
    simp [nats, grpD, ← h2]⟩
  | k :: ks, a, acc, st, h, hlt, hqr, hq, hl => by
    have s2 := sub_fn (xs := P) (k := k) (hlt k (by simp))
    have hq' := set_get (c' := .lst (acc ++ [.tup [.int (fn P k - a), .int (fn P k - a - m)]])) hq
    have h' : Rk (st.set q (.lst (acc ++ [.tup [.int (fn P k - a), .int (fn P k - a - m)]]))) r m ps ls := by
      unfold Rk at h ⊢
      rw [List.getElem?_set_ne hqr]; exact h
    obtain ⟨a', e⟩ := part_loop (P := P) ks (fn P k) _ _ h' (fun j hj => hlt j (List.mem_cons_of_mem _ hj)) hqr hq' (by simp at hl ⊢; omega)
    refine ⟨a', ?_⟩
    have b : partB (.lst (nums P)) (.ref r) (.int k) (.ref q, .int a) st = .ok (.ref q, .int (fn P k)) (st.set q (.lst (acc ++ [.tup [.int (fn P k - a), .int (fn P k - a - m)]]))) := by
      unfold partB
      refine xbind_ok (a := .int (fn P k - a)) (st1 := st) (by simp [s2]) ?_
      refine xbind_ok (a := ()) (st1 := st) (by simp [X.lstX, hq]) ?_
      refine xbind_ok (a := .tup [.int (fn P k - a), .int (fn P k - a - m)]) (st1 := st) ?_ ?_
      · exact xbind_ok (a := .int (fn P k - a - m)) (st1 := st) (xbind_ok (fldm h) (by simp)) (by simp)
      refine xbind_ok (X.appX_ok hq (by simp [line]; simp at hl; omega)) ?_
      exact xbind_ok (a := .int (fn P k)) (st1 := st.set q (.lst (acc ++ [.tup [.int (fn P k - a), .int (fn P k - a - m)]]))) (by simp [s2]) rfl
    show X.forV _ (.int k :: nums (nats ks)) _ st = _
    rw [X.ap_forV1, b, XR.bnd_ok, e, set_set]
    simp [grpD]
theorem not_ok' {st st1 : Store} {x : X D} {b : Bool} (h : x st = .ok (.bl b) st1) : X.not (X.bind x fun t => X.tru t) st = .ok (!b) st1 := by simp [h]
theorem rk_lt {st : Store} {r : Nat} {m : Int} {ps vs : List Int} (h : Rk st r m ps vs) : r < st.length := (List.getElem?_eq_some_iff.mp h).1
theorem set_tail {st ys : Store} {q : Nat} {c : Cell} (h : st.length ≤ q) : (st ++ ys).set q c = st ++ ys.set (q - st.length) c := List.set_append_right _ _ h
theorem parts_eq {st : Store} {r : Nat} {m : Int} {ps ls : List Int} (h : Rk st r m ps ls) (hl : ls.length = ps.length) (hn : ps.length ≤ 100) :
    ∃ d ys, S_parts (.ref r) st = .ok d (st ++ ys) ∧ (ascB (nats (rowL m ps ls)) = true → ∃ q, d = .ref q ∧ st.length ≤ q ∧ (st ++ ys)[q]? = some (.lst (grpD m (fn (sums 0 ps)) 0 (rowL m ps ls)))) ∧ (ascB (nats (rowL m ps ls)) = false → d = .non) := by
  have hs := stays_eq h hl hn
  have hr := rk_lt h
  cases e : ascB (nats (rowL m ps ls)) with
  | false =>
    rw [e] at hs
    refine ⟨.non, rowS m ps ls, ?_, fun z => (by cases z), fun _ => rfl⟩
    unfold S_parts
    exact iff_ok (not_ok' hs) rfl
  | true =>
    rw [e] at hs
    have h1 : Rk (st ++ rowS m ps ls) r m ps ls := h.app
    have h2 : Rk (st ++ rowS m ps ls ++ [.frz (nums (sums 0 ps))]) r m ps ls := h1.app
    have h3 : Rk (st ++ rowS m ps ls ++ [.frz (nums (sums 0 ps))] ++ [.lst []]) r m ps ls := h2.app
    have hrow := prow_eq h3 hl hn
    generalize hA : st ++ rowS m ps ls ++ [.frz (nums (sums 0 ps))] = A at *
    have hlA : st.length ≤ A.length := by rw [← hA]; simp
    have hB : ((A ++ [Cell.lst []]) ++ rowS m ps ls)[(A ++ [Cell.lst []]).length + 2]? = some (.lst (nums (nats (rowL m ps ls)))) := row_at
    generalize hC : ((A ++ [Cell.lst []]) ++ rowS m ps ls).set ((A ++ [Cell.lst []]).length + 2) (.frz (nums (nats (rowL m ps ls)))) = C
    have hrC : Rk C r m ps ls := by
      have := h3.app (ys := rowS m ps ls)
      unfold Rk at this ⊢
      rw [← hC, List.getElem?_set_ne (by simp; omega)]
      exact this
    have hqC : C[A.length]? = some (.lst []) := by
      rw [← hC, List.getElem?_set_ne (by simp; omega)]
      simp
    obtain ⟨a', hp⟩ := part_loop (P := sums 0 ps) (rowL m ps ls) 0 [] C hrC (fun k hk => by rw [sums_len]; exact rowL_lt k hk) (q := A.length) (by omega) hqC (by have := rowL_len (m := m) (ps := ps) (ls := ls); simp; omega)
    have hCe : ∃ ys, C.set A.length (.lst ([] ++ grpD m (fn (sums 0 ps)) 0 (rowL m ps ls))) = st ++ ys := by
      rw [← hC, ← hA]
      simp only [List.append_assoc]
      rw [set_tail (by simp; omega), set_tail (by simp)]
      exact ⟨_, rfl⟩
    obtain ⟨ys, hys⟩ := hCe
    refine ⟨.ref A.length, ys, ?_, fun _ => ⟨A.length, rfl, hlA, ?_⟩, fun z => by cases z⟩
    · unfold S_parts
      refine iff_ok (t := false) (st1 := st ++ rowS m ps ls) (not_ok' hs) ?_
      rw [if_neg Bool.false_ne_true]
      refine xbind_ok (xbind_ok (fldp h1) (totals_eq hn)) ?_
      rw [hA]
      refine xbind_ok (a := .ref A.length) (st1 := A ++ [.lst []]) (by simp) ?_
      refine xbind_ok (a := nums (nats (rowL m ps ls))) (st1 := C) ?_ ?_
      · refine xbind_ok (a := .lst (nums (nats (rowL m ps ls)))) (st1 := C) ?_ (by simp)
        refine xbind_ok hrow ?_
        rw [X.frz_ok hB, hC]
      refine xbind_ok hp ?_
      rw [hys]; rfl
    · rw [← hys]
      exact set_get hqC
/-! the law's judgements -/
theorem view_eq {st : Store} {x : D} {xs : List D} (h : view st x = .lst xs) {i : D} : X.sub x i st = XR.op (subD (.lst xs) i) st := by simp [h]
theorem asc_getD {xs : List Int} : ascB xs = (((List.range (xs.length - 1)).filter fun i => decide (fn xs (i + 1) ≤ fn xs i))).isEmpty := by
  unfold ascB
  induction List.range (xs.length - 1) with
  | nil => rfl
  | cons i r ih =>
    rw [List.all_cons, ih]
    by_cases h : fn xs i < fn xs (i + 1)
    · rw [decide_eq_true h, List.filter_cons_of_neg (by simp; omega)]; rfl
    · rw [decide_eq_false h, List.filter_cons_of_pos (by simp; omega)]; rfl
theorem rng1 (n : Nat) : rng 1 (n : Int) = (List.range (n - 1)).map fun (k : Nat) => D.int ((k + 1 : Nat) : Int) := by
  unfold rng
  have : ((n : Int) - 1).toNat = n - 1 := by omega
  rw [this]
  refine List.map_congr_left fun i _ => ?_
  congr 1
  push_cast
  omega
theorem rising_eq {xs : List Int} {st : Store} (h : xs.length ≤ 1000) : S_law_rising (.lst (nums xs)) st = .ok (.bl (ascB xs)) st := by
  unfold S_law_rising
  have e := lc_filter (st := st) (c := fun k0 => X.bind (X.sub (.lst (nums xs)) k0) fun t1 => X.bind (X.bind (X.bin .Sub k0 (D.int 1)) fun t2 => X.sub (.lst (nums xs)) t2) fun t3 => X.cmp .LtE t1 t3) (e := X.pure) (xs := rng 1 (xs.length : Int)) (fun x => match x with | .int k => decide (fn xs k.toNat ≤ fn xs (k.toNat - 1)) | _ => false) id (fun y hy => by
    rw [rng1] at hy
    obtain ⟨i, hi, rfl⟩ := List.mem_map.mp hy
    have hi := List.mem_range.mp hi
    have s1 := sub_fn (xs := xs) (k := i) (by omega)
    have s2 := sub_fn (xs := xs) (k := i + 1) (by omega)
    simp at s2
    simp [s1, s2]) (fun x _ _ => rfl) (by rw [rng1]; simp [line]; omega)
  have hsm : (small 1 && small (xs.length : Int)) = true := by rw [small_nat' (by omega)]; rfl
  refine bl_ok (xbind_ok (a := .lst (nums (nats (((List.range (xs.length - 1)).filter fun i => decide (fn xs (i + 1) ≤ fn xs i)).map (· + 1))))) (st1 := st) (mkP_ok (xbind_ok (a := rng 1 (xs.length : Int)) (st1 := st) ?_ ?_)) ?_)
  · simp at hsm
    simp [hsm]
  · refine e.trans ?_
    rw [List.map_id, rng1, List.filter_map]
    unfold nats nums
    rw [List.map_map, List.map_map]
    rfl
  · rw [asc_getD]
    simp [eq_lnil, nats]
def hgI (most0 t0 t1 number0 : D) : D → D × D × D → X (O (D × D × D) (D × D × D)) := (fun k0 (rooms1, ahead1, good1) => X.bind (X.iff (X.bind (X.bind (X.bin .RShift number0 k0) fun t4 => X.bin .BitAnd t4 (D.int 1)) fun t5 => X.tru t5) (X.bind (X.bl (X.bind (X.bind (X.sub t0 k0) fun t6 => X.bin .Sub t6 ahead1) fun t7 => X.cmp .GtE t7 most0)) fun good5 => X.bind (X.bind (X.bind (X.bind (X.sub t0 k0) fun t8 => X.bin .Add rooms1 t8) fun t9 => X.bin .Sub t9 ahead1) fun t10 => X.bin .Sub t10 most0) fun t11 => X.bind (X.sub t0 k0) fun t12 => X.pure (t11, t12, good5)) (X.pure (rooms1, ahead1, good1))) (fun (rooms3, ahead3, good3) => X.iff (X.or (X.not (X.tru good3)) (X.bind (X.sub t1 k0) fun t13 => X.cmp .Gt t13 rooms3)) (X.pure (.bk (rooms3, ahead3, (D.bl false)))) (X.pure (.nx (rooms3, ahead3, good3)))))
def hgO (most0 t0 t1 t2 : D) : D → Unit → X (O Unit Unit) := (fun number0 _ => X.bind (X.tup [(D.int 0), (D.int 0), (D.bl true)]) fun x0 => X.bind (X.items3 x0) fun (rooms0, ahead0, good0) => X.bind (X.range1 t2) fun xs => X.qO (X.forO (hgI most0 t0 t1 number0) xs (rooms0, ahead0, good0)) (fun (rooms5, ahead5, good6) => X.iff (X.tru good6) (X.pure (.rt (D.bl true))) (X.pure (.nx ()))))
theorem qo_nil {σ τ σ' : Type} {st : Store} {body : D → σ → X (O σ σ)} {r : σ → X (O σ' τ)} {s : σ} : X.qO (X.forO (τ := τ) body [] s) r st = r s st := by simp
theorem qo_nx {σ τ σ' : Type} {st st1 : Store} {body : D → σ → X (O σ σ)} {r : σ → X (O σ' τ)} {s s1 : σ} {x : D} {xs : List D} (h : body x s st = .ok (.nx s1) st1) : X.qO (X.forO (τ := τ) body (x :: xs) s) r st = X.qO (X.forO (τ := τ) body xs s1) r st1 := by simp [h]
theorem qo_bk {σ τ σ' : Type} {st st1 : Store} {body : D → σ → X (O σ σ)} {r : σ → X (O σ' τ)} {s s1 : σ} {x : D} {xs : List D} (h : body x s st = .ok (.bk s1) st1) : X.qO (X.forO (τ := τ) body (x :: xs) s) r st = r s1 st1 := by simp [h]
theorem and_nat (a b : Nat) : Builtin.bitAnd a b = ((a &&& b : Nat) : Int) := by
  unfold Builtin.bitAnd
  simp
theorem bit_eq (x k : Nat) (st : Store) : X.bind (X.bind (X.bin .RShift (.int x) (.int k)) fun t4 => X.bin .BitAnd t4 (D.int 1)) (fun t5 => X.tru t5) st = .ok (x.testBit k) st := by
  have h : ((x : Int) / 2 ^ k) = ((x / 2 ^ k : Nat) : Int) := by push_cast; rfl
  have e : Builtin.bitAnd ((x : Int) / 2 ^ k) 1 = (((x / 2 ^ k) &&& 1 : Nat) : Int) := by
    rw [h]; exact and_nat _ 1
  simp [e]
  have h2 : ((x : Int) / 2 ^ k % 2) = ((x / 2 ^ k % 2 : Nat) : Int) := by push_cast; rfl
  rw [Nat.testBit_eq_decide_div_mod_eq, h2]
  rcases Nat.mod_two_eq_zero_or_one (x / 2 ^ k) with g | g <;> rw [g] <;> rfl
open Rw in
theorem hgI_step {m : Int} {n x k : Nat} {P L : List Int} {st : Store} (hP : P.length = n) (hL : L.length = n) (hk : k < n) :
    hgI (.int m) (.lst (nums P)) (.lst (nums L)) (.int x) (.int k) (.int (grp m (fn P) x.testBit k).1, .int (grp m (fn P) x.testBit k).2, .bl true) st =
      if (x.testBit k = true → m ≤ fn P k - (grp m (fn P) x.testBit k).2) ∧ fn L k ≤ (grp m (fn P) x.testBit (k + 1)).1 then .ok (.nx (.int (grp m (fn P) x.testBit (k + 1)).1, .int (grp m (fn P) x.testBit (k + 1)).2, .bl true)) st
      else .ok (.bk (.int (grp m (fn P) x.testBit (k + 1)).1, .int (grp m (fn P) x.testBit (k + 1)).2, .bl false)) st := by
  unfold hgI
  have s1 := sub_fn (xs := P) (k := k) (by omega)
  have s2 := sub_fn (xs := L) (k := k) (by omega)
  generalize hg : grp m (fn P) x.testBit k = g
  obtain ⟨r, a⟩ := g
  rw [grp_succ, hg]
  cases hb : x.testBit k with
  | false =>
    have b := bit_eq x k st
    rw [hb] at b
    simp only [Bool.false_eq_true, if_false, false_implies, true_and]
    refine xbind_ok (a := (.int r, .int a, .bl true)) (st1 := st) (iff_ok (t := false) (st1 := st) b rfl) ?_
    refine iff_ok (t := decide (r < fn L k)) (st1 := st) (by simp [s2]) ?_
    by_cases h : fn L k ≤ r
    · rw [if_pos h, decide_eq_false (by omega)]; rfl
    · rw [if_neg h, decide_eq_true (by omega)]; rfl
  | true =>
    have b := bit_eq x k st
    rw [hb] at b
    simp only [if_true, true_implies]
    refine xbind_ok (a := (.int (r + fn P k - a - m), .int (fn P k), .bl (decide (m ≤ fn P k - a)))) (st1 := st) (iff_ok (t := true) (st1 := st) b ?_) ?_
    · simp [s1]
    by_cases h1 : m ≤ fn P k - a
    · refine iff_ok (t := decide (r + fn P k - a - m < fn L k)) (st1 := st) (by simp [s2, h1]) ?_
      by_cases h : fn L k ≤ r + fn P k - a - m
      · have h3 : ¬ (r + fn P k - a - m < fn L k) := by omega
        simp [h1, h, h3]
      · have h3 : r + fn P k - a - m < fn L k := by omega
        simp [h, h3]
    · refine iff_ok (t := true) (st1 := st) (by simp [s2, h1]) ?_
      simp [h1]
def hgR : D × D × D → X (O Unit Unit) := fun (rooms5, ahead5, good6) => X.iff (X.tru good6) (X.pure (.rt (D.bl true))) (X.pure (.nx ()))
def hgOut (b : Bool) : O Unit Unit := if b then .rt (.bl true) else .nx ()
open Rw in
theorem hgI_loop {m : Int} {n x : Nat} {P L : List Int} {st : Store} (hP : P.length = n) (hL : L.length = n) : ∀ (f k : Nat), k + f = n →
    ∃ b : Bool, (b = true ↔ ∀ i, k ≤ i → i < n → (x.testBit i = true → m ≤ fn P i - (grp m (fn P) x.testBit i).2) ∧ fn L i ≤ (grp m (fn P) x.testBit (i + 1)).1) ∧
      X.qO (X.forO (τ := Unit) (hgI (.int m) (.lst (nums P)) (.lst (nums L)) (.int x)) ((rng 0 (n : Int)).drop k) (.int (grp m (fn P) x.testBit k).1, .int (grp m (fn P) x.testBit k).2, .bl true)) hgR st = .ok (hgOut b) st
  | 0, k, h => ⟨true, ⟨fun _ i h1 h2 => by omega, fun _ => rfl⟩, by
    rw [List.drop_of_length_le (by rw [rng_len]; omega), qo_nil]; rfl⟩
  | f + 1, k, h => by
    have hk : k < n := by omega
    have s := hgI_step (m := m) (x := x) (st := st) hP hL hk
    rw [rng_drop hk]
    by_cases c : (x.testBit k = true → m ≤ fn P k - (grp m (fn P) x.testBit k).2) ∧ fn L k ≤ (grp m (fn P) x.testBit (k + 1)).1
    · rw [if_pos c] at s
      obtain ⟨b, hb, e⟩ := hgI_loop (m := m) (x := x) (st := st) hP hL f (k + 1) (by omega)
      refine ⟨b, hb.trans ⟨fun z i h1 h2 => ?_, fun z i h1 h2 => z i (by omega) h2⟩, ?_⟩
      · rcases Nat.eq_or_lt_of_le h1 with rfl | h3
        · exact c
        · exact z i h3 h2
      · rw [qo_nx s]; exact e
    · rw [if_neg c] at s
      refine ⟨false, ⟨fun z => (by cases z), fun z => (c (z k (Nat.le_refl _) hk)).elim⟩, ?_⟩
      rw [qo_bk s]; rfl
open Rw in
theorem hgO_step {m : Int} {n x : Nat} {P L : List Int} {st : Store} (hP : P.length = n) (hL : L.length = n) (hn : n ≤ 8) :
    ∃ b : Bool, (b = true ↔ Valid m n (fn P) (fn L) x.testBit) ∧ hgO (.int m) (.lst (nums P)) (.lst (nums L)) (.int n) (.int x) () st = .ok (hgOut b) st := by
  obtain ⟨b, hb, e⟩ := hgI_loop (m := m) (x := x) (st := st) hP hL n 0 (by omega)
  refine ⟨b, hb.trans ⟨fun z k hk => z k (Nat.zero_le _) hk, fun z i _ hi => z i hi⟩, ?_⟩
  unfold hgO
  refine xbind_ok (a := .tup [.int 0, .int 0, .bl true]) (st1 := st) (by simp) ?_
  refine xbind_ok (a := (.int 0, .int 0, .bl true)) (st1 := st) (by simp) ?_
  exact xbind_ok (a := rng 0 (n : Int)) (st1 := st) (by simp [small_nat' (show n ≤ 16777216 by omega)]) e
open Rw in
theorem hgO_loop {m : Int} {n N : Nat} {P L : List Int} {st : Store} (hP : P.length = n) (hL : L.length = n) (hn : n ≤ 8) : ∀ (f x : Nat), x + f = N →
    ∃ b : Bool, (b = true ↔ ∃ y, x ≤ y ∧ y < N ∧ Valid m n (fn P) (fn L) y.testBit) ∧
      X.qF (X.forO (τ := Unit) (hgO (.int m) (.lst (nums P)) (.lst (nums L)) (.int n)) ((rng 0 (N : Int)).drop x) ()) (fun _ => X.pure (D.bl false)) st = .ok (.bl b) st
  | 0, x, h => ⟨false, ⟨fun z => (by cases z), fun ⟨y, h1, h2, _⟩ => by omega⟩, by
    rw [List.drop_of_length_le (by rw [rng_len]; omega), qf_nil]; rfl⟩
  | f + 1, x, h => by
    have hx : x < N := by omega
    rw [rng_drop hx]
    obtain ⟨b, hb, e⟩ := hgO_step (m := m) (x := x) (st := st) hP hL hn
    cases b with
    | true => exact ⟨true, ⟨fun _ => ⟨x, Nat.le_refl _, hx, hb.mp rfl⟩, fun _ => rfl⟩, qf_rt e⟩
    | false =>
      obtain ⟨b, hb2, e2⟩ := hgO_loop (m := m) (N := N) (st := st) hP hL hn f (x + 1) (by omega)
      refine ⟨b, hb2.trans ⟨fun ⟨y, h1, h2, h3⟩ => ⟨y, Nat.le_of_succ_le h1, h2, h3⟩, fun ⟨y, h1, h2, h3⟩ => ?_⟩, ?_⟩
      · rcases Nat.eq_or_lt_of_le h1 with rfl | h4
        · exact absurd (hb.mpr h3) Bool.false_ne_true
        · exact ⟨y, h4, h2, h3⟩
      · rw [qf_nx e]; exact e2
open Rw in
theorem hg_eq {m : Int} {ps ls : List Int} {st : Store} (hl : ls.length = ps.length) (hn : ps.length ≤ 8) :
    ∃ b : Bool, (b = true ↔ ∃ y, y < 2 ^ ps.length ∧ Valid m ps.length (fn (sums 0 ps)) (fn (sums 0 ls)) y.testBit) ∧ S_law_has_groups (.int m) (.lst (nums ps)) (.lst (nums ls)) st = .ok (.bl b) st := by
  obtain ⟨b, hb, e⟩ := hgO_loop (m := m) (N := 2 ^ ps.length) (P := sums 0 ps) (L := sums 0 ls) (st := st) (sums_len _ _) ((sums_len _ _).trans hl) hn (2 ^ ps.length) 0 (by omega)
  refine ⟨b, hb.trans ⟨fun ⟨y, _, h2, h3⟩ => ⟨y, h2, h3⟩, fun ⟨y, h2, h3⟩ => ⟨y, Nat.zero_le _, h2, h3⟩⟩, ?_⟩
  have hp : 2 ^ ps.length ≤ 2 ^ 8 := Nat.pow_le_pow_right (by decide) hn
  unfold S_law_has_groups
  refine xbind_ok (lsums_eq (by omega)) (xbind_ok (lsums_eq (by omega)) (xbind_ok (a := .int ps.length) (st1 := st) (by simp) (xbind_ok (a := rng 0 ((2 ^ ps.length : Nat) : Int)) (st1 := st) ?_ e)))
  have o : opD .LShift (.int 1) (.int ps.length) = some (.int ((2 ^ ps.length : Nat) : Int)) := by
    rw [op_shl]
    · simp
    · unfold powOk
      rw [decide_eq_true (by omega), decide_eq_true (by omega)]; rfl
  refine xbind_ok (a := .int ((2 ^ ps.length : Nat) : Int)) (st1 := st) (by rw [X.ap_bin, view_int, view_int, o]; rfl) ?_
  rw [X.ap_range1, small_nat' (by omega)]; rfl
theorem sums_ge : ∀ (xs : List Int) (a : Int), (∀ x ∈ xs, 0 ≤ x) → ∀ k < xs.length, a ≤ fn (sums a xs) k
  | [], _, _, k, hk => by simp at hk
  | x :: xs, a, h, 0, _ => by
    have := h x (by simp)
    show a ≤ x + a
    omega
  | x :: xs, a, h, k + 1, hk => by
    have h0 := h x (by simp)
    have := sums_ge xs (x + a) (fun y hy => h y (List.mem_cons_of_mem _ hy)) k (by simpa using hk)
    show a ≤ fn (sums (x + a) xs) k
    omega
theorem sums_mono : ∀ (xs : List Int) (a : Int), (∀ x ∈ xs, 0 ≤ x) → ∀ i j, i ≤ j → j < xs.length → fn (sums a xs) i ≤ fn (sums a xs) j
  | [], _, _, i, j, _, hj => by simp at hj
  | x :: xs, a, h, 0, 0, _, _ => Int.le_refl _
  | x :: xs, a, h, 0, j + 1, _, hj => sums_ge xs (x + a) (fun y hy => h y (List.mem_cons_of_mem _ hy)) j (by simpa using hj)
  | x :: xs, a, h, i + 1, 0, hij, _ => by omega
  | x :: xs, a, h, i + 1, j + 1, hij, hj => sums_mono xs (x + a) (fun y hy => h y (List.mem_cons_of_mem _ hy)) i j (by omega) (by simpa using hj)
theorem asc_iff (fs : List Nat) : ascB (nats fs) = true ↔ fs.Pairwise (· < ·) := by
  unfold ascB
  rw [List.all_eq_true, List.pairwise_iff_getElem]
  have g : ∀ (i : Nat) (h : i < fs.length), fn (nats fs) i = fs[i] := fun i h => by
    unfold fn nats
    rw [List.getD_eq_getElem?_getD, List.getElem?_map, List.getElem?_eq_getElem h]; rfl
  constructor
  · intro z
    have one : ∀ i (h : i + 1 < fs.length), fs[i] < fs[i + 1] := fun i hi => by
      have := z i (List.mem_range.mpr (by simp; omega))
      rw [g i (by omega), g (i + 1) hi] at this
      simpa using this
    intro i j hi hj hij
    induction j with
    | zero => omega
    | succ j ih =>
      have o := one j hj
      by_cases h : i = j
      · subst h; exact o
      · have := ih (by omega) (by omega)
        omega
  · intro z i hi
    have hi := List.mem_range.mp hi
    simp at hi
    rw [g i (by omega), g (i + 1) (by omega)]
    simpa using z i (i + 1) (by omega) (by omega) (by omega)
theorem hg_row {m : Int} {ps ls : List Int} {st : Store} (hl : ls.length = ps.length) (hn : ps.length ≤ 8) (hm : 0 ≤ m) (hp : ∀ x ∈ ps, 0 ≤ x) : S_law_has_groups (.int m) (.lst (nums ps)) (.lst (nums ls)) st = .ok (.bl (ascB (nats (rowL m ps ls)))) st := by
  obtain ⟨b, hb, e⟩ := hg_eq (m := m) (st := st) hl hn
  have r := Rw.row_iff (m := m) (n := ps.length) (p := fn (sums 0 ps)) (l := fn (sums 0 ls)) hm (fun i j h1 h2 => sums_mono ps 0 hp i j h1 h2) (fun k hk => sums_ge ps 0 hp k hk)
  have : b = ascB (nats (rowL m ps ls)) := by
    rw [Bool.eq_iff_iff, hb, asc_iff]
    refine Iff.trans ⟨fun ⟨y, _, h⟩ => ⟨_, h⟩, fun ⟨S, h⟩ => ?_⟩ r
    obtain ⟨y, h1, h2⟩ := Rw.valid_num h
    exact ⟨y, h1, h2⟩
  rw [e, this]
theorem grp_get {m : Int} {p : Nat → Int} : ∀ (fs : List Nat) (a : Int) (i : Nat) (h : i < fs.length), (grpD m p a fs)[i]? = some (.tup [.int (p fs[i] - (if i = 0 then a else p (fs.getD (i - 1) 0))), .int (p fs[i] - (if i = 0 then a else p (fs.getD (i - 1) 0)) - m)])
  | [], _, i, h => by simp at h
  | k :: ks, a, 0, _ => by simp [grpD]
  | k :: ks, a, i + 1, h => by
    have := grp_get (m := m) (p := p) ks (p k) i (by simpa using h)
    simp only [grpD, List.getElem?_cons_succ, this, List.getElem_cons_succ, Nat.add_sub_cancel, Nat.add_eq_zero_iff, Nat.one_ne_zero, and_false, if_false]
    cases i with
    | zero => simp
    | succ i => simp
theorem grps_eq {m : Int} {ps : List Int} {fs : List Nat} {st : Store} (hn : ps.length ≤ 100) (hf : fs.length ≤ 200) (hlt : ∀ k ∈ fs, k < ps.length) : S_law_groups (.int m) (.lst (nums ps)) (.lst (nums (nats fs))) st = .ok (.lst (grpD m (fn (sums 0 ps)) 0 fs)) st := by
  unfold S_law_groups
  refine xbind_ok (lsums_eq hn) ?_
  have e1 := lc_map (st := st) (e := fun k0 => X.sub (.lst (nums (sums 0 ps))) k0) (xs := nums (nats fs)) (fun x => match x with | .int k => .int (fn (sums 0 ps) k.toNat) | _ => .non) (fun x hx => by
    obtain ⟨i, hi, rfl⟩ := nums_mem hx
    obtain ⟨k, hk, rfl⟩ := List.mem_map.mp hi
    have s := sub_fn (xs := sums 0 ps) (k := k) (by rw [sums_len]; exact hlt k hk)
    simp [s]) (by simp [line]; omega)
  have e2 : (nums (nats fs)).map (fun x => match x with | .int k => D.int (fn (sums 0 ps) k.toNat) | _ => .non) = nums (fs.map (fn (sums 0 ps))) := by
    unfold nums nats
    rw [List.map_map, List.map_map, List.map_map]
    rfl
  rw [e2] at e1
  refine xbind_ok (mkP_ok (xbind_ok (a := nums (nats fs)) (st1 := st) (by simp) e1)) ?_
  generalize hE : fs.map (fn (sums 0 ps)) = es
  have hlen : es.length = fs.length := by rw [← hE]; simp
  refine xbind_ok (a := .lst (nums (0 :: es))) (st1 := st) ?_ ?_
  · refine mkP_ok (xbind_ok (a := .lst [.int 0]) (st1 := st) (by simp) ?_)
    have : 1 + es.length ≤ line := by simp [line]; omega
    rw [X.ap_catL]
    simp only [X.ap_fits, List.length_append, nums_len, List.length_singleton]
    rw [if_pos this]; rfl
  have e3 := lc_map (st := st) (e := fun k1 => X.bind (X.bind (X.sub (.lst (nums es)) k1) fun t2 => X.bind (X.sub (.lst (nums (0 :: es))) k1) fun t3 => X.bin .Sub t2 t3) fun t4 => X.bind (X.bind (X.bind (X.sub (.lst (nums es)) k1) fun t5 => X.bind (X.sub (.lst (nums (0 :: es))) k1) fun t6 => X.bin .Sub t5 t6) fun t7 => X.bin .Sub t7 (.int m)) fun t8 => X.tup [t4, t8]) (xs := rng 0 (es.length : Int)) (fun x => match x with | .int k => .tup [.int (fn es k.toNat - fn (0 :: es) k.toNat), .int (fn es k.toNat - fn (0 :: es) k.toNat - m)] | _ => .non) (fun x hx => by
    obtain ⟨i, hi, rfl⟩ := rng_mem' hx
    have s := sub_fn (xs := es) (k := i) hi
    have s2 := sub_fn (xs := 0 :: es) (k := i) (by simp; omega)
    simp [s, s2]) (by rw [rng_len]; simp [line]; omega)
  refine (mkP_ok (xbind_ok (a := rng 0 (es.length : Int)) (st1 := st) (by simp [small_nat' (show es.length ≤ 16777216 by omega)]) e3)).trans ?_
  congr 2
  refine List.ext_getElem? fun i => ?_
  rw [rng_nats, List.map_map, List.getElem?_map]
  by_cases hi : i < fs.length
  · rw [List.getElem?_range (by omega), grp_get fs 0 i hi]
    have g1 : fn es i = fn (sums 0 ps) fs[i] := by
      unfold fn
      rw [← hE, List.getD_eq_getElem?_getD, List.getElem?_map, List.getElem?_eq_getElem hi]; rfl
    have g2 : fn (0 :: es) i = if i = 0 then 0 else fn (sums 0 ps) (fs.getD (i - 1) 0) := by
      cases i with
      | zero => rfl
      | succ i =>
        rw [if_neg (Nat.succ_ne_zero i)]
        show fn es i = _
        unfold fn
        rw [← hE, List.getD_eq_getElem?_getD, List.getElem?_map, Nat.add_sub_cancel, List.getD_eq_getElem?_getD (l := fs), List.getElem?_eq_getElem (show i < fs.length by omega)]; rfl
    simp [g1, g2]
  · rw [List.getElem?_eq_none (by simp; omega), List.getElem?_eq_none (by rw [grpD_len]; omega)]
    rfl
/-! the draws -/
def InR (x : Int) : Prop := 0 ≤ x ∧ x ≤ 100
structure Cs (m : Int) (ps ls : List Int) : Prop where
  m : InR m
  n1 : 1 ≤ ps.length
  n8 : ps.length ≤ 8
  len : ls.length = ps.length
  ps : ∀ x ∈ ps, InR x
  ls : ∀ x ∈ ls, InR x
def caseD (m : Int) (ps ls : List Int) : D := .lst [.int m, .lst (nums ps), .lst (nums ls)]
theorem snoc_all {P : Int → Prop} {xs : List Int} {x : Int} (h : ∀ y ∈ xs, P y) (hx : P x) : ∀ y ∈ xs ++ [x], P y := fun y hy => by
  rcases List.mem_append.mp hy with hy | hy
  · exact h y hy
  · rw [List.mem_singleton.mp hy]; exact hx
theorem comp_wr {st0 st : Store} {l : Nat} {n : Int} {many : Nat} {top : D} {j b K : Int} (hb : Bx l n st0 st) (hn : n ≤ 950000) (hm : many ≤ 8) (ht : ∀ st, X.sub top (.int j) st = .ok (.int b) st) (b0 : 0 < b) (b1 : b ≤ 101) (K0 : 0 < K) (K1 : K ≤ 100) :
    WR (X.mkP (X.bind (X.range1 (.int many)) fun xs => X.lc (fun k0 => X.one (X.bind (X.bind (X.sub top (.int j)) fun t10 => L_take (.ref l) t10) fun t11 => X.bind (X.bind (X.bl (X.bind (L_take (.ref l) (.int K)) fun t12 => X.cmp .Gt t12 (D.int 0))) fun t13 => X.bi .int t13) fun t14 => X.bin .Mult t11 t14)) xs) st) fun d st' => ∃ xs : List Int, d = .lst (nums xs) ∧ xs.length = many ∧ (∀ x ∈ xs, InR x) ∧ Bx l (n + 2 * many) st0 st' := by
  simp [small_nat' (show many ≤ 16777216 by omega)]
  refine wr_bnd (wp_lc (fun i ds st => ∃ xs : List Int, ds = nums xs ∧ xs.length = i ∧ (∀ x ∈ xs, InR x) ∧ Bx l (n + 2 * i) st0 st) ⟨[], rfl, rfl, (fun x hx => by cases hx), hb.mono (by omega)⟩ ?_ (by rw [rng_len]; exact Nat.le_trans hm (by decide)) (fun ds st _ h => h)) ?_
  · rintro i x ds st2 hx ⟨xs, rfl, hl, hr, b2⟩
    have hi : i < many := by have := (List.getElem?_eq_some_iff.mp hx).1; rwa [rng_len] at this
    show WR _ _
    have ht2 := ht st2
    simp only [X.ap_bind, ht2, XR.bnd_ok]
    refine wr_bnd (take_wr b2 (by omega) b0 (by omega)) ?_
    rintro _ st3 ⟨v, rfl, v0, v1, b3⟩
    simp
    refine wr_bnd (take_wr b3 (by omega) K0 (by omega)) ?_
    rintro _ st4 ⟨w, rfl, w0, w1, b4⟩
    simp [mul_small (i := v) v0 (by omega)]
    refine ⟨xs ++ [v * (if 0 < w then 1 else 0)], by simp, by simp [hl], snoc_all hr ?_, b4.mono (by omega)⟩
    unfold InR
    split <;> omega
  · rintro ds st5 ⟨xs, rfl, hl, hr, b5⟩
    rw [rng_len] at hl b5
    simp
    exact ⟨xs, rfl, hl, hr, b5⟩
theorem five {v : Int} (h0 : 0 ≤ v) (h1 : v < 5) : v = 0 ∨ v = 1 ∨ v = 2 ∨ v = 3 ∨ v = 4 := by omega
theorem top_eq {v : Int} (h0 : 0 ≤ v) (h1 : v < 5) : ∃ a b c : Int, subD (.lst [.lst [(D.int 2), (D.int 4), (D.int 3)], .lst [(D.int 4), (D.int 9), (D.int 4)], .lst [(D.int 3), (D.int 3), (D.int 3)], .lst [(D.int 101), (D.int 101), (D.int 101)], .lst [(D.int 40), (D.int 101), (D.int 30)]]) (.int v) = some (.lst [.int a, .int b, .int c]) ∧ (0 < a ∧ a ≤ 101) ∧ (0 < b ∧ b ≤ 101) ∧ 0 < c ∧ c ≤ 101 := by
  rcases five h0 h1 with rfl | rfl | rfl | rfl | rfl
  · exact ⟨2, 4, 3, rfl, by omega, by omega, by omega⟩
  · exact ⟨4, 9, 4, rfl, by omega, by omega, by omega⟩
  · exact ⟨3, 3, 3, rfl, by omega, by omega, by omega⟩
  · exact ⟨101, 101, 101, rfl, by omega, by omega, by omega⟩
  · exact ⟨40, 101, 30, rfl, by omega, by omega, by omega⟩
theorem wp_mkP {x : X (List D)} {st : Store} {P : List D → Store → Prop} {Q : D → Store → Prop} (h : Wp x st P) (k : ∀ ds st', P ds st' → Q (.lst ds) st') : Wp (X.mkP x) st Q := by
  obtain ⟨a, st', e, p⟩ := h
  exact ⟨.lst a, st', mkP_ok e, k a st' p⟩
theorem plain_wr {st0 st : Store} {l : Nat} {n : Int} (hb : Bx l n st0 st) (hn : n ≤ 900000) : Wp (S_law_plain (.ref l)) st fun d st' => ∃ m ps ls, d = caseD m ps ls ∧ Cs m ps ls ∧ Bx l (n + 100) st0 st' := by
  unfold S_law_plain
  refine wp_bind (fun d st' => ∃ (k : Nat) (a b c : Int), k < 8 ∧ (0 < a ∧ a ≤ 101) ∧ (0 < b ∧ b ≤ 101) ∧ (0 < c ∧ c ≤ 101) ∧ d = .tup [.int ((k + 1 : Nat) : Int), .lst [.int a, .int b, .int c]] ∧ Bx l (n + 2) st0 st') ?_ ?_
  · show WR _ _
    simp only [X.ap_bind, bnd_bnd]
    refine wr_bnd (take_wr hb (by omega) (by decide) (by decide)) ?_
    rintro _ st1 ⟨v, rfl, v0, v1, b1⟩
    obtain ⟨k, rfl⟩ : ∃ k : Nat, v = k := ⟨v.toNat, by omega⟩
    simp
    refine wr_bnd (take_wr b1 (by omega) (by decide) (by decide)) ?_
    rintro _ st2 ⟨w, rfl, w0, w1, b2⟩
    obtain ⟨a, b, c, e, ha, hbb, hc⟩ := top_eq w0 w1
    simp [e]
    exact ⟨k, by omega, a, ha, b, hbb, c, hc, ⟨by omega, rfl, rfl, rfl⟩, b2.mono (by omega)⟩
  rintro _ st2 ⟨k, a, b, c, hk, ha, hbb, hc, rfl, b2⟩
  have t0 : ∀ st, X.sub (.lst [.int a, .int b, .int c]) (.int 0) st = .ok (.int a) st := fun st => rfl
  have t1 : ∀ st, X.sub (.lst [.int a, .int b, .int c]) (.int 1) st = .ok (.int b) st := fun st => rfl
  have t2 : ∀ st, X.sub (.lst [.int a, .int b, .int c]) (.int 2) st = .ok (.int c) st := fun st => rfl
  refine wp_ok (a := (.int ((k + 1 : Nat) : Int), .lst [.int a, .int b, .int c])) rfl ?_
  refine wp_bind _ (comp_wr (many := k + 1) b2 (by omega) (by omega) t1 hbb.1 hbb.2 (by omega) (by omega)) ?_
  rintro _ st3 ⟨ps, rfl, p1, p2, b3⟩
  refine wp_mkP (P := fun ds st' => ∃ m ls, ds = [.int m, .lst (nums ps), .lst (nums ls)] ∧ InR m ∧ ls.length = k + 1 ∧ (∀ x ∈ ls, InR x) ∧ Bx l (n + 100) st0 st') ?_ ?_
  · refine wp_bind (fun d st' => ∃ m, d = .int m ∧ InR m ∧ Bx l (n + 3 + 2 * (k + 1)) st0 st') ?_ ?_
    · show WR _ _
      simp only [X.ap_bind, t0, XR.bnd_ok]
      refine wr_mono (take_wr b3 (by push_cast; omega) ha.1 (by omega)) ?_
      rintro _ st4 ⟨v, rfl, v0, v1, b4⟩
      exact ⟨v, rfl, ⟨v0, by omega⟩, b4.mono (by push_cast; omega)⟩
    rintro _ st4 ⟨m, rfl, hm, b4⟩
    refine wp_bind _ (comp_wr (many := k + 1) b4 (by omega) (by omega) t2 hc.1 hc.2 (by omega) (by omega)) ?_
    rintro _ st5 ⟨ls, rfl, q1, q2, b5⟩
    exact wp_eq (b := [.int m, .lst (nums ps), .lst (nums ls)]) (by simp) ⟨m, ls, rfl, hm, q1, q2, b5.mono (by push_cast; omega)⟩
  · rintro _ st6 ⟨m, ls, rfl, hm, q1, q2, b6⟩
    exact ⟨m, ps, ls, rfl, ⟨hm, by omega, by omega, by omega, p2, q2⟩, b6⟩
theorem wp_iff {α : Type} {c : X Bool} {a b : X α} {st : Store} {Q : α → Store → Prop} (P : Bool → Store → Prop) (h : Wp c st P) (k : ∀ t st', P t st' → Wp (if t then a else b) st' Q) : Wp (X.iff c a b) st Q := by
  obtain ⟨t, st', e, p⟩ := h
  obtain ⟨r, st2, e2, q⟩ := k t st' p
  exact ⟨r, st2, iff_ok e (by cases t <;> exact e2), q⟩
theorem sum_eq {xs : List Int} : biD .sum (.lst (nums xs)) = some (.int xs.sum) := by rw [bi_sum, intsD_nums]; rfl
def tgtB (box0 t5 : D) : D → D × D × D × D → X (D × D × D × D) := (fun k0 (people0, lessons0, room0, groups0) => X.bind (X.bind (X.mkP (X.bind (L_take box0 (D.int 4)) fun t10 => X.bind (X.bind (X.bin .Add t5 (D.int 1)) fun t11 => X.bind (L_take box0 (D.int 3)) fun t12 => X.bin .Add t11 t12) fun t13 => X.bind (X.bind (L_take box0 (D.int 30)) fun t14 => X.bin .Add t5 t14) fun t15 => X.fits [t10, t5, t13, t15, (D.int 0)])) fun t16 => X.bind (L_take box0 (D.int 5)) fun t17 => X.sub t16 t17) fun more0 => X.bind (X.lstX people0) fun _ => X.bind (X.bi2 .min (D.int 100) more0) fun t18 => X.bind (X.upX people0 (mtC .append [t18])) fun _ => X.bind (X.bind (X.bi .sum people0) fun t19 => X.bind (X.bind (X.bin .Add groups0 (D.int 1)) fun t20 => X.bin .Mult t20 t5) fun t21 => X.bin .Sub t19 t21) fun closed0 => X.bind (X.iff (X.and (X.cmp .Gt closed0 room0) (X.bind (L_take box0 (D.int 4)) fun t22 => X.cmp .Gt t22 (D.int 0))) (X.bind (X.bin .Add groups0 (D.int 1)) fun t23 => X.pure (closed0, t23)) (X.pure (room0, groups0))) (fun (room2, groups2) => X.bind (X.bind (X.bind (X.bi .sum lessons0) fun t24 => X.bin .Sub room2 t24) fun t25 => X.bi2 .min (D.int 100) t25) fun left0 => X.bind (X.lstX lessons0) fun _ => X.bind (X.bind (X.mkP (X.bind (X.bind (X.bin .Add left0 (D.int 1)) fun t26 => L_take box0 t26) fun t27 => X.fits [left0, left0, (D.int 0), t27])) fun t28 => X.bind (L_take box0 (D.int 4)) fun t29 => X.sub t28 t29) fun t30 => X.bind (X.upX lessons0 (mtC .append [t30])) fun _ => X.pure (people0, lessons0, room2, groups2)))
structure TI (l p q : Nat) (n : Int) (st0 : Store) (i : Nat) (s : D × D × D × D) (st : Store) : Prop where
  ex : ∃ ps ls room groups, s = (.ref p, .ref q, .int room, .int groups) ∧ st[p]? = some (.lst (nums ps)) ∧ st[q]? = some (.lst (nums ls)) ∧ ps.length = i ∧ ls.length = i ∧ (∀ x ∈ ps, InR x) ∧ (∀ x ∈ ls, InR x) ∧ ls.sum ≤ room ∧ 0 ≤ groups ∧ groups ≤ i
  bx : Bx l (n + 8 * i) st0 st
theorem more_wr {st0 st : Store} {l : Nat} {n m : Int} (hb : Bx l n st0 st) (hn : n ≤ 900000) (hm : InR m) : Wp (X.bind (X.mkP (X.bind (L_take (.ref l) (D.int 4)) fun t10 => X.bind (X.bind (X.bin .Add (.int m) (D.int 1)) fun t11 => X.bind (L_take (.ref l) (D.int 3)) fun t12 => X.bin .Add t11 t12) fun t13 => X.bind (X.bind (L_take (.ref l) (D.int 30)) fun t14 => X.bin .Add (.int m) t14) fun t15 => X.fits [t10, .int m, t13, t15, (D.int 0)])) fun t16 => X.bind (L_take (.ref l) (D.int 5)) fun t17 => X.sub t16 t17) st fun d st' => ∃ v, d = .int v ∧ 0 ≤ v ∧ Bx l (n + 4) st0 st' := by
  obtain ⟨m0, m1⟩ := hm
  show WR _ _
  simp
  refine wr_bnd (take_wr hb (by omega) (by decide) (by decide)) ?_
  rintro _ st1 ⟨a, rfl, a0, a1, b1⟩
  simp
  refine wr_bnd (take_wr b1 (by omega) (by decide) (by decide)) ?_
  rintro _ st2 ⟨b, rfl, b0, b1', b2⟩
  simp
  refine wr_bnd (take_wr b2 (by omega) (by decide) (by decide)) ?_
  rintro _ st3 ⟨c, rfl, c0, c1, b3⟩
  simp
  refine wr_bnd (take_wr b3 (by omega) (by decide) (by decide)) ?_
  rintro _ st4 ⟨w, rfl, w0, w1, b4⟩
  have key : ∃ v, subD (.lst [.int a, .int m, .int (m + 1 + b), .int (m + c), .int 0]) (.int w) = some (.int v) ∧ 0 ≤ v := by
    rcases five w0 w1 with rfl | rfl | rfl | rfl | rfl
    · exact ⟨a, rfl, by omega⟩
    · exact ⟨m, rfl, by omega⟩
    · exact ⟨m + 1 + b, rfl, by omega⟩
    · exact ⟨m + c, rfl, by omega⟩
    · exact ⟨0, rfl, by omega⟩
  obtain ⟨v, e, hv⟩ := key
  simp [e]
  exact ⟨hv, b4.mono (by omega)⟩
theorem less_wr {st0 st : Store} {l : Nat} {n left : Int} (hb : Bx l n st0 st) (hn : n ≤ 900000) (h0 : 0 ≤ left) (h1 : left ≤ 100) : Wp (X.bind (X.mkP (X.bind (X.bind (X.bin .Add (.int left) (D.int 1)) fun t26 => L_take (.ref l) t26) fun t27 => X.fits [.int left, .int left, (D.int 0), t27])) fun t28 => X.bind (L_take (.ref l) (D.int 4)) fun t29 => X.sub t28 t29) st fun d st' => ∃ v, d = .int v ∧ 0 ≤ v ∧ v ≤ left ∧ Bx l (n + 2) st0 st' := by
  show WR _ _
  simp
  refine wr_bnd (take_wr hb (by omega) (by omega) (by omega)) ?_
  rintro _ st1 ⟨a, rfl, a0, a1, b1⟩
  simp
  refine wr_bnd (take_wr b1 (by omega) (by decide) (by decide)) ?_
  rintro _ st2 ⟨w, rfl, w0, w1, b2⟩
  have key : ∃ v, subD (.lst [.int left, .int left, .int 0, .int a]) (.int w) = some (.int v) ∧ 0 ≤ v ∧ v ≤ left := by
    have : w = 0 ∨ w = 1 ∨ w = 2 ∨ w = 3 := by omega
    rcases this with rfl | rfl | rfl | rfl
    · exact ⟨left, rfl, by omega⟩
    · exact ⟨left, rfl, by omega⟩
    · exact ⟨0, rfl, by omega⟩
    · exact ⟨a, rfl, by omega⟩
  obtain ⟨v, e, hv⟩ := key
  simp [e]
  exact ⟨hv.1, hv.2, b2.mono (by omega)⟩
theorem tgt_step {st0 st : Store} {l p q i : Nat} {n m : Int} {s : D × D × D × D} (hm : InR m) (hn : n ≤ 800000) (hi : i < 8) (hp : st0.length ≤ p) (hq : st0.length ≤ q) (hpl : p ≠ l) (hql : q ≠ l) (hpq : p ≠ q) (hl : l < st0.length) (h : TI l p q n st0 i s st) :
    Wp (tgtB (.ref l) (.int m) (.int i) s) st (TI l p q n st0 (i + 1)) := by
  obtain ⟨⟨ps, ls, room, groups, rfl, e1, e2, l1, l2, r1, r2, hs, g0, g1⟩, b⟩ := h
  have m0 := hm.1
  have m1 := hm.2
  unfold tgtB
  refine wp_bind _ (more_wr b.base (by omega) hm) ?_
  rintro _ st1 ⟨v, rfl, v0, b1⟩
  have e1 := b1.2.get e1 hpl
  have e2 := b1.2.get e2 hql
  have b1 := b.back b1
  refine wp_ok (a := ()) (st1 := st1) (by simp [X.lstX, e1]) ?_
  refine wp_ok (a := .int (if v < 100 then v else 100)) (st1 := st1) (by simp) ?_
  have hl1 : (nums ps).length < line := by simp [line]; omega
  refine wp_ok (X.appX_ok e1 hl1) ?_
  rw [nums_snoc]
  have hv : InR (if v < 100 then v else 100) := by unfold InR; split <;> omega
  generalize (if v < 100 then v else 100) = w at hv
  have b2 := b1.set (c := .lst (nums (ps ++ [w]))) hpl hp
  have f1 := set_get (c' := .lst (nums (ps ++ [w]))) e1
  have f2 : (st1.set p (.lst (nums (ps ++ [w]))))[q]? = some (.lst (nums ls)) := by rw [List.getElem?_set_ne hpq]; exact e2
  generalize st1.set p (.lst (nums (ps ++ [w]))) = st2 at *
  refine wp_ok (a := .int ((ps ++ [w]).sum - (groups + 1) * m)) (st1 := st2) (by simp only [X.ap_bind, X.ap_bi, vref f1, toD_lst, sum_eq, XR.op_some, XR.bnd_ok, X.ap_bin, view_int, op_add, mul_small (show 0 ≤ groups + 1 by omega) (show groups + 1 ≤ 1000 by omega), op_sub]) ?_
  generalize (ps ++ [w]).sum - (groups + 1) * m = closed
  refine wp_bind (fun s st3 => ∃ room2 groups2, s = (.int room2, .int groups2) ∧ room ≤ room2 ∧ 0 ≤ groups2 ∧ groups2 ≤ i + 1 ∧ Bx l (n + 8 * i + 5) st2 st3) ?_ ?_
  · refine wp_iff (fun t st3 => (t = true → room < closed) ∧ Bx l (n + 8 * i + 5) st2 st3) ?_ ?_
    · refine wp_iff (fun t st3 => st3 = st2 ∧ (t = true → room < closed)) (wp_eq (b := decide (room < closed)) (st1 := st2) (by simp) ⟨rfl, by simp⟩) ?_
      rintro t _ ⟨rfl, ht⟩
      cases t with
      | false => exact wp_pure ⟨by simp, b2.base.mono (by omega)⟩
      | true =>
        have ht := ht rfl
        show WR _ _
        simp
        refine wr_bnd (take_wr b2.base (by omega) (by decide) (by decide)) ?_
        rintro _ st3 ⟨w, rfl, w0, w1, b3⟩
        simp
        exact ⟨fun _ => ht, b3.mono (by omega)⟩
    · rintro t st3 ⟨ht, b3⟩
      cases t with
      | false => exact wp_pure ⟨room, groups, rfl, Int.le_refl _, g0, by omega, b3⟩
      | true =>
        have ht := ht rfl
        rw [if_pos rfl]
        refine wp_ok (a := D.int (groups + 1)) (st1 := st3) (by simp) (wp_pure ?_)
        exact ⟨closed, groups + 1, rfl, by omega, by omega, by omega, b3⟩
  rintro _ st3 ⟨room2, groups2, rfl, hr, h0, h1, b3⟩
  have f1 := b3.2.get f1 hpl
  have f2 := b3.2.get f2 hql
  have b3 := b2.back b3
  have hs2 : ls.sum ≤ room2 := by omega
  refine wp_ok (a := .int (if room2 - ls.sum < 100 then room2 - ls.sum else 100)) (st1 := st3) (by simp only [X.ap_bind, X.ap_bi, vref f2, toD_lst, sum_eq, XR.op_some, XR.bnd_ok, X.ap_bin, view_int, op_sub, X.ap_bi2, min_int]) ?_
  have hleft : ∃ left, (if room2 - ls.sum < 100 then room2 - ls.sum else 100) = left ∧ 0 ≤ left ∧ left ≤ 100 ∧ left ≤ room2 - ls.sum := ⟨_, rfl, by split <;> omega, by split <;> omega, by split <;> omega⟩
  obtain ⟨left, el, q0, q1, q2⟩ := hleft
  rw [el]
  refine wp_ok (a := ()) (st1 := st3) (by simp [X.lstX, f2]) ?_
  refine wp_bind _ (less_wr b3.base (by omega) q0 q1) ?_
  rintro _ st4 ⟨y, rfl, y0, y1, b4⟩
  have f1 := b4.2.get f1 hpl
  have f2 := b4.2.get f2 hql
  have b4 := b3.back b4
  have hl2 : (nums ls).length < line := by simp [line]; omega
  refine wp_ok (X.appX_ok f2 hl2) ?_
  rw [nums_snoc]
  have b5 := b4.set (c := .lst (nums (ls ++ [y]))) hql hq
  refine wp_pure ⟨⟨ps ++ [w], ls ++ [y], room2, groups2, rfl, ?_, set_get f2, by simp [l1], by simp [l2], snoc_all r1 hv, snoc_all r2 ⟨y0, by omega⟩, ?_, h0, by push_cast; omega⟩, b5.mono (by push_cast; omega)⟩
  · rw [List.getElem?_set_ne (Ne.symm hpq)]; exact f1
  · rw [List.sum_append]; simp; omega
theorem tight_wr {st0 st : Store} {l : Nat} {n : Int} (hb : Bx l n st0 st) (hn : n ≤ 700000) : Wp (S_law_tight (.ref l)) st fun d st' => ∃ m ps ls, d = caseD m ps ls ∧ Cs m ps ls ∧ Bx l (n + 100) st0 st' := by
  have b0 := hb.base
  have hl := hb.1.lt
  suffices h : Wp (S_law_tight (.ref l)) st fun d st' => ∃ m ps ls, d = caseD m ps ls ∧ Cs m ps ls ∧ Bx l (n + 100) st st' from wp_mono h fun d st' ⟨m, ps, ls, e, c, b⟩ => ⟨m, ps, ls, e, c, hb.back b⟩
  unfold S_law_tight
  refine wp_bind (fun d st1 => ∃ m, d = .int m ∧ InR m ∧ Bx l (n + 4) st st1) ?_ ?_
  · show WR _ _
    simp
    refine wr_bnd (take_wr b0 (by omega) (by decide) (by decide)) ?_
    rintro _ st1 ⟨a, rfl, a0, a1, b1⟩
    simp
    refine wr_bnd (take_wr b1 (by omega) (by decide) (by decide)) ?_
    rintro _ st2 ⟨b, rfl, b0', b1', b2⟩
    simp
    refine wr_bnd (take_wr b2 (by omega) (by decide) (by decide)) ?_
    rintro _ st3 ⟨c, rfl, c0, c1, b3⟩
    simp
    refine wr_bnd (take_wr b3 (by omega) (by decide) (by decide)) ?_
    rintro _ st4 ⟨w, rfl, w0, w1, b4⟩
    have key : ∃ v, subD (.lst [.int a, .int b, .int c]) (.int w) = some (.int v) ∧ InR v := by
      have : w = 0 ∨ w = 1 ∨ w = 2 := by omega
      rcases this with rfl | rfl | rfl
      · exact ⟨a, rfl, ⟨a0, by omega⟩⟩
      · exact ⟨b, rfl, ⟨b0', by omega⟩⟩
      · exact ⟨c, rfl, ⟨c0, by omega⟩⟩
    obtain ⟨v, e, hv⟩ := key
    simp [e]
    exact ⟨hv, b4.mono (by omega)⟩
  rintro _ st1 ⟨m, rfl, hm, b1⟩
  have hl1 : st.length ≤ st1.length := b1.2.1
  refine wp_ok (a := .ref st1.length) (st1 := st1 ++ [.lst []]) (by simp) ?_
  refine wp_ok (a := .ref (st1.length + 1)) (st1 := st1 ++ [.lst []] ++ [.lst []]) (by simp) ?_
  have b2 := (b1.app [.lst []]).app [.lst []]
  have f1 : (st1 ++ [Cell.lst []] ++ [Cell.lst []])[st1.length]? = some (.lst (nums [])) := by simp
  have f2 : (st1 ++ [Cell.lst []] ++ [Cell.lst []])[st1.length + 1]? = some (.lst (nums [])) := by simp
  generalize st1 ++ [Cell.lst []] ++ [Cell.lst []] = st2 at *
  generalize st1.length = p at *
  refine wp_bind (fun d st3 => ∃ k : Nat, k < 8 ∧ d = .int ((k + 1 : Nat) : Int) ∧ Bx l (n + 5) st2 st3) ?_ ?_
  · show WR _ _
    simp
    refine wr_bnd (take_wr b2.base (by omega) (by decide) (by decide)) ?_
    rintro _ st3 ⟨v, rfl, v0, v1, b3⟩
    obtain ⟨k, rfl⟩ : ∃ k : Nat, v = k := ⟨v.toNat, by omega⟩
    simp
    exact ⟨k, by omega, by omega, b3.mono (by omega)⟩
  rintro _ st3 ⟨k, hk, rfl, b3⟩
  have f1 := b3.2.get f1 (by omega)
  have f2 := b3.2.get f2 (by omega)
  have b3 := b2.back b3
  refine wp_ok (a := rng 0 ((k + 1 : Nat) : Int)) (st1 := st3) (by rw [X.ap_range1, small_nat' (by omega)]; rfl) ?_
  have lp : Wp (X.forV (tgtB (.ref l) (.int m)) (rng 0 ((k + 1 : Nat) : Int)) (.ref p, .ref (p + 1), .int 0, .int 0)) st3 (TI l p (p + 1) (n + 5) st (rng 0 ((k + 1 : Nat) : Int)).length) := by
    refine wp_forV (fun i s st' => TI l p (p + 1) (n + 5) st i s st') ⟨⟨[], [], 0, 0, rfl, f1, f2, rfl, rfl, (fun x hx => by cases hx), (fun x hx => by cases hx), (by simp), (by omega), (by omega)⟩, b3.mono (by omega)⟩ ?_
    intro i x s st4 hx h4
    have hi : i < k + 1 := by have := (List.getElem?_eq_some_iff.mp hx).1; rwa [rng_len] at this
    have ex : x = .int i := by
      rw [rng_nats, List.getElem?_map, List.getElem?_range hi] at hx
      cases hx; rfl
    subst ex
    exact tgt_step hm (by omega) (by omega) hl1 (by omega) (by omega) (by omega) (by omega) hl h4
  refine wp_bind _ lp ?_
  rintro _ st4 ⟨⟨ps, ls, room, groups, rfl, e1, e2, l1, l2, r1, r2, hs, g0, g1⟩, b4⟩
  rw [rng_len] at l1 l2 b4
  have b5 := (b4.set (c := .frz (nums ps)) (r := p) (by omega) hl1)
  have e3 : (st4.set p (.frz (nums ps)))[p + 1]? = some (.lst (nums ls)) := by rw [List.getElem?_set_ne (by omega)]; exact e2
  have b6 := (b5.set (c := .frz (nums ls)) (r := p + 1) (by omega) (by omega))
  refine wp_eq (b := caseD m ps ls) (st1 := (st4.set p (.frz (nums ps))).set (p + 1) (.frz (nums ls))) ?_ ⟨m, ps, ls, rfl, ⟨hm, by omega, by omega, by omega, r1, r2⟩, b6.mono (by push_cast; omega)⟩
  refine mkP_ok (xbind_ok (X.frz_ok e1) (xbind_ok (X.frz_ok e3) ?_))
  simp
theorem setC_nums {xs : List Int} {k : Nat} {v : Int} (h : k < xs.length) : setC (.int k) (.int v) (.lst (nums xs)) = some (.lst (nums (xs.set k v)), ()) := by
  have e : ixN (nums xs).length (k : Int) = some k := ixN_of (by simpa using h)
  unfold setC
  simp only [e]
  unfold nums
  rw [List.map_set]
theorem set_all {xs : List Int} {k : Nat} {v : Int} (h : ∀ x ∈ xs, InR x) (hv : InR v) : ∀ x ∈ xs.set k v, InR x := fun x hx => by
  rcases List.mem_or_eq_of_mem_set hx with z | z
  · exact h x z
  · rw [z]; exact hv
theorem mod_wr {st : Store} {p k : Nat} {xs : List Int} {op : Operator} {g : Int → Int} {C : X Bool} {t : Bool} (hp : st[p]? = some (.lst (nums xs))) (hk : k < xs.length) (hr : ∀ x ∈ xs, InR x) (hg : ∀ v, opD op (.int v) (.int 1) = some (.int (g v))) (hc : C st = .ok t st) (hi : t = true → InR (g (fn xs k))) :
    ∃ xs', X.iff C (X.bind (X.bind (X.sub (D.ref p) (D.int k)) fun t6 => X.bin op t6 (D.int 1)) fun t7 => X.bind (X.lstX (.ref p)) fun _ => X.bind (X.upX (.ref p) (setC (.int k) t7)) fun _ => X.pure (D.ref p)) (X.pure (D.ref p)) st = .ok (.ref p) (st.set p (.lst (nums xs'))) ∧ xs'.length = xs.length ∧ ∀ x ∈ xs', InR x := by
  cases t with
  | false =>
    refine ⟨xs, iff_ok hc ?_, rfl, hr⟩
    obtain ⟨h1, h2⟩ := List.getElem?_eq_some_iff.mp hp
    simp [← h2]
  | true =>
    refine ⟨xs.set k (g (fn xs k)), iff_ok hc ?_, by simp, set_all hr (hi rfl)⟩
    rw [if_pos rfl]
    have s := sub_fn hk
    refine xbind_ok (a := .int (g (fn xs k))) (st1 := st) (by simp [vref hp, s, hg]) (xbind_ok (a := ()) (st1 := st) (by simp [X.lstX, hp]) (xbind_ok (a := ()) (st1 := st.set p (.lst (nums (xs.set k (g (fn xs k)))))) ?_ rfl))
    simp only [X.upX, hp, liveF_lst, setC_nums hk]
theorem cnd_ok {st : Store} {p k : Nat} {xs : List Int} {A : X Bool} {a : Bool} {op : CmpOp} {B : Int} {b : Bool} (hp : st[p]? = some (.lst (nums xs))) (hk : k < xs.length) (ha : A st = .ok a st) (hb : cmpD op (.int (fn xs k)) (.int B) = some b) :
    X.and A (X.bind (X.sub (.ref p) (.int k)) fun t5 => X.cmp op t5 (.int B)) st = .ok (a && b) st := by
  have s := sub_fn hk
  exact and_ok ha fun _ => by simp only [X.ap_bind, X.ap_sub, vref hp, toD_lst, s, XR.op_some, XR.bnd_ok, X.ap_cmp, view_int, hb]
theorem spoilt_wr {st0 st : Store} {l : Nat} {n m : Int} {ps ls : List Int} (hb : Bx l n st0 st) (hn : n ≤ 900000) (c : Cs m ps ls) : Wp (S_law_spoilt (.ref l) (.int m) (.lst (nums ps)) (.lst (nums ls))) st fun d st' => ∃ m ps ls, d = caseD m ps ls ∧ Cs m ps ls ∧ Bx l (n + 100) st0 st' := by
  have hl := hb.1.lt
  have b0 := hb.base
  suffices h : Wp (S_law_spoilt (.ref l) (.int m) (.lst (nums ps)) (.lst (nums ls))) st fun d st' => ∃ m ps ls, d = caseD m ps ls ∧ Cs m ps ls ∧ Bx l (n + 100) st st' from wp_mono h fun d st' ⟨m, ps, ls, e, c, b⟩ => ⟨m, ps, ls, e, c, hb.back b⟩
  obtain ⟨hm, c1, c8, cl, cp, cls⟩ := c
  unfold S_law_spoilt
  refine wp_bind (fun d st1 => ∃ (k : Nat) (w : Int), k < ps.length ∧ d = .tup [.ref st.length, .ref (st.length + 1), .int k, .int w] ∧ st1[st.length]? = some (.lst (nums ps)) ∧ st1[st.length + 1]? = some (.lst (nums ls)) ∧ Bx l (n + 2) st st1) ?_ ?_
  · refine wp_ok (a := .ref st.length) (st1 := st ++ [.lst (nums ps)]) (by simp) ?_
    refine wp_ok (a := .ref (st.length + 1)) (st1 := st ++ [.lst (nums ps)] ++ [.lst (nums ls)]) (by simp) ?_
    have b1 := (b0.app [.lst (nums ps)]).app [.lst (nums ls)]
    have f1 : (st ++ [Cell.lst (nums ps)] ++ [Cell.lst (nums ls)])[st.length]? = some (.lst (nums ps)) := by simp
    have f2 : (st ++ [Cell.lst (nums ps)] ++ [Cell.lst (nums ls)])[st.length + 1]? = some (.lst (nums ls)) := by simp
    generalize st ++ [Cell.lst (nums ps)] ++ [Cell.lst (nums ls)] = st1 at *
    show WR _ _
    simp
    refine wr_bnd (take_wr b1.base (by omega) (by omega) (by omega)) ?_
    rintro _ st2 ⟨v, rfl, v0, v1, b2⟩
    obtain ⟨k, rfl⟩ : ∃ k : Nat, v = k := ⟨v.toNat, by omega⟩
    have f1 := b2.2.get f1 (by omega)
    have f2 := b2.2.get f2 (by omega)
    have b2 := b1.back b2
    simp
    refine wr_bnd (take_wr b2.base (by omega) (by decide) (by decide)) ?_
    rintro _ st3 ⟨w, rfl, w0, w1, b3⟩
    exact ⟨.tup [.ref st.length, .ref (st.length + 1), .int k, .int w], st3, by simp, k, by omega, ⟨w, rfl⟩, b3.2.get f1 (by omega), b3.2.get f2 (by omega), (b2.back b3).mono (by omega)⟩
  rintro _ st1 ⟨k, w, hk, rfl, f1, f2, b1⟩
  generalize hp : st.length = p at *
  refine wp_ok (a := (.ref p, .ref (p + 1), .int k, .int w)) (st1 := st1) rfl ?_
  have at_ : ∀ {xs : List Int}, (∀ x ∈ xs, InR x) → k < xs.length → InR (fn xs k) := fun {xs} h hx => h _ (by unfold fn; rw [List.getD_eq_getElem?_getD, List.getElem?_eq_getElem hx]; exact List.getElem_mem _)
  obtain ⟨ls', e1, l1, r1⟩ := mod_wr (k := k) (op := .Add) (g := (· + 1)) f2 (by omega) cls (fun v => rfl) (cnd_ok (op := .Lt) (B := 100) (b := decide (fn ls k < 100)) f2 (by omega) (show X.cmp .Lt (.int w) (D.int 2) st1 = .ok (decide (w < 2)) st1 by simp) rfl) (fun z => by
    simp only [Bool.and_eq_true, decide_eq_true_eq] at z
    have := at_ cls (by omega)
    exact ⟨by have := this.1; show 0 ≤ fn ls k + 1; omega, by show fn ls k + 1 ≤ 100; omega⟩)
  refine wp_ok e1 ?_
  have b2 := b1.set (r := p + 1) (c := .lst (nums ls')) (by omega) (by omega)
  have g2 := set_get (c' := .lst (nums ls')) f2
  have g1 : (st1.set (p + 1) (.lst (nums ls')))[p]? = some (.lst (nums ps)) := by rw [List.getElem?_set_ne (by omega)]; exact f1
  generalize st1.set (p + 1) (.lst (nums ls')) = st2 at *
  obtain ⟨ps', e2, l2, r2⟩ := mod_wr (k := k) (op := .Sub) (g := (· - 1)) g1 hk cp (fun v => rfl) (cnd_ok (op := .Gt) (B := 0) (b := decide (0 < fn ps k)) g1 hk (show X.cmp .Eq (.int w) (D.int 2) st2 = .ok (decide (w = 2)) st2 by simp) rfl) (fun z => by
    simp only [Bool.and_eq_true, decide_eq_true_eq] at z
    have := at_ cp hk
    exact ⟨by show 0 ≤ fn ps k - 1; omega, by have := this.2; show fn ps k - 1 ≤ 100; omega⟩)
  refine wp_ok e2 ?_
  have b3 := b2.set (r := p) (c := .lst (nums ps')) (by omega) (by omega)
  have h1 := set_get (c' := .lst (nums ps')) g1
  have h2 : (st2.set p (.lst (nums ps')))[p + 1]? = some (.lst (nums ls')) := by rw [List.getElem?_set_ne (by omega)]; exact g2
  generalize st2.set p (.lst (nums ps')) = st3 at *
  obtain ⟨ps2, e3, l3, r3⟩ := mod_wr (k := k) (op := .Add) (g := (· + 1)) h1 (by omega) r2 (fun v => rfl) (cnd_ok (op := .Lt) (B := 100) (b := decide (fn ps' k < 100)) h1 (by omega) (show X.cmp .Eq (.int w) (D.int 3) st3 = .ok (decide (w = 3)) st3 by simp) rfl) (fun z => by
    simp only [Bool.and_eq_true, decide_eq_true_eq] at z
    have := at_ r2 (by omega)
    exact ⟨by have := this.1; show 0 ≤ fn ps' k + 1; omega, by show fn ps' k + 1 ≤ 100; omega⟩)
  refine wp_ok e3 ?_
  have b4 := b3.set (r := p) (c := .lst (nums ps2)) (by omega) (by omega)
  have i1 := set_get (c' := .lst (nums ps2)) h1
  have i2 : (st3.set p (.lst (nums ps2)))[p + 1]? = some (.lst (nums ls')) := by rw [List.getElem?_set_ne (by omega)]; exact h2
  generalize st3.set p (.lst (nums ps2)) = st4 at *
  have b5 := b4.set (r := p) (c := .frz (nums ps2)) (by omega) (by omega)
  have i3 : (st4.set p (.frz (nums ps2)))[p + 1]? = some (.lst (nums ls')) := by rw [List.getElem?_set_ne (by omega)]; exact i2
  have b6 := b5.set (r := p + 1) (c := .frz (nums ls')) (by omega) (by omega)
  have hm' : ∃ m', (if m + (if w = 4 then 1 else 0) < 100 then m + (if w = 4 then 1 else 0) else 100) = m' ∧ InR m' := ⟨_, rfl, by
    have m0 := hm.1
    have m1 := hm.2
    unfold InR
    split <;> split <;> omega⟩
  obtain ⟨m', em, hm'⟩ := hm'
  refine wp_eq (b := caseD m' ps2 ls') (st1 := (st4.set p (.frz (nums ps2))).set (p + 1) (.frz (nums ls'))) ?_ ⟨m', ps2, ls', rfl, ⟨hm', by omega, by omega, by omega, r3, r1⟩, b6.mono (by omega)⟩
  refine mkP_ok (xbind_ok (a := .int m') (st1 := st4) ?_ (xbind_ok (X.frz_ok i1) (xbind_ok (X.frz_ok i3) ?_)))
  · rw [← em]
    simp
  · simp
/-! told and due -/
theorem same_ref {st : Store} {x : D} {xs : List D} {n : Nat} (hx : view st x = .lst xs) (hl : xs.length ≤ 1000) (h : ∀ a ∈ xs, Slf st st.length n a) : L_same (n + 1) x (.lst xs) st = .ok (.bl true) st := by
  refine same_lst hx rfl rfl (Nat.le_trans hl (by decide)) fun i a b h1 h2 => ?_
  rw [h1] at h2
  cases h2
  exact same_self (h a (List.mem_of_getElem? h1))
theorem grpD_mem {m : Int} {p : Nat → Int} : ∀ {fs : List Nat} {a : Int} {x : D}, x ∈ grpD m p a fs → ∃ u v : Int, x = .tup [.int u, .int v]
  | k :: ks, a, x, h => by
    rcases List.mem_cons.mp h with rfl | h
    · exact ⟨_, _, rfl⟩
    · exact grpD_mem h
def dueD (m : Int) (ps ls : List Int) : D := .lst [.lst (nums (nats (rowL m ps ls))), .bl (ascB (nats (rowL m ps ls))), if ascB (nats (rowL m ps ls)) = true then .lst (grpD m (fn (sums 0 ps)) 0 (rowL m ps ls)) else .non]
theorem told_eq {st : Store} {r : Nat} {m : Int} {ps ls : List Int} (h : Rk st r m ps ls) (hl : ls.length = ps.length) (hn : ps.length ≤ 100) :
    ∃ q1 d ys, X.mkP (X.bind (S_row (.ref r)) fun t1 => X.bind (S_stays (.ref r)) fun t2 => X.bind (S_parts (.ref r)) fun t3 => X.fits [t1, t2, t3]) st = .ok (.lst [.ref q1, .bl (ascB (nats (rowL m ps ls))), d]) (st ++ ys) ∧ st.length ≤ q1 ∧ (st ++ ys)[q1]? = some (.lst (nums (nats (rowL m ps ls)))) ∧
      (ascB (nats (rowL m ps ls)) = true → ∃ q2, d = .ref q2 ∧ q1 < q2 ∧ (st ++ ys)[q2]? = some (.lst (grpD m (fn (sums 0 ps)) 0 (rowL m ps ls)))) ∧ (ascB (nats (rowL m ps ls)) = false → d = .non) := by
  have h1 : Rk (st ++ rowS m ps ls) r m ps ls := h.app
  have h2 : Rk (st ++ rowS m ps ls ++ rowS m ps ls) r m ps ls := h1.app
  obtain ⟨d, ys, e, p1, p2⟩ := parts_eq h2 hl hn
  refine ⟨st.length + 2, d, rowS m ps ls ++ (rowS m ps ls ++ ys), ?_, by omega, ?_, fun z => ?_, p2⟩
  · refine mkP_ok (xbind_ok (prow_eq h hl hn) (xbind_ok (stays_eq h1 hl hn) (xbind_ok e ?_)))
    simp
  · rw [← List.append_assoc, List.getElem?_append_left (by simp [rowS])]
    exact row_at
  · obtain ⟨q, e1, e2, e3⟩ := p1 z
    refine ⟨q, e1, ?_, ?_⟩
    · simp [rowS] at e2; omega
    · simp only [List.append_assoc] at e3; exact e3
theorem told_same {st : Store} {q1 : Nat} {d : D} {m : Int} {ps ls : List Int} (hn : ps.length ≤ 100) (h1 : st[q1]? = some (.lst (nums (nats (rowL m ps ls))))) (h2 : ascB (nats (rowL m ps ls)) = true → ∃ q2, d = .ref q2 ∧ q1 < q2 ∧ st[q2]? = some (.lst (grpD m (fn (sums 0 ps)) 0 (rowL m ps ls)))) (h3 : ascB (nats (rowL m ps ls)) = false → d = .non) :
    L_same 8 (.lst [.ref q1, .bl (ascB (nats (rowL m ps ls))), d]) (dueD m ps ls) st = .ok (.bl true) st := by
  have hr := rowL_len (m := m) (ps := ps) (ls := ls)
  unfold dueD
  refine same_lst rfl rfl rfl (by simp) fun i a b e1 e2 => ?_
  match i, e1, e2 with
  | 0, e1, e2 =>
    cases e1; cases e2
    exact same_ref (n := 6) (vref h1) (by simp; omega) fun a ha => by
      obtain ⟨_, _, rfl⟩ := nums_mem ha
      trivial
  | 1, e1, e2 => cases e1; cases e2; exact same_bl rfl rfl
  | 2, e1, e2 =>
    cases e1; cases e2
    cases e : ascB (nats (rowL m ps ls)) with
    | false => rw [h3 e]; exact same_non rfl rfl
    | true =>
      obtain ⟨q2, rfl, _, hq⟩ := h2 e
      rw [if_pos rfl]
      exact same_ref (n := 6) (vref hq) (by rw [grpD_len]; omega) fun a ha => by
        obtain ⟨u, v, rfl⟩ := grpD_mem ha
        exact ⟨(by simp), fun x hx => by
          simp only [List.mem_cons, List.not_mem_nil, or_false] at hx
          rcases hx with rfl | rfl <;> trivial⟩
  | k + 3, e1, e2 => cases e1
def rgtB (box0 made0 due0 : D) : D → Unit → X (O Unit Unit) := (fun turn0 _ => X.bind (X.bl (X.bind (L_take box0 (D.int 2)) fun t0 => X.cmp .Eq t0 (D.int 0))) fun named0 => X.bind (X.iff (X.tru named0) (X.mkP (X.bind (S_row made0) fun t1 => X.bind (S_stays made0) fun t2 => X.bind (S_parts made0) fun t3 => X.fits [t1, t2, t3])) (X.mkP (X.bind (S_row made0) fun t4 => X.bind (S_stays made0) fun t5 => X.bind (S_parts made0) fun t6 => X.fits [t4, t5, t6]))) fun told0 => X.iff (X.not (X.bind (L_same 8 told0 due0) fun t7 => X.tru t7)) (X.pure (.rt (D.bl false))) (X.bind (X.sub told0 (D.int 0)) fun t8 => X.bind (X.lstX t8) fun _ => X.bind (X.upX t8 (mtC .append [(D.int 7)])) fun _ => X.bind (X.sub told0 (D.int 0)) fun t9 => X.bind (X.lstX t9) fun _ => X.bind (X.upX t9 (mtC .reverse [])) fun _ => X.iff (X.bind (X.sub told0 (D.int 2)) fun t10 => X.cmp .IsNot t10 D.non) (X.bind (X.sub told0 (D.int 2)) fun t11 => X.bind (X.lstX t11) fun _ => X.bind (X.tup [(D.int 1), (D.int 1)]) fun t12 => X.bind (X.upX t11 (mtC .append [t12])) fun _ => X.pure (.nx ())) (X.pure (.nx ()))))
theorem rgt_turn {st : Store} {l r : Nat} {n m : Int} {ps ls : List Int} {x : D} (hb : Bx l n st st) (hn : n ≤ 900000) (c : Cs m ps ls) (h : Rk st r m ps ls) (hrl : r ≠ l) : Wp (rgtB (.ref l) (.ref r) (dueD m ps ls) x ()) st fun o st' => o = .nx () ∧ Bx l (n + 1) st st' := by
  have hl := hb.1.lt
  unfold rgtB
  refine wp_bind (fun d st1 => ∃ b, d = .bl b ∧ Bx l (n + 1) st st1) ?_ ?_
  · show WR _ _
    simp
    refine wr_bnd (take_wr hb (by omega) (by decide) (by decide)) ?_
    rintro _ st1 ⟨v, rfl, v0, v1, b1⟩
    simp
    exact ⟨by omega, b1⟩
  rintro _ st1 ⟨b, rfl, b1⟩
  have h1 : Rk st1 r m ps ls := b1.2.get h hrl
  have hle : st.length ≤ st1.length := b1.2.1
  obtain ⟨q1, d, ys, e, hq, f1, f2, f3⟩ := told_eq h1 c.len (by have := c.n8; omega)
  have same := told_same (m := m) (ps := ps) (ls := ls) (by have := c.n8; omega) f1 f2 f3
  have b2 := b1.app ys
  generalize st1 ++ ys = st2 at *
  refine wp_ok (a := .lst [.ref q1, .bl (ascB (nats (rowL m ps ls))), d]) (st1 := st2) ?_ ?_
  · exact iff_ok (t := b) (st1 := st1) rfl (by cases b <;> exact e)
  refine wp_f (st1 := st2) (not_ok' same) ?_
  have s0 : ∀ st, X.sub (.lst [.ref q1, .bl (ascB (nats (rowL m ps ls))), d]) (D.int 0) st = .ok (.ref q1) st := fun _ => rfl
  have s2 : ∀ st, X.sub (.lst [.ref q1, .bl (ascB (nats (rowL m ps ls))), d]) (D.int 2) st = .ok d st := fun _ => rfl
  have hr := rowL_len (m := m) (ps := ps) (ls := ls)
  have n8 := c.n8
  refine wp_ok (s0 _) (wp_ok (a := ()) (st1 := st2) (by simp [X.lstX, f1]) (wp_ok (X.appX_ok f1 (by simp [line]; omega)) ?_))
  have g1 := set_get (c' := .lst (nums (nats (rowL m ps ls)) ++ [.int 7])) f1
  have b3 := b2.set (r := q1) (c := .lst (nums (nats (rowL m ps ls)) ++ [.int 7])) (by omega) (by omega)
  have g2 : ascB (nats (rowL m ps ls)) = true → ∃ q2, d = .ref q2 ∧ q1 < q2 ∧ (st2.set q1 (.lst (nums (nats (rowL m ps ls)) ++ [.int 7])))[q2]? = some (.lst (grpD m (fn (sums 0 ps)) 0 (rowL m ps ls))) := fun z => by
    obtain ⟨q2, a1, a2, a3⟩ := f2 z
    exact ⟨q2, a1, a2, by rw [List.getElem?_set_ne (by omega)]; exact a3⟩
  generalize st2.set q1 (.lst (nums (nats (rowL m ps ls)) ++ [.int 7])) = st3 at *
  refine wp_ok (s0 _) (wp_ok (a := ()) (st1 := st3) (by simp [X.lstX, g1]) (wp_ok (a := ()) (st1 := st3.set q1 (Cell.lst (nums (nats (rowL m ps ls)) ++ [D.int 7]).reverse)) (by simp only [X.upX, g1, liveF_lst, mtC]) ?_))
  have b4 := b3.set (r := q1) (c := Cell.lst (nums (nats (rowL m ps ls)) ++ [D.int 7]).reverse) (by omega) (by omega)
  have k2 : ascB (nats (rowL m ps ls)) = true → ∃ q2, d = .ref q2 ∧ q1 < q2 ∧ (st3.set q1 (Cell.lst (nums (nats (rowL m ps ls)) ++ [D.int 7]).reverse))[q2]? = some (.lst (grpD m (fn (sums 0 ps)) 0 (rowL m ps ls))) := fun z => by
    obtain ⟨q2, a1, a2, a3⟩ := g2 z
    exact ⟨q2, a1, a2, by rw [List.getElem?_set_ne (by omega)]; exact a3⟩
  generalize st3.set q1 (Cell.lst (nums (nats (rowL m ps ls)) ++ [D.int 7]).reverse) = st4 at *
  cases hz : ascB (nats (rowL m ps ls)) with
  | false =>
    have hd := f3 hz
    subst hd
    refine wp_f (st1 := st4) (by rw [hz] at s2; simp only [X.ap_bind, s2, XR.bnd_ok, X.ap_cmp, view_non, isn_non, XR.op_some]) (wp_pure ⟨rfl, b4⟩)
  | true =>
    obtain ⟨q2, rfl, hlt, hq2⟩ := k2 hz
    rw [hz] at s2
    refine wp_t (st1 := st4) (by simp only [X.ap_bind, s2, XR.bnd_ok, X.ap_cmp, vref hq2, toD_lst, view_non, isn_lst, XR.op_some]) ?_
    refine wp_ok (s2 _) (wp_ok (a := ()) (st1 := st4) (by simp [X.lstX, hq2]) (wp_ok (a := .tup [.int 1, .int 1]) (st1 := st4) (by simp) (wp_ok (X.appX_ok hq2 (by rw [grpD_len]; simp [line]; omega)) (wp_pure ⟨rfl, b4.set (by omega) (by omega)⟩))))
section
variable {σ τ σ' : Type} {st : Store} {body : D → σ → X (O σ σ)} {s0 : σ} {xs : List D}
/-- a loop that is never left -/
theorem wp_qfN {r : σ → X D} {Q : D → Store → Prop} (Inv : Nat → σ → Store → Prop) (h0 : Inv 0 s0 st) (hs : ∀ i x s st, xs[i]? = some x → Inv i s st → Wp (body x s) st fun o st' => ∃ s', o = .nx s' ∧ Inv (i + 1) s' st') (k : ∀ s st', Inv xs.length s st' → Wp (r s) st' Q) : Wp (X.qF (X.forO (τ := τ) body xs s0) r) st Q := by
  have key : ∀ (n i : Nat) (s : σ) (st : Store), xs.length - i = n → i ≤ xs.length → Inv i s st → Wp (X.qF (X.forO (τ := τ) body (xs.drop i) s) r) st Q := by
    intro n
    induction n with
    | zero =>
      intro i s st e hi h
      have : i = xs.length := by omega
      subst this
      obtain ⟨d, st', e1, q⟩ := k s st h
      exact ⟨d, st', by rw [List.drop_length, qf_nil]; exact e1, q⟩
    | succ n ih =>
      intro i s st e hi h
      have hlt : i < xs.length := by omega
      obtain ⟨_, st1, e1, s', rfl, h1⟩ := hs i xs[i] s st (by simp [hlt]) h
      obtain ⟨d, st', e2, q⟩ := ih (i + 1) s' st1 (by omega) (by omega) h1
      exact ⟨d, st', by rw [List.drop_eq_getElem_cons hlt, qf_nx e1]; exact e2, q⟩
  exact key xs.length 0 s0 st (by simp) (Nat.zero_le _) h0
theorem wp_qoN {r : σ → X (O σ' τ)} {Q : O σ' τ → Store → Prop} (Inv : Nat → σ → Store → Prop) (h0 : Inv 0 s0 st) (hs : ∀ i x s st, xs[i]? = some x → Inv i s st → Wp (body x s) st fun o st' => ∃ s', o = .nx s' ∧ Inv (i + 1) s' st') (k : ∀ s st', Inv xs.length s st' → Wp (r s) st' Q) : Wp (X.qO (X.forO (τ := τ) body xs s0) r) st Q := by
  have key : ∀ (n i : Nat) (s : σ) (st : Store), xs.length - i = n → i ≤ xs.length → Inv i s st → Wp (X.qO (X.forO (τ := τ) body (xs.drop i) s) r) st Q := by
    intro n
    induction n with
    | zero =>
      intro i s st e hi h
      have : i = xs.length := by omega
      subst this
      obtain ⟨d, st', e1, q⟩ := k s st h
      exact ⟨d, st', by rw [List.drop_length, qo_nil]; exact e1, q⟩
    | succ n ih =>
      intro i s st e hi h
      have hlt : i < xs.length := by omega
      obtain ⟨_, st1, e1, s', rfl, h1⟩ := hs i xs[i] s st (by simp [hlt]) h
      obtain ⟨d, st', e2, q⟩ := ih (i + 1) s' st1 (by omega) (by omega) h1
      exact ⟨d, st', by rw [List.drop_eq_getElem_cons hlt, qo_nx e1]; exact e2, q⟩
  exact key xs.length 0 s0 st (by simp) (Nat.zero_le _) h0
end
theorem right_wr {st : Store} {l r : Nat} {n m : Int} {ps ls : List Int} (hb : Bx l n st st) (hn : n ≤ 800000) (c : Cs m ps ls) (h : Rk st r m ps ls) (hrl : r ≠ l) : Wp (S_law_right (.ref l) (.ref r) (dueD m ps ls)) st fun d st' => d = .bl true ∧ Bx l (n + 2) st st' := by
  unfold S_law_right
  refine wp_ok (a := rng 0 ((2 : Nat) : Int)) (st1 := st) (by rw [X.ap_range1]; rfl) ?_
  refine wp_qfN (fun i _ st' => Bx l (n + i) st st') (hb.mono (by omega)) ?_ ?_
  · intro i x s st1 hx b1
    have hi : i < 2 := by have := (List.getElem?_eq_some_iff.mp hx).1; rwa [rng_len] at this
    obtain ⟨_, st2, e, rfl, b2⟩ := rgt_turn (x := x) b1.base (by omega) c (b1.2.get h hrl) hrl
    exact ⟨_, st2, e, (), rfl, (b1.back b2).mono (by push_cast; omega)⟩
  · intro s st' b
    have b : Bx l (n + ((rng 0 ((2 : Nat) : Int)).length : Nat)) st st' := b
    rw [rng_len] at b
    exact wp_pure ⟨rfl, b.mono (by omega)⟩
/-! the law -/
def caseB : D → D → X (O D D) := (fun x0 cases0 => X.bind (X.items3 x0) fun (most0, people0, lessons0) => X.bind (S_law_ranks_row most0 people0 lessons0) fun found0 => X.bind (S_law_rising found0) fun rising0 => X.iff (X.bind (S_law_has_groups most0 people0 lessons0) fun t13 => X.cmp .NotEq rising0 t13) (X.pure (.rt (D.bl false))) (X.bind (X.mkP (X.bind (X.iff (X.tru rising0) (S_law_groups most0 people0 found0) (X.pure D.non)) fun t14 => X.fits [found0, rising0, t14])) fun due0 => X.bind (X.lstX cases0) fun _ => X.bind (X.mkP (X.bind (X.bind (X.bi .tuple people0) fun t15 => X.bind (X.bi .tuple lessons0) fun t16 => X.make "Ranks" fun self => S_Ranks___init__ self most0 t15 t16) fun t17 => X.fits [t17, due0])) fun t18 => X.bind (X.upX cases0 (mtC .append [t18])) fun _ => X.pure (.nx cases0)))
def rgtLB (box : D) : D → Unit → X (O Unit Unit) := (fun x1 _ => X.bind (X.items2 x1) fun (made0, due1) => X.iff (X.not (X.bind (S_law_right box made0 due1) fun t20 => X.tru t20)) (X.pure (.rt (D.bl false))) (X.pure (.nx ())))
def CEnt (l q : Nat) (st : Store) (e : D) : Prop := ∃ r m ps ls, e = .lst [.ref r, dueD m ps ls] ∧ Cs m ps ls ∧ Rk st r m ps ls ∧ r ≠ l ∧ r ≠ q
theorem isNum_of {x : Int} (h : InR x) : isNum (.int x) = true := by simp [isNum, h.1, h.2]
theorem all_num {xs : List Int} (h : ∀ x ∈ xs, InR x) : (nums xs).all isNum = true := by
  rw [List.all_eq_true]
  intro x hx
  obtain ⟨i, hi, rfl⟩ := nums_mem hx
  exact isNum_of (h i hi)
theorem arg_nums {st : Store} {xs : List Int} (h : xs.length ≤ 1000) : Arg st (.tup (nums xs)) := .inl ⟨nums xs, rfl, by simpa using h, fun x hx => by
  obtain ⟨i, _, rfl⟩ := nums_mem hx
  exact (rfl : kindOk (.int i) = true)⟩
theorem lawNums_of {xs : List Int} (h1 : 1 ≤ xs.length) (h8 : xs.length ≤ 8) (h : ∀ x ∈ xs, InR x) : lawNums (.tup (nums xs)) = true := by
  simp only [lawNums]
  rw [all_num h, decide_eq_true (by simp; omega), decide_eq_true (by simp; omega)]; rfl
theorem make_eq {st : Store} {m : Int} {ps ls : List Int} (c : Cs m ps ls) : X.make "Ranks" (fun self => S_Ranks___init__ self (.int m) (.tup (nums ps)) (.tup (nums ls))) st = .ok (.ref st.length) (st ++ [.ins "Ranks" [("most", .int m), ("people", .tup (nums ps)), ("lessons", .tup (nums ls))]]) := by
  obtain ⟨hm, c1, c8, cl, cp, cls⟩ := c
  refine make_ok ?_
  have g1 := lawNums_of c1 c8 cp
  have g2 : good3 (.tup (nums ps)) (.tup (nums ls)) = true := by
    unfold good3
    rw [lawNums_of (by omega) (by omega) cls]
    simp [lenT, cl]
  rw [init_4 get_app (show Knd _ (.int m) from (rfl : kindOk (.int m) = true)) (arg_nums (by omega)) (arg_nums (by omega)) (isNum_of hm) g1 g2, set_app]
theorem pair_eq {st : Store} {m : Int} {ps ls : List Int} {d : D} (c : Cs m ps ls) : X.mkP (X.bind (X.bind (X.bi .tuple (.lst (nums ps))) fun t15 => X.bind (X.bi .tuple (.lst (nums ls))) fun t16 => X.make "Ranks" fun self => S_Ranks___init__ self (.int m) t15 t16) fun t17 => X.fits [t17, d]) st = .ok (.lst [.ref st.length, d]) (st ++ [.ins "Ranks" [("most", .int m), ("people", .tup (nums ps)), ("lessons", .tup (nums ls))]]) := by
  have mk := make_eq (st := st) c
  generalize (st ++ [Cell.ins "Ranks" [("most", D.int m), ("people", D.tup (nums ps)), ("lessons", D.tup (nums ls))]]) = st2 at *
  simp only [X.ap_mkP, X.ap_bind, X.ap_bi, view_lst, bi_tupL, XR.op_some, XR.bnd_ok, mk]
  simp
theorem case_step {stb st : Store} {l q : Nat} {n m : Int} {ps ls : List Int} {es : List D} (hb : Bx l n stb st) (hqb : stb.length ≤ q) (hql : q ≠ l) (hq : st[q]? = some (.lst es)) (hes : es.length ≤ 100) (he : ∀ e ∈ es, CEnt l q st e) (c : Cs m ps ls) :
    Wp (caseB (caseD m ps ls) (.ref q)) st fun o st' => o = .nx (.ref q) ∧ Bx l n stb st' ∧ ∃ e, st'[q]? = some (.lst (es ++ [e])) ∧ ∀ x ∈ es ++ [e], CEnt l q st' x := by
  have hl := hb.1.lt
  have hqs : q < st.length := (List.getElem?_eq_some_iff.mp hq).1
  have n8 := c.n8
  have hr := rowL_len (m := m) (ps := ps) (ls := ls)
  unfold caseB
  refine wp_ok (a := (.int m, .lst (nums ps), .lst (nums ls))) (st1 := st) rfl ?_
  refine wp_ok (lrow_eq c.len (by omega)) ?_
  have q1 : (st ++ [Cell.frz (nums (nats (rowL m ps ls)))])[q]? = some (.lst es) := by rw [List.getElem?_append_left hqs]; exact hq
  have b1 := hb.app [.frz (nums (nats (rowL m ps ls)))]
  have he1 : ∀ e ∈ es, CEnt l q (st ++ [Cell.frz (nums (nats (rowL m ps ls)))]) e := fun e h => by
    obtain ⟨r, m, ps, ls, a1, a2, a3, a4⟩ := he e h
    exact ⟨r, m, ps, ls, a1, a2, a3.app, a4⟩
  generalize st ++ [Cell.frz (nums (nats (rowL m ps ls)))] = st1 at *
  have q1l : q < st1.length := (List.getElem?_eq_some_iff.mp q1).1
  have l1 := b1.1.lt
  refine wp_ok (rising_eq (by simp; omega)) ?_
  refine wp_f (st1 := st1) ?_ ?_
  · refine xbind_ok (hg_row c.len n8 c.m.1 fun x hx => (c.ps x hx).1) ?_
    simp
  refine wp_ok (a := dueD m ps ls) (st1 := st1) ?_ ?_
  · refine mkP_ok (xbind_ok (a := if ascB (nats (rowL m ps ls)) = true then .lst (grpD m (fn (sums 0 ps)) 0 (rowL m ps ls)) else .non) (st1 := st1) (iff_ok (t := ascB (nats (rowL m ps ls))) (st1 := st1) (by simp) ?_) (by simp))
    cases ascB (nats (rowL m ps ls)) with
    | false => rfl
    | true => exact grps_eq (by omega) (by omega) rowL_lt
  refine wp_ok (a := ()) (st1 := st1) (by simp [X.lstX, q1]) ?_
  refine wp_ok (a := .lst [.ref st1.length, dueD m ps ls]) (st1 := st1 ++ [.ins "Ranks" [("most", .int m), ("people", .tup (nums ps)), ("lessons", .tup (nums ls))]]) ?_ ?_
  · exact pair_eq c
  have q2 : (st1 ++ [Cell.ins "Ranks" [("most", .int m), ("people", .tup (nums ps)), ("lessons", .tup (nums ls))]])[q]? = some (.lst es) := by rw [List.getElem?_append_left q1l]; exact q1
  have b2 := b1.app [Cell.ins "Ranks" [("most", .int m), ("people", .tup (nums ps)), ("lessons", .tup (nums ls))]]
  refine wp_ok (X.appX_ok q2 (by simp [line]; omega)) (wp_pure ⟨rfl, b2.set hql hqb, .lst [.ref st1.length, dueD m ps ls], set_get q2, fun x hx => ?_⟩)
  rcases List.mem_append.mp hx with hx | hx
  · obtain ⟨r, m', ps', ls', a1, a2, a3, a4, a5⟩ := he1 x hx
    refine ⟨r, m', ps', ls', a1, a2, ?_, a4, a5⟩
    unfold Rk
    rw [List.getElem?_set_ne (Ne.symm a5)]
    exact a3.app
  · rw [List.mem_singleton.mp hx]
    refine ⟨st1.length, m, ps, ls, rfl, c, ?_, by omega, by omega⟩
    unfold Rk
    rw [List.getElem?_set_ne (by omega)]
    simp
theorem rgtL_step {st : Store} {l q : Nat} {n : Int} {e x : D} (hb : Bx l n st st) (hn : n ≤ 800000) (hx : CEnt l q st e) : Wp (rgtLB (.ref l) e ()) st fun o st' => o = .nx () ∧ Bx l (n + 2) st st' := by
  obtain ⟨r, m, ps, ls, rfl, c, h, hl, _⟩ := hx
  unfold rgtLB
  refine wp_ok (a := (.ref r, dueD m ps ls)) (st1 := st) rfl ?_
  obtain ⟨_, st2, e2, rfl, b2⟩ := right_wr hb hn c h hl
  exact ⟨.nx (), st2, iff_ok (t := false) (st1 := st2) (not_ok' e2) rfl, rfl, b2⟩
theorem CEnt.fr {l q : Nat} {st st' : Store} {e : D} (h : CEnt l q st e) (f : Fr l st st') : CEnt l q st' e := by
  obtain ⟨r, m, ps, ls, a1, a2, a3, a4, a5⟩ := h
  exact ⟨r, m, ps, ls, a1, a2, f.get a3 a4, a4, a5⟩
theorem rgtL_loop {σ' τ : Type} {st : Store} {l q : Nat} {n : Int} {es : List D} {r : Unit → X (O σ' τ)} {Q : O σ' τ → Store → Prop} (hb : Bx l n st st) (hn : n ≤ 700000) (hl : es.length ≤ 100) (he : ∀ e ∈ es, CEnt l q st e) (k : ∀ st', Bx l (n + 2 * es.length) st st' → Wp (r ()) st' Q) : Wp (X.qO (X.forO (τ := τ) (rgtLB (.ref l)) es ()) r) st Q := by
  refine wp_qoN (fun i _ st' => Bx l (n + 2 * i) st st') (hb.mono (by omega)) ?_ (fun s st' b => k st' b)
  intro i x s st1 hx b1
  have hi : i < es.length := (List.getElem?_eq_some_iff.mp hx).1
  obtain ⟨_, st2, e2, rfl, b2⟩ := rgtL_step (x := x) b1.base (by omega) ((he x (List.mem_of_getElem? hx)).fr b1.2)
  exact ⟨_, st2, e2, (), rfl, (b1.back b2).mono (by push_cast; omega)⟩
def lawB (script0 : D) : D → Unit → X (O Unit Unit) := (fun k0 _ => X.bind (X.bind (L_cell script0 k0) fun t3 => L_box t3) fun t4 => X.bind (X.mkC (X.fits [])) fun t5 => X.bind (X.iff (X.bind (L_take t4 (D.int 3)) fun t6 => X.cmp .Gt t6 (D.int 0)) (S_law_tight t4) (S_law_plain t4)) fun first0 => X.bind (X.bind (X.mkP (X.bind (X.bind (X.sub first0 (D.int 0)) fun t7 => X.bind (X.sub first0 (D.int 1)) fun t8 => X.bind (X.sub first0 (D.int 2)) fun t9 => S_law_spoilt t4 t7 t8 t9) fun t10 => X.bind (S_law_plain t4) fun t11 => X.fits [first0, t10, t11])) fun t12 => X.seq t12) fun xs => X.qO (X.forO (fun x0 cases0 => X.bind (X.items3 x0) fun (most0, people0, lessons0) => X.bind (S_law_ranks_row most0 people0 lessons0) fun found0 => X.bind (S_law_rising found0) fun rising0 => X.iff (X.bind (S_law_has_groups most0 people0 lessons0) fun t13 => X.cmp .NotEq rising0 t13) (X.pure (.rt (D.bl false))) (X.bind (X.mkP (X.bind (X.iff (X.tru rising0) (S_law_groups most0 people0 found0) (X.pure D.non)) fun t14 => X.fits [found0, rising0, t14])) fun due0 => X.bind (X.lstX cases0) fun _ => X.bind (X.mkP (X.bind (X.bind (X.bi .tuple people0) fun t15 => X.bind (X.bi .tuple lessons0) fun t16 => X.make "Ranks" fun self => S_Ranks___init__ self most0 t15 t16) fun t17 => X.fits [t17, due0])) fun t18 => X.bind (X.upX cases0 (mtC .append [t18])) fun _ => X.pure (.nx cases0))) xs t5) (fun cases2 => X.bind (X.bind (X.frz cases2) fun t19 => X.seq t19) fun xs => X.qO (X.forO (fun x1 _ => X.bind (X.items2 x1) fun (made0, due1) => X.iff (X.not (X.bind (S_law_right t4 made0 due1) fun t20 => X.tru t20)) (X.pure (.rt (D.bl false))) (X.pure (.nx ()))) xs ()) (fun _ => X.bind (X.bind (X.mkP (X.rev cases2)) fun t21 => X.seq t21) fun xs => X.qO (X.forO (fun x2 _ => X.bind (X.items2 x2) fun (made1, due2) => X.iff (X.not (X.bind (S_law_right t4 made1 due2) fun t22 => X.tru t22)) (X.pure (.rt (D.bl false))) (X.pure (.nx ()))) xs ()) (fun _ => X.pure (.nx ())))))
theorem law_turn {st : Store} {ns : List Int} {k : Nat} : Wp (lawB (.scr ns) (.int k) ()) st fun o _ => ∃ s', o = .nx s' ∧ True := by
  obtain ⟨g, hg⟩ := cell_eq ns k st
  unfold lawB
  refine wp_ok (a := .ref st.length) (st1 := st ++ [nwBox g]) (xbind_ok hg (box_eq' g st)) ?_
  have b0 := box_bx g st
  have hl : st.length < (st ++ [nwBox g]).length := by simp
  have b0 := b0.base
  generalize st ++ [nwBox g] = stb at *
  generalize st.length = l at *
  refine wp_ok (a := .ref stb.length) (st1 := stb ++ [.lst []]) (by simp) ?_
  have b1 := b0.app [Cell.lst []]
  have f1 : (stb ++ [Cell.lst []])[stb.length]? = some (.lst []) := by simp
  generalize stb ++ [Cell.lst []] = st1 at *
  refine wp_bind (fun d st2 => ∃ m ps ls, d = caseD m ps ls ∧ Cs m ps ls ∧ Bx l 101 st1 st2) ?_ ?_
  · refine wp_iff (fun t st2 => Bx l 1 st1 st2) ?_ ?_
    · show WR _ _
      simp
      refine wr_bnd (take_wr b1.base (by omega) (by decide) (by decide)) ?_
      rintro _ st2 ⟨v, rfl, v0, v1, b2⟩
      simp
      exact b2
    · intro t st2 b2
      cases t with
      | true => exact wp_mono (tight_wr b2 (by omega)) fun d st' ⟨m, ps, ls, e, c, b⟩ => ⟨m, ps, ls, e, c, b.mono (by omega)⟩
      | false => exact wp_mono (plain_wr b2 (by omega)) fun d st' ⟨m, ps, ls, e, c, b⟩ => ⟨m, ps, ls, e, c, b.mono (by omega)⟩
  rintro _ st2 ⟨m, ps, ls, rfl, c, b2⟩
  refine wp_bind (fun xs st3 => xs.length = 3 ∧ (∀ x ∈ xs, ∃ m ps ls, x = caseD m ps ls ∧ Cs m ps ls) ∧ Bx l 301 st1 st3) ?_ ?_
  · refine wp_bind (fun d st3 => ∃ xs : List D, d = .lst xs ∧ xs.length = 3 ∧ (∀ x ∈ xs, ∃ m ps ls, x = caseD m ps ls ∧ Cs m ps ls) ∧ Bx l 301 st1 st3) ?_ ?_
    · refine wp_mkP (P := fun xs st3 => xs.length = 3 ∧ (∀ x ∈ xs, ∃ m ps ls, x = caseD m ps ls ∧ Cs m ps ls) ∧ Bx l 301 st1 st3) ?_ (fun ds st' h => ⟨ds, rfl, h⟩)
      refine wp_bind (fun d st3 => ∃ m ps ls, d = caseD m ps ls ∧ Cs m ps ls ∧ Bx l 201 st1 st3) ?_ ?_
      · refine wp_ok (a := .int m) (st1 := st2) rfl (wp_ok (a := .lst (nums ps)) (st1 := st2) rfl (wp_ok (a := .lst (nums ls)) (st1 := st2) rfl ?_))
        exact wp_mono (spoilt_wr b2 (by omega) c) fun d st' ⟨m, ps, ls, e, c, b⟩ => ⟨m, ps, ls, e, c, b.mono (by omega)⟩
      rintro _ st3 ⟨m2, ps2, ls2, rfl, c2, b3⟩
      refine wp_bind _ (plain_wr b3 (by omega)) ?_
      rintro _ st4 ⟨m3, ps3, ls3, rfl, c3, b4⟩
      refine wp_eq (b := [caseD m ps ls, caseD m2 ps2 ls2, caseD m3 ps3 ls3]) (st1 := st4) (by simp) ⟨rfl, fun x hx => ?_, b4.mono (by omega)⟩
      simp only [List.mem_cons, List.not_mem_nil, or_false] at hx
      rcases hx with rfl | rfl | rfl
      · exact ⟨_, _, _, rfl, c⟩
      · exact ⟨_, _, _, rfl, c2⟩
      · exact ⟨_, _, _, rfl, c3⟩
    · rintro _ st3 ⟨xs, rfl, h⟩
      exact wp_eq (b := xs) (st1 := st3) (by simp) h
  rintro xs st3 ⟨hx3, hxs, b3⟩
  have f3 := b3.2.get f1 (by omega)
  have b3 := b1.back b3
  refine wp_qoN (fun i s st4 => s = D.ref stb.length ∧ Bx l 301 stb st4 ∧ ∃ es, st4[stb.length]? = some (.lst es) ∧ es.length = i ∧ ∀ e ∈ es, CEnt l stb.length st4 e) ⟨rfl, b3, [], f3, rfl, fun e he => by cases he⟩ ?_ ?_
  · rintro i x _ st4 hx ⟨rfl, b4, es, e1, e2, e3⟩
    have hi : i < 3 := by have := (List.getElem?_eq_some_iff.mp hx).1; omega
    obtain ⟨m, ps, ls, rfl, c⟩ := hxs x (List.mem_of_getElem? hx)
    obtain ⟨_, st5, g1, rfl, b5, e, g2, g3⟩ := case_step b4 (Nat.le_refl _) (by omega) e1 (by omega) e3 c
    exact ⟨_, st5, g1, _, rfl, rfl, b5, es ++ [e], g2, by simp [e2], g3⟩
  rintro _ st4 ⟨rfl, b4, es, e1, e2, e3⟩
  rw [hx3] at e2
  have b5 := b4.set (r := stb.length) (c := .frz es) (by omega) (Nat.le_refl _)
  have g1 := set_get (c' := .frz es) e1
  have g3 : ∀ e ∈ es, CEnt l stb.length (st4.set stb.length (.frz es)) e := fun e he => by
    obtain ⟨r, m, ps, ls, a1, a2, a3, a4, a5⟩ := e3 e he
    exact ⟨r, m, ps, ls, a1, a2, by unfold Rk; rw [List.getElem?_set_ne (Ne.symm a5)]; exact a3, a4, a5⟩
  refine wp_ok (a := es) (st1 := st4.set stb.length (.frz es)) (xbind_ok (X.frz_ok e1) (by simp)) ?_
  generalize st4.set stb.length (.frz es) = st5 at *
  refine rgtL_loop b5.base (by omega) (by omega) g3 fun st6 b6 => ?_
  have g2 := b6.2.get g1 (by omega)
  refine wp_ok (a := es.reverse) (st1 := st6) (xbind_ok (mkP_ok (x := X.rev (.ref stb.length)) (xs := es.reverse) (by unfold X.rev; rw [vref g2]; rfl)) (by simp)) ?_
  refine rgtL_loop b6.base (by omega) (by simp; omega) (fun e he => (g3 e (List.mem_reverse.mp he)).fr b6.2) fun st7 b7 => ?_
  exact wp_pure ⟨(), rfl, trivial⟩
theorem law_wr (ns : List Int) (hns : ns.length ≤ 63) : WR (S_law (.scr ns) []) fun d _ => d = .bl true := by
  show Wp (S_law (.scr ns)) [] fun d _ => d = .bl true
  unfold S_law
  obtain ⟨N, hN, e⟩ : ∃ N : Nat, N ≤ 8 ∧ X.bind (X.bind (X.bind (X.bi .len (.scr ns)) fun t0 => X.bi2 .min (D.int 8) t0) fun t1 => X.bi2 .max (D.int 2) t1) (fun t2 => X.range1 t2) [] = .ok (rng 0 (N : Int)) [] := by
    refine ⟨max 2 (min 8 ns.length), by omega, ?_⟩
    have h1 : (if (ns.length : Int) < 8 then (ns.length : Int) else 8) = ((min 8 ns.length : Nat) : Int) := by split <;> omega
    have h2 : (if ((min 8 ns.length : Nat) : Int) > 2 then ((min 8 ns.length : Nat) : Int) else 2) = ((max 2 (min 8 ns.length) : Nat) : Int) := by split <;> omega
    refine xbind_ok (a := .int ((max 2 (min 8 ns.length) : Nat) : Int)) (st1 := []) ?_ (by rw [X.ap_range1, small_nat' (by omega)]; rfl)
    refine xbind_ok (a := .int ((min 8 ns.length : Nat) : Int)) (st1 := []) ?_ (by rw [X.ap_bi2, max_int, h2]; rfl)
    refine xbind_ok (a := .int (ns.length : Int)) (st1 := []) (by simp) (by rw [X.ap_bi2, min_int, h1]; rfl)
  refine wp_ok e ?_
  refine wp_qfN (fun _ _ _ => True) trivial ?_ (fun _ _ _ => wp_pure rfl)
  intro i x _ st hx _
  have hi : i < N := by have := (List.getElem?_eq_some_iff.mp hx).1; rwa [rng_len] at this
  have ex : x = .int i := by
    rw [rng_nats, List.getElem?_map, List.getElem?_range hi] at hx
    cases hx; rfl
  subst ex
  exact law_turn
end Z

namespace Z
open PySem PySem.Spec L2
open PyProof.Rows hiding St
def top (i : Nat) : Stmt := PySem.Challenge.pw_alwaysheld_k69_rows_stays_parts.main.body.getD i (.Pass ⟨0, 0, 0, 0⟩)
def tm (i j : Nat) : Stmt := (C8.clsBody (top i)).getD j (.Pass ⟨0, 0, 0, 0⟩)
def t_law_box : Txt := ⟨("_law_box" : Str), ("_law_box" : Str), L2.defArgs (top 23), L2.defBody (top 23), L2.defScope (top 23), [("great" : Str)], [("great" : Str)]⟩
theorem s_law_box : FnScope t_law_box.N t_law_box.ps t_law_box.scope := ⟨rfl, rfl, rfl, by decide +kernel, rfl, by decide +kernel, by decide +kernel⟩
def p_law_box : List Pat := []
theorem b_law_box : Bnd t_law_box p_law_box := ⟨fun _ _ _ _ _ _ us hl => match us, hl with | [_], _ => rfl, fun p h => by cases h⟩
theorem c_law_box : chkSs (t_law_box.cc { gn := [], gp := [], gc := [], gk := [], gkp := [], kls := gKls, xns := gXns, xcs := [], eqn := [] }) f_law_box.body t_law_box.body = true := by decide +kernel
def d_law_box : He.DefD := ⟨(("_law_box" : Str), none), ("_law_box" : Str), ("_law_box" : Str), L2.defArgs (top 23), L2.defBody (top 23), L2.defScope (top 23), [], []⟩
def t_law_cell : Txt := ⟨("_law_cell" : Str), ("_law_cell" : Str), L2.defArgs (top 22), L2.defBody (top 22), L2.defScope (top 22), [("script" : Str), ("k" : Str)], [("script" : Str), ("k" : Str)]⟩
theorem s_law_cell : FnScope t_law_cell.N t_law_cell.ps t_law_cell.scope := ⟨rfl, rfl, rfl, by decide +kernel, rfl, by decide +kernel, by decide +kernel⟩
def p_law_cell : List Pat := []
theorem b_law_cell : Bnd t_law_cell p_law_cell := ⟨fun _ _ _ _ _ _ us hl => match us, hl with | [_, _], _ => rfl, fun p h => by cases h⟩
theorem c_law_cell : chkSs (t_law_cell.cc { gn := [], gp := [], gc := [], gk := [], gkp := [], kls := gKls, xns := gXns, xcs := [], eqn := [] }) f_law_cell.body t_law_cell.body = true := by decide +kernel
def d_law_cell : He.DefD := ⟨(("_law_cell" : Str), none), ("_law_cell" : Str), ("_law_cell" : Str), L2.defArgs (top 22), L2.defBody (top 22), L2.defScope (top 22), [], []⟩
def t_law_take : Txt := ⟨("_law_take" : Str), ("_law_take" : Str), L2.defArgs (top 24), L2.defBody (top 24), L2.defScope (top 24), [("box" : Str), ("many" : Str)], [("box" : Str), ("many" : Str), ("mixed" : Str), ("digit" : Str)]⟩
theorem s_law_take : FnScope t_law_take.N t_law_take.ps t_law_take.scope := ⟨rfl, rfl, rfl, by decide +kernel, rfl, by decide +kernel, by decide +kernel⟩
def p_law_take : List Pat := []
theorem b_law_take : Bnd t_law_take p_law_take := ⟨fun _ _ _ _ _ _ us hl => match us, hl with | [_, _], _ => rfl, fun p h => by cases h⟩
theorem c_law_take : chkSs (t_law_take.cc { gn := [], gp := [], gc := [], gk := [], gkp := [], kls := gKls, xns := gXns, xcs := [], eqn := [] }) f_law_take.body t_law_take.body = true := by decide +kernel
def d_law_take : He.DefD := ⟨(("_law_take" : Str), none), ("_law_take" : Str), ("_law_take" : Str), L2.defArgs (top 24), L2.defBody (top 24), L2.defScope (top 24), [], []⟩
def t_law_tight : Txt := ⟨("_law_tight" : Str), ("_law_tight" : Str), L2.defArgs (top 28), L2.defBody (top 28), L2.defScope (top 28), [("box" : Str)], [("box" : Str), ("k" : Str), ("most" : Str), ("people" : Str), ("lessons" : Str), ("room" : Str), ("groups" : Str), ("open_end" : Str), ("more" : Str), ("closed" : Str), ("left" : Str)]⟩
theorem s_law_tight : FnScope t_law_tight.N t_law_tight.ps t_law_tight.scope := ⟨rfl, rfl, rfl, by decide +kernel, rfl, by decide +kernel, by decide +kernel⟩
def p_law_tight : List Pat := []
theorem b_law_tight : Bnd t_law_tight p_law_tight := ⟨fun _ _ _ _ _ _ us hl => match us, hl with | [_], _ => rfl, fun p h => by cases h⟩
theorem c_law_tight : chkSs (t_law_tight.cc { gn := [("_law_take" : Str)], gp := [p_law_take], gc := [], gk := [], gkp := [], kls := gKls, xns := gXns, xcs := [], eqn := [] }) f_law_tight.body t_law_tight.body = true := by decide +kernel
def d_law_tight : He.DefD := ⟨(("_law_tight" : Str), none), ("_law_tight" : Str), ("_law_tight" : Str), L2.defArgs (top 28), L2.defBody (top 28), L2.defScope (top 28), [], []⟩
def t_law_plain : Txt := ⟨("_law_plain" : Str), ("_law_plain" : Str), L2.defArgs (top 27), L2.defBody (top 27), L2.defScope (top 27), [("box" : Str)], [("box" : Str), ("people" : Str), ("many" : Str), ("top" : Str), ("k" : Str)]⟩
theorem s_law_plain : FnScope t_law_plain.N t_law_plain.ps t_law_plain.scope := ⟨rfl, rfl, rfl, by decide +kernel, rfl, by decide +kernel, by decide +kernel⟩
def p_law_plain : List Pat := []
theorem b_law_plain : Bnd t_law_plain p_law_plain := ⟨fun _ _ _ _ _ _ us hl => match us, hl with | [_], _ => rfl, fun p h => by cases h⟩
theorem c_law_plain : chkSs (t_law_plain.cc { gn := [("_law_take" : Str)], gp := [p_law_take], gc := [], gk := [], gkp := [], kls := gKls, xns := gXns, xcs := [], eqn := [] }) f_law_plain.body t_law_plain.body = true := by decide +kernel
def d_law_plain : He.DefD := ⟨(("_law_plain" : Str), none), ("_law_plain" : Str), ("_law_plain" : Str), L2.defArgs (top 27), L2.defBody (top 27), L2.defScope (top 27), [], []⟩
def t_law_spoilt : Txt := ⟨("_law_spoilt" : Str), ("_law_spoilt" : Str), L2.defArgs (top 33), L2.defBody (top 33), L2.defScope (top 33), [("box" : Str), ("most" : Str), ("people" : Str), ("lessons" : Str)], [("box" : Str), ("most" : Str), ("people" : Str), ("lessons" : Str), ("at" : Str), ("way" : Str)]⟩
theorem s_law_spoilt : FnScope t_law_spoilt.N t_law_spoilt.ps t_law_spoilt.scope := ⟨rfl, rfl, rfl, by decide +kernel, rfl, by decide +kernel, by decide +kernel⟩
def p_law_spoilt : List Pat := []
theorem b_law_spoilt : Bnd t_law_spoilt p_law_spoilt := ⟨fun _ _ _ _ _ _ us hl => match us, hl with | [_, _, _, _], _ => rfl, fun p h => by cases h⟩
theorem c_law_spoilt : chkSs (t_law_spoilt.cc { gn := [("_law_take" : Str)], gp := [p_law_take], gc := [], gk := [], gkp := [], kls := gKls, xns := gXns, xcs := [], eqn := [] }) f_law_spoilt.body t_law_spoilt.body = true := by decide +kernel
def d_law_spoilt : He.DefD := ⟨(("_law_spoilt" : Str), none), ("_law_spoilt" : Str), ("_law_spoilt" : Str), L2.defArgs (top 33), L2.defBody (top 33), L2.defScope (top 33), [], []⟩
def t_law_sums : Txt := ⟨("_law_sums" : Str), ("_law_sums" : Str), L2.defArgs (top 26), L2.defBody (top 26), L2.defScope (top 26), [("items" : Str)], [("items" : Str), ("found" : Str), ("one" : Str)]⟩
theorem s_law_sums : FnScope t_law_sums.N t_law_sums.ps t_law_sums.scope := ⟨rfl, rfl, rfl, by decide +kernel, rfl, by decide +kernel, by decide +kernel⟩
def p_law_sums : List Pat := []
theorem b_law_sums : Bnd t_law_sums p_law_sums := ⟨fun _ _ _ _ _ _ us hl => match us, hl with | [_], _ => rfl, fun p h => by cases h⟩
theorem c_law_sums : chkSs (t_law_sums.cc { gn := [], gp := [], gc := [], gk := [], gkp := [], kls := gKls, xns := gXns, xcs := [], eqn := [] }) f_law_sums.body t_law_sums.body = true := by decide +kernel
def d_law_sums : He.DefD := ⟨(("_law_sums" : Str), none), ("_law_sums" : Str), ("_law_sums" : Str), L2.defArgs (top 26), L2.defBody (top 26), L2.defScope (top 26), [], []⟩
def t_law_ranks_row : Txt := ⟨("_law_ranks_row" : Str), ("_law_ranks_row" : Str), L2.defArgs (top 29), L2.defBody (top 29), L2.defScope (top 29), [("most" : Str), ("people" : Str), ("lessons" : Str)], [("most" : Str), ("people" : Str), ("lessons" : Str), ("turn" : Str), ("have" : Str), ("wanted" : Str), ("found" : Str), ("bound" : Str), ("some" : Str), ("k" : Str)]⟩
theorem s_law_ranks_row : FnScope t_law_ranks_row.N t_law_ranks_row.ps t_law_ranks_row.scope := ⟨rfl, rfl, rfl, by decide +kernel, rfl, by decide +kernel, by decide +kernel⟩
def p_law_ranks_row : List Pat := []
theorem b_law_ranks_row : Bnd t_law_ranks_row p_law_ranks_row := ⟨fun _ _ _ _ _ _ us hl => match us, hl with | [_, _, _], _ => rfl, fun p h => by cases h⟩
theorem c_law_ranks_row : chkSs (t_law_ranks_row.cc { gn := [("_law_sums" : Str)], gp := [p_law_sums], gc := [], gk := [], gkp := [], kls := gKls, xns := gXns, xcs := [], eqn := [] }) f_law_ranks_row.body t_law_ranks_row.body = true := by decide +kernel
def d_law_ranks_row : He.DefD := ⟨(("_law_ranks_row" : Str), none), ("_law_ranks_row" : Str), ("_law_ranks_row" : Str), L2.defArgs (top 29), L2.defBody (top 29), L2.defScope (top 29), [], []⟩
def t_law_rising : Txt := ⟨("_law_rising" : Str), ("_law_rising" : Str), L2.defArgs (top 30), L2.defBody (top 30), L2.defScope (top 30), [("items" : Str)], [("items" : Str), ("k" : Str)]⟩
theorem s_law_rising : FnScope t_law_rising.N t_law_rising.ps t_law_rising.scope := ⟨rfl, rfl, rfl, by decide +kernel, rfl, by decide +kernel, by decide +kernel⟩
def p_law_rising : List Pat := []
theorem b_law_rising : Bnd t_law_rising p_law_rising := ⟨fun _ _ _ _ _ _ us hl => match us, hl with | [_], _ => rfl, fun p h => by cases h⟩
theorem c_law_rising : chkSs (t_law_rising.cc { gn := [], gp := [], gc := [], gk := [], gkp := [], kls := gKls, xns := gXns, xcs := [], eqn := [] }) f_law_rising.body t_law_rising.body = true := by decide +kernel
def d_law_rising : He.DefD := ⟨(("_law_rising" : Str), none), ("_law_rising" : Str), ("_law_rising" : Str), L2.defArgs (top 30), L2.defBody (top 30), L2.defScope (top 30), [], []⟩
def t_law_has_groups : Txt := ⟨("_law_has_groups" : Str), ("_law_has_groups" : Str), L2.defArgs (top 31), L2.defBody (top 31), L2.defScope (top 31), [("most" : Str), ("people" : Str), ("lessons" : Str)], [("most" : Str), ("people" : Str), ("lessons" : Str), ("number" : Str), ("have" : Str), ("wanted" : Str), ("many" : Str), ("k" : Str), ("rooms" : Str), ("ahead" : Str), ("good" : Str)]⟩
theorem s_law_has_groups : FnScope t_law_has_groups.N t_law_has_groups.ps t_law_has_groups.scope := ⟨rfl, rfl, rfl, by decide +kernel, rfl, by decide +kernel, by decide +kernel⟩
def p_law_has_groups : List Pat := []
theorem b_law_has_groups : Bnd t_law_has_groups p_law_has_groups := ⟨fun _ _ _ _ _ _ us hl => match us, hl with | [_, _, _], _ => rfl, fun p h => by cases h⟩
theorem c_law_has_groups : chkSs (t_law_has_groups.cc { gn := [("_law_sums" : Str)], gp := [p_law_sums], gc := [], gk := [], gkp := [], kls := gKls, xns := gXns, xcs := [], eqn := [] }) f_law_has_groups.body t_law_has_groups.body = true := by decide +kernel
def d_law_has_groups : He.DefD := ⟨(("_law_has_groups" : Str), none), ("_law_has_groups" : Str), ("_law_has_groups" : Str), L2.defArgs (top 31), L2.defBody (top 31), L2.defScope (top 31), [], []⟩
def t_law_groups : Txt := ⟨("_law_groups" : Str), ("_law_groups" : Str), L2.defArgs (top 32), L2.defBody (top 32), L2.defScope (top 32), [("most" : Str), ("people" : Str), ("found" : Str)], [("most" : Str), ("people" : Str), ("found" : Str), ("have" : Str), ("ends" : Str), ("begins" : Str), ("k" : Str)]⟩
theorem s_law_groups : FnScope t_law_groups.N t_law_groups.ps t_law_groups.scope := ⟨rfl, rfl, rfl, by decide +kernel, rfl, by decide +kernel, by decide +kernel⟩
def p_law_groups : List Pat := []
theorem b_law_groups : Bnd t_law_groups p_law_groups := ⟨fun _ _ _ _ _ _ us hl => match us, hl with | [_, _, _], _ => rfl, fun p h => by cases h⟩
theorem c_law_groups : chkSs (t_law_groups.cc { gn := [("_law_sums" : Str)], gp := [p_law_sums], gc := [], gk := [], gkp := [], kls := gKls, xns := gXns, xcs := [], eqn := [] }) f_law_groups.body t_law_groups.body = true := by decide +kernel
def d_law_groups : He.DefD := ⟨(("_law_groups" : Str), none), ("_law_groups" : Str), ("_law_groups" : Str), L2.defArgs (top 32), L2.defBody (top 32), L2.defScope (top 32), [], []⟩
def t_first_above : Txt := ⟨("first_above" : Str), ("first_above" : Str), L2.defArgs (top 16), L2.defBody (top 16), L2.defScope (top 16), [("sums" : Str), ("number" : Str)], [("sums" : Str), ("number" : Str), ("rank" : Str), ("total" : Str)]⟩
theorem s_first_above : FnScope t_first_above.N t_first_above.ps t_first_above.scope := ⟨rfl, rfl, rfl, by decide +kernel, rfl, by decide +kernel, by decide +kernel⟩
def p_first_above : List Pat := []
theorem b_first_above : Bnd t_first_above p_first_above := ⟨fun _ _ _ _ _ _ us hl => match us, hl with | [_, _], _ => rfl, fun p h => by cases h⟩
theorem c_first_above : chkSs (t_first_above.cc { gn := [], gp := [], gc := [], gk := [], gkp := [], kls := gKls, xns := gXns, xcs := [], eqn := [] }) f_first_above.body t_first_above.body = true := by decide +kernel
def d_first_above : He.DefD := ⟨(("first_above" : Str), none), ("first_above" : Str), ("first_above" : Str), L2.defArgs (top 16), L2.defBody (top 16), L2.defScope (top 16), [], []⟩
def t_is_ascending : Txt := ⟨("is_ascending" : Str), ("is_ascending" : Str), L2.defArgs (top 9), L2.defBody (top 9), L2.defScope (top 9), [("items" : Str)], [("items" : Str), ("at" : Str)]⟩
theorem s_is_ascending : FnScope t_is_ascending.N t_is_ascending.ps t_is_ascending.scope := ⟨rfl, rfl, rfl, by decide +kernel, rfl, by decide +kernel, by decide +kernel⟩
def p_is_ascending : List Pat := []
theorem b_is_ascending : Bnd t_is_ascending p_is_ascending := ⟨fun _ _ _ _ _ _ us hl => match us, hl with | [_], _ => rfl, fun p h => by cases h⟩
theorem c_is_ascending : chkSs (t_is_ascending.cc { gn := [], gp := [], gc := [], gk := [], gkp := [], kls := gKls, xns := gXns, xcs := [], eqn := [] }) f_is_ascending.body t_is_ascending.body = true := by decide +kernel
def d_is_ascending : He.DefD := ⟨(("is_ascending" : Str), none), ("is_ascending" : Str), ("is_ascending" : Str), L2.defArgs (top 9), L2.defBody (top 9), L2.defScope (top 9), [], []⟩
def t_row_of : Txt := ⟨("row_of" : Str), ("row_of" : Str), L2.defArgs (top 17), L2.defBody (top 17), L2.defScope (top 17), [("most" : Str), ("people" : Str), ("lessons" : Str)], [("most" : Str), ("people" : Str), ("lessons" : Str), ("found" : Str), ("further" : Str)]⟩
theorem s_row_of : FnScope t_row_of.N t_row_of.ps t_row_of.scope := ⟨rfl, rfl, rfl, by decide +kernel, rfl, by decide +kernel, by decide +kernel⟩
def p_row_of : List Pat := []
theorem b_row_of : Bnd t_row_of p_row_of := ⟨fun _ _ _ _ _ _ us hl => match us, hl with | [_, _, _], _ => rfl, fun p h => by cases h⟩
theorem c_row_of : chkSs (t_row_of.cc { gn := [("first_above" : Str), ("is_ascending" : Str)], gp := [p_first_above, p_is_ascending], gc := [], gk := [], gkp := [], kls := gKls, xns := gXns, xcs := [], eqn := [] }) f_row_of.body t_row_of.body = true := by decide +kernel
def d_row_of : He.DefD := ⟨(("row_of" : Str), none), ("row_of" : Str), ("row_of" : Str), L2.defArgs (top 17), L2.defBody (top 17), L2.defScope (top 17), [], []⟩
def t_totals : Txt := ⟨("totals" : Str), ("totals" : Str), L2.defArgs (top 15), L2.defBody (top 15), L2.defScope (top 15), [("numbers" : Str)], [("numbers" : Str), ("found" : Str), ("number" : Str)]⟩
theorem s_totals : FnScope t_totals.N t_totals.ps t_totals.scope := ⟨rfl, rfl, rfl, by decide +kernel, rfl, by decide +kernel, by decide +kernel⟩
def p_totals : List Pat := []
theorem b_totals : Bnd t_totals p_totals := ⟨fun _ _ _ _ _ _ us hl => match us, hl with | [_], _ => rfl, fun p h => by cases h⟩
theorem c_totals : chkSs (t_totals.cc { gn := [], gp := [], gc := [], gk := [], gkp := [], kls := gKls, xns := gXns, xcs := [], eqn := [] }) f_totals.body t_totals.body = true := by decide +kernel
def d_totals : He.DefD := ⟨(("totals" : Str), none), ("totals" : Str), ("totals" : Str), L2.defArgs (top 15), L2.defBody (top 15), L2.defScope (top 15), [], []⟩
def t_row : Txt := ⟨("row" : Str), ("row" : Str), L2.defArgs (top 18), L2.defBody (top 18), L2.defScope (top 18), [("ranks" : Str)], [("ranks" : Str)]⟩
theorem s_row : FnScope t_row.N t_row.ps t_row.scope := ⟨rfl, rfl, rfl, by decide +kernel, rfl, by decide +kernel, by decide +kernel⟩
def p_row : List Pat := [⟨0, [("ranks" : Str)], [0]⟩]
theorem b_row : Bnd t_row p_row := ⟨fun _ _ _ _ _ _ us hl => match us, hl with | [_], _ => rfl, fun p h => by
    obtain rfl := List.mem_singleton.mp h
    exact ⟨rfl, by decide, by decide, fun _ _ _ _ _ _ us ws h1 h2 => match us, ws, h1, h2 with | [], [_], _, _ => rfl⟩⟩
theorem c_row : chkSs (t_row.cc { gn := [("row_of" : Str), ("totals" : Str)], gp := [p_row_of, p_totals], gc := [], gk := [], gkp := [], kls := gKls, xns := gXns, xcs := [], eqn := [] }) f_row.body t_row.body = true := by decide +kernel
def d_row : He.DefD := ⟨(("row" : Str), none), ("row" : Str), ("row" : Str), L2.defArgs (top 18), L2.defBody (top 18), L2.defScope (top 18), [], []⟩
def t_stays : Txt := ⟨("stays" : Str), ("stays" : Str), L2.defArgs (top 19), L2.defBody (top 19), L2.defScope (top 19), [("ranks" : Str)], [("ranks" : Str)]⟩
theorem s_stays : FnScope t_stays.N t_stays.ps t_stays.scope := ⟨rfl, rfl, rfl, by decide +kernel, rfl, by decide +kernel, by decide +kernel⟩
def p_stays : List Pat := [⟨0, [("ranks" : Str)], [0]⟩]
theorem b_stays : Bnd t_stays p_stays := ⟨fun _ _ _ _ _ _ us hl => match us, hl with | [_], _ => rfl, fun p h => by
    obtain rfl := List.mem_singleton.mp h
    exact ⟨rfl, by decide, by decide, fun _ _ _ _ _ _ us ws h1 h2 => match us, ws, h1, h2 with | [], [_], _, _ => rfl⟩⟩
theorem c_stays : chkSs (t_stays.cc { gn := [("is_ascending" : Str), ("row" : Str)], gp := [p_is_ascending, p_row], gc := [], gk := [], gkp := [], kls := gKls, xns := gXns, xcs := [], eqn := [] }) f_stays.body t_stays.body = true := by decide +kernel
def d_stays : He.DefD := ⟨(("stays" : Str), none), ("stays" : Str), ("stays" : Str), L2.defArgs (top 19), L2.defBody (top 19), L2.defScope (top 19), [], []⟩
def t_parts : Txt := ⟨("parts" : Str), ("parts" : Str), L2.defArgs (top 20), L2.defBody (top 20), L2.defScope (top 20), [("ranks" : Str)], [("ranks" : Str), ("rank" : Str), ("sums" : Str), ("found" : Str), ("ahead" : Str), ("people" : Str)]⟩
theorem s_parts : FnScope t_parts.N t_parts.ps t_parts.scope := ⟨rfl, rfl, rfl, by decide +kernel, rfl, by decide +kernel, by decide +kernel⟩
def p_parts : List Pat := [⟨0, [("ranks" : Str)], [0]⟩]
theorem b_parts : Bnd t_parts p_parts := ⟨fun _ _ _ _ _ _ us hl => match us, hl with | [_], _ => rfl, fun p h => by
    obtain rfl := List.mem_singleton.mp h
    exact ⟨rfl, by decide, by decide, fun _ _ _ _ _ _ us ws h1 h2 => match us, ws, h1, h2 with | [], [_], _, _ => rfl⟩⟩
theorem c_parts : chkSs (t_parts.cc { gn := [("stays" : Str), ("totals" : Str), ("row" : Str)], gp := [p_stays, p_totals, p_row], gc := [], gk := [], gkp := [], kls := gKls, xns := gXns, xcs := [], eqn := [] }) f_parts.body t_parts.body = true := by decide +kernel
def d_parts : He.DefD := ⟨(("parts" : Str), none), ("parts" : Str), ("parts" : Str), L2.defArgs (top 20), L2.defBody (top 20), L2.defScope (top 20), [], []⟩
def t_law_same : Txt := ⟨("_law_same" : Str), ("_law_same" : Str), L2.defArgs (top 25), L2.defBody (top 25), L2.defScope (top 25), [("told" : Str), ("due" : Str)], [("told" : Str), ("due" : Str), ("k" : Str)]⟩
theorem s_law_same : FnScope t_law_same.N t_law_same.ps t_law_same.scope := ⟨rfl, rfl, rfl, by decide +kernel, rfl, by decide +kernel, by decide +kernel⟩
def p_law_same : List Pat := []
theorem b_law_same : Bnd t_law_same p_law_same := ⟨fun _ _ _ _ _ _ us hl => match us, hl with | [_, _], _ => rfl, fun p h => by cases h⟩
theorem c_law_same : chkSs (t_law_same.cc { gn := [("_law_same" : Str)], gp := [p_law_same], gc := [], gk := [], gkp := [], kls := gKls, xns := gXns, xcs := [], eqn := [] }) f_law_same.body t_law_same.body = true := by decide +kernel
def d_law_same : He.DefD := ⟨(("_law_same" : Str), none), ("_law_same" : Str), ("_law_same" : Str), L2.defArgs (top 25), L2.defBody (top 25), L2.defScope (top 25), [], []⟩
def t_law_right : Txt := ⟨("_law_right" : Str), ("_law_right" : Str), L2.defArgs (top 34), L2.defBody (top 34), L2.defScope (top 34), [("box" : Str), ("made" : Str), ("due" : Str)], [("box" : Str), ("made" : Str), ("due" : Str), ("turn" : Str), ("named" : Str), ("told" : Str)]⟩
theorem s_law_right : FnScope t_law_right.N t_law_right.ps t_law_right.scope := ⟨rfl, rfl, rfl, by decide +kernel, rfl, by decide +kernel, by decide +kernel⟩
def p_law_right : List Pat := []
theorem b_law_right : Bnd t_law_right p_law_right := ⟨fun _ _ _ _ _ _ us hl => match us, hl with | [_, _, _], _ => rfl, fun p h => by cases h⟩
theorem c_law_right : chkSs (t_law_right.cc { gn := [("_law_take" : Str), ("row" : Str), ("stays" : Str), ("parts" : Str), ("_law_same" : Str)], gp := [p_law_take, p_row, p_stays, p_parts, p_law_same], gc := [], gk := [], gkp := [], kls := gKls, xns := gXns, xcs := [], eqn := [] }) f_law_right.body t_law_right.body = true := by decide +kernel
def d_law_right : He.DefD := ⟨(("_law_right" : Str), none), ("_law_right" : Str), ("_law_right" : Str), L2.defArgs (top 34), L2.defBody (top 34), L2.defScope (top 34), [], []⟩
def t_is_integer : Txt := ⟨("is_integer" : Str), ("is_integer" : Str), L2.defArgs (top 6), L2.defBody (top 6), L2.defScope (top 6), [("value" : Str)], [("value" : Str)]⟩
theorem s_is_integer : FnScope t_is_integer.N t_is_integer.ps t_is_integer.scope := ⟨rfl, rfl, rfl, by decide +kernel, rfl, by decide +kernel, by decide +kernel⟩
def p_is_integer : List Pat := []
theorem b_is_integer : Bnd t_is_integer p_is_integer := ⟨fun _ _ _ _ _ _ us hl => match us, hl with | [_], _ => rfl, fun p h => by cases h⟩
theorem c_is_integer : chkSs (t_is_integer.cc { gn := [], gp := [], gc := [], gk := [], gkp := [], kls := gKls, xns := gXns, xcs := [], eqn := [] }) f_is_integer.body t_is_integer.body = true := by decide +kernel
def d_is_integer : He.DefD := ⟨(("is_integer" : Str), none), ("is_integer" : Str), ("is_integer" : Str), L2.defArgs (top 6), L2.defBody (top 6), L2.defScope (top 6), [], []⟩
def t_is_between : Txt := ⟨("is_between" : Str), ("is_between" : Str), L2.defArgs (top 7), L2.defBody (top 7), L2.defScope (top 7), [("value" : Str), ("least" : Str), ("most" : Str)], [("value" : Str), ("least" : Str), ("most" : Str)]⟩
theorem s_is_between : FnScope t_is_between.N t_is_between.ps t_is_between.scope := ⟨rfl, rfl, rfl, by decide +kernel, rfl, by decide +kernel, by decide +kernel⟩
def p_is_between : List Pat := []
theorem b_is_between : Bnd t_is_between p_is_between := ⟨fun _ _ _ _ _ _ us hl => match us, hl with | [_, _, _], _ => rfl, fun p h => by cases h⟩
theorem c_is_between : chkSs (t_is_between.cc { gn := [("is_integer" : Str)], gp := [p_is_integer], gc := [], gk := [], gkp := [], kls := gKls, xns := gXns, xcs := [], eqn := [] }) f_is_between.body t_is_between.body = true := by decide +kernel
def d_is_between : He.DefD := ⟨(("is_between" : Str), none), ("is_between" : Str), ("is_between" : Str), L2.defArgs (top 7), L2.defBody (top 7), L2.defScope (top 7), [], []⟩
def t_are_between : Txt := ⟨("are_between" : Str), ("are_between" : Str), L2.defArgs (top 8), L2.defBody (top 8), L2.defScope (top 8), [("values" : Str), ("least" : Str), ("most" : Str)], [("values" : Str), ("least" : Str), ("most" : Str), ("value" : Str)]⟩
theorem s_are_between : FnScope t_are_between.N t_are_between.ps t_are_between.scope := ⟨rfl, rfl, rfl, by decide +kernel, rfl, by decide +kernel, by decide +kernel⟩
def p_are_between : List Pat := []
theorem b_are_between : Bnd t_are_between p_are_between := ⟨fun _ _ _ _ _ _ us hl => match us, hl with | [_, _, _], _ => rfl, fun p h => by cases h⟩
theorem c_are_between : chkSs (t_are_between.cc { gn := [("is_between" : Str)], gp := [p_is_between], gc := [], gk := [], gkp := [], kls := gKls, xns := gXns, xcs := [], eqn := [] }) f_are_between.body t_are_between.body = true := by decide +kernel
def d_are_between : He.DefD := ⟨(("are_between" : Str), none), ("are_between" : Str), ("are_between" : Str), L2.defArgs (top 8), L2.defBody (top 8), L2.defScope (top 8), [], []⟩
def t_are_numbers : Txt := ⟨("are_numbers" : Str), ("are_numbers" : Str), L2.defArgs (top 13), L2.defBody (top 13), L2.defScope (top 13), [("value" : Str)], [("value" : Str)]⟩
theorem s_are_numbers : FnScope t_are_numbers.N t_are_numbers.ps t_are_numbers.scope := ⟨rfl, rfl, rfl, by decide +kernel, rfl, by decide +kernel, by decide +kernel⟩
def p_are_numbers : List Pat := []
theorem b_are_numbers : Bnd t_are_numbers p_are_numbers := ⟨fun _ _ _ _ _ _ us hl => match us, hl with | [_], _ => rfl, fun p h => by cases h⟩
theorem c_are_numbers : chkSs (t_are_numbers.cc { gn := [("are_between" : Str)], gp := [p_are_between], gc := [("MOST_OF_A_RANK" : Str)], gk := [], gkp := [], kls := gKls, xns := gXns, xcs := [], eqn := [] }) f_are_numbers.body t_are_numbers.body = true := by decide +kernel
def d_are_numbers : He.DefD := ⟨(("are_numbers" : Str), none), ("are_numbers" : Str), ("are_numbers" : Str), L2.defArgs (top 13), L2.defBody (top 13), L2.defScope (top 13), [], []⟩
def t_Ranks___init__ : Txt := ⟨("__init__" : Str), ("Ranks.__init__" : Str), L2.defArgs (tm 14 0), L2.defBody (tm 14 0), L2.defScope (tm 14 0), [("self" : Str), ("most" : Str), ("people" : Str), ("lessons" : Str)], [("self" : Str), ("most" : Str), ("people" : Str), ("lessons" : Str)]⟩
theorem s_Ranks___init__ : FnScope t_Ranks___init__.N t_Ranks___init__.ps t_Ranks___init__.scope := ⟨rfl, rfl, rfl, by decide +kernel, rfl, by decide +kernel, by decide +kernel⟩
def p_Ranks___init__ : List Pat := [⟨3, [], [0, 1, 2]⟩]
theorem b_Ranks___init__ : BndI t_Ranks___init__ p_Ranks___init__ := ⟨fun p h => by
    obtain rfl := List.mem_singleton.mp h
    exact ⟨rfl, by decide, fun _ _ _ _ _ _ _ us ws h1 h2 => match us, ws, h1, h2 with | [_, _, _], [], _, _ => rfl⟩⟩
theorem c_Ranks___init__ : chkSs (t_Ranks___init__.cc { gn := [("is_between" : Str), ("are_numbers" : Str)], gp := [p_is_between, p_are_numbers], gc := [("MOST_OF_A_RANK" : Str), ("MOST_RANKS" : Str)], gk := [], gkp := [], kls := gKls, xns := gXns, xcs := [("InvalidMost" : Str), ("InvalidPeople" : Str), ("InvalidLessons" : Str)], eqn := [] }) f_Ranks___init__.body t_Ranks___init__.body = true := by decide +kernel
def d_Ranks___init__ : He.DefD := ⟨(("Ranks" : Str), some ("__init__" : Str)), ("__init__" : Str), ("Ranks.__init__" : Str), L2.defArgs (tm 14 0), L2.defBody (tm 14 0), L2.defScope (tm 14 0), [], []⟩
def t_law : Txt := ⟨("law" : Str), ("law" : Str), L2.defArgs (top 35), L2.defBody (top 35), L2.defScope (top 35), [("script" : Str)], [("script" : Str), ("k" : Str), ("first" : Str), ("box" : Str), ("cases" : Str), ("most" : Str), ("people" : Str), ("lessons" : Str), ("found" : Str), ("rising" : Str), ("due" : Str), ("made" : Str)]⟩
theorem s_law : FnScope t_law.N t_law.ps t_law.scope := ⟨rfl, rfl, rfl, by decide +kernel, rfl, by decide +kernel, by decide +kernel⟩
def p_law : List Pat := []
theorem b_law : Bnd t_law p_law := ⟨fun _ _ _ _ _ _ us hl => match us, hl with | [_], _ => rfl, fun p h => by cases h⟩
theorem c_law : chkSs (t_law.cc { gn := [("_law_box" : Str), ("_law_cell" : Str), ("_law_take" : Str), ("_law_tight" : Str), ("_law_plain" : Str), ("_law_spoilt" : Str), ("_law_ranks_row" : Str), ("_law_rising" : Str), ("_law_has_groups" : Str), ("_law_groups" : Str), ("_law_right" : Str)], gp := [p_law_box, p_law_cell, p_law_take, p_law_tight, p_law_plain, p_law_spoilt, p_law_ranks_row, p_law_rising, p_law_has_groups, p_law_groups, p_law_right], gc := [], gk := [("Ranks" : Str)], gkp := [p_Ranks___init__], kls := gKls, xns := gXns, xcs := [], eqn := [] }) f_law.body t_law.body = true := by decide +kernel
def d_law : He.DefD := ⟨(("law" : Str), none), ("law" : Str), ("law" : Str), L2.defArgs (top 35), L2.defBody (top 35), L2.defScope (top 35), [], []⟩
theorem s_InvalidMost___init__ : FnScope [("self" : Str), ("given" : Str)] [("self" : Str), ("given" : Str)] (L2.defScope (tm 3 0)) := ⟨rfl, rfl, rfl, by decide +kernel, rfl, by decide +kernel, by decide +kernel⟩
theorem i_InvalidMost___init__ : chkIni [("given" : Str)] [("given" : Str)] (L2.defBody (tm 3 0)) = true := by decide +kernel
def d_InvalidMost___init__ : He.DefD := ⟨(("InvalidMost" : Str), some ("__init__" : Str)), ("__init__" : Str), ("InvalidMost.__init__" : Str), L2.defArgs (tm 3 0), L2.defBody (tm 3 0), L2.defScope (tm 3 0), [], []⟩
theorem s_InvalidPeople___init__ : FnScope [("self" : Str), ("given" : Str)] [("self" : Str), ("given" : Str)] (L2.defScope (tm 4 0)) := ⟨rfl, rfl, rfl, by decide +kernel, rfl, by decide +kernel, by decide +kernel⟩
theorem i_InvalidPeople___init__ : chkIni [("given" : Str)] [("given" : Str)] (L2.defBody (tm 4 0)) = true := by decide +kernel
def d_InvalidPeople___init__ : He.DefD := ⟨(("InvalidPeople" : Str), some ("__init__" : Str)), ("__init__" : Str), ("InvalidPeople.__init__" : Str), L2.defArgs (tm 4 0), L2.defBody (tm 4 0), L2.defScope (tm 4 0), [], []⟩
theorem s_InvalidLessons___init__ : FnScope [("self" : Str), ("given" : Str)] [("self" : Str), ("given" : Str)] (L2.defScope (tm 2 0)) := ⟨rfl, rfl, rfl, by decide +kernel, rfl, by decide +kernel, by decide +kernel⟩
theorem i_InvalidLessons___init__ : chkIni [("given" : Str)] [("given" : Str)] (L2.defBody (tm 2 0)) = true := by decide +kernel
def d_InvalidLessons___init__ : He.DefD := ⟨(("InvalidLessons" : Str), some ("__init__" : Str)), ("__init__" : Str), ("InvalidLessons.__init__" : Str), L2.defArgs (tm 2 0), L2.defBody (tm 2 0), L2.defScope (tm 2 0), [], []⟩
def fns : List He.DefD := [d_law_box, d_law_cell, d_law_take, d_law_tight, d_law_plain, d_law_spoilt, d_law_sums, d_law_ranks_row, d_law_rising, d_law_has_groups, d_law_groups, d_first_above, d_is_ascending, d_row_of, d_totals, d_row, d_stays, d_parts, d_law_same, d_law_right, d_is_integer, d_is_between, d_are_between, d_are_numbers, d_Ranks___init__, d_law, d_InvalidMost___init__, d_InvalidPeople___init__, d_InvalidLessons___init__]
def fa : List He.Fa := [.glo ("_law_box" : Str), .glo ("_law_cell" : Str), .glo ("_law_take" : Str), .glo ("_law_tight" : Str), .glo ("_law_plain" : Str), .glo ("_law_spoilt" : Str), .glo ("_law_sums" : Str), .glo ("_law_ranks_row" : Str), .glo ("_law_rising" : Str), .glo ("_law_has_groups" : Str), .glo ("_law_groups" : Str), .glo ("first_above" : Str), .glo ("is_ascending" : Str), .glo ("row_of" : Str), .glo ("totals" : Str), .glo ("row" : Str), .glo ("stays" : Str), .glo ("parts" : Str), .glo ("_law_same" : Str), .glo ("_law_right" : Str), .glo ("is_integer" : Str), .glo ("is_between" : Str), .glo ("are_between" : Str), .glo ("are_numbers" : Str), .glo ("law" : Str), .glo ("Ranks" : Str), .int ("MOST_OF_A_RANK" : Str) 100, .int ("MOST_RANKS" : Str) 8, .mkr ("Ranks" : Str), .free ("len" : Str), .free ("sum" : Str), .free ("all" : Str), .free ("any" : Str), .free ("abs" : Str), .free ("int" : Str), .free ("tuple" : Str), .free ("max" : Str), .free ("min" : Str), .free ("isinstance" : Str), .free ("range" : Str), .free ("list" : Str), .free ("bool" : Str), .free ("str" : Str), .free ("dict" : Str), .free ("enumerate" : Str), .free ("zip" : Str), .free ("sorted" : Str), .free ("set" : Str), .free ("reversed" : Str)]
def exZ (K : PySem.W.Frag) : Bool := atB K gAts && (klB K gKls [] && (xmB K gXns gExm && (xcB K ("InvalidMost" : Str) [("given" : Str)] && (xcB K ("InvalidPeople" : Str) [("given" : Str)] && (xcB K ("InvalidLessons" : Str) [("given" : Str)])))))
abbrev RO : PySem.W.OpenRow := PySem.W.OpenLaw.row PySem.Challenge.rw_alwaysheld_k69_rows_stays_parts
def loose : List Str := [("SchoolError" : Str), ("InvalidLessons" : Str), ("InvalidMost" : Str), ("InvalidPeople" : Str), ("is_integer" : Str), ("is_between" : Str), ("are_between" : Str), ("is_ascending" : Str), ("MOST_RANKS" : Str), ("MOST_OF_A_RANK" : Str), ("are_numbers" : Str), ("Ranks" : Str), ("totals" : Str), ("first_above" : Str), ("row_of" : Str), ("row" : Str), ("stays" : Str), ("parts" : Str), ("_law_cell" : Str), ("_law_box" : Str), ("_law_take" : Str), ("_law_same" : Str), ("_law_sums" : Str), ("_law_plain" : Str), ("_law_tight" : Str), ("_law_ranks_row" : Str), ("_law_rising" : Str), ("_law_has_groups" : Str), ("_law_groups" : Str), ("_law_spoilt" : Str)] ++ [("_law_right" : Str)]
abbrev hk : PySem.W.Hook := hookZ 4 fa fns exZ
def ob (s : PySem.W.SharedT) : He.AlD × Bool := obsZG 4 fa fns exZ (HandSHeadRun.getT s)
theorem ob_eq (s : PySem.W.SharedT) : ob s = hk.obs s.abs := obsZG_eq (HandSHeadRun.getT_eq s)
end Z

namespace Z
open PySem PySem.Spec L2
open PyProof.Rows hiding St
theorem runs (w : World) : HandSHeadRun.RunEq RO (PySem.W.view RO.prog [35]) hk ob 20000 loose w := by
  intro os
  kernel_rfl
theorem facts {P : Program} {w : World} {K : PySem.W.Frag} {h : Heap} {mg : Str → Option Value} {f : Addr} (X : K.In h) (Gn : h.Ns mainGlobals mg) (hfa : mg ("law" : Str) = some (.ref f)) (c0 : SaysZ fa fns exZ K) :
    ∃ fd : FuncData, (∀ (s : Shared) (v : Value), BindsTo s fd ⟨[v], []⟩ [(("script" : Str), v)]) ∧ ∀ base : Heap, K.In base → base.Ns mainGlobals mg → FnOk P w K mg base (L2.CX P w) 10 f fd [("script" : Str)] (spF ⟨K, mg⟩ 1 F_law) := by
  have c := c0.d
  have ex := c0.x
  unfold exZ at ex
  simp only [Bool.and_eq_true] at ex
  obtain ⟨ex_at, ex_kl, ex_xm, ex_InvalidMost, ex_InvalidPeople, ex_InvalidLessons⟩ := ex
  obtain ⟨fd_law_box, D_law_box⟩ := c.def_ 0 (d := d_law_box) rfl
  obtain ⟨fd_law_cell, D_law_cell⟩ := c.def_ 1 (d := d_law_cell) rfl
  obtain ⟨fd_law_take, D_law_take⟩ := c.def_ 2 (d := d_law_take) rfl
  obtain ⟨fd_law_tight, D_law_tight⟩ := c.def_ 3 (d := d_law_tight) rfl
  obtain ⟨fd_law_plain, D_law_plain⟩ := c.def_ 4 (d := d_law_plain) rfl
  obtain ⟨fd_law_spoilt, D_law_spoilt⟩ := c.def_ 5 (d := d_law_spoilt) rfl
  obtain ⟨fd_law_sums, D_law_sums⟩ := c.def_ 6 (d := d_law_sums) rfl
  obtain ⟨fd_law_ranks_row, D_law_ranks_row⟩ := c.def_ 7 (d := d_law_ranks_row) rfl
  obtain ⟨fd_law_rising, D_law_rising⟩ := c.def_ 8 (d := d_law_rising) rfl
  obtain ⟨fd_law_has_groups, D_law_has_groups⟩ := c.def_ 9 (d := d_law_has_groups) rfl
  obtain ⟨fd_law_groups, D_law_groups⟩ := c.def_ 10 (d := d_law_groups) rfl
  obtain ⟨fd_first_above, D_first_above⟩ := c.def_ 11 (d := d_first_above) rfl
  obtain ⟨fd_is_ascending, D_is_ascending⟩ := c.def_ 12 (d := d_is_ascending) rfl
  obtain ⟨fd_row_of, D_row_of⟩ := c.def_ 13 (d := d_row_of) rfl
  obtain ⟨fd_totals, D_totals⟩ := c.def_ 14 (d := d_totals) rfl
  obtain ⟨fd_row, D_row⟩ := c.def_ 15 (d := d_row) rfl
  obtain ⟨fd_stays, D_stays⟩ := c.def_ 16 (d := d_stays) rfl
  obtain ⟨fd_parts, D_parts⟩ := c.def_ 17 (d := d_parts) rfl
  obtain ⟨fd_law_same, D_law_same⟩ := c.def_ 18 (d := d_law_same) rfl
  obtain ⟨fd_law_right, D_law_right⟩ := c.def_ 19 (d := d_law_right) rfl
  obtain ⟨fd_is_integer, D_is_integer⟩ := c.def_ 20 (d := d_is_integer) rfl
  obtain ⟨fd_is_between, D_is_between⟩ := c.def_ 21 (d := d_is_between) rfl
  obtain ⟨fd_are_between, D_are_between⟩ := c.def_ 22 (d := d_are_between) rfl
  obtain ⟨fd_are_numbers, D_are_numbers⟩ := c.def_ 23 (d := d_are_numbers) rfl
  obtain ⟨fd_Ranks___init__, D_Ranks___init__⟩ := c.def_ 24 (d := d_Ranks___init__) rfl
  obtain ⟨fd_law, D_law⟩ := c.def_ 25 (d := d_law) rfl
  obtain ⟨fd_InvalidMost___init__, D_InvalidMost___init__⟩ := c.def_ 26 (d := d_InvalidMost___init__) rfl
  obtain ⟨fd_InvalidPeople___init__, D_InvalidPeople___init__⟩ := c.def_ 27 (d := d_InvalidPeople___init__) rfl
  obtain ⟨fd_InvalidLessons___init__, D_InvalidLessons___init__⟩ := c.def_ 28 (d := d_InvalidLessons___init__) rfl
  have m_law_box := He.glo_ok X Gn (c.fact 0 (f := .glo ("_law_box" : Str)) rfl)
  have m_law_cell := He.glo_ok X Gn (c.fact 1 (f := .glo ("_law_cell" : Str)) rfl)
  have m_law_take := He.glo_ok X Gn (c.fact 2 (f := .glo ("_law_take" : Str)) rfl)
  have m_law_tight := He.glo_ok X Gn (c.fact 3 (f := .glo ("_law_tight" : Str)) rfl)
  have m_law_plain := He.glo_ok X Gn (c.fact 4 (f := .glo ("_law_plain" : Str)) rfl)
  have m_law_spoilt := He.glo_ok X Gn (c.fact 5 (f := .glo ("_law_spoilt" : Str)) rfl)
  have m_law_sums := He.glo_ok X Gn (c.fact 6 (f := .glo ("_law_sums" : Str)) rfl)
  have m_law_ranks_row := He.glo_ok X Gn (c.fact 7 (f := .glo ("_law_ranks_row" : Str)) rfl)
  have m_law_rising := He.glo_ok X Gn (c.fact 8 (f := .glo ("_law_rising" : Str)) rfl)
  have m_law_has_groups := He.glo_ok X Gn (c.fact 9 (f := .glo ("_law_has_groups" : Str)) rfl)
  have m_law_groups := He.glo_ok X Gn (c.fact 10 (f := .glo ("_law_groups" : Str)) rfl)
  have m_first_above := He.glo_ok X Gn (c.fact 11 (f := .glo ("first_above" : Str)) rfl)
  have m_is_ascending := He.glo_ok X Gn (c.fact 12 (f := .glo ("is_ascending" : Str)) rfl)
  have m_row_of := He.glo_ok X Gn (c.fact 13 (f := .glo ("row_of" : Str)) rfl)
  have m_totals := He.glo_ok X Gn (c.fact 14 (f := .glo ("totals" : Str)) rfl)
  have m_row := He.glo_ok X Gn (c.fact 15 (f := .glo ("row" : Str)) rfl)
  have m_stays := He.glo_ok X Gn (c.fact 16 (f := .glo ("stays" : Str)) rfl)
  have m_parts := He.glo_ok X Gn (c.fact 17 (f := .glo ("parts" : Str)) rfl)
  have m_law_same := He.glo_ok X Gn (c.fact 18 (f := .glo ("_law_same" : Str)) rfl)
  have m_law_right := He.glo_ok X Gn (c.fact 19 (f := .glo ("_law_right" : Str)) rfl)
  have m_is_integer := He.glo_ok X Gn (c.fact 20 (f := .glo ("is_integer" : Str)) rfl)
  have m_is_between := He.glo_ok X Gn (c.fact 21 (f := .glo ("is_between" : Str)) rfl)
  have m_are_between := He.glo_ok X Gn (c.fact 22 (f := .glo ("are_between" : Str)) rfl)
  have m_are_numbers := He.glo_ok X Gn (c.fact 23 (f := .glo ("are_numbers" : Str)) rfl)
  have m_law := He.glo_ok X Gn (c.fact 24 (f := .glo ("law" : Str)) rfl)
  have m_Ranks := He.glo_ok X Gn (c.fact 25 (f := .glo ("Ranks" : Str)) rfl)
  have k_Ranks := He.mkr_ok (c.fact 28 (f := .mkr ("Ranks" : Str)) rfl)
  have e := hfa.symm.trans m_law
  cases e
  have b := FunD.bindsA (ps := [("script" : Str)]) D_law fun _ _ _ _ _ _ us hl => match us, hl with | [_], _ => rfl
  refine ⟨fd_law, fun s v => b s [v] rfl, fun base _ _ => ?_⟩
  have free : ∀ x ∈ bltNames, mg x = none := by
    intro x hx
    simp only [bltNames, List.mem_cons, List.not_mem_nil, or_false] at hx
    rcases hx with rfl | rfl | rfl | rfl | rfl | rfl | rfl | rfl | rfl | rfl | rfl | rfl | rfl | rfl | rfl | rfl | rfl | rfl | rfl | rfl
    · exact He.free_ok X Gn (c.fact 29 (f := .free ("len" : Str)) rfl)
    · exact He.free_ok X Gn (c.fact 30 (f := .free ("sum" : Str)) rfl)
    · exact He.free_ok X Gn (c.fact 31 (f := .free ("all" : Str)) rfl)
    · exact He.free_ok X Gn (c.fact 32 (f := .free ("any" : Str)) rfl)
    · exact He.free_ok X Gn (c.fact 33 (f := .free ("abs" : Str)) rfl)
    · exact He.free_ok X Gn (c.fact 34 (f := .free ("int" : Str)) rfl)
    · exact He.free_ok X Gn (c.fact 35 (f := .free ("tuple" : Str)) rfl)
    · exact He.free_ok X Gn (c.fact 36 (f := .free ("max" : Str)) rfl)
    · exact He.free_ok X Gn (c.fact 37 (f := .free ("min" : Str)) rfl)
    · exact He.free_ok X Gn (c.fact 38 (f := .free ("isinstance" : Str)) rfl)
    · exact He.free_ok X Gn (c.fact 39 (f := .free ("range" : Str)) rfl)
    · exact He.free_ok X Gn (c.fact 40 (f := .free ("list" : Str)) rfl)
    · exact He.free_ok X Gn (c.fact 41 (f := .free ("bool" : Str)) rfl)
    · exact He.free_ok X Gn (c.fact 42 (f := .free ("str" : Str)) rfl)
    · exact He.free_ok X Gn (c.fact 43 (f := .free ("dict" : Str)) rfl)
    · exact He.free_ok X Gn (c.fact 44 (f := .free ("enumerate" : Str)) rfl)
    · exact He.free_ok X Gn (c.fact 45 (f := .free ("zip" : Str)) rfl)
    · exact He.free_ok X Gn (c.fact 46 (f := .free ("sorted" : Str)) rfl)
    · exact He.free_ok X Gn (c.fact 47 (f := .free ("set" : Str)) rfl)
    · exact He.free_ok X Gn (c.fact 48 (f := .free ("reversed" : Str)) rfl)
  have ha := atB_ok X Gn ex_at
  have hk := klB_ok X Gn ex_kl
  have hx := xmB_ok X Gn ex_xm
  have g0 : ∀ k, Sg P w ⟨K, mg⟩ base k { kls := gKls, xns := gXns } { fs := [], cs := [], at_ := gAts, kls := gKls, sub := [], xns := gXns, exm := gExm } := fun k => Sg.cls free ha hk hx
  obtain ⟨tk_MOST_OF_A_RANK, mc_MOST_OF_A_RANK⟩ := He.int_ok X Gn (c.fact 26 (f := .int ("MOST_OF_A_RANK" : Str) 100) rfl)
  obtain ⟨tk_MOST_RANKS, mc_MOST_RANKS⟩ := He.int_ok X Gn (c.fact 27 (f := .int ("MOST_RANKS" : Str) 8) rfl)
  have x_InvalidMost : Xc P w ⟨K, mg⟩ base ("InvalidMost" : Str) [("given" : Str)] := xcB_ok X Gn ex_InvalidMost (ps := [("given" : Str)]) D_InvalidMost___init__ s_InvalidMost___init__ rfl i_InvalidMost___init__ (by decide) (by decide) fun _ _ _ _ _ _ us hl => match us, hl with | [_, _], _ => rfl
  have x_InvalidPeople : Xc P w ⟨K, mg⟩ base ("InvalidPeople" : Str) [("given" : Str)] := xcB_ok X Gn ex_InvalidPeople (ps := [("given" : Str)]) D_InvalidPeople___init__ s_InvalidPeople___init__ rfl i_InvalidPeople___init__ (by decide) (by decide) fun _ _ _ _ _ _ us hl => match us, hl with | [_, _], _ => rfl
  have x_InvalidLessons : Xc P w ⟨K, mg⟩ base ("InvalidLessons" : Str) [("given" : Str)] := xcB_ok X Gn ex_InvalidLessons (ps := [("given" : Str)]) D_InvalidLessons___init__ s_InvalidLessons___init__ rfl i_InvalidLessons___init__ (by decide) (by decide) fun _ _ _ _ _ _ us hl => match us, hl with | [_, _], _ => rfl
  have C_law_box : Callee P w ⟨K, mg⟩ base 1 ("_law_box" : Str) F_law_box p_law_box := callee_of m_law_box D_law_box s_law_box rfl rfl b_law_box (g0 0) c_law_box
  have C_law_cell : Callee P w ⟨K, mg⟩ base 1 ("_law_cell" : Str) F_law_cell p_law_cell := callee_of m_law_cell D_law_cell s_law_cell rfl rfl b_law_cell (g0 0) c_law_cell
  have C_law_take : Callee P w ⟨K, mg⟩ base 1 ("_law_take" : Str) F_law_take p_law_take := callee_of m_law_take D_law_take s_law_take rfl rfl b_law_take (g0 0) c_law_take
  have C_law_tight : Callee P w ⟨K, mg⟩ base 2 ("_law_tight" : Str) F_law_tight p_law_tight := callee_of m_law_tight D_law_tight s_law_tight rfl rfl b_law_tight ((g0 1).addF C_law_take (by decide)) c_law_tight
  have C_law_plain : Callee P w ⟨K, mg⟩ base 2 ("_law_plain" : Str) F_law_plain p_law_plain := callee_of m_law_plain D_law_plain s_law_plain rfl rfl b_law_plain ((g0 1).addF C_law_take (by decide)) c_law_plain
  have C_law_spoilt : Callee P w ⟨K, mg⟩ base 2 ("_law_spoilt" : Str) F_law_spoilt p_law_spoilt := callee_of m_law_spoilt D_law_spoilt s_law_spoilt rfl rfl b_law_spoilt ((g0 1).addF C_law_take (by decide)) c_law_spoilt
  have C_law_sums : Callee P w ⟨K, mg⟩ base 1 ("_law_sums" : Str) F_law_sums p_law_sums := callee_of m_law_sums D_law_sums s_law_sums rfl rfl b_law_sums (g0 0) c_law_sums
  have C_law_ranks_row : Callee P w ⟨K, mg⟩ base 2 ("_law_ranks_row" : Str) F_law_ranks_row p_law_ranks_row := callee_of m_law_ranks_row D_law_ranks_row s_law_ranks_row rfl rfl b_law_ranks_row ((g0 1).addF C_law_sums (by decide)) c_law_ranks_row
  have C_law_rising : Callee P w ⟨K, mg⟩ base 1 ("_law_rising" : Str) F_law_rising p_law_rising := callee_of m_law_rising D_law_rising s_law_rising rfl rfl b_law_rising (g0 0) c_law_rising
  have C_law_has_groups : Callee P w ⟨K, mg⟩ base 2 ("_law_has_groups" : Str) F_law_has_groups p_law_has_groups := callee_of m_law_has_groups D_law_has_groups s_law_has_groups rfl rfl b_law_has_groups ((g0 1).addF C_law_sums (by decide)) c_law_has_groups
  have C_law_groups : Callee P w ⟨K, mg⟩ base 2 ("_law_groups" : Str) F_law_groups p_law_groups := callee_of m_law_groups D_law_groups s_law_groups rfl rfl b_law_groups ((g0 1).addF C_law_sums (by decide)) c_law_groups
  have C_first_above : Callee P w ⟨K, mg⟩ base 1 ("first_above" : Str) F_first_above p_first_above := callee_of m_first_above D_first_above s_first_above rfl rfl b_first_above (g0 0) c_first_above
  have C_is_ascending : Callee P w ⟨K, mg⟩ base 1 ("is_ascending" : Str) F_is_ascending p_is_ascending := callee_of m_is_ascending D_is_ascending s_is_ascending rfl rfl b_is_ascending (g0 0) c_is_ascending
  have C_row_of : Callee P w ⟨K, mg⟩ base 2 ("row_of" : Str) F_row_of p_row_of := callee_of m_row_of D_row_of s_row_of rfl rfl b_row_of (((g0 1).addF C_is_ascending (by decide)).addF C_first_above (by decide)) c_row_of
  have C_totals : Callee P w ⟨K, mg⟩ base 1 ("totals" : Str) F_totals p_totals := callee_of m_totals D_totals s_totals rfl rfl b_totals (g0 0) c_totals
  have C_row : Callee P w ⟨K, mg⟩ base 3 ("row" : Str) F_row p_row := callee_of m_row D_row s_row rfl rfl b_row (((g0 2).addF C_totals (by decide)).addF C_row_of (by decide)) c_row
  have C_stays : Callee P w ⟨K, mg⟩ base 4 ("stays" : Str) F_stays p_stays := callee_of m_stays D_stays s_stays rfl rfl b_stays (((g0 3).addF C_row (by decide)).addF C_is_ascending (by decide)) c_stays
  have C_parts : Callee P w ⟨K, mg⟩ base 5 ("parts" : Str) F_parts p_parts := callee_of m_parts D_parts s_parts rfl rfl b_parts ((((g0 4).addF C_row (by decide)).addF C_totals (by decide)).addF C_stays (by decide)) c_parts
  have C_law_same := callee_rec m_law_same D_law_same s_law_same rfl rfl b_law_same (g0 0) c_law_same 8
  change Callee P w ⟨K, mg⟩ base 8 ("_law_same" : Str) F_law_same p_law_same at C_law_same
  have C_law_right : Callee P w ⟨K, mg⟩ base 9 ("_law_right" : Str) F_law_right p_law_right := callee_of m_law_right D_law_right s_law_right rfl rfl b_law_right ((((((g0 8).addF C_law_same (by decide)).addF C_parts (by decide)).addF C_stays (by decide)).addF C_row (by decide)).addF C_law_take (by decide)) c_law_right
  have C_is_integer : Callee P w ⟨K, mg⟩ base 1 ("is_integer" : Str) F_is_integer p_is_integer := callee_of m_is_integer D_is_integer s_is_integer rfl rfl b_is_integer (g0 0) c_is_integer
  have C_is_between : Callee P w ⟨K, mg⟩ base 2 ("is_between" : Str) F_is_between p_is_between := callee_of m_is_between D_is_between s_is_between rfl rfl b_is_between ((g0 1).addF C_is_integer (by decide)) c_is_between
  have C_are_between : Callee P w ⟨K, mg⟩ base 3 ("are_between" : Str) F_are_between p_are_between := callee_of m_are_between D_are_between s_are_between rfl rfl b_are_between ((g0 2).addF C_is_between (by decide)) c_are_between
  have C_are_numbers : Callee P w ⟨K, mg⟩ base 4 ("are_numbers" : Str) F_are_numbers p_are_numbers := callee_of m_are_numbers D_are_numbers s_are_numbers rfl rfl b_are_numbers (((g0 3).addC mc_MOST_OF_A_RANK (v := .int 100) ⟨_, rfl⟩ fun _ _ => .int _).addF C_are_between (by decide)) c_are_numbers
  have M_Ranks : Maker P w ⟨K, mg⟩ base 5 ("Ranks" : Str) F_Ranks___init__ p_Ranks___init__ := maker_of m_Ranks k_Ranks D_Ranks___init__ s_Ranks___init__ rfl rfl b_Ranks___init__ ((((((((g0 4).addC mc_MOST_RANKS (v := .int 8) ⟨_, rfl⟩ fun _ _ => .int _).addC mc_MOST_OF_A_RANK (v := .int 100) ⟨_, rfl⟩ fun _ _ => .int _).addF C_are_numbers (by decide)).addF C_is_between (by decide)).addX x_InvalidLessons (by decide)).addX x_InvalidPeople (by decide)).addX x_InvalidMost (by decide)) c_Ranks___init__
  exact def_ok D_law s_law rfl rfl (((((((((((((g0 9).addF C_law_right (by decide)).addF C_law_groups (by decide)).addF C_law_has_groups (by decide)).addF C_law_rising (by decide)).addF C_law_ranks_row (by decide)).addF C_law_spoilt (by decide)).addF C_law_plain (by decide)).addF C_law_tight (by decide)).addF C_law_take (by decide)).addF C_law_cell (by decide)).addF C_law_box (by decide)).addM M_Ranks (by decide)) c_law
theorem law_true : ∀ ns : List Int, ns.length ≤ 63 → ∃ st, F_law [.scr ns] [] = .ok (.bl true) st := fun ns h => by
  obtain ⟨d, st, e, rfl⟩ := law_wr ns h
  have := r_law (.scr ns) []
  rw [e] at this
  exact ⟨st, this⟩
end Z
open PySem PySem.W PySem.Calls PyProof.Rows
theorem PySem.Challenge.cw_alwaysheld_k69_rows_stays_parts_holds : PySem.Challenge.rw_alwaysheld_k69_rows_stays_parts.Holds := by
  w_on; o_law
  refine HandSHeadRun.head_any (r := OpenLaw.row PySem.Challenge.rw_alwaysheld_k69_rows_stays_parts) (q := view (OpenLaw.row PySem.Challenge.rw_alwaysheld_k69_rows_stays_parts).prog [35]) (H := Z.hk) (ob := Z.ob) (M := 20000) (loose := Z.loose) (d := HandSHeadRun.topDef (OpenLaw.row PySem.Challenge.rw_alwaysheld_k69_rows_stays_parts).prog 35) (kwd := []) Z.ob_eq
    (by kernel_rfl) (fun s => by kernel_rfl) Z.runs (by kernel_rfl) (by kernel_rfl) (by kernel_rfl) (by rfl) (by first | assumption | decide +kernel) (by decide +kernel) ⟨rfl, rfl, rfl, rfl, rfl, by decide +kernel⟩ ?hw ?hc
  case hw => w_witness2
  case hc =>
    refine Z.walk_ofW (l := PySem.Challenge.rw_alwaysheld_k69_rows_stays_parts) (n := 63) (k := 10) (x := ("script" : PySem.Str)) (CX := fun w => L2.CX (PySem.Challenge.rw_alwaysheld_k69_rows_stays_parts).prog w) rfl (by decide) (by kernel_rfl) ⟨rfl, by decide, by decide⟩ ?F (fun w H s e s' z => Z.cx_end w H s e s' z)
    intro w mg fa h Y G hmg0
    obtain ⟨K, KX, c⟩ := Y
    have hmg : mg ("law" : PySem.Str) = some (.ref fa) := by
      have e : (HandSHeadRun.topDef (OpenLaw.row PySem.Challenge.rw_alwaysheld_k69_rows_stays_parts).prog 35).name = ("law" : PySem.Str) := by kernel_rfl
      rw [← e]
      exact hmg0
    obtain ⟨fd, hb, hF⟩ := Z.facts (P := (PySem.Challenge.rw_alwaysheld_k69_rows_stays_parts).prog) (w := w) KX G hmg c
    exact ⟨K, fd, Z.spF ⟨K, mg⟩ 1 Z.F_law, KX, hb, fun H a ns hl hS => Z.law_end ns hl hS Z.law_true, hF⟩
