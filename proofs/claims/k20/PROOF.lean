import PyProof.Rows.All
import Wide.All
import OpenK.AllK
import Wide.FinOn
import HandS.ForMost
import HandS.SortRule
import HandS.Walk
import HandS.Style
import HandS.TupAny
import HandS.Conv
import HandS.Small
import KE.KeyNested
import KE.KDictKeyed
import HandS.Dict
import KE.KDictDisplayH
import KE.GoesMore
import KE.KItemsList
import KE.GoesEnum
import HandS.Zip
import HandS.Exc
import HandS.ExcOwn
import HandS.TryOnly
import HandS.WordsExc
import HandS.Wide
import HandS.Deep
import HandS.SortInts
import HandS.IsInst
import HandS.Strs
import HandS.Remove
import HandS.More
import HandS.SetFor
import PySem.Challenge.RW_recentlist_k20_examples_by_hand
set_option Elab.async false
set_option linter.all false
set_option maxRecDepth 100000
/-! MPdef: a small language with slots, and its evaluator on plain data. -/
namespace MP
open PySem

abbrev D := PyData
abbrev ls (xs : List D) : D := PyData.list xs
abbrev tu (xs : List D) : D := PyData.tuple xs

/-- a mutable object's content; the kind of a dict: its keys are ints (false) or tuples of ints (true) -/
inductive Cell where
  | lst (xs : List D)
  | dic (k : Bool) (kvs : List (D × D))
def Cell.d : Cell → D
  | .lst xs => .list xs
  | .dic _ kvs => .dict kvs

/-- a local variable: not there, a value that never changes, an object by reference, an object that this variable alone holds -/
inductive Slot where
  | un
  | val (d : D)
  | loc (n : Nat)
  | own (c : Cell)

structure St where
  v : List Slot
  s : List Cell

/-- an expression's value: plain data, an object by reference, the object of slot i, a new object -/
inductive W where
  | d (x : D)
  | loc (n : Nat)
  | pl (i : Nat)
  | fr (c : Cell)

inductive R (α : Type) where
  | ok (a : α) (s : St)
  | exc (c : Str) (s : St)
abbrev M (α : Type) := St → Option (R α)
def M.ret {α : Type} (a : α) : M α := fun s => some (.ok a s)
def M.stuck {α : Type} : M α := fun _ => none
def M.bind {α β : Type} (m : M α) (f : α → M β) : M β := fun s => match m s with
  | none => none
  | some (.ok a s') => f a s'
  | some (.exc c s') => some (.exc c s')
def M.opt {α : Type} (o : Option α) : M α := fun s => match o with
  | none => none
  | some a => some (.ok a s)

/-! ### data -/
mutual
/-- no list and no dict in it -/
def noMut : D → Bool
  | .list _ => false
  | .dict _ => false
  | .tuple xs => noMutL xs
  | _ => true
def noMutL : List D → Bool
  | [] => true
  | x :: xs => noMut x && noMutL xs
end
def flatD : D → Bool
  | .none | .bool _ | .int _ | .str _ => true
  | _ => false
def LIM : Nat := 1000000
def ixD (n : Nat) (i : Int) : Option Nat := if 0 ≤ i then (if i < n then some i.toNat else none) else if -(n : Int) ≤ i then some (i + n).toNat else none
def atD (xs : List D) (i : Int) : Option D := (ixD xs.length i).bind fun j => xs[j]?
def cutD (xs : List D) (lo hi : Option Int) : List D := (xs.drop (HT.sIx xs.length 0 lo)).take (HT.sIx xs.length xs.length hi - HT.sIx xs.length 0 lo)
def asInt : D → Option Int
  | .int i => some i
  | _ => none
def asBool : D → Option Bool
  | .bool b => some b
  | _ => none
def items : D → Option (List D)
  | .list xs => some xs
  | .tuple xs => some xs
  | _ => none
def allInts : List D → Option (List Int)
  | [] => some []
  | .int i :: xs => (allInts xs).map (i :: ·)
  | _ => none
def allBools : List D → Option (List Bool)
  | [] => some []
  | .bool i :: xs => (allBools xs).map (i :: ·)
  | _ => none
def ins (x : Int) : List Int → List Int
  | [] => [x]
  | y :: ys => if x ≤ y then x :: y :: ys else y :: ins x ys
def isort : List Int → List Int
  | [] => []
  | x :: xs => ins x (isort xs)
/-- each once, in the order of first meeting -/
def dedup (ns : List Int) : List Int := ns.foldl (fun acc n => if acc.contains n then acc else acc ++ [n]) []
/-- the first index of an item equal to x -/
def findD (x : D) : List D → Option Nat
  | [] => none
  | y :: ys => if PyData.eqv y x then some 0 else (findD x ys).map (· + 1)

def binD (o : Operator) (x y : D) : Option W :=
  match o, x, y with
  | .Add, .int i, .int j => some (.d (.int (i + j)))
  | .Sub, .int i, .int j => some (.d (.int (i - j)))
  | .Mult, .int i, .int j => if (i.natAbs < 2 ^ 64 ∨ j.natAbs < 2 ^ 64) ∨ (i.natAbs < 2 ^ 1000 ∧ j.natAbs < 2 ^ 1000) then some (.d (.int (i * j))) else none
  | .FloorDiv, .int i, .int j => if 0 < j ∧ j < 1073741824 then some (.d (.int (i / j))) else none
  | .Mod, .int i, .int j => if 0 < j then some (.d (.int (i % j))) else none
  | .Pow, .int i, .int j => if 0 ≤ j ∧ j ≤ 1000 ∧ i.natAbs < 2 ^ 64 then some (.d (.int (i ^ j.toNat))) else none
  | .Add, .tuple a, .tuple b => if a.length + b.length ≤ LIM then some (.d (.tuple (a ++ b))) else none
  | .Add, .list a, .list b => if a.length + b.length ≤ LIM then some (.fr (.lst (a ++ b))) else none
  | .Mult, .list a, .int j => if a.length * j.toNat ≤ LIM ∧ j ≤ 1000000 ∧ -1000000 ≤ j then some (.fr (.lst (List.replicate j.toNat a).flatten)) else none
  | _, _, _ => none

/-- keys of dicts: whole numbers; tuples of whole numbers and such tuples, to depth 8 -/
def isIK : D → Bool
  | .int _ => true
  | _ => false
def noTup (kvs : List (D × D)) : Bool := kvs.all fun kv => isIK kv.1
mutual
def okKey : D → Bool
  | .int _ => true
  | .tuple ds => okKeyL ds
  | _ => false
def okKeyL : List D → Bool
  | [] => true
  | d :: ds => okKey d && okKeyL ds
end
def isTK : D → Bool
  | .tuple ds => okKeyL ds && decide (PyData.depth (.tuple ds) ≤ 8)
  | _ => false
def allTK (kvs : List (D × D)) : Bool := kvs.all fun kv => isTK kv.1
def lookD (k : D) : List (D × D) → Option D
  | [] => none
  | (a, b) :: r => if PyData.eqv a k then some b else lookD k r
def keyI : D → Bool
  | .int _ => true
  | _ => false
/-- d[k] = v: in its place, or at the end -/
def putD (kvs : List (D × D)) (k v : D) : List (D × D) := if kvs.any (fun kv => PyData.eqv kv.1 k) then kvs.map (fun kv => if PyData.eqv kv.1 k then (kv.1, v) else kv) else kvs ++ [(k, v)]
/-- lists of ints in the order of Python's tuples -/
def leL : List Int → List Int → Bool
  | [], _ => true
  | _ :: _, [] => false
  | x :: xs, y :: ys => decide (x < y) || (decide (x = y) && leL xs ys)
def insL (x : List Int) : List (List Int) → List (List Int)
  | [] => [x]
  | y :: ys => if leL x y then x :: y :: ys else y :: insL x ys
def isortL : List (List Int) → List (List Int)
  | [] => []
  | x :: xs => insL x (isortL xs)
def lstD : D → Option (List D)
  | .list xs => some xs
  | _ => none
def tupI : D → Option (List Int)
  | .tuple (x :: xs) => allInts (x :: xs)
  | _ => none
def allTups : List D → Option (List (List Int))
  | [] => some []
  | d :: ds => (tupI d).bind fun x => (allTups ds).map (x :: ·)

def dicD : D → Option (List (D × D))
  | .dict kvs => some kvs
  | _ => none
def tupD : D → Option (List D)
  | .tuple xs => some xs
  | _ => none
/-- lists of lists of ints in the order of Python's tuples -/
def leLL : List (List Int) → List (List Int) → Bool
  | [], _ => true
  | _ :: _, [] => false
  | x :: xs, y :: ys => if x = y then leLL xs ys else leL x y
def insLL (x : List (List Int)) : List (List (List Int)) → List (List (List Int))
  | [] => [x]
  | y :: ys => if leLL x y then x :: y :: ys else y :: insLL x ys
def isortLL : List (List (List Int)) → List (List (List Int))
  | [] => []
  | x :: xs => insLL x (isortLL xs)
def tupT : D → Option (List (List Int))
  | .tuple (x :: xs) => allTups (x :: xs)
  | _ => none
def allTups2 : List D → Option (List (List (List Int)))
  | [] => some []
  | d :: ds => (tupT d).bind fun x => (allTups2 ds).map (x :: ·)
/-- two dicts keyed by tuples, their values ints: are they equal? -/
def eqDic (k1 k2 : List (D × D)) : Option Bool := if allTK k1 && allTK k2 && (k1.map Prod.snd).all flatD && (k2.map Prod.snd).all flatD then some (decide (k1.length = k2.length) && k1.all fun kv => match lookD kv.1 k2 with
    | some v => PyData.eqv kv.2 v
    | none => false) else none
def rng3D (i j k : Int) : List D := (List.range ((j - i + k - 1) / k).toNat).map fun m => .int (i + (m : Nat) * k)
/-- a list's items, not too many -/
def fewL : D → Option (List D)
  | .list xs => if xs.length < 4000 then some xs else none
  | _ => none

/-- a comparison, by values -/
def cmpD (o : CmpOp) (x y : D) : Option Bool :=
  match o with
  | .Eq => if SeqAt.shaped x && SeqAt.shaped y then some (PyData.eqv x y) else none
  | .NotEq => if SeqAt.shaped x && SeqAt.shaped y then some (!PyData.eqv x y) else none
  | .Lt => (asInt x).bind fun i => (asInt y).bind fun j => some (decide (i < j))
  | .LtE => (asInt x).bind fun i => (asInt y).bind fun j => some (decide (i ≤ j))
  | .Gt => (asInt x).bind fun i => (asInt y).bind fun j => some (decide (j < i))
  | .GtE => (asInt x).bind fun i => (asInt y).bind fun j => some (decide (j ≤ i))
  | .In => match y with
    | .dict kvs => if isTK x && allTK kvs then some (kvs.any fun kv => PyData.eqv kv.1 x) else none
    | y => (items y).bind fun ys => if flatD x && ys.all flatD then some (ys.any fun z => PyData.eqv z x) else none
  | .NotIn => match y with
    | .dict kvs => if isTK x && allTK kvs then some (!kvs.any fun kv => PyData.eqv kv.1 x) else none
    | y => (items y).bind fun ys => if flatD x && ys.all flatD then some (!ys.any fun z => PyData.eqv z x) else none
  | .Is => match x, y with
    | .bool a, .bool b => some (decide (a = b))
    | .none, .none => some true
    | .dict _, _ => none
    | _, .none => some false
    | _, _ => none
  | .IsNot => match x, y with
    | .bool a, .bool b => some (!decide (a = b))
    | .none, .none => some false
    | .dict _, _ => none
    | _, .none => some true
    | _, _ => none

def idxD (x i : D) : Option D :=
  match x with
  | .list xs => (asInt i).bind fun j => atD xs j
  | .tuple xs => (asInt i).bind fun j => atD xs j
  | .dict kvs => if keyI i || isTK i then lookD i kvs else none
  | _ => none
def sliD (x : D) (lo hi : Option Int) : Option W :=
  match x with
  | .list xs => some (.fr (.lst (cutD xs lo hi)))
  | .tuple xs => some (.d (.tuple (cutD xs lo hi)))
  | _ => none
def revD (x : D) : Option W :=
  match x with
  | .list xs => some (.fr (.lst xs.reverse))
  | .tuple xs => some (.d (.tuple xs.reverse))
  | _ => none

/-- built-in functions of one argument -/
inductive Blt where
  | len | sum | max | min | all | sorted | list | tuple | int
  deriving DecidableEq
def bltD (f : Blt) (x : D) : Option W :=
  match f with
  | .len => (items x).bind fun xs => some (.d (.int (xs.length : Nat)))
  | .sum => match x with
    | .list xs => (allInts xs).bind fun ns => some (.d (.int ns.sum))
    | _ => none
  | .max => match x with
    | .list xs => (allInts xs).bind fun ns => match ns with
      | [] => none
      | n :: r => some (.d (.int (r.foldl max n)))
    | _ => none
  | .min => match x with
    | .list xs => (allInts xs).bind fun ns => match ns with
      | [] => none
      | n :: r => some (.d (.int (r.foldl min n)))
    | _ => none
  | .all => match x with
    | .list xs => (allBools xs).bind fun bs => some (.d (.bool (bs.all id)))
    | _ => none
  | .sorted => match x with
    | .list xs => (allInts xs).bind fun ns => some (.fr (.lst ((isort ns).map PyData.int)))
    | .tuple xs => (allInts xs).bind fun ns => some (.fr (.lst ((isort ns).map PyData.int)))
    | .dict kvs => (allInts (kvs.map Prod.fst)).bind fun ns => if ns.length < 64 then some (.fr (.lst ((isort ns).map PyData.int))) else none
    | _ => none
  | .list => (items x).bind fun xs => some (.fr (.lst xs))
  | .tuple => (items x).bind fun xs => some (.d (.tuple xs))
  | .int => match x with
    | .bool b => some (.d (.int (if b then 1 else 0)))
    | _ => none

/-- isinstance(x, T) for the names of built-in classes -/
def tyD : D → Option String
  | .none => some "NoneType"
  | .bool _ => some "bool"
  | .int _ => some "int"
  | .str _ => some "str"
  | .list _ => some "list"
  | .tuple _ => some "tuple"
  | .dict _ => none
def isiD (x : D) (ts : List String) : Option Bool := (tyD x).bind fun t => some (ts.any fun u => u == t || (t == "bool" && u == "int"))

/-- methods of lists and tuples: the object's content, the arguments; the answer and the new content -/
inductive Mth where
  | append | pop | popAt | insert | remove | index | get2 | indexD
  deriving DecidableEq
def mthD (m : Mth) (c : D) (as : List D) : Option (W × Option Cell) :=
  match m, c, as with
  | .append, .list xs, [y] => if xs.length < LIM then some (.d .none, some (.lst (xs ++ [y]))) else none
  | .pop, .list xs, [] => (xs[xs.length - 1]?).bind fun y => some (.d y, some (.lst xs.dropLast))
  | .popAt, .list xs, [i] => (asInt i).bind fun i => if i.toNat < LIM ∧ 0 ≤ i then (xs[i.toNat]?).bind fun y => some (.d y, some (.lst (xs.eraseIdx i.toNat))) else none
  | .insert, .list xs, [.int 0, y] => if xs.length < LIM then some (.d .none, some (.lst (y :: xs))) else none
  | .remove, .list xs, [.int k] => (allInts xs).bind fun ns => if k ∈ ns then some (.d .none, some (.lst ((ns.erase k).map PyData.int))) else none
  | .index, .tuple xs, [y] => if flatD y && xs.all flatD then (findD y xs).bind fun j => some (.d (.int (j : Nat)), none) else none
  | .index, .list xs, [y] => if flatD y && xs.all flatD then (findD y xs).bind fun j => some (.d (.int (j : Nat)), none) else none
  | .indexD, .tuple xs, [y] => if SeqAt.shaped y && SeqAt.shaped (.tuple xs) then (findD y xs).bind fun j => some (.d (.int (j : Nat)), none) else none
  | .get2, .dict kvs, [k, y] => if (keyI k && noTup kvs) || (isTK k && allTK kvs) then some (.d ((lookD k kvs).getD y), none) else none
  | _, _, _ => none

def kindD : D → Nat
  | .list _ => 1
  | .tuple _ => 2
  | .dict _ => 3
  | _ => 0

/-- the type and the built-in of a method -/
def mthT (m : Mth) (c : D) : Option (String × String) := match m, kindD c with
  | .append, 1 => some ("list", "list.append")
  | .pop, 1 => some ("list", "list.pop")
  | .popAt, 1 => some ("list", "list.pop")
  | .insert, 1 => some ("list", "list.insert")
  | .remove, 1 => some ("list", "list.remove")
  | .index, 1 => some ("list", "list.index")
  | .index, 2 => some ("tuple", "tuple.index")
  | .indexD, 2 => some ("tuple", "tuple.index")
  | .get2, 3 => some ("dict", "dict.get")
  | _, _ => none
/-- a tuple's items, fewer than 64 -/
def fewT63 : D → Option (List D)
  | .tuple xs => if xs.length < 64 then some xs else none
  | _ => none
/-- a tuple's items, not too many -/
def fewT : D → Option (List D)
  | .tuple xs => if xs.length < 4000 then some xs else none
  | _ => none

/-! ### the language -/
inductive Tgt where
  | one (i : Nat)
  | many (is : List Nat)

mutual
inductive Ex where
  | var (i : Nat)
  | con (d : D)
  | glo (x : Str) (i : Int)
  | tup (es : Exs)
  | lst (es : Exs)
  | bin (o : Operator) (a b : Ex)
  | neg (a : Ex)
  | cmp (o : CmpOp) (a b : Ex)
  | chain (o o2 : CmpOp) (a b c : Ex)
  | and (a b : Ex)
  | or (a b : Ex)
  | one (a : Ex)
  | not (a : Ex)
  | ifx (c a b : Ex)
  | idx (a b : Ex)
  | sli (a : Ex) (lo hi : Exo)
  | rev (a : Ex)
  | call (f : Str) (e : Ex) (es : Exs)
  | blt (f : Blt) (a : Ex)
  | lens (a : Ex)
  | trg1 (b : Ex)
  | trg2 (a b : Ex)
  | isi (a : Ex) (ts : List String)
  | mth (m : Mth) (o : Ex) (es : Exs)
  | comp (elt : Ex) (tg : Tgt) (it : It) (cond : Exo)
  | comp2 (elt : Ex) (tg : Tgt) (it : It) (cond : Exo) (tg1 : Tgt) (it1 : It) (cond1 : Exo)
  | dnew
  | dis (k v : Ex)
  | disT (k v : Ex)
  | mm2 (mx : Bool) (a b : Ex)
  | call0 (f : Str)
  | lzip (a b : Ex)
  | srtT (a : Ex)
  | srtS (a : Ex)
  | srtK (a : Ex)
  | lensL (a : Ex)
  | trg3 (i j k : Int)
  | sumV (a : Ex)
  | sumT (a : Ex)
  | dmax (a : Ex)
  | neD (a b : Ex)
  | srtK2 (a : Ex)
inductive Exo where
  | no
  | yes (e : Ex)
inductive Exs where
  | nil
  | cons (e : Ex) (es : Exs)
inductive It where
  | over (e : Ex)
  | rng1 (b : Ex)
  | rng2 (a b : Ex)
  | enum (e : Ex)
  | zip (a b : Ex)
  | keys (e : Ex)
  | keysT (e : Ex)
inductive Sm where
  | asg (i : Nat) (e : Ex)
  | asgT (is : List Nat) (e : Ex)
  | par (is : List Nat) (es : Exs)
  | setI (o i e : Ex)
  | par2S (o1 i1 e1 o2 i2 e2 : Ex)
  | expr (e : Ex)
  | ret (e : Ex)
  | ifs (c : Ex) (a b : Sms)
  | loop (tg : Tgt) (it : It) (b : Sms)
  | whl (c : Ex) (b : Sms)
  | rai (c : Str)
  | brk
  | pass
inductive Sms where
  | nil
  | cons (s : Sm) (ss : Sms)
end

/-! ### the state -/
def St.look (st : St) (i : Nat) : Option W := match st.v[i]? with
  | some (.val d) => some (.d d)
  | some (.loc n) => some (.loc n)
  | some (.own _) => some (.pl i)
  | _ => none
/-- the content that a value shows now -/
def St.view (st : St) : W → Option D
  | .d x => some x
  | .loc n => st.s[n]?.map Cell.d
  | .pl i => match st.v[i]? with
    | some (.own c) => some c.d
    | some (.val d) => some d
    | _ => none
  | .fr c => some c.d
def view (w : W) : M D := fun st => (st.view w).bind fun d => some (.ok d st)
/-- the value is kept somewhere: a variable's object becomes one that never changes -/
def keep (w : W) : M D := fun st => match w with
  | .d x => some (.ok x st)
  | .loc _ => none
  | .fr c => some (.ok c.d st)
  | .pl i => match st.v[i]? with
    | some (.own c) => some (.ok c.d { st with v := st.v.set i (.val c.d) })
    | some (.val d) => some (.ok d st)
    | _ => none
/-- a call's argument: a new object becomes one that never changes; a variable's object is lent -/
def lend (w : W) : M W := fun st => match w with
  | .fr c => some (.ok (.d c.d) st)
  | w => some (.ok w st)
def noMutC : Cell → Bool
  | .lst xs => noMutL xs
  | .dic _ _ => false
/-- the object that w is gets new content -/
def setCell (w : W) (c : Cell) : M Unit := fun st => match w with
  | .pl i => match st.v[i]? with
    | some (.own _) => some (.ok () { st with v := st.v.set i (.own c) })
    | _ => none
  | .loc n => if n < st.s.length ∧ noMutC c = true then some (.ok () { st with s := st.s.set n c }) else none
  | _ => none
/-- what a variable will hold of w: an object that a variable holds moves -/
def take (w : W) : M Slot := fun st => match w with
  | .d x => some (.ok (.val x) st)
  | .loc n => some (.ok (.loc n) st)
  | .fr c => some (.ok (.own c) st)
  | .pl j => match st.v[j]? with
    | some (.own c) => some (.ok (.own c) { st with v := st.v.set j .un })
    | some (.val d) => some (.ok (.val d) st)
    | _ => none
def takes : List W → M (List Slot)
  | [] => M.ret []
  | w :: ws => (take w).bind fun a => (takes ws).bind fun as => M.ret (a :: as)
def putSlot (i : Nat) (a : Slot) : M Unit := fun st => if i < st.v.length then some (.ok () { st with v := st.v.set i a }) else none
def putSlots : List Nat → List Slot → M Unit
  | [], [] => M.ret ()
  | i :: is, a :: as => (putSlot i a).bind fun _ => putSlots is as
  | _, _ => M.stuck
def putTgt (t : Tgt) (d : D) : M Unit := match t with
  | .one i => putSlot i (.val d)
  | .many is => match d with
    | .tuple ds => putSlots is (ds.map Slot.val)
    | _ => M.stuck
/-- the slots as a comprehension's block sees them -/
def Slot.borrow : Slot → Slot
  | .own c => .val c.d
  | x => x
def tgtIs : Tgt → List Nat
  | .one i => [i]
  | .many is => is
def wipeS (v : List Slot) (is : List Nat) : List Slot := is.foldl (fun v i => v.set i .un) v

/-- an argument of a call; what a call hands back -/
inductive CW where
  | d (x : D)
  | fr (c : Cell)
inductive CR where
  | ok (w : CW) (s : List Cell)
  | exc (c : Str) (s : List Cell)
abbrev CallF := Str → List Slot → List Cell → Option CR
def argOf (st : St) : W → Option Slot
  | .d x => some (.val x)
  | .loc n => some (.loc n)
  | .fr _ => none
  | .pl i => (st.view (.pl i)).map Slot.val
def argsOf (st : St) : List W → Option (List Slot)
  | [] => some []
  | w :: ws => (argOf st w).bind fun a => (argsOf st ws).bind fun as => some (a :: as)
/-- the variables' objects among the arguments become such as never change -/
def frz1 (v : List Slot) (i : Nat) : List Slot := match v[i]? with
  | some (.own c) => v.set i (.val c.d)
  | _ => v
def freezeAll (v : List Slot) : List W → List Slot
  | [] => v
  | .pl i :: ws => freezeAll (frz1 v i) ws
  | _ :: ws => freezeAll v ws
def callW (cf : CallF) (f : Str) (ws : List W) : M W := fun st =>
  (argsOf st ws).bind fun as => (cf f as st.s).bind fun r => match r with
    | .ok (.d x) s' => if noMut x then some (.ok (.d x) { st with s := s' }) else some (.ok (.d x) { v := freezeAll st.v ws, s := s' })
    | .ok (.fr c) s' => some (.ok (.fr c) { v := freezeAll st.v ws, s := s' })
    | .exc c s' => some (.exc c { v := freezeAll st.v ws, s := s' })

inductive Fl where
  | nx | brk
  | ret (w : CW)

/-! ### loops -/
def forF (tg : Tgt) (b : M Fl) : List D → M Fl
  | [] => M.ret .nx
  | x :: xs => (putTgt tg x).bind fun _ => b.bind fun f => match f with
    | .nx => forF tg b xs
    | .brk => M.ret .nx
    | .ret w => M.ret (.ret w)
def whlF (c : M Bool) (b : M Fl) : Nat → M Fl
  | 0 => M.stuck
  | n + 1 => c.bind fun t => if t then b.bind fun f => (match f with
    | .nx => whlF c b n
    | .brk => M.ret .nx
    | .ret w => M.ret (.ret w)) else M.ret .nx
/-- a comprehension's turns: each in the slots v; only the objects by reference change -/
def compF (tg : Tgt) (v : List Slot) (c : M Bool) (e : M D) : List D → List Cell → Option (List D × List Cell)
  | [], s => some ([], s)
  | x :: xs, s => match putTgt tg x { v := v, s := s } with
    | some (.ok _ st1) => match c st1 with
      | some (.ok true st2) => match e st2 with
        | some (.ok d st3) => if noMut d then (compF tg v c e xs st3.s).map fun (ds, s') => (d :: ds, s') else none
        | _ => none
      | some (.ok false st2) => compF tg v c e xs st2.s
      | _ => none
    | _ => none
def notOwn : Slot → Bool
  | .own _ => false
  | _ => true
/-- a comprehension of two clauses -/
def compF2 (tg : Tgt) (v : List Slot) (c : M Bool) (it1 : M (List D)) (tg1 : Tgt) (c1 : M Bool) (e : M D) : List D → List Cell → Option (List D × List Cell)
  | [], s => some ([], s)
  | x :: xs, s => match putTgt tg x { v := v, s := s } with
    | some (.ok _ st1) => match c st1 with
      | some (.ok true st2) => match it1 st2 with
        | some (.ok ys st3) => if st3.v.all notOwn then (compF tg1 (wipeS st3.v (tgtIs tg1)) c1 e ys st3.s).bind fun (ds, s3) => (compF2 tg v c it1 tg1 c1 e xs s3).map fun (es, s') => (ds ++ es, s') else none
        | _ => none
      | some (.ok false st2) => compF2 tg v c it1 tg1 c1 e xs st2.s
      | _ => none
    | _ => none
def WF : Nat := 1000000

def rngD (a b : Int) : List D := (List.range (b - a).toNat).map fun i => .int (a + (i : Nat))
def enumD (xs : List D) (n : Nat) : List D := match xs with
  | [] => []
  | x :: r => .tuple [.int (n : Nat), x] :: enumD r (n + 1)
def zipD : List D → List D → List D
  | x :: xs, y :: ys => .tuple [x, y] :: zipD xs ys
  | _, _ => []

/-- locks a dict: its keys; from then on it never changes -/
def lockW (w : W) : M (List D) := fun st => match w with
  | .fr (.dic false kvs) => some (.ok (kvs.map Prod.fst) st)
  | .pl i => match st.v[i]? with
    | some (.own (.dic false kvs)) => some (.ok (kvs.map Prod.fst) { st with v := st.v.set i (.val (.dict kvs)) })
    | _ => none
  | _ => none
/-- the keys of a dict keyed by tuples; from then on it never changes -/
def lockT (w : W) : M (List D) := fun st => match w with
  | .pl i => match st.v[i]? with
    | some (.own (.dic true kvs)) => some (.ok (kvs.map Prod.fst) { st with v := st.v.set i (.val (.dict kvs)) })
    | _ => none
  | _ => none
/-- two lists, or two tuples -/
def zipK : D → D → Option (List D × List D)
  | .list xs, .list ys => some (xs, ys)
  | .tuple xs, .tuple ys => some (xs, ys)
  | _, _ => none

/-! ### the evaluator -/
def toBool (w : W) : M Bool := (view w).bind fun d => M.opt (asBool d)
def toInt (w : W) : M Int := (view w).bind fun d => M.opt (asInt d)
mutual
def evE (cf : CallF) : Ex → M W
  | .var i => fun st => (st.look i).bind fun w => some (.ok w st)
  | .con d => M.ret (.d d)
  | .glo _ i => M.ret (.d (.int i))
  | .tup es => (evKs cf es).bind fun ds => M.ret (.d (.tuple ds))
  | .lst es => (evKs cf es).bind fun ds => M.ret (.fr (.lst ds))
  | .bin o a b => (evE cf a).bind fun x => (evE cf b).bind fun y => (view x).bind fun p => (view y).bind fun q => M.opt (binD o p q)
  | .neg a => (evE cf a).bind fun x => (toInt x).bind fun i => M.ret (.d (.int (-i)))
  | .cmp o a b => (evE cf a).bind fun x => (evE cf b).bind fun y => (view x).bind fun p => (view y).bind fun q => (M.opt (cmpD o p q)).bind fun t => M.ret (.d (.bool t))
  | .chain o o2 a b c => (evE cf a).bind fun x => (evE cf b).bind fun y => (view x).bind fun p => (view y).bind fun q => (M.opt (cmpD o p q)).bind fun t =>
      if t then (evE cf c).bind fun z => (view y).bind fun q => (view z).bind fun r => (M.opt (cmpD o2 q r)).bind fun t => M.ret (.d (.bool t)) else M.ret (.d (.bool false))
  | .and a b => (evE cf a).bind fun x => (toBool x).bind fun t => if t then evE cf b else M.ret (.d (.bool false))
  | .or a b => (evE cf a).bind fun x => (toBool x).bind fun t => if t then M.ret (.d (.bool true)) else evE cf b
  | .one a => evE cf a
  | .not a => (evE cf a).bind fun x => (toBool x).bind fun t => M.ret (.d (.bool (!t)))
  | .ifx c a b => (evE cf c).bind fun x => (toBool x).bind fun t => if t then evE cf a else evE cf b
  | .idx a b => (evE cf a).bind fun x => (evE cf b).bind fun y => (view x).bind fun p => (view y).bind fun q => (M.opt (idxD p q)).bind fun d => M.ret (.d d)
  | .sli a lo hi => (evE cf a).bind fun x => (evO cf lo).bind fun l => (evO cf hi).bind fun h => (view x).bind fun p => M.opt (sliD p l h)
  | .rev a => (evE cf a).bind fun x => (view x).bind fun p => M.opt (revD p)
  | .call f e es => (evE cf e).bind fun w => (lend w).bind fun w => (evAs cf es).bind fun ws => callW cf f (w :: ws)
  | .blt f a => (evE cf a).bind fun x => (view x).bind fun p => M.opt (bltD f p)
  | .lens a => (evE cf a).bind fun x => (view x).bind fun p => (M.opt (fewT p)).bind fun xs => (M.opt (allInts xs)).bind fun ns => M.ret (.d (.int ((dedup ns).length : Nat)))
  | .trg1 b => (evE cf b).bind fun y => (toInt y).bind fun j => if 0 ≤ j ∧ j ≤ 1000000 then M.ret (.d (.tuple (rngD 0 j))) else M.stuck
  | .trg2 a b => (evE cf a).bind fun x => (evE cf b).bind fun y => (toInt x).bind fun i => (toInt y).bind fun j => if 0 ≤ i ∧ i ≤ 1000000 ∧ 0 ≤ j ∧ j ≤ 1000000 then M.ret (.d (.tuple (rngD i j))) else M.stuck
  | .isi a ts => (evE cf a).bind fun x => (view x).bind fun p => (M.opt (isiD p ts)).bind fun t => M.ret (.d (.bool t))
  | .mth m o es => (evE cf o).bind fun w => (view w).bind fun c0 => (M.opt (mthT m c0)).bind fun _ => (evKs cf es).bind fun ds => (view w).bind fun c => if kindD c0 != kindD c then M.stuck else (M.opt (mthD m c ds)).bind fun r =>
      match r.2 with
      | none => M.ret r.1
      | some c' => (setCell w c').bind fun _ => M.ret r.1
  | .comp elt tg it cond => (evI cf it).bind fun xs => if LIM < xs.length then M.stuck else fun st =>
      (compF tg (wipeS (st.v.map Slot.borrow) (tgtIs tg)) (evC cf cond) ((evE cf elt).bind keep) xs st.s).bind fun (ds, s') => some (.ok (.fr (.lst ds)) { st with s := s' })
  | .comp2 elt tg it cond tg1 it1 cond1 => (evI cf it).bind fun xs => if LIM < xs.length then M.stuck else fun st =>
      (compF2 tg (wipeS (st.v.map Slot.borrow) (tgtIs tg ++ tgtIs tg1)) (evC cf cond) (evI cf it1) tg1 (evC cf cond1) ((evE cf elt).bind keep) xs st.s).bind fun (ds, s') => if LIM < ds.length then none else some (.ok (.fr (.lst ds)) { st with s := s' })
  | .dnew => M.ret (.fr (.dic false []))
  | .disT k v => (evE cf k).bind fun x => (keep x).bind fun kd => (evE cf v).bind fun y => (keep y).bind fun d => if isTK kd = true then M.ret (.fr (.dic true [(kd, d)])) else M.stuck
  | .dis k v => (evE cf k).bind fun x => (toInt x).bind fun i => (evE cf v).bind fun y => (keep y).bind fun d => M.ret (.fr (.dic false [(.int i, d)]))
  | .mm2 mx a b => (evE cf a).bind fun x => (evE cf b).bind fun y => (toInt x).bind fun i => (toInt y).bind fun j => M.ret (.d (.int (if mx then max i j else min i j)))
  | .call0 f => callW cf f []
  | .lzip a b => (evE cf a).bind fun x => (keep x).bind fun p => (evE cf b).bind fun y => (keep y).bind fun q => (M.opt (items p)).bind fun xs => (M.opt (items q)).bind fun ys => M.ret (.fr (.lst (zipD xs ys)))
  | .srtT a => (evE cf a).bind fun x => (view x).bind fun p => (M.opt (lstD p)).bind fun xs => (M.opt (allTups xs)).bind fun ts => M.ret (.fr (.lst ((isortL ts).map fun t => .tuple (t.map PyData.int))))
  | .srtS a => (evE cf a).bind fun x => (view x).bind fun p => (M.opt (fewT63 p)).bind fun xs => (M.opt (allInts xs)).bind fun ns => M.ret (.fr (.lst ((isort (dedup ns)).map PyData.int)))
  | .srtK a => (evE cf a).bind fun x => (view x).bind fun p => (M.opt (dicD p)).bind fun kvs => (M.opt (allTups (kvs.map Prod.fst))).bind fun ts => M.ret (.fr (.lst ((isortL ts).map fun t => .tuple (t.map PyData.int))))
  | .lensL a => (evE cf a).bind fun x => (view x).bind fun p => (M.opt (fewL p)).bind fun xs => (M.opt (allInts xs)).bind fun ns => M.ret (.d (.int ((dedup ns).length : Nat)))
  | .trg3 i j k => M.ret (.d (.tuple (rng3D i j k)))
  | .sumV a => (evE cf a).bind fun x => (view x).bind fun p => (M.opt (dicD p)).bind fun kvs => (M.opt (allInts (kvs.map Prod.snd))).bind fun ns => M.ret (.d (.int ns.sum))
  | .sumT a => (evE cf a).bind fun x => (view x).bind fun p => (M.opt (tupD p)).bind fun xs => (M.opt (allInts xs)).bind fun ns => M.ret (.d (.int ns.sum))
  | .dmax a => (evE cf a).bind fun x => (view x).bind fun p => (M.opt (dicD p)).bind fun kvs => (M.opt (allInts (kvs.map Prod.fst))).bind fun ns => match ns with
    | [] => M.stuck
    | n :: r => M.ret (.d (.int (r.foldl max n)))
  | .neD a b => (evE cf a).bind fun x => (evE cf b).bind fun y => (view x).bind fun p => (view y).bind fun q => (M.opt (dicD p)).bind fun k1 => (M.opt (dicD q)).bind fun k2 => (M.opt (eqDic k1 k2)).bind fun t => M.ret (.d (.bool (!t)))
  | .srtK2 a => (evE cf a).bind fun x => (view x).bind fun p => (M.opt (dicD p)).bind fun kvs => (M.opt (allTups2 (kvs.map Prod.fst))).bind fun ts => M.ret (.fr (.lst ((isortLL ts).map fun t => .tuple (t.map fun u => .tuple (u.map PyData.int)))))
def evO (cf : CallF) : Exo → M (Option Int)
  | .no => M.ret none
  | .yes e => (evE cf e).bind fun w => (toInt w).bind fun i => M.ret (some i)
def evC (cf : CallF) : Exo → M Bool
  | .no => M.ret true
  | .yes e => (evE cf e).bind toBool
def evEs (cf : CallF) : Exs → M (List W)
  | .nil => M.ret []
  | .cons e es => (evE cf e).bind fun w => (evEs cf es).bind fun ws => M.ret (w :: ws)
def evAs (cf : CallF) : Exs → M (List W)
  | .nil => M.ret []
  | .cons e es => (evE cf e).bind fun w => (lend w).bind fun w => (evAs cf es).bind fun ws => M.ret (w :: ws)
def evKs (cf : CallF) : Exs → M (List D)
  | .nil => M.ret []
  | .cons e es => (evE cf e).bind fun w => (keep w).bind fun d => (evKs cf es).bind fun ds => M.ret (d :: ds)
/-- what is walked: the items; the object that is walked never changes from then on -/
def evI (cf : CallF) : It → M (List D)
  | .over e => (evE cf e).bind fun w => (keep w).bind fun d => M.opt (items d)
  | .rng1 b => (evE cf b).bind fun y => (toInt y).bind fun j => if -1000000 ≤ j ∧ j ≤ 1000000 then M.ret (rngD 0 j) else M.stuck
  | .rng2 a b => (evE cf a).bind fun x => (evE cf b).bind fun y => (toInt x).bind fun i => (toInt y).bind fun j => if -1000000 ≤ i ∧ i ≤ 1000000 ∧ -1000000 ≤ j ∧ j ≤ 1000000 then M.ret (rngD i j) else M.stuck
  | .enum e => (evE cf e).bind fun w => (keep w).bind fun d => (M.opt (items d)).bind fun xs => M.ret (enumD xs 0)
  | .zip a b => (evE cf a).bind fun x => (keep x).bind fun p => (evE cf b).bind fun y => (keep y).bind fun q => (M.opt (zipK p q)).bind fun xy => M.ret (zipD xy.1 xy.2)
  | .keys e => (evE cf e).bind lockW
  | .keysT e => (evE cf e).bind lockT
end
def setD (c i v : D) : Option Cell :=
  match c, i with
  | .list xs, .int k => (ixD xs.length k).map fun j => .lst (xs.set j v)
  | .dict kvs, .int k => if noTup kvs = true ∧ kvs.length < LIM then some (.dic false (putD kvs (.int k) v)) else none
  | .dict kvs, .tuple ks => if isTK (.tuple ks) = true ∧ allTK kvs = true ∧ kvs.length < LIM then some (.dic true (putD kvs (.tuple ks) v)) else none
  | _, _ => none
/-- o[i] = d -/
def storeI (cf : CallF) (o i : Ex) (d : D) : M Unit := (evE cf o).bind fun x => (evE cf i).bind fun y => (view x).bind fun c => (view y).bind fun k => (M.opt (setD c k d)).bind fun c' => setCell x c'
def retW (w : W) : M CW := fun st => match w with
  | .d x => some (.ok (.d x) st)
  | .fr c => some (.ok (.fr c) st)
  | .loc _ => none
  | .pl i => match st.v[i]? with
    | some (.own c) => some (.ok (.fr c) { st with v := st.v.set i .un })
    | some (.val d) => some (.ok (.d d) st)
    | _ => none
mutual
def exS (cf : CallF) : Sm → M Fl
  | .asg i e => (evE cf e).bind fun w => (take w).bind fun a => (putSlot i a).bind fun _ => M.ret .nx
  | .asgT is e => (evE cf e).bind fun w => (keep w).bind fun d => (putTgt (.many is) d).bind fun _ => M.ret .nx
  | .par is es => (evEs cf es).bind fun ws => (takes ws).bind fun as => (putSlots is as).bind fun _ => M.ret .nx
  | .setI o i e => (evE cf e).bind fun w => (keep w).bind fun v => (evE cf o).bind fun x => (evE cf i).bind fun y => (view x).bind fun c => (view y).bind fun k => (M.opt (setD c k v)).bind fun c' => (setCell x c').bind fun _ => M.ret .nx
  | .par2S o1 i1 e1 o2 i2 e2 => (evKs cf (.cons e1 (.cons e2 .nil))).bind fun ds => match ds with
    | [d1, d2] => (storeI cf o1 i1 d1).bind fun _ => (storeI cf o2 i2 d2).bind fun _ => M.ret .nx
    | _ => M.stuck
  | .expr e => (evE cf e).bind fun _ => M.ret .nx
  | .ret e => (evE cf e).bind fun w => (retW w).bind fun r => M.ret (.ret r)
  | .ifs c a b => (evE cf c).bind fun w => (toBool w).bind fun t => if t then exB cf a else exB cf b
  | .loop tg it b => (evI cf it).bind fun xs => forF tg (exB cf b) xs
  | .whl c b => whlF ((evE cf c).bind toBool) (exB cf b) WF
  | .rai c => fun st => some (.exc c st)
  | .brk => M.ret .brk
  | .pass => M.ret .nx
def exB (cf : CallF) : Sms → M Fl
  | .nil => M.ret .nx
  | .cons s ss => (exS cf s).bind fun f => match f with
    | .nx => exB cf ss
    | .brk => M.ret .brk
    | .ret w => M.ret (.ret w)
end

/-! ### a program -/
/-- a def: its names by slot, the parameters first, how many these are, its body -/
structure Def where
  np : Nat
  N : List Str
  body : Sms
def runD (cf : CallF) (d : Def) (as : List Slot) (s : List Cell) : Option CR :=
  if as.length = d.np then (match exB cf d.body { v := as ++ List.replicate (d.N.length - d.np) .un, s := s } with
    | some (.ok .nx st) => some (.ok (.d .none) st.s)
    | some (.ok (.ret w) st) => some (.ok w st.s)
    | some (.ok .brk _) => none
    | some (.exc c st) => some (.exc c st.s)
    | none => none) else none
def run (defs : Str → Option Def) : Nat → CallF
  | 0 => fun _ _ _ => none
  | n + 1 => fun f as s => (defs f).bind fun d => runD (run defs n) d as s
end MP
set_option maxHeartbeats 2000000
/-! MPxa: more rules: tuples of ints sorted; dicts by values; walks over a dict. -/
namespace MP
open PySem L2 PySem.Spec PyProof.Rows

/-! ### lists of ints in order -/
def ltL : List Int → List Int → Bool
  | [], [] => false
  | [], _ :: _ => true
  | _ :: _, [] => false
  | x :: xs, y :: ys => if x = y then ltL xs ys else decide (x < y)
theorem ltL_cons {x y : Int} {xs ys : List Int} : ltL (x :: xs) (y :: ys) = if x = y then ltL xs ys else decide (x < y) := rfl
theorem ltL_asym : ∀ x y : List Int, ltL x y = true → ltL y x = false
  | [], [], h => by cases h
  | [], _ :: _, _ => rfl
  | _ :: _, [], h => by cases h
  | x :: xs, y :: ys, h => by
    rw [ltL_cons] at h ⊢
    by_cases e : x = y
    · rw [if_pos e] at h
      rw [if_pos e.symm]
      exact ltL_asym xs ys h
    · rw [if_neg e] at h
      rw [if_neg (fun z => e z.symm)]
      have := of_decide_eq_true h
      exact decide_eq_false (by omega)
theorem ltL_tr : ∀ x y z : List Int, ltL y x = false → ltL z y = false → ltL z x = false
  | [], _, [], _, _ => rfl
  | [], [], _ :: _, _, _ => rfl
  | [], _ :: _, _ :: _, _, _ => rfl
  | x :: xs, [], _, h, _ => by cases h
  | x :: xs, y :: ys, [], _, h => by cases h
  | x :: xs, y :: ys, z :: zs, h1, h2 => by
    rw [ltL_cons] at h1 h2 ⊢
    by_cases e1 : y = x
    · rw [if_pos e1] at h1
      by_cases e2 : z = y
      · rw [if_pos e2] at h2
        rw [if_pos (e2.trans e1)]
        exact ltL_tr xs ys zs h1 h2
      · rw [if_neg e2] at h2
        rw [if_neg (fun q => e2 (q.trans e1.symm))]
        have := of_decide_eq_false h2
        exact decide_eq_false (by omega)
    · rw [if_neg e1] at h1
      have a := of_decide_eq_false h1
      by_cases e2 : z = y
      · rw [if_neg (fun q => e1 (e2.symm.trans q))]
        exact decide_eq_false (by omega)
      · rw [if_neg e2] at h2
        have b := of_decide_eq_false h2
        rw [if_neg (by omega)]
        exact decide_eq_false (by omega)
theorem ltL_total : ∀ x y : List Int, ltL x y = false → ltL y x = false → x = y
  | [], [], _, _ => rfl
  | [], _ :: _, h, _ => by cases h
  | _ :: _, [], _, h => by cases h
  | x :: xs, y :: ys, h1, h2 => by
    rw [ltL_cons] at h1 h2
    by_cases e : x = y
    · rw [if_pos e] at h1
      rw [if_pos e.symm] at h2
      rw [e, ltL_total xs ys h1 h2]
    · rw [if_neg e] at h1
      rw [if_neg (fun z => e z.symm)] at h2
      have := of_decide_eq_false h1
      have := of_decide_eq_false h2
      omega
theorem leL_ltL : ∀ x y : List Int, leL x y = !ltL y x
  | [], [] => rfl
  | [], _ :: _ => rfl
  | _ :: _, [] => rfl
  | x :: xs, y :: ys => by
    rw [ltL_cons, leL, leL_ltL xs ys]
    by_cases e : y = x
    · subst e
      rw [if_pos rfl]
      simp
    · rw [if_neg e]
      by_cases h : x < y
      · have h2 : ¬ y < x := by omega
        simp [h, h2]
      · have h2 : y < x := by omega
        have h3 : ¬ x = y := fun z => e z.symm
        simp [h, h2, h3]
theorem swoL {α : Type} (k : α → List Int) : SrtO.Swo fun v u => ltL (k v) (k u) := ⟨fun x y h => ltL_asym _ _ h, fun x y z h1 h2 => ltL_tr _ _ _ h1 h2⟩
theorem insL_perm (x : List Int) : ∀ ys : List (List Int), (insL x ys).Perm (x :: ys)
  | [] => .refl _
  | y :: ys => by
    unfold insL
    split
    · exact .refl _
    · exact ((insL_perm x ys).cons y).trans (.swap ..)
theorem isortL_perm : ∀ xs : List (List Int), (isortL xs).Perm xs
  | [] => .refl _
  | x :: xs => (insL_perm x (isortL xs)).trans ((isortL_perm xs).cons x)
theorem insL_sorted (x : List Int) : ∀ ys : List (List Int), ys.Pairwise (fun a b => leL a b = true) → (insL x ys).Pairwise (fun a b => leL a b = true)
  | [], _ => List.pairwise_singleton ..
  | y :: ys, h => by
    have h' := List.pairwise_cons.mp h
    unfold insL
    split
    · rename_i hxy
      refine List.pairwise_cons.mpr ⟨fun z hz => ?_, h⟩
      rcases List.mem_cons.mp hz with rfl | hz
      · exact hxy
      · have h2 := h'.1 z hz
        rw [leL_ltL, Bool.not_eq_true'] at hxy h2 ⊢
        exact ltL_tr _ _ _ hxy h2
    · rename_i hxy
      refine List.pairwise_cons.mpr ⟨fun z hz => ?_, insL_sorted x ys h'.2⟩
      rcases List.mem_cons.mp ((insL_perm x ys).mem_iff.mp hz) with rfl | hz
      · rw [leL_ltL, Bool.not_eq_true']
        rw [leL_ltL, Bool.not_eq_true', Bool.not_eq_false] at hxy
        exact ltL_asym _ _ hxy
      · exact h'.1 z hz
theorem isortL_sorted : ∀ xs : List (List Int), (isortL xs).Pairwise (fun a b => leL a b = true)
  | [] => List.Pairwise.nil
  | x :: xs => insL_sorted x _ (isortL_sorted xs)
theorem sortedL_unique : ∀ {xs ys : List (List Int)}, xs.Perm ys → xs.Pairwise (fun a b => leL a b = true) → ys.Pairwise (fun a b => leL a b = true) → xs = ys
  | [], ys, p, _, _ => p.nil_eq
  | x :: xs, [], p, _, _ => absurd p.length_eq (by simp)
  | x :: xs, y :: ys, p, hx, hy => by
    have hx' := List.pairwise_cons.mp hx
    have hy' := List.pairwise_cons.mp hy
    have rf : ∀ z, leL z z = true := fun z => by
      have e : ltL z z = false := (swoL (fun z : List Int => z)).refl z
      rw [leL_ltL, e]
      rfl
    have e : x = y := by
      have h1 : leL y x = true := by
        rcases List.mem_cons.mp (p.mem_iff.mp (List.mem_cons_self ..)) with z | z
        · rw [z]; exact rf y
        · exact hy'.1 x z
      have h2 : leL x y = true := by
        rcases List.mem_cons.mp (p.mem_iff.mpr (List.mem_cons_self ..)) with z | z
        · rw [z]; exact rf x
        · exact hx'.1 y z
      rw [leL_ltL, Bool.not_eq_true'] at h1 h2
      exact ltL_total _ _ h1 h2
    subst e
    rw [sortedL_unique (List.Perm.cons_inv p) hx'.2 hy'.2]

/-! ### sorted of a list of tuples of ints -/
def IsIL (h : Heap) (v : Value) (ns : List Int) : Prop := ∃ a o vs n, v = .ref a ∧ h.get? a = some o ∧ o.cls = .type "tuple" ∧ o.data = .seq vs n ∧ IntsAre vs.toList ns ∧ ns ≠ []
theorem IsIL.keeps {h h' : Heap} {v : Value} {ns : List Int} (p : IsIL h v ns) (k : ∀ b o, h.get? b = some o → o.cls = .type "tuple" → h'.get? b = some o) : IsIL h' v ns := by
  obtain ⟨a, o, vs, n, e, ho, hc, hd, hi⟩ := p
  exact ⟨a, o, vs, n, e, k _ _ ho hc, hc, hd, hi⟩
theorem firstsL {h : Heap} {k : Value → List Int} : ∀ {vs : List Value}, (∀ v ∈ vs, IsIL h v (k v)) → ∃ fs : List Value, PySem.W.KatTups h vs fs ∧ fs.length = vs.length ∧ ∀ f ∈ fs, ∃ x t, f = Value.int x t
  | [], _ => ⟨[], PySem.W.KatTups.nil, rfl, fun _ hm => by simp at hm⟩
  | v :: vs, hp => by
    obtain ⟨fs, h1, h2, h3⟩ := firstsL (vs := vs) fun v' hm => hp v' (List.mem_cons_of_mem _ hm)
    obtain ⟨a, o, us, n, e, ho, hc, hd, hi, hne⟩ := hp v (List.mem_cons_self ..)
    subst e
    obtain ⟨x, t, hx⟩ : ∃ x t, us[0]? = some (Value.int x t) := by
      rw [← Array.getElem?_toList]
      generalize us.toList = l at hi
      generalize k (.ref a) = ns at hi hne
      cases hi with
      | nil => exact absurd rfl hne
      | cons x t r => exact ⟨x, t, rfl⟩
    refine ⟨.int x t :: fs, PySem.W.KatTups.cons ho hc hd hx h1, by rw [List.length_cons, List.length_cons, h2], fun f hm => ?_⟩
    rcases List.mem_cons.mp hm with rfl | hm
    · exact ⟨x, t, rfl⟩
    · exact h3 f hm
section
variable {prog : Program} {w : World} {A : Around} {E : Value → Shared → Prop} {s : Shared}
theorem lexL {b fin : Bool} {Q : Bool → Shared → Prop} : ∀ {us ws : List Value} {xs ys : List Int} (i : Nat), IntsAre us xs → IntsAre ws ys → fin = decide (xs.length < ys.length) → Q (ltL xs ys) s → PySem.W.KatLex prog w A b fin Q (us.zip ws) i s
  | _, _, _, _, i, .nil, .nil, hf, h => by
    rw [hf]
    exact PySem.W.kat_nil h
  | _, _, _, _, i, .nil, .cons y t r, hf, h => by
    rw [hf]
    exact PySem.W.kat_nil h
  | _, _, _, _, i, .cons x t r, .nil, hf, h => by
    rw [hf]
    exact PySem.W.kat_nil h
  | _, _, _, _, i, .cons x t r, .cons y u r', hf, h => by
    rw [List.zip_cons_cons]
    rw [ltL_cons] at h
    refine PySem.W.kat_cons (SeqAt.EqAt.int_int x t y u prog w _ _ ?_)
    refine PySem.W.kat_go (fun e1 => ?_) (fun e1 => ?_)
    · have ex : x = y := by simpa using e1
      rw [if_pos ex] at h
      refine PySem.W.kat_yes (lexL (i + 1) r r' ?_ h)
      rw [hf, List.length_cons, List.length_cons]
      exact decide_eq_decide.mpr Nat.succ_lt_succ_iff
    · have ex : ¬ x = y := by simpa using e1
      rw [if_neg ex] at h
      exact PySem.W.kat_no (TS.oneLt_ints _ h)
theorem cmpL {vs : List Value} {k : Value → List Int} (hp : ∀ v ∈ vs, IsIL s.heap v (k v)) : SrtO.Cmp prog w A s (tuples' true) (fun p => p.1 ∈ vs) (SrtO.lt2 fun v u => ltL (k v) (k u)) := by
  intro p q hm hm'
  have h1 := hp _ hm
  have h2 := hp _ hm'
  show wpAny (model prog w) A (keyLt' (tuples' true) p.1 q.1) (fun r s' => s' = s ∧ r = ltL (k p.1) (k q.1)) (fun _ _ => False) s
  obtain ⟨a, o, us, n, e, ho, hc, hd, hi, _⟩ := h1
  obtain ⟨a', o', us', n', e', ho', hc', hd', hi', _⟩ := h2
  generalize k p.1 = x at hi ⊢
  generalize k q.1 = y at hi' ⊢
  rw [e, e']
  refine PySem.W.kat_lt ho hd ho' hd' ?_
  refine lexL 0 hi hi' ?_ ⟨rfl, rfl⟩
  have l1 := hi.length
  have l2 := hi'.length
  rw [Array.length_toList] at l1 l2
  rw [l1, l2]
theorem sortableL {a : Addr} {vs : List Value} {k : Value → List Int} (h0 : 0 < vs.length) (hp : ∀ v ∈ vs, IsIL s.heap v (k v)) (ha : ∀ o, s.heap.get? a = some o → o.cls ≠ .type "tuple") : SrtO.SortableO prog w A s a vs fun v u => ltL (k v) (k u) := by
  intro h' keep
  have hp' : ∀ v ∈ vs, IsIL h' v (k v) := fun v hm => (hp v hm).keeps fun b o e c => keep b o (fun z => by subst z; exact ha o e c) e
  obtain ⟨fs, h1, h2, h3⟩ := firstsL hp'
  refine ⟨tuples' true, fun Q E hq => ?_, cmpL hp'⟩
  refine PySem.W.kat_kind (T := .type "int") h1 (by omega) (fun f hm => ?_) (by rfl) ?_
  · obtain ⟨x, t, rfl⟩ := h3 f hm
    exact PySem.W.Looks.now
  · have e : (Value.type "int" != Value.type "tuple") = true := by first | decide +kernel | rfl | decide
    rw [e]
    exact hq
theorem sortedL {l : Addr} {vs : List Value} {k : Value → List Int} {Q : Value → Shared → Prop} (hl : s.heap.IsList l vs.toArray) (hz : vs.length ≤ sizeLine) (hp : ∀ v ∈ vs, IsIL s.heap v (k v))
    (h : ∀ (h' : Heap) (d : Addr) (out : List Value), SrtO.Srtd (fun v u => ltL (k v) (k u)) out → SrtO.Stb (fun v u => ltL (k v) (k u)) out vs → (∀ b o, s.heap.get? b = some o → h'.get? b = some o) → s.heap.objs.size ≤ d → (∃ n, h'.get? d = some (seqObj "list" out.toArray n)) → Q (.ref d) { s with heap := h' }) :
    wpAny (model prog w) A (call (.builtin "sorted") [.ref l]) Q E s := by
  refine SrtO.sorted_ord (swoL k) hl hz (fun h2 h₁ a ha kk => ?_) fun out hs hb => ?_
  · refine sortableL (s := { s with heap := h₁ }) (by omega) (fun v hm => (hp v hm).keeps fun b o e _ => (kk b o e).2) fun o e => ?_
    have e' : some o = some (seqObj "list" vs.toArray 0) := e.symm.trans ha
    cases e'
    intro c
    exact absurd (Value.type.inj c) (by decide)
  · exact h _ _ out hs hb (fun b o e => sortedAll_old e) (Nat.le_succ _) (sortedAll_at s.heap vs out.toArray)
end
/-- sorted(xs), xs a list of tuples of ints, none empty (k says which) -/
def rSortedIL (K : PySem.W.Frag) : List V → Hp → VK → Prop := fun vs H Q => ∃ (a : Addr) (xs : List V) (k : V → List Int), vs = [V.ref a] ∧ SqL K H a xs ∧ (∀ x ∈ xs, ∃ t, x = V.ref t ∧ SqT K H t ((k x).map V.int) ∧ k x ≠ []) ∧
  ∀ ys p, ys.Perm xs → ys.Pairwise (fun x y => leL (k x) (k y) = true) → H p = none → Q (.ref p) (upd H p (.lst ys))
theorem ints_valsL : ∀ {ns : List Int} {us : List Value}, Vals (ns.map V.int) us → IntsAre us ns
  | [], _, .nil => .nil
  | n :: ns, _, .cons r t => by
    obtain ⟨k, rfl⟩ := r
    exact .cons n k (ints_valsL t)
theorem cr_sortedIL {X : Cx} : CallR X (.builtin "sorted") (rSortedIL X.K) := by
  intro pins s σ H vs us Q I r h
  obtain ⟨a, xs, k, rfl, hs, hx, q⟩ := h
  obtain ⟨its, rv, hl, hz⟩ := I.list hs
  obtain ⟨u, rfl, ru⟩ := vals1 r
  obtain rfl : u = Value.ref a := ru
  obtain ⟨e1, e2⟩ := refs_back rv fun x m => by
    obtain ⟨t, e, _⟩ := hx x m
    exact ⟨t, e⟩
  refine sortedL (k := fun u => k (backV u)) hl.isList (by rw [← rv.length]; exact hz) (fun v hv => ?_) fun h' d out h1 h2 kp hd hn => ?_
  · obtain ⟨t, rfl⟩ := e2 v hv
    have hm : V.ref t ∈ xs := by rw [e1]; exact List.mem_map.mpr ⟨_, hv, rfl⟩
    obtain ⟨t', e, ht, hne⟩ := hx _ hm
    cases e
    obtain ⟨its2, r2, ⟨o, ho, hc, n, hd⟩, _⟩ := I.tuple ht
    refine ⟨t, o, _, n, rfl, ho, hc, hd, ?_, hne⟩
    have z := ints_valsL r2
    show IntsAre its2.toArray.toList (k (V.ref t))
    simpa using z
  · have h3 : ∀ u ∈ out, ∃ a, u = Value.ref a := fun u hu => e2 u (h2.perm.mem_iff.mp hu)
    obtain ⟨n, hn⟩ := hn
    have hp : (out.map backV).Perm xs := by
      rw [e1]
      exact h2.perm.map backV
    refine ⟨.ref d, upd H d (.lst (out.map backV)), I.laid (t' := s.toks) kp hd ⟨?_, out, n, vals_back h3, hn⟩, rfl, q _ d hp ?_ (I.hok.fresh hd)⟩
    · rw [hp.length_eq]
      exact hz
    · have h1' : (out.map backV).Pairwise (fun x y => ltL (k y) (k x) = false) := SrtO.srtd_map (lt := fun x y => ltL (k x) (k y)) (f := backV) h1
      exact h1'.imp fun {x y} h => by rw [leL_ltL, h]; rfl

/-! ### dicts with whole numbers as keys, by values -/
theorem tail_anyD {prog : Program} {w : World} {A : Around} {E : Value → Shared → Prop} {s : Shared} {value slice : Expr} {o i : Value} {T id : String} {Q : Value → Shared → Prop} (hT : s.TypeIs o T) (hl : typeLookup (.type T) "__getitem__" = pure (some (.builtin id)))
    (h : wpAny (model prog w) A (getItem o i) Q E s) (hs : subscripted slice false o i = operate [o, i] (getItem o i)) : wpAny (model prog w) A (subscriptTail value slice o i) Q E s := by
  unfold subscriptTail
  refine wpAny_bind ?_
  rw [getitemInPython_of_ne hT.not_modules]
  refine wpAny_bind (wpAny_specialOf hT hl ?_)
  have fin : wpAny (model prog w) A (subscripted slice false o i) (fun r s₃ => wpAny (model prog w) A (letTemporaryGo value o r >>= fun _ => pure r) Q E s₃) E s := by
    rw [hs]
    exact wpAny_operating (wpAny_mono h (fun r s₃ h₃ => wpAny_bind (wpAny_letTemporaryGo (wpAny_pure h₃))) fun _ _ x => x)
  first
    | exact wpAny_pure (wpAny_bind fin)
    | exact wpAny_bind (wpAny_pure (wpAny_bind fin))
    | exact wpAny_bind fin
def rIxDk : R2 := fun x y H Q => ∃ a v, x = .ref a ∧ DGet H a y (some v) ∧ Q v H
theorem ix_dk {X : Cx} (hu : X.A.units + 1 < cLine) : IxR X rIxDk := by
  intro value slice pins s σ H x y v u Q I rx ry h hs
  obtain ⟨a, r, rfl, g, q⟩ := h
  cases rx
  exact tail_anyD (dict_typeIs I g) PySem.F.slot_dict_getitem.lookup (d_getItem hu I g ry fun w' s3 I3 rw' => ⟨r, H, I3, rw', q⟩) hs
def rDGet2 : V → List V → Hp → VK → Prop := fun x xs H Q => ∃ a y d o, x = .ref a ∧ xs = [y, d] ∧ DGet H a y o ∧ Q (o.getD d) H
theorem mt_dget2 {X : Cx} (hu : X.A.units + 1 < cLine) : MtR X "dict.get" rDGet2 := by
  intro pins s σ H x xs v us Q I rx rs h
  obtain ⟨a, y, d, o, rfl, rfl, g, q⟩ := h
  cases rx
  obtain ⟨u1, u2, rfl, r1, r2⟩ := vals2 rs
  exact d_get2 hu I g r1 r2 fun w' s' I' rw' => ⟨_, H, I', rw', q⟩
/-- the keys of a dict, which is locked from then on -/
def iKeysL (td : TE) : TI := fun σ H R => td σ H fun x H1 => ∃ d kvs, x = .ref d ∧ H1 d = some (.dK kvs) ∧ ∀ o, R (Itk d o kvs) (upd H1 d (.frz o (.dK kvs)))
theorem pi_keysL {X : Cx} {tg e : Expr} {td : TE} (he : PE X e td) : PI X tg e (iKeysL td) := by
  refine ⟨fun pins s σ H R I h => ?_⟩
  refine thn (he.run pins s σ H _ I h) fun u s1 ⟨x, H1, I1, rx, d, kvs, ex, hd0, q⟩ => ?_
  subst ex
  obtain rfl : u = Value.ref d := rx
  obtain ⟨o, I2⟩ := I1.lock hd0 True.intro
  have hd : (upd H1 d (.frz o (.dK kvs))) d = some (.frz o (.dK kvs)) := upd_same
  obtain ⟨hs, hgd, hx, es, ep, vs, hdt, hsz, kv, hm⟩ := I2.frzK hd
  refine iter_keys hs hgd hx hdt (pi_one (tk := s1.toks) I2 _ (turn_keys _ hdt) ⟨_, Heap.get?_push_size _ rfl, rfl, ?_⟩ (q o))
  rw [hsz] <;> rfl
end MP
set_option maxHeartbeats 2000000
/-! MPf: new tuples, tracked with their own object (which has no dict). -/
namespace MP
open PySem L2 PySem.Spec PyProof.Rows

/-- the object of a new tuple -/
abbrev tobj (its : List Value) : Obj := { cls := .type "tuple", data := .seq its.toArray }
/-- what is wanted of a new tuple of the values xs -/
def NewT (xs : List V) (Q : VK) (H : Hp) : Prop := ∀ (p : Addr) (ob : Obj), H p = none → ob.dict = none → Q (.ref p) (upd H p (.frz ob (.tup xs)))
theorem _root_.L2.SqT.ofF {K : PySem.W.Frag} {H : Hp} {a : Addr} {ob : Obj} {xs : List V} (h : H a = some (.frz ob (.tup xs))) : SqT K H a xs := .inl (.inr ⟨ob, h⟩)
section
variable {X : Cx} {pins : List (Addr × Obj)} {σ : L2.St} {H : Hp} {s : Shared} {Q : VK} {xs : List V} {its : List Value}
theorem newT_ep (I : Inv X pins σ H s) (z : xs.length ≤ sizeLine) (r : Vals xs its) (q : NewT xs Q H) : EP X pins σ Q (.ref s.heap.objs.size) { s with heap := s.heap.push (tobj its) } := by
  have e : (s.heap.push (tobj its)).get? s.heap.objs.size = some (tobj its) := Heap.get?_push_size _ rfl
  exact ⟨.ref _, upd H s.heap.objs.size (.frz (tobj its) (.tup xs)), I.laid (t' := s.toks) (fun b u e => Heap.get?_push_of_some _ e) (Nat.le_refl _)
    (show ObjOk X.prog X.w _ _ _ (.frz (tobj its) (.tup xs)) from ⟨e, z, its, r, ⟨_, e, rfl, _, rfl⟩⟩), rfl, q _ _ (I.hok.fresh (Nat.le_refl _)) rfl⟩
end
section
variable {X : Cx} {es : List Expr} {t : TA} {pos : Pos}
def tTupF (t : TA) : TE := fun σ H Q => t σ H fun xs H1 => xs.length ≤ sizeLine ∧ NewT xs Q H1
theorem pe_tupF {x1} (h : PA X es t) : PE X (.Tuple es x1 pos) (tTupF t) := by
  refine ⟨fun pins s σ H Q I hq => ?_⟩
  refine wpAny_Tuple_spliced (thn (h.run pos pins s σ H _ I hq) fun us s1 ⟨xs, H1, I1, r, z, q⟩ => ⟨by rw [← r.length]; exact z, ?_⟩)
  exact newT_ep I1 z r q
/-- t + u -/
def rCatF (K : PySem.W.Frag) : R2 := fun x y H Q => ∃ a b xs ys, x = .ref a ∧ y = .ref b ∧ SqT K H a xs ∧ SqT K H b ys ∧ xs.length + ys.length ≤ sizeLine ∧
  (xs = [] → Q (.ref b) H) ∧ (xs ≠ [] → ys = [] → Q (.ref a) H) ∧ (xs ≠ [] → ys ≠ [] → NewT (xs ++ ys) Q H)
theorem op_catF : OpR X (binaryOp .Add) (rCatF X.K) := by
  intro pins s σ H x y v u Q I rx ry h
  obtain ⟨a, b, xs, ys, rfl, rfl, ha, hb, hz, q0, q1, q2⟩ := h
  cases rx
  cases ry
  obtain ⟨its, r1, p1, _⟩ := I.tuple ha
  obtain ⟨its2, r2, p2, _⟩ := I.tuple hb
  by_cases hx : xs = []
  · subst hx
    cases r1
    exact cat_tup0 p1 p2 ⟨.ref b, H, I, rfl, q0 rfl⟩
  · refine HT.cat_tup p1 p2 (fun z => hx (r1.nil_iff.mp z)) (fun z => ⟨.ref a, H, I, rfl, q1 hx (r2.nil_iff.mp z)⟩) (fun z => ?_) (by rw [← r1.length, ← r2.length]; exact hz)
    exact newT_ep I (by rw [List.length_append]; exact hz) (r1.append r2) (q2 hx fun w => z (r2.nil_iff.mpr w))
/-- t[lo:hi] -/
def rSlF (K : PySem.W.Frag) : V → Option Int → Option Int → Hp → VK → Prop := fun x lo hi H Q => ∃ a xs, x = .ref a ∧ SqT K H a xs ∧
  (HT.sIx xs.length 0 lo = 0 ∧ HT.sIx xs.length xs.length hi = xs.length → Q (.ref a) H) ∧ (¬ (HT.sIx xs.length 0 lo = 0 ∧ HT.sIx xs.length xs.length hi = xs.length) → NewT (cutV xs lo hi) Q H)
theorem sl_tupF : SlR X (rSlF X.K) := by
  intro pins s σ H x v vl vu lo hi sl Q I rx hs pl pu h
  obtain ⟨a, xs, rfl, hx, q1, q2⟩ := h
  cases rx
  obtain ⟨its, r, ht, hz⟩ := I.tuple hx
  have hlen : its.toArray.size = xs.length := by rw [List.size_toArray]; exact r.length.symm
  refine ⟨"tuple", _, PyProof.Rows.slot_tuple_getitem.lookup, ht.typeIs, ?_⟩
  by_cases hw : HT.sIx xs.length 0 lo = 0 ∧ HT.sIx xs.length xs.length hi = xs.length
  · exact getItem_tuple_whole ht hs pl pu (by rw [hlen]; exact hw) ⟨.ref a, H, I, rfl, q1 hw⟩
  · refine HT.getItem_tuple_cut ht hs pl pu (by rw [hlen]; exact hw) ?_ (by rw [hlen]; exact hz)
    rw [hlen]
    exact newT_ep I (Nat.le_trans (cutV_length xs lo hi) hz) ((r.drop (HT.sIx xs.length 0 lo)).take (HT.sIx xs.length xs.length hi - HT.sIx xs.length 0 lo)) (q2 hw)
/-- tuple(x) -/
theorem call_tuple_ofF : CallR X (.type "tuple") (fun xs H Q => ∃ p ys, xs = [.ref p] ∧ ((SqL X.K H p ys ∧ NewT ys Q H) ∨ (SqT X.K H p ys ∧ Q (.ref p) H))) := by
  intro pins s σ H xs us Q I r h
  obtain ⟨p, ys, rfl, h⟩ := h
  obtain ⟨u, rfl, rx⟩ := vals1 r
  cases rx
  rcases h with ⟨hq, q⟩ | ⟨hq, q⟩
  · obtain ⟨its, r', pl, hz⟩ := I.list hq
    have hlen := r'.length
    refine call_tuple_list pl.isList (fun h' kp => ?_) (by simp only [List.size_toArray] <;> omega)
    have I1 : Inv X pins σ H { s with heap := h' } := I.kept (t' := s.toks) kp
    exact newT_ep I1 hz r' q
  · obtain ⟨its, r', pl, hz⟩ := I.tuple hq
    exact call_tuple_same pl ⟨.ref p, H, I, rfl, q⟩
/-- tuple(range(..)) -/
def tTupRgF (te : L2.St → Hp → (Int → Int → Hp → Prop) → Prop) : TE := fun σ H Q => te σ H fun a b H1 => RgOk a b ∧ NewT (rgV a b) Q H1
theorem pe_tupRgF {e : Expr} {te : L2.St → Hp → (Int → Int → Hp → Prop) → Prop} {p pos : Pos} (hc : X.calm = true) (hg : Gl X "tuple") (hm : X.mg "tuple" = none) (he : PRg X e te) (na : starEach [e] X.env = (false, eval e X.env) :: starEach [] X.env := by rfl) : PE X (.Call (.Name "tuple" p) [e] [] pos) (tTupRgF te) := by
  refine ⟨fun pins s σ H Q I h => ?_⟩
  refine Call_ (ld_blt I hg hm boot_tuple (PyProof.Rows.callWith_type1 (args_cons (thn (he pins s σ H _ I h) fun x s1 ⟨r, a, b, t, u, v, H1, ex, hr, I1, ok, q⟩ => args_nil ?_) na) na))
  subst ex
  obtain ⟨b1, b2, b3, b4, b5⟩ := ok
  refine call_tuple_range (n := (b - a).toNat) (I1.ok.hd hc) hr (small_one b1 b2 b3 b4) (rangeSize_nat a b) b5 fun h' tk acc hk hi => ?_
  have I2 : Inv X pins σ H1 { s1 with heap := h', toks := tk } := I1.kept hk
  have z : (rgV a b).length ≤ sizeLine := by rw [rgV_length, sizeLine_eq]; omega
  have := newT_ep I2 z (vals_rg hi) q
  exact this
end
end MP
set_option maxHeartbeats 2000000
/-! MPxd: dicts whose keys are tuples (of whole numbers and of such tuples), tracked by their entries. -/
namespace MP
open PySem L2 PySem.Spec PyProof.Rows
/-- the world of the statement (its hash of tuples) -/
class WI where
  w : World
/-- an entry: the key, the tuple that stands there, the value -/
abbrev TEn := NestedKey × Addr × V
def TRel (xs : List TEn) (ys : List (NestedKey × Addr × Value)) : Prop := Paired (fun p q => p.1 = q.1 ∧ p.2.1 = q.2.1 ∧ RelV p.2.2 q.2.2) xs ys
def entN (w : World) (x : NestedKey × Addr × Value) : DictEntry := ⟨x.1.hash w, .ref x.2.1, x.2.2⟩
def TDP (w : World) (a : Addr) (xs : List TEn) (h : Heap) : Prop := xs.length ≤ sizeLine ∧ (a == sysModules) = false ∧ ∃ ys, TRel xs ys ∧ ∃ o es ep, h.get? a = some o ∧ o.ExactDict ∧ o.data = .dict es ep ∧ es.toList = ys.map (entN w) ∧ (ys.map (·.1)).Nodup
def TDO (w : World) (a : Addr) (xs : List TEn) : HO := .ext (TDP w a xs)
theorem tdo_ok {P : Program} {w w' : World} {H : Hp} {h : Heap} {a : Addr} {xs : List TEn} (x : TDP w' a xs h) : ObjOk P w H h a (TDO w' a xs) := by
  obtain ⟨z, hd, ys, r, o, es, ep, ho, q⟩ := x
  refine ⟨⟨z, hd, ys, r, o, es, ep, ho, q⟩, ⟨o, ho⟩, fun h1 h2 p k => ?_⟩
  obtain ⟨z', hd', ys', r', o', es', ep', ho', q'⟩ := p
  exact ⟨z', hd', ys', r', o', es', ep', k o' ho', q'⟩
/-! ### keys -/
mutual
/-- the tracked value is the key -/
inductive NKy (H : Hp) : NestedKey → V → Prop
  | int (i : Int) : NKy H (.num i) (.int i)
  | tup {a : Addr} {ob : Obj} {xs : List V} {ks : List NestedKey} : H a = some (.frz ob (.tup xs)) → NKyL H ks xs → NKy H (.tup ks) (.ref a)
inductive NKyL (H : Hp) : List NestedKey → List V → Prop
  | nil : NKyL H [] []
  | cons {k : NestedKey} {v : V} {ks : List NestedKey} {vs : List V} : NKy H k v → NKyL H ks vs → NKyL H (k :: ks) (v :: vs)
end
section
variable {X : Cx} {pins : List (Addr × Obj)} {σ : L2.St} {H : Hp} {s : Shared}
mutual
theorem NKy.is (I : Inv X pins σ H s) : ∀ {k : NestedKey} {v : V} {u : Value}, NKy H k v → RelV v u → NestedIs s.heap k u
  | _, _, u, .int i, r => by
    obtain ⟨t, rfl⟩ := (show ∃ t, u = Value.int i t from r)
    exact .int i t
  | _, _, u, @NKy.tup _ a ob xs ks e q, r => by
    cases (show u = Value.ref a from r)
    obtain ⟨_, _, its, rv, o, ho, hc, n, hd⟩ := (show ObjOk X.prog X.w H s.heap a (.frz ob (.tup xs)) from I.hok a _ e)
    exact .tup ho hc hd (by simpa using NKyL.is I q rv)
theorem NKyL.is (I : Inv X pins σ H s) : ∀ {ks : List NestedKey} {vs : List V} {us : List Value}, NKyL H ks vs → Vals vs us → NestedAll s.heap ks us
  | _, _, _, .nil, .nil => .nil
  | _, _, _, .cons h t, .cons r rs => .cons (NKy.is I h r) (NKyL.is I t rs)
end
end
mutual
/-- a key's data as a key -/
def keyN : D → NestedKey
  | .int i => .num i
  | .tuple ds => .tup (keyNL ds)
  | _ => .none
def keyNL : List D → List NestedKey
  | [] => []
  | d :: ds => keyN d :: keyNL ds
end
mutual
theorem keyN_depth : ∀ {d : D}, okKey d = true → (keyN d).depth = PyData.depth d
  | .int i, _ => by unfold keyN NestedKey.depth PyData.depth; rfl
  | .tuple ds, h => by
    have h : okKeyL ds = true := h
    unfold keyN NestedKey.depth PyData.depth
    rw [keyNL_depth h]
  | .none, h => by cases h
  | .bool _, h => by cases h
  | .str _, h => by cases h
  | .list _, h => by cases h
  | .dict _, h => by cases h
theorem keyNL_depth : ∀ {ds : List D}, okKeyL ds = true → NestedKey.depthAll (keyNL ds) = PyData.depthAll ds
  | [], _ => by unfold keyNL NestedKey.depthAll PyData.depthAll; rfl
  | d :: ds, h => by
    have h' := Bool.and_eq_true_iff.mp (show (okKey d && okKeyL ds) = true from h)
    unfold keyNL NestedKey.depthAll PyData.depthAll
    rw [keyN_depth h'.1, keyNL_depth h'.2]
end
mutual
theorem keyN_eqv : ∀ {d d' : D}, okKey d = true → okKey d' = true → PyData.eqv d d' = decide (keyN d = keyN d')
  | .int i, .int j, _, _ => by
    show (i == j) = _
    unfold keyN
    by_cases h : i = j <;> simp [h]
  | .int i, .tuple ds, _, _ => by
    show false = _
    unfold keyN
    simp
  | .tuple ds, .int j, _, _ => by
    show false = _
    unfold keyN
    simp
  | .tuple ds, .tuple es, h, h' => by
    show PyData.eqvAll ds es = _
    rw [keyNL_eqv (show okKeyL ds = true from h) (show okKeyL es = true from h')]
    unfold keyN
    simp
  | .none, _, h, _ => by cases h
  | .bool _, _, h, _ => by cases h
  | .str _, _, h, _ => by cases h
  | .list _, _, h, _ => by cases h
  | .dict _, _, h, _ => by cases h
  | .int _, .none, _, h => by cases h
  | .int _, .bool _, _, h => by cases h
  | .int _, .str _, _, h => by cases h
  | .int _, .list _, _, h => by cases h
  | .int _, .dict _, _, h => by cases h
  | .tuple _, .none, _, h => by cases h
  | .tuple _, .bool _, _, h => by cases h
  | .tuple _, .str _, _, h => by cases h
  | .tuple _, .list _, _, h => by cases h
  | .tuple _, .dict _, _, h => by cases h
theorem keyNL_eqv : ∀ {ds es : List D}, okKeyL ds = true → okKeyL es = true → PyData.eqvAll ds es = decide (keyNL ds = keyNL es)
  | [], [], _, _ => rfl
  | [], e :: es, _, _ => by
    show false = _
    unfold keyNL
    simp
  | d :: ds, [], _, _ => by
    show false = _
    unfold keyNL
    simp
  | d :: ds, e :: es, h, h' => by
    have h1 := Bool.and_eq_true_iff.mp (show (okKey d && okKeyL ds) = true from h)
    have h2 := Bool.and_eq_true_iff.mp (show (okKey e && okKeyL es) = true from h')
    show (PyData.eqv d e && PyData.eqvAll ds es) = _
    rw [keyN_eqv h1.1 h2.1, keyNL_eqv h1.2 h2.2, show keyNL (d :: ds) = keyN d :: keyNL ds from rfl, show keyNL (e :: es) = keyN e :: keyNL es from rfl]
    simp
end
theorem isTK_inv {d : D} (h : isTK d = true) : okKey d = true ∧ (keyN d).depth ≤ 8 ∧ ∃ ds, d = .tuple ds := by
  cases d with
  | tuple ds =>
    have h' := Bool.and_eq_true_iff.mp (show (okKeyL ds && decide (PyData.depth (.tuple ds) ≤ 8)) = true from h)
    have ok : okKey (.tuple ds) = true := h'.1
    exact ⟨ok, by rw [keyN_depth ok]; exact of_decide_eq_true h'.2, ds, rfl⟩
  | none => cases h
  | bool b => cases h
  | int i => cases h
  | str x => cases h
  | list ds => cases h
  | dict ds => cases h
theorem eqv_tk {d d' : D} (h : isTK d = true) (h' : isTK d' = true) : PyData.eqv d d' = decide (keyN d = keyN d') := keyN_eqv (isTK_inv h).1 (isTK_inv h').1
/-! ### entries -/
def valT (xs : List TEn) (k : NestedKey) : Option V := (xs.find? fun x => decide (x.1 = k)).map (·.2.2)
def putT (xs : List TEn) (k : NestedKey) (b : Addr) (v : V) : List TEn := if (valT xs k).isSome then xs.map fun x => if x.1 = k then (x.1, x.2.1, v) else x else xs ++ [(k, b, v)]
theorem TRel.val {xs : List TEn} {ys : List (NestedKey × Addr × Value)} (r : TRel xs ys) (k : NestedKey) : RelO (valT xs k) ((atKey ys k).map (·.2)) := by
  induction r with
  | nil => exact True.intro
  | @cons p q ps qs h t ih =>
    obtain ⟨h1, _, h2⟩ := h
    by_cases e : p.1 = k
    · have e' : q.1 = k := h1.symm.trans e
      have b : atKey (q :: qs) k = some q.2 := by simp [atKey, List.find?_cons, e']
      have c : valT (p :: ps) k = some p.2.2 := by simp [valT, List.find?_cons, e]
      rw [c, b]; exact h2
    · have e' : ¬ q.1 = k := fun z => e (h1.trans z)
      have b : atKey (q :: qs) k = atKey qs k := by simp [atKey, List.find?_cons, e']
      have c : valT (p :: ps) k = valT ps k := by simp [valT, List.find?_cons, e]
      rw [c, b]; exact ih
theorem TRel.put {xs : List TEn} {ys : List (NestedKey × Addr × Value)} (r : TRel xs ys) (k : NestedKey) {b : Addr} {v : V} {u : Value} (rv : RelV v u) : TRel (putT xs k b v) (storedH ys k b u) := by
  have e : (valT xs k).isSome = (atKey ys k).isSome := by rw [(r.val k).isSome_eq, Option.isSome_map]
  unfold putT storedH
  rw [e]
  by_cases q : (atKey ys k).isSome = true
  · rw [if_pos q, if_pos q]
    clear q e
    induction r with
    | nil => exact .nil
    | @cons p q ps qs h t ih =>
      rw [List.map_cons, List.map_cons]
      refine .cons ?_ ih
      obtain ⟨h1, h2, h3⟩ := h
      unfold putAt
      by_cases e : p.1 = k
      · rw [if_pos e, if_pos (h1.symm.trans e)]; exact ⟨h1, h2, rv⟩
      · rw [if_neg e, if_neg (fun z => e (h1.trans z))]; exact ⟨h1, h2, h3⟩
  · rw [if_neg q, if_neg q]; exact Paired.snoc r ⟨rfl, rfl, rv⟩
theorem putT_len (xs : List TEn) (k : NestedKey) (b : Addr) (v : V) : (putT xs k b v).length ≤ xs.length + 1 := by
  unfold putT
  split
  · rw [List.length_map]; exact Nat.le_succ _
  · rw [List.length_append, List.length_singleton]; exact Nat.le_refl _
section
variable {X : Cx} {pins : List (Addr × Obj)} {σ : L2.St} {H : Hp} {s : Shared} {a b : Addr} {xs : List TEn} {k : NestedKey} {A : Around} {E : Value → Shared → Prop}
/-- what the dict at a wants of its keys -/
def KeysOk (H : Hp) (xs : List TEn) : Prop := ∀ x ∈ xs, NKy H x.1 (.ref x.2.1) ∧ x.1.depth ≤ 8
/-- the entries xs at a: an empty dict is tracked as one of whole numbers -/
def TDv (w : World) (H : Hp) (a : Addr) (xs : List TEn) : Prop := H a = some (TDO w a xs) ∨ (xs = [] ∧ Rd H a (.dK []))
def TDm (w : World) (H : Hp) (a : Addr) (xs : List TEn) : Prop := H a = some (TDO w a xs) ∨ (xs = [] ∧ H a = some (.dK []))
theorem TDm.v {w : World} (h : TDm w H a xs) : TDv w H a xs := h.imp (fun h => h) fun h => ⟨h.1, .inl h.2⟩
theorem td_full (I : Inv X pins σ H s) (e : TDv X.w H a xs) (hk : KeysOk H xs) : xs.length ≤ sizeLine ∧ (a == sysModules) = false ∧ ∃ ys, TRel xs ys ∧ s.heap.DictOfH (nestedKind X.prog X.w) a ys := by
  rcases e with e | ⟨rfl, e⟩
  case inr =>
    obtain ⟨z, hd, vs, rel, o, es, ep, ho, hx, hdt, he, hp, _⟩ := dk_rd I.hok e
    cases rel
    have hn : es.toList = [] := by
      cases hq : es.toList with
      | nil => rfl
      | cons q qs => rw [hq] at hp; cases hp
    refine ⟨Nat.zero_le _, hd, [], .nil, o, es, ep, ho, hx, hdt, by rw [hn]; rfl, fun x h => (by cases h), List.nodup_nil⟩
  obtain ⟨⟨z, hd, ys, r, o, es, ep, ho, hx, hdt, he, hn⟩, _⟩ := (show ObjOk X.prog X.w H s.heap a (TDO X.w a xs) from I.hok a _ e)
  refine ⟨z, hd, ys, r, o, es, ep, ho, hx, hdt, he, ?_, hn⟩
  have all : ∀ {l : List TEn} {m : List (NestedKey × Addr × Value)}, TRel l m → KeysOk H l → ∀ x ∈ m, (nestedKind X.prog X.w).is s.heap x.1 x.2.1 := by
    intro l m q
    induction q with
    | nil => intro _ x hx; cases hx
    | @cons p q ps qs hq t ih =>
      intro hk x hx
      rcases List.mem_cons.mp hx with e | hx
      · subst e
        obtain ⟨k1, k2⟩ := hk p (List.mem_cons_self ..)
        rw [hq.1, hq.2.1] at k1
        exact ⟨NKy.is I k1 rfl, by rw [← hq.1]; exact k2⟩
      · exact ih (fun y hy => hk y (List.mem_cons_of_mem _ hy)) x hx
  exact all r hk
theorem td_key (I : Inv X pins σ H s) (h : NKy H k (.ref b)) (hd : k.depth ≤ 8) : (nestedKind X.prog X.w).is s.heap k b := ⟨NKy.is I h rfl, hd⟩
theorem td_getItem {v : V} {Q : Value → Shared → Prop} (hu : A.in1.units + 8 < cLine) (I : Inv X pins σ H s) (e : TDv X.w H a xs) (hk : KeysOk H xs) (hb : NKy H k (.ref b)) (hd : k.depth ≤ 8) (l : valT xs k = some v)
    (h : ∀ w' s', Inv X pins σ H s' → RelV v w' → Q w' s') : wpAny (model X.prog X.w) A (getItem (.ref a) (.ref b)) Q E s := by
  obtain ⟨z, hs, ys, rel, dd⟩ := td_full I e hk
  obtain ⟨w', hw, rw'⟩ := RelO.some_of (v := v) (o := (atKey ys k).map (·.2)) (by rw [← l]; exact rel.val k)
  obtain ⟨p, hp, hp2⟩ := Option.map_eq_some_iff.mp hw
  refine wpAny_getItem_heap (knd := nestedKind X.prog X.w) hu (td_key I hb hd) dd hp ?_
  rw [hp2]
  exact h w' _ (I.tok _) rw'
theorem td_in {Q : Value → Shared → Prop} (hu : A.in1.units + 8 < cLine) (I : Inv X pins σ H s) (e : TDv X.w H a xs) (hk : KeysOk H xs) (hb : NKy H k (.ref b)) (hd : k.depth ≤ 8)
    (h : ∀ s', Inv X pins σ H s' → Q (.bool (valT xs k).isSome) s') : wpAny (model X.prog X.w) A (compareOp .In (.ref b) (.ref a)) Q E s := by
  obtain ⟨z, hs, ys, rel, dd⟩ := td_full I e hk
  refine wpAny_in_heap (knd := nestedKind X.prog X.w) hu (td_key I hb hd) hs dd ?_
  have q := (rel.val k).isSome_eq
  rw [Option.isSome_map] at q
  rw [← q]
  exact h _ (I.tok _)
theorem td_notIn {Q : Value → Shared → Prop} (hu : A.in1.units + 8 < cLine) (I : Inv X pins σ H s) (e : TDv X.w H a xs) (hk : KeysOk H xs) (hb : NKy H k (.ref b)) (hd : k.depth ≤ 8)
    (h : ∀ s', Inv X pins σ H s' → Q (.bool (!(valT xs k).isSome)) s') : wpAny (model X.prog X.w) A (compareOp .NotIn (.ref b) (.ref a)) Q E s := by
  obtain ⟨z, hs, ys, rel, dd⟩ := td_full I e hk
  refine wpAny_notIn_heap (knd := nestedKind X.prog X.w) hu (td_key I hb hd) hs dd ?_
  have q := (rel.val k).isSome_eq
  rw [Option.isSome_map] at q
  rw [← q]
  exact h _ (I.tok _)
theorem td_setItem {v : V} {r : Value} {Q : Unit → Shared → Prop} (hu : A.in1.units + 8 < cLine) (I : Inv X pins σ H s) (e : TDm X.w H a xs) (hk : KeysOk H xs) (hb : NKy H k (.ref b)) (hd : k.depth ≤ 8) (hl : xs.length < sizeLine) (rv : RelV v r)
    (h : ∀ s', Inv X pins σ (upd H a (TDO X.w a (putT xs k b v))) s' → Q () s') : wpAny (model X.prog X.w) A (setItem (.ref a) (.ref b) r) Q E s := by
  obtain ⟨z, hs, ys, rel, dd⟩ := td_full I e.v hk
  have hz : ys.length ≤ sizeLine := by rw [← Paired.length rel]; exact z
  refine wpAny_setItem_heap (knd := nestedKind X.prog X.w) (hsz := hz) hu (td_key I hb hd) dd fun h' dd' hs' => h _ ?_
  obtain ⟨q, es, ep, hq, h2, h3, h4, _, h5⟩ := dd'
  exact d_write I (by rcases e with e | ⟨_, e⟩ <;> (rw [e]; exact True.intro)) hs' ⟨q, hq⟩ (tdo_ok ⟨by have := putT_len xs k b v; omega, hs, _, rel.put k rv, q, es, ep, hq, h2, h3, h4, h5⟩)
theorem td_getOr {v : V} {r : Value} {Q : Value → Shared → Prop} (hu : A.in1.units + 8 < cLine) (I : Inv X pins σ H s) (e : TDv X.w H a xs) (hk : KeysOk H xs) (hb : NKy H k (.ref b)) (hd : k.depth ≤ 8) (rv : RelV v r)
    (h : ∀ w' s', Inv X pins σ H s' → RelV ((valT xs k).getD v) w' → Q w' s') : wpAny (model X.prog X.w) A (call (.builtin "dict.get") [.ref a, .ref b, r]) Q E s := by
  obtain ⟨z, hs, ys, rel, dd⟩ := td_full I e hk
  refine call_meetsIn PySem.F.slot_dict_get dd.typeIs PySem.F.entry_dict_get (PySem.F.args_dict_get_3 _ _ _) (meetsH_dict_get_default (nestedKind X.prog X.w) a b hs r) ⟨hu, k, ys, td_key I hb hd, dd, h _ _ (I.tok _) ?_⟩
  have q := rel.val k
  cases e1 : valT xs k with
  | none =>
    rw [e1] at q
    cases e2 : atKey ys k with
    | none => exact rv
    | some p => rw [e2] at q; exact q.elim
  | some x =>
    rw [e1] at q
    cases e2 : atKey ys k with
    | none => rw [e2] at q; exact q.elim
    | some p => rw [e2] at q; exact q
end
end MP
set_option maxHeartbeats 2000000
/-! MPxe: dicts keyed by tuples: the operations as rules. -/

namespace MP
open PySem L2 PySem.Spec PyProof.Rows
section
variable {X : Cx}
/-- the dict at a, the key at y, what is there -/
def TGet (w : World) (H : Hp) (a : Addr) (y : V) (o : Option V) : Prop := ∃ b xs k, y = .ref b ∧ TDv w H a xs ∧ KeysOk H xs ∧ NKy H k (.ref b) ∧ k.depth ≤ 8 ∧ o = valT xs k
theorem td_typeIs {pins : List (Addr × Obj)} {σ : L2.St} {H : Hp} {s : Shared} {a : Addr} {xs : List TEn} (I : Inv X pins σ H s) (e : TDv X.w H a xs) : s.TypeIs (.ref a) "dict" ∧ ∀ b, Value.ref a = .ref b → ∃ ob, s.heap.get? b = some ob ∧ ob.dict = none := by
  rcases e with e | ⟨rfl, e⟩
  · obtain ⟨⟨_, _, ys, _, o, es, ep, ho, hx, _⟩, _⟩ := (show ObjOk X.prog X.w H s.heap a (TDO X.w a xs) from I.hok a _ e)
    exact ⟨⟨o, ho, hx.1⟩, fun b q => by cases q; exact ⟨o, ho, hx.2.1⟩⟩
  · exact ⟨dict_typeIs I (.inl ⟨[], .inl 0, e, rfl, rfl⟩), dict_noDict I (.inl ⟨[], .inl 0, e, rfl, rfl⟩)⟩
theorem room8 (hu : X.A.units + 64 < cLine) : X.A.in1.units + 8 < cLine := by
  show X.A.units + 1 + 8 < cLine
  omega
def rTIn : R2 := fun x y H Q => ∃ a o w, y = .ref a ∧ w = X.w ∧ TGet w H a x o ∧ Q (.bl o.isSome) H
def rTNotIn : R2 := fun x y H Q => ∃ a o w, y = .ref a ∧ w = X.w ∧ TGet w H a x o ∧ Q (.bl (!o.isSome)) H
theorem op_tin (hu : X.A.units + 64 < cLine) : OpR X (compareOp .In) (rTIn (X := X)) := by
  intro pins s σ H x y v u Q I rx ry h
  obtain ⟨a, o, w, rfl, rfl, ⟨b, xs, k, rfl, e, hk, hb, hd, rfl⟩, q⟩ := h
  cases rx
  cases ry
  exact td_in (room8 hu) I e hk hb hd fun s' I' => ⟨.bl _, H, I', rfl, q⟩
theorem op_tnotin (hu : X.A.units + 64 < cLine) : OpR X (compareOp .NotIn) (rTNotIn (X := X)) := by
  intro pins s σ H x y v u Q I rx ry h
  obtain ⟨a, o, w, rfl, rfl, ⟨b, xs, k, rfl, e, hk, hb, hd, rfl⟩, q⟩ := h
  cases rx
  cases ry
  exact td_notIn (room8 hu) I e hk hb hd fun s' I' => ⟨.bl _, H, I', rfl, q⟩
def rIxT' : R2 := fun x y H Q => ∃ a v w, x = .ref a ∧ w = X.w ∧ TGet w H a y (some v) ∧ Q v H
theorem ix_td (hu : X.A.units + 64 < cLine) : IxR X (rIxT' (X := X)) := by
  intro value slice pins s σ H x y v u Q I rx ry h hs
  obtain ⟨a, r, w, rfl, rfl, ⟨b, xs, k, rfl, e, hk, hb, hd, l⟩, q⟩ := h
  cases rx
  cases ry
  exact tail_anyD (td_typeIs I e).1 PySem.F.slot_dict_getitem.lookup (td_getItem (room8 hu) I e hk hb hd l.symm fun w' s3 I3 rw' => ⟨r, H, I3, rw', q⟩) hs
def rTGet2 : V → List V → Hp → VK → Prop := fun x xs H Q => ∃ a y d o w, x = .ref a ∧ xs = [y, d] ∧ w = X.w ∧ TGet w H a y o ∧ Q (o.getD d) H
theorem mt_tget2 (hu : X.A.units + 64 < cLine) : MtR X "dict.get" (rTGet2 (X := X)) := by
  intro pins s σ H x xs v us Q I rx rs h
  obtain ⟨a, y, d, o, w, rfl, rfl, rfl, ⟨b, es, k, rfl, e, hk, hb, hd, rfl⟩, q⟩ := h
  cases rx
  obtain ⟨u1, u2, rfl, r1, r2⟩ := vals2 rs
  cases r1
  exact td_getOr (room8 hu) I e hk hb hd r2 fun w' s' I' rw' => ⟨_, H, I', rw', q⟩
/-- {k: v}, k a tuple that is a key; the new dict stands empty while the pair is made -/
def dispQ (X : Cx) (p : Addr) (Q : VK) : List (V × V) → Hp → Prop
  | [(x, y)], H2 => H2 p = some (.dK []) ∧ ∃ b k, x = .ref b ∧ NKy H2 k (.ref b) ∧ k.depth ≤ 8 ∧ Q (.ref p) (upd H2 p (TDO X.w p [(k, b, y)]))
  | _, _ => False
theorem dispQ_inv {p : Addr} {Q : VK} : ∀ {ps : List (V × V)} {H2 : Hp}, dispQ X p Q ps H2 → ∃ x y, ps = [(x, y)] ∧ H2 p = some (.dK []) ∧ ∃ b k, x = .ref b ∧ NKy H2 k (.ref b) ∧ k.depth ≤ 8 ∧ Q (.ref p) (upd H2 p (TDO X.w p [(k, b, y)]))
  | [(x, y)], _, h => ⟨x, y, rfl, h⟩
  | [], _, h => h.elim
  | (_, _) :: _ :: _, _, h => h.elim
theorem vv_one {x y : V} {ws : List (Value × Value)} (r : VV [(x, y)] ws) : ∃ u v, ws = [(u, v)] ∧ RelV x u ∧ RelV y v := by
  cases r with
  | cons h t =>
    cases t
    exact ⟨_, _, rfl, h.1, h.2⟩
def tDispT (X : Cx) (tk tv : TE) : TE := fun σ H Q => ∀ p, H p = none → tk σ (upd H p (.dK [])) fun x H1 => tv σ H1 fun y H2 => dispQ X p Q [(x, y)] H2
theorem pe_dispT {e v : Expr} {tk tv : TE} {pos : Pos} (hu : X.A.units + 64 < cLine) (hk : PE X e tk) (hv : PE X v tv) : PE X (.Dict [some e] [v] pos) (tDispT X tk tv) := by
  refine ⟨fun pins s σ H Q I q => ?_⟩
  have hn := I.hok.fresh (Nat.le_refl s.heap.objs.size)
  have I1 := I.laid (a := s.heap.objs.size) (o := .dK []) (h' := s.heap.push { cls := .type "dict", data := .dict #[] }) (t' := s.toks) (fun _ _ q => Heap.get?_push_of_some _ q) (Nat.le_refl _) (dk_empty s.heap I.big)
  have hnp : (pairTrees [some e] [v] X.env pos).length = 1 := pairTrees_length [some e] [v] X.env pos rfl rfl
  rw [arm_eval_Dict, zip_pairTrees [some e] [v] X.env pos rfl rfl, dictDisplay_pairs (pairTrees [some e] [v] X.env pos) (fun z => by rw [z] at hnp; cases hnp) (by rw [hnp]; decide)]
  refine wpAny_bind (wpAny_standAt (wpAny_bind (wpAny_subDictH (knd := nestedKind X.prog X.w) (Q := fun d s' => wpAny (model X.prog X.w) X.A (pure (Value.ref d)) (EP X pins σ Q) X.xe s') (show X.A.units + 8 < cLine by omega) (by rw [hnp]; decide) ?_)))
  refine thn ((pps_cons hk hv pps_nil).run pins _ σ _ (dispQ X s.heap.objs.size Q) I1 (q _ hn)) fun ws s2 ⟨ps, H2, I2, rel, d⟩ => ?_
  obtain ⟨x, y, rfl, e0, b, k, rfl, nk, hd, q2⟩ := dispQ_inv d
  obtain ⟨u1, u2, rfl, r1, r2⟩ := vv_one rel
  obtain rfl : u1 = Value.ref b := r1
  obtain ⟨_, hs, ys, r0, dd⟩ := td_full (xs := []) I2 (.inr ⟨rfl, .inl e0⟩) (fun x h => by cases h)
  cases r0
  refine ⟨[(k, b, u2)], ⟨rfl, rfl, ⟨NKy.is I2 nk rfl, hd⟩, trivial⟩, dd, fun h' tk' dd' hs' => wpAny_pure ⟨.ref s.heap.objs.size, _, ?_, rfl, q2⟩⟩
  obtain ⟨o, es, ep, hq, h2, h3, h4, _, h5⟩ := dd'
  exact d_write I2 (by rw [e0]; exact True.intro) hs' ⟨o, hq⟩ (tdo_ok ⟨by show 1 ≤ sizeLine; decide, hs, [(k, b, u2)], .cons ⟨rfl, rfl, r2⟩ .nil, o, es, ep, hq, h2, h3, h4, h5⟩)
end
end MP
set_option maxHeartbeats 2000000
/-! MPzl0: list(zip(x, y)) at the library's level. -/
namespace MP
open PySem PySem.Calls PySem.Spec PyProof.Rows
/-- a zip that has handed out the tuple a; f: it has been seen alive since -/
abbrev IsZipO (h : Heap) (z TI TO a : Addr) (f : Bool) : Prop :=
  h.get? z = some { cls := .type "zip", dict := none, data := .fields #[rawInt a, .bool f, .bool false, .ref TI, .ref TO], slots := #[] }
section
variable {prog : Program} {w : World} {A : Around} {E : Value → Shared → Prop} {s : Shared} {z TI TO i1 i2 a : Addr} {f : Bool} {oa : Obj} {fp1 fp2 : List Addr} {n1 n2 i : Nat} {P1 P2 : Nat → Value → Prop} {St1 St2 : Nat → Heap → Prop}
theorem zipO_free {Q : Bool → Shared → Prop} (hz : IsZipO s.heap z TI TO a f) (ha : s.heap.get? a = some oa)
    (h : ∀ h', IsZipO h' z TI TO a true → Heap.SameBut z s.heap h' → Q false { s with heap := h' }) : wpAny (model prog w) A (Builtin.SmallTypes.ownedTupleIsFree (.ref z)) Q E s := by
  unfold Builtin.SmallTypes.ownedTupleIsFree
  refine wpAny_bind (wpAny_field hz rfl (x := rawInt a) rfl ?_)
  show wpAny _ _ (loadIfAlive ((a : Int).toNat) >>= _) _ _ _
  rw [Int.toNat_natCast]
  refine wpAny_bind (PySem.W.kdx_alive ha ?_)
  simp only [Option.isNone_some, Bool.false_eq_true, if_false]
  refine wpAny_bind (wpAny_field hz rfl (x := .bool f) rfl ?_)
  cases f with
  | true =>
    rw [if_neg (show ¬ ((Value.bool true != Value.bool true) = true) from Bool.false_ne_true)]
    exact wpAny_pure (h _ hz (Heap.SameBut.refl _ _))
  | false =>
    rw [if_pos (show ((Value.bool false != Value.bool true) = true) from rfl)]
    refine wpAny_bind (wpAny_setField_rec hz (by simp) fun h₁ hz₁ hs₁ => ?_)
    exact wpAny_pure (h h₁ hz₁ hs₁)
theorem zipO_next_item {Q : Value → Shared → Prop} (S : ZipSep2 z TI TO i1 i2 fp1 fp2) (D1 : Draws prog w A i1 fp1 n1 P1 St1) (D2 : Draws prog w A i2 fp2 n2 P2 St2)
    (hz : IsZipO s.heap z TI TO a f) (ha : s.heap.get? a = some oa) (hTI : IsTupOf2 s.heap TI (.ref i1) (.ref i2)) (st1 : St1 i s.heap) (st2 : St2 i s.heap) (hlt1 : i < n1) (hlt2 : i < n2)
    (hQ : ∀ x1 x2 h' tk, P1 i x1 → P2 i x2 → IsZipO h' z TI TO a true → St1 (i + 1) h' → St2 (i + 1) h' → IsTupOf2 h' s.heap.objs.size x1 x2 → h'.objs.size = s.heap.objs.size + 1 →
      (∀ c o, c ≠ z → c ≠ i1 → c ≠ i2 → s.heap.get? c = some o → h'.get? c = some o) → Q (.ref s.heap.objs.size) { s with heap := h', toks := tk }) :
    wpAny (model prog w) A (Builtin.«zip.__next__» ⟨[.ref z], []⟩) (fun fin s' => ∃ v, fin = .done (.ret v) ∧ Q v s') E s := by
  obtain ⟨hp, g, d, tk0, os⟩ := s
  show wpAny _ _ (field (.ref z) 2 >>= _) _ _ _
  refine wpAny_bind (wpAny_field hz rfl (x := .bool false) rfl ?_)
  show wpAny _ _ (field (.ref z) 3 >>= _) _ _ _
  refine wpAny_bind (wpAny_field hz rfl (x := .ref TI) rfl ?_)
  refine wpAny_bind (wpAny_seqItems hTI rfl ?_)
  show wpAny _ _ (Builtin.SmallTypes.ownedTupleIsFree (.ref z) >>= _) _ _ _
  refine wpAny_bind (zipO_free hz ha fun g0 hz0 hs0 => ?_)
  replace hz0 : IsZipO g0 z TI TO a true := hz0
  replace hs0 : Heap.SameBut z hp g0 := hs0
  simp only [Bool.false_eq_true, if_false, ← Array.forIn_toList, List.forIn_cons, List.forIn_nil]
  refine wpAny_bind (wpAny_bind (wpAny_bind (wpAny_holding ?_)))
  show wpAny _ _ (Builtin.SmallTypes.nextOf (.ref i1) >>= _) _ _ ⟨g0, g, d, tk0, os⟩
  refine wpAny_bind (D1.item i _ _ _ hlt1 (D1.over st1 hs0 S.zf1) fun x1 p1 tk1 hx1 sn1 hp1 => wpAny_pure ?_)
  replace hp1 : Heap.SameBut i1 g0 p1 := hp1
  refine wpAny_pure (wpAny_bind (wpAny_bind (wpAny_holding ?_)))
  show wpAny _ _ (Builtin.SmallTypes.nextOf (.ref i2) >>= _) _ _ ⟨p1, g, d, tk1, os⟩
  refine wpAny_bind (D2.item i _ _ _ hlt2 (D2.over (D2.over st2 hs0 S.zf2) hp1 S.sep1_2) fun x2 p2 tk2 hx2 sn2 hp2 => wpAny_pure ?_)
  replace hp2 : Heap.SameBut i2 p1 p2 := hp2
  refine wpAny_pure (wpAny_pure ?_)
  show wpAny _ _ (newTuple [x1, x2] >>= _) _ _ ⟨p2, g, d, tk2, os⟩
  refine wpAny_bind (wpAny_newTuple (wpAny_pure ⟨_, rfl, ?_⟩))
  have hsz : p2.objs.size = hp.objs.size := by rw [hp2.1, hp1.1, hs0.1]
  have up : ∀ c o, p2.get? c = some o → (p2.push { cls := .type "tuple", data := .seq #[x1, x2] }).get? c = some o := fun c o e => Heap.get?_push_of_some _ e
  show Q (.ref p2.objs.size) ⟨p2.push { cls := .type "tuple", data := .seq #[x1, x2] }, g, d, tk2, os⟩
  rw [hsz]
  refine hQ x1 x2 _ tk2 hx1 hx2 (up _ _ (hp2.extBut _ _ S.zi2 (hp1.extBut _ _ S.zi1 hz0))) (D1.frame _ _ _ (D1.over sn1 hp2 S.sep2_1) fun b _ o e => up b o e) (D2.frame _ _ _ sn2 fun b _ o e => up b o e) ?_ ?_ fun c o cz c1 c2 e => up _ _ (hp2.extBut _ _ c2 (hp1.extBut _ _ c1 (hs0.extBut _ _ cz e)))
  · show (p2.push _).get? hp.objs.size = _
    rw [← hsz]
    exact Heap.get?_push_size _ rfl
  · show (p2.push _).objs.size = hp.objs.size + 1
    rw [Heap.size_push, hsz]
theorem zipO_next_end {Q : Fin → Shared → Prop} (S : ZipSep2 z TI TO i1 i2 fp1 fp2) (D1 : Draws prog w A i1 fp1 n1 P1 St1) (D2 : Draws prog w A i2 fp2 n2 P2 St2)
    (hz : IsZipO s.heap z TI TO a f) (ha : s.heap.get? a = some oa) (hTI : IsTupOf2 s.heap TI (.ref i1) (.ref i2)) (st1 : St1 i s.heap) (st2 : St2 i s.heap) (hle1 : i ≤ n1) (hle2 : i ≤ n2) (hend : i = n1 ∨ i = n2)
    (hE : ∀ h' tk e, (∀ c o, c ≠ z → c ≠ i1 → c ≠ i2 → s.heap.get? c = some o → h'.get? c = some o) → (∃ o, h'.get? e = some o ∧ o.cls = .type "StopIteration") → E (.ref e) { s with heap := h', toks := tk }) :
    wpAny (model prog w) A (Builtin.«zip.__next__» ⟨[.ref z], []⟩) Q E s := by
  obtain ⟨hp, g, d, tk0, os⟩ := s
  show wpAny _ _ (field (.ref z) 2 >>= _) _ _ _
  refine wpAny_bind (wpAny_field hz rfl (x := .bool false) rfl ?_)
  show wpAny _ _ (field (.ref z) 3 >>= _) _ _ _
  refine wpAny_bind (wpAny_field hz rfl (x := .ref TI) rfl ?_)
  refine wpAny_bind (wpAny_seqItems hTI rfl ?_)
  show wpAny _ _ (Builtin.SmallTypes.ownedTupleIsFree (.ref z) >>= _) _ _ _
  refine wpAny_bind (zipO_free hz ha fun g0 hz0 hs0 => ?_)
  replace hz0 : IsZipO g0 z TI TO a true := hz0
  replace hs0 : Heap.SameBut z hp g0 := hs0
  simp only [Bool.false_eq_true, if_false, ← Array.forIn_toList, List.forIn_cons, List.forIn_nil]
  refine wpAny_bind (wpAny_bind (wpAny_bind (wpAny_holding ?_)))
  show wpAny _ _ (Builtin.SmallTypes.nextOf (.ref i1) >>= _) _ _ ⟨g0, g, d, tk0, os⟩
  by_cases hlt1 : i < n1
  · refine wpAny_bind (D1.item i _ _ _ hlt1 (D1.over st1 hs0 S.zf1) fun x1 p1 tk1 hx1 sn1 hp1 => wpAny_pure ?_)
    replace hp1 : Heap.SameBut i1 g0 p1 := hp1
    have hi2 : i = n2 := by omega
    refine wpAny_pure (wpAny_bind (wpAny_bind (wpAny_holding ?_)))
    show wpAny _ _ (Builtin.SmallTypes.nextOf (.ref i2) >>= _) _ _ ⟨p1, g, d, tk1, os⟩
    refine wpAny_bind (D2.done ⟨p1, g, d, tk1, os⟩ _ _ (by rw [← hi2]; exact (D2.over (D2.over st2 hs0 S.zf2) hp1 S.sep1_2)) fun q e hq he => ?_)
    replace hq : Heap.ExtBut i2 p1 q := hq
    exact hE q tk1 e (fun c o cz c1 c2 x => hq _ _ c2 (hp1.extBut _ _ c1 (hs0.extBut _ _ cz x))) he
  · have hi1 : i = n1 := by omega
    refine wpAny_bind (D1.done ⟨g0, g, d, tk0, os⟩ _ _ (by rw [← hi1]; exact (D1.over st1 hs0 S.zf1)) fun q e hq he => ?_)
    replace hq : Heap.ExtBut i1 g0 q := hq
    exact hE q tk0 e (fun c o cz c1 c2 x => hq _ _ c1 (hs0.extBut _ _ cz x)) he
/-- where such a zip stands, at the turn i: nothing handed out yet, or a tuple that lives -/
def ZSt (z TI TO i1 i2 S : Addr) (St1 St2 : Nat → Heap → Prop) (i : Nat) (h : Heap) : Prop :=
  IsTupOf2 h TI (.ref i1) (.ref i2) ∧ St1 i h ∧ St2 i h ∧ ((i = 0 ∧ IsZip h z TI TO .none ∧ ∃ a1 a2, IsTupOf2 h TO a1 a2) ∨ ∃ a f oa, IsZipO h z TI TO a f ∧ h.get? a = some oa ∧ a ≠ z ∧ a ≠ i1 ∧ a ≠ i2 ∧ a ≠ S)
theorem zst_item {L : Addr} {Q : Option Value → Shared → Prop} (S : ZipSep2 z TI TO i1 i2 fp1 fp2) (D1 : Draws prog w A.in1 i1 fp1 n1 P1 St1) (D2 : Draws prog w A.in1 i2 fp2 n2 P2 St2)
    (hst : ZSt z TI TO i1 i2 L St1 St2 i s.heap) (hL : L < s.heap.objs.size) (hlt1 : i < n1) (hlt2 : i < n2)
    (hQ : ∀ x1 x2 h' tk, P1 i x1 → P2 i x2 → ZSt z TI TO i1 i2 L St1 St2 (i + 1) h' → IsTupOf2 h' s.heap.objs.size x1 x2 → h'.objs.size = s.heap.objs.size + 1 →
      (∀ c o, c ≠ z → c ≠ TO → c ≠ i1 → c ≠ i2 → s.heap.get? c = some o → h'.get? c = some o) → Q (some (.ref s.heap.objs.size)) { s with heap := h', toks := tk }) :
    wpAny (model prog w) A (pyNext (.ref z)) Q E s := by
  obtain ⟨hTI, st1, st2, hst⟩ := hst
  obtain ⟨_, l1⟩ := D1.live _ _ st1
  obtain ⟨_, l2⟩ := D2.live _ _ st2
  rcases hst with ⟨rfl, hz, a1, a2, hTO⟩ | ⟨a, f, oa, hz, ha, n1', n2', n3', n4'⟩
  · refine wpAny_pyNext_zipD2_item S D1 D2 hz hTI hTO st1 st2 hlt1 hlt2 fun x1 x2 h' tk y1 y2 b1 b2 d1 d2 b5 b6 b7 => ?_
    exact hQ x1 x2 h' tk y1 y2 ⟨b7 _ _ S.TIz S.TITO S.TIi1 S.TIi2 hTI, d1, d2, .inr ⟨_, false, _, b1, b5, Nat.ne_of_gt (Heap.lt_size hz), Nat.ne_of_gt (Heap.lt_size l1), Nat.ne_of_gt (Heap.lt_size l2), Nat.ne_of_gt hL⟩⟩ b5 b6 b7
  · have hT : s.TypeIs (.ref z) "zip" := ⟨_, hz, rfl⟩
    unfold pyNext
    exact wpAny_bind (wpAny_attempt (wpAny_callSpecial?_slot (name := Str.ofString "__next__") hT F.slot_zip_next
      (wpAny_call_entry F.slot_zip_next hT F.entry_zip_next
        (zipO_next_item S D1 D2 hz ha hTI st1 st2 hlt1 hlt2 fun x1 x2 h' tk y1 y2 b1 d1 d2 b5 b6 b7 => wpAny_pure (hQ x1 x2 h' tk y1 y2
          ⟨b7 _ _ S.TIz S.TIi1 S.TIi2 hTI, d1, d2, .inr ⟨a, true, oa, b1, b7 _ _ n1' n2' n3' ha, n1', n2', n3', n4'⟩⟩ b5 b6 fun c o c1 c2 c3 c4 e => b7 c o c1 c3 c4 e)) (F.args_zip_next_1 _))))
theorem zst_end {L : Addr} {Q : Option Value → Shared → Prop} (S : ZipSep2 z TI TO i1 i2 fp1 fp2) (D1 : Draws prog w A.in1 i1 fp1 n1 P1 St1) (D2 : Draws prog w A.in1 i2 fp2 n2 P2 St2)
    (hst : ZSt z TI TO i1 i2 L St1 St2 i s.heap) (hle1 : i ≤ n1) (hle2 : i ≤ n2) (hend : i = n1 ∨ i = n2)
    (hQ : ∀ h' tk, (∀ c o, c ≠ z → c ≠ TO → c ≠ i1 → c ≠ i2 → s.heap.get? c = some o → h'.get? c = some o) → Q none { s with heap := h', toks := tk }) : wpAny (model prog w) A (pyNext (.ref z)) Q E s := by
  obtain ⟨hTI, st1, st2, hst⟩ := hst
  rcases hst with ⟨rfl, hz, a1, a2, hTO⟩ | ⟨a, f, oa, hz, ha, n1', n2', n3', n4'⟩
  · exact wpAny_pyNext_zipD2_end S D1 D2 hz hTI hTO st1 st2 hle1 hle2 hend hQ
  · have hT : s.TypeIs (.ref z) "zip" := ⟨_, hz, rfl⟩
    unfold pyNext
    refine wpAny_bind (wpAny_attempt (wpAny_callSpecial?_slot (name := Str.ofString "__next__") hT F.slot_zip_next
      (wpAny_call_entry F.slot_zip_next hT F.entry_zip_next (zipO_next_end S D1 D2 hz ha hTI st1 st2 hle1 hle2 hend fun h' tk e hk he => ?_) (F.args_zip_next_1 _))))
    obtain ⟨o, ho, hc⟩ := he
    refine wpAny_bind (wpAny_isInstance (T := "StopIteration") (b := true) ⟨o, ho, hc⟩ isSubtype_stop ?_)
    exact wpAny_pure (hQ _ _ fun c o c1 c2 c3 c4 e => hk c o c1 c3 c4 e)
theorem ZSt.keep {L : Addr} (S : ZipSep2 z TI TO i1 i2 fp1 fp2) (D1 : Draws prog w A i1 fp1 n1 P1 St1) (D2 : Draws prog w A i2 fp2 n2 P2 St2) {h h' : Heap} (x : ZSt z TI TO i1 i2 L St1 St2 i h) (hk : ∀ b o, b ≠ L → h.get? b = some o → h'.get? b = some o)
    (l1 : z ≠ L) (l2 : TI ≠ L) (l3 : TO ≠ L) (l4 : L ∉ fp1) (l5 : L ∉ fp2) : ZSt z TI TO i1 i2 L St1 St2 i h' := by
  obtain ⟨hTI, st1, st2, hst⟩ := x
  refine ⟨hk _ _ l2 hTI, D1.frame _ _ _ st1 fun b hb o e => hk b o (fun q => l4 (q ▸ hb)) e, D2.frame _ _ _ st2 fun b hb o e => hk b o (fun q => l5 (q ▸ hb)) e, ?_⟩
  rcases hst with ⟨rfl, hz, a1, a2, hTO⟩ | ⟨a, f, oa, hz, ha, n1', n2', n3', n4'⟩
  · exact .inl ⟨rfl, hk _ _ l1 hz, a1, a2, hk _ _ l3 hTO⟩
  · exact .inr ⟨a, f, oa, hk _ _ l1 hz, hk _ _ n4' ha, n1', n2', n3', n4'⟩
end
/-- the tuples handed out so far, at rising addresses above lo -/
structure ZG (P1 P2 : Nat → Value → Prop) (lo : Addr) (h : Heap) (as : List Addr) : Prop where
  rise : as.Pairwise (· < ·)
  above : ∀ a ∈ as, lo < a
  pairs : ∀ (j : Nat) (a : Addr), as[j]? = some a → ∃ x y, P1 j x ∧ P2 j y ∧ IsTupOf2 h a x y
theorem ZG.there {P1 P2 : Nat → Value → Prop} {lo : Addr} {h : Heap} {as : List Addr} (g : ZG P1 P2 lo h as) {a : Addr} (ha : a ∈ as) : a < h.objs.size := by
  obtain ⟨j, hj⟩ := List.mem_iff_getElem?.mp ha
  obtain ⟨_, _, _, _, e⟩ := g.pairs j a hj
  exact Heap.lt_size e
theorem ZG.low {P1 P2 : Nat → Value → Prop} {lo lo' : Addr} {h : Heap} {as : List Addr} (g : ZG P1 P2 lo h as) (hl : lo' ≤ lo) : ZG P1 P2 lo' h as := ⟨g.rise, fun a ha => Nat.lt_of_le_of_lt hl (g.above a ha), g.pairs⟩
section
variable {prog : Program} {w : World} {A : Around} {s : Shared} {R : Result → Shared → Prop} {z TI TO i1 i2 L : Addr} {fp1 fp2 : List Addr} {n1 n2 : Nat} {P1 P2 : Nat → Value → Prop} {St1 St2 : Nat → Heap → Prop}
/-- list(zip): the loop; T bounds the zip's own cells and the list from above -/
theorem zl_loop {T : Addr} (S : ZipSep2 z TI TO i1 i2 fp1 fp2) (D1 : Draws prog w A.in1.in1 i1 fp1 n1 P1 St1) (D2 : Draws prog w A.in1.in1 i2 fp2 n2 P2 St2) (l1 : z ≠ L) (l2 : TI ≠ L) (l3 : TO ≠ L) (l4 : L ∉ fp1) (l5 : L ∉ fp2)
    (t0 : L ≤ T) (t1 : z ≤ T) (t2 : TO ≤ T) (t3 : i1 ≤ T) (t4 : i2 ≤ T) (hn : min n1 n2 ≤ sizeLine) (res : Value) {h₁ : Heap}
    (hR : ∀ h' tk acc c as, (∀ b o, b ≠ L → b ≠ z → b ≠ TO → b ≠ i1 → b ≠ i2 → h₁.get? b = some o → h'.get? b = some o) → h'.get? L = some { cls := .type "list", dict := none, data := .seq acc c, slots := #[] } → as.length = min n1 n2 → ZG P1 P2 T h' as →
      acc.toList = as.map Value.ref → R (.ok (.ret res)) { s with heap := h', toks := tk }) :
    ∀ (k i : Nat) (h : Heap) (tk c : Nat) (acc : Array Value) (as : List Addr), min n1 n2 - i = k → i ≤ min n1 n2 → ZSt z TI TO i1 i2 L St1 St2 i h → (∀ b o, b ≠ L → b ≠ z → b ≠ TO → b ≠ i1 → b ≠ i2 → h₁.get? b = some o → h.get? b = some o) →
      h.get? L = some { cls := .type "list", dict := none, data := .seq acc c, slots := #[] } → acc.toList = as.map Value.ref → as.length = i → ZG P1 P2 T h as → T < h.objs.size →
      codeAny (model prog w) A (.builtin "list.extend.loop" ⟨[.ref L, .ref z, res], []⟩) R { s with heap := h, toks := tk } := by
  intro k
  have offL : ∀ {b : Addr}, T < b → b ≠ L ∧ b ≠ z ∧ b ≠ TO ∧ b ≠ i1 ∧ b ≠ i2 := fun {b} hb => ⟨Nat.ne_of_gt (Nat.lt_of_le_of_lt t0 hb), Nat.ne_of_gt (Nat.lt_of_le_of_lt t1 hb), Nat.ne_of_gt (Nat.lt_of_le_of_lt t2 hb), Nat.ne_of_gt (Nat.lt_of_le_of_lt t3 hb), Nat.ne_of_gt (Nat.lt_of_le_of_lt t4 hb)⟩
  have Lz : L ≠ i1 ∧ L ≠ i2 := ⟨fun q => l4 (q ▸ S.mem1), fun q => l5 (q ▸ S.mem2)⟩
  induction k with
  | zero =>
    intro i h tk c acc as hk hi hst hkeep hS hacc hal hG hIs
    have hin : i = min n1 n2 := by omega
    refine codeAny_builtin PySem.F.entry_extend_loop ?_
    rw [Around.under_plainId PySem.F.plain_extend_loop _]
    show wpAny _ A.in1 (pyNext (.ref z) >>= _) _ _ _
    refine wpAny_bind (zst_end (s := { s with heap := h, toks := tk }) (A := A.in1) S D1 D2 hst (by omega) (by omega) (by omega) fun h' tk' he => ?_)
    refine wpAny_pure (hR h' tk' acc c as (fun b o h1 h2 h3 h4 h5 e => he b o h2 h3 h4 h5 (hkeep b o h1 h2 h3 h4 h5 e)) (he L _ (Ne.symm l1) (Ne.symm l3) Lz.1 Lz.2 hS) (by omega) ⟨hG.rise, hG.above, fun j a hj => ?_⟩ hacc)
    obtain ⟨x, y, e1, e2, e3⟩ := hG.pairs j a hj
    obtain ⟨q1, q2, q3, q4, q5⟩ := offL (hG.above a (List.mem_of_getElem? hj))
    exact ⟨x, y, e1, e2, he a _ q2 q3 q4 q5 e3⟩
  | succ k ih =>
    intro i h tk c acc as hk hi hst hkeep hS hacc hal hG hIs
    have hlt : i < min n1 n2 := by omega
    have hsz : acc.size = i := by rw [← Array.length_toList, hacc, List.length_map, hal]
    refine codeAny_builtin PySem.F.entry_extend_loop ?_
    rw [Around.under_plainId PySem.F.plain_extend_loop _]
    show wpAny _ A.in1 (pyNext (.ref z) >>= _) _ _ _
    refine wpAny_bind (zst_item (s := { s with heap := h, toks := tk }) (A := A.in1) S D1 D2 hst (Heap.lt_size hS) (by omega) (by omega) fun x1 x2 h' tk' y1 y2 hst' ht hz hkp => ?_)
    dsimp only at ht hz hkp ⊢
    have hS' := hkp L _ (Ne.symm l1) (Ne.symm l3) Lz.1 Lz.2 hS
    have up : ∀ b o, b ≠ L → h'.get? b = some o → (h'.update L (Obj.mapSeq (·.push (Value.ref h.objs.size)))).get? b = some o := fun b o hb e => (Heap.get?_update_other _ _ (Ne.symm hb)).trans e
    have hSl : L < h.objs.size := Heap.lt_size hS
    show wpAny _ A.in1 (updateSeq L (·.push (Value.ref h.objs.size)) >>= _) _ _ _
    refine wpAny_bind ?_
    refine wpAny_updateSeq hS' rfl (wpAny_pure ⟨plainId_quiet PySem.F.plain_extend_loop _, ih (i + 1) _ tk' _ (acc.push (Value.ref h.objs.size)) (as ++ [h.objs.size]) (by omega) hlt (hst'.keep S D1 D2 up l1 l2 l3 l4 l5)
      (fun b o h1 h2 h3 h4 h5 e => up b o h1 (hkp b o h2 h3 h4 h5 (hkeep b o h1 h2 h3 h4 h5 e))) (Heap.get?_update_self _ hS' rfl) (by rw [Array.toList_push, hacc, List.map_append]; rfl) (by rw [List.length_append, hal]; rfl) ⟨?_, ?_, ?_⟩ ?_⟩) (by rw [hsz]; omega) (by show (acc.push (Value.ref h.objs.size)).size ≤ sizeLine + 1; rw [Array.size_push, hsz]; omega)
    · refine List.pairwise_append.mpr ⟨hG.rise, List.pairwise_singleton _ _, fun a ha b hb => ?_⟩
      rw [List.mem_singleton.mp hb]
      exact hG.there ha
    · intro a ha
      rcases List.mem_append.mp ha with ha | ha
      · exact hG.above a ha
      · rw [List.mem_singleton.mp ha]; exact hIs
    · intro j b hj
      rcases Nat.lt_trichotomy j as.length with h1 | h1 | h1
      · rw [List.getElem?_append_left h1] at hj
        obtain ⟨x', y', e1, e2, e3⟩ := hG.pairs j b hj
        obtain ⟨q1, q2, q3, q4, q5⟩ := offL (hG.above b (List.mem_of_getElem? hj))
        exact ⟨x', y', e1, e2, up b _ q1 (hkp b _ q2 q3 q4 q5 e3)⟩
      · subst h1
        have hb : h.objs.size = b := by simpa using hj
        subst hb
        exact ⟨x1, x2, by rw [hal]; exact y1, by rw [hal]; exact y2, up _ _ (Nat.ne_of_gt hSl) ht⟩
      · have hnone : (as ++ [h.objs.size])[j]? = none := List.getElem?_eq_none (by rw [List.length_append, List.length_singleton]; omega)
        rw [hnone] at hj; cases hj
    · have e : (h'.update L (Obj.mapSeq (·.push (Value.ref h.objs.size)))).get? h.objs.size = _ := up _ _ (Nat.ne_of_gt hSl) ht
      exact Nat.lt_trans hIs (Heap.lt_size e)
end
theorem zl_len : typeLookup (.type "zip") "__len__" = pure none := by rw [typeLookup_type, builtinLookup_eq_fast]; kernel_rfl
theorem zl_hnt : typeLookup (.type "zip") "__length_hint__" = pure none := by rw [typeLookup_type, builtinLookup_eq_fast]; kernel_rfl
section
variable {prog : Program} {w : World} {A : Around} {E : Value → Shared → Prop} {s : Shared} {z : Addr}
theorem zl_hint (hT : s.TypeIs (.ref z) "zip") {Q : Bool → Shared → Prop} (h : Q true s) : wpAny (model prog w) A (Builtin.List.listLengthHint (.ref z)) Q E s := by
  unfold Builtin.List.listLengthHint
  refine wpAny_bind (wpAny_specialOf hT zl_len ?_)
  refine wpAny_ite_split (fun hab => absurd hab (by decide)) (fun _ => ?_)
  refine wpAny_ite_split (fun hab => absurd hab (by decide)) (fun _ => ?_)
  exact wpAny_bind (wpAny_specialOf hT zl_hnt (wpAny_pure h))
end
section
variable {prog : Program} {w : World} {A : Around} {s : Shared} {R : Result → Shared → Prop} {z TI TO i1 i2 L : Addr} {fp1 fp2 : List Addr} {n1 n2 : Nat} {P1 P2 : Nat → Value → Prop} {St1 St2 : Nat → Heap → Prop}
theorem ZSt.zip {St1 St2 : Nat → Heap → Prop} {h : Heap} {i : Nat} (x : ZSt z TI TO i1 i2 L St1 St2 i h) : ∃ f0 f1, h.get? z = some { cls := .type "zip", dict := none, data := .fields #[f0, .bool f1, .bool false, .ref TI, .ref TO], slots := #[] } := by
  obtain ⟨_, _, _, ⟨_, hz, _⟩ | ⟨a, f, _, hz, _⟩⟩ := x
  · exact ⟨_, _, hz⟩
  · exact ⟨_, _, hz⟩
theorem zl_extend (S : ZipSep2 z TI TO i1 i2 fp1 fp2) (D1 : Draws prog w A.in1.in1 i1 fp1 n1 P1 St1) (D2 : Draws prog w A.in1.in1 i2 fp2 n2 P2 St2) (l1 : z ≠ L) (l2 : TI ≠ L) (l3 : TO ≠ L) (l4 : L ∉ fp1) (l5 : L ∉ fp2)
    (t1 : z ≤ L) (t2 : TO ≤ L) (t3 : i1 ≤ L) (t4 : i2 ≤ L) (hz : IsZip s.heap z TI TO .none) (hTI : IsTupOf2 s.heap TI (.ref i1) (.ref i2)) (hTO : ∃ a1 a2, IsTupOf2 s.heap TO a1 a2) (st1 : St1 0 s.heap) (st2 : St2 0 s.heap) (hn : min n1 n2 ≤ sizeLine) (res : Value) (c₀ : Nat)
    (hS : s.heap.get? L = some { cls := .type "list", data := .seq #[] c₀ })
    (hR : ∀ h' tk acc c as, (∀ b o, b ≠ L → b ≠ z → b ≠ TO → b ≠ i1 → b ≠ i2 → s.heap.get? b = some o → h'.get? b = some o) → h'.get? L = some { cls := .type "list", dict := none, data := .seq acc c, slots := #[] } → as.length = min n1 n2 → ZG P1 P2 L h' as →
      acc.toList = as.map Value.ref → R (.ok (.ret res)) { s with heap := h', toks := tk }) :
    wpAny (model prog w) A.in1 (Builtin.List.listExtendWith (.ref L) (.ref z) res)
      (fun fin s' => match fin with | .done f => R (.ok f) s' | .again c' => c'.quiet = true ∧ codeAny (model prog w) A c' R s') (fun e s' => R (.error e) s') s := by
  have hT : s.TypeIs (.ref z) "zip" := ⟨_, hz, rfl⟩
  have Lz : L ≠ i1 ∧ L ≠ i2 := ⟨fun q => l4 (q ▸ S.mem1), fun q => l5 (q ▸ S.mem2)⟩
  have key : ∀ (h : Heap) (c₁ : Nat), (∀ b o, b ≠ L → s.heap.get? b = some o → h.get? b = some o) →
      h.get? L = some { cls := .type "list", data := .seq #[] c₁ } → codeAny (model prog w) A (.builtin "list.extend.loop" ⟨[.ref L, .ref z, res], []⟩) R { s with heap := h, toks := s.toks } := by
    intro h c₁ hk hS₁
    have st0 : ZSt z TI TO i1 i2 L St1 St2 0 s.heap := ⟨hTI, st1, st2, .inl ⟨rfl, hz, hTO⟩⟩
    exact zl_loop (s := s) (h₁ := s.heap) S D1 D2 l1 l2 l3 l4 l5 (Nat.le_refl L) t1 t2 t3 t4 hn res hR (min n1 n2) 0 h s.toks c₁ #[] [] (Nat.sub_zero _) (Nat.zero_le _) (st0.keep S D1 D2 hk l1 l2 l3 l4 l5) (fun b o hb _ _ _ _ e => hk b o hb e) hS₁ rfl rfl
      ⟨List.Pairwise.nil, (fun _ ha => nomatch ha), (fun j a hj => by simp at hj)⟩ (Heap.lt_size hS₁)
  unfold Builtin.List.listExtendWith
  refine wpAny_bind (wpAny_typeOf (T := "zip") hT ?_)
  have h1 : Builtin.List.listSameRef (.ref L) (.ref z) = false := by simp [Builtin.List.listSameRef, Ne.symm l1]
  have h2 : (Value.type "zip" == Value.type "list") = false := by decide
  have h3 : (Value.type "zip" == Value.type "tuple") = false := by decide
  simp only [h1, h2, h3, Bool.or_false, Bool.false_eq_true, if_false]
  refine wpAny_bind (wpAny_pyIter_zip hz ?_)
  refine wpAny_bind (wpAny_holding (zl_hint hT ?_))
  refine wpAny_ite_split (fun _ => ?_) (fun _ => wpAny_pure ⟨plainId_quiet PySem.F.plain_extend_loop _, key _ c₀ (fun b o _ e => e) hS⟩)
  refine wpAny_bind (wpAny_rule ?_)
  refine wpAny_bind ?_
  show wpAny _ _ (updateSeq L (·.push .none) >>= fun _ => updateSeq L (·.pop)) _ _ _
  refine wpAny_bind (wpAny_updateSeq hS rfl ?_)
  have hS₂ := Heap.get?_update_self (Obj.mapSeq (·.push Value.none)) hS rfl
  refine wpAny_updateSeq (hz := by seq_fits) hS₂ rfl ?_
  have hS₃ := Heap.get?_update_self (Obj.mapSeq (·.pop)) hS₂ rfl
  refine wpAny_pure ⟨plainId_quiet PySem.F.plain_extend_loop _, key _ _ (fun b o hb e => ?_) hS₃⟩
  exact (Heap.get?_update_other _ _ (Ne.symm hb)).trans ((Heap.get?_update_other _ _ (Ne.symm hb)).trans e)
end
section
variable {prog : Program} {w : World} {A : Around} {E : Value → Shared → Prop} {s : Shared} {z TI TO i1 i2 : Addr} {fp1 fp2 : List Addr} {n1 n2 : Nat} {P1 P2 : Nat → Value → Prop} {St1 St2 : Nat → Heap → Prop}
/-- list(a new zip); the zip's own cells lie below the heap's end -/
theorem zl_call {Q : Value → Shared → Prop} (S : ZipSep2 z TI TO i1 i2 fp1 fp2) (D1 : Draws prog w A.in1.in1.in1 i1 fp1 n1 P1 St1) (D2 : Draws prog w A.in1.in1.in1 i2 fp2 n2 P2 St2)
    (hz : IsZip s.heap z TI TO .none) (hTI : IsTupOf2 s.heap TI (.ref i1) (.ref i2)) (hTO : ∃ a1 a2, IsTupOf2 s.heap TO a1 a2) (st1 : St1 0 s.heap) (st2 : St2 0 s.heap) (f1 : ∀ b ∈ fp1, b < s.heap.objs.size) (f2 : ∀ b ∈ fp2, b < s.heap.objs.size) (hn : min n1 n2 ≤ sizeLine)
    (hQ : ∀ h' tk acc c as, (∀ b o, b ≠ z → b ≠ TO → b ≠ i1 → b ≠ i2 → s.heap.get? b = some o → h'.get? b = some o) → h'.get? s.heap.objs.size = some { cls := .type "list", dict := none, data := .seq acc c, slots := #[] } → as.length = min n1 n2 → ZG P1 P2 s.heap.objs.size h' as →
      acc.toList = as.map Value.ref → Q (.ref s.heap.objs.size) { s with heap := h', toks := tk }) :
    wpAny (model prog w) A (call (.type "list") [.ref z]) Q E s := by
  refine callType_codes (Q₁ := fun obj s₁ => obj = .ref s.heap.objs.size ∧ s₁ = { s with heap := s.heap.push { cls := .type "list", data := .seq #[] } }) PySem.F.called_list (PySem.F.typeCall_list_1 _) PySem.F.entry_list_init
    (code_list_new _ ⟨rfl, rfl⟩) fun obj s₁ h₁ => ?_
  obtain ⟨rfl, rfl⟩ := h₁
  have hS : (s.heap.push { cls := .type "list", data := .seq #[] }).get? s.heap.objs.size = some { cls := .type "list", data := .seq #[] } := Heap.get?_push_size _ rfl
  obtain ⟨a1, a2, hTO⟩ := hTO
  have zl : z < s.heap.objs.size := Heap.lt_size hz
  have TIl : TI < s.heap.objs.size := Heap.lt_size hTI
  have TOl : TO < s.heap.objs.size := Heap.lt_size hTO
  have i1l := f1 _ S.mem1
  have i2l := f2 _ S.mem2
  refine ⟨⟨_, hS, rfl⟩, PySem.F.args_list_init_2 _ _, ?_⟩
  show wpAny _ _ (do let old ← Builtin.List.listItems (.ref s.heap.objs.size); Builtin.List.listUpdate (.ref s.heap.objs.size) (fun _ => #[]); letGo old.toList.reverse; Builtin.List.listExtendWith (.ref s.heap.objs.size) (.ref z) .none) _ _ _
  refine wpAny_bind ?_
  unfold Builtin.List.listItems
  refine wpAny_bind (wpAny_seqItems hS rfl (wpAny_pure ?_))
  show wpAny _ _ (updateSeq s.heap.objs.size (fun _ => #[]) >>= fun _ => letGo (#[] : Array Value).toList.reverse >>= fun _ => Builtin.List.listExtendWith (.ref s.heap.objs.size) (.ref z) .none) _ _ _
  refine wpAny_bind (wpAny_updateSeq hS rfl ?_)
  have hS₂ := Heap.get?_update_self (Obj.mapSeq (fun _ => (#[] : Array Value))) hS rfl
  have oth : ∀ b o, b ≠ s.heap.objs.size → s.heap.get? b = some o → ((s.heap.push { cls := .type "list", data := .seq #[] }).update s.heap.objs.size (Obj.mapSeq (fun _ => (#[] : Array Value)))).get? b = some o :=
    fun b o hb e => (Heap.get?_update_other _ _ (Ne.symm hb)).trans (Heap.get?_push_of_some _ e)
  refine wpAny_bind (wpAny_letGo ?_)
  refine zl_extend (A := A.in1) S D1 D2 (Nat.ne_of_lt zl) (Nat.ne_of_lt TIl) (Nat.ne_of_lt TOl) (fun q => Nat.lt_irrefl _ (f1 _ q)) (fun q => Nat.lt_irrefl _ (f2 _ q)) (Nat.le_of_lt zl) (Nat.le_of_lt TOl) (Nat.le_of_lt i1l) (Nat.le_of_lt i2l)
    (oth _ _ (Nat.ne_of_lt zl) hz) (oth _ _ (Nat.ne_of_lt TIl) hTI) ⟨a1, a2, oth _ _ (Nat.ne_of_lt TOl) hTO⟩ (D1.frame _ _ _ st1 fun b hb o e => oth b o (Nat.ne_of_lt (f1 b hb)) e) (D2.frame _ _ _ st2 fun b hb o e => oth b o (Nat.ne_of_lt (f2 b hb)) e) hn .none _ hS₂ fun h' tk acc c as hk hS' hl hG hacc => ?_
  exact ⟨rfl, hQ h' tk acc c as (fun b o b1 b2 b3 b4 e => hk b o (Nat.ne_of_lt (Heap.lt_size e)) b1 b2 b3 b4 (oth b o (Nat.ne_of_lt (Heap.lt_size e)) e)) hS' hl hG hacc⟩
end
end MP
set_option maxHeartbeats 2000000
/-! MPzl: list(zip(x, y)), lists or tuples. -/
namespace MP
open PySem L2 PySem.Spec PyProof.Rows
/-- the new tuples, one behind the other -/
def putZ : Hp → List (Addr × Obj × V × V) → Hp
  | H, [] => H
  | H, (a, o, x, y) :: r => putZ (upd H a (.frz o (.tup [x, y]))) r
theorem putZ_off {b : Addr} : ∀ (l : List (Addr × Obj × V × V)) (H : Hp), b ∉ l.map (·.1) → putZ H l b = H b
  | [], _, _ => rfl
  | (a, o, x, y) :: r, H, h => by
    show putZ (upd H a (.frz o (.tup [x, y]))) r b = H b
    rw [putZ_off r _ (fun z => h (List.mem_cons_of_mem _ z)), upd_ne (fun z => h (by rw [z]; exact List.mem_cons_self))]
theorem putZ_at {q : Addr × Obj × V × V} : ∀ (l : List (Addr × Obj × V × V)) (H : Hp), (l.map (·.1)).Nodup → q ∈ l → putZ H l q.1 = some (.frz q.2.1 (.tup [q.2.2.1, q.2.2.2]))
  | [], _, _, h => by cases h
  | (a, o, x, y) :: r, H, n, h => by
    have n' := List.nodup_cons.mp (show (a :: r.map (·.1)).Nodup from n)
    rcases List.mem_cons.mp h with e | h
    · subst e
      show putZ (upd H a (.frz o (.tup [x, y]))) r a = _
      rw [putZ_off r _ n'.1, upd_same]
    · exact putZ_at r _ n'.2 h
def SqE (K : PySem.W.Frag) (H : Hp) (a : Addr) (xs : List V) : Prop := SqL K H a xs ∨ SqT K H a xs
def tLZip (K : PySem.W.Frag) (ta : TA) : TE := fun σ H Q => ta σ H fun vs H1 => ∃ a b xs ys, vs = [.ref a, .ref b] ∧ SqE K H1 a xs ∧ SqE K H1 b ys ∧
  ∀ (p : Addr) (l : List (Addr × Obj × V × V)), l.map (·.2.2) = xs.zip ys → (l.map (·.1)).Nodup → (∀ q ∈ l, H1 q.1 = none ∧ q.2.1.dict = none) → H1 p = none → p ∉ l.map (·.1) → Q (.ref p) (upd (putZ H1 l) p (.lst (l.map fun q => V.ref q.1)))
/-- a list or a tuple as something that is drawn from -/
structure DSrc (prog : Program) (w : World) (h : Heap) (a : Addr) (its : List Value) (o : Obj) (Hs : Heap → Prop) (St : Addr → Nat → Heap → Prop) : Prop where
  b : Begins (.ref a) o Hs
  hs : Hs h
  d : ∀ (A : Around) (it : Addr), A.handled = none → a ≠ it → Draws prog w A it [it, a] its.length (fun i v => its[i]? = some v) (St it)
  z : ∀ it h', h'.get? it = some o → Hs h' → St it 0 h'
  lt : a < h.objs.size
section
variable {X : Cx} {pins : List (Addr × Obj)} {σ : L2.St} {H : Hp} {s : Shared}
theorem dsrc {a : Addr} {xs : List V} (I : Inv X pins σ H s) (h : SqE X.K H a xs) : ∃ its o Hs St, Vals xs its ∧ xs.length ≤ sizeLine ∧ DSrc X.prog X.w s.heap a its o Hs St := by
  rcases h with h | h
  · obtain ⟨its, rv, p, hz⟩ := I.list h
    refine ⟨its, _, _, fun it i h => h.IsListIter it a i ∧ h.IsList a its.toArray, rv, hz, begins_list a its.toArray, p.isList, fun A it hh hn => ?_, fun it h' e x => ⟨⟨_, e, rfl, rfl⟩, x⟩, p.lt⟩
    have := Draws.list (prog := X.prog) (w := X.w) hh it a hn its.toArray
    simpa using this
  · obtain ⟨its, rv, p, hz⟩ := I.tuple h
    refine ⟨its, _, _, fun it i h => h.IsTupleIter it a i ∧ h.IsTuple a its.toArray, rv, hz, begins_tuple a its.toArray, p, fun A it hh hn => ?_, fun it h' e x => ⟨⟨_, e, rfl, rfl⟩, x⟩, ?_⟩
    · have := Draws.tuple (prog := X.prog) (w := X.w) hh it a hn its.toArray
      simpa using this
    · obtain ⟨o, ho, _⟩ := p
      exact Heap.lt_size ho
/-- what the list holds -/
theorem zs_of {P1 P2 : Nat → Value → Prop} {xs ys : List V} {its its2 : List Value} (r1 : Vals xs its) (r2 : Vals ys its2) (h1 : ∀ j v, P1 j v → its[j]? = some v) (h2 : ∀ j v, P2 j v → its2[j]? = some v) {lo : Addr} {h : Heap} {as : List Addr} (g : ZG P1 P2 lo h as) (hl : as.length = min its.length its2.length) :
    ∃ l : List (Addr × Obj × V × V), l.map (·.1) = as ∧ l.map (·.2.2) = xs.zip ys ∧ ∀ q ∈ l, ∃ u v, q.2.1 = tobj [u, v] ∧ RelV q.2.2.1 u ∧ RelV q.2.2.2 v ∧ h.get? q.1 = some (tobj [u, v]) := by
  have l1 := r1.length
  have l2 := r2.length
  have key : ∀ j (hj : j < as.length), ∃ q : Addr × Obj × V × V, q.1 = as[j] ∧ (xs.zip ys)[j]? = some q.2.2 ∧ ∃ u v, q.2.1 = tobj [u, v] ∧ RelV q.2.2.1 u ∧ RelV q.2.2.2 v ∧ h.get? q.1 = some (tobj [u, v]) := by
    intro j hj
    obtain ⟨u, v, p1, p2, e⟩ := g.pairs j as[j] (List.getElem?_eq_getElem hj)
    have hx : j < xs.length := by omega
    have hy : j < ys.length := by omega
    obtain ⟨u', e1, ru⟩ := r1.get (i := j) (List.getElem?_eq_getElem hx)
    obtain ⟨v', e2, rv⟩ := r2.get (i := j) (List.getElem?_eq_getElem hy)
    rw [h1 j u p1] at e1
    rw [h2 j v p2] at e2
    cases e1
    cases e2
    refine ⟨(as[j], tobj [u, v], xs[j], ys[j]), rfl, ?_, u, v, rfl, ru, rv, e⟩
    rw [List.getElem?_zip_eq_some]
    exact ⟨List.getElem?_eq_getElem hx, List.getElem?_eq_getElem hy⟩
  refine ⟨(List.range as.length).map fun j => if hj : j < as.length then (key j hj).choose else (0, tobj [], .non, .non), ?_, ?_, ?_⟩
  · apply List.ext_getElem
    · simp
    · intro j h1 h2
      have hj : j < as.length := h2
      simp only [List.getElem_map, List.getElem_range, dif_pos hj]
      exact (key j hj).choose_spec.1
  · apply List.ext_getElem
    · simp [hl, l1, l2]
    · intro j h1 h2
      have hj : j < as.length := by simpa using h1
      simp only [List.getElem_map, List.getElem_range, dif_pos hj]
      have e := (key j hj).choose_spec.2.1
      exact Option.some.inj (e.symm.trans (List.getElem?_eq_getElem h2))
  · intro q hq
    obtain ⟨j, hj, rfl⟩ := List.mem_map.mp hq
    have hj' : j < as.length := List.mem_range.mp hj
    rw [dif_pos hj']
    exact (key j hj').choose_spec.2.2
theorem zl_laid {h' : Heap} {tk c : Nat} {acc : Array Value} {l : List (Addr × Obj × V × V)} (I : Inv X pins σ H s) (hk : ∀ b o, s.heap.get? b = some o → h'.get? b = some o) (p : Addr) (hp : s.heap.objs.size ≤ p)
    (hS : h'.get? p = some { cls := .type "list", dict := none, data := .seq acc c, slots := #[] }) (hacc : acc.toList = (l.map (·.1)).map Value.ref) (nd : (l.map (·.1)).Nodup) (ab : ∀ a ∈ l.map (·.1), p < a) (hz : l.length ≤ sizeLine)
    (ho : ∀ q ∈ l, ∃ u v, q.2.1 = tobj [u, v] ∧ RelV q.2.2.1 u ∧ RelV q.2.2.2 v ∧ h'.get? q.1 = some (tobj [u, v])) :
    Inv X pins σ (upd (putZ H l) p (.lst (l.map fun q => V.ref q.1))) { s with heap := h', toks := tk } ∧ (∀ q ∈ l, H q.1 = none) ∧ H p = none ∧ p ∉ l.map (·.1) := by
  have newP : H p = none := I.hok.fresh hp
  have new : ∀ q ∈ l, H q.1 = none := fun q hq => I.hok.fresh (Nat.le_trans hp (Nat.le_of_lt (ab q.1 (List.mem_map.mpr ⟨q, hq, rfl⟩))))
  have pn : p ∉ l.map (·.1) := fun z => Nat.lt_irrefl _ (ab _ z)
  have off : ∀ b, b ∉ l.map (·.1) → b ≠ p → upd (putZ H l) p (.lst (l.map fun q => V.ref q.1)) b = H b := fun b h1 h2 => by rw [upd_ne h2, putZ_off l H h1]
  have low : ∀ b o, s.heap.get? b = some o → b ∉ l.map (·.1) ∧ b ≠ p := fun b o e => ⟨fun z => absurd (Heap.lt_size e) (Nat.not_lt.mpr (Nat.le_trans hp (Nat.le_of_lt (ab b z)))), fun z => absurd (Heap.lt_size e) (Nat.not_lt.mpr (by rw [z]; exact hp))⟩
  have kp : ∀ b u, H b = some u → (upd (putZ H l) p (.lst (l.map fun q => V.ref q.1))) b = some u := fun b u e => by
    rw [off b (fun z => by obtain ⟨q, hq, e2⟩ := List.mem_map.mp z; rw [← e2, new q hq] at e; cases e) (fun z => by rw [z, newP] at e; cases e)]
    exact e
  refine ⟨?_, new, newP, pn⟩
  refine I.call' (ch := []) rfl ⟨fun b o q _ _ _ => hk b o q, fun b o q _ _ _ => ⟨o.slots, hk b o q⟩, fun b o q n _ => ?_, fun b o q _ => ⟨o, hk b o q⟩, fun b xs q => kp b _ q, fun b o u q => kp b _ q, fun b ps q => ⟨#[], by rw [kp b _ q]; simp⟩⟩ (fun b u q => ?_) I.bare fun b z => by simp at z
  · obtain ⟨z1, z2⟩ := low b o q
    rw [off b z1 z2]
    exact n
  · by_cases hb2 : b = p
    · rw [hb2] at q ⊢
      rw [upd_same] at q
      cases q
      refine ⟨by rw [List.length_map]; exact hz, acc.toList, c, ?_, by rw [Array.toArray_toList]; exact hS⟩
      rw [hacc]
      have e : (l.map fun q => V.ref q.1) = (l.map (·.1)).map V.ref := by rw [List.map_map]; rfl
      rw [e]
      exact vals_refs _
    · rw [upd_ne hb2] at q
      by_cases hb : b ∈ l.map (·.1)
      · obtain ⟨r, hr, e2⟩ := List.mem_map.mp hb
        subst e2
        rw [putZ_at l H nd hr] at q
        cases q
        obtain ⟨u, v, e3, r1, r2, e4⟩ := ho r hr
        rw [e3]
        exact ⟨e4, by show 2 ≤ sizeLine; decide, [u, v], .cons r1 (.cons r2 .nil), ⟨_, e4, rfl, _, rfl⟩⟩
      · rw [putZ_off l H hb] at q
        refine (I.hok b u q).stay (fun d v _ y => hk d v y) (fun d y => kp d _ y) fun d xs y => kp d _ y
/-- list(zip(e, e2)) -/
theorem pe_lzip {e e2 : Expr} {ta : TA} {p p2 q pos : Pos} (hc : X.calm = true) (hg : Gl X "list") (hm : X.mg "list" = none) (hg2 : Gl X "zip") (hm2 : X.mg "zip" = none) (ha : PA X [e, e2] ta)
    (hs : starEach [e, e2] X.env = (false, eval e X.env) :: starEach [e2] X.env) (hpl : (backTo q (starEach [e2] X.env)).any (·.1) = false) :
    PE X (.Call (.Name "list" p) [.Call (.Name "zip" p2) [e, e2] [] q] [] pos) (tLZip X.K ta) := by
  refine ⟨fun pins s σ H Q I h => ?_⟩
  refine Call_ (ld_blt I hg hm boot_list ?_)
  refine PyProof.Rows.callWith_type1 (PyProof.Rows.args_cons ?_ rfl) rfl rfl
  refine Call_ (ld_blt I hg2 hm2 PyProof.Rows.boot_zip (PyProof.Rows.callWith_type1 (thn (ha.run q pins s σ H _ I h) fun us s1 ⟨vs, H1, I1, r1, q1⟩ => ?_) hs hpl))
  obtain ⟨a, b, xs, ys, ex, hqx, hqy, q1⟩ := q1
  subst ex
  cases r1 with
  | cons r rr =>
    cases rr with
    | cons r' rr =>
      cases rr
      cases r
      cases r'
      obtain ⟨its, o1, Hs1, St1, rv1, z1, S1⟩ := dsrc I1 hqx
      obtain ⟨its2, o2, Hs2, St2, rv2, z2, S2⟩ := dsrc I1 hqy
      have l1 := rv1.length
      have l2 := rv2.length
      refine zip_begins2 S1.b S2.b S1.hs S2.hs fun h1 hz hTI hTO g1 g2 hsz hk => ?_
      refine PyProof.Rows.args_nil ?_
      have lt1 : a < s1.heap.objs.size := S1.lt
      have lt2 : b < s1.heap.objs.size := S2.lt
      have sep := zip_sep2 (N := s1.heap.objs.size) (fp1 := [a]) (fp2 := [b]) (fun c hc => by rw [List.mem_singleton.mp hc]; exact lt1) (fun c hc => by rw [List.mem_singleton.mp hc]; exact lt2)
      have hh := I1.ok.hd hc
      have D1 := S1.d X.A.in1.in1.in1 s1.heap.objs.size hh (Nat.ne_of_lt lt1)
      have D2 := S2.d X.A.in1.in1.in1 (s1.heap.objs.size + 1) hh (Nat.ne_of_lt (Nat.lt_succ_of_lt lt2))
      refine zl_call (s := { s1 with heap := h1 }) sep D1 D2 hz hTI ⟨_, _, hTO⟩ (S1.z _ _ g1 (S1.b.keeps _ _ S1.hs hk)) (S2.z _ _ g2 (S2.b.keeps _ _ S2.hs hk)) (fun c hc => ?_) (fun c hc => ?_) (by omega) fun h' tk acc c as hk' hS hl hG hacc => ?_
      · show c < h1.objs.size
        rw [hsz]
        rcases List.mem_cons.mp hc with e | hc
        · rw [e]; exact Nat.lt_add_of_pos_right (by decide)
        · rw [List.mem_singleton.mp hc]; exact Nat.lt_of_lt_of_le lt1 (Nat.le_add_right _ _)
      · show c < h1.objs.size
        rw [hsz]
        rcases List.mem_cons.mp hc with e | hc
        · rw [e]; exact Nat.add_lt_add_left (by decide) _
        · rw [List.mem_singleton.mp hc]; exact Nat.lt_of_lt_of_le lt2 (Nat.le_add_right _ _)
      · obtain ⟨l, e1, e2', e3⟩ := zs_of rv1 rv2 (fun _ _ h => h) (fun _ _ h => h) hG hl
        have hle : s1.heap.objs.size ≤ h1.objs.size := by rw [hsz]; exact Nat.le_add_right _ _
        have hkk : ∀ b o, s1.heap.get? b = some o → h'.get? b = some o := fun c o e => by
          have lc := Heap.lt_size e
          exact hk' c o (Nat.ne_of_lt (Nat.lt_of_lt_of_le lc (Nat.le_add_right _ _))) (Nat.ne_of_lt (Nat.lt_of_lt_of_le lc (Nat.le_add_right _ _))) (Nat.ne_of_lt lc) (Nat.ne_of_lt (Nat.lt_of_lt_of_le lc (Nat.le_add_right _ _))) (hk c o e)
        have nd : (l.map (·.1)).Nodup := by rw [e1]; exact hG.rise.imp fun h => Nat.ne_of_lt h
        obtain ⟨J, j1, j2, j3⟩ := zl_laid (tk := tk) I1 hkk h1.objs.size hle hS (by rw [e1]; exact hacc) nd (by rw [e1]; exact hG.above) (by
          have : l.length = as.length := by rw [← e1, List.length_map]
          omega) e3
        refine ⟨.ref h1.objs.size, _, J, rfl, q1 _ l e2' nd (fun q hq => ⟨j1 q hq, ?_⟩) j2 j3⟩
        obtain ⟨u, v, e4, _⟩ := e3 q hq
        rw [e4]
end
end MP
/-! MPrel: how the evaluator's states stand in the abstract heap. -/
namespace MP
open PySem L2
variable [WI]

mutual
/-- v is the data d; every object that is read on the way stands in F -/
inductive Rp (F : Hp) : V → D → Prop
  | non : Rp F .non .none
  | bl (b : Bool) : Rp F (.bl b) (.bool b)
  | int (i : Int) : Rp F (.int i) (.int i)
  | str (x : Str) : Rp F (.str x) (.str x)
  | lst {a : Addr} {xs : List V} {ds : List D} : F a = some (.lst xs) → RpL F xs ds → Rp F (.ref a) (.list ds)
  | tup {a : Addr} {ob : Obj} {xs : List V} {ds : List D} : F a = some (.frz ob (.tup xs)) → ob.dict = none → RpL F xs ds → Rp F (.ref a) (.tuple ds)
  | dicK {a : Addr} {kvs : List (Key × V)} {ds : List (D × D)} : F a = some (.dK kvs) → RpK F kvs ds → Rp F (.ref a) (.dict ds)
  | dicF {a : Addr} {ob : Obj} {kvs : List (Key × V)} {ds : List (D × D)} : F a = some (.frz ob (.dK kvs)) → RpK F kvs ds → Rp F (.ref a) (.dict ds)
  | dicT {a : Addr} {xs : List TEn} {ds : List (D × D)} : F a = some (TDO WI.w a xs) → ds ≠ [] → RpT F xs ds → Rp F (.ref a) (.dict ds)
inductive RpL (F : Hp) : List V → List D → Prop
  | nil : RpL F [] []
  | cons {v : V} {vs : List V} {d : D} {ds : List D} : Rp F v d → RpL F vs ds → RpL F (v :: vs) (d :: ds)
inductive RpK (F : Hp) : List (Key × V) → List (D × D) → Prop
  | nil : RpK F [] []
  | cons {i : Int} {v : V} {vs : List (Key × V)} {d : D} {ds : List (D × D)} : Rp F v d → RpK F vs ds → RpK F ((.inl i, v) :: vs) ((.int i, d) :: ds)
inductive RpT (F : Hp) : List TEn → List (D × D) → Prop
  | nil : RpT F [] []
  | cons {b : Addr} {v : V} {xs : List TEn} {kd d : D} {ds : List (D × D)} : isTK kd = true → Rp F (.ref b) kd → Rp F v d → RpT F xs ds → RpT F ((keyN kd, b, v) :: xs) ((kd, d) :: ds)
end

def Le (F F' : Hp) : Prop := ∀ a o, F a = some o → F' a = some o
omit [WI] in
theorem Le.refl (F : Hp) : Le F F := fun _ _ h => h
omit [WI] in
theorem Le.trans {A B C : Hp} (h : Le A B) (h' : Le B C) : Le A C := fun a o e => h' a o (h a o e)
omit [WI] in
theorem Le.upd {F : Hp} {a : Addr} {o : HO} (h : F a = none) : Le F (upd F a o) := fun b u e => by
  rw [upd_ne (ne_of_none e h)]
  exact e
/-- all but lists and dicts stay -/
def LeT (F F' : Hp) : Prop := ∀ a ob xs, F a = some (.frz ob (.tup xs)) → F' a = some (.frz ob (.tup xs))

mutual
theorem Rp.mono {F F' : Hp} (h : Le F F') : ∀ {v : V} {d : D}, Rp F v d → Rp F' v d
  | _, _, .non => .non
  | _, _, .bl b => .bl b
  | _, _, .int i => .int i
  | _, _, .str x => .str x
  | _, _, .lst e r => .lst (h _ _ e) (RpL.mono h r)
  | _, _, .tup e n r => .tup (h _ _ e) n (RpL.mono h r)
  | _, _, .dicK e r => .dicK (h _ _ e) (RpK.mono h r)
  | _, _, .dicF e r => .dicF (h _ _ e) (RpK.mono h r)
  | _, _, .dicT e n r => .dicT (h _ _ e) n (RpT.mono h r)
theorem RpL.mono {F F' : Hp} (h : Le F F') : ∀ {vs : List V} {ds : List D}, RpL F vs ds → RpL F' vs ds
  | _, _, .nil => .nil
  | _, _, .cons r rs => .cons (Rp.mono h r) (RpL.mono h rs)
theorem RpK.mono {F F' : Hp} (h : Le F F') : ∀ {vs : List (Key × V)} {ds : List (D × D)}, RpK F vs ds → RpK F' vs ds
  | _, _, .nil => .nil
  | _, _, .cons r rs => .cons (Rp.mono h r) (RpK.mono h rs)
theorem RpT.mono {F F' : Hp} (h : Le F F') : ∀ {vs : List TEn} {ds : List (D × D)}, RpT F vs ds → RpT F' vs ds
  | _, _, .nil => .nil
  | _, _, .cons k r1 r rs => .cons k (Rp.mono h r1) (Rp.mono h r) (RpT.mono h rs)
end
mutual
theorem Rp.monoT {F F' : Hp} (h : LeT F F') : ∀ {v : V} {d : D}, noMut d = true → Rp F v d → Rp F' v d
  | _, _, _, .non => .non
  | _, _, _, .bl b => .bl b
  | _, _, _, .int i => .int i
  | _, _, _, .str x => .str x
  | _, _, n, .lst e r => by simp [noMut] at n
  | _, _, n, .tup e nd r => .tup (h _ _ _ e) nd (RpL.monoT h (by simpa [noMut] using n) r)
  | _, _, n, .dicK e r => by simp [noMut] at n
  | _, _, n, .dicF e r => by simp [noMut] at n
  | _, _, n, .dicT e _ r => by simp [noMut] at n
theorem RpL.monoT {F F' : Hp} (h : LeT F F') : ∀ {vs : List V} {ds : List D}, noMutL ds = true → RpL F vs ds → RpL F' vs ds
  | _, _, _, .nil => .nil
  | _, _, n, .cons r rs => by
    have n' := Bool.and_eq_true_iff.mp (by simpa only [noMutL] using n)
    exact .cons (Rp.monoT h n'.1 r) (RpL.monoT h n'.2 rs)
end
theorem RpL.length {F : Hp} : ∀ {vs : List V} {ds : List D}, RpL F vs ds → vs.length = ds.length
  | _, _, .nil => rfl
  | _, _, .cons _ rs => congrArg (· + 1) rs.length
theorem RpL.get {F : Hp} : ∀ {vs : List V} {ds : List D} {i : Nat} {d : D}, RpL F vs ds → ds[i]? = some d → ∃ v, vs[i]? = some v ∧ Rp F v d
  | _, _, _, _, .nil, e => by simp at e
  | _, _, 0, _, .cons r _, e => by
    have e' := Option.some.inj e
    subst e'
    exact ⟨_, rfl, r⟩
  | _, _, i + 1, _, .cons _ rs, e => RpL.get (i := i) rs (by simpa using e)
theorem RpL.getV {F : Hp} : ∀ {vs : List V} {ds : List D} {i : Nat} {v : V}, RpL F vs ds → vs[i]? = some v → ∃ d, ds[i]? = some d ∧ Rp F v d
  | _, _, _, _, .nil, e => by simp at e
  | _, _, 0, _, .cons r _, e => by
    have e' := Option.some.inj e
    subst e'
    exact ⟨_, rfl, r⟩
  | _, _, i + 1, _, .cons _ rs, e => RpL.getV (i := i) rs (by simpa using e)
theorem RpL.append {F : Hp} : ∀ {vs ws : List V} {ds es : List D}, RpL F vs ds → RpL F ws es → RpL F (vs ++ ws) (ds ++ es)
  | _, _, _, _, .nil, h => h
  | _, _, _, _, .cons r rs, h => .cons r (RpL.append rs h)
theorem RpL.take {F : Hp} : ∀ {vs : List V} {ds : List D} (n : Nat), RpL F vs ds → RpL F (vs.take n) (ds.take n)
  | _, _, 0, _ => .nil
  | _, _, _ + 1, .nil => .nil
  | _, _, n + 1, .cons r rs => .cons r (RpL.take n rs)
theorem RpL.drop {F : Hp} : ∀ {vs : List V} {ds : List D} (n : Nat), RpL F vs ds → RpL F (vs.drop n) (ds.drop n)
  | _, _, 0, r => r
  | _, _, _ + 1, .nil => .nil
  | _, _, n + 1, .cons _ rs => RpL.drop n rs
theorem RpL.set {F : Hp} {v : V} {d : D} (r : Rp F v d) : ∀ {vs : List V} {ds : List D} (n : Nat), RpL F vs ds → RpL F (vs.set n v) (ds.set n d)
  | _, _, _, .nil => .nil
  | _, _, 0, .cons _ rs => .cons r rs
  | _, _, n + 1, .cons r' rs => .cons r' (RpL.set r n rs)
theorem RpL.eraseIdx {F : Hp} : ∀ {vs : List V} {ds : List D} (n : Nat), RpL F vs ds → RpL F (vs.eraseIdx n) (ds.eraseIdx n)
  | _, _, _, .nil => .nil
  | _, _, 0, .cons _ rs => rs
  | _, _, n + 1, .cons r rs => .cons r (RpL.eraseIdx n rs)
theorem RpL.dropLast {F : Hp} {vs : List V} {ds : List D} (r : RpL F vs ds) : RpL F vs.dropLast ds.dropLast := by
  rw [List.dropLast_eq_take, List.dropLast_eq_take, r.length]
  exact r.take _
theorem RpL.reverse {F : Hp} : ∀ {vs : List V} {ds : List D}, RpL F vs ds → RpL F vs.reverse ds.reverse
  | _, _, .nil => .nil
  | _, _, .cons r rs => by
    rw [List.reverse_cons, List.reverse_cons]
    exact (RpL.reverse rs).append (.cons r .nil)
theorem RpL.rep {F : Hp} {vs : List V} {ds : List D} (r : RpL F vs ds) : ∀ n : Nat, RpL F (List.replicate n vs).flatten (List.replicate n ds).flatten
  | 0 => .nil
  | n + 1 => by
    rw [List.replicate_succ, List.replicate_succ, List.flatten_cons, List.flatten_cons]
    exact r.append (RpL.rep r n)
theorem RpL.ints {F : Hp} : ∀ (ns : List Int), RpL F (ns.map V.int) (ns.map PyData.int)
  | [] => .nil
  | n :: ns => .cons (.int n) (RpL.ints ns)
omit [WI] in
theorem allInts_eq : ∀ {ds : List D} {ns : List Int}, allInts ds = some ns → ds = ns.map PyData.int
  | [], ns, h => by
    have h' := Option.some.inj h
    subst h'
    rfl
  | .int i :: ds, ns, h => by
    simp only [allInts, Option.map_eq_some_iff] at h
    obtain ⟨ms, h1, rfl⟩ := h
    rw [allInts_eq h1]
    rfl
  | .none :: _, _, h => by simp [allInts] at h
  | .bool _ :: _, _, h => by simp [allInts] at h
  | .str _ :: _, _, h => by simp [allInts] at h
  | .list _ :: _, _, h => by simp [allInts] at h
  | .tuple _ :: _, _, h => by simp [allInts] at h
  | .dict _ :: _, _, h => by simp [allInts] at h
omit [WI] in
theorem allInts_map : ∀ (ns : List Int), allInts (ns.map PyData.int) = some ns
  | [] => rfl
  | n :: ns => by
    show (allInts (ns.map PyData.int)).map (n :: ·) = _
    rw [allInts_map ns]
    rfl
theorem RpL.ofInts {F : Hp} : ∀ {vs : List V} {ns : List Int}, RpL F vs (ns.map PyData.int) → vs = ns.map V.int
  | vs, [], h => by
    cases h
    rfl
  | vs, n :: ns, h => by
    cases h with
    | cons r rs =>
      cases r
      rw [RpL.ofInts rs]
      rfl
omit [WI] in
theorem allBools_eq : ∀ {ds : List D} {bs : List Bool}, allBools ds = some bs → ds = bs.map PyData.bool
  | [], ns, h => by
    have h' := Option.some.inj h
    subst h'
    rfl
  | .bool i :: ds, ns, h => by
    simp only [allBools, Option.map_eq_some_iff] at h
    obtain ⟨ms, h1, rfl⟩ := h
    rw [allBools_eq h1]
    rfl
  | .none :: _, _, h => by simp [allBools] at h
  | .int _ :: _, _, h => by simp [allBools] at h
  | .str _ :: _, _, h => by simp [allBools] at h
  | .list _ :: _, _, h => by simp [allBools] at h
  | .tuple _ :: _, _, h => by simp [allBools] at h
  | .dict _ :: _, _, h => by simp [allBools] at h
theorem RpL.ofBools {F : Hp} : ∀ {vs : List V} {ns : List Bool}, RpL F vs (ns.map PyData.bool) → vs = ns.map V.bl
  | vs, [], h => by
    cases h
    rfl
  | vs, n :: ns, h => by
    cases h with
    | cons r rs =>
      cases r
      rw [RpL.ofBools rs]
      rfl

/-! ### dicts with ints as keys -/
omit [WI] in
theorem eqv_int (i j : Int) : PyData.eqv (.int i) (.int j) = decide (i = j) := by
  show (i == j) = _
  by_cases h : i = j <;> simp [h]
theorem RpK.look {F : Hp} {i : Int} : ∀ {kvs : List (Key × V)} {ds : List (D × D)}, RpK F kvs ds → match lookD (.int i) ds with
    | some d => ∃ v, valV kvs (.inl i) = some v ∧ Rp F v d
    | none => valV kvs (.inl i) = none
  | _, _, .nil => rfl
  | _, _, @RpK.cons _ _ j v vs d ds r rs => by
    have ih := RpK.look (i := i) rs
    unfold lookD
    rw [eqv_int]
    by_cases e : j = i
    · rw [if_pos (decide_eq_true e)]
      exact ⟨v, valV_pos (p := (Sum.inl j, v)) (by rw [e]), r⟩
    · rw [if_neg (by simpa using e), valV_neg (p := (Sum.inl j, v)) (fun z => e (Sum.inl.inj z))]
      exact ih
theorem RpK.length {F : Hp} : ∀ {kvs : List (Key × V)} {ds : List (D × D)}, RpK F kvs ds → kvs.length = ds.length
  | _, _, .nil => rfl
  | _, _, .cons _ rs => congrArg (· + 1) rs.length
theorem RpK.any {F : Hp} {i : Int} : ∀ {kvs : List (Key × V)} {ds : List (D × D)}, RpK F kvs ds → (kvs.any fun kv => decide (kv.1 = .inl i)) = ds.any fun kv => PyData.eqv kv.1 (.int i)
  | _, _, .nil => rfl
  | _, _, @RpK.cons _ _ j v vs d ds r rs => by
    rw [List.any_cons, List.any_cons, RpK.any rs, eqv_int]
    congr 1
    exact decide_eq_decide.mpr ⟨fun z => Sum.inl.inj z, fun z => congrArg Sum.inl z⟩
theorem RpK.snoc {F : Hp} {i : Int} {v : V} {d : D} (rv : Rp F v d) : ∀ {kvs : List (Key × V)} {ds : List (D × D)}, RpK F kvs ds → RpK F (kvs ++ [(.inl i, v)]) (ds ++ [(.int i, d)])
  | _, _, .nil => .cons rv .nil
  | _, _, .cons r rs => .cons r (RpK.snoc rv rs)
theorem RpK.repl {F : Hp} {i : Int} {v : V} {d : D} (rv : Rp F v d) : ∀ {kvs : List (Key × V)} {ds : List (D × D)}, RpK F kvs ds →
    RpK F (kvs.map fun kv => if kv.1 = .inl i then (kv.1, v) else kv) (ds.map fun kv => if PyData.eqv kv.1 (.int i) then (kv.1, d) else kv)
  | _, _, .nil => .nil
  | _, _, @RpK.cons _ _ j w vs d0 ds r rs => by
    rw [List.map_cons, List.map_cons, eqv_int]
    by_cases e : j = i
    · rw [if_pos (show (Sum.inl j, w).1 = (Sum.inl i : Key) by rw [e]), if_pos (decide_eq_true e)]
      exact .cons rv (RpK.repl rv rs)
    · rw [if_neg (fun z => e (Sum.inl.inj z)), if_neg (by simpa using e)]
      exact .cons r (RpK.repl rv rs)
theorem RpK.put {F : Hp} {i : Int} {v : V} {d : D} (rv : Rp F v d) {kvs : List (Key × V)} {ds : List (D × D)} (r : RpK F kvs ds) : RpK F (putK kvs (.inl i) v) (putD ds (.int i) d) := by
  unfold putK putD
  rw [r.any]
  split
  · exact r.repl rv
  · exact r.snoc rv
theorem RpK.keys {F : Hp} : ∀ {kvs : List (Key × V)} {ds : List (D × D)} {ns : List Int}, RpK F kvs ds → allInts (ds.map Prod.fst) = some ns → kvs.map (·.1) = ns.map Sum.inl
  | _, _, ns, .nil, h => by
    cases h
    rfl
  | _, _, ns, @RpK.cons _ _ j w vs d0 ds r rs, h => by
    have h : (allInts (ds.map Prod.fst)).map (j :: ·) = some ns := h
    simp only [Option.map_eq_some_iff] at h
    obtain ⟨ms, h1, rfl⟩ := h
    rw [List.map_cons, List.map_cons, RpK.keys rs h1]
theorem RpK.getK {F : Hp} : ∀ {kvs : List (Key × V)} {ds : List (D × D)} {i : Nat} {k : Key} {v : V}, RpK F kvs ds → kvs[i]? = some (k, v) → ∃ j, k = .inl j ∧ (ds.map Prod.fst)[i]? = some (.int j)
  | _, _, _, _, _, .nil, e => by simp at e
  | _, _, 0, _, _, .cons _ _, e => by
    cases e
    exact ⟨_, rfl, rfl⟩
  | _, _, i + 1, _, _, .cons _ rs, e => by
    obtain ⟨j, h1, h2⟩ := RpK.getK (i := i) rs (by simpa using e)
    exact ⟨j, h1, h2⟩

/-! ### dicts with tuples as keys -/
mutual
theorem Rp.nky {F : Hp} : ∀ {v : V} {d : D}, Rp F v d → okKey d = true → NKy F (keyN d) v
  | _, _, .int i, _ => .int i
  | _, _, .tup e _ r, h => .tup e (RpL.nky r (show okKeyL _ = true from h))
  | _, _, .non, h => by cases h
  | _, _, .bl b, h => by cases h
  | _, _, .str x, h => by cases h
  | _, _, .lst e r, h => by cases h
  | _, _, .dicK e r, h => by cases h
  | _, _, .dicF e r, h => by cases h
  | _, _, .dicT e _ r, h => by cases h
theorem RpL.nky {F : Hp} : ∀ {vs : List V} {ds : List D}, RpL F vs ds → okKeyL ds = true → NKyL F (keyNL ds) vs
  | _, _, .nil, _ => .nil
  | _, _, .cons r rs, h => by
    have h' := Bool.and_eq_true_iff.mp (show (okKey _ && okKeyL _) = true from h)
    exact .cons (Rp.nky r h'.1) (RpL.nky rs h'.2)
end
mutual
theorem _root_.MP.NKy.mono {F F' : Hp} (h : Le F F') : ∀ {k : NestedKey} {v : V}, NKy F k v → NKy F' k v
  | _, _, .int i => .int i
  | _, _, .tup e r => .tup (h _ _ e) (NKyL.mono h r)
theorem _root_.MP.NKyL.mono {F F' : Hp} (h : Le F F') : ∀ {ks : List NestedKey} {vs : List V}, NKyL F ks vs → NKyL F' ks vs
  | _, _, .nil => .nil
  | _, _, .cons r rs => .cons (NKy.mono h r) (NKyL.mono h rs)
end
theorem RpT.keysOk {F H : Hp} (hf : Le F H) : ∀ {xs : List TEn} {ds : List (D × D)}, RpT F xs ds → KeysOk H xs
  | _, _, .nil => fun x hx => by cases hx
  | _, _, .cons k r1 r rs => fun x hx => by
    rcases List.mem_cons.mp hx with e | hx
    · rw [e]
      exact ⟨(Rp.nky r1 (isTK_inv k).1).mono hf, (isTK_inv k).2.1⟩
    · exact RpT.keysOk hf rs x hx
theorem RpT.look {F : Hp} {kd : D} (hk : isTK kd = true) : ∀ {xs : List TEn} {ds : List (D × D)}, RpT F xs ds → match lookD kd ds with
    | some d => ∃ v, valT xs (keyN kd) = some v ∧ Rp F v d
    | none => valT xs (keyN kd) = none
  | _, _, .nil => rfl
  | _, _, @RpT.cons _ _ b v xs kd' d ds k r1 r rs => by
    have ih := RpT.look hk rs
    unfold lookD
    rw [eqv_tk k hk]
    by_cases e : keyN kd' = keyN kd
    · rw [if_pos (decide_eq_true e)]
      exact ⟨v, by simp [valT, List.find?_cons, e], r⟩
    · rw [if_neg (by simpa using e)]
      have c : valT ((keyN kd', b, v) :: xs) (keyN kd) = valT xs (keyN kd) := by simp [valT, List.find?_cons, e]
      rw [c]
      exact ih
theorem RpT.lookI {F : Hp} {i : Int} : ∀ {xs : List TEn} {ds : List (D × D)}, RpT F xs ds → lookD (.int i) ds = none
  | _, _, .nil => rfl
  | _, _, .cons k r1 r rs => by
    obtain ⟨es, rfl⟩ := (isTK_inv k).2.2
    unfold lookD
    rw [show PyData.eqv (.tuple es) (.int i) = false from rfl, if_neg (by decide)]
    exact RpT.lookI rs
theorem RpK.lookT {F : Hp} {es : List D} : ∀ {kvs : List (Key × V)} {ds : List (D × D)}, RpK F kvs ds → lookD (.tuple es) ds = none
  | _, _, .nil => rfl
  | _, _, @RpK.cons _ _ j v vs d ds r rs => by
    unfold lookD
    rw [show PyData.eqv (.int j) (.tuple es) = false from rfl, if_neg (by decide)]
    exact RpK.lookT rs
theorem RpT.length {F : Hp} : ∀ {xs : List TEn} {ds : List (D × D)}, RpT F xs ds → xs.length = ds.length
  | _, _, .nil => rfl
  | _, _, .cons _ _ _ rs => congrArg (· + 1) rs.length
theorem RpT.isSome {F : Hp} {kd : D} (hk : isTK kd = true) {xs : List TEn} {ds : List (D × D)} (r : RpT F xs ds) : (valT xs (keyN kd)).isSome = ds.any fun kv => PyData.eqv kv.1 kd := by
  induction ds generalizing xs with
  | nil => cases r; rfl
  | cons q ds ih =>
    cases r with
    | cons k r1 r rs =>
      rw [List.any_cons, ← ih rs, eqv_tk k hk]
      rename_i b v xs kd' d
      by_cases e : keyN kd' = keyN kd
      · simp [valT, List.find?_cons, e]
      · simp [valT, List.find?_cons, e]
theorem RpT.snoc {F : Hp} {b : Addr} {v : V} {kd d : D} (hk : isTK kd = true) (rk : Rp F (.ref b) kd) (rv : Rp F v d) : ∀ {xs : List TEn} {ds : List (D × D)}, RpT F xs ds → RpT F (xs ++ [(keyN kd, b, v)]) (ds ++ [(kd, d)])
  | _, _, .nil => .cons hk rk rv .nil
  | _, _, .cons k r1 r rs => .cons k r1 r (RpT.snoc hk rk rv rs)
theorem RpT.repl {F : Hp} {v : V} {kd d : D} (hk : isTK kd = true) (rv : Rp F v d) : ∀ {xs : List TEn} {ds : List (D × D)}, RpT F xs ds →
    RpT F (xs.map fun x => if x.1 = keyN kd then (x.1, x.2.1, v) else x) (ds.map fun kv => if PyData.eqv kv.1 kd then (kv.1, d) else kv)
  | _, _, .nil => .nil
  | _, _, @RpT.cons _ _ b w xs kd' d0 ds k r1 r rs => by
    rw [List.map_cons, List.map_cons, eqv_tk k hk]
    by_cases e : keyN kd' = keyN kd
    · rw [if_pos (show (keyN kd', b, w).1 = keyN kd from e), if_pos (decide_eq_true e)]
      exact .cons k r1 rv (RpT.repl hk rv rs)
    · rw [if_neg (show ¬ (keyN kd', b, w).1 = keyN kd from e), if_neg (by simpa using e)]
      exact .cons k r1 r (RpT.repl hk rv rs)
theorem RpT.put {F : Hp} {b : Addr} {v : V} {kd d : D} (hk : isTK kd = true) (rk : Rp F (.ref b) kd) (rv : Rp F v d) {xs : List TEn} {ds : List (D × D)} (r : RpT F xs ds) : RpT F (MP.putT xs (keyN kd) b v) (putD ds kd d) := by
  unfold MP.putT putD
  rw [r.isSome hk]
  split
  · exact r.repl hk rv
  · exact r.snoc hk rk rv
theorem RpT.noInts {F : Hp} {xs : List TEn} {ds : List (D × D)} (r : RpT F xs ds) (n : ds ≠ []) : noTup ds = false ∧ allInts (ds.map Prod.fst) = none := by
  cases r with
  | nil => exact absurd rfl n
  | cons k r1 r rs =>
    obtain ⟨es, rfl⟩ := (isTK_inv k).2.2
    exact ⟨rfl, rfl⟩
theorem RpK.allTK {F : Hp} {kvs : List (Key × V)} {ds : List (D × D)} (r : RpK F kvs ds) (h : MP.allTK ds = true) : ds = [] ∧ kvs = [] := by
  cases r with
  | nil => exact ⟨rfl, rfl⟩
  | cons r rs => cases h

/-! ### objects that change -/
/-- the object at p has the content c; its items stand in F -/
def Cel (F H : Hp) (p : Addr) : Cell → Prop
  | .lst ds => ∃ vs, H p = some (.lst vs) ∧ RpL F vs ds
  | .dic false ds => ∃ kvs, H p = some (.dK kvs) ∧ RpK F kvs ds
  | .dic true ds => ds ≠ [] ∧ ∃ xs, H p = some (TDO WI.w p xs) ∧ RpT F xs ds
theorem Cel.there {F H : Hp} {p : Addr} {c : Cell} (h : Cel F H p c) : ∃ o, H p = some o ∧ ∀ ob xs, o ≠ .frz ob (.tup xs) := by
  cases c with
  | lst ds =>
    obtain ⟨vs, e, _⟩ := h
    exact ⟨_, e, fun _ xs z => by cases z⟩
  | dic k ds =>
    cases k with
    | false =>
      obtain ⟨vs, e, _⟩ := h
      exact ⟨_, e, fun _ xs z => by cases z⟩
    | true =>
      obtain ⟨_, vs, e, _⟩ := h
      exact ⟨_, e, fun _ xs z => by cases z⟩
theorem Cel.mono {F F' H H' : Hp} {p : Addr} {c : Cell} (h : Cel F H p c) (hf : Le F F') (hk : ∀ o, H p = some o → H' p = some o) : Cel F' H' p c := by
  cases c with
  | lst ds =>
    obtain ⟨vs, e, r⟩ := h
    exact ⟨vs, hk _ e, r.mono hf⟩
  | dic k ds =>
    cases k with
    | false =>
      obtain ⟨vs, e, r⟩ := h
      exact ⟨vs, hk _ e, r.mono hf⟩
    | true =>
      obtain ⟨n, vs, e, r⟩ := h
      exact ⟨n, vs, hk _ e, r.mono hf⟩
theorem Cel.monoT {F F' H H' : Hp} {p : Addr} {c : Cell} (h : Cel F H p c) (n : noMutC c = true) (hf : LeT F F') (hk : ∀ o, H p = some o → H' p = some o) : Cel F' H' p c := by
  cases c with
  | lst ds =>
    obtain ⟨vs, e, r⟩ := h
    exact ⟨vs, hk _ e, r.monoT hf n⟩
  | dic k ds => simp [noMutC] at n
/-- such an object, from now on one that never changes -/
theorem Cel.rp {F H : Hp} {p : Addr} {c : Cell} (h : Cel F H p c) {F' : Hp} (hf : Le F F') (hp : ∀ o, H p = some o → F' p = some o) : Rp F' (.ref p) c.d := by
  cases c with
  | lst ds =>
    obtain ⟨vs, e, r⟩ := h
    exact .lst (hp _ e) (r.mono hf)
  | dic k ds =>
    cases k with
    | false =>
      obtain ⟨vs, e, r⟩ := h
      exact .dicK (hp _ e) (r.mono hf)
    | true =>
      obtain ⟨n, vs, e, r⟩ := h
      exact .dicT (hp _ e) n (r.mono hf)

/-! ### the state -/
def OwnS (v : List Slot) (σ : L2.St) (ρ : List Addr) (a : Addr) : Prop := a ∈ ρ ∨ ∃ (i : Nat) (c : Cell), v[i]? = some (Slot.own c) ∧ σ[i]? = some (some (V.ref a))
def SlotOk (F H : Hp) (ρ : List Addr) (x : Option (Option V)) : Slot → Prop
  | .un => True
  | .val d => ∃ v, x = some (some v) ∧ Rp F v d
  | .loc n => ∃ a, ρ[n]? = some a ∧ x = some (some (.ref a))
  | .own c => ∃ p, x = some (some (.ref p)) ∧ Cel F H p c ∧ F p = none ∧ p ∉ ρ
structure RelS (F H : Hp) (ρ : List Addr) (s : List Cell) : Prop where
  len : ρ.length = s.length
  nd : ρ.Nodup
  cel : ∀ (n : Nat) (a : Addr) (c : Cell), ρ[n]? = some a → s[n]? = some c → Cel F H a c ∧ F a = none ∧ noMutC c = true
structure Rel (st : MP.St) (σ : L2.St) (H F : Hp) (ρ : List Addr) : Prop where
  fh : Le F H
  len : σ.length = st.v.length
  slot : ∀ (i : Nat) (a : Slot), st.v[i]? = some a → SlotOk F H ρ σ[i]? a
  inj : ∀ (i j : Nat) (c c' : Cell) (p : Addr), st.v[i]? = some (.own c) → st.v[j]? = some (.own c') → σ[i]? = some (some (.ref p)) → σ[j]? = some (some (.ref p)) → i = j
  sto : RelS F H ρ st.s

/-- a step: what never changes grows; what is nobody's own stays; what is new among that which never changes was not there, was somebody's own, or is a tuple -/
structure Stp (own : Addr → Prop) (H F H' F' : Hp) : Prop where
  fle : Le F F'
  keep : ∀ a o, H a = some o → ¬ own a → H' a = some o
  new : ∀ a o o', F' a = some o → F a = none → H a = some o' → own a ∨ ∃ ob xs, o' = .frz ob (.tup xs)
def OwnSub (H : Hp) (own own' : Addr → Prop) : Prop := ∀ a, own' a → own a ∨ H a = none
omit [WI] in
theorem Stp.refl {own : Addr → Prop} {H F : Hp} : Stp own H F H F := ⟨Le.refl _, fun _ _ h _ => h, fun a o o' e n _ => by rw [n] at e; cases e⟩
omit [WI] in
theorem Stp.trans {own own' : Addr → Prop} {H F H1 F1 H2 F2 : Hp} (a : Stp own H F H1 F1) (s : OwnSub H own own') (b : Stp own' H1 F1 H2 F2) : Stp own H F H2 F2 := by
  refine ⟨a.fle.trans b.fle, fun c o h n => ?_, fun c o o' e n h => ?_⟩
  · refine b.keep c o (a.keep c o h n) fun q => ?_
    rcases s c q with z | z
    · exact n z
    · rw [h] at z; cases z
  · by_cases hc : own c
    · exact .inl hc
    · cases q : F1 c with
      | some u => exact a.new c u o' q n h
      | none =>
        rcases b.new c o o' e q (a.keep c o' h hc) with z | z
        · rcases s c z with z | z
          · exact .inl z
          · rw [h] at z; cases z
        · exact .inr z
omit [WI] in
theorem OwnSub.refl {H : Hp} {own : Addr → Prop} : OwnSub H own own := fun _ h => .inl h
omit [WI] in
theorem OwnSub.trans {own own' own'' : Addr → Prop} {H H1 : Hp} (a : OwnSub H own own') (k : ∀ c o, H c = some o → ¬ own c → H1 c = some o) (b : OwnSub H1 own' own'') : OwnSub H own own'' := fun c h => by
  rcases b c h with z | z
  · exact a c z
  · by_cases hc : own c
    · exact .inl hc
    · cases q : H c with
      | none => exact .inr rfl
      | some o =>
        rw [k c o q hc] at z
        cases z

/-- behind an expression: the slots' values are as they were -/
structure Pst (st st' : MP.St) (σ : L2.St) (ρ : List Addr) (H F H' F' : Hp) : Prop where
  rel : Rel st' σ H' F' ρ
  stp : Stp (OwnS st.v σ ρ) H F H' F'
  sub : OwnSub H (OwnS st.v σ ρ) (OwnS st'.v σ ρ)
theorem Pst.refl {st : MP.St} {σ : L2.St} {ρ : List Addr} {H F : Hp} (r : Rel st σ H F ρ) : Pst st st σ ρ H F H F := ⟨r, Stp.refl, OwnSub.refl⟩
theorem Pst.trans {st st1 st2 : MP.St} {σ : L2.St} {ρ : List Addr} {H F H1 F1 H2 F2 : Hp} (a : Pst st st1 σ ρ H F H1 F1) (b : Pst st1 st2 σ ρ H1 F1 H2 F2) : Pst st st2 σ ρ H F H2 F2 :=
  ⟨b.rel, a.stp.trans a.sub b.stp, a.sub.trans a.stp.keep b.sub⟩

/-- what an expression's value is -/
def RW (st : MP.St) (σ : L2.St) (H F : Hp) (ρ : List Addr) (v : V) : MP.W → Prop
  | .d x => Rp F v x
  | .loc n => ∃ a, ρ[n]? = some a ∧ v = .ref a
  | .pl i => σ[i]? = some (some v)
  | .fr c => ∃ p, v = .ref p ∧ Cel F H p c ∧ F p = none ∧ ¬ OwnS st.v σ ρ p
/-- a new object was not there -/
def Fresh (st : MP.St) (σ : L2.St) (ρ : List Addr) (H : Hp) (v : V) : MP.W → Prop
  | .fr _ => ∀ p, v = .ref p → H p = none ∨ OwnS st.v σ ρ p
  | _ => True
theorem RW.step {st st' : MP.St} {σ : L2.St} {ρ : List Addr} {H F H' F' : Hp} {v : V} {w : MP.W} (h : RW st σ H F ρ v w) (p : Pst st st' σ ρ H F H' F') : RW st' σ H' F' ρ v w := by
  cases w with
  | d x => exact Rp.mono p.stp.fle h
  | loc n => exact h
  | pl i => exact h
  | fr c =>
    obtain ⟨q, e, hc, hn, ho⟩ := h
    obtain ⟨o, ht, hx⟩ := hc.there
    refine ⟨q, e, hc.mono p.stp.fle fun o h => p.stp.keep _ _ h ho, ?_, fun z => ?_⟩
    · cases z : F' q with
      | none => rfl
      | some u =>
        rcases p.stp.new q u o z hn ht with w | ⟨ob, xs, w⟩
        · exact absurd w ho
        · exact absurd w (hx ob xs)
    · rcases p.sub q z with w | w
      · exact ho w
      · rw [ht] at w; cases w
theorem Fresh.back {st st1 : MP.St} {σ : L2.St} {ρ : List Addr} {H F H1 F1 : Hp} {v : V} {w : MP.W} (p : Pst st st1 σ ρ H F H1 F1) (h : Fresh st1 σ ρ H1 v w) : Fresh st σ ρ H v w := by
  cases w with
  | fr c =>
    intro q e
    rcases h q e with z | z
    · by_cases ho : OwnS st.v σ ρ q
      · exact .inr ho
      · cases x : H q with
        | none => exact .inl rfl
        | some o =>
          rw [p.stp.keep q o x ho] at z
          cases z
    · rcases p.sub q z with w | w
      · exact .inr w
      · exact .inl w
  | d x => exact True.intro
  | loc n => exact True.intro
  | pl i => exact True.intro

/-- what is seen of a value: its own object in H, its items in F -/
inductive Vw (F H : Hp) : V → D → Prop
  | val {v : V} {d : D} : Rp F v d → Vw F H v d
  | cel {p : Addr} {c : Cell} : Cel F H p c → Vw F H (.ref p) c.d
theorem view_vw {st : MP.St} {σ : L2.St} {ρ : List Addr} {H F : Hp} {v : V} {w : MP.W} {d : D} (r : Rel st σ H F ρ) (h : RW st σ H F ρ v w) (e : st.view w = some d) : Vw F H v d := by
  cases w with
  | d x =>
    have e' := Option.some.inj e
    subst e'
    exact .val h
  | loc n =>
    obtain ⟨a, h1, rfl⟩ := h
    simp only [St.view, Option.map_eq_some_iff] at e
    obtain ⟨c, hc, rfl⟩ := e
    exact .cel (r.sto.cel n a c h1 hc).1
  | pl i =>
    have h : σ[i]? = some (some v) := h
    simp only [St.view] at e
    split at e
    · rename_i c hc
      have e' := Option.some.inj e
      subst e'
      obtain ⟨p, h1, h2, h3, h4⟩ := r.slot i _ hc
      rw [h] at h1
      cases h1
      exact .cel h2
    · rename_i x hx
      have e' := Option.some.inj e
      subst e'
      obtain ⟨u, h1, h2⟩ := r.slot i _ hx
      rw [h] at h1
      cases h1
      exact .val h2
    · cases e
  | fr c =>
    have e' := Option.some.inj e
    subst e'
    obtain ⟨p, rfl, h2, _⟩ := h
    exact .cel h2
section
variable {F H : Hp} {v : V}
theorem Vw.int {i : Int} (h : Vw F H v (.int i)) : v = .int i := by
  generalize e : PyData.int i = d at h
  cases h with
  | val r =>
    subst e
    cases r
    rfl
  | cel r =>
    rename_i p c
    cases c <;> cases e
theorem Vw.bl {i : Bool} (h : Vw F H v (.bool i)) : v = .bl i := by
  generalize e : PyData.bool i = d at h
  cases h with
  | val r =>
    subst e
    cases r
    rfl
  | cel r =>
    rename_i p c
    cases c <;> cases e
theorem Vw.non (h : Vw F H v .none) : v = .non := by
  generalize e : PyData.none = d at h
  cases h with
  | val r =>
    subst e
    cases r
    rfl
  | cel r =>
    rename_i p c
    cases c <;> cases e
theorem Vw.str {i : Str} (h : Vw F H v (.str i)) : v = .str i := by
  generalize e : PyData.str i = d at h
  cases h with
  | val r =>
    subst e
    cases r
    rfl
  | cel r =>
    rename_i p c
    cases c <;> cases e
theorem Vw.tup {ds : List D} (hf : Le F H) (h : Vw F H v (.tuple ds)) : ∃ a ob xs, v = .ref a ∧ H a = some (.frz ob (.tup xs)) ∧ F a = some (.frz ob (.tup xs)) ∧ ob.dict = none ∧ RpL F xs ds := by
  generalize e : PyData.tuple ds = d at h
  cases h with
  | val r =>
    subst e
    cases r with
    | tup h1 hn h2 => exact ⟨_, _, _, rfl, hf _ _ h1, h1, hn, h2⟩
  | cel r =>
    rename_i p c
    cases c <;> cases e
theorem Vw.lst {ds : List D} (hf : Le F H) (h : Vw F H v (.list ds)) : ∃ a xs, v = .ref a ∧ H a = some (.lst xs) ∧ RpL F xs ds := by
  generalize e : PyData.list ds = d at h
  cases h with
  | val r =>
    subst e
    cases r with
    | lst h1 h2 => exact ⟨_, _, rfl, hf _ _ h1, h2⟩
  | cel r =>
    rename_i p c
    cases c with
    | lst xs =>
      cases e
      obtain ⟨vs, h1, h2⟩ := r
      exact ⟨_, _, rfl, h1, h2⟩
    | dic k kvs => cases e
theorem Vw.dic {ds : List (D × D)} (hf : Le F H) (h : Vw F H v (.dict ds)) : (∃ a kvs, v = .ref a ∧ Rd H a (.dK kvs) ∧ RpK F kvs ds) ∨ ∃ a xs, v = .ref a ∧ H a = some (TDO WI.w a xs) ∧ ds ≠ [] ∧ RpT F xs ds := by
  generalize e : PyData.dict ds = d at h
  cases h with
  | val r =>
    subst e
    cases r with
    | dicK h1 h2 => exact .inl ⟨_, _, rfl, .of (hf _ _ h1), h2⟩
    | dicF h1 h2 => exact .inl ⟨_, _, rfl, .inr ⟨_, hf _ _ h1⟩, h2⟩
    | dicT h1 n h2 => exact .inr ⟨_, _, rfl, hf _ _ h1, n, h2⟩
  | cel r =>
    rename_i p c
    cases c with
    | lst xs => cases e
    | dic k kvs =>
      cases e
      cases k with
      | true =>
        obtain ⟨n, vs, h1, h2⟩ := r
        exact .inr ⟨_, _, rfl, h1, n, h2⟩
      | false =>
        obtain ⟨vs, h1, h2⟩ := r
        exact .inl ⟨_, _, rfl, .of h1, h2⟩
/-- either: list or tuple -/
theorem Vw.items {d : D} {ds : List D} (hf : Le F H) (h : Vw F H v d) (e : items d = some ds) : ∃ a xs, v = .ref a ∧ (H a = some (.lst xs) ∨ ∃ ob, H a = some (.frz ob (.tup xs))) ∧ RpL F xs ds := by
  cases d with
  | list xs =>
    have e' := Option.some.inj e
    subst e'
    obtain ⟨a, ys, h1, h2, h3⟩ := h.lst hf
    exact ⟨a, ys, h1, .inl h2, h3⟩
  | tuple xs =>
    have e' := Option.some.inj e
    subst e'
    obtain ⟨a, ob, ys, h1, h2, _, _, h3⟩ := h.tup hf
    exact ⟨a, ys, h1, .inr ⟨ob, h2⟩, h3⟩
  | none => cases e
  | bool b => cases e
  | int b => cases e
  | str b => cases e
  | dict b => cases e
mutual
theorem Rp.dp {K : PySem.W.Frag} {F H : Hp} (hf : Le F H) : ∀ {v : V} {d : D}, d.canLay0 = true → Rp F v d → Dp K H v d
  | _, _, _, .non => .non
  | _, _, _, .bl b => .bl b
  | _, _, _, .int i => .int i
  | _, _, _, .str x => .str x
  | _, _, n, .lst e r => .lst (SqL.of (hf _ _ e)) (RpL.dp hf (by simpa [PyData.canLay0] using n) r)
  | _, _, n, .tup e _ r => .tup (SqT.ofF (hf _ _ e)) (RpL.dp hf (by simpa [PyData.canLay0] using n) r)
  | _, _, n, .dicK e r => by simp [PyData.canLay0] at n
  | _, _, n, .dicF e r => by simp [PyData.canLay0] at n
  | _, _, n, .dicT e _ r => by simp [PyData.canLay0] at n
theorem RpL.dp {K : PySem.W.Frag} {F H : Hp} (hf : Le F H) : ∀ {vs : List V} {ds : List D}, PyData.canLayAll0 ds = true → RpL F vs ds → DpAll K H vs ds
  | _, _, _, .nil => .nil
  | _, _, n, .cons r rs => by
    have n' := Bool.and_eq_true_iff.mp (by simpa only [PyData.canLayAll0] using n)
    exact .cons (Rp.dp hf n'.1 r) (RpL.dp hf n'.2 rs)
end
theorem Vw.dp {K : PySem.W.Frag} {d : D} (hf : Le F H) (n : SeqAt.shaped d = true) (h : Vw F H v d) : Dp K H v d := by
  have hn := SeqAt.canLay_of_shaped n
  cases h with
  | val r => exact r.dp hf hn
  | cel r =>
    rename_i p c
    cases c with
    | lst xs =>
      obtain ⟨vs, h1, h2⟩ := r
      have hn' : PyData.canLay0 (.list xs) = true := hn
      exact .lst (SqL.of h1) (h2.dp hf (by simpa [PyData.canLay0] using hn'))
    | dic k kvs =>
      have hn' : PyData.canLay0 (.dict kvs) = true := hn
      simp [PyData.canLay0] at hn'
end

/-! ### new objects -/
theorem Rel.newH {st : MP.St} {σ : L2.St} {ρ : List Addr} {H F F' : Hp} {t : Addr} {o : HO} (r : Rel st σ H F ρ) (ht : H t = none) (hf : Le F F') (h' : ∀ a u, F' a = some u → F a = some u ∨ (a = t ∧ u = o)) : Rel st σ (upd H t o) F' ρ := by
  have le : Le H (upd H t o) := Le.upd ht
  have ft : ∀ p, F p = none → H p ≠ none → F' p = none := fun p n e => by
    cases q : F' p with
    | none => rfl
    | some u =>
      rcases h' p u q with z | ⟨z, _⟩
      · rw [n] at z; cases z
      · rw [z] at e; exact absurd ht e
  refine ⟨fun a u e => ?_, r.len, fun i a e => ?_, r.inj, ⟨r.sto.len, r.sto.nd, fun n a c e1 e2 => ?_⟩⟩
  · rcases h' a u e with z | ⟨z1, z2⟩
    · exact le _ _ (r.fh _ _ z)
    · rw [z1, z2]; exact upd_same
  · have q := r.slot i a e
    cases a with
    | un => exact q
    | val d =>
      obtain ⟨v, h1, h2⟩ := q
      exact ⟨v, h1, h2.mono hf⟩
    | loc n => exact q
    | own c =>
      obtain ⟨p, h1, h2, h3, h4⟩ := q
      obtain ⟨u, hu, _⟩ := h2.there
      exact ⟨p, h1, h2.mono hf fun o h => le _ _ h, ft p h3 (by rw [hu]; simp), h4⟩
  · obtain ⟨h1, h2, h3⟩ := r.sto.cel n a c e1 e2
    obtain ⟨u, hu, _⟩ := h1.there
    exact ⟨h1.mono hf fun o h => le _ _ h, ft a h2 (by rw [hu]; simp), h3⟩
theorem OwnS.there {st : MP.St} {σ : L2.St} {ρ : List Addr} {H F : Hp} {a : Addr} (r : Rel st σ H F ρ) (h : OwnS st.v σ ρ a) : F a = none ∧ ∃ o, H a = some o ∧ ∀ ob xs, o ≠ .frz ob (.tup xs) := by
  rcases h with h | ⟨i, c, h1, h2⟩
  · obtain ⟨n, hn⟩ := List.mem_iff_getElem?.mp h
    have hl : n < st.s.length := by
      rw [← r.sto.len]
      exact (List.getElem?_eq_some_iff.mp hn).1
    obtain ⟨h1, h2, _⟩ := r.sto.cel n a st.s[n] hn (List.getElem?_eq_getElem hl)
    exact ⟨h2, h1.there⟩
  · obtain ⟨p, e1, e2, e3, _⟩ := r.slot i _ h1
    rw [h2] at e1
    cases e1
    exact ⟨e3, e2.there⟩
/-- a new object that never changes -/
theorem Pst.newF {st : MP.St} {σ : L2.St} {ρ : List Addr} {H F : Hp} {t : Addr} {o : HO} (r : Rel st σ H F ρ) (ht : H t = none) : Pst st st σ ρ H F (upd H t o) (upd F t o) := by
  have hf : F t = none := by
    cases q : F t with
    | none => rfl
    | some u => rw [r.fh _ _ q] at ht; cases ht
  refine ⟨r.newH ht (Le.upd hf) fun a u e => ?_, ⟨Le.upd hf, fun a u e _ => Le.upd ht _ _ e, fun a u u' e n h => ?_⟩, OwnSub.refl⟩
  · by_cases h : a = t
    · rw [h, upd_same] at e
      exact .inr ⟨h, (Option.some.inj e).symm⟩
    · rw [upd_ne h] at e
      exact .inl e
  · by_cases hh : a = t
    · rw [hh, ht] at h; cases h
    · rw [upd_ne hh, n] at e; cases e
/-- a new object that nobody holds yet -/
theorem Pst.newO {st : MP.St} {σ : L2.St} {ρ : List Addr} {H F : Hp} {t : Addr} {o : HO} (r : Rel st σ H F ρ) (ht : H t = none) : Pst st st σ ρ H F (upd H t o) F :=
  ⟨r.newH ht (Le.refl _) fun a u e => .inl e, ⟨Le.refl _, fun a u e _ => Le.upd ht _ _ e, fun a u u' e n h => by rw [n] at e; cases e⟩, OwnSub.refl⟩
theorem not_own_new {st : MP.St} {σ : L2.St} {ρ : List Addr} {H F : Hp} {t : Addr} (r : Rel st σ H F ρ) (ht : H t = none) : ¬ OwnS st.v σ ρ t := fun h => by
  obtain ⟨_, o, e, _⟩ := h.there r
  rw [ht] at e; cases e
end MP
/-! MPchk: a text of the small language is the text of the program. -/
namespace MP
open PySem L2

/-- the module's names: constants, defs, exceptions -/
structure Tb where
  gl : List (Str × Int)
  fs : List Str
  ex : List Str
def visB (sc : Scope) (x : Str) : Bool := match sc.names.lookup x with
  | some .local => true
  | some .cell => true
  | some .free => true
  | _ => false
def gloB (sc : Scope) (x : Str) : Bool := match sc.names.lookup x with
  | some .globalImplicit => true
  | _ => false
/-- a name that is stored: blk, in a comprehension's block -/
def locB (ow : Str → Bool) (sc : Scope) (x : Str) : Bool := match sc.names.lookup x with
  | some .local => true
  | some .cell => ow x
  | _ => false
/-- in a def: all its cells; in a comprehension's block: its own -/
def allC : Str → Bool := fun _ => true
def ownC (scope : Scope) : Str → Bool := fun x => scope.names.lookup x == some .cell
def nameOk (x : Str) : Bool := !(x == ("__debug__" : Str)) && !(x == ("__classdict__" : Str))
def bltName : Blt → Str
  | .len => "len"
  | .sum => "sum"
  | .max => "max"
  | .min => "min"
  | .all => "all"
  | .sorted => "sorted"
  | .list => "list"
  | .tuple => "tuple"
  | .int => "int"
def mthName : Mth → Str
  | .append => "append"
  | .pop => "pop"
  | .popAt => "pop"
  | .insert => "insert"
  | .remove => "remove"
  | .index => "index"
  | .indexD => "index"
  | .get2 => "get"
def chkN (blk : Str → Bool) (N : List Str) (sc : Scope) (i : Nat) : Expr → Bool
  | .Name x _ => decide (N[i]? = some x) && locB blk sc x
  | _ => false
def chkNs (blk : Str → Bool) (N : List Str) (sc : Scope) : List Nat → List Expr → Bool
  | [], [] => true
  | i :: is, e :: es => chkN blk N sc i e && chkNs blk N sc is es
  | _, _ => false
def chkT (blk : Str → Bool) (N : List Str) (sc : Scope) : Tgt → Expr → Bool
  | .one i, e => chkN blk N sc i e
  | .many is, .Tuple es _ _ => chkNs blk N sc is es
  | _, _ => false
def isTup : Expr → Bool
  | .Tuple _ _ _ => true
  | _ => false
def tyNames : List Expr → Option (List Str)
  | [] => some []
  | .Name x _ :: es => (tyNames es).map (x :: ·)
  | _ => none
def ty5 : List String := ["int", "bool", "tuple", "list", "str"]
def tyNm (sc : Scope) (ts : List String) (xs : List Str) : Bool := decide (xs = ts.map Str.ofString) && xs.all (fun x => gloB sc x) && ts.all (fun t => ty5.contains t)
def isMany : Tgt → Bool
  | .many _ => true
  | _ => false
def tyOk (sc : Scope) (ts : List String) : Expr → Bool
  | .Name t _ => tyNm sc ts [t]
  | .Tuple es _ _ => (match tyNames es with | some xs => tyNm sc ts xs | none => false) && decide (2 ≤ ts.length ∧ ts.length ≤ 8)
  | _ => false
def call1 : Expr → Option (Str × Expr)
  | .Call (.Name g _) [x] [] _ => some (g, x)
  | _ => none
def call2 : Expr → Option (Str × Expr × Expr)
  | .Call (.Name g _) [x, y] [] _ => some (g, x, y)
  | _ => none
def comp1 : Expr → Option (Expr × Expr × Expr × List Expr × Scope)
  | .ListComp x [⟨t, i, ifs, 0⟩] scope _ => some (x, t, i, ifs, scope)
  | _ => none
/-- not a call without arguments -/
def notCall0 : Expr → Bool
  | .Call _ [] _ _ => false
  | _ => true
def comp2q : Expr → Option (Expr × Expr × Expr × List Expr × Expr × Expr × List Expr × Scope)
  | .ListComp x [⟨t, i, ifs, 0⟩, ⟨t1, i1, ifs1, 0⟩] scope _ => some (x, t, i, ifs, t1, i1, ifs1, scope)
  | _ => none
def ownOf (N : List Str) (t : Tgt) : List (Str × Nat) := (tgtIs t).map fun i => (N.getD i "", i)

mutual
def chkE (N : List Str) (tb : Tb) (sc : Scope) : Ex → Expr → Bool
  | .var i, .Name x _ => decide (N[i]? = some x) && visB sc x && nameOk x
  | .con (.int i), .Constant (.int j) _ _ => i == j
  | .con (.bool i), .Constant (.bool j) _ _ => i == j
  | .con .none, .Constant .none _ _ => true
  | .con (.str i), .Constant (.str j) _ _ => i == j
  | .glo x i, .Name y _ => x == y && gloB sc x && nameOk x && tb.gl.contains (x, i)
  | .tup es, .Tuple xs _ _ => chkEs N tb sc es xs && decide (xs.length < 1000)
  | .lst es, .List xs _ => chkEs N tb sc es xs && decide (xs.length < 1000)
  | .bin o a b, .BinOp x o' y _ => o == o' && chkE N tb sc a x && chkE N tb sc b y
  | .neg a, .UnaryOp .USub x _ => chkE N tb sc a x
  | .cmp o a b, .Compare x [o'] [y] _ => o == o' && chkE N tb sc a x && chkE N tb sc b y
  | .chain o o2 a b c, .Compare x [p, p2] [y, z] _ => o == p && o2 == p2 && chkE N tb sc a x && chkE N tb sc b y && chkE N tb sc c z
  | .and a b, .BoolOp .And (x :: y :: r) p => chkE N tb sc a x && chkE N tb sc b (.BoolOp .And (y :: r) p)
  | .or a b, .BoolOp .Or (x :: y :: r) p => chkE N tb sc a x && chkE N tb sc b (.BoolOp .Or (y :: r) p)
  | .one a, .BoolOp _ [x] _ => chkE N tb sc a x
  | .not a, .UnaryOp .Not x _ => chkE N tb sc a x
  | .ifx c a b, .IfExp z x y _ => chkE N tb sc c z && chkE N tb sc a x && chkE N tb sc b y
  | .idx a b, .Subscript x y _ => chkE N tb sc a x && chkE N tb sc b y
  | .sli a lo hi, .Subscript x (.Slice l h none _) _ => chkE N tb sc a x && chkO N tb sc lo l && chkO N tb sc hi h
  | .rev a, .Subscript x (.Slice none none (some (.UnaryOp .USub (.Constant (.int i) _ _) _)) _) _ => i == 1 && chkE N tb sc a x
  | .call f e es, .Call (.Name g _) (x :: xs) [] _ => f == g && gloB sc g && nameOk g && tb.fs.contains g && chkE N tb sc e x && chkEs N tb sc es xs
  | .blt f a, e => (match call1 e with
    | some (g, x) => g == bltName f && gloB sc g && chkE N tb sc a x
    | none => false)
  | .lens a, e => (match call1 e with
    | some (g, y) => (match call1 y with
      | some (h, x) => g == ("len" : Str) && h == ("set" : Str) && gloB sc g && gloB sc h && chkE N tb sc a x
      | none => false)
    | none => false)
  | .trg1 b, e => (match call1 e with
    | some (g, z) => (match call1 z with
      | some (h, y) => g == ("tuple" : Str) && h == ("range" : Str) && gloB sc g && gloB sc h && chkE N tb sc b y
      | none => false)
    | none => false)
  | .trg2 a b, e => (match call1 e with
    | some (g, z) => (match call2 z with
      | some (h, x, y) => g == ("tuple" : Str) && h == ("range" : Str) && gloB sc g && gloB sc h && chkE N tb sc a x && chkE N tb sc b y
      | none => false)
    | none => false)
  | .isi a ts, e => (match call2 e with
    | some (g, x, t) => g == ("isinstance" : Str) && gloB sc g && tyOk sc ts t && chkE N tb sc a x
    | none => false)
  | .mth m o es, .Call (.Attribute x nm apos) xs [] cpos => nm == mthName m && (apos.endLine == cpos.line) && (chkE N tb sc o x && notCall0 x) && chkEs N tb sc es xs && decide (xs.length < 20)
  | .comp elt tg it cond, e => (match comp1 e with
    | some (x, t, i, ifs, scope) => blkC N sc scope (ownOf N tg) && chkT (ownC scope) N (relS scope sc) tg t && chkI N tb sc tg it i && chkE N tb (relS scope sc) elt x && chkC N tb (relS scope sc) cond ifs
    | none => false)
  | .comp2 elt tg it cond tg1 it1 cond1, e => (match comp2q e with
    | some (x, t, i, ifs, t1, i1, ifs1, scope) => blkC N sc scope (ownOf N tg ++ ownOf N tg1) && chkT (ownC scope) N (relS scope sc) tg t && chkI N tb sc tg it i && chkE N tb (relS scope sc) elt x && chkC N tb (relS scope sc) cond ifs &&
        chkT (ownC scope) N (relS scope sc) tg1 t1 && chkI N tb (relS scope sc) tg1 it1 i1 && chkC N tb (relS scope sc) cond1 ifs1
    | none => false)
  | .dnew, .Dict [] [] _ => true
  | .dis a b, .Dict [some x] [y] _ => chkE N tb sc a x && chkE N tb sc b y
  | .disT a b, .Dict [some x] [y] _ => chkE N tb sc a x && chkE N tb sc b y
  | .mm2 mx a b, e => (match call2 e with
    | some (g, x, y) => g == (if mx then "max" else "min" : Str) && gloB sc g && chkE N tb sc a x && chkE N tb sc b y
    | none => false)
  | .call0 f, .Call (.Name g _) [] [] _ => f == g && gloB sc g && nameOk g && tb.fs.contains g
  | .srtT a, e => (match call1 e with
    | some (g, x) => g == ("sorted" : Str) && gloB sc g && chkE N tb sc a x
    | none => false)
  | .srtS a, e => (match call1 e with
    | some (g, y) => (match call1 y with
      | some (h, x) => g == ("sorted" : Str) && h == ("set" : Str) && gloB sc g && gloB sc h && chkE N tb sc a x
      | none => false)
    | none => false)
  | .lzip a b, e => (match call1 e with
    | some (g, z) => (match call2 z with
      | some (h, x, y) => g == ("list" : Str) && h == ("zip" : Str) && gloB sc g && gloB sc h && chkE N tb sc a x && chkE N tb sc b y
      | none => false)
    | none => false)
  | .srtK a, e => (match call1 e with
    | some (g, x) => g == ("sorted" : Str) && gloB sc g && chkE N tb sc a x
    | none => false)
  | .lensL a, e => (match call1 e with
    | some (g, y) => (match call1 y with
      | some (h, x) => g == ("len" : Str) && h == ("set" : Str) && gloB sc g && gloB sc h && chkE N tb sc a x
      | none => false)
    | none => false)
  | .trg3 _ _ _, _ => false
  | .sumV _, _ => false
  | .sumT _, _ => false
  | .dmax _, _ => false
  | .neD _ _, _ => false
  | .srtK2 _, _ => false
  | _, _ => false
def chkO (N : List Str) (tb : Tb) (sc : Scope) : Exo → Option Expr → Bool
  | .no, none => true
  | .yes e, some x => chkE N tb sc e x
  | _, _ => false
def chkC (N : List Str) (tb : Tb) (sc : Scope) : Exo → List Expr → Bool
  | .no, [] => true
  | .yes e, [x] => chkE N tb sc e x
  | _, _ => false
def chkEs (N : List Str) (tb : Tb) (sc : Scope) : Exs → List Expr → Bool
  | .nil, [] => true
  | .cons e es, x :: xs => chkE N tb sc e x && chkEs N tb sc es xs
  | _, _ => false
def chkI (N : List Str) (tb : Tb) (sc : Scope) (tg : Tgt) : It → Expr → Bool
  | .over e, x => chkE N tb sc e x
  | .rng1 b, e => (match call1 e with
    | some (g, y) => g == ("range" : Str) && gloB sc g && chkE N tb sc b y
    | none => false)
  | .rng2 a b, e => (match call2 e with
    | some (g, x, y) => g == ("range" : Str) && gloB sc g && chkE N tb sc a x && chkE N tb sc b y
    | none => false)
  | .enum a, e => (match call1 e with
    | some (g, x) => isMany tg && g == ("enumerate" : Str) && gloB sc g && chkE N tb sc a x
    | none => false)
  | .zip a b, e => (match call2 e with
    | some (g, x, y) => isMany tg && g == ("zip" : Str) && gloB sc g && chkE N tb sc a x && chkE N tb sc b y
    | none => false)
  | .keys e, x => chkE N tb sc e x
  | .keysT _, _ => false
end
def isComp : Expr → Bool
  | .ListComp _ _ _ _ => true
  | .SetComp _ _ _ _ => true
  | .DictComp _ _ _ _ _ => true
  | _ => false
/-- is a comprehension's value laid straight into the name? -/
def swB (sc : Scope) (x : Str) (px : Pos) : Expr → Bool
  | .ListComp _ _ scope pos => (match sc.names.lookup x with | some .local => true | _ => false) && (px.line == pos.line) && !(scope.names.any fun (n, k) => n == x && (k == .local || k == .cell))
  | _ => false
def allLoc (sc : Scope) (l : Nat) : List Expr → Bool
  | [] => true
  | .Name x p :: es => (match sc.names.lookup x with | some .local => true | _ => false) && p.line == l && allLoc sc l es
  | _ => false
def lineOf : List Expr → Nat
  | .Name _ p :: _ => p.line
  | _ => 0
/-- the names that a tuple of targets stores from the right -/
def swpN (sc : Scope) (ts : List Expr) : List Str := ts.filterMap fun
  | .Name id pos => if sc.names.lookup id == some .local && pos.line == (ts.head?.map (·.pos.line)).getD 0 then some id else none
  | _ => none
/-- are the stores of a tuple of targets swapped? none: the model does not say -/
def swpB (sc : Scope) (ts vs : List Expr) : Option Bool :=
  if !(ts.length == 2 || ts.length == 3) || vs.length != ts.length then some false
  else if vs.any fun | .Starred .. => true | _ => false then some false
  else if (swpN sc ts).length != ts.length || (swpN sc ts).eraseDups.length != (swpN sc ts).length then some false
  else if vs.all (foldedForSure 8) then some false
  else if vs.all (constantsAlone 8) then none
  else some true
mutual
def chkS (N : List Str) (tb : Tb) (sc : Scope) : Sm → Stmt → Bool
  | .asg i e, .Assign [.Name x px] v pos => decide (N[i]? = some x) && locB allC sc x && chkE N tb sc e v
  | .asgT is e, .Assign [.Tuple xs _ _] v pos => !isTup v && !isComp v && chkNs allC N sc is xs && chkE N tb sc e v
  | .par is es, .Assign [.Tuple xs _ _] (.Tuple vs _ _) pos => chkNs allC N sc is xs && chkEs N tb sc es vs && decide (xs.length = vs.length) && decide is.Nodup && decide (is.length < 1000) &&
      (match swpB sc xs vs with | some true => (decide (xs.length = 2) || decide (xs.length = 3)) && allLoc sc (lineOf xs) xs | some false => true | none => false)
  | .setI o i e, .Assign [.Subscript x y _] v pos => !isComp v && chkE N tb sc o x && chkE N tb sc i y && chkE N tb sc e v
  | .par2S o1 i1 e1 o2 i2 e2, .Assign [.Tuple [.Subscript x1 y1 _, .Subscript x2 y2 _] _ _] (.Tuple [v1, v2] _ _) pos => chkE N tb sc o1 x1 && chkE N tb sc i1 y1 && chkE N tb sc o2 x2 && chkE N tb sc i2 y2 && chkEs N tb sc (.cons e1 (.cons e2 .nil)) [v1, v2] &&
      (match swpB sc [.Subscript x1 y1 pos, .Subscript x2 y2 pos] [v1, v2] with | some false => true | _ => false)
  | .expr e, .Expr v _ => !isComp v && chkE N tb sc e v
  | .ret e, .Return (some v) _ => chkE N tb sc e v
  | .ifs c a b, .If x xs ys _ => chkE N tb sc c x && chkB N tb sc a xs && chkB N tb sc b ys
  | .loop tg it b, .For t i xs [] _ => chkT allC N sc tg t && chkI N tb sc tg it i && chkB N tb sc b xs
  | .whl c b, .While x xs [] _ => chkE N tb sc c x && chkB N tb sc b xs
  | .rai c, .Raise (some (.Call (.Name x _) [.Constant (.str _) _ _] [] _)) none _ => c == x && gloB sc x && nameOk x && tb.ex.contains c
  | .brk, .Break _ => true
  | .pass, .Pass _ => true
  | _, _ => false
def chkB (N : List Str) (tb : Tb) (sc : Scope) : Sms → List Stmt → Bool
  | .nil, [] => true
  | .cons s ss, x :: xs => chkS N tb sc s x && chkB N tb sc ss xs
  | _, _ => false
end
end MP
/-! MPsa: judgements by what they mean; the state's lemmas. -/
namespace MP
open PySem L2 PySem.Spec PyProof.Rows
variable [WI]

/-! ### judgements by what they mean -/
section
variable {X : Cx}
def tE (X : Cx) (e : Expr) : TE := fun σ H Q => ∀ (pins : List (Addr × Obj)) (s : Shared), Inv X pins σ H s → wpAny (model X.prog X.w) X.A (eval e X.env) (EP X pins σ Q) X.xe s
omit [WI] in
theorem pe_self {e : Expr} : PE X e (tE X e) := ⟨fun pins s σ H Q I h => h pins s I⟩
omit [WI] in
theorem tE_of {e : Expr} {t : TE} {σ : L2.St} {H : Hp} {Q : VK} (h : PE X e t) (q : t σ H Q) : tE X e σ H Q := fun pins s I => h.run pins s σ H Q I q
def tT (X : Cx) (e : Expr) : TT := fun σ H Q => ∀ (pins : List (Addr × Obj)) (s : Shared), Inv X pins σ H s → wpAny (model X.prog X.w) X.A (isTrue e X.env (eval e X.env)) (TP X pins σ Q) X.xe s
omit [WI] in
theorem pt_self {e : Expr} : PT X e (tT X e) := ⟨fun pins s σ H Q I h => h pins s I⟩
omit [WI] in
theorem tT_of {e : Expr} {t : TT} {σ : L2.St} {H : Hp} {Q : Bool → Hp → Prop} (h : PT X e t) (q : t σ H Q) : tT X e σ H Q := fun pins s I => h.run pins s σ H Q I q
def tW (X : Cx) (e : Expr) : TT := fun σ H Q => ∀ (whole : Sem Value) (pins : List (Addr × Obj)) (s : Shared), Inv X pins σ H s → wpAny (model X.prog X.w) X.A (isTrue e X.env whole) (TP X pins σ Q) X.xe s
omit [WI] in
theorem pw_self {e : Expr} : PW X e (tW X e) := ⟨fun wh pins s σ H Q I h => h wh pins s I⟩
omit [WI] in
theorem tW_of {e : Expr} {t : TT} {σ : L2.St} {H : Hp} {Q : Bool → Hp → Prop} (h : PW X e t) (q : t σ H Q) : tW X e σ H Q := fun wh pins s I => h.run wh pins s σ H Q I q
def tA (X : Cx) (es : List Expr) : TA := fun σ H Q => ∀ (pos : Pos) (pins : List (Addr × Obj)) (s : Shared), Inv X pins σ H s → wpAny (model X.prog X.w) X.A (spliced (backTo pos (starEach es X.env))) (AP X pins σ Q) X.xe s
omit [WI] in
theorem pa_self {es : List Expr} : PA X es (tA X es) := ⟨fun pos pins s σ H Q I h => h pos pins s I⟩
omit [WI] in
theorem tA_of {es : List Expr} {t : TA} {σ : L2.St} {H : Hp} {Q : List V → Hp → Prop} (h : PA X es t) (q : t σ H Q) : tA X es σ H Q := fun pos pins s I => h.run pos pins s σ H Q I q
def tSt (X : Cx) (st : Stmt) : TS := fun D σ H => ∀ (pins : List (Addr × Obj)) (s : Shared), Inv X pins σ H s → wpAny (model X.prog X.w) X.A (exec st X.env) (SP X pins D) X.xe s
omit [WI] in
theorem ps_self {st : Stmt} : PS X st (tSt X st) := ⟨fun pins s σ H D I h => h pins s I⟩
omit [WI] in
theorem tS_of {st : Stmt} {t : TS} {σ : L2.St} {H : Hp} {D : Ends} (h : PS X st t) (q : t D σ H) : tSt X st D σ H := fun pins s I => h.run pins s σ H D I q
def tSs (X : Cx) (st : List Stmt) : TS := fun D σ H => ∀ (pins : List (Addr × Obj)) (s : Shared), Inv X pins σ H s → wpAny (model X.prog X.w) X.A (execs st X.env) (SP X pins D) X.xe s
omit [WI] in
theorem pss_self {st : List Stmt} : PSs X st (tSs X st) := ⟨fun pins s σ H D I h => h pins s I⟩
omit [WI] in
theorem tSs_of {st : List Stmt} {t : TS} {σ : L2.St} {H : Hp} {D : Ends} (h : PSs X st t) (q : t D σ H) : tSs X st D σ H := fun pins s I => h.run pins s σ H D I q
def tIt (X : Cx) (tg iter : Expr) : TI := fun σ H R => ∀ (pins : List (Addr × Obj)) (s : Shared), Inv X pins σ H s → wpAny (model X.prog X.w) X.A (eval iter X.env) (fun v s1 => wpAny (model X.prog X.w) X.A (pyIter v) (PIE X pins σ tg R) X.xe s1) X.xe s
omit [WI] in
theorem pi_self {tg iter : Expr} : PI X tg iter (tIt X tg iter) := ⟨fun pins s σ H R I h => h pins s I⟩
omit [WI] in
theorem tI_of {tg iter : Expr} {t : TI} {σ : L2.St} {H : Hp} {R : L2.It → Hp → Prop} (h : PI X tg iter t) (q : t σ H R) : tIt X tg iter σ H R := fun pins s I => h.run pins s σ H R I q
def vOp (X : Cx) (f : Value → Value → Sem Value) : R2 := fun x y H Q => ∀ (pins : List (Addr × Obj)) (s : Shared) (σ : L2.St) (v u : Value), Inv X pins σ H s → RelV x v → RelV y u → wpAny (model X.prog X.w) X.A (f v u) (EP X pins σ Q) X.xe s
omit [WI] in
theorem op_self {f : Value → Value → Sem Value} : OpR X f (vOp X f) := fun pins s σ H x y v u Q I rx ry h => h pins s σ v u I rx ry
omit [WI] in
theorem vOp_of {f : Value → Value → Sem Value} {r : R2} {x y : V} {H : Hp} {Q : VK} (h : OpR X f r) (q : r x y H Q) : vOp X f x y H Q := fun pins s σ v u I rx ry => h pins s σ H x y v u Q I rx ry q
def vIx (X : Cx) : R2 := fun x y H Q => ∀ (pins : List (Addr × Obj)) (s : Shared) (σ : L2.St) (e b : Expr) (v u : Value), Inv X pins σ H s → RelV x v → RelV y u → PlainIx b → wpAny (model X.prog X.w) X.A (subscriptTail e b v u) (EP X pins σ Q) X.xe s
end

/-! ### the monad, backwards -/
section
variable {α β : Type} {st : MP.St}
omit [WI] in
theorem bind_inv {m : M α} {k : α → M β} {r : R β} (h : M.bind m k st = some r) : (∃ c s', m st = some (.exc c s') ∧ r = .exc c s') ∨ ∃ a s', m st = some (.ok a s') ∧ k a s' = some r := by
  unfold M.bind at h
  split at h
  · cases h
  · exact .inr ⟨_, _, by assumption, h⟩
  · exact .inl ⟨_, _, by assumption, (Option.some.inj h).symm⟩
omit [WI] in
theorem ret_inv {a : α} {r : R α} (h : M.ret a st = some r) : r = .ok a st := (Option.some.inj h).symm
omit [WI] in
theorem opt_inv {o : Option α} {r : R α} (h : M.opt o st = some r) : ∃ a, o = some a ∧ r = .ok a st := by
  unfold M.opt at h
  split at h
  · cases h
  · exact ⟨_, rfl, (Option.some.inj h).symm⟩
omit [WI] in
theorem opt_bind {o : Option α} {k : α → M β} {r : R β} (h : M.bind (M.opt o) k st = some r) : ∃ a, o = some a ∧ k a st = some r := by
  rcases bind_inv h with ⟨c, s', h1, _⟩ | ⟨a, s', h1, h2⟩
  · obtain ⟨a, _, e⟩ := opt_inv h1
    cases e
  · obtain ⟨b, h3, e⟩ := opt_inv h1
    cases e
    exact ⟨a, h3, h2⟩
omit [WI] in
theorem view_inv {w : MP.W} {r : R D} (h : view w st = some r) : ∃ d, st.view w = some d ∧ r = .ok d st := by
  unfold view at h
  cases e : st.view w with
  | none => rw [e] at h; cases h
  | some d =>
    rw [e] at h
    exact ⟨d, rfl, (Option.some.inj h).symm⟩
omit [WI] in
theorem view_bind {w : MP.W} {k : D → M β} {r : R β} (h : M.bind (view w) k st = some r) : ∃ d, st.view w = some d ∧ k d st = some r := by
  rcases bind_inv h with ⟨c, s', h1, _⟩ | ⟨a, s', h1, h2⟩
  · obtain ⟨a, _, e⟩ := view_inv h1
    cases e
  · obtain ⟨b, h3, e⟩ := view_inv h1
    cases e
    exact ⟨a, h3, h2⟩
omit [WI] in
theorem toBool_inv {w : MP.W} {r : R Bool} (h : toBool w st = some r) : ∃ b, st.view w = some (.bool b) ∧ r = .ok b st := by
  obtain ⟨d, h1, h2⟩ := view_bind h
  obtain ⟨b, h3, h4⟩ := opt_inv h2
  cases d <;> simp only [asBool] at h3 <;> first | cases h3 | skip
  exact ⟨_, h1, h4⟩
omit [WI] in
theorem toBool_bind {w : MP.W} {k : Bool → M β} {r : R β} (h : M.bind (toBool w) k st = some r) : ∃ b, st.view w = some (.bool b) ∧ k b st = some r := by
  rcases bind_inv h with ⟨c, s', h1, _⟩ | ⟨a, s', h1, h2⟩
  · obtain ⟨a, _, e⟩ := toBool_inv h1
    cases e
  · obtain ⟨b, h3, e⟩ := toBool_inv h1
    cases e
    exact ⟨a, h3, h2⟩
omit [WI] in
theorem toInt_inv {w : MP.W} {r : R Int} (h : toInt w st = some r) : ∃ b, st.view w = some (.int b) ∧ r = .ok b st := by
  obtain ⟨d, h1, h2⟩ := view_bind h
  obtain ⟨b, h3, h4⟩ := opt_inv h2
  cases d <;> simp only [asInt] at h3 <;> first | cases h3 | skip
  exact ⟨_, h1, h4⟩
omit [WI] in
theorem toInt_bind {w : MP.W} {k : Int → M β} {r : R β} (h : M.bind (toInt w) k st = some r) : ∃ b, st.view w = some (.int b) ∧ k b st = some r := by
  rcases bind_inv h with ⟨c, s', h1, _⟩ | ⟨a, s', h1, h2⟩
  · obtain ⟨a, _, e⟩ := toInt_inv h1
    cases e
  · obtain ⟨b, h3, e⟩ := toInt_inv h1
    cases e
    exact ⟨a, h3, h2⟩
omit [WI] in
theorem keep_inv {w : MP.W} {r : R D} (h : keep w st = some r) : ∃ d st1, r = .ok d st1 := by
  unfold keep at h
  split at h
  · exact ⟨_, _, (Option.some.inj h).symm⟩
  · cases h
  · exact ⟨_, _, (Option.some.inj h).symm⟩
  · split at h
    · exact ⟨_, _, (Option.some.inj h).symm⟩
    · exact ⟨_, _, (Option.some.inj h).symm⟩
    · cases h
omit [WI] in
theorem keep_bind {w : MP.W} {k : D → M β} {r : R β} (h : M.bind (keep w) k st = some r) : ∃ d st1, keep w st = some (.ok d st1) ∧ k d st1 = some r := by
  rcases bind_inv h with ⟨c, s', h1, _⟩ | ⟨a, s', h1, h2⟩
  · obtain ⟨a, b, e⟩ := keep_inv h1
    cases e
  · exact ⟨a, s', h1, h2⟩
omit [WI] in
theorem lend_bind {w : MP.W} {k : MP.W → M β} {r : R β} (h : M.bind (lend w) k st = some r) : ∃ x, lend w st = some (.ok x st) ∧ k x st = some r := by
  rcases bind_inv h with ⟨c, s', h1, _⟩ | ⟨a, s', h1, h2⟩
  · unfold lend at h1
    split at h1 <;> cases h1
  · refine ⟨a, ?_, ?_⟩
    · unfold lend at h1 ⊢
      split at h1 <;> (cases h1; rfl)
    · unfold lend at h1
      split at h1 <;> (cases h1; exact h2)
end

/-! ### the state's lemmas -/
theorem RelS.freeze {F H : Hp} {ρ : List Addr} {s : List Cell} {p : Addr} {o : HO} (r : RelS F H ρ s) (le : Le F (upd F p o)) (n : p ∉ ρ) : RelS (upd F p o) H ρ s :=
  ⟨r.len, r.nd, fun n' a c e1 e2 => by
    obtain ⟨h1, h2, h3⟩ := r.cel n' a c e1 e2
    refine ⟨h1.mono le fun _ h => h, ?_, h3⟩
    rw [upd_ne (fun z => n (by rw [← z]; exact List.mem_of_getElem? e1))]
    exact h2⟩
section
variable {st : MP.St} {σ : L2.St} {ρ : List Addr} {H F : Hp} {p : Addr} {o : HO} {i : Nat} {v : V} {d : D}
/-- an object that nobody holds becomes one that never changes -/
theorem Rel.freeze (r : Rel st σ H F ρ) (hp : H p = some o) (n : F p = none) (no : ¬ OwnS st.v σ ρ p) : Rel st σ H (upd F p o) ρ := by
  have le : Le F (upd F p o) := Le.upd n
  refine ⟨fun a u e => ?_, r.len, fun i a e => ?_, r.inj, r.sto.freeze le fun z => no (.inl z)⟩
  · by_cases h : a = p
    · rw [h, upd_same] at e
      rw [h, hp]
      exact e
    · rw [upd_ne h] at e
      exact r.fh _ _ e
  · have q := r.slot i a e
    cases a with
    | un => exact q
    | val d =>
      obtain ⟨v, h1, h2⟩ := q
      exact ⟨v, h1, h2.mono le⟩
    | loc n => exact q
    | own c =>
      obtain ⟨p', h1, h2, h3, h4⟩ := q
      refine ⟨p', h1, h2.mono le fun _ h => h, ?_, h4⟩
      rw [upd_ne (fun z => no (.inr ⟨i, c, e, by rw [h1, z]⟩))]
      exact h3
omit [WI] in
theorem getElem?_set_cases {α : Type} {l : List α} {i j : Nat} {a x : α} (h : (l.set i a)[j]? = some x) : (j = i ∧ x = a ∧ i < l.length) ∨ (j ≠ i ∧ l[j]? = some x) := by
  by_cases e : i = j
  · subst e
    by_cases hl : i < l.length
    · rw [List.getElem?_set_self hl] at h
      exact .inl ⟨rfl, (Option.some.inj h).symm, hl⟩
    · rw [List.getElem?_eq_none (by simpa using hl)] at h
      cases h
  · rw [List.getElem?_set_ne e] at h
    exact .inr ⟨fun z => e z.symm, h⟩
/-- a slot gets another description that holds no object -/
theorem Rel.slotSet {a : Slot} (r : Rel st σ H F ρ) (h : SlotOk F H ρ σ[i]? a) (na : ∀ c, a ≠ .own c) : Rel { st with v := st.v.set i a } σ H F ρ := by
  refine ⟨r.fh, by rw [r.len]; simp, fun j b e => ?_, fun j k c c' q e1 e2 => ?_, r.sto⟩
  · rcases getElem?_set_cases e with ⟨rfl, rfl, _⟩ | ⟨_, e⟩
    · exact h
    · exact r.slot j b e
  · rcases getElem?_set_cases e1 with ⟨_, z, _⟩ | ⟨_, e1⟩
    · exact absurd z.symm (na c)
    · rcases getElem?_set_cases e2 with ⟨_, z, _⟩ | ⟨_, e2⟩
      · exact absurd z.symm (na c')
      · exact r.inj j k c c' q e1 e2
omit [WI] in
theorem OwnS.set_sub {v : List Slot} {a : Slot} {q : Addr} (na : ∀ c, a ≠ .own c) (h : OwnS (v.set i a) σ ρ q) : OwnS v σ ρ q := by
  rcases h with h | ⟨j, c, e, e'⟩
  · exact .inl h
  · rcases getElem?_set_cases e with ⟨_, z, _⟩ | ⟨_, e⟩
    · exact absurd z.symm (na c)
    · exact .inr ⟨j, c, e, e'⟩
omit [WI] in
/-- the object of a slot that holds it no more -/
theorem OwnS.gone {v : List Slot} {a : Slot} {c : Cell} (r : ∀ (j : Nat) (c' : Cell), v[j]? = some (Slot.own c') → σ[j]? = some (some (.ref p)) → i = j) (np : p ∉ ρ) (na : ∀ c, a ≠ .own c) : ¬ OwnS (v.set i a) σ ρ p := fun h => by
  rcases h with h | ⟨j, c', e, e'⟩
  · exact np h
  · rcases getElem?_set_cases e with ⟨_, z, _⟩ | ⟨z, e⟩
    · exact absurd z.symm (na c')
    · exact z (r j c' e e').symm

/-- keeping a value -/
theorem keep_ok {st0 st1 : MP.St} {H0 F0 : Hp} {w : MP.W} (P : Pst st0 st σ ρ H0 F0 H F) (hw : RW st σ H F ρ v w) (fr : Fresh st0 σ ρ H0 v w) (h : keep w st = some (.ok d st1)) :
    ∃ F1, Pst st0 st1 σ ρ H0 F0 H F1 ∧ Rp F1 v d := by
  unfold keep at h
  split at h
  · cases h
    exact ⟨F, P, hw⟩
  · cases h
  · rename_i c
    cases h
    obtain ⟨p, rfl, hc, hn, ho⟩ := hw
    obtain ⟨o, ht, hx⟩ := hc.there
    have hr := P.rel.freeze ht hn ho
    refine ⟨upd F p o, ⟨hr, ⟨P.stp.fle.trans (Le.upd hn), P.stp.keep, fun a u u' e n h => ?_⟩, P.sub⟩, hc.rp (Le.upd hn) fun u hu => ?_⟩
    · by_cases ha : a = p
      · rcases fr p rfl with z | z
        · rw [ha, z] at h; cases h
        · rw [ha]; exact .inl z
      · rw [upd_ne ha] at e
        exact P.stp.new a u u' e n h
    · rw [ht] at hu
      rw [← hu, upd_same]
  · rename_i i
    have hw : σ[i]? = some (some v) := hw
    split at h
    · rename_i c hc
      cases h
      obtain ⟨p, e1, h2, h3, h4⟩ := P.rel.slot i _ hc
      rw [hw] at e1
      cases e1
      obtain ⟨o, ht, hx⟩ := h2.there
      have r1 : Rel { st with v := st.v.set i .un } σ H F ρ := P.rel.slotSet True.intro fun c z => by cases z
      have no : ¬ OwnS (st.v.set i .un) σ ρ p := OwnS.gone (c := c) (fun j c' e e' => P.rel.inj i j c c' p hc e hw e') h4 fun c z => by cases z
      have r2 := r1.freeze ht h3 no
      have rp : Rp (upd F p o) (.ref p) c.d := h2.rp (Le.upd h3) fun u hu => by
        rw [ht] at hu
        rw [← hu, upd_same]
      have r3 : Rel { st with v := (st.v.set i .un).set i (.val c.d) } σ H (upd F p o) ρ := r2.slotSet ⟨_, hw, rp⟩ fun c z => by cases z
      rw [List.set_set] at r3
      refine ⟨upd F p o, ⟨r3, ⟨P.stp.fle.trans (Le.upd h3), P.stp.keep, fun a u u' e n h => ?_⟩, fun a h => P.sub a (OwnS.set_sub (fun c z => by cases z) h)⟩, rp⟩
      by_cases ha : a = p
      · rcases P.sub p (.inr ⟨i, c, hc, hw⟩) with z | z
        · rw [ha]; exact .inl z
        · rw [ha, z] at h; cases h
      · rw [upd_ne ha] at e
        exact P.stp.new a u u' e n h
    · rename_i x hx
      cases h
      obtain ⟨u, h1, h2⟩ := P.rel.slot i _ hx
      rw [hw] at h1
      cases h1
      exact ⟨F, P, h2⟩
    · cases h
end
end MP
set_option maxHeartbeats 1000000
/-! MPsb: the operations by values. -/
namespace MP
open PySem L2 PySem.Spec PyProof.Rows
variable [WI]

/-- what a pure operation hands on -/
def Fin (st : MP.St) (σ : L2.St) (ρ : List Addr) (H F : Hp) (w : MP.W) (Q : VK) : Prop := ∀ v H' F', Pst st st σ ρ H F H' F' → RW st σ H' F' ρ v w → Fresh st σ ρ H v w → Q v H'
section
variable {st : MP.St} {σ : L2.St} {ρ : List Addr} {H F : Hp} {Q : VK}
/-- a value that stands in F -/
theorem Fin.rp {x : D} (rel : Rel st σ H F ρ) (fin : Fin st σ ρ H F (.d x) Q) {v : V} (r : Rp F v x) : Q v H := fin v H F (Pst.refl rel) r True.intro
/-- a new tuple -/
theorem Fin.tup {ds : List D} {vs : List V} (rel : Rel st σ H F ρ) (fin : Fin st σ ρ H F (.d (.tuple ds)) Q) (r : RpL F vs ds) : NewT vs Q H := fun t ob ht hn => by
  have p := Pst.newF (o := HO.frz ob (.tup vs)) rel ht
  exact fin _ _ _ p (.tup upd_same hn (r.mono p.stp.fle)) True.intro
/-- a new list -/
theorem Fin.lst {ds : List D} {vs : List V} (rel : Rel st σ H F ρ) (fin : Fin st σ ρ H F (.fr (.lst ds)) Q) (r : RpL F vs ds) {t : Addr} (ht : H t = none) : Q (.ref t) (upd H t (.lst vs)) := by
  have p := Pst.newO (o := HO.lst vs) rel ht
  refine fin _ _ _ p ⟨t, rfl, ⟨vs, upd_same, r⟩, ?_, ?_⟩ fun q e => by
    cases e
    exact .inl ht
  · cases q : F t with
    | none => rfl
    | some u => rw [rel.fh _ _ q] at ht; cases ht
  · exact not_own_new rel ht
end
omit [WI] in
theorem lim_line {n : Nat} (h : n ≤ LIM) : n ≤ sizeLine := Nat.le_trans h (by decide)
omit [WI] in
theorem lim_lt {n : Nat} (h : n < LIM) : n < sizeLine := Nat.lt_of_lt_of_le h (by decide)
omit [WI] in
theorem cmul64 {i j : Int} (h : i.natAbs < 2 ^ 64 ∨ j.natAbs < 2 ^ 64) : CMul i j := by
  unfold CMul
  rcases h with h | h
  · left; omega
  · right; omega

section
variable {X : Cx} {st : MP.St} {σ : L2.St} {ρ : List Addr} {H F : Hp} {Q : VK} {x y : V} {p q : D} {w : MP.W}
theorem binD_ok {o : Operator} (rel : Rel st σ H F ρ) (hx : Vw F H x p) (hy : Vw F H y q) (h : binD o p q = some w) (fin : Fin st σ ρ H F w Q) : vOp X (binaryOp o) x y H Q := by
  unfold binD at h
  split at h
  · cases h
    cases hx.int; cases hy.int
    exact vOp_of op_add ⟨_, _, rfl, rfl, fin.rp rel (.int _)⟩
  · cases h
    cases hx.int; cases hy.int
    exact vOp_of op_sub ⟨_, _, rfl, rfl, fin.rp rel (.int _)⟩
  · split at h
    · rename_i hc
      cases h
      cases hx.int; cases hy.int
      rcases hc with hc | ⟨h1, h2⟩
      · exact vOp_of op_mul ⟨_, _, rfl, rfl, cmul64 hc, fin.rp rel (.int _)⟩
      · exact vOp_of op_mulW ⟨_, _, rfl, rfl, wide_mul h1 h2 (by decide) (by decide) (by decide), fin.rp rel (.int _)⟩
    · cases h
  · split at h
    · rename_i hc
      cases h
      cases hx.int; cases hy.int
      exact vOp_of op_fdiv ⟨_, _, rfl, rfl, hc, fin.rp rel (.int _)⟩
    · cases h
  · split at h
    · rename_i hc
      cases h
      cases hx.int; cases hy.int
      exact vOp_of op_mod ⟨_, _, rfl, rfl, hc, fin.rp rel (.int _)⟩
    · cases h
  · split at h
    · rename_i hc
      cases h
      cases hx.int; cases hy.int
      exact vOp_of op_pow ⟨_, _, rfl, rfl, ⟨hc.1, Int.le_trans hc.2.1 (by decide), hc.2.2⟩, fin.rp rel (.int _)⟩
    · cases h
  · split at h
    · rename_i hc
      cases h
      obtain ⟨a, oa, xs, rfl, ha, hfa, hna, rx⟩ := hx.tup rel.fh
      obtain ⟨b, ob, ys, rfl, hb, hfb, hnb, ry⟩ := hy.tup rel.fh
      refine vOp_of op_catF ⟨a, b, xs, ys, rfl, rfl, .ofF ha, .ofF hb, ?_, fun e => ?_, fun _ e => ?_, fun _ _ => fin.tup rel (rx.append ry)⟩
      · rw [rx.length, ry.length]
        exact lim_line hc
      · subst e
        cases rx
        exact fin.rp rel (.tup hfb hnb ry)
      · subst e
        cases ry
        refine fin.rp rel (.tup hfa hna ?_)
        rw [List.append_nil]
        exact rx
    · cases h
  · split at h
    · rename_i hc
      cases h
      obtain ⟨a, xs, rfl, ha, rx⟩ := hx.lst rel.fh
      obtain ⟨b, ys, rfl, hb, ry⟩ := hy.lst rel.fh
      refine vOp_of op_cat ⟨a, b, xs, ys, rfl, rfl, ha, hb, ?_, fun t ht => fin.lst rel (rx.append ry) ht⟩
      rw [rx.length, ry.length]
      exact lim_line hc
    · cases h
  · split at h
    · rename_i hc
      cases h
      obtain ⟨a, xs, rfl, ha, rx⟩ := hx.lst rel.fh
      cases hy.int
      refine vOp_of op_rep ⟨a, _, xs, rfl, rfl, ha, by omega, by omega, ?_, fun t ht => fin.lst rel (rx.rep _) ht⟩
      rw [rx.length]
      exact lim_line hc.1
    · cases h
  · cases h

theorem flat_rp {v : V} {d : D} (f : flatD d = true) (r : Rp F v d) : flatV v = true := by
  cases r <;> first | rfl | cases f
theorem flat_vw {v : V} {d : D} (f : flatD d = true) (r : Vw F H v d) : Rp F v d := by
  cases r with
  | val r => exact r
  | cel r =>
    rename_i p c
    cases c <;> cases f
theorem flats_rp : ∀ {vs : List V} {ds : List D}, ds.all flatD = true → RpL F vs ds → vs.all flatV = true
  | _, _, _, .nil => rfl
  | _, _, f, .cons r rs => by
    rw [List.all_cons, Bool.and_eq_true] at f
    rw [List.all_cons, flat_rp f.1 r, flats_rp f.2 rs]
    rfl
theorem eqV_eqv {v u : V} {d e : D} (fd : flatD d = true) (fe : flatD e = true) (r : Rp F v d) (s : Rp F u e) : eqV v u = PyData.eqv d e := by
  cases r <;> first | (cases fd; done) | skip
  all_goals (cases s <;> first | (cases fe; done) | simp [eqV, PyData.eqv])
theorem inV_any {u : V} {e : D} (fe : flatD e = true) (s : Rp F u e) : ∀ {vs : List V} {ds : List D}, ds.all flatD = true → RpL F vs ds → inV u vs = ds.any fun z => PyData.eqv z e
  | _, _, _, .nil => rfl
  | _, _, f, .cons r rs => by
    rw [List.all_cons, Bool.and_eq_true] at f
    unfold inV
    rw [List.any_cons, List.any_cons, eqV_eqv f.1 fe r s]
    congr 1
    exact inV_any fe s f.2 rs
omit [WI] in
theorem bool_ite {b : Bool} {α : Type} {x y : α} : (if b = true then x else y) = if b then x else y := rfl

omit [WI] in
theorem asInt_some {d : D} {i : Int} (h : asInt d = some i) : d = .int i := by
  cases d <;> simp only [asInt] at h <;> first | (cases h; done) | (cases h; rfl)
theorem vw_ne_non {v : V} {d : D} (h : Vw F H v d) (n : d ≠ .none) : v ≠ .non := by
  intro e
  subst e
  cases h with
  | val r =>
    cases r
    exact n rfl
/-- a tuple that is a key, looked for in a dict -/
theorem tget_of {kd : D} {kvs : List (D × D)} (hw : X.w = WI.w) (rel : Rel st σ H F ρ) (hx : Vw F H x (.dict kvs)) (hy : Vw F H y kd) (hk : isTK kd = true) (hn : (∃ a es, x = .ref a ∧ H a = some (TDO WI.w a es)) ∨ kvs = []) :
    ∃ a o, x = .ref a ∧ TGet X.w H a y o ∧ (match lookD kd kvs with | some d => ∃ v, o = some v ∧ Rp F v d | none => o = none) := by
  obtain ⟨ds, rfl⟩ := (isTK_inv hk).2.2
  obtain ⟨b, ob, ys, rfl, hb, fb, hn', ry⟩ := hy.tup rel.fh
  have rk : Rp F (.ref b) (.tuple ds) := .tup fb hn' ry
  have nk := (Rp.nky rk (isTK_inv hk).1).mono rel.fh
  rcases hx.dic rel.fh with ⟨a, es, rfl, ha, rx⟩ | ⟨a, xs, rfl, ha, hne, rx⟩
  · rcases hn with ⟨a', es', e, ha'⟩ | rfl
    · cases e
      rcases ha with ha | ⟨_, ha⟩ <;> (rw [ha] at ha'; cases ha')
    · cases rx
      exact ⟨a, none, rfl, ⟨b, [], keyN (.tuple ds), rfl, .inr ⟨rfl, ha⟩, fun x h => (by cases h), nk, (isTK_inv hk).2.1, rfl⟩, rfl⟩
  · refine ⟨a, valT xs (keyN (.tuple ds)), rfl, ⟨b, xs, keyN (.tuple ds), rfl, .inl (by rw [hw]; exact ha), rx.keysOk rel.fh, nk, (isTK_inv hk).2.1, rfl⟩, ?_⟩
    exact rx.look hk
theorem tk_or {kvs : List (D × D)} (rel : Rel st σ H F ρ) (hx : Vw F H x (.dict kvs)) (h : allTK kvs = true) : (∃ a es, x = .ref a ∧ H a = some (TDO WI.w a es)) ∨ kvs = [] := by
  rcases hx.dic rel.fh with ⟨a, es, rfl, ha, rx⟩ | ⟨a, xs, rfl, ha, hne, rx⟩
  · exact .inr (rx.allTK h).1
  · exact .inl ⟨a, xs, rfl, ha⟩
omit [WI] in
theorem look_any {kd : D} : ∀ kvs : List (D × D), (lookD kd kvs).isSome = kvs.any fun kv => PyData.eqv kv.1 kd
  | [] => rfl
  | (a, b) :: r => by
    rw [List.any_cons]
    unfold lookD
    by_cases h : PyData.eqv a kd = true
    · rw [if_pos h, h]; rfl
    · rw [if_neg h, look_any r]
      simp [h]
theorem cmpD_ok {o : CmpOp} {t : Bool} (hw : X.w = WI.w) (hu : X.A.units + 64 < cLine) (rel : Rel st σ H F ρ) (hx : Vw F H x p) (hy : Vw F H y q) (h : cmpD o p q = some t) (fin : Q (.bl t) H) : vOp X (compareOp o) x y H Q := by
  unfold cmpD at h
  split at h
  · split at h
    · rename_i hc
      cases h
      rw [Bool.and_eq_true] at hc
      exact vOp_of (op_eqD hu) ⟨p, q, hx.dp rel.fh hc.1, hy.dp rel.fh hc.2, hc.1, hc.2, fin⟩
    · cases h
  · split at h
    · rename_i hc
      cases h
      rw [Bool.and_eq_true] at hc
      exact vOp_of (op_neD hu) ⟨p, q, hx.dp rel.fh hc.1, hy.dp rel.fh hc.2, hc.1, hc.2, fin⟩
    · cases h
  · simp only [Option.bind_eq_some_iff] at h
    obtain ⟨i, h1, j, h2, h3⟩ := h
    cases asInt_some h1; cases asInt_some h2
    cases hx.int; cases hy.int
    cases h3
    exact vOp_of op_lt ⟨_, _, rfl, rfl, fin⟩
  · simp only [Option.bind_eq_some_iff] at h
    obtain ⟨i, h1, j, h2, h3⟩ := h
    cases asInt_some h1; cases asInt_some h2
    cases hx.int; cases hy.int
    cases h3
    exact vOp_of op_le ⟨_, _, rfl, rfl, fin⟩
  · simp only [Option.bind_eq_some_iff] at h
    obtain ⟨i, h1, j, h2, h3⟩ := h
    cases asInt_some h1; cases asInt_some h2
    cases hx.int; cases hy.int
    cases h3
    exact vOp_of op_gt ⟨_, _, rfl, rfl, fin⟩
  · simp only [Option.bind_eq_some_iff] at h
    obtain ⟨i, h1, j, h2, h3⟩ := h
    cases asInt_some h1; cases asInt_some h2
    cases hx.int; cases hy.int
    cases h3
    exact vOp_of op_ge ⟨_, _, rfl, rfl, fin⟩
  · split at h
    · rename_i kvs
      split at h
      · rename_i hc
        cases h
        rw [Bool.and_eq_true] at hc
        obtain ⟨a, o, rfl, g, L⟩ := tget_of hw rel hy hx hc.1 (tk_or rel hy hc.2)
        refine vOp_of (op_tin hu) ⟨a, o, _, rfl, rfl, g, ?_⟩
        have e : o.isSome = kvs.any fun kv => PyData.eqv kv.1 p := by
          rw [← look_any]
          cases hl : lookD p kvs with
          | none => rw [hl] at L; rw [show o = none from L]; rfl
          | some d =>
            rw [hl] at L
            obtain ⟨v, e, _⟩ := (show ∃ v, o = some v ∧ Rp F v d from L)
            rw [e]; rfl
        rw [e]
        exact fin
      · cases h
    simp only [Option.bind_eq_some_iff] at h
    obtain ⟨ys, h1, h2⟩ := h
    split at h2
    · rename_i hc
      cases h2
      rw [Bool.and_eq_true] at hc
      obtain ⟨a, xs, rfl, ha, rx⟩ := hy.items rel.fh h1
      have fx := flat_vw hc.1 hx
      refine vOp_of op_in_seq ⟨a, xs, rfl, ha.imp .of (fun ⟨_, h⟩ => .ofF h), flat_rp hc.1 fx, flats_rp hc.2 rx, ?_⟩
      rw [if_neg (by decide), inV_any hc.1 fx hc.2 rx]
      exact fin
    · cases h2
  · split at h
    · rename_i kvs
      split at h
      · rename_i hc
        cases h
        rw [Bool.and_eq_true] at hc
        obtain ⟨a, o, rfl, g, L⟩ := tget_of hw rel hy hx hc.1 (tk_or rel hy hc.2)
        refine vOp_of (op_tnotin hu) ⟨a, o, _, rfl, rfl, g, ?_⟩
        have e : o.isSome = kvs.any fun kv => PyData.eqv kv.1 p := by
          rw [← look_any]
          cases hl : lookD p kvs with
          | none => rw [hl] at L; rw [show o = none from L]; rfl
          | some d =>
            rw [hl] at L
            obtain ⟨v, e, _⟩ := (show ∃ v, o = some v ∧ Rp F v d from L)
            rw [e]; rfl
        rw [e]
        exact fin
      · cases h
    simp only [Option.bind_eq_some_iff] at h
    obtain ⟨ys, h1, h2⟩ := h
    split at h2
    · rename_i hc
      cases h2
      rw [Bool.and_eq_true] at hc
      obtain ⟨a, xs, rfl, ha, rx⟩ := hy.items rel.fh h1
      have fx := flat_vw hc.1 hx
      refine vOp_of op_notIn_seq ⟨a, xs, rfl, ha.imp .of (fun ⟨_, h⟩ => .ofF h), flat_rp hc.1 fx, flats_rp hc.2 rx, ?_⟩
      rw [if_pos rfl, inV_any hc.1 fx hc.2 rx]
      exact fin
    · cases h2
  · split at h
    · cases h
      cases hx.bl; cases hy.bl
      exact vOp_of op_isBl ⟨_, _, rfl, rfl, fin⟩
    · cases h
      cases hx.non; cases hy.non
      exact vOp_of op_isN ⟨rfl, by rw [decide_eq_true rfl]; exact fin⟩
    · cases h
    · rename_i n1 n2 n3
      cases h
      cases hy.non
      refine vOp_of op_isN ⟨rfl, ?_⟩
      rw [decide_eq_false (vw_ne_non hx fun e => by
        subst e
        exact n2 rfl)]
      exact fin
    · cases h
  · split at h
    · cases h
      cases hx.bl; cases hy.bl
      exact vOp_of op_notBl ⟨_, _, rfl, rfl, fin⟩
    · cases h
      cases hx.non; cases hy.non
      exact vOp_of op_notN ⟨rfl, by rw [decide_eq_true rfl]; exact fin⟩
    · cases h
    · rename_i n1 n2 n3
      cases h
      cases hy.non
      refine vOp_of op_notN ⟨rfl, ?_⟩
      rw [decide_eq_false (vw_ne_non hx fun e => by
        subst e
        exact n2 rfl)]
      exact fin
    · cases h
end
end MP
set_option maxHeartbeats 2000000
/-! MPsc: t[::-1] of a tuple; t.index of flat items. -/
namespace MP
open PySem L2 PySem.Spec PyProof.Rows
section
variable {prog : Program} {w : World} {A : Around} {E : Value → Shared → Prop} {s : Shared}
theorem places_rev (n : Nat) : Builtin.Slice.slicePlaces ((n : Int) - 1) (-1) (-1) = n := by
  unfold Builtin.Slice.slicePlaces
  rw [if_neg (by decide)]
  split
  · show (((n : Int) - 1 - -1 - 1) / 1 + 1).toNat = n
    rw [Int.ediv_one]
    omega
  · show (0 : Int).toNat = n
    omega
theorem sliceApplied_rev {sl : Addr} {vs : Value} {n : Nat} {Q : Int × Int × Nat → Shared → Prop} (hs : s.heap.IsSliceOf sl .none .none vs) (ps : IsPart vs (some (-1)))
    (h : Q ((n : Int) - 1, -1, n) s) : wpAny (model prog w) A (Builtin.Slice.sliceApplied (.ref sl) (pure (n : Int))) Q E s := by
  obtain ⟨os, hos, hcs, hds⟩ := id hs
  unfold Builtin.Slice.sliceApplied Builtin.Slice.sliceFields
  refine wpAny_bind (wpAny_bind (wpAny_field hos hds (x := .none) rfl (wpAny_bind (wpAny_field hos hds (x := .none) rfl (wpAny_bind (wpAny_field hos hds (x := vs) rfl (wpAny_pure ?_)))))))
  refine wpAny_bind (HT.slicePart_ ps ?_)
  show wpAny _ _ (if ((-1 : Int) == 0) = true then _ else _) _ _ s
  rw [if_neg (by decide)]
  refine wpAny_bind (HT.slicePart_ .none (wpAny_bind (HT.slicePart_ .none (wpAny_bind (wpAny_pure ?_)))))
  show wpAny _ _ (pure ((n : Int) - 1, (-1 : Int), Builtin.Slice.slicePlaces ((n : Int) - 1) (-1) (-1))) _ _ s
  rw [places_rev]
  exact wpAny_pure h
theorem filterMap_some {α β : Type} (f : α → Option β) (g : α → β) : ∀ (l : List α), (∀ x ∈ l, f x = some (g x)) → l.filterMap f = l.map g
  | [], _ => rfl
  | x :: l, h => by
    rw [List.filterMap_cons, h x (List.mem_cons_self ..), List.map_cons]
    show g x :: l.filterMap f = _
    rw [filterMap_some f g l fun y hy => h y (List.mem_cons_of_mem _ hy)]
theorem pick_rev (xs : Array Value) : ((List.range xs.size).filterMap fun (m : Nat) => xs[(((xs.size : Nat) : Int) - 1 + (m : Int) * -1).toNat]?).toArray = xs.toList.reverse.toArray := by
  congr 1
  rw [filterMap_some _ (fun m => xs.toList.reverse.getD m .none) _ (fun m hm => by
    have hm' : m < xs.size := List.mem_range.mp hm
    have hr : m < xs.toList.reverse.length := by simpa using hm'
    have e1 : (((xs.size : Nat) : Int) - 1 + (m : Int) * -1).toNat = xs.size - 1 - m := by omega
    rw [e1, Array.getElem?_eq_getElem (by omega)]
    congr 1
    rw [List.getD_eq_getElem?_getD, List.getElem?_eq_getElem hr]
    show _ = xs.toList.reverse[m]
    rw [List.getElem_reverse]
    simp)]
  apply List.ext_getElem
  · simp
  · intro i h1 h2
    simp only [List.getElem_map, List.getElem_range, List.getD_eq_getElem?_getD]
    rw [List.getElem?_eq_getElem h2]
    rfl
theorem getItem_tuple_rev {t sl : Addr} {items : Array Value} {vs : Value} {Q : Value → Shared → Prop} (ht : IsTup s.heap t items) (hs : s.heap.IsSliceOf sl .none .none vs) (ps : IsPart vs (some (-1)))
    (h : Q (.ref s.heap.objs.size) { s with heap := s.heap.push { cls := .type "tuple", data := .seq items.toList.reverse.toArray } })
    (hsz : items.size ≤ sizeLine) : wpAny (model prog w) A (getItem (.ref t) (.ref sl)) Q E s := by
  have htake : sizeOk (.seq items.toList.reverse.toArray) := by
    show items.toList.reverse.toArray.size ≤ sizeLine
    simpa using hsz
  obtain ⟨os, hos, hcs, hds⟩ := id hs
  have hTs : s.TypeIs (.ref sl) "slice" := ⟨os, hos, hcs⟩
  unfold getItem
  try with_reducible refine wpAny_holding ?_
  first | refine wpAny_bind (wpAny_pure ?_) | skip
  refine wpAny_bind (wpAny_sequenceKey ht.typeIs (by decide) ?_)
  refine wpAny_bind (wpAny_callSpecial?_slot (name := Str.ofString "__getitem__") ht.typeIs PyProof.Rows.slot_tuple_getitem
    (wpAny_call_entry PyProof.Rows.slot_tuple_getitem ht.typeIs entry_tuple_getitem ?_ (args_tuple_getitem _ _)))
  show wpAny _ _ (Builtin.Tuple.tupleItemsOf (.ref t) >>= _) _ _ s
  refine wpAny_bind (tupleItemsOf_ ht ?_)
  refine wpAny_bind (wpAny_typeOf hTs ?_)
  rw [if_pos (by decide)]
  refine wpAny_bind (sliceApplied_rev hs ps ?_)
  show wpAny _ _ (if ((((items.size : Nat) : Int) - 1) == 0 && (-1 : Int) == 1 && items.size == items.size) = true then _ else _) _ _ s
  rw [if_neg (by
    intro q
    rw [Bool.and_eq_true, Bool.and_eq_true] at q
    exact absurd q.1.2 (by decide)), pick_rev]
  first
    | exact wpAny_bind (m := Builtin.Tuple.tupleExact _) (wpAny_newObj_type (wpAny_pure ⟨_, rfl, wpAny_pure h⟩) htake)
    | exact wpAny_bind (m := Builtin.Tuple.tupleExact _) (wpAny_newObj_type (wpAny_bind (wpAny_pure (wpAny_pure ⟨_, rfl, wpAny_pure h⟩))) htake)
    | exact wpAny_bind (wpAny_bind (m := Builtin.Tuple.tupleExact _) (wpAny_newObj_type (wpAny_pure (wpAny_pure ⟨_, rfl, wpAny_pure h⟩)) htake))
    | exact wpAny_bind (wpAny_bind (m := Builtin.Tuple.tupleExact _) (wpAny_newObj_type (wpAny_pure ⟨_, rfl, wpAny_pure h⟩) htake))
end
section
variable {X : Cx}
/-- x[::-1], a list or a tuple -/
def tRevA (K : PySem.W.Frag) (te : TE) : TE := fun σ H Q => te σ H fun x H1 => ∃ a xs, x = .ref a ∧ ((SqL K H1 a xs ∧ ∀ p, H1 p = none → Q (.ref p) (upd H1 p (.lst xs.reverse))) ∨ (SqT K H1 a xs ∧ NewT xs.reverse Q H1))
theorem pe_revA {e : Expr} {te : TE} {k : Nat} {p1 p2 p3 pos : Pos} (he : PE X e te) : PE X (.Subscript e (.Slice none none (some (.UnaryOp .USub (.Constant (.int 1) k p1) p2)) p3) pos) (tRevA X.K te) := by
  refine ⟨fun pins s σ H Q I h => ?_⟩
  refine Subscript_ (thn (he.run pins s σ H _ I h) fun v s1 ⟨x, H1, I1, r1, q1⟩ => ?_)
  obtain ⟨a, xs, ex, q⟩ := q1
  subst ex
  cases r1
  have hst : PO X (some (.UnaryOp .USub (.Constant (.int 1) k p1) p2)) (tPart (tUn (rU fun i => .int (-i)) (tC (.int 1)))) := po_some (pe_un un_neg pe_int)
  refine wpAny_Slice (thn (po_none.run pins s1 σ H1 (fun o H2 => o = none ∧ H2 = H1) I1 ⟨rfl, rfl⟩) fun vl s2 ⟨l, H2, I2, pl, el, e2⟩ => ?_)
  subst el e2
  refine thn (po_none.run pins s2 σ H2 (fun o H3 => o = none ∧ H3 = H2) I2 ⟨rfl, rfl⟩) fun vu s3 ⟨u, H3, I3, pu, eu, e3⟩ => ?_
  subst eu e3
  refine thn (hst.run pins s3 σ H3 (fun o H4 => o = some (-1) ∧ H4 = H3) I3 ⟨1, rfl, -1, rfl, rfl, rfl⟩) fun vs s4 ⟨o, H4, I4, ps, eo, e4⟩ => ?_
  subst eo e4
  have I5 : Inv X pins σ H4 { s4 with heap := s4.heap.push { cls := .type "slice", data := .fields #[vl, vu, vs] } } := I4.kept (t' := s4.toks) fun b ob q => Heap.get?_push_of_some _ q
  show wpAny (model X.prog X.w) X.A (subscriptTail e (.Slice none none (some (.UnaryOp .USub (.Constant (.int 1) k p1) p2)) p3) (.ref a) (.ref s4.heap.objs.size)) (EP X pins σ Q) X.xe { s4 with heap := s4.heap.push { cls := .type "slice", data := .fields #[vl, vu, vs] } }
  rcases q with ⟨hx, q⟩ | ⟨hx, q⟩
  · obtain ⟨its, r, ht, hz⟩ := I5.list hx
    have hlen := r.length
    refine tail_any (ops := [.ref a, .ref s4.heap.objs.size]) ht.isList.typeIs (PySem.slot_list_getitem.lookup) ?_ (by with_unfolding_all rfl)
    refine wpAny_getItem_list_slice ht.isList (Heap.IsSliceOf.new _ vl vu vs) pl pu ps (by decide) ?_ (by rw [List.size_toArray]; omega)
    rw [PySem.W.krv_pick]
    refine ⟨.ref _, _, I5.laid (t' := s4.toks) (o := .lst xs.reverse) (fun b ob q => Heap.get?_push_of_some _ q) (Nat.le_refl _) ?_, rfl, q _ (I5.hok.fresh (Nat.le_refl _))⟩
    exact ⟨by rw [List.length_reverse]; exact hz, _, 0, r.reverse, Heap.get?_push_size _ rfl⟩
  · obtain ⟨its, r, ht, hz⟩ := I5.tuple hx
    have hlen := r.length
    cases pl
    cases pu
    refine tail_any (ops := [.ref a, .ref s4.heap.objs.size]) ht.typeIs (PyProof.Rows.slot_tuple_getitem.lookup) ?_ (by with_unfolding_all rfl)
    refine getItem_tuple_rev ht (Heap.IsSliceOf.new _ .none .none vs) ps ?_ (by rw [List.size_toArray]; omega)
    exact newT_ep I5 (by rw [List.length_reverse]; exact hz) r.reverse q
/-- t.index(x), flat items, the first place -/
def rTIndex (K : PySem.W.Frag) : V → List V → Hp → VK → Prop := fun x xs H Q => ∃ (a : Addr) (ys : List V) (y : V) (j : Nat) (z : V), x = V.ref a ∧ xs = [y] ∧ SqT K H a ys ∧ flatV y = true ∧ ys.all flatV = true ∧ ys[j]? = some z ∧ eqV z y = true ∧ (∀ m z', m < j → ys[m]? = some z' → eqV z' y = false) ∧ Q (.int (j : Nat)) H
theorem mt_tindex : MtR X "tuple.index" (rTIndex X.K) := by
  intro pins s σ H x xs v us Q I rx rs h
  obtain ⟨p, ys, y, j, z, rfl, rfl, hq, fy, fys, hy, hz1, hno, q⟩ := h
  cases rx
  obtain ⟨u, rfl, ru⟩ := vals1 rs
  obtain ⟨its, r, pl, hz⟩ := I.tuple hq
  obtain ⟨⟨cls, dd, dt, sl⟩, ho, hc, n, hd⟩ := pl
  simp only at hc hd
  subst hc
  subst hd
  have hl : its.toArray.size = ys.length := by rw [List.size_toArray, ← r.length]
  have hj : j < its.toArray.size := by rw [hl]; exact (List.getElem?_eq_some_iff.mp hy).1
  have at' : ∀ (m : Nat) (hm : m < its.toArray.size), ∃ x', ys[m]? = some x' ∧ RelV x' its.toArray[m] := fun m hm => by
    have hm' : m < ys.length := by rw [← hl]; exact hm
    obtain ⟨w', hw, hw'⟩ := r.get (i := m) (x := ys[m]) (by simp [hm'])
    refine ⟨ys[m], List.getElem?_eq_getElem hm', ?_⟩
    have e := (List.getElem?_eq_some_iff.mp hw).2
    rw [← e] at hw'
    simpa using hw'
  refine call_meets PySem.F.slot_tuple_index ⟨_, ho, rfl⟩ PySem.F.entry_tuple_index (PySem.F.args_tuple_index_2 _ _) (TI.tuple_indexAt p its.toArray n dd sl u (eqU y) j hj ?_ ?_)
    ⟨ho, fun w hw => mem_eqAt (x := y) ru fy r fys w (by simpa using hw), ⟨.int (j : Nat), H, I.tok _, ⟨_, rfl⟩, q⟩⟩
  · obtain ⟨x', h1, h2⟩ := at' j hj
    rw [hy] at h1
    cases h1
    rw [eqU_of h2 (flat_at fys hy)]
    exact hz1
  · intro m hm hmj
    obtain ⟨x', h1, h2⟩ := at' m hm
    rw [eqU_of h2 (flat_at fys h1)]
    exact hno m x' hmj h1
/-- t.index(x): data of any depth -/
def rTIndexD (K : PySem.W.Frag) : V → List V → Hp → VK → Prop := fun x xs H Q => ∃ (a : Addr) (y : V) (d : PyData) (ds : List PyData) (j : Nat) (z : PyData), x = V.ref a ∧ xs = [y] ∧ Dp K H (V.ref a) (.tuple ds) ∧ Dp K H y d ∧
  SeqAt.shaped (.tuple ds) = true ∧ SeqAt.shaped d = true ∧ ds[j]? = some z ∧ PyData.eqv z d = true ∧ (∀ (m : Nat) (z' : PyData), m < j → ds[m]? = some z' → PyData.eqv z' d = false) ∧ Q (.int (j : Nat)) H
theorem mt_tindexD (hu : X.A.units + 65 < cLine) : MtR X "tuple.index" (rTIndexD X.K) := by
  intro pins s σ H x xs v us Q I rx rxs h
  obtain ⟨a, y, d, ds, j, z, rfl, rfl, hl, hy, sl, sd, hz, hzj, hno, q⟩ := h
  cases rx
  cases rxs with
  | cons ry rt =>
    rename_i uy ut
    cases rt
    obtain ⟨bs, r1⟩ := Dp.reads I d y uy hy ry
    have hxs : PyData.canLayAll0 ds = true := SeqAt.canLay_of_shaped (d := .tuple ds) sl
    have hroom : X.A.units + 1 + min (PyData.depthAll ds) d.depth < cLine := room_in_shaped sd hu
    cases hl with
    | tup hs ha =>
      obtain ⟨its, rv, ⟨⟨cls, dd, data, sls⟩, ho, hc, n, hdt⟩, hlen⟩ := I.tuple hs
      simp only at hc hdt
      subst hc hdt
      obtain ⟨as, h4⟩ := Dp.readsAll I ds _ its ha rv
      have hn : its.length = ds.length := SeqAt.ReadsAll.length ds its as h4
      have hmap : its.map (SeqAt.readOf s.heap) = ds := SeqAt.readsAll_map ds its as hxs h4
      have hvl := rv.length
      obtain ⟨hjd, _⟩ := List.getElem?_eq_some_iff.mp hz
      have hjl : j < its.length := by omega
      have hj : j < its.toArray.size := by simpa using hjl
      have at_ : ∀ (m : Nat) (hm : m < its.toArray.size) (z' : PyData), ds[m]? = some z' → SeqAt.readOf s.heap its.toArray[m] = z' := by
        intro m hm z' hz'
        have hml : m < its.length := by simpa using hm
        rw [← hmap, List.getElem?_map, List.getElem?_eq_getElem hml] at hz'
        have e1 : SeqAt.readOf s.heap its[m] = z' := Option.some.inj (show some (SeqAt.readOf s.heap its[m]) = some z' from hz')
        simpa using e1
      refine call_meets PySem.F.slot_tuple_index ⟨_, ho, rfl⟩ PySem.F.entry_tuple_index (PySem.F.args_tuple_index_2 _ _)
        (TI.tuple_indexAt a its.toArray n dd sls uy (fun u => PyData.eqv (SeqAt.readOf s.heap u) d) j hj ?_ ?_) ⟨ho, SeqAt.items_eqAt (vs := its.toArray) (show ReadsAll s.heap its.toArray.toList ds as from h4) r1 hxs (SeqAt.canLay_of_shaped sd) hroom, ?_⟩
      · show PyData.eqv (SeqAt.readOf s.heap its.toArray[j]) d = true
        rw [at_ j hj z hz]
        exact hzj
      · intro m hm hmj
        have hmd : m < ds.length := by omega
        have hz' : ds[m]? = some ds[m] := List.getElem?_eq_getElem hmd
        show PyData.eqv (SeqAt.readOf s.heap its.toArray[m]) d = false
        rw [at_ m hm _ hz']
        exact hno m _ hmj hz'
      · exact ⟨.int (j : Nat), H, I.tok _, ⟨_, rfl⟩, q⟩
end
end MP
set_option maxHeartbeats 2000000
/-! MPsd: built-in functions, subscripts, slices, methods by values. -/
namespace MP
open PySem L2 PySem.Spec PyProof.Rows
variable [WI]

/-! ### sorted of a tuple -/
section
variable {prog : Program} {w : World} {A : Around} {E : Value → Shared → Prop} {s : Shared}
omit [WI] in
theorem collect_tup {l : Addr} {vs : List Value} {Q : List Value → Shared → Prop} (hl : IsTup s.heap l vs.toArray)
    (h : Q vs { s with heap := (s.heap.push (seqObj "list" #[] 0)).update s.heap.objs.size (Obj.mapSeq (· ++ vs.toArray)) }) (hsz : vs.length ≤ sizeLine) :
    wpAny (model prog w) A (collect (.ref l)) Q E s := by
  obtain ⟨o, ho, hc, n, hd⟩ := id hl
  unfold collect
  refine wpAny_bind (wpAny_runValue (codeAny_builtin entry_proto_collect' ?_))
  show wpAny _ _ (do again (.builtin "list.__iadd__" ⟨[← newList [], .ref l], []⟩)) _ _ s
  refine wpAny_bind (wpAny_newList (wpAny_pure ⟨Code.quiet_builtin _ (by decide +kernel), codeAny_builtin entry_list_iadd' ?_⟩))
  show wpAny _ _ (Builtin.List.listExtendWith (.ref s.heap.objs.size) (.ref l) (.ref s.heap.objs.size)) _ _ { s with heap := s.heap.push (seqObj "list" #[] 0) }
  unfold Builtin.List.listExtendWith
  have ho' : (s.heap.push (seqObj "list" #[] 0)).get? l = some o := Heap.get?_push_of_some _ ho
  refine wpAny_bind (wpAny_typeOf (T := "tuple") ⟨o, ho', hc⟩ ?_)
  have ht : (Value.type "tuple" == Value.type "tuple") = true := by rfl
  rw [if_pos (by rw [ht]; simp)]
  refine wpAny_bind (listItems_at ho' hd ?_)
  refine wpAny_bind (listItems_at (xs := #[]) (n := 0) (Heap.get?_push_size _ rfl) rfl ?_)
  rw [if_neg (by simp)]
  refine wpAny_bind (listUpdate_at (xs := #[]) (n := 0) (Heap.get?_push_size _ rfl) rfl ?_ (Nat.zero_le _) (by show (#[] ++ vs.toArray).size ≤ sizeLine + 1; simp only [Array.size_append, List.size_toArray, List.length_nil]; omega))
  refine wpAny_pure ?_
  show wpAny (model prog w) A (do
      let o ← load s.heap.objs.size
      match o.data with
      | .seq xs _ => pure xs.toList
      | _ => unsupported "internal:collect") Q E { s with heap := (s.heap.push (seqObj "list" #[] 0)).update s.heap.objs.size (Obj.mapSeq (· ++ vs.toArray)) }
  refine wpAny_bind (wpAny_load (get?_update_seq (Heap.get?_push_size _ rfl) _) ?_)
  show wpAny _ _ (pure ((#[] : Array Value) ++ vs.toArray).toList) Q E _
  rw [show ((#[] : Array Value) ++ vs.toArray).toList = vs by simp]
  exact wpAny_pure h
open SrtO in
omit [WI] in
theorem sorted_ordT {l : Addr} {vs : List Value} {ltv : Value → Value → Bool} {Q : Value → Shared → Prop} (O : Swo ltv) (hl : IsTup s.heap l vs.toArray) (hz : vs.length ≤ sizeLine)
    (hS : 2 ≤ vs.length → ∀ (h₁ : Heap) (a : Addr), h₁.get? a = some (seqObj "list" vs.toArray 0) → (∀ b o, s.heap.get? b = some o → b ≠ a ∧ h₁.get? b = some o) → SortableO prog w A.in1.in1 { s with heap := h₁ } a vs ltv)
    (h : ∀ out : List Value, Srtd ltv out → Stb ltv out vs → Q (.ref (s.heap.objs.size + 1)) { s with heap := sortedAll s.heap vs out.toArray }) :
    wpAny (model prog w) A (call (.builtin "sorted") [.ref l]) Q E s := by
  refine Calls.call_function_entry kind_sorted plain_sorted entry_sorted (args_sorted1 _) ?_
  unfold Builtin.«sorted»
  refine wpAny_bind (m := checkCount "sorted" 1 1 _) (wpAny_pure ?_)
  refine wpAny_bind (collect_tup hl ?_ hz)
  refine wpAny_bind (wpAny_newList ?_ hz)
  have hsz : ((s.heap.push (seqObj "list" #[] 0)).update s.heap.objs.size (Obj.mapSeq (· ++ vs.toArray))).objs.size = s.heap.objs.size + 1 := by
    rw [Heap.size_update, size_push']
  have hoL : (((s.heap.push (seqObj "list" #[] 0)).update s.heap.objs.size (Obj.mapSeq (· ++ vs.toArray))).push (seqObj "list" vs.toArray 0)).get? (s.heap.objs.size + 1) = some (seqObj "list" vs.toArray 0) := by
    rw [← hsz]; exact Heap.get?_push_size _ rfl
  have keep : ∀ b o, s.heap.get? b = some o → b ≠ s.heap.objs.size + 1 ∧ (((s.heap.push (seqObj "list" #[] 0)).update s.heap.objs.size (Obj.mapSeq (· ++ vs.toArray))).push (seqObj "list" vs.toArray 0)).get? b = some o := fun b o q => by
    have hlt : b < s.heap.objs.size := Heap.lt_size q
    refine ⟨Nat.ne_of_lt (Nat.lt_succ_of_lt hlt), Heap.get?_push_of_some _ ?_⟩
    rw [Heap.get?_update_ne _ _ _ _ (Nat.ne_of_lt hlt)]
    exact Heap.get?_push_of_some _ q
  show wpAny _ _ _ _ _ { s with heap := ((s.heap.push (seqObj "list" #[] 0)).update s.heap.objs.size (Obj.mapSeq (· ++ vs.toArray))).push (seqObj "list" vs.toArray 0) }
  rw [hsz]
  refine wpAny_bind (wpAny_holding (wpAny_call_entry slot_list_sort ⟨_, hoL, rfl⟩ entry_list_sort (list_sort_ord O hoL hz (fun h2 => hS h2 _ _ hoL keep) fun out hs hb => ⟨_, rfl, ?_⟩) (args_list_sort _)))
  exact wpAny_pure ⟨_, rfl, h out hs hb⟩
end
/-- sorted(x), a list or a tuple of ints -/
def rSortedA (K : PySem.W.Frag) : List V → Hp → VK → Prop := fun vs H Q => ∃ (a : Addr) (ns : List Int), vs = [V.ref a] ∧ (SqL K H a (ns.map V.int) ∨ SqT K H a (ns.map V.int)) ∧
  ∀ (ns' : List Int) (p : Addr), ns'.Perm ns → ns'.Pairwise (· ≤ ·) → H p = none → Q (.ref p) (upd H p (.lst (ns'.map V.int)))
omit [WI] in
theorem cr_sortedA {X : Cx} : CallR X (.builtin "sorted") (rSortedA X.K) := by
  intro pins s σ H vs us Q I r h
  obtain ⟨a, ns, rfl, hs, q⟩ := h
  have fin : ∀ (its : List Value), Vals (ns.map V.int) its → its.length ≤ sizeLine → ∀ out : List Value, SrtO.Srtd SrtO.ltIv out → SrtO.Stb SrtO.ltIv out its → EP X pins σ Q (.ref (s.heap.objs.size + 1)) { s with heap := sortedAll s.heap its out.toArray } := fun its rv hz out h1 h2 => by
    have hi := rv.ints
    obtain ⟨k1, k2, k3⟩ := SrtO.ints_out hi h1 h2
    obtain ⟨ep, he'⟩ := PyProof.Rows.sortedAll_at s.heap its out.toArray
    have hlen : ((out.map SrtO.iv).map V.int).length ≤ sizeLine := by
      rw [List.length_map, k2.length_eq]
      rw [← rv.length, List.length_map] at hz
      exact hz
    exact ⟨.ref _, upd H (s.heap.objs.size + 1) (.lst ((out.map SrtO.iv).map V.int)), I.laid (t' := s.toks) (fun _ _ => PyProof.Rows.sortedAll_old) (Nat.le_succ _) ⟨hlen, out, ep, vals_of_ints k1, he'⟩, rfl, q _ _ k2 k3 (I.hok.fresh (Nat.le_succ _))⟩
  rcases hs with hs | hs
  · obtain ⟨its, rv, hl, hz⟩ := I.list hs
    rw [Vals.ref1 r]
    have hz' : its.length ≤ sizeLine := by rw [← rv.length]; exact hz
    exact SrtO.sorted_ord SrtO.swo_int hl.isList hz' (fun h2 h₁ a' _ _ => SrtO.ints_sortable rv.ints h2) (fin its rv hz')
  · obtain ⟨its, rv, hl, hz⟩ := I.tuple hs
    rw [Vals.ref1 r]
    have hz' : its.length ≤ sizeLine := by rw [← rv.length]; exact hz
    exact sorted_ordT SrtO.swo_int hl hz' (fun h2 h₁ a' _ _ => SrtO.ints_sortable rv.ints h2) (fin its rv hz')

/-! ### sorted lists -/
omit [WI] in
theorem ins_perm (x : Int) : ∀ ys : List Int, (ins x ys).Perm (x :: ys)
  | [] => .refl _
  | y :: ys => by
    unfold ins
    split
    · exact .refl _
    · exact ((ins_perm x ys).cons y).trans (.swap ..)
omit [WI] in
theorem isort_perm : ∀ xs : List Int, (isort xs).Perm xs
  | [] => .refl _
  | x :: xs => (ins_perm x (isort xs)).trans ((isort_perm xs).cons x)
omit [WI] in
theorem ins_sorted (x : Int) : ∀ ys : List Int, ys.Pairwise (· ≤ ·) → (ins x ys).Pairwise (· ≤ ·)
  | [], _ => List.pairwise_singleton ..
  | y :: ys, h => by
    have h' := List.pairwise_cons.mp h
    unfold ins
    split
    · rename_i hxy
      refine List.pairwise_cons.mpr ⟨fun z hz => ?_, h⟩
      rcases List.mem_cons.mp hz with rfl | hz
      · exact hxy
      · exact Int.le_trans hxy (h'.1 z hz)
    · rename_i hxy
      refine List.pairwise_cons.mpr ⟨fun z hz => ?_, ins_sorted x ys h'.2⟩
      rcases List.mem_cons.mp ((ins_perm x ys).mem_iff.mp hz) with rfl | hz
      · omega
      · exact h'.1 z hz
omit [WI] in
theorem isort_sorted : ∀ xs : List Int, (isort xs).Pairwise (· ≤ ·)
  | [] => List.Pairwise.nil
  | x :: xs => ins_sorted x _ (isort_sorted xs)
omit [WI] in
theorem sorted_unique : ∀ {xs ys : List Int}, xs.Perm ys → xs.Pairwise (· ≤ ·) → ys.Pairwise (· ≤ ·) → xs = ys
  | [], ys, p, _, _ => p.nil_eq
  | x :: xs, [], p, _, _ => absurd p.length_eq (by simp)
  | x :: xs, y :: ys, p, hx, hy => by
    have hx' := List.pairwise_cons.mp hx
    have hy' := List.pairwise_cons.mp hy
    have e : x = y := by
      have h1 : y ≤ x := by
        rcases List.mem_cons.mp (p.mem_iff.mp (List.mem_cons_self ..)) with z | z
        · omega
        · exact hy'.1 x z
      have h2 : x ≤ y := by
        rcases List.mem_cons.mp (p.mem_iff.mpr (List.mem_cons_self ..)) with z | z
        · omega
        · exact hx'.1 y z
      omega
    subst e
    rw [sorted_unique (List.Perm.cons_inv p) hx'.2 hy'.2]
omit [WI] in
theorem isort_eq {xs ys : List Int} (p : ys.Perm xs) (h : ys.Pairwise (· ≤ ·)) : ys = isort xs := sorted_unique (p.trans (isort_perm xs).symm) h (isort_sorted xs)
omit [WI] in
theorem foldl_max : ∀ (r : List Int) (n : Int), r.foldl max n ∈ n :: r ∧ ∀ y ∈ n :: r, y ≤ r.foldl max n
  | [], n => ⟨List.mem_cons_self .., fun y hy => by
    have := List.mem_singleton.mp hy
    subst this
    exact Int.le_refl _⟩
  | x :: r, n => by
    obtain ⟨h1, h2⟩ := foldl_max r (max n x)
    rw [List.foldl_cons]
    refine ⟨?_, fun y hy => ?_⟩
    · rcases List.mem_cons.mp h1 with e | e
      · rw [e]
        by_cases h : n ≤ x
        · rw [Int.max_eq_right h]; exact List.mem_cons_of_mem _ (List.mem_cons_self ..)
        · rw [Int.max_eq_left (by omega)]; exact List.mem_cons_self ..
      · exact List.mem_cons_of_mem _ (List.mem_cons_of_mem _ e)
    · have h3 := h2 (max n x) (List.mem_cons_self ..)
      rcases List.mem_cons.mp hy with rfl | hy
      · omega
      · rcases List.mem_cons.mp hy with rfl | hy
        · omega
        · exact h2 y (List.mem_cons_of_mem _ hy)
omit [WI] in
theorem foldl_min : ∀ (r : List Int) (n : Int), r.foldl min n ∈ n :: r ∧ ∀ y ∈ n :: r, r.foldl min n ≤ y
  | [], n => ⟨List.mem_cons_self .., fun y hy => by
    have := List.mem_singleton.mp hy
    subst this
    exact Int.le_refl _⟩
  | x :: r, n => by
    obtain ⟨h1, h2⟩ := foldl_min r (min n x)
    rw [List.foldl_cons]
    refine ⟨?_, fun y hy => ?_⟩
    · rcases List.mem_cons.mp h1 with e | e
      · rw [e]
        by_cases h : n ≤ x
        · rw [Int.min_eq_left h]; exact List.mem_cons_self ..
        · rw [Int.min_eq_right (by omega)]; exact List.mem_cons_of_mem _ (List.mem_cons_self ..)
      · exact List.mem_cons_of_mem _ (List.mem_cons_of_mem _ e)
    · have h3 := h2 (min n x) (List.mem_cons_self ..)
      rcases List.mem_cons.mp hy with rfl | hy
      · omega
      · rcases List.mem_cons.mp hy with rfl | hy
        · omega
        · exact h2 y (List.mem_cons_of_mem _ hy)

/-! ### calls of built-ins -/
section
variable {X : Cx}
def vCall (X : Cx) (f : Value) : List V → Hp → VK → Prop := fun xs H Q => ∀ (pins : List (Addr × Obj)) (s : Shared) (σ : L2.St) (us : List Value), Inv X pins σ H s → Vals xs us → wpAny (model X.prog X.w) X.A (call f us) (EP X pins σ Q) X.xe s
omit [WI] in
theorem call_self {f : Value} : CallR X f (vCall X f) := fun pins s σ H xs us Q I r h => h pins s σ us I r
omit [WI] in
theorem vCall_of {f : Value} {r : List V → Hp → VK → Prop} {xs : List V} {H : Hp} {Q : VK} (h : CallR X f r) (q : r xs H Q) : vCall X f xs H Q := fun pins s σ us I rx => h pins s σ H xs us Q I rx q
def bltVal : Blt → Value
  | .len => .builtin "len"
  | .sum => .builtin "sum"
  | .max => .builtin "max"
  | .min => .builtin "min"
  | .all => .builtin "all"
  | .sorted => .builtin "sorted"
  | .list => .type "list"
  | .tuple => .type "tuple"
  | .int => .type "int"
variable {st : MP.St} {σ : L2.St} {ρ : List Addr} {H F : Hp} {Q : VK} {x y : V} {p q : D} {w : MP.W}
theorem bltD_ok {f : Blt} (hc : X.calm = true) (rel : Rel st σ H F ρ) (hx : Vw F H x p) (h : bltD f p = some w) (fin : Fin st σ ρ H F w Q) : vCall X (bltVal f) [x] H Q := by
  unfold bltD at h
  split at h
  · simp only [Option.bind_eq_some_iff] at h
    obtain ⟨xs, h1, h2⟩ := h
    cases h2
    obtain ⟨a, ys, rfl, ha, rx⟩ := hx.items rel.fh h1
    refine vCall_of call_len_seq ⟨a, ys, rfl, ha.imp .of (fun ⟨_, h⟩ => .ofF h), ?_⟩
    rw [rx.length]
    exact fin.rp rel (.int _)
  · split at h
    · simp only [Option.bind_eq_some_iff] at h
      obtain ⟨ns, h1, h2⟩ := h
      cases h2
      obtain ⟨a, ys, rfl, ha, rx⟩ := hx.lst rel.fh
      rw [allInts_eq h1] at rx
      rw [rx.ofInts] at ha
      exact vCall_of (cr_sum hc) ⟨a, ns, rfl, .of ha, fin.rp rel (.int _)⟩
    · cases h
  · split at h
    · simp only [Option.bind_eq_some_iff] at h
      obtain ⟨ns, h1, h2⟩ := h
      split at h2
      · cases h2
      · rename_i n r
        cases h2
        obtain ⟨a, ys, rfl, ha, rx⟩ := hx.lst rel.fh
        rw [allInts_eq h1] at rx
        rw [rx.ofInts] at ha
        obtain ⟨m1, m2⟩ := foldl_max r n
        refine vCall_of (cr_max hc) ⟨a, n :: r, rfl, .of ha, by simp, fun m hm hle => ?_⟩
        have e : m = r.foldl max n := by
          have := hle _ m1
          have := m2 _ hm
          omega
        rw [e]
        exact fin.rp rel (.int _)
    · cases h
  · split at h
    · simp only [Option.bind_eq_some_iff] at h
      obtain ⟨ns, h1, h2⟩ := h
      split at h2
      · cases h2
      · rename_i n r
        cases h2
        obtain ⟨a, ys, rfl, ha, rx⟩ := hx.lst rel.fh
        rw [allInts_eq h1] at rx
        rw [rx.ofInts] at ha
        obtain ⟨m1, m2⟩ := foldl_min r n
        refine vCall_of (cr_min hc) ⟨a, n :: r, rfl, .of ha, by simp, fun m hm hle => ?_⟩
        have e : m = r.foldl min n := by
          have := hle _ m1
          have := m2 _ hm
          omega
        rw [e]
        exact fin.rp rel (.int _)
    · cases h
  · split at h
    · simp only [Option.bind_eq_some_iff] at h
      obtain ⟨bs, h1, h2⟩ := h
      cases h2
      obtain ⟨a, ys, rfl, ha, rx⟩ := hx.lst rel.fh
      rw [allBools_eq h1] at rx
      rw [rx.ofBools] at ha
      exact vCall_of (cr_all hc) ⟨a, bs, rfl, .of ha, fin.rp rel (.bl _)⟩
    · cases h
  · split at h
    · simp only [Option.bind_eq_some_iff] at h
      obtain ⟨ns, h1, h2⟩ := h
      cases h2
      obtain ⟨a, ys, rfl, ha, rx⟩ := hx.lst rel.fh
      rw [allInts_eq h1] at rx
      rw [rx.ofInts] at ha
      refine vCall_of cr_sortedA ⟨a, ns, rfl, .inl (.of ha), fun ns' t pm so ht => ?_⟩
      rw [isort_eq pm so]
      exact fin.lst rel (.ints _) ht
    · simp only [Option.bind_eq_some_iff] at h
      obtain ⟨ns, h1, h2⟩ := h
      cases h2
      obtain ⟨a, ob, ys, rfl, ha, _, _, rx⟩ := hx.tup rel.fh
      rw [allInts_eq h1] at rx
      rw [rx.ofInts] at ha
      refine vCall_of cr_sortedA ⟨a, ns, rfl, .inr (.ofF ha), fun ns' t pm so ht => ?_⟩
      rw [isort_eq pm so]
      exact fin.lst rel (.ints _) ht
    · simp only [Option.bind_eq_some_iff] at h
      obtain ⟨ns, h1, h2⟩ := h
      split at h2
      · rename_i h64
        cases h2
        rcases hx.dic rel.fh with ⟨a, ys, rfl, ha, rx⟩ | ⟨a, es, rfl, ha, hne, rx⟩
        case inr =>
          rw [(rx.noInts hne).2] at h1
          cases h1
        refine vCall_of (call_sortedDI hc) ⟨a, ys, ns, rfl, ha, rx.keys h1, h64, fun ns' t pm so ht => ?_⟩
        rw [isort_eq pm so]
        exact fin.lst rel (.ints _) ht
      · cases h2
    · cases h
  · simp only [Option.bind_eq_some_iff] at h
    obtain ⟨xs, h1, h2⟩ := h
    cases h2
    obtain ⟨a, ys, rfl, ha, rx⟩ := hx.items rel.fh h1
    exact vCall_of call_list_of ⟨a, ys, rfl, ha.imp .of (fun ⟨_, h⟩ => .ofF h), fun t ht => fin.lst rel rx ht⟩
  · simp only [Option.bind_eq_some_iff] at h
    obtain ⟨xs, h1, h2⟩ := h
    cases h2
    cases p with
    | list zs =>
      cases h1
      obtain ⟨a, ys, rfl, ha, rx⟩ := hx.lst rel.fh
      exact vCall_of call_tuple_ofF ⟨a, ys, rfl, .inl ⟨.of ha, fin.tup rel rx⟩⟩
    | tuple zs =>
      cases h1
      obtain ⟨a, ob, ys, rfl, ha, hfa, hn, rx⟩ := hx.tup rel.fh
      exact vCall_of call_tuple_ofF ⟨a, ys, rfl, .inr ⟨.ofF ha, fin.rp rel (.tup hfa hn rx)⟩⟩
    | none => cases h1
    | bool b => cases h1
    | int b => cases h1
    | str b => cases h1
    | dict b => cases h1
  · split at h
    · rename_i b
      cases h
      cases hx.bl
      refine vCall_of call_int1 (.inr ⟨b, rfl, ?_⟩)
      exact fin.rp rel (.int _)
    · cases h

/-! ### subscripts, slices -/
theorem atD_at {vs : List V} {ds : List D} {i : Int} {d : D} (r : RpL F vs ds) (h : atD ds i = some d) : ∃ v, atI vs i = some v ∧ Rp F v d := by
  unfold atD at h
  simp only [Option.bind_eq_some_iff] at h
  obtain ⟨j, h1, h2⟩ := h
  obtain ⟨v, h3, h4⟩ := r.get h2
  refine ⟨v, ?_, h4⟩
  unfold atI
  have e : ixN vs.length i = some j := by
    rw [r.length]
    exact h1
  rw [e]
  exact h3
def rIxA (K : PySem.W.Frag) : R2 := fun x y H Q => (rIxL K x y H Q ∨ rIxT K x y H Q) ∨ rIxDk x y H Q
omit [WI] in
theorem ix_any (hu : X.A.units + 1 < cLine) : IxR X (rIxA X.K) := (ix_list.or ix_tup).or (ix_dk hu)
def rIxB (X : Cx) : R2 := fun x y H Q => rIxA X.K x y H Q ∨ rIxT' (X := X) x y H Q
omit [WI] in
theorem ix_anyB (hu : X.A.units + 64 < cLine) : IxR X (rIxB X) := (ix_any (by omega)).or (ix_td hu)
theorem idxD_ok {d : D} (hw : X.w = WI.w) (rel : Rel st σ H F ρ) (hx : Vw F H x p) (hy : Vw F H y q) (h : idxD p q = some d) (fin : Fin st σ ρ H F (.d d) Q) : rIxB X x y H Q := by
  unfold idxD at h
  split at h
  · simp only [Option.bind_eq_some_iff] at h
    obtain ⟨i, h1, h2⟩ := h
    cases asInt_some h1
    cases hy.int
    obtain ⟨a, ys, rfl, ha, rx⟩ := hx.lst rel.fh
    obtain ⟨v, h3, h4⟩ := atD_at rx h2
    exact .inl (.inl (.inl ⟨a, ys, i, v, rfl, rfl, .of ha, h3, fin.rp rel h4⟩))
  · simp only [Option.bind_eq_some_iff] at h
    obtain ⟨i, h1, h2⟩ := h
    cases asInt_some h1
    cases hy.int
    obtain ⟨a, ob, ys, rfl, ha, _, _, rx⟩ := hx.tup rel.fh
    obtain ⟨v, h3, h4⟩ := atD_at rx h2
    exact .inl (.inl (.inr ⟨a, ys, i, v, rfl, rfl, .ofF ha, h3, fin.rp rel h4⟩))
  · rename_i kvs
    split at h
    · rename_i hk
      rcases Bool.or_eq_true_iff.mp hk with hk | hk
      · obtain ⟨i, rfl⟩ : ∃ i, q = .int i := by
          cases q <;> first | exact ⟨_, rfl⟩ | cases hk
        cases hy.int
        rcases hx.dic rel.fh with ⟨a, ys, rfl, ha, rx⟩ | ⟨a, es, rfl, ha, hne, rx⟩
        case inr =>
          rw [rx.lookI] at h
          cases h
        have L := rx.look (i := i)
        rw [h] at L
        obtain ⟨v, e1, e2⟩ := (show ∃ v, valV ys (.inl i) = some v ∧ Rp F v d from L)
        exact .inl (.inr ⟨a, v, rfl, .inl ⟨ys, .inl i, ha, rfl, e1.symm⟩, fin.rp rel e2⟩)
      · have hn : (∃ a es, x = .ref a ∧ H a = some (TDO WI.w a es)) ∨ kvs = [] := by
          rcases hx.dic rel.fh with ⟨a, ys, rfl, ha, rx⟩ | ⟨a, es, rfl, ha, hne, rx⟩
          · obtain ⟨ds, rfl⟩ := (isTK_inv hk).2.2
            rw [rx.lookT] at h
            cases h
          · exact .inl ⟨a, es, rfl, ha⟩
        obtain ⟨a, o, rfl, g, L⟩ := tget_of hw rel hx hy hk hn
        rw [h] at L
        obtain ⟨v, rfl, e2⟩ := (show ∃ v, o = some v ∧ Rp F v d from L)
        exact .inr ⟨a, v, _, rfl, rfl, g, fin.rp rel e2⟩
    · cases h
  · cases h
theorem cut_rp {vs : List V} {ds : List D} (r : RpL F vs ds) (lo hi : Option Int) : RpL F (cutV vs lo hi) (cutD ds lo hi) := by
  unfold cutV cutD
  rw [r.length]
  exact (r.drop _).take _
def rSlAny (K : PySem.W.Frag) : V → Option Int → Option Int → Hp → VK → Prop := fun x lo hi H Q => rSlL K x lo hi H Q ∨ rSlF K x lo hi H Q
omit [WI] in
theorem sl_any : SlR X (rSlAny X.K) := sl_list.or sl_tupF
theorem sliD_ok {lo hi : Option Int} (rel : Rel st σ H F ρ) (hx : Vw F H x p) (h : sliD p lo hi = some w) (fin : Fin st σ ρ H F w Q) : rSlAny X.K x lo hi H Q := by
  unfold sliD at h
  split at h
  · cases h
    obtain ⟨a, ys, rfl, ha, rx⟩ := hx.lst rel.fh
    exact .inl ⟨a, ys, rfl, .of ha, fun t ht => fin.lst rel (cut_rp rx lo hi) ht⟩
  · cases h
    obtain ⟨a, ob, ys, rfl, ha, hfa, hn, rx⟩ := hx.tup rel.fh
    refine .inr ⟨a, ys, rfl, .ofF ha, fun hw => ?_, fun _ => fin.tup rel (cut_rp rx lo hi)⟩
    have e : cutV ys lo hi = ys := by
      unfold cutV
      rw [hw.1, hw.2, List.drop_zero, Nat.sub_zero, List.take_length]
    refine fin.rp rel (.tup hfa hn ?_)
    have := cut_rp rx lo hi
    rw [e] at this
    exact this
  · cases h
theorem revD_ok (rel : Rel st σ H F ρ) (hx : Vw F H x p) (h : revD p = some w) (fin : Fin st σ ρ H F w Q) :
    ∃ a xs, x = .ref a ∧ ((SqL X.K H a xs ∧ ∀ p, H p = none → Q (.ref p) (upd H p (.lst xs.reverse))) ∨ (SqT X.K H a xs ∧ NewT xs.reverse Q H)) := by
  unfold revD at h
  split at h
  · cases h
    obtain ⟨a, ys, rfl, ha, rx⟩ := hx.lst rel.fh
    exact ⟨a, ys, rfl, .inl ⟨.of ha, fun t ht => fin.lst rel rx.reverse ht⟩⟩
  · cases h
    obtain ⟨a, ob, ys, rfl, ha, hfa, hn, rx⟩ := hx.tup rel.fh
    exact ⟨a, ys, rfl, .inr ⟨.ofF ha, fin.tup rel rx.reverse⟩⟩
  · cases h

/-! ### isinstance of built-in classes -/
theorem tyX_of {K : PySem.W.Frag} {t : String} (rel : Rel st σ H F ρ) (hx : Vw F H x p) (h : tyD p = some t) : TyX K H x (.type t) := by
  cases p with
  | none => cases h; cases hx.non; exact .base .non
  | bool b => cases h; cases hx.bl; exact .base (.bl _)
  | int b => cases h; cases hx.int; exact .base (.int _)
  | str b => cases h; cases hx.str; exact .base (.str _)
  | list xs =>
    cases h
    obtain ⟨a, ys, rfl, ha, rx⟩ := hx.lst rel.fh
    exact .base (.lst ha)
  | tuple xs =>
    cases h
    obtain ⟨a, ob, ys, rfl, ha, _, _, rx⟩ := hx.tup rel.fh
    exact .fTuple ha
  | dict b => cases h
end
end MP
set_option maxHeartbeats 2000000
/-! MPsk: sorted(d), d a dict keyed by tuples of whole numbers; the keys of such a dict. -/
namespace MP
open PySem L2 PySem.Spec PyProof.Rows
section
variable {X : Cx} {pins : List (Addr × Obj)} {σ : L2.St} {H : Hp} {s : Shared}
/-- a dict's keys, one after another: the walk over the dict as it stands -/
theorem td_keys {a : Addr} {xs : List TEn} (I : Inv X pins σ H s) (e : TDv X.w H a xs) (hk : KeysOk H xs) : ∃ (P : Nat → Value → Prop) (OK : Heap → Prop), PySem.W.KdlSrc X.prog X.w "dict" a a xs.length P OK ∧ OK s.heap ∧ xs.length ≤ sizeLine ∧
    ∀ acc : Array Value, ItemsOf P acc xs.length → acc.toList = xs.map fun x => Value.ref x.2.1 := by
  obtain ⟨z, lo, ys, rel, dd⟩ := td_full I e hk
  obtain ⟨o, es, ep, ho, hx, hdt, he, his, hn⟩ := id dd
  have l1 : es.size = ys.length := size_of_entries he
  have l2 : xs.length = ys.length := Paired.length rel
  have K := kdl_raw (prog := X.prog) (w := X.w) lo hx hdt
  rw [l1, ← l2] at K
  refine ⟨_, _, K, ho, z, fun acc it => ?_⟩
  have hl : acc.toList.length = xs.length := by rw [Array.length_toList, it.1]
  have e0 : ys.map (fun x => Value.ref x.2.1) = xs.map fun x => Value.ref x.2.1 := by
    clear hk e z dd he his hn l1 l2 hl it K
    induction rel with
    | nil => rfl
    | cons h t ih => rw [List.map_cons, List.map_cons, ih, h.2.1]
  rw [← e0]
  apply List.ext_getElem?
  intro j
  rw [List.getElem?_map]
  cases hj : acc.toList[j]? with
  | none =>
    have h1 := List.getElem?_eq_none_iff.mp hj
    rw [List.getElem?_eq_none (by omega)]
    all_goals rfl
  | some v =>
    obtain ⟨en, hen, hv⟩ := it.2 j v (by rw [← Array.getElem?_toList]; exact hj)
    have qe := entry_at he j
    rw [hen] at qe
    cases hb : ys[j]? with
    | none =>
      rw [hb] at qe
      exact nomatch (show some en = none from qe)
    | some b =>
      rw [hb] at qe
      have e2 : en = entryOfKey (nestedKind X.prog X.w) b := Option.some.inj qe
      rw [hv, e2]
      all_goals rfl
/-- sorted(d): the keys by an order that the sort can ask -/
theorem td_sorted {a : Addr} {xs : List TEn} {ltv : Value → Value → Bool} {Q : VK} (hcalm : X.calm = true) (I : Inv X pins σ H s) (e : TDv X.w H a xs) (hk : KeysOk H xs) (O : SrtO.Swo ltv)
    (hS : 2 ≤ xs.length → ∀ (A : Around) (s1 : Shared) (p : Addr), A.handled = none → s1.heap.get? p = some (seqObj "list" (xs.map fun x => Value.ref x.2.1).toArray 0) → (∀ b o, s.heap.get? b = some o → s1.heap.get? b = some o) → SrtO.SortableO X.prog X.w A s1 p (xs.map fun x => Value.ref x.2.1) ltv)
    (h : ∀ (out : List Value) (p : Addr), SrtO.Srtd ltv out → SrtO.Stb ltv out (xs.map fun x => Value.ref x.2.1) → H p = none → Q (.ref p) (upd H p (.lst (out.map backV)))) :
    wpAny (model X.prog X.w) X.A (call (.builtin "sorted") [.ref a]) (EP X pins σ Q) X.xe s := by
  obtain ⟨P, OK, K, hok, hz, hall⟩ := td_keys I e hk
  refine Calls.call_function_entry PyProof.Rows.kind_sorted PyProof.Rows.plain_sorted PyProof.Rows.entry_sorted (PyProof.Rows.args_sorted1 _) ?_
  unfold Builtin.«sorted»
  refine wpAny_bind (m := checkCount "sorted" 1 1 _) (wpAny_pure ?_)
  refine wpAny_bind (PySem.W.kdu_collect (A := X.A.in1) K (I.ok.hd hcalm) hok hz fun h' tk acc hkp hacc => ?_)
  have hal := hall acc hacc
  rw [hal]
  have I1 : Inv X pins σ H { s with heap := h', toks := tk } := I.kept hkp
  have hlen : (xs.map fun x => Value.ref x.2.1).length ≤ sizeLine := by rw [List.length_map]; exact hz
  refine wpAny_bind (wpAny_newList ?_ hlen)
  have hoL : (h'.push (seqObj "list" (xs.map fun x => Value.ref x.2.1).toArray 0)).get? h'.objs.size = some (seqObj "list" (xs.map fun x => Value.ref x.2.1).toArray 0) := Heap.get?_push_size _ rfl
  show wpAny _ _ _ _ _ { s with heap := h'.push (seqObj "list" (xs.map fun x => Value.ref x.2.1).toArray 0), toks := tk }
  refine wpAny_bind (wpAny_holding (wpAny_call_entry PyProof.Rows.slot_list_sort ⟨_, hoL, rfl⟩ PyProof.Rows.entry_list_sort
    (SrtO.list_sort_ord (s := { s with heap := h'.push (seqObj "list" (xs.map fun x => Value.ref x.2.1).toArray 0), toks := tk }) O hoL hlen (fun h2 => hS (by rw [List.length_map] at h2; exact h2) _ _ _ (I.ok.hd hcalm) hoL fun b o q => Heap.get?_push_of_some _ (hkp b o q)) fun out g1 g2 => ⟨_, rfl, ?_⟩) (PyProof.Rows.args_list_sort _)))
  obtain ⟨e', he'⟩ := PyProof.Rows.sortedHeap_at (vs := xs.map fun x => Value.ref x.2.1) (out := out.toArray) hoL
  have h3 : ∀ u ∈ out, ∃ a, u = Value.ref a := fun u hu => by
    obtain ⟨x, _, ex⟩ := List.mem_map.mp (g2.perm.mem_iff.mp hu)
    exact ⟨_, ex.symm⟩
  have hlo : (out.map backV).length ≤ sizeLine := by
    rw [List.length_map, g2.perm.length_eq]
    exact hlen
  refine wpAny_pure ⟨_, rfl, .ref h'.objs.size, upd H h'.objs.size (.lst (out.map backV)), I1.laid (t' := tk) (fun b u e => ?_) (Nat.le_refl _)
    (show ObjOk X.prog X.w _ _ _ (.lst (out.map backV)) from ⟨hlo, out, e', vals_back h3, he'⟩), rfl, h out _ g1 g2 (I1.hok.fresh (Nat.le_refl _))⟩
  have hb : b < h'.objs.size := Heap.lt_size e
  rw [PyProof.Rows.sortedHeap_old (Nat.ne_of_lt hb) (by rw [size_push']; exact Nat.lt_succ_of_lt hb)]
  exact Heap.get?_push_of_some _ e
end
/-- sorted(d), the keys tuples of ints, none empty -/
def rSortedTD (X : Cx) : List V → Hp → VK → Prop := fun vs H Q => ∃ (a : Addr) (xs : List TEn) (k : V → List Int), vs = [V.ref a] ∧ TDv X.w H a xs ∧ KeysOk H xs ∧ (∀ x ∈ xs, ∃ ob, H x.2.1 = some (.frz ob (.tup ((k (.ref x.2.1)).map V.int))) ∧ k (.ref x.2.1) ≠ []) ∧
  ∀ ys p, ys.Perm (xs.map fun x => V.ref x.2.1) → ys.Pairwise (fun x y => leL (k x) (k y) = true) → H p = none → Q (.ref p) (upd H p (.lst ys))
theorem cr_sortedTD {X : Cx} (hc : X.calm = true) : CallR X (.builtin "sorted") (rSortedTD X) := by
  intro pins s σ H vs us Q I r h
  obtain ⟨a, xs, k, rfl, e, hk, hx, q⟩ := h
  obtain ⟨u, rfl, ru⟩ := vals1 r
  obtain rfl : u = Value.ref a := ru
  have hp : ∀ v ∈ (xs.map fun x => Value.ref x.2.1), IsIL s.heap v (k (backV v)) := fun v hv => by
    obtain ⟨x, hxm, rfl⟩ := List.mem_map.mp hv
    obtain ⟨ob, g1, g2⟩ := hx x hxm
    obtain ⟨its2, r2, ⟨o, ho, hcl, n, hd⟩, _⟩ := I.tuple (.ofF g1)
    refine ⟨x.2.1, o, _, n, rfl, ho, hcl, hd, ?_, g2⟩
    have z := ints_valsL r2
    show IntsAre its2.toArray.toList (k (V.ref x.2.1))
    simpa using z
  refine td_sorted (ltv := fun v u => ltL (k (backV v)) (k (backV u))) hc I e hk (swoL _) (fun h2 A s1 p hh ho kk => ?_) fun out p h1 h2 hn => q _ p ?_ ?_ hn
  · refine sortableL (k := fun u => k (backV u)) (by rw [List.length_map]; omega) (fun v hv => (hp v hv).keeps fun b o e _ => kk b o e) fun o e => ?_
    have e' : some o = some (seqObj "list" (xs.map fun x => Value.ref x.2.1).toArray 0) := e.symm.trans ho
    cases e'
    intro c
    exact absurd (Value.type.inj c) (by decide)
  · have := h2.perm.map backV
    rw [List.map_map] at this
    exact this
  · have h1' : (out.map backV).Pairwise (fun x y => ltL (k y) (k x) = false) := SrtO.srtd_map (lt := fun x y => ltL (k x) (k y)) (f := backV) h1
    exact h1'.imp fun {x y} h => by rw [leL_ltL, h]; rfl
end MP
set_option maxHeartbeats 2000000
/-! MPe: methods; an object that changes. -/
namespace MP
open PySem L2 PySem.Spec PyProof.Rows
variable [WI]

/-! ### the call of a built-in type's method -/
def tyA (x : V) (T : String) (H : Hp) : Prop := (∃ a xs, x = .ref a ∧ T = "list" ∧ H a = some (.lst xs)) ∨ (∃ a ob xs, x = .ref a ∧ T = "tuple" ∧ H a = some (.frz ob (.tup xs)) ∧ ob.dict = none) ∨ (∃ a kvs, x = .ref a ∧ T = "dict" ∧ Rd H a (.dK kvs)) ∨ (∃ a xs, x = .ref a ∧ T = "dict" ∧ H a = some (TDO WI.w a xs))
section
variable {X : Cx}
theorem tyA_is {pins : List (Addr × Obj)} {σ : L2.St} {H : Hp} {s : Shared} {T : String} {x : V} {v : Value} (I : Inv X pins σ H s) (r : RelV x v) (ty : tyA x T H) :
    s.TypeIs v T ∧ ∀ a, v = .ref a → ∃ ob, s.heap.get? a = some ob ∧ ob.dict = none := by
  rcases ty with ⟨a, xs, rfl, rfl, h⟩ | ⟨a, ob, xs, rfl, rfl, h, hn⟩ | ⟨a, kvs, rfl, rfl, h⟩ | ⟨a, xs, rfl, rfl, h⟩
  · exact tyV_is I r (show tyV X.K "list" (.ref a) H from .inl ⟨rfl, xs, .of h⟩)
  · cases r
    obtain ⟨e, _, its, _, o, e2, hc, _⟩ := I.hok a _ h
    rw [e] at e2
    cases e2
    exact ⟨⟨ob, e, hc⟩, fun b eb => by
      cases eb
      exact ⟨ob, e, hn⟩⟩
  · cases r
    obtain ⟨h1, h2, _⟩ := isD_at I (.inl ⟨kvs, h⟩)
    exact ⟨h1, h2⟩
  · cases r
    obtain ⟨⟨_, _, ys, _, o, es, ep, ho, hx, _⟩, _⟩ := (show ObjOk X.prog X.w H s.heap a (TDO WI.w a xs) from I.hok a _ h)
    exact ⟨⟨o, ho, hx.1⟩, fun b q => by cases q; exact ⟨o, ho, hx.2.1⟩⟩
def vMt (X : Cx) (id : String) : V → List V → Hp → VK → Prop := fun x xs H Q => ∀ (pins : List (Addr × Obj)) (s : Shared) (σ : L2.St) (v : Value) (us : List Value), Inv X pins σ H s → RelV x v → Vals xs us → wpAny (model X.prog X.w) X.A (call (.builtin id) (v :: us)) (EP X pins σ Q) X.xe s
omit [WI] in
theorem vMt_of {id : String} {r : V → List V → Hp → VK → Prop} {x : V} {xs : List V} {H : Hp} {Q : VK} (h : MtR X id r) (q : r x xs H Q) : vMt X id x xs H Q := fun pins s σ v us I rx rs => h pins s σ H x xs v us Q I rx rs q
/-- the type T has the method name, the built-in id -/
structure MtOk (T : String) (name : Str) (id : String) : Prop where
  pa : PlainAttrs T
  slot : PySem.Slot T name id
  ty : typeOf (.builtin id) = pure (.type "method_descriptor")
def tM0 (X : Cx) (name : Str) (to : TE) : TE := fun σ H Q => to σ H fun x H1 => ∃ T id, MtOk T name id ∧ tyA x T H1 ∧ vMt X id x [] H1 Q
def tM1 (X : Cx) (name : Str) (to : TE) (t : TA) : TE := fun σ H Q => to σ H fun x H1 => ∃ T id, MtOk T name id ∧ tyA x T H1 ∧ t σ H1 fun xs H2 => vMt X id x xs H2 Q
variable {o e : Expr} {es : List Expr} {to : TE} {t : TA} {name : Str} {apos cpos : Pos}
theorem pe_m0A (ho : PE X o to) (hbase : attributeBase o name X.env (eval o X.env) = eval o X.env) (hline : (apos.endLine == cpos.line) = true) : PE X (.Call (.Attribute o name apos) [] [] cpos) (tM0 X name to) := by
  refine ⟨fun pins s σ H Q I h => ?_⟩
  refine wpAny_Call_method0_late hbase hline (thn (ho.run pins s σ H _ I h) fun v s1 ⟨x, H1, I1, r1, T, id, m, ty, q1⟩ => ?_)
  obtain ⟨h1, h2⟩ := tyA_is I1 r1 ty
  exact ⟨T, id, m.pa, m.slot, m.ty, h1, h2, Calls.callWith_builtin rfl (PySem.evalArgs_none (q1 pins s1 σ v [] I1 r1 .nil))⟩
theorem pe_m1A (ho : PE X o to) (ha : PA X (e :: es) t)
    (hbase : attributeBase o name X.env (eval o X.env) = eval o X.env)
    (hfew : ((backTo cpos (starEach (e :: es) X.env)).all (fun x => !x.1) && (backToKw cpos (keywordEach [] X.env)).all (fun x => x.1.isSome)
      && decide ((e :: es).length + ([] : List Keyword).length + (if ([] : List Keyword).isEmpty then 0 else 1) < 30)) = true)
    (hline : (apos.endLine == cpos.line) = true) (hs : starEach (e :: es) X.env = (false, eval e X.env) :: starEach es X.env) (hplain : (backTo cpos (starEach es X.env)).any (·.1) = false) :
    PE X (.Call (.Attribute o name apos) (e :: es) [] cpos) (tM1 X name to t) := by
  refine ⟨fun pins s σ H Q I h => ?_⟩
  refine wpAny_Call_method_late hbase hfew hline rfl (thn (ho.run pins s σ H _ I h) fun v s1 ⟨x, H1, I1, r1, T, id, m, ty, q1⟩ => ?_)
  obtain ⟨h1, h2⟩ := tyA_is I1 r1 ty
  refine ⟨T, id, m.pa, m.slot, m.ty, h1, h2, ?_⟩
  have hA := ha.run cpos pins s1 σ H1 _ I1 q1
  rw [hs] at hA ⊢
  refine Calls.callWith_builtin (by show (false || (backTo cpos (starEach es X.env)).any (·.1)) = false; rw [hplain] <;> rfl) (Calls.evalArgs_plain ?_)
  exact thn hA fun us s2 ⟨vs, H2, I2, r2, q2⟩ => q2 pins s2 σ v us I2 r1 r2
end

/-! ### which method -/
omit [WI] in
theorem mthT_ok {m : Mth} {c : D} {T id : String} (h : mthT m c = some (T, id)) : MtOk T (mthName m) id := by
  unfold mthT at h
  split at h <;> first
    | (cases h; done)
    | (cases h; exact ⟨PySem.F.plainAttrs_list, PySem.F.slot_list_append, PySem.F.type_list_append⟩)
    | (cases h; exact ⟨PySem.F.plainAttrs_list, PySem.F.slot_list_pop, PySem.F.type_list_pop⟩)
    | (cases h; exact ⟨PySem.F.plainAttrs_list, PySem.F.slot_list_insert, PySem.F.type_list_insert⟩)
    | (cases h; exact ⟨PySem.F.plainAttrs_list, PySem.F.slot_list_remove, PySem.F.type_list_remove⟩)
    | (cases h; exact ⟨PySem.F.plainAttrs_list, PySem.F.slot_list_index, PySem.F.type_list_index⟩)
    | (cases h; exact ⟨PySem.F.plainAttrs_tuple, PySem.F.slot_tuple_index, PySem.F.type_tuple_index⟩)
    | (cases h; exact ⟨PySem.F.plainAttrs_tuple, PySem.F.slot_tuple_index, PySem.F.type_tuple_index⟩)
    | (cases h; exact ⟨PySem.F.plainAttrs_dict, PySem.F.slot_dict_get, PySem.F.type_dict_get⟩)
theorem tyA_of {F H : Hp} {m : Mth} {x : V} {c : D} {T id : String} (hf : Le F H) (h : mthT m c = some (T, id)) (hx : Vw F H x c) : tyA x T H := by
  unfold mthT at h
  cases c with
  | list xs =>
    obtain ⟨a, ys, rfl, ha, _⟩ := hx.lst hf
    have e : T = "list" := by
      split at h <;> rename_i e <;> first | (cases e; done) | (cases h; rfl) | (cases h; done)
    exact .inl ⟨a, ys, rfl, e, ha⟩
  | tuple xs =>
    obtain ⟨a, ob, ys, rfl, ha, _, hn, _⟩ := hx.tup hf
    have e : T = "tuple" := by
      split at h <;> rename_i e <;> first | (cases e; done) | (cases h; rfl) | (cases h; done)
    exact .inr (.inl ⟨a, ob, ys, rfl, e, ha, hn⟩)
  | none => split at h <;> rename_i e <;> first | (cases e; done) | (cases h; done)
  | bool b => split at h <;> rename_i e <;> first | (cases e; done) | (cases h; done)
  | int b => split at h <;> rename_i e <;> first | (cases e; done) | (cases h; done)
  | str b => split at h <;> rename_i e <;> first | (cases e; done) | (cases h; done)
  | dict b =>
    have e : T = "dict" := by
      split at h <;> rename_i e <;> first | (cases e; done) | (cases h; rfl) | (cases h; done)
    rcases hx.dic hf with ⟨a, ys, rfl, ha, _⟩ | ⟨a, es, rfl, ha, _, _⟩
    · exact .inr (.inr (.inl ⟨a, ys, rfl, e, ha⟩))
    · exact .inr (.inr (.inr ⟨a, es, rfl, e, ha⟩))

/-! ### find -/
theorem findD_spec {F : Hp} {y : V} {d : D} (fd : flatD d = true) (ry : Rp F y d) : ∀ {vs : List V} {ds : List D} {j : Nat}, ds.all flatD = true → RpL F vs ds → findD d ds = some j →
    ∃ z, vs[j]? = some z ∧ eqV z y = true ∧ ∀ (m : Nat) (z' : V), m < j → vs[m]? = some z' → eqV z' y = false
  | _, _, _, _, .nil, h => by cases h
  | v :: vs, e :: ds, j, f, .cons r rs, h => by
    rw [List.all_cons, Bool.and_eq_true] at f
    unfold findD at h
    split at h
    · rename_i he
      cases h
      exact ⟨v, rfl, by rw [eqV_eqv f.1 fd r ry]; exact he, fun m _ hm => absurd hm (Nat.not_lt_zero _)⟩
    · rename_i he
      simp only [Option.map_eq_some_iff] at h
      obtain ⟨k, h1, rfl⟩ := h
      obtain ⟨z, z1, z2, z3⟩ := findD_spec fd ry f.2 rs h1
      refine ⟨z, z1, z2, fun m z' hm hz => ?_⟩
      cases m with
      | zero =>
        cases hz
        rw [eqV_eqv f.1 fd r ry]
        simpa using he
      | succ m => exact z3 m z' (by omega) hz

omit [WI] in
theorem findD_deep {d : D} : ∀ {ds : List D} {j : Nat}, findD d ds = some j → ∃ z, ds[j]? = some z ∧ PyData.eqv z d = true ∧ ∀ (m : Nat) (z' : D), m < j → ds[m]? = some z' → PyData.eqv z' d = false
  | [], _, h => by cases h
  | e :: ds, j, h => by
    unfold findD at h
    split at h
    · rename_i he
      cases h
      exact ⟨e, rfl, he, fun m _ hm => absurd hm (Nat.not_lt_zero _)⟩
    · rename_i he
      simp only [Option.map_eq_some_iff] at h
      obtain ⟨k, h1, rfl⟩ := h
      obtain ⟨z, z1, z2, z3⟩ := findD_deep h1
      refine ⟨z, z1, z2, fun m z' hm hz => ?_⟩
      cases m with
      | zero =>
        cases hz
        simpa using he
      | succ m => exact z3 m z' (by omega) hz

section
variable {X : Cx} {st : MP.St} {σ : L2.St} {ρ : List Addr} {H F : Hp} {Q : VK} {x : V} {c : D} {ds : List D} {vs : List V} {w : MP.W} {oc : Option Cell}
omit [WI] in
theorem small_seq {i : Int} {n : Nat} {y : D} {xs : List D} (h0 : 0 ≤ i) (h : xs[i.toNat]? = some y) (hn : n = xs.length) : seqIndex? i n = some i.toNat := by
  have hl : i.toNat < n := by
    rw [hn]
    exact (List.getElem?_eq_some_iff.mp h).1
  have hi : ixN n i = some i.toNat := by
    unfold ixN
    rw [if_pos h0, if_pos (by omega)]
  exact (ixN_seq hi).1
/-- what a method does, by values. A content that is new: hm -/
theorem mthD_ok {m : Mth} {T id : String} (hww : X.w = WI.w) (hu65 : X.A.units + 65 < cLine) (rel : Rel st σ H F ρ) (hx : Vw F H x c) (hd : RpL F vs ds) (h : mthD m c ds = some (w, oc)) (hT : mthT m c = some (T, id)) (h0 : oc = none → Fin st σ ρ H F w Q)
    (h1 : ∀ es, oc = some (.lst es) → ∀ p vs0 us v, x = .ref p → H p = some (.lst vs0) → RpL F us es → (∀ y, w = .d y → Rp F v y) → Q v (upd H p (.lst us))) (h2 : ∀ c', oc = some c' → ∃ es y, c' = .lst es ∧ w = .d y) : vMt X id x vs H Q := by
  have hu : X.A.units + 64 < cLine := by omega
  unfold mthD at h
  split at h
  · -- append
    cases hT
    split at h
    · rename_i hl
      cases h
      obtain ⟨a, ys, rfl, ha, rx⟩ := hx.lst rel.fh
      cases hd with
      | cons r rs =>
        cases rs
        refine vMt_of (mt_append (X := X)) ⟨a, ys, _, rfl, rfl, ha, by rw [rx.length]; exact lim_lt hl, ?_⟩
        exact h1 _ rfl a ys _ _ rfl ha (rx.append (.cons r .nil)) fun y e => by cases e; exact .non
    · cases h
  · -- pop
    cases hT
    simp only [Option.bind_eq_some_iff] at h
    obtain ⟨y, hy, h⟩ := h
    cases h
    obtain ⟨a, ys, rfl, ha, rx⟩ := hx.lst rel.fh
    cases hd
    obtain ⟨v, hv, rv⟩ := rx.get hy
    rw [← rx.length] at hv
    exact vMt_of (mt_pop (X := X)) ⟨a, ys, v, rfl, rfl, ha, hv, h1 _ rfl a ys _ _ rfl ha rx.dropLast fun y e => by cases e; exact rv⟩
  · -- pop(i)
    cases hT
    simp only [Option.bind_eq_some_iff] at h
    obtain ⟨i, hi, h⟩ := h
    cases asInt_some hi
    split at h
    · rename_i hb
      simp only [Option.bind_eq_some_iff] at h
      obtain ⟨y, hy, h⟩ := h
      cases h
      obtain ⟨a, ys, rfl, ha, rx⟩ := hx.lst rel.fh
      cases hd with
      | cons r rs =>
        cases rs
        cases r
        obtain ⟨v, hv, rv⟩ := rx.get hy
        have hb1 := hb.1
        have hb2 : (LIM : Int) = 1000000 := rfl
        exact vMt_of (mt_popAt (X := X)) ⟨a, ys, i, i.toNat, v, rfl, rfl, ha, by omega, by omega, small_seq hb.2 hy rx.length, hv, h1 _ rfl a ys _ _ rfl ha (rx.eraseIdx _) fun y e => by cases e; exact rv⟩
    · cases h
  · -- insert(0, y)
    cases hT
    split at h
    · rename_i hl
      cases h
      obtain ⟨a, ys, rfl, ha, rx⟩ := hx.lst rel.fh
      cases hd with
      | cons r rs =>
        cases rs with
        | cons r2 rs =>
          cases rs
          cases r
          refine vMt_of (mt_insert (X := X)) ⟨a, ys, 0, _, rfl, rfl, ha, by rw [rx.length]; exact lim_lt hl, by decide, by decide, ?_⟩
          exact h1 _ rfl a ys _ _ rfl ha (.cons r2 rx) fun y e => by cases e; exact .non
    · cases h
  · -- remove
    cases hT
    simp only [Option.bind_eq_some_iff] at h
    obtain ⟨ns, hn, h⟩ := h
    split at h
    · rename_i k hk
      cases h
      obtain ⟨a, ys, rfl, ha, rx⟩ := hx.lst rel.fh
      cases allInts_eq hn
      rw [rx.ofInts] at ha
      cases hd with
      | cons r rs =>
        cases rs
        cases r
        obtain ⟨j, j1, j2, j3, j4⟩ := first_at hk
        refine vMt_of (mt_remove (X := X)) ⟨a, ns, _, j, rfl, rfl, ha, j2, fun m hm => j3 m hm, ?_⟩
        rw [j4]
        exact h1 _ rfl a _ _ _ rfl ha (.ints _) fun y e => by cases e; exact .non
    · cases h
  · -- index of a tuple
    cases hT
    split at h
    · rename_i hf
      rw [Bool.and_eq_true] at hf
      simp only [Option.bind_eq_some_iff] at h
      obtain ⟨j, hj, h⟩ := h
      cases h
      obtain ⟨a, ob, ys, rfl, ha, _, _, rx⟩ := hx.tup rel.fh
      cases hd with
      | cons r rs =>
        cases rs
        obtain ⟨z, z1, z2, z3⟩ := findD_spec hf.1 r hf.2 rx hj
        exact vMt_of mt_tindex ⟨a, ys, _, j, z, rfl, rfl, .ofF ha, flat_rp hf.1 r, flats_rp hf.2 rx, z1, z2, z3, (h0 rfl).rp rel (.int _)⟩
    · cases h
  · -- index of a list
    cases hT
    split at h
    · rename_i hf
      rw [Bool.and_eq_true] at hf
      simp only [Option.bind_eq_some_iff] at h
      obtain ⟨j, hj, h⟩ := h
      cases h
      obtain ⟨a, ys, rfl, ha, rx⟩ := hx.lst rel.fh
      cases hd with
      | cons r rs =>
        cases rs
        obtain ⟨z, z1, z2, z3⟩ := findD_spec hf.1 r hf.2 rx hj
        exact vMt_of mt_index ⟨a, ys, _, j, z, rfl, rfl, .of ha, flat_rp hf.1 r, flats_rp hf.2 rx, z1, z2, z3, (h0 rfl).rp rel (.int _)⟩
    · cases h
  · -- index of a tuple, data of any depth
    cases hT
    split at h
    · rename_i hf
      rw [Bool.and_eq_true] at hf
      simp only [Option.bind_eq_some_iff] at h
      obtain ⟨j, hj, h⟩ := h
      cases h
      have hxd := hx.dp (K := X.K) rel.fh hf.2
      obtain ⟨a, ob, ys, rfl, ha, _, _, rx⟩ := hx.tup rel.fh
      cases hd with
      | cons r rs =>
        cases rs
        obtain ⟨z, z1, z2, z3⟩ := findD_deep hj
        exact vMt_of (mt_tindexD hu65) ⟨a, _, _, _, j, z, rfl, rfl, hxd, (Vw.val r).dp rel.fh hf.1, hf.2, hf.1, z1, z2, z3, (h0 rfl).rp rel (.int _)⟩
    · cases h
  · -- d.get(k, y)
    rename_i kvs k y
    cases hT
    split at h
    · rename_i hk
      cases h
      cases hd with
      | cons r rs =>
        cases rs with
        | cons r2 rs =>
          cases rs
          rcases Bool.or_eq_true_iff.mp hk with hk | hk
          · have hk := Bool.and_eq_true_iff.mp hk
            obtain ⟨i, rfl⟩ : ∃ i, k = .int i := by
              have hk := hk.1
              cases k <;> first | exact ⟨_, rfl⟩ | cases hk
            rcases hx.dic rel.fh with ⟨a, ys, rfl, ha, rx⟩ | ⟨a, es, rfl, ha, hne, rx⟩
            case inr =>
              have hk := hk.2
              rw [(rx.noInts hne).1] at hk
              cases hk
            cases r
            have L := rx.look (i := i)
            refine vMt_of (mt_dget2 (by omega)) ⟨a, .int i, _, valV ys (.inl i), rfl, rfl, .inl ⟨ys, .inl i, ha, rfl, rfl⟩, ?_⟩
            cases hl : lookD (.int i) kvs with
            | none =>
              rw [hl] at L
              rw [show valV ys (.inl i) = none from L]
              have f := h0 rfl
              rw [hl] at f
              exact f.rp rel r2
            | some d =>
              rw [hl] at L
              obtain ⟨v, e1, e2⟩ := (show ∃ v, valV ys (.inl i) = some v ∧ Rp F v d from L)
              rw [e1]
              have f := h0 rfl
              rw [hl] at f
              exact f.rp rel e2
          · have hk := Bool.and_eq_true_iff.mp hk
            obtain ⟨a, o, rfl, g, L⟩ := tget_of hww rel hx (.val r) hk.1 (tk_or rel hx hk.2)
            refine vMt_of (mt_tget2 hu) ⟨a, _, _, o, _, rfl, rfl, rfl, g, ?_⟩
            cases hl : lookD k kvs with
            | none =>
              rw [hl] at L
              rw [show o = none from L]
              have f := h0 rfl
              rw [hl] at f
              exact f.rp rel r2
            | some d =>
              rw [hl] at L
              obtain ⟨v, e1, e2⟩ := (show ∃ v, o = some v ∧ Rp F v d from L)
              rw [e1]
              have f := h0 rfl
              rw [hl] at f
              exact f.rp rel e2
    · cases h
  · cases h
omit [WI] in
theorem mthD_kind {m : Mth} (h : mthD m c ds = some (w, oc)) : ∃ T id, mthT m c = some (T, id) := by
  unfold mthD at h
  split at h <;> first | exact ⟨_, _, rfl⟩ | (cases h; done)
omit [WI] in
theorem mthT_kind {m : Mth} {c c' : D} (h : kindD c = kindD c') : mthT m c = mthT m c' := by
  unfold mthT
  rw [h]
omit [WI] in
theorem mthD_cell {m : Mth} {c' : Cell} (h : mthD m c ds = some (w, oc)) (e : oc = some c') : ∃ es y, c' = .lst es ∧ w = .d y := by
  subst e
  unfold mthD at h
  split at h
  · split at h
    · cases h; exact ⟨_, _, rfl, rfl⟩
    · cases h
  · simp only [Option.bind_eq_some_iff] at h
    obtain ⟨y, _, h⟩ := h
    cases h; exact ⟨_, _, rfl, rfl⟩
  · simp only [Option.bind_eq_some_iff] at h
    obtain ⟨i, _, h⟩ := h
    split at h
    · simp only [Option.bind_eq_some_iff] at h
      obtain ⟨y, _, h⟩ := h
      cases h; exact ⟨_, _, rfl, rfl⟩
    · cases h
  · split at h
    · cases h; exact ⟨_, _, rfl, rfl⟩
    · cases h
  · simp only [Option.bind_eq_some_iff] at h
    obtain ⟨i, _, h⟩ := h
    split at h
    · cases h; exact ⟨_, _, rfl, rfl⟩
    · cases h
  · split at h
    · simp only [Option.bind_eq_some_iff] at h
      obtain ⟨i, _, h⟩ := h
      cases h
    · cases h
  · split at h
    · simp only [Option.bind_eq_some_iff] at h
      obtain ⟨i, _, h⟩ := h
      cases h
    · cases h
  · split at h
    · simp only [Option.bind_eq_some_iff] at h
      obtain ⟨i, _, h⟩ := h
      cases h
    · cases h
  · split at h
    · cases h
    · cases h
  · cases h

/-! ### an object that a variable holds, or one by reference, gets a new content -/
theorem Rel.put {p : Addr} {o : HO} (rel : Rel st σ H F ρ) (hp : F p = none) (ho : OwnS st.v σ ρ p) : Le F (upd H p o) ∧ (∀ a u, H a = some u → a ≠ p → upd H p o a = some u) := by
  refine ⟨fun a u e => ?_, fun a u e n => by rw [upd_ne n]; exact e⟩
  rw [upd_ne (fun z => by rw [z, hp] at e; cases e)]
  exact rel.fh _ _ e
theorem Cel.other {p q : Addr} {o : HO} {c : Cell} (h : Cel F H q c) (n : q ≠ p) : Cel F (upd H p o) q c := h.mono (Le.refl _) fun u e => by rw [upd_ne n]; exact e
theorem mut_okC {st' : MP.St} {w : MP.W} {p : Addr} {cn : Cell} {ho : HO} (rel : Rel st σ H F ρ) (hw : RW st σ H F ρ (.ref p) w) (hs : setCell w cn st = some (.ok () st')) (r : ∀ H' : Hp, H' p = some ho → Cel F H' p cn) : Pst st st' σ ρ H F (upd H p ho) F := by
  unfold setCell at hs
  split at hs
  · rename_i i
    have hw : σ[i]? = some (some (.ref p)) := hw
    split at hs
    · rename_i c hc
      cases hs
      obtain ⟨q, e1, h2, h3, h4⟩ := rel.slot i _ hc
      rw [hw] at e1
      cases e1
      have own : OwnS st.v σ ρ p := .inr ⟨i, c, hc, hw⟩
      obtain ⟨hle, hot⟩ := rel.put (o := ho) h3 own
      have hi : i < st.v.length := (List.getElem?_eq_some_iff.mp hc).1
      refine ⟨⟨hle, by rw [rel.len]; simp, fun j b e => ?_, fun j k c1 c2 q e1 e2 e3 e4 => ?_, ⟨rel.sto.len, rel.sto.nd, fun n a c0 e1 e2 => ?_⟩⟩, ⟨Le.refl _, fun a u e n => hot a u e fun z => n (by rw [z]; exact own), fun a u u' e n h => by rw [n] at e; cases e⟩, fun a h => ?_⟩
      · rcases getElem?_set_cases e with ⟨rfl, rfl, _⟩ | ⟨nj, e⟩
        · exact ⟨p, hw, r _ upd_same, h3, h4⟩
        · have q := rel.slot j b e
          cases b with
          | un => exact q
          | val d => exact q
          | loc n => exact q
          | own c' =>
            obtain ⟨p', k1, k2, k3, k4⟩ := q
            exact ⟨p', k1, k2.other fun z => nj (rel.inj j i c' c p' e hc k1 (by rw [z]; exact hw)), k3, k4⟩
      · have get : ∀ {j : Nat} {c1 : Cell}, (st.v.set i (Slot.own cn))[j]? = some (Slot.own c1) → ∃ c2, st.v[j]? = some (Slot.own c2) := fun {j c1} e => by
          rcases getElem?_set_cases e with ⟨rfl, _, _⟩ | ⟨_, e⟩
          · exact ⟨c, hc⟩
          · exact ⟨c1, e⟩
        obtain ⟨d1, g1⟩ := get e1
        obtain ⟨d2, g2⟩ := get e2
        exact rel.inj j k d1 d2 q g1 g2 e3 e4
      · obtain ⟨k1, k2, k3⟩ := rel.sto.cel n a c0 e1 e2
        exact ⟨k1.other fun z => h4 (by rw [← z]; exact List.mem_of_getElem? e1), k2, k3⟩
      · left
        rcases h with h | ⟨j, c1, e, e'⟩
        · exact .inl h
        · rcases getElem?_set_cases e with ⟨rfl, _, _⟩ | ⟨_, e⟩
          · exact .inr ⟨_, c, hc, e'⟩
          · exact .inr ⟨j, c1, e, e'⟩
    · cases hs
  · rename_i n
    by_cases hc : n < st.s.length ∧ noMutC cn = true
    · rw [if_pos hc] at hs
      cases hs
      obtain ⟨a, ha, e⟩ := hw
      cases e
      have own : OwnS st.v σ ρ p := .inl (List.mem_of_getElem? ha)
      obtain ⟨h3, _⟩ := own.there rel
      obtain ⟨hle, hot⟩ := rel.put (o := ho) h3 own
      refine ⟨⟨hle, rel.len, fun j b e => ?_, rel.inj, ⟨by rw [rel.sto.len]; simp, rel.sto.nd, fun m a c0 e1 e2 => ?_⟩⟩, ⟨Le.refl _, fun a u e n => hot a u e fun z => n (by rw [z]; exact own), fun a u u' e n h => by rw [n] at e; cases e⟩, OwnSub.refl⟩
      · have q := rel.slot j b e
        cases b with
        | un => exact q
        | val d => exact q
        | loc n => exact q
        | own c' =>
          obtain ⟨p', k1, k2, k3, k4⟩ := q
          exact ⟨p', k1, k2.other fun z => k4 (by rw [z]; exact List.mem_of_getElem? ha), k3, k4⟩
      · rcases getElem?_set_cases e2 with ⟨rfl, rfl, _⟩ | ⟨nm, e2⟩
        · rw [ha] at e1
          cases e1
          exact ⟨r _ upd_same, h3, hc.2⟩
        · obtain ⟨k1, k2, k3⟩ := rel.sto.cel m a c0 e1 e2
          refine ⟨k1.other fun z => nm ?_, k2, k3⟩
          obtain ⟨g1, g2⟩ := List.getElem?_eq_some_iff.mp e1
          obtain ⟨g3, g4⟩ := List.getElem?_eq_some_iff.mp ha
          exact (List.getElem_inj rel.sto.nd).mp (by rw [g2, g4, z])
    · rw [if_neg hc] at hs
      cases hs
  · cases hs
theorem mut_ok {st' : MP.St} {w : MP.W} {p : Addr} {es : List D} {us : List V} (rel : Rel st σ H F ρ) (hw : RW st σ H F ρ (.ref p) w) (hs : setCell w (.lst es) st = some (.ok () st')) (r : RpL F us es) : Pst st st' σ ρ H F (upd H p (.lst us)) F :=
  mut_okC rel hw hs fun H' e => ⟨us, e, r⟩
end
end MP
set_option maxHeartbeats 2000000
/-! MPg: the context; what a def promises; what is meant by «the evaluator is right about this expression»; calls. -/
namespace MP
open PySem L2 PySem.Spec PyProof.Rows
variable [WI]

/-! ### a def's promise -/
def RpA (F : Hp) (ρ : List Addr) (v : V) : Slot → Prop
  | .val x => Rp F v x
  | .loc n => ∃ a, ρ[n]? = some a ∧ v = .ref a
  | _ => False
inductive RpAs (F : Hp) (ρ : List Addr) : List V → List Slot → Prop
  | nil : RpAs F ρ [] []
  | cons {v : V} {vs : List V} {a : Slot} {as : List Slot} : RpA F ρ v a → RpAs F ρ vs as → RpAs F ρ (v :: vs) (a :: as)
theorem RpAs.length {F : Hp} {ρ : List Addr} : ∀ {vs : List V} {as : List Slot}, RpAs F ρ vs as → vs.length = as.length
  | _, _, .nil => rfl
  | _, _, .cons _ r => congrArg (· + 1) r.length
def RC (H F H' : Hp) (ρ : List Addr) (v : V) : CW → Prop
  | .d x => Rp F v x
  | .fr c => ∃ p, v = .ref p ∧ Cel F H' p c ∧ F p = none ∧ p ∉ ρ ∧ H p = none
structure Back (ρ : List Addr) (H F H' F' : Hp) (s' : List Cell) : Prop where
  sto : RelS F' H' ρ s'
  fh : Le F' H'
  stp : Stp (fun a => a ∈ ρ) H F H' F'
/-- called with data on which f says r: it hands r back, what was there stays, but for the objects by reference -/
def spR (cl : Str → Addr) (f : List Slot → List Cell → Option CR) (np : Nat) : Sp := fun vs H Q E => ∃ (F : Hp) (ρ : List Addr) (as : List Slot) (s : List Cell) (r : CR),
  vs.length = np ∧ RpAs F ρ vs as ∧ Le F H ∧ RelS F H ρ s ∧ f as s = some r ∧
  (∀ w s', r = .ok w s' → ∀ v H' F', Back ρ H F H' F' s' → RC H F' H' ρ v w → Q v H') ∧
  (∀ c s', r = .exc c s' → ∀ H' F', Back ρ H F H' F' s' → E (.ref (cl c)) none H')

def bltNames : List Str := ["len", "sum", "max", "min", "all", "sorted", "list", "tuple", "int", "set", "range", "isinstance", "enumerate", "zip", "bool", "str"]
structure Ok (X : Cx) (cf : CallF) (W : WX) (cl : Str → Addr) (tb : Tb) : Prop where
  calm : X.calm = true
  nd : X.N.Nodup
  un : X.A.units + 100 < cLine
  wi : X.w = WI.w
  tk : Takes X W
  glo : ∀ (x : Str) (i : Int), tb.gl.contains (x, i) = true → ∃ t, X.mg x = some (.int i t)
  blt : ∀ x : Str, bltNames.contains x = true → X.mg x = none
  fn : ∀ f : Str, tb.fs.contains f = true → ∃ (fa : Addr) (fd : FuncData) (ps : List Str) (k : Nat), X.mg f = some (.ref fa) ∧ PySem.W.keepIn X.K (.ref fa) = true ∧ Binds X.K fd ps [] ∧ Room k X.A ∧ (∀ as s r, cf f as s = some r → as.length = ps.length) ∧
    FnOk X.prog X.w X.K X.mg X.base (L2.CX X.prog X.w) k fa fd ps (spR cl (cf f) ps.length)
  exc : ∀ c : Str, tb.ex.contains c = true → ∃ (bmB : List Value) (B newId initId : String), ExcBaseFacts B newId initId bmB ∧ PySem.W.excIn X.K (cl c) bmB newId = true ∧ X.mg c = some (.ref (cl c)) ∧ PySem.W.keepIn X.K (.ref (cl c)) = true ∧ Raises X (.ref (cl c))

/-! ### right about an expression -/
section
variable {X : Cx} {cf : CallF} {W : WX} {cl : Str → Addr}
/-- an exception that the evaluator tells is wished for -/
def PX {α : Type} (W : WX) (cl : Str → Addr) (st : MP.St) (σ : L2.St) (ρ : List Addr) (H F : Hp) (r : R α) : Prop := ∀ c st', r = .exc c st' → ∀ H' F', Pst st st' σ ρ H F H' F' → W (.ref (cl c)) none σ H'
theorem PX.step {α : Type} {st st1 : MP.St} {σ : L2.St} {ρ : List Addr} {H F H1 F1 : Hp} {r : R α} (h : PX W cl st σ ρ H F r) (p : Pst st st1 σ ρ H F H1 F1) : PX W cl st1 σ ρ H1 F1 r := fun c st' e H' F' q => h c st' e H' F' (p.trans q)
theorem PX.exc {α β : Type} {st st' : MP.St} {σ : L2.St} {ρ : List Addr} {H F : Hp} {r : R α} {c : Str} (h : PX W cl st σ ρ H F r) (e : r = .exc c st') : PX W cl st σ ρ H F (.exc c st' : R β) := fun c2 s2 e2 H' F' q => by
  cases e2
  exact h c st' e H' F' q
theorem PX.ok {α : Type} {a : α} {st st' : MP.St} {σ : L2.St} {ρ : List Addr} {H F : Hp} : PX W cl st σ ρ H F (.ok a st') := fun c s e => by cases e
def SE (X : Cx) (cf : CallF) (W : WX) (cl : Str → Addr) (ir : Ex) (e : Expr) : Prop := ∀ (st : MP.St) (σ : L2.St) (H F : Hp) (ρ : List Addr) (r : R MP.W) (Q : VK), Rel st σ H F ρ → evE cf ir st = some r → PX W cl st σ ρ H F r →
  (∀ w st', r = .ok w st' → ∀ v H' F', Pst st st' σ ρ H F H' F' → RW st' σ H' F' ρ v w → Fresh st σ ρ H v w → Q v H') → tE X e σ H Q
def ST (X : Cx) (cf : CallF) (W : WX) (cl : Str → Addr) (ir : Ex) (e : Expr) : Prop := ∀ (st : MP.St) (σ : L2.St) (H F : Hp) (ρ : List Addr) (r : R Bool) (Q : Bool → Hp → Prop), Rel st σ H F ρ → M.bind (evE cf ir) toBool st = some r → PX W cl st σ ρ H F r →
  (∀ t st', r = .ok t st' → ∀ H' F', Pst st st' σ ρ H F H' F' → Q t H') → tT X e σ H Q
def SW (X : Cx) (cf : CallF) (W : WX) (cl : Str → Addr) (ir : Ex) (e : Expr) : Prop := ∀ (st : MP.St) (σ : L2.St) (H F : Hp) (ρ : List Addr) (r : R Bool) (Q : Bool → Hp → Prop), Rel st σ H F ρ → M.bind (evE cf ir) toBool st = some r → PX W cl st σ ρ H F r →
  (∀ t st', r = .ok t st' → ∀ H' F', Pst st st' σ ρ H F H' F' → Q t H') → tW X e σ H Q
variable {β : Type} {ir : Ex} {e : Expr} {st : MP.St} {σ : L2.St} {H F : Hp} {ρ : List Addr} {r : R β} {Q : VK}
/-- an expression, then the rest -/
theorem SE.one {k : MP.W → M β} (ha : SE X cf W cl ir e) (rel : Rel st σ H F ρ) (hk : M.bind (evE cf ir) k st = some r) (hx : PX W cl st σ ρ H F r)
    (fin : ∀ x st1 v H1 F1, Pst st st1 σ ρ H F H1 F1 → RW st1 σ H1 F1 ρ v x → Fresh st σ ρ H v x → k x st1 = some r → Q v H1) : tE X e σ H Q := by
  rcases bind_inv hk with ⟨c, s', h1, h2⟩ | ⟨x, st1, h1, h2⟩
  · exact ha st σ H F ρ _ Q rel h1 (hx.exc h2) fun w st' e' => by cases e'
  · refine ha st σ H F ρ _ Q rel h1 PX.ok fun w st' e' v H' F' p rw' fr => ?_
    cases e'
    exact fin _ _ _ _ _ p rw' fr h2
theorem ST.one {k : Bool → M β} {QT : Bool → Hp → Prop} (ha : ST X cf W cl ir e) (rel : Rel st σ H F ρ) (hk : M.bind (evE cf ir) (fun x => M.bind (toBool x) k) st = some r) (hx : PX W cl st σ ρ H F r)
    (fin : ∀ t st1 H1 F1, Pst st st1 σ ρ H F H1 F1 → k t st1 = some r → QT t H1) : tT X e σ H QT := by
  rcases bind_inv hk with ⟨c, s', h1, h2⟩ | ⟨x, st1, h1, h2⟩
  · have e1 : M.bind (evE cf ir) toBool st = some (.exc c s') := by
      unfold M.bind
      rw [h1]
    exact ha st σ H F ρ _ QT rel e1 (hx.exc h2) fun w st' e' => by cases e'
  · obtain ⟨t, h3, h4⟩ := toBool_bind h2
    have e1 : M.bind (evE cf ir) toBool st = some (.ok t st1) := by
      unfold M.bind
      rw [h1]
      show M.bind (view x) _ st1 = _
      unfold M.bind view
      rw [h3]
      rfl
    refine ha st σ H F ρ _ QT rel e1 PX.ok fun w st' e' H' F' p => ?_
    cases e'
    exact fin _ _ _ _ p h4
/-- a value that is true or false, as a test -/
theorem ST.of (ha : SE X cf W cl ir e) (he : ∀ whole, isTrue e X.env whole = (do let v ← whole; standAt e.pos; holding [v] (truthy v))) : ST X cf W cl ir e := by
  intro st σ H F ρ r Q rel hk hx fin
  refine tT_of (pt_val pe_self he) ?_
  show tE X e σ H fun x H1 => ∃ c, x = .bl c ∧ Q c H1
  refine ha.one rel hk hx fun x st1 v H1 F1 p rw' fr h => ?_
  obtain ⟨b, h1, h2⟩ := toBool_inv h
  exact ⟨b, (view_vw p.rel rw' h1).bl, fin b st1 h2 H1 F1 p⟩
theorem ST.ofW (h : SW X cf W cl ir e) : ST X cf W cl ir e := fun st σ H F ρ r Q rel hk hx fin => fun pins s I => h st σ H F ρ r Q rel hk hx fin _ pins s I
end

theorem Fin.of {X : Cx} {st st1 : MP.St} {σ : L2.St} {ρ : List Addr} {H F H1 F1 : Hp} {r : R MP.W} {Q : VK} {w : MP.W} (hfin : ∀ w st', r = .ok w st' → ∀ v H' F', Pst st st' σ ρ H F H' F' → RW st' σ H' F' ρ v w → Fresh st σ ρ H v w → Q v H')
    (P : Pst st st1 σ ρ H F H1 F1) (e : r = .ok w st1) : Fin st1 σ ρ H1 F1 w Q := fun v H' F' p rw' fr => hfin w st1 e v H' F' (P.trans p) rw' (Fresh.back P fr)

/-! ### calls -/
section
variable {st : MP.St} {σ : L2.St} {H F : Hp} {ρ : List Addr}
/-- the values of a call's arguments -/
inductive RWs (st : MP.St) (σ : L2.St) (H F : Hp) (ρ : List Addr) : List V → List MP.W → Prop
  | nil : RWs st σ H F ρ [] []
  | cons {v : V} {vs : List V} {w : MP.W} {ws : List MP.W} : RW st σ H F ρ v w → (∀ c, w ≠ .fr c) → RWs st σ H F ρ vs ws → RWs st σ H F ρ (v :: vs) (w :: ws)
theorem RWs.length : ∀ {vs : List V} {ws : List MP.W}, RWs st σ H F ρ vs ws → vs.length = ws.length
  | _, _, .nil => rfl
  | _, _, .cons _ _ r => congrArg (· + 1) r.length
theorem lend_ok {st0 : MP.St} {H0 F0 : Hp} {v : V} {w x : MP.W} (P : Pst st0 st σ ρ H0 F0 H F) (hw : RW st σ H F ρ v w) (fr : Fresh st0 σ ρ H0 v w) (h : lend w st = some (.ok x st)) :
    ∃ F1, Pst st0 st σ ρ H0 F0 H F1 ∧ RW st σ H F1 ρ v x ∧ ∀ c, x ≠ .fr c := by
  unfold lend at h
  split at h
  · rename_i c
    cases h
    have hk : keep (.fr c) st = some (.ok c.d st) := rfl
    obtain ⟨F1, p1, r1⟩ := keep_ok P hw fr hk
    exact ⟨F1, p1, r1, fun c z => by cases z⟩
  · rename_i w' n
    cases h
    exact ⟨F, P, hw, fun c z => n c z⟩
/-- the objects of variables among the arguments -/
def Lent (st : MP.St) (σ : L2.St) (ws : List MP.W) (p : Addr) : Prop := ∃ (i : Nat) (c : Cell), MP.W.pl i ∈ ws ∧ st.v[i]? = some (Slot.own c) ∧ σ[i]? = some (some (V.ref p))
open Classical in
noncomputable def lentF (st : MP.St) (σ : L2.St) (ws : List MP.W) (H F : Hp) : Hp := fun a => if Lent st σ ws a then H a else F a
theorem lentF_le (rel : Rel st σ H F ρ) (ws : List MP.W) : Le F (lentF st σ ws H F) := fun a o e => by
  unfold lentF
  split
  · exact rel.fh _ _ e
  · exact e
theorem lentF_leH (rel : Rel st σ H F ρ) (ws : List MP.W) : Le (lentF st σ ws H F) H := fun a o e => by
  unfold lentF at e
  split at e
  · exact e
  · exact rel.fh _ _ e
omit [WI] in
theorem Lent.own {ws : List MP.W} {p : Addr} (h : Lent st σ ws p) : OwnS st.v σ ρ p := by
  obtain ⟨i, c, _, h2, h3⟩ := h
  exact .inr ⟨i, c, h2, h3⟩
theorem Lent.nρ {ws : List MP.W} {p : Addr} (rel : Rel st σ H F ρ) (h : Lent st σ ws p) : p ∉ ρ := by
  obtain ⟨i, c, _, h2, h3⟩ := h
  obtain ⟨q, e1, _, _, e4⟩ := rel.slot i _ h2
  rw [h3] at e1
  cases e1
  exact e4
theorem args_ok (rel : Rel st σ H F ρ) (all : List MP.W) : ∀ {vs : List V} {ws : List MP.W} {as : List Slot}, RWs st σ H F ρ vs ws → (∀ w ∈ ws, w ∈ all) → argsOf st ws = some as → RpAs (lentF st σ all H F) ρ vs as
  | _, _, _, .nil, _, h => by
    cases h
    exact .nil
  | v :: vs, w :: ws, as, .cons r n rs, hm, h => by
    unfold argsOf at h
    simp only [Option.bind_eq_some_iff] at h
    obtain ⟨a, h1, as', h2, h3⟩ := h
    cases h3
    refine .cons ?_ (args_ok rel all rs (fun w hw => hm w (List.mem_cons_of_mem _ hw)) h2)
    cases w with
    | d x =>
      cases h1
      exact Rp.mono (lentF_le rel all) r
    | loc m =>
      cases h1
      exact r
    | fr c => cases h1
    | pl i =>
      have r : σ[i]? = some (some v) := r
      unfold argOf at h1
      simp only [Option.map_eq_some_iff] at h1
      obtain ⟨d, h4, rfl⟩ := h1
      simp only [St.view] at h4
      split at h4
      · rename_i c hc
        cases h4
        obtain ⟨p, e1, e2, e3, e4⟩ := rel.slot i _ hc
        rw [r] at e1
        cases e1
        refine e2.rp (lentF_le rel all) fun o ho => ?_
        unfold lentF
        rw [if_pos ⟨i, c, hm _ (List.mem_cons_self ..), hc, r⟩]
        exact ho
      · rename_i x hx
        cases h4
        obtain ⟨u, e1, e2⟩ := rel.slot i _ hx
        rw [r] at e1
        cases e1
        exact Rp.mono (lentF_le rel all) e2
      · cases h4
open Classical in
omit [WI] in
theorem freeze_at (j : Nat) : ∀ (ws : List MP.W) (v : List Slot), (freezeAll v ws)[j]? = match v[j]? with
    | some (.own c) => if MP.W.pl j ∈ ws then some (.val c.d) else some (.own c)
    | o => o := by
  intro ws
  induction ws with
  | nil =>
    intro v
    unfold freezeAll
    split
    · rename_i c h
      rw [if_neg (by simp)]
      exact h
    · rfl
  | cons w ws ih =>
    intro v
    cases w with
    | pl i =>
      unfold freezeAll
      rw [ih]
      have mem : j ≠ i → ((MP.W.pl j ∈ MP.W.pl i :: ws) ↔ MP.W.pl j ∈ ws) := fun e => by
        rw [List.mem_cons]
        exact ⟨fun h => h.elim (fun h => absurd (MP.W.pl.inj h) e) id, .inr⟩
      by_cases e : j = i
      · subst e
        cases hv : v[j]? with
        | none => simp [frz1, hv]
        | some a =>
          cases a with
          | own c =>
            have hl : j < v.length := (List.getElem?_eq_some_iff.mp hv).1
            have e1 : (frz1 v j)[j]? = some (Slot.val c.d) := by
              unfold frz1
              rw [hv]
              simp [hl]
            rw [e1]
            simp
          | un => simp [frz1, hv]
          | val d => simp [frz1, hv]
          | loc n => simp [frz1, hv]
      · have e2 : (frz1 v i)[j]? = v[j]? := by
          unfold frz1
          split
          · rw [List.getElem?_set_ne (fun z => e z.symm)]
          · rfl
        rw [e2]
        simp only [mem e]
    | d x =>
      unfold freezeAll
      rw [ih]
      simp
    | loc x =>
      unfold freezeAll
      rw [ih]
      simp
    | fr x =>
      unfold freezeAll
      rw [ih]
      simp
omit [WI] in
theorem freeze_own {v : List Slot} {ws : List MP.W} {j : Nat} {c : Cell} (e : (freezeAll v ws)[j]? = some (Slot.own c)) : v[j]? = some (Slot.own c) := by
  rw [freeze_at] at e
  split at e
  · rename_i c' hc
    split at e
    · cases e
    · cases e
      exact hc
  · rename_i o hn
    exact absurd e (hn c)
omit [WI] in
theorem freeze_len : ∀ (ws : List MP.W) (v : List Slot), (freezeAll v ws).length = v.length := by
  intro ws
  induction ws with
  | nil => intro v; rfl
  | cons w ws ih =>
    intro v
    cases w with
    | pl i =>
      unfold freezeAll
      rw [ih]
      unfold frz1
      split
      · rw [List.length_set]
      · rfl
    | d x => unfold freezeAll; exact ih v
    | loc x => unfold freezeAll; exact ih v
    | fr x => unfold freezeAll; exact ih v

open Classical in
/-- behind a call, the variables' objects among the arguments never changing from now on -/
theorem back_freeze {ws : List MP.W} {H' F' : Hp} {s' : List Cell} (rel : Rel st σ H F ρ) (b : Back ρ H (lentF st σ ws H F) H' F' s') : Pst st { v := freezeAll st.v ws, s := s' } σ ρ H F H' F' := by
  have lf := lentF_le rel ws
  have own_back : ∀ {j : Nat} {c : Cell}, (freezeAll st.v ws)[j]? = some (Slot.own c) → st.v[j]? = some (Slot.own c) ∧ MP.W.pl j ∉ ws := fun {j c} e => by
    rw [freeze_at] at e
    split at e
    · rename_i c' hc
      split at e
      · cases e
      · rename_i hn
        cases e
        exact ⟨hc, hn⟩
    · rename_i o hn
      exact absurd e (hn c)
  have notLent : ∀ {j : Nat} {c : Cell} {p : Addr}, (freezeAll st.v ws)[j]? = some (Slot.own c) → σ[j]? = some (some (.ref p)) → ¬ Lent st σ ws p := fun {j c p} e ep ⟨i, c2, h1, h2, h3⟩ => by
    obtain ⟨e1, e2⟩ := own_back e
    have := rel.inj j i c c2 p e1 h2 ep h3
    subst this
    exact e2 h1
  have notF : ∀ {p : Addr} {o : HO}, H p = some o → (∀ ob xs, o ≠ .frz ob (.tup xs)) → F p = none → p ∉ ρ → ¬ Lent st σ ws p → F' p = none := fun {p o} hp hx hf hn hl => by
    cases q : F' p with
    | none => rfl
    | some u =>
      have : lentF st σ ws H F p = none := by
        unfold lentF
        rw [if_neg hl]
        exact hf
      rcases b.stp.new p u o q this hp with z | ⟨ob, xs, z⟩
      · exact absurd z hn
      · exact absurd z (hx ob xs)
  refine ⟨⟨b.fh, by rw [rel.len, freeze_len], fun j a e => ?_, fun i j c c' p e1 e2 e3 e4 => rel.inj i j c c' p (own_back e1).1 (own_back e2).1 e3 e4, b.sto⟩,
    ⟨lf.trans b.stp.fle, fun a o h n => b.stp.keep a o h fun z => n (.inl z), fun a o o' e n h => ?_⟩, fun a h => ?_⟩
  · rw [freeze_at] at e
    split at e
    · rename_i c hc
      obtain ⟨p, e1, e2, e3, e4⟩ := rel.slot j _ hc
      split at e
      · rename_i hm
        cases e
        obtain ⟨o, ho, _⟩ := e2.there
        have hl : Lent st σ ws p := ⟨j, c, hm, hc, e1⟩
        refine ⟨_, e1, e2.rp (lf.trans b.stp.fle) fun o ho => b.stp.fle _ _ ?_⟩
        unfold lentF
        rw [if_pos hl]
        exact ho
      · rename_i hm
        cases e
        obtain ⟨o, ho, hx⟩ := e2.there
        have hl : ¬ Lent st σ ws p := fun ⟨i, c2, h1, h2, h3⟩ => by
          have := rel.inj j i c c2 p hc h2 e1 h3
          subst this
          exact hm h1
        exact ⟨p, e1, e2.mono (lf.trans b.stp.fle) fun o h => b.stp.keep p o h e4, notF ho hx e3 e4 hl, e4⟩
    · have q := rel.slot j a e
      cases a with
      | un => exact q
      | val d =>
        obtain ⟨v, h1, h2⟩ := q
        exact ⟨v, h1, h2.mono (lf.trans b.stp.fle)⟩
      | loc n => exact q
      | own c =>
        rename_i hn
        exact absurd e (hn c)
  · by_cases hl : Lent st σ ws a
    · exact .inl hl.own
    · have : lentF st σ ws H F a = none := by
        unfold lentF
        rw [if_neg hl]
        exact n
      rcases b.stp.new a o o' e this h with z | z
      · exact .inl (.inl z)
      · exact .inr z
  · rcases h with h | ⟨j, c, e, e'⟩
    · exact .inl (.inl h)
    · exact .inl (.inr ⟨j, c, (own_back e).1, e'⟩)
open Classical in
/-- behind a call that hands back no list: the variables' objects are theirs again -/
theorem back_lent {ws : List MP.W} {H' F' : Hp} {s' : List Cell} (rel : Rel st σ H F ρ) (b : Back ρ H (lentF st σ ws H F) H' F' s') :
    ∃ F2, Pst st { st with s := s' } σ ρ H F H' F2 ∧ LeT F' F2 ∧ Le F2 F' := by
  have lf := lentF_le rel ws
  have slotOwn : ∀ a, (∃ (i : Nat) (c : Cell), st.v[i]? = some (Slot.own c) ∧ σ[i]? = some (some (V.ref a))) → a ∉ ρ ∧ F a = none ∧ ∃ o, H a = some o ∧ H' a = some o ∧ ∀ ob xs, o ≠ .frz ob (.tup xs) := fun a ⟨i, c, h1, h2⟩ => by
    obtain ⟨p, e1, e2, e3, e4⟩ := rel.slot i _ h1
    rw [h2] at e1
    cases e1
    obtain ⟨o, ho, hx⟩ := e2.there
    exact ⟨e4, e3, o, ho, b.stp.keep _ _ ho e4, hx⟩
  refine ⟨fun a => if (∃ (i : Nat) (c : Cell), st.v[i]? = some (Slot.own c) ∧ σ[i]? = some (some (V.ref a))) then none else F' a, ?_, fun a ob xs e => ?_, fun a o e => ?_⟩
  · have le2 : ∀ a o, (if (∃ (i : Nat) (c : Cell), st.v[i]? = some (Slot.own c) ∧ σ[i]? = some (some (V.ref a))) then none else F' a) = some o → F' a = some o := fun a o e => by
      split at e
      · cases e
      · exact e
    have leF : Le F (fun a => if (∃ (i : Nat) (c : Cell), st.v[i]? = some (Slot.own c) ∧ σ[i]? = some (some (V.ref a))) then none else F' a) := fun a o e => by
      show (if _ then _ else _) = _
      rw [if_neg (fun h => by
        obtain ⟨_, h2, _⟩ := slotOwn a h
        rw [h2] at e
        cases e)]
      exact b.stp.fle _ _ (lf _ _ e)
    have leT : LeT F' (fun a => if (∃ (i : Nat) (c : Cell), st.v[i]? = some (Slot.own c) ∧ σ[i]? = some (some (V.ref a))) then none else F' a) := fun a ob xs e => by
      show (if _ then _ else _) = _
      rw [if_neg (fun h => by
        obtain ⟨_, _, o, _, h4, h5⟩ := slotOwn a h
        have := b.fh _ _ e
        rw [h4] at this
        exact h5 ob xs (Option.some.inj this))]
      exact e
    refine ⟨⟨fun a o e => b.fh _ _ (le2 a o e), rel.len, fun j a e => ?_, rel.inj, ⟨b.sto.len, b.sto.nd, fun n a c e1 e2 => ?_⟩⟩, ⟨leF, fun a o h n => b.stp.keep a o h fun z => n (.inl z), fun a o o' e n h => ?_⟩, fun a h => .inl h⟩
    · have q := rel.slot j a e
      cases a with
      | un => exact q
      | val d =>
        obtain ⟨v, h1, h2⟩ := q
        exact ⟨v, h1, h2.mono leF⟩
      | loc n => exact q
      | own c =>
        obtain ⟨p, e1, e2, e3, e4⟩ := q
        refine ⟨p, e1, e2.mono leF fun o h => b.stp.keep p o h e4, ?_, e4⟩
        show (if _ then _ else _) = _
        rw [if_pos ⟨j, c, e, e1⟩]
    · obtain ⟨h1, h2, h3⟩ := b.sto.cel n a c e1 e2
      refine ⟨h1.monoT h3 leT fun _ h => h, ?_, h3⟩
      show (if _ then _ else _) = _
      split
      · rfl
      · exact h2
    · by_cases hs : (∃ (i : Nat) (c : Cell), st.v[i]? = some (Slot.own c) ∧ σ[i]? = some (some (V.ref a)))
      · exact .inl (.inr hs)
      · have e' := le2 a o e
        have : lentF st σ ws H F a = none := by
          unfold lentF
          rw [if_neg (fun ⟨i, c, _, h2, h3⟩ => hs ⟨i, c, h2, h3⟩)]
          exact n
        rcases b.stp.new a o o' e' this h with z | z
        · exact .inl (.inl z)
        · exact .inr z
  · show (if _ then _ else _) = _
    rw [if_neg (fun h => by
      obtain ⟨_, _, o, _, h4, h5⟩ := slotOwn a h
      have := b.fh _ _ e
      rw [h4] at this
      exact h5 ob xs (Option.some.inj this))]
    exact e
  · have e : (if (∃ (i : Nat) (c : Cell), st.v[i]? = some (Slot.own c) ∧ σ[i]? = some (some (V.ref a))) then none else F' a) = some o := e
    split at e
    · cases e
    · exact e
end
end MP
set_option maxHeartbeats 2000000
/-! MPi: what the check says of the text. -/
namespace MP
open PySem L2 PySem.Spec PyProof.Rows
section
variable {N : List Str} {tb : Tb} {sc : Scope} {e : Expr}
theorem and2 {a b : Bool} (h : (a && b) = true) : a = true ∧ b = true := Bool.and_eq_true_iff.mp h
theorem chk_var {i : Nat} (h : chkE N tb sc (.var i) e = true) : ∃ x p, e = .Name x p ∧ N[i]? = some x ∧ visB sc x = true ∧ nameOk x = true := by
  cases e <;> first | (exact Bool.noConfusion (h : false = true)) | skip
  rename_i x p
  obtain ⟨h, h3⟩ := and2 h
  obtain ⟨h1, h2⟩ := and2 h
  exact ⟨x, p, rfl, of_decide_eq_true h1, h2, h3⟩
theorem chk_con {d : D} (h : chkE N tb sc (.con d) e = true) : (∃ i k p, d = .int i ∧ e = .Constant (.int i) k p) ∨ (∃ i k p, d = .bool i ∧ e = .Constant (.bool i) k p) ∨ (∃ k p, d = .none ∧ e = .Constant .none k p) ∨ (∃ i k p, d = .str i ∧ e = .Constant (.str i) k p) := by
  cases d <;> cases e <;> first | (exact Bool.noConfusion (h : false = true)) | skip
  · rename_i c k p
    cases c <;> first | (exact Bool.noConfusion (h : false = true)) | skip
    exact .inr (.inr (.inl ⟨k, p, rfl, rfl⟩))
  · rename_i b c k p
    cases c <;> first | (exact Bool.noConfusion (h : false = true)) | skip
    rename_i b2
    have h : (b == b2) = true := h
    cases beq_iff_eq.mp h
    exact .inr (.inl ⟨_, k, p, rfl, rfl⟩)
  · rename_i b c k p
    cases c <;> first | (exact Bool.noConfusion (h : false = true)) | skip
    rename_i b2
    have h : (b == b2) = true := h
    cases beq_iff_eq.mp h
    exact .inl ⟨_, k, p, rfl, rfl⟩
  · rename_i b c k p
    cases c <;> first | (exact Bool.noConfusion (h : false = true)) | skip
    rename_i b2
    have h : (b == b2) = true := h
    cases beq_iff_eq.mp h
    exact .inr (.inr (.inr ⟨_, k, p, rfl, rfl⟩))
theorem chk_glo {x : Str} {i : Int} (h : chkE N tb sc (.glo x i) e = true) : ∃ p, e = .Name x p ∧ gloB sc x = true ∧ nameOk x = true ∧ tb.gl.contains (x, i) = true := by
  cases e <;> first | (exact Bool.noConfusion (h : false = true)) | skip
  rename_i y p
  obtain ⟨h, h4⟩ := and2 h
  obtain ⟨h, h3⟩ := and2 h
  obtain ⟨h1, h2⟩ := and2 h
  cases beq_iff_eq.mp h1
  exact ⟨p, rfl, h2, h3, h4⟩
theorem chk_tup {es : Exs} (h : chkE N tb sc (.tup es) e = true) : ∃ xs k p, e = .Tuple xs k p ∧ chkEs N tb sc es xs = true ∧ xs.length < 1000 := by
  cases e <;> first | (exact Bool.noConfusion (h : false = true)) | skip
  obtain ⟨h1, h2⟩ := and2 h
  exact ⟨_, _, _, rfl, h1, of_decide_eq_true h2⟩
theorem chk_lst {es : Exs} (h : chkE N tb sc (.lst es) e = true) : ∃ xs p, e = .List xs p ∧ chkEs N tb sc es xs = true ∧ xs.length < 1000 := by
  cases e <;> first | (exact Bool.noConfusion (h : false = true)) | skip
  obtain ⟨h1, h2⟩ := and2 h
  exact ⟨_, _, rfl, h1, of_decide_eq_true h2⟩
theorem chk_bin {o : Operator} {a b : Ex} (h : chkE N tb sc (.bin o a b) e = true) : ∃ x y p, e = .BinOp x o y p ∧ chkE N tb sc a x = true ∧ chkE N tb sc b y = true := by
  cases e <;> first | (exact Bool.noConfusion (h : false = true)) | skip
  obtain ⟨h, h3⟩ := and2 h
  obtain ⟨h1, h2⟩ := and2 h
  cases beq_iff_eq.mp h1
  exact ⟨_, _, _, rfl, h2, h3⟩
theorem chk_neg {a : Ex} (h : chkE N tb sc (.neg a) e = true) : ∃ x p, e = .UnaryOp .USub x p ∧ chkE N tb sc a x = true := by
  cases e <;> first | (exact Bool.noConfusion (h : false = true)) | skip
  rename_i o x p
  cases o <;> first | (exact Bool.noConfusion (h : false = true)) | skip
  exact ⟨_, _, rfl, h⟩
theorem chk_not {a : Ex} (h : chkE N tb sc (.not a) e = true) : ∃ x p, e = .UnaryOp .Not x p ∧ chkE N tb sc a x = true := by
  cases e <;> first | (exact Bool.noConfusion (h : false = true)) | skip
  rename_i o x p
  cases o <;> first | (exact Bool.noConfusion (h : false = true)) | skip
  exact ⟨_, _, rfl, h⟩
theorem chk_cmp {o : CmpOp} {a b : Ex} (h : chkE N tb sc (.cmp o a b) e = true) : ∃ x y p, e = .Compare x [o] [y] p ∧ chkE N tb sc a x = true ∧ chkE N tb sc b y = true := by
  cases e <;> first | (exact Bool.noConfusion (h : false = true)) | skip
  rename_i x os ys p
  cases os with
  | nil => exact Bool.noConfusion (h : false = true)
  | cons o1 os =>
    cases os with
    | cons _ _ => exact Bool.noConfusion (h : false = true)
    | nil =>
      cases ys with
      | nil => exact Bool.noConfusion (h : false = true)
      | cons y ys =>
        cases ys with
        | cons _ _ => exact Bool.noConfusion (h : false = true)
        | nil =>
          obtain ⟨h, h3⟩ := and2 h
          obtain ⟨h1, h2⟩ := and2 h
          cases beq_iff_eq.mp h1
          exact ⟨_, _, _, rfl, h2, h3⟩
theorem chk_chain {o o2 : CmpOp} {a b c : Ex} (h : chkE N tb sc (.chain o o2 a b c) e = true) : ∃ x y z p, e = .Compare x [o, o2] [y, z] p ∧ chkE N tb sc a x = true ∧ chkE N tb sc b y = true ∧ chkE N tb sc c z = true := by
  cases e <;> first | (exact Bool.noConfusion (h : false = true)) | skip
  rename_i x os ys p
  cases os with
  | nil => exact Bool.noConfusion (h : false = true)
  | cons o1 os =>
    cases os with
    | nil => exact Bool.noConfusion (h : false = true)
    | cons o3 os =>
      cases os with
      | cons _ _ => exact Bool.noConfusion (h : false = true)
      | nil =>
        cases ys with
        | nil => exact Bool.noConfusion (h : false = true)
        | cons y ys =>
          cases ys with
          | nil => exact Bool.noConfusion (h : false = true)
          | cons z ys =>
            cases ys with
            | cons _ _ => exact Bool.noConfusion (h : false = true)
            | nil =>
              obtain ⟨h, h5⟩ := and2 h
              obtain ⟨h, h4⟩ := and2 h
              obtain ⟨h, h3⟩ := and2 h
              obtain ⟨h1, h2⟩ := and2 h
              cases beq_iff_eq.mp h1
              cases beq_iff_eq.mp h2
              exact ⟨_, _, _, _, rfl, h3, h4, h5⟩
theorem chk_and {a b : Ex} (h : chkE N tb sc (.and a b) e = true) : ∃ x y r p, e = .BoolOp .And (x :: y :: r) p ∧ chkE N tb sc a x = true ∧ chkE N tb sc b (.BoolOp .And (y :: r) p) = true := by
  cases e <;> first | (exact Bool.noConfusion (h : false = true)) | skip
  rename_i o xs p
  cases o <;> first | (exact Bool.noConfusion (h : false = true)) | skip
  cases xs with
  | nil => exact Bool.noConfusion (h : false = true)
  | cons x xs =>
    cases xs with
    | nil => exact Bool.noConfusion (h : false = true)
    | cons y r =>
      obtain ⟨h1, h2⟩ := and2 h
      exact ⟨_, _, _, _, rfl, h1, h2⟩
theorem chk_or {a b : Ex} (h : chkE N tb sc (.or a b) e = true) : ∃ x y r p, e = .BoolOp .Or (x :: y :: r) p ∧ chkE N tb sc a x = true ∧ chkE N tb sc b (.BoolOp .Or (y :: r) p) = true := by
  cases e <;> first | (exact Bool.noConfusion (h : false = true)) | skip
  rename_i o xs p
  cases o <;> first | (exact Bool.noConfusion (h : false = true)) | skip
  cases xs with
  | nil => exact Bool.noConfusion (h : false = true)
  | cons x xs =>
    cases xs with
    | nil => exact Bool.noConfusion (h : false = true)
    | cons y r =>
      obtain ⟨h1, h2⟩ := and2 h
      exact ⟨_, _, _, _, rfl, h1, h2⟩
theorem chk_one {a : Ex} (h : chkE N tb sc (.one a) e = true) : ∃ o x p, e = .BoolOp o [x] p ∧ chkE N tb sc a x = true := by
  cases e <;> first | (exact Bool.noConfusion (h : false = true)) | skip
  rename_i o xs p
  cases xs with
  | nil => exact Bool.noConfusion (h : false = true)
  | cons x xs =>
    cases xs with
    | nil => exact ⟨_, _, _, rfl, h⟩
    | cons y r => exact Bool.noConfusion (h : false = true)
theorem chk_ifx {c a b : Ex} (h : chkE N tb sc (.ifx c a b) e = true) : ∃ z x y p, e = .IfExp z x y p ∧ chkE N tb sc c z = true ∧ chkE N tb sc a x = true ∧ chkE N tb sc b y = true := by
  cases e <;> first | (exact Bool.noConfusion (h : false = true)) | skip
  obtain ⟨h, h3⟩ := and2 h
  obtain ⟨h1, h2⟩ := and2 h
  exact ⟨_, _, _, _, rfl, h1, h2, h3⟩
theorem chk_idx {a b : Ex} (h : chkE N tb sc (.idx a b) e = true) : ∃ x y p, e = .Subscript x y p ∧ chkE N tb sc a x = true ∧ chkE N tb sc b y = true := by
  cases e <;> first | (exact Bool.noConfusion (h : false = true)) | skip
  obtain ⟨h1, h2⟩ := and2 h
  exact ⟨_, _, _, rfl, h1, h2⟩
theorem chk_sli {a : Ex} {lo hi : Exo} (h : chkE N tb sc (.sli a lo hi) e = true) : ∃ x l u p p2, e = .Subscript x (.Slice l u none p2) p ∧ chkE N tb sc a x = true ∧ chkO N tb sc lo l = true ∧ chkO N tb sc hi u = true := by
  cases e <;> first | (exact Bool.noConfusion (h : false = true)) | skip
  rename_i x s p
  cases s <;> first | (exact Bool.noConfusion (h : false = true)) | skip
  rename_i l u st p2
  cases st <;> first | (exact Bool.noConfusion (h : false = true)) | skip
  obtain ⟨h, h3⟩ := and2 h
  obtain ⟨h1, h2⟩ := and2 h
  exact ⟨_, _, _, _, _, rfl, h1, h2, h3⟩
theorem chk_rev {a : Ex} (h : chkE N tb sc (.rev a) e = true) : ∃ x k p1 p2 p3 p, e = .Subscript x (.Slice none none (some (.UnaryOp .USub (.Constant (.int 1) k p1) p2)) p3) p ∧ chkE N tb sc a x = true := by
  cases e <;> first | (exact Bool.noConfusion (h : false = true)) | skip
  rename_i x s p
  cases s <;> first | (exact Bool.noConfusion (h : false = true)) | skip
  rename_i l u st p3
  cases l <;> first | (exact Bool.noConfusion (h : false = true)) | skip
  cases u <;> first | (exact Bool.noConfusion (h : false = true)) | skip
  cases st <;> first | (exact Bool.noConfusion (h : false = true)) | skip
  rename_i y
  cases y <;> first | (exact Bool.noConfusion (h : false = true)) | skip
  rename_i o y p2
  cases o <;> first | (exact Bool.noConfusion (h : false = true)) | skip
  cases y <;> first | (exact Bool.noConfusion (h : false = true)) | skip
  rename_i c k p1
  cases c <;> first | (exact Bool.noConfusion (h : false = true)) | skip
  rename_i i
  obtain ⟨h1, h2⟩ := and2 h
  cases beq_iff_eq.mp h1
  exact ⟨_, _, _, _, _, _, rfl, h2⟩
theorem chk_call {f : Str} {a : Ex} {es : Exs} (h : chkE N tb sc (.call f a es) e = true) : ∃ x xs p0 p, e = .Call (.Name f p0) (x :: xs) [] p ∧ gloB sc f = true ∧ nameOk f = true ∧ tb.fs.contains f = true ∧ chkE N tb sc a x = true ∧ chkEs N tb sc es xs = true := by
  cases e <;> first | (exact Bool.noConfusion (h : false = true)) | skip
  rename_i fn xs ks p
  cases fn <;> first | (exact Bool.noConfusion (h : false = true)) | skip
  rename_i g p0
  cases xs <;> first | (exact Bool.noConfusion (h : false = true)) | skip
  cases ks <;> first | (exact Bool.noConfusion (h : false = true)) | skip
  obtain ⟨h, h6⟩ := and2 h
  obtain ⟨h, h5⟩ := and2 h
  obtain ⟨h, h4⟩ := and2 h
  obtain ⟨h, h3⟩ := and2 h
  obtain ⟨h1, h2⟩ := and2 h
  cases beq_iff_eq.mp h1
  exact ⟨_, _, _, _, rfl, h2, h3, h4, h5, h6⟩
theorem call1_eq {g : Str} {x : Expr} (h : call1 e = some (g, x)) : ∃ p0 p, e = .Call (.Name g p0) [x] [] p := by
  unfold call1 at h
  split at h
  · cases h
    exact ⟨_, _, rfl⟩
  · cases h
theorem call2_eq {g : Str} {x y : Expr} (h : call2 e = some (g, x, y)) : ∃ p0 p, e = .Call (.Name g p0) [x, y] [] p := by
  unfold call2 at h
  split at h
  · cases h
    exact ⟨_, _, rfl⟩
  · cases h
theorem comp1_eq {x t i : Expr} {ifs : List Expr} {scope : Scope} (h : comp1 e = some (x, t, i, ifs, scope)) : ∃ p, e = .ListComp x [⟨t, i, ifs, 0⟩] scope p := by
  unfold comp1 at h
  split at h
  · cases h
    exact ⟨_, rfl⟩
  · cases h
theorem chk_lens {a : Ex} (h : chkE N tb sc (.lens a) e = true) : ∃ x p0 p1 p2 p, e = .Call (.Name "len" p0) [.Call (.Name "set" p1) [x] [] p2] [] p ∧ gloB sc "len" = true ∧ gloB sc "set" = true ∧ chkE N tb sc a x = true := by
  simp only [chkE] at h
  split at h
  · rename_i g y he
    split at h
    · rename_i hh x hy
      obtain ⟨p0, p, rfl⟩ := call1_eq he
      obtain ⟨p1, p2, rfl⟩ := call1_eq hy
      obtain ⟨h, h5⟩ := and2 h
      obtain ⟨h, h4⟩ := and2 h
      obtain ⟨h, h3⟩ := and2 h
      obtain ⟨h1, h2⟩ := and2 h
      cases beq_iff_eq.mp h1
      cases beq_iff_eq.mp h2
      exact ⟨_, _, _, _, _, rfl, h3, h4, h5⟩
    · cases h
  · cases h
theorem chk_srtS {a : Ex} (h : chkE N tb sc (.srtS a) e = true) : ∃ x p0 p1 p2 p, e = .Call (.Name "sorted" p0) [.Call (.Name "set" p1) [x] [] p2] [] p ∧ gloB sc "sorted" = true ∧ gloB sc "set" = true ∧ chkE N tb sc a x = true := by
  simp only [chkE] at h
  split at h
  · rename_i g y he
    split at h
    · rename_i hh x hy
      obtain ⟨p0, p, rfl⟩ := call1_eq he
      obtain ⟨p1, p2, rfl⟩ := call1_eq hy
      obtain ⟨h, h5⟩ := and2 h
      obtain ⟨h, h4⟩ := and2 h
      obtain ⟨h, h3⟩ := and2 h
      obtain ⟨h1, h2⟩ := and2 h
      cases beq_iff_eq.mp h1
      cases beq_iff_eq.mp h2
      exact ⟨_, _, _, _, _, rfl, h3, h4, h5⟩
    · cases h
  · cases h
theorem chk_blt {f : Blt} {a : Ex} (h : chkE N tb sc (.blt f a) e = true) : ∃ x p0 p, e = .Call (.Name (bltName f) p0) [x] [] p ∧ gloB sc (bltName f) = true ∧ chkE N tb sc a x = true := by
  simp only [chkE] at h
  split at h
  · rename_i g x he
    obtain ⟨p0, p, rfl⟩ := call1_eq he
    obtain ⟨h, h3⟩ := and2 h
    obtain ⟨h1, h2⟩ := and2 h
    cases beq_iff_eq.mp h1
    exact ⟨_, _, _, rfl, h2, h3⟩
  · cases h
theorem chk_trg1 {b : Ex} (h : chkE N tb sc (.trg1 b) e = true) : ∃ y p0 p1 p2 p, e = .Call (.Name "tuple" p0) [.Call (.Name "range" p1) [y] [] p2] [] p ∧ gloB sc "tuple" = true ∧ gloB sc "range" = true ∧ chkE N tb sc b y = true := by
  simp only [chkE] at h
  split at h
  · rename_i g y he
    split at h
    · rename_i hh x hy
      obtain ⟨p0, p, rfl⟩ := call1_eq he
      obtain ⟨p1, p2, rfl⟩ := call1_eq hy
      obtain ⟨h, h5⟩ := and2 h
      obtain ⟨h, h4⟩ := and2 h
      obtain ⟨h, h3⟩ := and2 h
      obtain ⟨h1, h2⟩ := and2 h
      cases beq_iff_eq.mp h1
      cases beq_iff_eq.mp h2
      exact ⟨_, _, _, _, _, rfl, h3, h4, h5⟩
    · cases h
  · cases h
theorem chk_trg2 {a b : Ex} (h : chkE N tb sc (.trg2 a b) e = true) : ∃ x y p0 p1 p2 p, e = .Call (.Name "tuple" p0) [.Call (.Name "range" p1) [x, y] [] p2] [] p ∧ gloB sc "tuple" = true ∧ gloB sc "range" = true ∧ chkE N tb sc a x = true ∧ chkE N tb sc b y = true := by
  simp only [chkE] at h
  split at h
  · rename_i g y he
    split at h
    · rename_i hh x y hy
      obtain ⟨p0, p, rfl⟩ := call1_eq he
      obtain ⟨p1, p2, rfl⟩ := call2_eq hy
      obtain ⟨h, h6⟩ := and2 h
      obtain ⟨h, h5⟩ := and2 h
      obtain ⟨h, h4⟩ := and2 h
      obtain ⟨h, h3⟩ := and2 h
      obtain ⟨h1, h2⟩ := and2 h
      cases beq_iff_eq.mp h1
      cases beq_iff_eq.mp h2
      exact ⟨_, _, _, _, _, _, rfl, h3, h4, h5, h6⟩
    · cases h
  · cases h
theorem chk_isi {a : Ex} {ts : List String} (h : chkE N tb sc (.isi a ts) e = true) : ∃ x t p0 p, e = .Call (.Name "isinstance" p0) [x, t] [] p ∧ gloB sc "isinstance" = true ∧ tyOk sc ts t = true ∧ chkE N tb sc a x = true := by
  simp only [chkE] at h
  split at h
  · rename_i g x t he
    obtain ⟨p0, p, rfl⟩ := call2_eq he
    obtain ⟨h, h4⟩ := and2 h
    obtain ⟨h, h3⟩ := and2 h
    obtain ⟨h1, h2⟩ := and2 h
    cases beq_iff_eq.mp h1
    exact ⟨_, _, _, _, rfl, h2, h3, h4⟩
  · cases h
theorem chk_mth {m : Mth} {o : Ex} {es : Exs} (h : chkE N tb sc (.mth m o es) e = true) : ∃ x xs apos p, e = .Call (.Attribute x (mthName m) apos) xs [] p ∧ (apos.endLine == p.line) = true ∧ (chkE N tb sc o x = true ∧ notCall0 x = true) ∧ chkEs N tb sc es xs = true ∧ xs.length < 20 := by
  cases e <;> first | (exact Bool.noConfusion (h : false = true)) | skip
  rename_i fn xs ks p
  cases fn <;> first | (exact Bool.noConfusion (h : false = true)) | skip
  rename_i x nm apos
  cases ks <;> first | (exact Bool.noConfusion (h : false = true)) | skip
  obtain ⟨h, h5⟩ := and2 h
  obtain ⟨h, h4⟩ := and2 h
  obtain ⟨h, h3⟩ := and2 h
  obtain ⟨h1, h2⟩ := and2 h
  cases beq_iff_eq.mp h1
  exact ⟨_, _, _, _, rfl, h2, and2 h3, h4, of_decide_eq_true h5⟩
theorem chk_comp {elt : Ex} {tg : Tgt} {it : It} {cond : Exo} (h : chkE N tb sc (.comp elt tg it cond) e = true) : ∃ x t i ifs scope p, e = .ListComp x [⟨t, i, ifs, 0⟩] scope p ∧ blkC N sc scope (ownOf N tg) = true ∧ chkT (ownC scope) N (relS scope sc) tg t = true ∧ chkI N tb sc tg it i = true ∧
    chkE N tb (relS scope sc) elt x = true ∧ chkC N tb (relS scope sc) cond ifs = true := by
  simp only [chkE] at h
  split at h
  · rename_i x t i ifs scope he
    obtain ⟨p, rfl⟩ := comp1_eq he
    obtain ⟨h, h5⟩ := and2 h
    obtain ⟨h, h4⟩ := and2 h
    obtain ⟨h, h3⟩ := and2 h
    obtain ⟨h1, h2⟩ := and2 h
    exact ⟨_, _, _, _, _, _, rfl, h1, h2, h3, h4, h5⟩
  · cases h
theorem comp2_eq {x t i t1 i1 : Expr} {ifs ifs1 : List Expr} {scope : Scope} (h : comp2q e = some (x, t, i, ifs, t1, i1, ifs1, scope)) : ∃ p, e = .ListComp x [⟨t, i, ifs, 0⟩, ⟨t1, i1, ifs1, 0⟩] scope p := by
  unfold comp2q at h
  split at h
  · cases h
    exact ⟨_, rfl⟩
  · cases h
theorem chk_comp2 {elt : Ex} {tg tg1 : Tgt} {it it1 : It} {cond cond1 : Exo} (h : chkE N tb sc (.comp2 elt tg it cond tg1 it1 cond1) e = true) : ∃ x t i ifs t1 i1 ifs1 scope p, e = .ListComp x [⟨t, i, ifs, 0⟩, ⟨t1, i1, ifs1, 0⟩] scope p ∧ blkC N sc scope (ownOf N tg ++ ownOf N tg1) = true ∧
    chkT (ownC scope) N (relS scope sc) tg t = true ∧ chkI N tb sc tg it i = true ∧ chkE N tb (relS scope sc) elt x = true ∧ chkC N tb (relS scope sc) cond ifs = true ∧ chkT (ownC scope) N (relS scope sc) tg1 t1 = true ∧ chkI N tb (relS scope sc) tg1 it1 i1 = true ∧ chkC N tb (relS scope sc) cond1 ifs1 = true := by
  simp only [chkE] at h
  split at h
  · rename_i x t i ifs t1 i1 ifs1 scope he
    obtain ⟨p, rfl⟩ := comp2_eq he
    obtain ⟨h, h8⟩ := and2 h
    obtain ⟨h, h7⟩ := and2 h
    obtain ⟨h, h6⟩ := and2 h
    obtain ⟨h, h5⟩ := and2 h
    obtain ⟨h, h4⟩ := and2 h
    obtain ⟨h, h3⟩ := and2 h
    obtain ⟨h1, h2⟩ := and2 h
    exact ⟨_, _, _, _, _, _, _, _, _, rfl, h1, h2, h3, h4, h5, h6, h7, h8⟩
  · cases h
theorem chk_dnew (h : chkE N tb sc .dnew e = true) : ∃ p, e = .Dict [] [] p := by
  cases e <;> first | (exact Bool.noConfusion (h : false = true)) | skip
  rename_i ks vs p
  cases ks <;> first | (exact Bool.noConfusion (h : false = true)) | skip
  cases vs <;> first | (exact Bool.noConfusion (h : false = true)) | skip
  exact ⟨_, rfl⟩
theorem chk_dis {a b : Ex} (h : chkE N tb sc (.dis a b) e = true) : ∃ x y p, e = .Dict [some x] [y] p ∧ chkE N tb sc a x = true ∧ chkE N tb sc b y = true := by
  cases e <;> first | (exact Bool.noConfusion (h : false = true)) | skip
  rename_i ks vs p
  cases ks <;> first | (exact Bool.noConfusion (h : false = true)) | skip
  rename_i k ks
  cases k <;> first | (exact Bool.noConfusion (h : false = true)) | skip
  cases ks <;> first | (exact Bool.noConfusion (h : false = true)) | skip
  cases vs <;> first | (exact Bool.noConfusion (h : false = true)) | skip
  rename_i v vs
  cases vs <;> first | (exact Bool.noConfusion (h : false = true)) | skip
  obtain ⟨h1, h2⟩ := and2 h
  exact ⟨_, _, _, rfl, h1, h2⟩
theorem chk_disT {a b : Ex} (h : chkE N tb sc (.disT a b) e = true) : ∃ x y p, e = .Dict [some x] [y] p ∧ chkE N tb sc a x = true ∧ chkE N tb sc b y = true := by
  cases e <;> first | (exact Bool.noConfusion (h : false = true)) | skip
  rename_i ks vs p
  cases ks <;> first | (exact Bool.noConfusion (h : false = true)) | skip
  rename_i k ks
  cases k <;> first | (exact Bool.noConfusion (h : false = true)) | skip
  cases ks <;> first | (exact Bool.noConfusion (h : false = true)) | skip
  cases vs <;> first | (exact Bool.noConfusion (h : false = true)) | skip
  rename_i v vs
  cases vs <;> first | (exact Bool.noConfusion (h : false = true)) | skip
  obtain ⟨h1, h2⟩ := and2 h
  exact ⟨_, _, _, rfl, h1, h2⟩
theorem chk_mm2 {mx : Bool} {a b : Ex} (h : chkE N tb sc (.mm2 mx a b) e = true) : ∃ x y p0 p, e = .Call (.Name (if mx then "max" else "min" : Str) p0) [x, y] [] p ∧ gloB sc (if mx then "max" else "min" : Str) = true ∧ chkE N tb sc a x = true ∧ chkE N tb sc b y = true := by
  simp only [chkE] at h
  split at h
  · rename_i g x y he
    obtain ⟨p0, p, rfl⟩ := call2_eq he
    obtain ⟨h, h4⟩ := and2 h
    obtain ⟨h, h3⟩ := and2 h
    obtain ⟨h1, h2⟩ := and2 h
    have := beq_iff_eq.mp h1
    subst this
    exact ⟨_, _, _, _, rfl, h2, h3, h4⟩
  · cases h
theorem chk_call0 {f : Str} (h : chkE N tb sc (.call0 f) e = true) : ∃ p0 p, e = .Call (.Name f p0) [] [] p ∧ gloB sc f = true ∧ nameOk f = true ∧ tb.fs.contains f = true := by
  cases e <;> first | (exact Bool.noConfusion (h : false = true)) | skip
  rename_i fn xs ks p
  cases fn <;> first | (exact Bool.noConfusion (h : false = true)) | skip
  rename_i g p0
  cases xs <;> first | (exact Bool.noConfusion (h : false = true)) | skip
  cases ks <;> first | (exact Bool.noConfusion (h : false = true)) | skip
  obtain ⟨h, h4⟩ := and2 h
  obtain ⟨h, h3⟩ := and2 h
  obtain ⟨h1, h2⟩ := and2 h
  cases beq_iff_eq.mp h1
  exact ⟨_, _, rfl, h2, h3, h4⟩
theorem chk_srtT {a : Ex} (h : chkE N tb sc (.srtT a) e = true) : ∃ x p0 p, e = .Call (.Name "sorted" p0) [x] [] p ∧ gloB sc "sorted" = true ∧ chkE N tb sc a x = true := by
  simp only [chkE] at h
  split at h
  · rename_i g x he
    obtain ⟨p0, p, rfl⟩ := call1_eq he
    obtain ⟨h, h3⟩ := and2 h
    obtain ⟨h1, h2⟩ := and2 h
    cases beq_iff_eq.mp h1
    exact ⟨_, _, _, rfl, h2, h3⟩
  · cases h

theorem chk_srtK {a : Ex} (h : chkE N tb sc (.srtK a) e = true) : ∃ x p0 p, e = .Call (.Name "sorted" p0) [x] [] p ∧ gloB sc "sorted" = true ∧ chkE N tb sc a x = true := by
  simp only [chkE] at h
  split at h
  · rename_i g x he
    obtain ⟨p0, p, rfl⟩ := call1_eq he
    obtain ⟨h, h3⟩ := and2 h
    obtain ⟨h1, h2⟩ := and2 h
    cases beq_iff_eq.mp h1
    exact ⟨_, _, _, rfl, h2, h3⟩
  · cases h
theorem chk_lensL {a : Ex} (h : chkE N tb sc (.lensL a) e = true) : ∃ x p0 p1 p2 p, e = .Call (.Name "len" p0) [.Call (.Name "set" p1) [x] [] p2] [] p ∧ gloB sc "len" = true ∧ gloB sc "set" = true ∧ chkE N tb sc a x = true := by
  simp only [chkE] at h
  split at h
  · rename_i g y he
    split at h
    · rename_i hh x hy
      obtain ⟨p0, p, rfl⟩ := call1_eq he
      obtain ⟨p1, p2, rfl⟩ := call1_eq hy
      obtain ⟨h, h5⟩ := and2 h
      obtain ⟨h, h4⟩ := and2 h
      obtain ⟨h, h3⟩ := and2 h
      obtain ⟨h1, h2⟩ := and2 h
      cases beq_iff_eq.mp h1
      cases beq_iff_eq.mp h2
      exact ⟨_, _, _, _, _, rfl, h3, h4, h5⟩
    · cases h
  · cases h
theorem chk_lzip {a b : Ex} (h : chkE N tb sc (.lzip a b) e = true) : ∃ x y p0 p1 p2 p, e = .Call (.Name "list" p0) [.Call (.Name "zip" p1) [x, y] [] p2] [] p ∧ gloB sc "list" = true ∧ gloB sc "zip" = true ∧ chkE N tb sc a x = true ∧ chkE N tb sc b y = true := by
  simp only [chkE] at h
  split at h
  · rename_i g y he
    split at h
    · rename_i hh x hy
      obtain ⟨p0, p, rfl⟩ := call1_eq he
      obtain ⟨p1, p2, rfl⟩ := call2_eq hy
      obtain ⟨h, h6⟩ := and2 h
      obtain ⟨h, h5⟩ := and2 h
      obtain ⟨h, h4⟩ := and2 h
      obtain ⟨h, h3⟩ := and2 h
      obtain ⟨h1, h2⟩ := and2 h
      cases beq_iff_eq.mp h1
      cases beq_iff_eq.mp h2
      exact ⟨_, _, _, _, _, _, rfl, h3, h4, h5, h6⟩
    · cases h
  · cases h

/-! ### what no text of ours is -/
def badE : Expr → Bool
  | .Starred _ _ => true
  | .Slice _ _ _ _ => true
  | .SetComp _ _ _ _ => true
  | .DictComp _ _ _ _ _ => true
  | .Set _ _ _ => true
  | .NamedExpr _ _ _ => true
  | _ => false
theorem chk_bad {ir : Ex} (hb : badE e = true) : chkE N tb sc ir e = true → False := by
  intro h
  cases e <;> first | (exact Bool.noConfusion (hb : false = true)) | skip
  all_goals (cases ir <;> first | (exact Bool.noConfusion (h : false = true)) | skip)
  all_goals (first | (rename_i d; cases d <;> exact Bool.noConfusion (h : false = true)) | skip)
theorem chk_good {ir : Ex} (h : chkE N tb sc ir e = true) : badE e = false := by
  cases hb : badE e with
  | false => rfl
  | true => exact (chk_bad hb h).elim
theorem chkEs_cons {a : Ex} {es : Exs} {x : Expr} {xs : List Expr} (h : chkEs N tb sc (.cons a es) (x :: xs) = true) : chkE N tb sc a x = true ∧ chkEs N tb sc es xs = true := and2 h
theorem star_cons {es : List Expr} {env : Env} (h : badE e = false) : starEach (e :: es) env = (false, eval e env) :: starEach es env := by
  cases e <;> first | rfl | (exact Bool.noConfusion (h : true = false))
theorem plain_ix (h : badE e = false) : PlainIx e := by
  cases e <;> first | (exact fun _ _ => rfl) | (exact Bool.noConfusion (h : true = false))
theorem star_none {env : Env} {pos : Pos} : ∀ {es : Exs} {xs : List Expr}, chkEs N tb sc es xs = true → (backTo pos (starEach xs env)).any (·.1) = false ∧ (backTo pos (starEach xs env)).all (fun x => !x.1) = true
  | .nil, [], _ => ⟨rfl, rfl⟩
  | .nil, _ :: _, h => Bool.noConfusion (h : false = true)
  | .cons _ _, [], h => Bool.noConfusion (h : false = true)
  | .cons a es, x :: xs, h => by
    obtain ⟨h1, h2⟩ := chkEs_cons h
    obtain ⟨h3, h4⟩ := star_none (env := env) (pos := pos) h2
    rw [star_cons (chk_good h1)]
    unfold backTo at h3 h4 ⊢
    rw [List.map_cons, List.any_cons, List.all_cons, h3, h4]
    exact ⟨rfl, rfl⟩
theorem folded_not_set (h : badE e = false) (env : Env) : ∀ x, foldedSetIterable e env x = pure x := by
  cases e <;> first | (intro x; rfl) | (exact Bool.noConfusion (h : true = false))
theorem behind_ok {o : CmpOp} (h : badE e = false) : behindInMarks o e = false := by
  cases e <;> first | rfl | (exact Bool.noConfusion (h : true = false))
theorem attr_base {ir : Ex} {nm : Str} {env : Env} (h' : chkE N tb sc ir e = true ∧ notCall0 e = true) : attributeBase e nm env (eval e env) = eval e env := by
  obtain ⟨h, hn⟩ := h'
  cases e <;> first | rfl | skip
  rename_i f xs ks p
  cases xs with
  | cons x xs => cases f <;> rfl
  | nil => exact Bool.noConfusion (hn : false = true)
end
end MP
set_option maxHeartbeats 2000000
/-! MPj: right about each kind of expression. -/
namespace MP
open PySem L2 PySem.Spec PyProof.Rows
variable [WI]
section
variable {X : Cx} {cf : CallF} {W : WX} {cl : Str → Addr} {tb : Tb}
omit [WI] in
theorem vis_of {sc : Scope} {x : Str} (h : visB sc x = true) : Vis sc x := by
  unfold visB at h
  split at h
  · exact .inl (by assumption)
  · exact .inr (.inl (by assumption))
  · exact .inr (.inr (by assumption))
  · cases h
omit [WI] in
theorem gl_of {x : Str} (h : gloB X.env.scope x = true) : Gl X x := by
  unfold gloB at h
  split at h
  · assumption
  · cases h
omit [WI] in
theorem name_dbg {x : Str} (h : nameOk x = true) : (x == ("__debug__" : Str)) = false ∧ (x == ("__classdict__" : Str)) = false := by
  obtain ⟨h1, h2⟩ := and2 h
  exact ⟨by simpa using h1, by simpa using h2⟩

/-! ### names and constants -/
theorem se_var {i : Nat} {x : Str} {p : Pos} (hN : X.N[i]? = some x) (hv : visB X.env.scope x = true) (hn : nameOk x = true) : SE X cf W cl (.var i) (.Name x p) := by
  intro st σ H F ρ r Q rel h hx fin
  have h : (st.look i).bind (fun w => some (R.ok w st)) = some r := h
  simp only [Option.bind_eq_some_iff] at h
  obtain ⟨w, h1, h2⟩ := h
  cases h2
  refine tE_of (pe_var hN (vis_of hv) (name_dbg hn).1 (name_dbg hn).2) ?_
  unfold St.look at h1
  split at h1
  · rename_i d hd
    cases h1
    obtain ⟨v, e1, e2⟩ := rel.slot i _ hd
    exact ⟨v, e1, fin _ _ rfl v H F (Pst.refl rel) e2 True.intro⟩
  · rename_i n hn
    cases h1
    obtain ⟨a, e1, e2⟩ := rel.slot i _ hn
    exact ⟨.ref a, e2, fin _ _ rfl _ H F (Pst.refl rel) ⟨a, e1, rfl⟩ True.intro⟩
  · rename_i c hc
    cases h1
    obtain ⟨q, e1, _⟩ := rel.slot i _ hc
    exact ⟨.ref q, e1, fin _ _ rfl _ H F (Pst.refl rel) e1 True.intro⟩
  · cases h1
theorem se_con {d : D} {e : Expr} {sc : Scope} {N : List Str} (h : chkE N tb sc (.con d) e = true) : SE X cf W cl (.con d) e := by
  intro st σ H F ρ r Q rel hk hx fin
  have hk := ret_inv hk
  subst hk
  rcases chk_con h with ⟨i, k, p, rfl, rfl⟩ | ⟨i, k, p, rfl, rfl⟩ | ⟨k, p, rfl, rfl⟩ | ⟨i, k, p, rfl, rfl⟩
  · exact tE_of pe_int (fin _ _ rfl _ H F (Pst.refl rel) (.int _) True.intro)
  · exact tE_of pe_bl (fin _ _ rfl _ H F (Pst.refl rel) (.bl _) True.intro)
  · exact tE_of pe_non (fin _ _ rfl _ H F (Pst.refl rel) .non True.intro)
  · exact tE_of pe_str (fin _ _ rfl _ H F (Pst.refl rel) (.str _) True.intro)
theorem se_glo {x : Str} {i : Int} {p : Pos} (ok : Ok X cf W cl tb) (hg : gloB X.env.scope x = true) (hn : nameOk x = true) (hc : tb.gl.contains (x, i) = true) : SE X cf W cl (.glo x i) (.Name x p) := by
  intro st σ H F ρ r Q rel hk hx fin
  have hk := ret_inv hk
  subst hk
  obtain ⟨t, ht⟩ := ok.glo x i hc
  exact tE_of (pe_glob (v := .int i) (gl_of hg) ht ⟨t, rfl⟩ (name_dbg hn).1) (fin _ _ rfl _ H F (Pst.refl rel) (.int _) True.intro)

/-! ### lists of expressions -/
def SKs (X : Cx) (cf : CallF) (W : WX) (cl : Str → Addr) (es : Exs) (xs : List Expr) : Prop := ∀ (β : Type) (k : List D → M β) (st : MP.St) (σ : L2.St) (H F : Hp) (ρ : List Addr) (r : R β) (Q : List V → Hp → Prop), Rel st σ H F ρ → M.bind (evKs cf es) k st = some r → PX W cl st σ ρ H F r →
  (∀ ds st1 vs H1 F1, Pst st st1 σ ρ H F H1 F1 → RpL F1 vs ds → ds.length = xs.length → k ds st1 = some r → Q vs H1) → tA X xs σ H Q
def SAs (X : Cx) (cf : CallF) (W : WX) (cl : Str → Addr) (es : Exs) (xs : List Expr) : Prop := ∀ (β : Type) (k : List MP.W → M β) (st : MP.St) (σ : L2.St) (H F : Hp) (ρ : List Addr) (r : R β) (Q : List V → Hp → Prop), Rel st σ H F ρ → M.bind (evAs cf es) k st = some r → PX W cl st σ ρ H F r →
  (∀ ws st1 vs H1 F1, Pst st st1 σ ρ H F H1 F1 → RWs st1 σ H1 F1 ρ vs ws → k ws st1 = some r → Q vs H1) → tA X xs σ H Q
omit [WI] in
theorem bind_assoc {α β γ : Type} (m : M α) (f : α → M β) (g : β → M γ) : M.bind (M.bind m f) g = M.bind m fun a => M.bind (f a) g := by
  funext s
  unfold M.bind
  cases m s with
  | none => rfl
  | some r => cases r <;> rfl
omit [WI] in
theorem ret_bind {α β : Type} (a : α) (f : α → M β) : M.bind (M.ret a) f = f a := rfl
theorem sk_nil : SKs X cf W cl .nil [] := fun β k st σ H F ρ r Q rel hk hx fin => by
  refine tA_of pa_nil ?_
  exact fin [] st [] H F (Pst.refl rel) .nil rfl hk
theorem sk_cons {a : Ex} {es : Exs} {x : Expr} {xs : List Expr} (hb : badE x = false) (ha : SE X cf W cl a x) (hs : SKs X cf W cl es xs) : SKs X cf W cl (.cons a es) (x :: xs) := fun β k st σ H F ρ r Q rel hk hx fin => by
  refine tA_of (pa_cons pe_self pa_self (star_cons hb)) ?_
  show tE X x σ H fun v H1 => tA X xs σ H1 fun vs H2 => Q (v :: vs) H2
  have hk : M.bind (M.bind (evE cf a) fun w => M.bind (keep w) fun d => M.bind (evKs cf es) fun ds => M.ret (d :: ds)) k st = some r := hk
  rw [bind_assoc] at hk
  refine ha.one rel hk hx fun w st1 v H1 F1 p rw' fr hk => ?_
  rw [bind_assoc] at hk
  obtain ⟨d, st2, h1, hk⟩ := keep_bind hk
  rw [bind_assoc] at hk
  obtain ⟨F2, p2, rp⟩ := keep_ok p rw' fr h1
  refine hs _ _ _ _ _ _ _ _ _ p2.rel hk (hx.step p2) fun ds st3 vs H3 F3 p3 rs hl hk => ?_
  exact fin (d :: ds) st3 (v :: vs) H3 F3 (p2.trans p3) (.cons (rp.mono p3.stp.fle) rs) (by simp [hl]) hk
theorem RWs.step {st st' : MP.St} {σ : L2.St} {H F H' F' : Hp} {ρ : List Addr} (p : Pst st st' σ ρ H F H' F') : ∀ {vs : List V} {ws : List MP.W}, RWs st σ H F ρ vs ws → RWs st' σ H' F' ρ vs ws
  | _, _, .nil => .nil
  | _, _, .cons r n rs => .cons (r.step p) n (RWs.step p rs)
theorem sa_nil : SAs X cf W cl .nil [] := fun β k st σ H F ρ r Q rel hk hx fin => by
  refine tA_of pa_nil ?_
  exact fin [] st [] H F (Pst.refl rel) .nil hk
theorem sa_cons {a : Ex} {es : Exs} {x : Expr} {xs : List Expr} (hb : badE x = false) (ha : SE X cf W cl a x) (hs : SAs X cf W cl es xs) : SAs X cf W cl (.cons a es) (x :: xs) := fun β k st σ H F ρ r Q rel hk hx fin => by
  refine tA_of (pa_cons pe_self pa_self (star_cons hb)) ?_
  show tE X x σ H fun v H1 => tA X xs σ H1 fun vs H2 => Q (v :: vs) H2
  have hk : M.bind (M.bind (evE cf a) fun w => M.bind (lend w) fun w => M.bind (evAs cf es) fun ws => M.ret (w :: ws)) k st = some r := hk
  rw [bind_assoc] at hk
  refine ha.one rel hk hx fun w st1 v H1 F1 p rw' fr hk => ?_
  rw [bind_assoc] at hk
  obtain ⟨w2, h1, hk⟩ := lend_bind hk
  rw [bind_assoc] at hk
  obtain ⟨F2, p2, rw2, nf⟩ := lend_ok p rw' fr h1
  refine hs _ _ _ _ _ _ _ _ _ p2.rel hk (hx.step p2) fun ws st3 vs H3 F3 p3 rs hk => ?_
  exact fin (w2 :: ws) st3 (v :: vs) H3 F3 (p2.trans p3) (.cons (rw2.step p3) nf rs) hk

/-! ### displays -/
theorem se_tup {es : Exs} {xs : List Expr} {k : Nat} {p : Pos} (hs : SKs X cf W cl es xs) (hl : xs.length < 1000) : SE X cf W cl (.tup es) (.Tuple xs k p) := by
  intro st σ H F ρ r Q rel hk hx fin
  refine tE_of (pe_tupF pa_self) ?_
  refine hs _ _ _ _ _ _ _ _ _ rel hk hx fun ds st1 vs H1 F1 p rs hn hk => ?_
  have hk := ret_inv hk
  refine ⟨?_, Fin.tup p.rel (Fin.of (X := X) fin p hk) rs⟩
  rw [rs.length, hn]
  exact lim_line (by unfold LIM; omega)
theorem se_lst {es : Exs} {xs : List Expr} {p : Pos} (hs : SKs X cf W cl es xs) (hl : xs.length < 1000) : SE X cf W cl (.lst es) (.List xs p) := by
  intro st σ H F ρ r Q rel hk hx fin
  refine tE_of (pe_lst pa_self) ?_
  refine hs _ _ _ _ _ _ _ _ _ rel hk hx fun ds st1 vs H1 F1 p rs hn hk => ?_
  have hk := ret_inv hk
  refine ⟨?_, fun t ht => Fin.lst p.rel (Fin.of (X := X) fin p hk) rs ht⟩
  rw [rs.length, hn]
  exact lim_line (by unfold LIM; omega)

/-! ### operators -/
theorem se_bin {o : Operator} {a b : Ex} {x y : Expr} {p : Pos} (ha : SE X cf W cl a x) (hb : SE X cf W cl b y) : SE X cf W cl (.bin o a b) (.BinOp x o y p) := by
  intro st σ H F ρ r Q rel hk hx fin
  refine tE_of (pe_op op_self pe_self pe_self) ?_
  refine ha.one rel hk hx fun w1 st1 v1 H1 F1 p1 r1 f1 hk => ?_
  refine hb.one p1.rel hk (hx.step p1) fun w2 st2 v2 H2 F2 p2 r2 f2 hk => ?_
  obtain ⟨d1, e1, hk⟩ := view_bind hk
  obtain ⟨d2, e2, hk⟩ := view_bind hk
  obtain ⟨w, hw, hk⟩ := opt_inv hk
  exact binD_ok p2.rel (view_vw p2.rel (r1.step p2) e1) (view_vw p2.rel r2 e2) hw (Fin.of (X := X) fin (p1.trans p2) hk)
theorem se_neg {a : Ex} {x : Expr} {p : Pos} (ha : SE X cf W cl a x) : SE X cf W cl (.neg a) (.UnaryOp .USub x p) := by
  intro st σ H F ρ r Q rel hk hx fin
  refine tE_of (pe_un un_neg pe_self) ?_
  refine ha.one rel hk hx fun w1 st1 v1 H1 F1 p1 r1 f1 hk => ?_
  obtain ⟨i, e1, hk⟩ := toInt_bind hk
  have hk := ret_inv hk
  cases (view_vw p1.rel r1 e1).int
  exact ⟨i, rfl, (Fin.of (X := X) fin p1 hk).rp p1.rel (.int _)⟩
theorem u64 (ok : Ok X cf W cl tb) : X.A.units + 64 < cLine := by
  have := ok.un
  omega
theorem u65 (ok : Ok X cf W cl tb) : X.A.units + 65 < cLine := by
  have := ok.un
  omega
theorem se_cmp {o : CmpOp} {a b : Ex} {x y : Expr} {p : Pos} (ok : Ok X cf W cl tb) (hb' : badE y = false) (ha : SE X cf W cl a x) (hb : SE X cf W cl b y) : SE X cf W cl (.cmp o a b) (.Compare x [o] [y] p) := by
  intro st σ H F ρ r Q rel hk hx fin
  refine tE_of (pe_cmpR op_self pe_self pe_self (behind_ok hb')) ?_
  refine ha.one rel hk hx fun w1 st1 v1 H1 F1 p1 r1 f1 hk => ?_
  refine hb.one p1.rel hk (hx.step p1) fun w2 st2 v2 H2 F2 p2 r2 f2 hk => ?_
  obtain ⟨d1, e1, hk⟩ := view_bind hk
  obtain ⟨d2, e2, hk⟩ := view_bind hk
  obtain ⟨t, ht, hk⟩ := opt_bind hk
  have hk := ret_inv hk
  exact cmpD_ok ok.wi (u64 ok) p2.rel (view_vw p2.rel (r1.step p2) e1) (view_vw p2.rel r2 e2) ht ((Fin.of (X := X) fin (p1.trans p2) hk).rp p2.rel (.bl _))
theorem st_cmp {o : CmpOp} {a b : Ex} {x y : Expr} {p : Pos} (ok : Ok X cf W cl tb) (hb' : badE y = false) (ha : SE X cf W cl a x) (hb : SE X cf W cl b y) : ST X cf W cl (.cmp o a b) (.Compare x [o] [y] p) := by
  intro st σ H F ρ r Q rel hk hx fin
  refine tT_of (pt_cmpR op_self pe_self pe_self (behind_ok hb')) ?_
  have hk : M.bind (M.bind (evE cf a) fun x => M.bind (evE cf b) fun y => M.bind (view x) fun p => M.bind (view y) fun q => M.bind (M.opt (cmpD o p q)) fun t => M.ret (MP.W.d (.bool t))) toBool st = some r := hk
  rw [bind_assoc] at hk
  refine ha.one rel hk hx fun w1 st1 v1 H1 F1 p1 r1 f1 hk => ?_
  rw [bind_assoc] at hk
  refine hb.one p1.rel hk (hx.step p1) fun w2 st2 v2 H2 F2 p2 r2 f2 hk => ?_
  rw [bind_assoc] at hk
  obtain ⟨d1, e1, hk⟩ := view_bind hk
  rw [bind_assoc] at hk
  obtain ⟨d2, e2, hk⟩ := view_bind hk
  rw [bind_assoc] at hk
  obtain ⟨t, ht, hk⟩ := opt_bind hk
  have hk : toBool (MP.W.d (.bool t)) st2 = some r := hk
  obtain ⟨t', h1, h2⟩ := toBool_inv hk
  cases h1
  exact cmpD_ok ok.wi (u64 ok) p2.rel (view_vw p2.rel (r1.step p2) e1) (view_vw p2.rel r2 e2) ht ⟨t, rfl, fin t st2 h2 H2 F2 (p1.trans p2)⟩
omit [WI] in
theorem last_marks {o o2 : CmpOp} {y z : Expr} (h : badE z = false) : lastMarks [o, o2] [y, z] = false := behind_ok h
theorem chain_core {o o2 : CmpOp} {a b c : Ex} {x y z : Expr} (ok : Ok X cf W cl tb) (ha : SE X cf W cl a x) (hb : SE X cf W cl b y) (hc : SE X cf W cl c z) {st : MP.St} {σ : L2.St} {H F : Hp} {ρ : List Addr} {β : Type} {k : MP.W → M β} {r : R β} {Q : VK} (rel : Rel st σ H F ρ)
    (hk : M.bind (evE cf (.chain o o2 a b c)) k st = some r) (hx : PX W cl st σ ρ H F r) (fin : ∀ t st1 H1 F1, Pst st st1 σ ρ H F H1 F1 → k (.d (.bool t)) st1 = some r → Q (.bl t) H1) : tChain (vOp X (compareOp o)) (vOp X (compareOp o2)) (tE X x) (tE X y) (tE X z) σ H Q := by
  have hk : M.bind (M.bind (evE cf a) fun x => M.bind (evE cf b) fun y => M.bind (view x) fun p => M.bind (view y) fun q => M.bind (M.opt (cmpD o p q)) fun t =>
      if t then M.bind (evE cf c) fun z => M.bind (view y) fun q => M.bind (view z) fun r => M.bind (M.opt (cmpD o2 q r)) fun t => M.ret (MP.W.d (.bool t)) else M.ret (MP.W.d (.bool false))) k st = some r := hk
  rw [bind_assoc] at hk
  refine ha.one rel hk hx fun w1 st1 v1 H1 F1 p1 r1 f1 hk => ?_
  rw [bind_assoc] at hk
  refine hb.one p1.rel hk (hx.step p1) fun w2 st2 v2 H2 F2 p2 r2 f2 hk => ?_
  rw [bind_assoc] at hk
  obtain ⟨d1, e1, hk⟩ := view_bind hk
  rw [bind_assoc] at hk
  obtain ⟨d2, e2, hk⟩ := view_bind hk
  rw [bind_assoc] at hk
  obtain ⟨t, ht, hk⟩ := opt_bind hk
  have p12 := p1.trans p2
  refine cmpD_ok ok.wi (u64 ok) p2.rel (view_vw p2.rel (r1.step p2) e1) (view_vw p2.rel r2 e2) ht ⟨t, rfl, ?_⟩
  cases t with
  | false =>
    rw [if_neg Bool.false_ne_true]
    rw [if_neg Bool.false_ne_true] at hk
    exact fin false st2 H2 F2 p12 hk
  | true =>
    rw [if_pos rfl]
    rw [if_pos rfl] at hk
    rw [bind_assoc] at hk
    refine hc.one p2.rel hk (hx.step p12) fun w3 st3 v3 H3 F3 p3 r3 f3 hk => ?_
    rw [bind_assoc] at hk
    obtain ⟨d3, e3, hk⟩ := view_bind hk
    rw [bind_assoc] at hk
    obtain ⟨d4, e4, hk⟩ := view_bind hk
    rw [bind_assoc] at hk
    obtain ⟨t, ht, hk⟩ := opt_bind hk
    exact cmpD_ok ok.wi (u64 ok) p3.rel (view_vw p3.rel (r2.step p3) e3) (view_vw p3.rel r3 e4) ht (fin t st3 H3 F3 (p12.trans p3) hk)
omit [WI] in
theorem bind_ret {α : Type} (m : M α) : M.bind m M.ret = m := by
  funext s
  unfold M.bind
  cases m s with
  | none => rfl
  | some r => cases r <;> rfl
theorem se_chain {o o2 : CmpOp} {a b c : Ex} {x y z : Expr} {p : Pos} (ok : Ok X cf W cl tb) (hz : badE z = false) (ha : SE X cf W cl a x) (hb : SE X cf W cl b y) (hc : SE X cf W cl c z) : SE X cf W cl (.chain o o2 a b c) (.Compare x [o, o2] [y, z] p) := by
  intro st σ H F ρ r Q rel hk hx fin
  refine tE_of (pe_chain op_self op_self pe_self pe_self pe_self (last_marks hz)) ?_
  refine chain_core ok ha hb hc (k := M.ret) rel (by rw [bind_ret]; exact hk) hx fun t st1 H1 F1 p1 hk => ?_
  have hk := ret_inv hk
  exact (Fin.of (X := X) fin p1 hk).rp p1.rel (.bl _)
theorem st_chain {o o2 : CmpOp} {a b c : Ex} {x y z : Expr} {p : Pos} (ok : Ok X cf W cl tb) (hz : badE z = false) (ha : SE X cf W cl a x) (hb : SE X cf W cl b y) (hc : SE X cf W cl c z) : ST X cf W cl (.chain o o2 a b c) (.Compare x [o, o2] [y, z] p) := by
  intro st σ H F ρ r Q rel hk hx fin
  refine tT_of (pt_chain op_self op_self pe_self pe_self pe_self (last_marks hz)) ?_
  refine chain_core ok ha hb hc (k := toBool) rel hk hx fun t st1 H1 F1 p1 hk => ?_
  obtain ⟨t', h1, h2⟩ := toBool_inv hk
  cases h1
  exact ⟨t, rfl, fin t st1 h2 H1 F1 p1⟩

/-! ### and, or, not, if -/
theorem se_and {a b : Ex} {x y : Expr} {xs : List Expr} {p : Pos} (ha : SE X cf W cl a x) (hb : SE X cf W cl b (.BoolOp .And (y :: xs) p)) : SE X cf W cl (.and a b) (.BoolOp .And (x :: y :: xs) p) := by
  intro st σ H F ρ r Q rel hk hx fin
  refine tE_of (pe_and pe_self pe_self) ?_
  refine ha.one rel hk hx fun w1 st1 v1 H1 F1 p1 r1 f1 hk => ?_
  obtain ⟨t, e1, hk⟩ := toBool_bind hk
  refine ⟨t, (view_vw p1.rel r1 e1).bl, ?_⟩
  cases t with
  | true =>
    rw [if_pos rfl]
    rw [if_pos rfl] at hk
    exact hb st1 σ H1 F1 ρ r Q p1.rel hk (hx.step p1) fun w st' e v H' F' p' rw' fr => fin w st' e v H' F' (p1.trans p') rw' (Fresh.back p1 fr)
  | false =>
    rw [if_neg Bool.false_ne_true]
    rw [if_neg Bool.false_ne_true] at hk
    exact (Fin.of (X := X) fin p1 (ret_inv hk)).rp p1.rel (.bl _)
theorem se_or {a b : Ex} {x y : Expr} {xs : List Expr} {p : Pos} (ha : SE X cf W cl a x) (hb : SE X cf W cl b (.BoolOp .Or (y :: xs) p)) : SE X cf W cl (.or a b) (.BoolOp .Or (x :: y :: xs) p) := by
  intro st σ H F ρ r Q rel hk hx fin
  refine tE_of (pe_or pe_self pe_self) ?_
  refine ha.one rel hk hx fun w1 st1 v1 H1 F1 p1 r1 f1 hk => ?_
  obtain ⟨t, e1, hk⟩ := toBool_bind hk
  refine ⟨t, (view_vw p1.rel r1 e1).bl, ?_⟩
  cases t with
  | true =>
    rw [if_pos rfl]
    rw [if_pos rfl] at hk
    exact (Fin.of (X := X) fin p1 (ret_inv hk)).rp p1.rel (.bl _)
  | false =>
    rw [if_neg Bool.false_ne_true]
    rw [if_neg Bool.false_ne_true] at hk
    exact hb st1 σ H1 F1 ρ r Q p1.rel hk (hx.step p1) fun w st' e v H' F' p' rw' fr => fin w st' e v H' F' (p1.trans p') rw' (Fresh.back p1 fr)
theorem se_one {a : Ex} {o : BoolOp} {x : Expr} {p : Pos} (ha : SE X cf W cl a x) : SE X cf W cl (.one a) (.BoolOp o [x] p) := by
  intro st σ H F ρ r Q rel hk hx fin
  exact tE_of (pe_one pe_self) (ha st σ H F ρ r Q rel hk hx fin)
theorem se_not {a : Ex} {x : Expr} {p : Pos} (ha : SE X cf W cl a x) : SE X cf W cl (.not a) (.UnaryOp .Not x p) := by
  intro st σ H F ρ r Q rel hk hx fin
  refine tE_of (pe_not pe_self) ?_
  refine ha.one rel hk hx fun w1 st1 v1 H1 F1 p1 r1 f1 hk => ?_
  obtain ⟨t, e1, hk⟩ := toBool_bind hk
  exact ⟨t, (view_vw p1.rel r1 e1).bl, (Fin.of (X := X) fin p1 (ret_inv hk)).rp p1.rel (.bl _)⟩
theorem se_ifx {c a b : Ex} {z x y : Expr} {p : Pos} (hc : ST X cf W cl c z) (ha : SE X cf W cl a x) (hb : SE X cf W cl b y) : SE X cf W cl (.ifx c a b) (.IfExp z x y p) := by
  intro st σ H F ρ r Q rel hk hx fin
  refine tE_of (pe_ifExp pt_self pe_self pe_self) ?_
  refine hc.one rel hk hx fun t st1 H1 F1 p1 hk => ?_
  cases t with
  | true =>
    rw [if_pos rfl]
    rw [if_pos rfl] at hk
    exact ha st1 σ H1 F1 ρ r Q p1.rel hk (hx.step p1) fun w st' e v H' F' p' rw' fr => fin w st' e v H' F' (p1.trans p') rw' (Fresh.back p1 fr)
  | false =>
    rw [if_neg Bool.false_ne_true]
    rw [if_neg Bool.false_ne_true] at hk
    exact hb st1 σ H1 F1 ρ r Q p1.rel hk (hx.step p1) fun w st' e v H' F' p' rw' fr => fin w st' e v H' F' (p1.trans p') rw' (Fresh.back p1 fr)
/-- as tests -/
theorem sw_and {a b : Ex} {x y : Expr} {xs : List Expr} {p : Pos} (ha : ST X cf W cl a x) (hb : SW X cf W cl b (.BoolOp .And (y :: xs) p)) : SW X cf W cl (.and a b) (.BoolOp .And (x :: y :: xs) p) := by
  intro st σ H F ρ r Q rel hk hx fin
  refine tW_of (pw_and pt_self pw_self) ?_
  have hk : M.bind (M.bind (evE cf a) fun x => M.bind (toBool x) fun t => if t then evE cf b else M.ret (MP.W.d (.bool false))) toBool st = some r := hk
  rw [bind_assoc] at hk
  have e : (fun w => M.bind (M.bind (toBool w) fun t => if t then evE cf b else M.ret (MP.W.d (.bool false))) toBool) = fun w => M.bind (toBool w) fun t => M.bind (if t then evE cf b else M.ret (MP.W.d (.bool false))) toBool := by
    funext w
    rw [bind_assoc]
  rw [e] at hk
  refine ha.one rel hk hx fun t st1 H1 F1 p1 hk => ?_
  cases t with
  | true =>
    rw [if_pos rfl]
    rw [if_pos rfl] at hk
    exact hb st1 σ H1 F1 ρ r Q p1.rel hk (hx.step p1) fun w st' e H' F' p' => fin w st' e H' F' (p1.trans p')
  | false =>
    rw [if_neg Bool.false_ne_true]
    rw [if_neg Bool.false_ne_true] at hk
    have hk : toBool (MP.W.d (.bool false)) st1 = some r := hk
    obtain ⟨t', h1, h2⟩ := toBool_inv hk
    cases h1
    exact fin false st1 h2 H1 F1 p1
theorem sw_or {a b : Ex} {x y : Expr} {xs : List Expr} {p : Pos} (ha : ST X cf W cl a x) (hb : SW X cf W cl b (.BoolOp .Or (y :: xs) p)) : SW X cf W cl (.or a b) (.BoolOp .Or (x :: y :: xs) p) := by
  intro st σ H F ρ r Q rel hk hx fin
  refine tW_of (pw_or pt_self pw_self) ?_
  have hk : M.bind (M.bind (evE cf a) fun x => M.bind (toBool x) fun t => if t then M.ret (MP.W.d (.bool true)) else evE cf b) toBool st = some r := hk
  rw [bind_assoc] at hk
  have e : (fun w => M.bind (M.bind (toBool w) fun t => if t then M.ret (MP.W.d (.bool true)) else evE cf b) toBool) = fun w => M.bind (toBool w) fun t => M.bind (if t then M.ret (MP.W.d (.bool true)) else evE cf b) toBool := by
    funext w
    rw [bind_assoc]
  rw [e] at hk
  refine ha.one rel hk hx fun t st1 H1 F1 p1 hk => ?_
  cases t with
  | true =>
    rw [if_pos rfl]
    rw [if_pos rfl] at hk
    have hk : toBool (MP.W.d (.bool true)) st1 = some r := hk
    obtain ⟨t', h1, h2⟩ := toBool_inv hk
    cases h1
    exact fin true st1 h2 H1 F1 p1
  | false =>
    rw [if_neg Bool.false_ne_true]
    rw [if_neg Bool.false_ne_true] at hk
    exact hb st1 σ H1 F1 ρ r Q p1.rel hk (hx.step p1) fun w st' e H' F' p' => fin w st' e H' F' (p1.trans p')
theorem sw_one {a : Ex} {o : BoolOp} {x : Expr} {p : Pos} (ha : ST X cf W cl a x) : SW X cf W cl (.one a) (.BoolOp o [x] p) := by
  intro st σ H F ρ r Q rel hk hx fin
  cases o with
  | And => exact tW_of (pw_and1 pt_self) (ha st σ H F ρ r Q rel hk hx fin)
  | Or => exact tW_of (pw_or1 pt_self) (ha st σ H F ρ r Q rel hk hx fin)
theorem st_not {a : Ex} {x : Expr} {p : Pos} (ha : ST X cf W cl a x) : ST X cf W cl (.not a) (.UnaryOp .Not x p) := by
  intro st σ H F ρ r Q rel hk hx fin
  refine tT_of (pt_not pt_self) ?_
  have hk : M.bind (M.bind (evE cf a) fun x => M.bind (toBool x) fun t => M.ret (MP.W.d (.bool !t))) toBool st = some r := hk
  rw [bind_assoc] at hk
  have e : (fun w => M.bind (M.bind (toBool w) fun t => M.ret (MP.W.d (.bool !t))) toBool) = fun w => M.bind (toBool w) fun t => toBool (MP.W.d (.bool !t)) := by
    funext w
    rw [bind_assoc]
    rfl
  rw [e] at hk
  refine ha.one rel hk hx fun t st1 H1 F1 p1 hk => ?_
  obtain ⟨t', h1, h2⟩ := toBool_inv hk
  cases h1
  exact fin _ st1 h2 H1 F1 p1
theorem st_ifx {c a b : Ex} {z x y : Expr} {p : Pos} (hc : ST X cf W cl c z) (ha : ST X cf W cl a x) (hb : ST X cf W cl b y) : ST X cf W cl (.ifx c a b) (.IfExp z x y p) := by
  intro st σ H F ρ r Q rel hk hx fin
  have hk : M.bind (M.bind (evE cf c) fun x => M.bind (toBool x) fun t => if t then evE cf a else evE cf b) toBool st = some r := hk
  rw [bind_assoc] at hk
  have e : (fun w => M.bind (M.bind (toBool w) fun t => if t then evE cf a else evE cf b) toBool) = fun w => M.bind (toBool w) fun t => M.bind (if t then evE cf a else evE cf b) toBool := by
    funext w
    rw [bind_assoc]
  rw [e] at hk
  have main : tT X z σ H fun t H1 => if t = true then tT X x σ H1 Q else tT X y σ H1 Q := by
    refine hc.one rel hk hx fun t st1 H1 F1 p1 hk => ?_
    cases t with
    | true =>
      rw [if_pos rfl]
      rw [if_pos rfl] at hk
      exact ha st1 σ H1 F1 ρ r Q p1.rel hk (hx.step p1) fun w st' e H' F' p' => fin w st' e H' F' (p1.trans p')
    | false =>
      rw [if_neg Bool.false_ne_true]
      rw [if_neg Bool.false_ne_true] at hk
      exact hb st1 σ H1 F1 ρ r Q p1.rel hk (hx.step p1) fun w st' e H' F' p' => fin w st' e H' F' (p1.trans p')
  intro pins s I
  show wpAny _ _ (do if ← isTrue z X.env (eval z X.env) then isTrue x X.env (eval x X.env) else isTrue y X.env (eval y X.env)) _ _ s
  refine wpAny_bind (thn (main pins s I) fun t s1 ⟨H1, I1, q⟩ => ?_)
  cases t with
  | true => exact q pins s1 I1
  | false => exact q pins s1 I1

/-! ### subscripts -/
theorem se_idx {a b : Ex} {x y : Expr} {p : Pos} (ok : Ok X cf W cl tb) (hb' : badE y = false) (ha : SE X cf W cl a x) (hb : SE X cf W cl b y) : SE X cf W cl (.idx a b) (.Subscript x y p) := by
  intro st σ H F ρ r Q rel hk hx fin
  refine tE_of (pe_ix (ix_anyB (u64 ok)) pe_self pe_self (plain_ix hb')) ?_
  refine ha.one rel hk hx fun w1 st1 v1 H1 F1 p1 r1 f1 hk => ?_
  refine hb.one p1.rel hk (hx.step p1) fun w2 st2 v2 H2 F2 p2 r2 f2 hk => ?_
  obtain ⟨d1, e1, hk⟩ := view_bind hk
  obtain ⟨d2, e2, hk⟩ := view_bind hk
  obtain ⟨d, hd, hk⟩ := opt_bind hk
  exact idxD_ok ok.wi p2.rel (view_vw p2.rel (r1.step p2) e1) (view_vw p2.rel r2 e2) hd (Fin.of (X := X) fin (p1.trans p2) (ret_inv hk))
def tO (X : Cx) (e : Option Expr) : TO := fun σ H Q => ∀ (pins : List (Addr × Obj)) (s : Shared), Inv X pins σ H s → wpAny (model X.prog X.w) X.A (evalPart e X.env) (fun u s' => ∃ o H', Inv X pins σ H' s' ∧ IsPart u o ∧ Q o H') X.xe s
omit [WI] in
theorem po_self {e : Option Expr} : PO X e (tO X e) := ⟨fun pins s σ H Q I h => h pins s I⟩
omit [WI] in
theorem tO_of {e : Option Expr} {t : TO} {σ : L2.St} {H : Hp} {Q : Option Int → Hp → Prop} (h : PO X e t) (q : t σ H Q) : tO X e σ H Q := fun pins s I => h.run pins s σ H Q I q
def SO (X : Cx) (cf : CallF) (W : WX) (cl : Str → Addr) (ir : Exo) (e : Option Expr) : Prop := ∀ (β : Type) (k : Option Int → M β) (st : MP.St) (σ : L2.St) (H F : Hp) (ρ : List Addr) (r : R β) (Q : Option Int → Hp → Prop), Rel st σ H F ρ → M.bind (evO cf ir) k st = some r → PX W cl st σ ρ H F r →
  (∀ o st1 H1 F1, Pst st st1 σ ρ H F H1 F1 → k o st1 = some r → Q o H1) → tO X e σ H Q
theorem so_no : SO X cf W cl .no none := fun β k st σ H F ρ r Q rel hk hx fin => tO_of po_none (fin none st H F (Pst.refl rel) hk)
theorem so_yes {a : Ex} {x : Expr} (ha : SE X cf W cl a x) : SO X cf W cl (.yes a) (some x) := fun β k st σ H F ρ r Q rel hk hx fin => by
  refine tO_of (po_some pe_self) ?_
  have hk : M.bind (M.bind (evE cf a) fun w => M.bind (toInt w) fun i => M.ret (some i)) k st = some r := hk
  rw [bind_assoc] at hk
  refine ha.one rel hk hx fun w1 st1 v1 H1 F1 p1 r1 f1 hk => ?_
  rw [bind_assoc] at hk
  obtain ⟨i, e1, hk⟩ := toInt_bind hk
  exact ⟨i, (view_vw p1.rel r1 e1).int, fin (some i) st1 H1 F1 p1 hk⟩
theorem se_sli {a : Ex} {lo hi : Exo} {x : Expr} {l u : Option Expr} {p p2 : Pos} (ha : SE X cf W cl a x) (hl : SO X cf W cl lo l) (hh : SO X cf W cl hi u) : SE X cf W cl (.sli a lo hi) (.Subscript x (.Slice l u none p2) p) := by
  intro st σ H F ρ r Q rel hk hx fin
  refine tE_of (pe_slice sl_any pe_self po_self po_self) ?_
  refine ha.one rel hk hx fun w1 st1 v1 H1 F1 p1 r1 f1 hk => ?_
  refine hl _ _ _ _ _ _ _ _ _ p1.rel hk (hx.step p1) fun o1 st2 H2 F2 p2 hk => ?_
  refine hh _ _ _ _ _ _ _ _ _ p2.rel hk (hx.step (p1.trans p2)) fun o2 st3 H3 F3 p3 hk => ?_
  obtain ⟨d1, e1, hk⟩ := view_bind hk
  obtain ⟨w, hw, hk⟩ := opt_inv hk
  exact sliD_ok p3.rel (view_vw p3.rel ((r1.step p2).step p3) e1) hw (Fin.of (X := X) fin ((p1.trans p2).trans p3) hk)
theorem se_rev {a : Ex} {x : Expr} {k : Nat} {p1 p2 p3 p : Pos} (ha : SE X cf W cl a x) : SE X cf W cl (.rev a) (.Subscript x (.Slice none none (some (.UnaryOp .USub (.Constant (.int 1) k p1) p2)) p3) p) := by
  intro st σ H F ρ r Q rel hk hx fin
  refine tE_of (pe_revA pe_self) ?_
  refine ha.one rel hk hx fun w1 st1 v1 H1 F1 p1 r1 f1 hk => ?_
  obtain ⟨d1, e1, hk⟩ := view_bind hk
  obtain ⟨w, hw, hk⟩ := opt_inv hk
  exact revD_ok p1.rel (view_vw p1.rel r1 e1) hw (Fin.of (X := X) fin p1 hk)

/-! ### calls -/
theorem se_call {f : Str} {a : Ex} {es : Exs} {x : Expr} {xs : List Expr} {p0 p : Pos} (ok : Ok X cf W cl tb) (hg : gloB X.env.scope f = true) (hn : nameOk f = true) (hf : tb.fs.contains f = true) (hb : badE x = false) (ha : SE X cf W cl a x) (hs : SAs X cf W cl es xs)
    (hst : ∀ pos, (backTo pos (starEach xs X.env)).any (·.1) = false) : SE X cf W cl (.call f a es) (.Call (.Name f p0) (x :: xs) [] p) := by
  intro st σ H F ρ r Q rel hk hx fin
  obtain ⟨fa, fd, ps, k, gm, kp, bd, rm, hlen, fo⟩ := ok.fn f hf
  refine tE_of (pe_callS (E := WE W) fo rm (gl_of hg) gm kp bd (fun σ => passAt ok.tk σ) (pa_cons pe_self pa_self (star_cons hb)) (name_dbg hn).1 (star_cons hb) (hst _)) ?_
  refine ha.one rel hk hx fun w1 st1 v1 H1 F1 p1 r1 f1 hk => ?_
  obtain ⟨w2, h1, hk⟩ := lend_bind hk
  obtain ⟨F2, p2, rw2, nf⟩ := lend_ok p1 r1 f1 h1
  refine hs _ _ _ _ _ _ _ _ _ p2.rel hk (hx.step p2) fun ws st3 vs H3 F3 p3 rs hk => ?_
  have p23 := p2.trans p3
  have rws : RWs st3 σ H3 F3 ρ (v1 :: vs) (w2 :: ws) := .cons (rw2.step p3) nf rs
  unfold callW at hk
  simp only [Option.bind_eq_some_iff] at hk
  obtain ⟨as, ha1, cr, hc, hk⟩ := hk
  have hargs := args_ok p3.rel (w2 :: ws) rws (fun w h => h) ha1
  refine ⟨lentF st3 σ (w2 :: ws) H3 F3, ρ, as, st3.s, cr, ?_, hargs, lentF_leH p3.rel _, ⟨p3.rel.sto.len, p3.rel.sto.nd, fun n q c e1 e2 => ?_⟩, hc, fun w s' e v H' F' bk rc => ?_, fun c s' e H' F' bk => ?_⟩
  · rw [hargs.length]
    exact hlen _ _ _ hc
  · obtain ⟨k1, k2, k3⟩ := p3.rel.sto.cel n q c e1 e2
    refine ⟨k1.mono (lentF_le p3.rel _) fun _ h => h, ?_, k3⟩
    unfold lentF
    rw [if_neg (fun z => z.nρ p3.rel (List.mem_of_getElem? e1))]
    exact k2
  · subst e
    have fz := back_freeze p3.rel bk
    cases w with
    | d y =>
      have rc : Rp F' v y := rc
      simp only at hk
      split at hk
      · rename_i hm
        cases hk
        obtain ⟨F2', p4, lt, _⟩ := back_lent p3.rel bk
        exact fin _ _ rfl v H' F2' (p23.trans p4) (rc.monoT lt hm) True.intro
      · cases hk
        exact fin _ _ rfl v H' F' (p23.trans fz) rc True.intro
    | fr c =>
      simp only at hk
      cases hk
      obtain ⟨q, rfl, c1, c2, c3, c4⟩ := rc
      refine fin _ _ rfl _ H' F' (p23.trans fz) ⟨q, rfl, c1, c2, fun z => ?_⟩ (Fresh.back (w := .fr c) p23 fun q' e => by cases e; exact .inl c4)
      rcases z with y | ⟨j, c', y1, y2⟩
      · exact c3 y
      · obtain ⟨_, o3, z3, _⟩ := (show OwnS st3.v σ ρ q from .inr ⟨j, c', freeze_own y1, y2⟩).there p3.rel
        rw [c4] at z3
        cases z3
  · subst e
    simp only at hk
    cases hk
    exact hx c _ rfl H' F' (p23.trans (back_freeze p3.rel bk))
end
end MP
set_option maxHeartbeats 2000000
/-! MPk: built-ins, methods, isinstance. -/
namespace MP
open PySem L2 PySem.Spec PyProof.Rows
variable [WI]
section
variable {X : Cx} {cf : CallF} {W : WX} {cl : Str → Addr} {tb : Tb}
omit [WI] in
theorem boot_blt (f : Blt) : bootBuiltins (bltName f) = some (bltVal f) := by cases f <;> decide +kernel
omit [WI] in
theorem blt_in (f : Blt) : bltNames.contains (bltName f) = true := by cases f <;> decide +kernel
omit [WI] in
theorem blt_nm (f : Blt) : bltName f ≠ "__name__" ∧ (bltName f == ("__debug__" : Str)) = false := by cases f <;> decide +kernel
omit [WI] in
theorem blt_kind (f : Blt) : (∃ id, bltVal f = .builtin id) ∨ ∃ T, bltVal f = .type T := by cases f <;> first | exact .inl ⟨_, rfl⟩ | exact .inr ⟨_, rfl⟩
omit [WI] in
/-- one argument, a plain one -/
theorem one_plain {x : Expr} {pos : Pos} (h : badE x = false) : starEach [x] X.env = (false, eval x X.env) :: starEach [] X.env ∧ (backTo pos (starEach [] X.env)).any (·.1) = false := ⟨star_cons h, rfl⟩
omit [WI] in
theorem two_plain {x y : Expr} {pos : Pos} (h : badE x = false) (h2 : badE y = false) : starEach [x, y] X.env = (false, eval x X.env) :: starEach [y] X.env ∧ (backTo pos (starEach [y] X.env)).any (·.1) = false := ⟨star_cons h, by rw [star_cons h2]; rfl⟩
omit [WI] in
/-- a call of a built-in, by values -/
theorem pe_blt1 {f : Blt} {x : Expr} {t : TA} {p0 p : Pos} (hg : Gl X (bltName f)) (hm : X.mg (bltName f) = none) (hb : badE x = false) (ha : PA X [x] t) : PE X (.Call (.Name (bltName f) p0) [x] [] p) (tCB (vCall X (bltVal f)) t) := by
  have hv := boot_blt f
  obtain ⟨n1, n2⟩ := blt_nm f
  obtain ⟨s1, s2⟩ := one_plain (X := X) (pos := p) hb
  rcases blt_kind f with ⟨id, e⟩ | ⟨T, e⟩ <;> rw [e] at hv ⊢
  · exact pe_callB call_self hg hm hv ha n1 n2 s1 s2
  · exact pe_callTy call_self hg hm hv ha n1 n2 s1 s2
theorem se_blt {f : Blt} {a : Ex} {x : Expr} {p0 p : Pos} (ok : Ok X cf W cl tb) (hg : gloB X.env.scope (bltName f) = true) (hb : badE x = false) (ha : SE X cf W cl a x) : SE X cf W cl (.blt f a) (.Call (.Name (bltName f) p0) [x] [] p) := by
  intro st σ H F ρ r Q rel hk hx fin
  refine tE_of (pe_blt1 (gl_of hg) (ok.blt _ (blt_in f)) hb (pa_cons pe_self pa_nil (star_cons hb))) ?_
  refine ha.one rel hk hx fun w1 st1 v1 H1 F1 p1 r1 f1 hk => ?_
  obtain ⟨d1, e1, hk⟩ := view_bind hk
  obtain ⟨w, hw, hk⟩ := opt_inv hk
  exact bltD_ok ok.calm p1.rel (view_vw p1.rel r1 e1) hw (Fin.of (X := X) fin p1 hk)

/-! ### how many different ones -/
omit [WI] in
theorem dedup_step (acc : List Int) (n : Int) (h : acc.Nodup) : (if acc.contains n then acc else acc ++ [n]).Nodup := by
  split
  · exact h
  · rename_i hn
    refine List.nodup_append.mpr ⟨h, List.pairwise_singleton .., fun a ha b hb e => hn ?_⟩
    rw [List.mem_singleton.mp hb] at e
    rw [← e]
    exact List.contains_iff_mem.mpr ha
omit [WI] in
theorem dedup_fold : ∀ (ns acc : List Int), acc.Nodup → (ns.foldl (fun acc n => if acc.contains n then acc else acc ++ [n]) acc).Nodup ∧ ∀ x, x ∈ ns.foldl (fun acc n => if acc.contains n then acc else acc ++ [n]) acc ↔ x ∈ acc ∨ x ∈ ns
  | [], acc, h => ⟨h, fun x => by simp⟩
  | n :: ns, acc, h => by
    obtain ⟨h1, h2⟩ := dedup_fold ns _ (dedup_step acc n h)
    refine ⟨h1, fun x => (h2 x).trans ?_⟩
    rw [List.mem_cons]
    constructor
    · rintro (h | h)
      · split at h
        · exact .inl h
        · rcases List.mem_append.mp h with h | h
          · exact .inl h
          · exact .inr (.inl (List.mem_singleton.mp h))
      · exact .inr (.inr h)
    · rintro (h | h | h)
      · left
        split
        · exact h
        · exact List.mem_append_left _ h
      · left
        subst h
        split
        · exact List.contains_iff_mem.mp (by assumption)
        · exact List.mem_append_right _ (List.mem_singleton.mpr rfl)
      · exact .inr h
omit [WI] in
theorem dedup_spec (ns : List Int) : (dedup ns).Nodup ∧ ∀ x, x ∈ dedup ns ↔ x ∈ ns := by
  obtain ⟨h1, h2⟩ := dedup_fold ns [] List.Pairwise.nil
  exact ⟨h1, fun x => (h2 x).trans (by simp)⟩
omit [WI] in
theorem same_len {as bs : List Int} (ha : as.Nodup) (hb : bs.Nodup) (h : ∀ x, x ∈ as ↔ x ∈ bs) : as.length = bs.length := ((List.perm_ext_iff_of_nodup ha hb).mpr h).length_eq
omit [WI] in
theorem ints_vals : ∀ {ns : List Int} {us : List Value}, Vals (ns.map V.int) us → PyProof.Rows.IntsAre us ns
  | [], _, .nil => .nil
  | n :: ns, _, .cons r t => by
    obtain ⟨k, rfl⟩ := r
    exact .cons n k (ints_vals t)
omit [WI] in
theorem fewT_inv {p : D} {xs : List D} (h : fewT p = some xs) : p = .tuple xs ∧ xs.length < 4000 := by
  unfold fewT at h
  split at h
  · split at h
    · cases h
      exact ⟨rfl, by assumption⟩
    · cases h
  · cases h
def tLens (K : PySem.W.Frag) (ta : TE) : TE := fun σ H Q => ta σ H fun x H1 => ∃ (l : Addr) (ns : List Int), x = .ref l ∧ SqT K H1 l (ns.map V.int) ∧ ns.length < 4000 ∧ Q (.int ((dedup ns).length : Nat)) H1
omit [WI] in
theorem pe_lens {a : Expr} {ta : TE} {p p2 q pos : Pos} (hc : X.calm = true) (hg : Gl X "len") (hm : X.mg "len" = none) (hg2 : Gl X "set") (hm2 : X.mg "set" = none) (ha : PE X a ta)
    (na : starEach [a] X.env = (false, eval a X.env) :: starEach [] X.env) : PE X (.Call (.Name "len" p) [.Call (.Name "set" p2) [a] [] q] [] pos) (tLens X.K ta) := by
  refine ⟨fun pins s σ H Q I h => ?_⟩
  have inner : wpAny (model X.prog X.w) X.A (eval a X.env) (fun v s1 => wpAny (model X.prog X.w) X.A (call (.type "set") [v]) (fun u s2 => wpAny (model X.prog X.w) X.A (call (.builtin "len") [u]) (EP X pins σ Q) X.xe s2) X.xe s1) X.xe s := by
    refine thn (ha.run pins s σ H _ I h) fun v s1 ⟨x, H1, I1, r1, l, ns, ex, hq, hl, q1⟩ => ?_
    subst ex
    cases r1
    obtain ⟨its, rv, pl, _⟩ := I1.tuple hq
    refine call_set_tupI ns (I1.ok.hd hc) pl (by simpa using ints_vals rv) (by unfold scanBound; omega) fun h' tk c hS hcl hk => ?_
    have I2 : Inv X pins σ H1 { s1 with heap := h', toks := tk } := I1.kept hk
    obtain ⟨o, es, ep, t, ho, hex, hd, _, nd, hm', _, hf, hn, _⟩ := hS
    obtain ⟨d1, d2⟩ := dedup_spec ns
    have hc' : c = (dedup ns).length := by
      rw [← hn, ← Array.length_toList, ← List.length_map (f := keyOf)]
      exact same_len nd d1 fun x => (hm' x).symm.trans (decide_eq_true_iff.trans (d2 x).symm)
    subst hc'
    refine call_len_set ho hex hd hf (by omega) ⟨.int (dedup ns).length, H1, I2.tok _, ⟨_, by rw [hn]⟩, q1⟩
  refine Call_ (ld_blt I hg hm boot_len ?_)
  refine PyProof.Rows.callWith_builtin1 (PyProof.Rows.args_cons ?_ rfl) rfl rfl
  refine Call_ (ld_blt I hg2 hm2 PyProof.Rows.boot_set ?_)
  refine PyProof.Rows.callWith_type1 (PyProof.Rows.args_cons (thn inner fun v s1 h1 => PyProof.Rows.args_nil ?_) na) na rfl
  exact thn h1 fun u s2 h2 => PyProof.Rows.args_nil h2
theorem se_lens {a : Ex} {x : Expr} {p0 p1 p2 p : Pos} (ok : Ok X cf W cl tb) (hg : gloB X.env.scope "len" = true) (hg2 : gloB X.env.scope "set" = true) (hb : badE x = false) (ha : SE X cf W cl a x) :
    SE X cf W cl (.lens a) (.Call (.Name "len" p0) [.Call (.Name "set" p1) [x] [] p2] [] p) := by
  intro st σ H F ρ r Q rel hk hx fin
  refine tE_of (pe_lens ok.calm (gl_of hg) (ok.blt _ (by decide +kernel)) (gl_of hg2) (ok.blt _ (by decide +kernel)) pe_self (star_cons hb)) ?_
  refine ha.one rel hk hx fun w1 st1 v1 H1 F1 p1 r1 f1 hk => ?_
  obtain ⟨d1, e1, hk⟩ := view_bind hk
  obtain ⟨xs, hxs, hk⟩ := opt_bind hk
  obtain ⟨ns, hns, hk⟩ := opt_bind hk
  obtain ⟨e5, hl⟩ := fewT_inv hxs
  rw [e5] at e1
  obtain ⟨t, ob, vs, rfl, ht, _, _, rx⟩ := (view_vw p1.rel r1 e1).tup p1.rel.fh
  have hxs' := allInts_eq hns
  rw [hxs'] at rx
  rw [rx.ofInts] at ht
  refine ⟨t, ns, rfl, .ofF ht, ?_, (Fin.of (X := X) fin p1 (ret_inv hk)).rp p1.rel (.int _)⟩
  rw [hxs', List.length_map] at hl
  exact hl

/-! ### tuple(range(..)) -/
omit [WI] in
theorem rgV_eq (a b : Int) : rgV a b = ((List.range (b - a).toNat).map fun i => V.int (a + (i : Nat))) := by
  unfold rgV
  rfl
theorem rg_rp (F : Hp) (a b : Int) : RpL F (rgV a b) (rngD a b) := by
  rw [rgV_eq]
  unfold rngD
  generalize List.range (b - a).toNat = l
  induction l with
  | nil => exact .nil
  | cons i l ih => exact .cons (.int _) ih
theorem se_trg1 {b : Ex} {y : Expr} {p0 p1 p2 p : Pos} (ok : Ok X cf W cl tb) (hg : gloB X.env.scope "tuple" = true) (hg2 : gloB X.env.scope "range" = true) (hb : badE y = false) (ha : SE X cf W cl b y) :
    SE X cf W cl (.trg1 b) (.Call (.Name "tuple" p0) [.Call (.Name "range" p1) [y] [] p2] [] p) := by
  intro st σ H F ρ r Q rel hk hx fin
  refine tE_of (pe_tupRgF ok.calm (gl_of hg) (ok.blt _ (by decide +kernel)) (prg_1 (gl_of hg2) (ok.blt _ (by decide +kernel)) pe_self (star_cons hb)) rfl) ?_
  refine ha.one rel hk hx fun w1 st1 v1 H1 F1 p1 r1 f1 hk => ?_
  obtain ⟨j, e1, hk⟩ := toInt_bind hk
  split at hk
  · rename_i hj
    refine ⟨j, (view_vw p1.rel r1 e1).int, by unfold RgOk; omega, ?_⟩
    exact Fin.tup p1.rel (Fin.of (X := X) fin p1 (ret_inv hk)) (rg_rp _ _ _)
  · cases hk
theorem se_trg2 {a b : Ex} {x y : Expr} {p0 p1 p2 p : Pos} (ok : Ok X cf W cl tb) (hg : gloB X.env.scope "tuple" = true) (hg2 : gloB X.env.scope "range" = true) (hb : badE x = false) (hb2 : badE y = false) (ha : SE X cf W cl a x) (hb : SE X cf W cl b y) :
    SE X cf W cl (.trg2 a b) (.Call (.Name "tuple" p0) [.Call (.Name "range" p1) [x, y] [] p2] [] p) := by
  intro st σ H F ρ r Q rel hk hx fin
  obtain ⟨s1, s2⟩ := two_plain (X := X) (pos := p2) (by assumption : badE x = false) hb2
  refine tE_of (pe_tupRgF ok.calm (gl_of hg) (ok.blt _ (by decide +kernel)) (prg_2 (gl_of hg2) (ok.blt _ (by decide +kernel)) pe_self pe_self s1 (star_cons hb2) s2) rfl) ?_
  refine ha.one rel hk hx fun w1 st1 v1 H1 F1 p1 r1 f1 hk => ?_
  refine hb.one p1.rel hk (hx.step p1) fun w2 st2 v2 H2 F2 p2 r2 f2 hk => ?_
  obtain ⟨i, e1, hk⟩ := toInt_bind hk
  obtain ⟨j, e2, hk⟩ := toInt_bind hk
  split at hk
  · rename_i hj
    refine ⟨i, j, (view_vw p2.rel (r1.step p2) e1).int, (view_vw p2.rel r2 e2).int, by unfold RgOk; omega, ?_⟩
    exact Fin.tup p2.rel (Fin.of (X := X) fin (p1.trans p2) (ret_inv hk)) (rg_rp _ _ _)
  · cases hk

/-! ### isinstance -/
def ty6 : List String := ["NoneType", "bool", "int", "str", "list", "tuple"]
omit [WI] in
theorem kit_tab : ∀ a ∈ ty6, ∀ b ∈ ty5, kitB a b = some (b == a || (a == "bool" && b == "int")) := by decide +kernel
omit [WI] in
theorem tyD_in {p : D} {t : String} (h : tyD p = some t) : t ∈ ty6 := by
  cases p <;> (cases h; try decide)
omit [WI] in
theorem kit_any {K : PySem.W.Frag} {t : String} (ht : t ∈ ty6) : ∀ {ts : List String}, (∀ u ∈ ts, u ∈ ty5) → PySem.W.kitAny K (.type t) (ts.map Value.type) = some (ts.any fun u => u == t || (t == "bool" && u == "int"))
  | [], _ => kitAny_nil
  | u :: ts, h => by
    refine kitAny_cons (kit_ty (kit_tab t ht u (h u (List.mem_cons_self ..)))) (fun e => ?_) (fun e => ?_)
    · rw [List.any_cons, e, Bool.false_or]
      exact kit_any ht fun v hv => h v (List.mem_cons_of_mem _ hv)
    · rw [List.any_cons, e, Bool.true_or]
omit [WI] in
theorem boot_ty : ∀ t ∈ ty5, bootBuiltins (Str.ofString t) = some (.type t) ∧ Str.ofString t ≠ ("__name__" : Str) ∧ (Str.ofString t == ("__debug__" : Str)) = false ∧ bltNames.contains (Str.ofString t) = true := by decide +kernel
theorem pe_ty {t : String} {p : Pos} (ok : Ok X cf W cl tb) (ht : t ∈ ty5) (hg : gloB X.env.scope (Str.ofString t) = true) : PE X (.Name (Str.ofString t) p) (tC (.ty t)) := by
  obtain ⟨h1, h2, h3, h4⟩ := boot_ty t ht
  exact pe_bltn (gl_of hg) (ok.blt _ h4) h1 rfl h2 h3
theorem pa_tys (ok : Ok X cf W cl tb) : ∀ {es : List Expr} {xs : List Str} {ts : List String}, tyNames es = some xs → xs = ts.map Str.ofString → (∀ x ∈ xs, gloB X.env.scope x = true) → (∀ t ∈ ts, t ∈ ty5) → ∀ {σ : L2.St} {H : Hp} {Q : List V → Hp → Prop}, Q (ts.map V.ty) H → tA X es σ H Q
  | [], xs, ts, h, e, hg, ht, σ, H, Q, q => by
    cases h
    cases ts with
    | nil => exact tA_of pa_nil q
    | cons t ts => cases e
  | ex :: es, xs, ts, h, e, hg, ht, σ, H, Q, q => by
    cases ex <;> first | (exact nomatch (show (none : Option (List Str)) = some xs from h)) | skip
    rename_i x p
    have h : (tyNames es).map (x :: ·) = some xs := h
    simp only [Option.map_eq_some_iff] at h
    obtain ⟨ys, h1, rfl⟩ := h
    cases ts with
    | nil => cases e
    | cons t ts =>
      rw [List.map_cons] at e
      injection e with e1 e2
      subst e1
      refine tA_of (pa_cons (pe_ty ok (ht t (List.mem_cons_self ..)) (hg _ (List.mem_cons_self ..))) pa_self) ?_
      exact pa_tys ok h1 e2 (fun x hx => hg x (List.mem_cons_of_mem _ hx)) (fun x hx => ht x (List.mem_cons_of_mem _ hx)) q
omit [WI] in
theorem tyNm_inv {sc : Scope} {ts : List String} {xs : List Str} (h : tyNm sc ts xs = true) : xs = ts.map Str.ofString ∧ (∀ x ∈ xs, gloB sc x = true) ∧ ∀ t ∈ ts, t ∈ ty5 := by
  obtain ⟨h, h3⟩ := and2 h
  obtain ⟨h1, h2⟩ := and2 h
  exact ⟨of_decide_eq_true h1, List.all_eq_true.mp h2, fun t ht => List.contains_iff_mem.mp (List.all_eq_true.mp h3 t ht)⟩
omit [WI] in
theorem cls_all : ∀ ts : List String, Paired ClsV (ts.map V.ty) (ts.map Value.type)
  | [] => .nil
  | t :: ts => .cons (.ty t) (cls_all ts)
omit [WI] in
theorem ty_bad {sc : Scope} {ts : List String} {t : Expr} (h : tyOk sc ts t = true) : badE t = false := by
  cases t <;> first | rfl | exact Bool.noConfusion (h : false = true)
theorem pe_isi {x t : Expr} {p0 p : Pos} {r : List V → Hp → VK → Prop} (hc : CallR X (.builtin "isinstance") r) (ok : Ok X cf W cl tb) (hg : gloB X.env.scope "isinstance" = true) (hb : badE x = false) (hb2 : badE t = false) :
    PE X (.Call (.Name "isinstance" p0) [x, t] [] p) (tCB r (fun σ H Q => tE X x σ H fun v H1 => tE X t σ H1 fun u H2 => Q [v, u] H2)) := by
  obtain ⟨s1, s2⟩ := two_plain (X := X) (pos := p) hb hb2
  exact pe_callB hc (gl_of hg) (ok.blt _ (by decide +kernel)) PyProof.Rows.boot_isinstance (pa_cons pe_self (pa_cons pe_self pa_nil (star_cons hb2)) s1) (by decide) (by decide) s1 s2
theorem se_isi {a : Ex} {x t : Expr} {ts : List String} {p0 p : Pos} (ok : Ok X cf W cl tb) (hg : gloB X.env.scope "isinstance" = true) (hb : badE x = false) (ht : tyOk X.env.scope ts t = true) (ha : SE X cf W cl a x) :
    SE X cf W cl (.isi a ts) (.Call (.Name "isinstance" p0) [x, t] [] p) := by
  intro st σ H F ρ r Q rel hk hx fin
  have hb2 := ty_bad ht
  cases t <;> first | (exact Bool.noConfusion (show false = true from ht)) | skip
  · rename_i nm pp
    obtain ⟨e1, e2, e3⟩ := tyNm_inv (show tyNm X.env.scope ts [nm] = true from ht)
    cases ts with
    | nil => cases e1
    | cons t ts =>
      cases ts with
      | cons _ _ => cases e1
      | nil =>
        injection e1 with e1 _
        subst e1
        refine tE_of (pe_isi call_isi ok hg hb hb2) ?_
        refine ha.one rel hk hx fun w1 st1 v1 H1 F1 p1 r1 f1 hk => ?_
        obtain ⟨d1, e1, hk⟩ := view_bind hk
        obtain ⟨b, hb', hk⟩ := opt_bind hk
        unfold isiD at hb'
        simp only [Option.bind_eq_some_iff, Option.some.injEq] at hb'
        obtain ⟨tn, htn, rfl⟩ := hb'
        refine tE_of (pe_ty ok (e3 t (List.mem_cons_self ..)) (e2 _ (List.mem_cons_self ..))) ?_
        refine ⟨v1, .ty t, .type tn, .type t, _, rfl, .ty t, tyX_of p1.rel (view_vw p1.rel r1 e1) htn, kit_ty (kit_tab tn (tyD_in htn) t (e3 t (List.mem_cons_self ..))), ?_⟩
        have f := (Fin.of (X := X) fin p1 (ret_inv hk)).rp p1.rel (.bl _)
        rw [List.any_cons, List.any_nil, Bool.or_false] at f
        exact f
  · -- a tuple of names
    rename_i es k pp
    obtain ⟨ht, hl⟩ := and2 (show ((match tyNames es with | some xs => tyNm X.env.scope ts xs | none => false) && decide (2 ≤ ts.length ∧ ts.length ≤ 8)) = true from ht)
    have hl := of_decide_eq_true hl
    split at ht
    · rename_i xs hxs
      obtain ⟨e1, e2, e3⟩ := tyNm_inv ht
      refine tE_of (pe_isi call_isiT ok hg hb hb2) ?_
      refine ha.one rel hk hx fun w1 st1 v1 H1 F1 p1 r1 f1 hk => ?_
      obtain ⟨d1, e1', hk⟩ := view_bind hk
      obtain ⟨b, hb', hk⟩ := opt_bind hk
      unfold isiD at hb'
      simp only [Option.bind_eq_some_iff, Option.some.injEq] at hb'
      obtain ⟨tn, htn, rfl⟩ := hb'
      refine tE_of (pe_tup pa_self) ?_
      refine pa_tys ok hxs e1 e2 e3 ⟨?_, fun tp hp => ?_⟩
      · rw [List.length_map]
        exact lim_line (by unfold LIM; omega)
      · have P2 := Pst.newO (o := HO.tup (ts.map V.ty)) p1.rel hp
        have vw := view_vw P2.rel (r1.step P2) e1'
        refine ⟨v1, tp, ts.map V.ty, .type tn, ts.map Value.type, _, rfl, upd_same, cls_all ts, tyX_of P2.rel vw htn, kit_any (tyD_in htn) e3, ?_⟩
        exact (Fin.of (X := X) fin (p1.trans P2) (ret_inv hk)).rp P2.rel (.bl _)
    · cases ht
end
end MP
set_option maxHeartbeats 2000000
/-! MPl: methods; what is walked. -/
namespace MP
open PySem L2 PySem.Spec PyProof.Rows
variable [WI]
section
variable {X : Cx} {cf : CallF} {W : WX} {cl : Str → Addr} {tb : Tb}
/-- what a method's call ends with, in the evaluator -/
def mthEnd (m : Mth) (w : MP.W) (c0 : D) (ds : List D) : M MP.W := M.bind (view w) fun c => if kindD c0 != kindD c then M.stuck else M.bind (M.opt (mthD m c ds)) fun r =>
  match r.2 with
  | none => M.ret r.1
  | some c' => M.bind (setCell w c') fun _ => M.ret r.1
omit [WI] in
theorem setCell_inv {w : MP.W} {c : Cell} {st : MP.St} {r : R Unit} (h : setCell w c st = some r) : ∃ st', r = .ok () st' := by
  unfold setCell at h
  split at h
  · split at h
    · exact ⟨_, (Option.some.inj h).symm⟩
    · cases h
  · split at h
    · exact ⟨_, (Option.some.inj h).symm⟩
    · cases h
  · cases h
theorem mth_core (hww : X.w = WI.w) (hu : X.A.units + 65 < cLine) {m : Mth} {T id : String} {st0 st : MP.St} {σ : L2.St} {ρ : List Addr} {H0 F0 H F : Hp} {r : R MP.W} {Q : VK} {v : V} {vs : List V} {w : MP.W} {c0 : D} {ds : List D}
    (fin : ∀ w st', r = .ok w st' → ∀ v H' F', Pst st0 st' σ ρ H0 F0 H' F' → RW st' σ H' F' ρ v w → Fresh st0 σ ρ H0 v w → Q v H')
    (P : Pst st0 st σ ρ H0 F0 H F) (hw : RW st σ H F ρ v w) (hd : RpL F vs ds) (hT : mthT m c0 = some (T, id)) (hk : mthEnd m w c0 ds st = some r) : vMt X id v vs H Q := by
  unfold mthEnd at hk
  obtain ⟨c, e1, hk⟩ := view_bind hk
  split at hk
  · cases hk
  · rename_i hkd
    have hkd : kindD c0 = kindD c := by simpa using hkd
    obtain ⟨⟨y, oc⟩, hm, hk⟩ := opt_bind hk
    have hT' : mthT m c = some (T, id) := by rw [← mthT_kind hkd]; exact hT
    have vw := view_vw P.rel hw e1
    refine mthD_ok hww hu P.rel vw hd hm hT' (fun e => ?_) (fun es e p vs0 us u ex hp rs ry => ?_) (fun c' e => mthD_cell hm e)
    · subst e
      have hk : M.ret y st = some r := hk
      exact Fin.of (X := X) fin P (ret_inv hk)
    · subst e
      have hk : M.bind (setCell w (.lst es)) (fun _ => M.ret y) st = some r := hk
      rcases bind_inv hk with ⟨c', s', h1, h2⟩ | ⟨_, st', h1, h2⟩
      · obtain ⟨_, z⟩ := setCell_inv h1
        cases z
      · subst ex
        have P2 := mut_ok P.rel hw h1 rs
        obtain ⟨es', y', _, hy⟩ := mthD_cell hm rfl
        have hy : y = .d y' := hy
        subst hy
        exact fin _ _ (ret_inv h2) u _ _ (P.trans P2) (show Rp F u y' from ry y' rfl) True.intro
theorem se_mth0 {m : Mth} {o : Ex} {x : Expr} {apos p : Pos} (ok : Ok X cf W cl tb) (hl : (apos.endLine == p.line) = true) (hb : attributeBase x (mthName m) X.env (eval x X.env) = eval x X.env) (ha : SE X cf W cl o x) : SE X cf W cl (.mth m o .nil) (.Call (.Attribute x (mthName m) apos) [] [] p) := by
  intro st σ H F ρ r Q rel hk hx fin
  refine tE_of (pe_m0A pe_self hb hl) ?_
  refine ha.one rel hk hx fun w1 st1 v1 H1 F1 p1 r1 f1 hk => ?_
  obtain ⟨c0, e1, hk⟩ := view_bind hk
  obtain ⟨⟨T, id⟩, hT, hk⟩ := opt_bind hk
  exact ⟨T, id, mthT_ok hT, tyA_of p1.rel.fh hT (view_vw p1.rel r1 e1), mth_core ok.wi (by have := ok.un; omega) fin p1 r1 .nil hT hk⟩
theorem se_mth1 {m : Mth} {o : Ex} {es : Exs} {x y : Expr} {ys : List Expr} {apos p : Pos} (ok : Ok X cf W cl tb) (hl : (apos.endLine == p.line) = true) (hb : attributeBase x (mthName m) X.env (eval x X.env) = eval x X.env) (hy : badE y = false) (hn : (y :: ys).length < 20)
    (h1 : ∀ pos, (backTo pos (starEach (y :: ys) X.env)).all (fun x => !x.1) = true) (h2 : ∀ pos, (backTo pos (starEach ys X.env)).any (·.1) = false) (ha : SE X cf W cl o x) (hs : SKs X cf W cl es (y :: ys)) : SE X cf W cl (.mth m o es) (.Call (.Attribute x (mthName m) apos) (y :: ys) [] p) := by
  intro st σ H F ρ r Q rel hk hx fin
  refine tE_of (pe_m1A pe_self pa_self hb ?_ hl (star_cons hy) (h2 _)) ?_
  · rw [h1]
    show (true && true && decide _) = true
    rw [Bool.true_and, Bool.true_and]
    refine decide_eq_true ?_
    show (y :: ys).length + 0 + 0 < 30
    omega
  refine ha.one rel hk hx fun w1 st1 v1 H1 F1 p1 r1 f1 hk => ?_
  obtain ⟨c0, e1, hk⟩ := view_bind hk
  obtain ⟨⟨T, id⟩, hT, hk⟩ := opt_bind hk
  refine ⟨T, id, mthT_ok hT, tyA_of p1.rel.fh hT (view_vw p1.rel r1 e1), ?_⟩
  refine hs _ _ _ _ _ _ _ _ _ p1.rel hk (hx.step p1) fun ds st2 vs H2 F2 p2 rs _ hk => ?_
  exact mth_core ok.wi (by have := ok.un; omega) fin (p1.trans p2) (r1.step p2) rs hT hk
end
end MP
set_option maxHeartbeats 2000000
/-! MPk2: dicts made, max and min of two, calls without arguments, sorted lists of tuples. -/
namespace MP
open PySem L2 PySem.Spec PyProof.Rows
variable [WI]
section
variable {X : Cx} {cf : CallF} {W : WX} {cl : Str → Addr} {tb : Tb}
theorem Fin.dic {st : MP.St} {σ : L2.St} {ρ : List Addr} {H F : Hp} {Q : VK} {ds : List (D × D)} {kvs : List (Key × V)} (rel : Rel st σ H F ρ) (fin : Fin st σ ρ H F (.fr (.dic false ds)) Q) (r : RpK F kvs ds) {t : Addr} (ht : H t = none) : Q (.ref t) (upd H t (.dK kvs)) := by
  have hf : F t = none := by
    cases q : F t with
    | none => rfl
    | some u => rw [rel.fh _ _ q] at ht; cases ht
  refine fin (.ref t) _ F (Pst.newO rel ht) ⟨t, rfl, ⟨kvs, upd_same, r⟩, hf, not_own_new rel ht⟩ fun p e => ?_
  cases e
  exact .inl ht
theorem se_dnew {p : Pos} : SE X cf W cl .dnew (.Dict [] [] p) := by
  intro st σ H F ρ r Q rel hk hx fin
  have hk := ret_inv hk
  refine tE_of pe_dnewK fun t ht => ?_
  exact Fin.dic rel (Fin.of (X := X) fin (Pst.refl rel) hk) .nil ht
theorem se_dis {a b : Ex} {x y : Expr} {p : Pos} (ha : SE X cf W cl a x) (hb : SE X cf W cl b y) : SE X cf W cl (.dis a b) (.Dict [some x] [y] p) := by
  intro st σ H F ρ r Q rel hk hx fin
  refine tE_of (pe_disp (pps_cons pe_self pe_self pps_nil) rfl rfl (List.cons_ne_nil _ _) (by simp)) fun t ht => ?_
  have P0 := Pst.newO (o := HO.dK []) rel ht
  have ft : F t = none := by
    cases q : F t with
    | none => rfl
    | some u => rw [rel.fh _ _ q] at ht; cases ht
  have nt := not_own_new rel ht
  show tE X x σ (upd H t (.dK [])) _
  refine ha.one P0.rel hk (hx.step P0) fun w1 st1 v1 H1 F1 p1 r1 f1 hk => ?_
  obtain ⟨i, e1, hk⟩ := toInt_bind hk
  refine hb.one p1.rel hk (hx.step (P0.trans p1)) fun w2 st2 v2 H2 F2 p2 r2 f2 hk => ?_
  obtain ⟨d, st3, h3, hk⟩ := keep_bind hk
  obtain ⟨F3, p3, rp⟩ := keep_ok p2 r2 f2 h3
  have hk := ret_inv hk
  have P : Pst st st3 σ ρ (upd H t (.dK [])) F H2 F3 := p1.trans p3
  have h2 : H2 t = some (.dK []) := P.stp.keep t _ upd_same nt
  have f3 : F3 t = none := by
    cases q : F3 t with
    | none => rfl
    | some u =>
      rcases P.stp.new t u _ q ft upd_same with z | ⟨ob, xs, z⟩
      · exact absurd z nt
      · cases z
  have n3 : ¬ OwnS st3.v σ ρ t := fun z => by
    rcases P.sub t z with y | y
    · exact nt y
    · rw [upd_same] at y; cases y
  refine ⟨h2, [(.inl i, v2)], ?_, by simp, ?_⟩
  · rw [(view_vw p1.rel r1 e1).int]
    rfl
  · have PP := P0.trans P
    have rel4 : Rel st3 σ (upd H2 t (.dK [(.inl i, v2)])) F3 ρ := by
      refine ⟨fun a u e => ?_, PP.rel.len, fun j c e => ?_, PP.rel.inj, ⟨PP.rel.sto.len, PP.rel.sto.nd, fun n a c e1 e2 => ?_⟩⟩
      · rw [upd_ne (fun z => by rw [z, f3] at e; cases e)]
        exact PP.rel.fh _ _ e
      · have q := PP.rel.slot j c e
        cases c with
        | un => exact q
        | val d => exact q
        | loc n => exact q
        | own c =>
          obtain ⟨p', h1, h2, h3, h4⟩ := q
          exact ⟨p', h1, h2.other fun z => n3 (.inr ⟨j, c, e, by rw [h1, z]⟩), h3, h4⟩
      · obtain ⟨k1, k2, k3⟩ := PP.rel.sto.cel n a c e1 e2
        exact ⟨k1.other fun z => n3 (.inl (by rw [← z]; exact List.mem_of_getElem? e1)), k2, k3⟩
    refine fin _ st3 hk (.ref t) _ F3 ⟨rel4, ⟨PP.stp.fle, fun a u e n => ?_, fun a u u' e n h => PP.stp.new a u u' e n h⟩, PP.sub⟩ ⟨t, rfl, ⟨_, upd_same, .cons rp .nil⟩, f3, n3⟩ (fun q e => by cases e; exact .inl ht)
    rw [upd_ne (fun z => by rw [z, ht] at e; cases e)]
    exact PP.stp.keep a u e n

theorem se_disT {a b : Ex} {x y : Expr} {p : Pos} (ok : Ok X cf W cl tb) (ha : SE X cf W cl a x) (hb : SE X cf W cl b y) : SE X cf W cl (.disT a b) (.Dict [some x] [y] p) := by
  intro st σ H F ρ r Q rel hk hx fin
  refine tE_of (pe_dispT (u64 ok) pe_self pe_self) fun t ht => ?_
  have P0 := Pst.newO (o := HO.dK []) rel ht
  have ft : F t = none := by
    cases q : F t with
    | none => rfl
    | some u => rw [rel.fh _ _ q] at ht; cases ht
  have nt := not_own_new rel ht
  show tE X x σ (upd H t (.dK [])) _
  refine ha.one P0.rel hk (hx.step P0) fun w1 st1 v1 H1 F1 p1 r1 f1 hk => ?_
  obtain ⟨kd, st1', h1, hk⟩ := keep_bind hk
  obtain ⟨F1', pk, rk⟩ := keep_ok p1 r1 f1 h1
  refine hb.one pk.rel hk (hx.step (P0.trans pk)) fun w2 st2 v2 H2 F2 p2 r2 f2 hk => ?_
  obtain ⟨d, st3, h3, hk⟩ := keep_bind hk
  obtain ⟨F3, p3, rp⟩ := keep_ok p2 r2 f2 h3
  have hk : (if isTK kd = true then M.ret (MP.W.fr (.dic true [(kd, d)])) else M.stuck) st3 = some r := hk
  by_cases htk : isTK kd = true
  case neg =>
    rw [if_neg htk] at hk
    cases hk
  rw [if_pos htk] at hk
  have hk := ret_inv hk
  have P : Pst st st3 σ ρ (upd H t (.dK [])) F H2 F3 := pk.trans p3
  have h2 : H2 t = some (.dK []) := P.stp.keep t _ upd_same nt
  have f3 : F3 t = none := by
    cases q : F3 t with
    | none => rfl
    | some u =>
      rcases P.stp.new t u _ q ft upd_same with z | ⟨ob, xs, z⟩
      · exact absurd z nt
      · cases z
  have n3 : ¬ OwnS st3.v σ ρ t := fun z => by
    rcases P.sub t z with y | y
    · exact nt y
    · rw [upd_same] at y; cases y
  have rk3 : Rp F3 v1 kd := rk.mono p3.stp.fle
  obtain ⟨ds, rfl⟩ := (isTK_inv htk).2.2
  obtain ⟨b, rfl⟩ : ∃ b, v1 = .ref b := by
    cases rk3
    exact ⟨_, rfl⟩
  refine ⟨h2, b, keyN (.tuple ds), rfl, (Rp.nky rk3 (isTK_inv htk).1).mono (P0.trans P).rel.fh, (isTK_inv htk).2.1, ?_⟩
  rw [ok.wi]
  · have PP := P0.trans P
    have rel4 : Rel st3 σ (upd H2 t (TDO WI.w t [(keyN (.tuple ds), b, v2)])) F3 ρ := by
      refine ⟨fun a u e => ?_, PP.rel.len, fun j c e => ?_, PP.rel.inj, ⟨PP.rel.sto.len, PP.rel.sto.nd, fun n a c e1 e2 => ?_⟩⟩
      · rw [upd_ne (fun z => by rw [z, f3] at e; cases e)]
        exact PP.rel.fh _ _ e
      · have q := PP.rel.slot j c e
        cases c with
        | un => exact q
        | val d => exact q
        | loc n => exact q
        | own c =>
          obtain ⟨p', h1, h2, h3, h4⟩ := q
          exact ⟨p', h1, h2.other fun z => n3 (.inr ⟨j, c, e, by rw [h1, z]⟩), h3, h4⟩
      · obtain ⟨k1, k2, k3⟩ := PP.rel.sto.cel n a c e1 e2
        exact ⟨k1.other fun z => n3 (.inl (by rw [← z]; exact List.mem_of_getElem? e1)), k2, k3⟩
    refine fin _ st3 hk (.ref t) _ F3 ⟨rel4, ⟨PP.stp.fle, fun a u e n => ?_, fun a u u' e n h => PP.stp.new a u u' e n h⟩, PP.sub⟩ ⟨t, rfl, ⟨by simp, _, upd_same, .cons htk rk3 rp .nil⟩, f3, n3⟩ (fun q e => by cases e; exact .inl ht)
    rw [upd_ne (fun z => by rw [z, ht] at e; cases e)]
    exact PP.stp.keep a u e n

/-! ### max and min of two -/
theorem se_mm2 {mx : Bool} {a b : Ex} {x y : Expr} {p0 p : Pos} (ok : Ok X cf W cl tb) (hg : gloB X.env.scope (if mx then "max" else "min" : Str) = true) (hb1 : badE x = false) (hb2 : badE y = false) (ha : SE X cf W cl a x) (hb : SE X cf W cl b y) :
    SE X cf W cl (.mm2 mx a b) (.Call (.Name (if mx then "max" else "min" : Str) p0) [x, y] [] p) := by
  intro st σ H F ρ r Q rel hk hx fin
  obtain ⟨s1, s2⟩ := two_plain (X := X) (pos := p) hb1 hb2
  have fn : ∀ {T : List V → Hp → VK → Prop}, (∀ i j H' st' F', Pst st st' σ ρ H F H' F' → M.ret (MP.W.d (.int (if mx then max i j else min i j))) st' = some r → T [.int i, .int j] H' Q) → tE X x σ H fun v H1 => tE X y σ H1 fun u H2 => T [v, u] H2 Q := fun {T} q => by
    refine ha.one rel hk hx fun w1 st1 v1 H1 F1 p1 r1 f1 hk => ?_
    refine hb.one p1.rel hk (hx.step p1) fun w2 st2 v2 H2 F2 p2 r2 f2 hk => ?_
    obtain ⟨i, e1, hk⟩ := toInt_bind hk
    obtain ⟨j, e2, hk⟩ := toInt_bind hk
    rw [(view_vw p2.rel (r1.step p2) e1).int, (view_vw p2.rel r2 e2).int]
    exact q i j H2 st2 F2 (p1.trans p2) hk
  cases mx with
  | true =>
    refine tE_of (pe_callB (call_max2 ok.calm) (gl_of hg) (ok.blt _ (by decide +kernel)) boot_max (pa_cons pe_self (pa_cons pe_self pa_nil (star_cons hb2)) s1) (by decide) (by decide) s1 s2) ?_
    refine fn (T := fun xs H Q => ∃ i j, xs = [.int i, .int j] ∧ Q (.int (if j > i then j else i)) H) fun i j H' st' F' P hk => ⟨i, j, rfl, ?_⟩
    have e : (if j > i then j else i) = max i j := by
      by_cases h : j > i
      · rw [if_pos h, Int.max_eq_right (by omega)]
      · rw [if_neg h, Int.max_eq_left (by omega)]
    rw [e]
    exact (Fin.of (X := X) fin P (ret_inv hk)).rp P.rel (.int _)
  | false =>
    refine tE_of (pe_callB (call_min2 ok.calm) (gl_of hg) (ok.blt _ (by decide +kernel)) boot_min (pa_cons pe_self (pa_cons pe_self pa_nil (star_cons hb2)) s1) (by decide) (by decide) s1 s2) ?_
    refine fn (T := fun xs H Q => ∃ i j, xs = [.int i, .int j] ∧ Q (.int (if j < i then j else i)) H) fun i j H' st' F' P hk => ⟨i, j, rfl, ?_⟩
    have e : (if j < i then j else i) = min i j := by
      by_cases h : j < i
      · rw [if_pos h, Int.min_eq_right (by omega)]
      · rw [if_neg h, Int.min_eq_left (by omega)]
    rw [e]
    exact (Fin.of (X := X) fin P (ret_inv hk)).rp P.rel (.int _)

/-! ### f() -/
omit [WI] in
theorem pe_call0S {CX : CXT} {k : Nat} {f : Addr} {fd : FuncData} {ps : List Str} {sp : Sp} {E : L2.St → XK} {x : Str} {p pos : Pos} (F : FnOk X.prog X.w X.K X.mg X.base CX k f fd ps sp) (hr : Room k X.A) (hg : Gl X x) (hm : X.mg x = some (.ref f)) (hk : PySem.W.keepIn X.K (.ref f) = true) (hb : Binds X.K fd ps [])
    (hx : ∀ σ, PassesAt CX X σ (E σ)) (hdb : (x == ("__debug__" : Str)) = false := by decide) : PE X (.Call (.Name x p) [] [] pos) (tCallS sp E tNil) := by
  refine ⟨fun pins s σ H Q I h => ?_⟩
  refine wpAny_Call_Name_kw (ld_glob I hg hm ?_ hdb)
  exact PySem.W.callWith_K0 I.kIn hk (run_fnS (us := []) F hr hb (hx σ) I .nil h)
theorem se_call0 {f : Str} {p0 p : Pos} (ok : Ok X cf W cl tb) (hg : gloB X.env.scope f = true) (hn : nameOk f = true) (hf : tb.fs.contains f = true) : SE X cf W cl (.call0 f) (.Call (.Name f p0) [] [] p) := by
  intro st σ H F ρ r Q rel hk hx fin
  obtain ⟨fa, fd, ps, k, gm, kp, bd, rm, hlen, fo⟩ := ok.fn f hf
  refine tE_of (pe_call0S (E := WE W) fo rm (gl_of hg) gm kp bd (fun σ => passAt ok.tk σ) (name_dbg hn).1) ?_
  have p3 := Pst.refl rel
  have rws : RWs st σ H F ρ [] [] := .nil
  have hk : callW cf f [] st = some r := hk
  unfold callW at hk
  simp only [Option.bind_eq_some_iff] at hk
  obtain ⟨as, ha1, cr, hc, hk⟩ := hk
  have hargs := args_ok p3.rel [] rws (fun w h => h) ha1
  refine ⟨lentF st σ [] H F, ρ, as, st.s, cr, ?_, hargs, lentF_leH p3.rel _, ⟨p3.rel.sto.len, p3.rel.sto.nd, fun n q c e1 e2 => ?_⟩, hc, fun w s' e v H' F' bk rc => ?_, fun c s' e H' F' bk => ?_⟩
  · rw [hargs.length]
    exact hlen _ _ _ hc
  · obtain ⟨k1, k2, k3⟩ := p3.rel.sto.cel n q c e1 e2
    refine ⟨k1.mono (lentF_le p3.rel _) fun _ h => h, ?_, k3⟩
    unfold lentF
    rw [if_neg (fun z => z.nρ p3.rel (List.mem_of_getElem? e1))]
    exact k2
  · subst e
    have fz := back_freeze p3.rel bk
    cases w with
    | d y =>
      have rc : Rp F' v y := rc
      simp only at hk
      split at hk
      · rename_i hm
        cases hk
        obtain ⟨F2', p4, lt, _⟩ := back_lent p3.rel bk
        exact fin _ _ rfl v H' F2' p4 (rc.monoT lt hm) True.intro
      · cases hk
        exact fin _ _ rfl v H' F' fz rc True.intro
    | fr c =>
      simp only at hk
      cases hk
      obtain ⟨q, rfl, c1, c2, c3, c4⟩ := rc
      refine fin _ _ rfl _ H' F' fz ⟨q, rfl, c1, c2, fun z => ?_⟩ fun q' e => by cases e; exact .inl c4
      rcases z with y | ⟨j, c', y1, y2⟩
      · exact c3 y
      · obtain ⟨_, o3, z3, _⟩ := (show OwnS st.v σ ρ q from .inr ⟨j, c', freeze_own y1, y2⟩).there p3.rel
        rw [c4] at z3
        cases z3
  · subst e
    simp only at hk
    cases hk
    exact hx c _ rfl H' F' (back_freeze p3.rel bk)

/-! ### sorted of a list of tuples of ints -/
/-- the ints of the tuple at a value -/
def intsAt (F : Hp) : V → List Int
  | .ref a => match F a with
    | some (.frz _ (.tup xs)) => xs.filterMap fun | .int i => some i | _ => none
    | _ => []
  | _ => []
omit [WI] in
theorem fm_ints : ∀ ns : List Int, (ns.map V.int).filterMap (fun | .int i => some i | _ => none) = ns
  | [] => rfl
  | n :: ns => congrArg (n :: ·) (fm_ints ns)
theorem tupI_at {F : Hp} {v : V} {d : D} {ns : List Int} (r : Rp F v d) (h : tupI d = some ns) : ∃ a ob, v = .ref a ∧ F a = some (.frz ob (.tup (ns.map V.int))) ∧ intsAt F v = ns ∧ ns ≠ [] ∧ d = .tuple (ns.map PyData.int) := by
  unfold tupI at h
  split at h
  · rename_i x xs
    have e := allInts_eq h
    rw [e] at r
    cases r with
    | tup h1 h2 h3 =>
      have h3 := h3.ofInts
      subst h3
      refine ⟨_, _, rfl, h1, ?_, ?_, by rw [e]⟩
      · simp only [intsAt, h1]
        exact fm_ints ns
      · intro z
        rw [z] at e
        cases e
  · cases h
theorem allTups_at {F : Hp} : ∀ {vs : List V} {ds : List D} {ts : List (List Int)}, RpL F vs ds → allTups ds = some ts → vs.map (intsAt F) = ts ∧ ds = ts.map (fun t => .tuple (t.map PyData.int)) ∧ ∀ v ∈ vs, ∃ a ob, v = .ref a ∧ F a = some (.frz ob (.tup ((intsAt F v).map V.int))) ∧ intsAt F v ≠ []
  | _, _, ts, .nil, h => by
    cases h
    exact ⟨rfl, rfl, fun v hv => by simp at hv⟩
  | _, _, ts, @RpL.cons _ _ v vs d ds r rs, h => by
    have h : (tupI d).bind (fun x => (allTups ds).map (x :: ·)) = some ts := h
    simp only [Option.bind_eq_some_iff, Option.map_eq_some_iff] at h
    obtain ⟨t, h1, us, h2, rfl⟩ := h
    obtain ⟨a, ob, e1, e2, e3, e4, e5⟩ := tupI_at r h1
    obtain ⟨k1, k2, k3⟩ := allTups_at rs h2
    refine ⟨by rw [List.map_cons, e3, k1], by rw [List.map_cons, ← k2, e5], fun w hw => ?_⟩
    rcases List.mem_cons.mp hw with rfl | hw
    · rw [e3]
      exact ⟨a, ob, e1, e2, e4⟩
    · exact k3 w hw
theorem rp_tups {F : Hp} : ∀ {vs : List V}, (∀ v ∈ vs, ∃ d, Rp F v d ∧ tupI d = some (intsAt F v)) → RpL F vs ((vs.map (intsAt F)).map fun t => .tuple (t.map PyData.int))
  | [], _ => .nil
  | v :: vs, h => by
    obtain ⟨d, h1, h2⟩ := h v (List.mem_cons_self ..)
    obtain ⟨_, _, _, _, _, _, e⟩ := tupI_at h1 h2
    rw [e] at h1
    exact .cons h1 (rp_tups fun w hw => h w (List.mem_cons_of_mem _ hw))
theorem rp_each {F : Hp} : ∀ {vs : List V} {ds : List D} {ts : List (List Int)}, RpL F vs ds → allTups ds = some ts → ∀ v ∈ vs, ∃ d, Rp F v d ∧ tupI d = some (intsAt F v)
  | _, _, ts, .nil, _, v, hv => by simp at hv
  | _, _, ts, @RpL.cons _ _ v vs d ds r rs, h, w, hw => by
    have h : (tupI d).bind (fun x => (allTups ds).map (x :: ·)) = some ts := h
    simp only [Option.bind_eq_some_iff, Option.map_eq_some_iff] at h
    obtain ⟨t, h1, us, h2, rfl⟩ := h
    rcases List.mem_cons.mp hw with rfl | hw
    · obtain ⟨_, _, _, _, e3, _, _⟩ := tupI_at r h1
      exact ⟨d, r, by rw [e3]; exact h1⟩
    · exact rp_each rs h2 w hw
theorem se_srtT {a : Ex} {x : Expr} {p0 p : Pos} (ok : Ok X cf W cl tb) (hg : gloB X.env.scope "sorted" = true) (hb : badE x = false) (ha : SE X cf W cl a x) : SE X cf W cl (.srtT a) (.Call (.Name "sorted" p0) [x] [] p) := by
  intro st σ H F ρ r Q rel hk hx fin
  obtain ⟨s1, s2⟩ := one_plain (X := X) (pos := p) hb
  refine tE_of (pe_callB cr_sortedIL (gl_of hg) (ok.blt _ (by decide +kernel)) boot_sorted (pa_cons pe_self pa_nil s1) (by decide) (by decide) s1 s2) ?_
  refine ha.one rel hk hx fun w1 st1 v1 H1 F1 p1 r1 f1 hk => ?_
  obtain ⟨d, e1, hk1⟩ := view_bind hk
  obtain ⟨xs, h1, hk2⟩ := opt_bind hk1
  obtain ⟨ts, h2, hk3⟩ := opt_bind hk2
  clear hk hk1 hk2
  cases d with
  | list ys =>
    cases h1
    obtain ⟨t, vs, rfl, ht, rs⟩ := (view_vw p1.rel r1 e1).lst p1.rel.fh
    obtain ⟨k1, k2, k3⟩ := allTups_at rs h2
    have ke := rp_each rs h2
    refine ⟨t, vs, intsAt F1, rfl, .of ht, fun v hv => ?_, fun ys p pm so hp => ?_⟩
    · obtain ⟨b, ob, g1, g2, g3⟩ := k3 v hv
      exact ⟨b, g1, .ofF (p1.rel.fh _ _ g2), g3⟩
    · have e : ys.map (intsAt F1) = isortL ts := by
        refine sortedL_unique ?_ (List.pairwise_map.mpr so) (isortL_sorted ts)
        rw [← k1]
        exact (pm.map _).trans (isortL_perm _).symm
      have rr := rp_tups (F := F1) (vs := ys) fun v hv => ke v (pm.mem_iff.mp hv)
      rw [e] at rr
      exact Fin.lst p1.rel (Fin.of (X := X) fin p1 (ret_inv hk3)) rr hp
  | tuple ys => cases h1
  | none => cases h1
  | bool b => cases h1
  | int b => cases h1
  | str b => cases h1
  | dict b => cases h1

/-! ### sorted(set(t)) -/
omit [WI] in
theorem fewT63_inv {p : D} {xs : List D} (h : fewT63 p = some xs) : p = .tuple xs ∧ xs.length < 64 := by
  unfold fewT63 at h
  split at h
  · split at h
    · cases h
      exact ⟨rfl, by assumption⟩
    · cases h
  · cases h
def tSrtS (K : PySem.W.Frag) (ta : TE) : TE := fun σ H Q => ta σ H fun x H1 => ∃ (l : Addr) (ns : List Int), x = .ref l ∧ SqT K H1 l (ns.map V.int) ∧ ns.length < 64 ∧ ∀ (ms : List Int) (p : Addr), ms.Pairwise (· < ·) → (∀ k : Int, k ∈ ms ↔ k ∈ ns) → H1 p = none → Q (.ref p) (upd H1 p (.lst (ms.map V.int)))
omit [WI] in
theorem pe_srtS {a : Expr} {ta : TE} {p p2 q pos : Pos} (hc : X.calm = true) (hg : Gl X "sorted") (hm : X.mg "sorted" = none) (hg2 : Gl X "set") (hm2 : X.mg "set" = none) (ha : PE X a ta)
    (na : starEach [a] X.env = (false, eval a X.env) :: starEach [] X.env) : PE X (.Call (.Name "sorted" p) [.Call (.Name "set" p2) [a] [] q] [] pos) (tSrtS X.K ta) := by
  refine ⟨fun pins s σ H Q I h => ?_⟩
  have inner : wpAny (model X.prog X.w) X.A (eval a X.env) (fun v s1 => wpAny (model X.prog X.w) X.A (call (.type "set") [v]) (fun u s2 => wpAny (model X.prog X.w) X.A (call (.builtin "sorted") [u]) (EP X pins σ Q) X.xe s2) X.xe s1) X.xe s := by
    refine thn (ha.run pins s σ H _ I h) fun v s1 ⟨x, H1, I1, r1, l, ns, ex, hq, hl, q1⟩ => ?_
    subst ex
    cases r1
    obtain ⟨its, rv, pl, _⟩ := I1.tuple hq
    refine call_set_tupI ns (I1.ok.hd hc) pl (by simpa using ints_vals rv) (by unfold scanBound; omega) fun h' tk c hS hcl hk => ?_
    have I2 : Inv X pins σ H1 { s1 with heap := h', toks := tk } := I1.kept hk
    refine sorted_set hS (I2.ok.hd hc) (by omega) fun s' p out c ns' k g o hp hg hi hs hm hl => ?_
    have hlen : (ns'.map V.int).length ≤ sizeLine := by rw [List.length_map, hl, sizeLine_eq]; omega
    have hn : H1 p = none := I2.hok.fresh hp
    have J : Inv X pins σ (upd H1 p (.lst (ns'.map V.int))) { { s1 with heap := h', toks := tk } with heap := s'.heap, gens := s'.gens, drawn := s'.drawn, toks := s'.toks } :=
      I2.call (ch := []) (Un.laid k hp hn) (I2.hok.laid k hp ⟨hlen, out.toList, c, vals_of_ints hi, hg⟩) (by rw [g]; exact I2.bare) (fun _ z => nomatch z)
    have e : s' = { { s1 with heap := h', toks := tk } with heap := s'.heap, gens := s'.gens, drawn := s'.drawn, toks := s'.toks } := by
      cases s'
      cases s1
      cases o
      rfl
    rw [e]
    exact ⟨.ref p, _, J, rfl, q1 ns' p hs (fun k => (hm k).trans decide_eq_true_iff) hn⟩
  refine Call_ (ld_blt I hg hm boot_sorted ?_)
  refine PyProof.Rows.callWith_builtin1 (PyProof.Rows.args_cons ?_ rfl) rfl rfl
  refine Call_ (ld_blt I hg2 hm2 PyProof.Rows.boot_set ?_)
  refine PyProof.Rows.callWith_type1 (PyProof.Rows.args_cons (thn inner fun v s1 h1 => PyProof.Rows.args_nil ?_) na) na rfl
  exact thn h1 fun u s2 h2 => PyProof.Rows.args_nil h2
omit [WI] in
theorem lt_sorted_eq {ms ns : List Int} (h : ms.Pairwise (· < ·)) (hm : ∀ k, k ∈ ms ↔ k ∈ ns) : ms = isort (dedup ns) := by
  obtain ⟨d1, d2⟩ := dedup_spec ns
  refine isort_eq ((List.perm_ext_iff_of_nodup (h.imp fun h => by omega) d1).mpr fun k => (hm k).trans (d2 k).symm) (h.imp fun h => by omega)
theorem se_srtS {a : Ex} {x : Expr} {p0 p1 p2 p : Pos} (ok : Ok X cf W cl tb) (hg : gloB X.env.scope "sorted" = true) (hg2 : gloB X.env.scope "set" = true) (hb : badE x = false) (ha : SE X cf W cl a x) :
    SE X cf W cl (.srtS a) (.Call (.Name "sorted" p0) [.Call (.Name "set" p1) [x] [] p2] [] p) := by
  intro st σ H F ρ r Q rel hk hx fin
  refine tE_of (pe_srtS ok.calm (gl_of hg) (ok.blt _ (by decide +kernel)) (gl_of hg2) (ok.blt _ (by decide +kernel)) pe_self (star_cons hb)) ?_
  refine ha.one rel hk hx fun w1 st1 v1 H1 F1 p1 r1 f1 hk => ?_
  obtain ⟨d1, e1, hk⟩ := view_bind hk
  obtain ⟨xs, hxs, hk⟩ := opt_bind hk
  obtain ⟨ns, hns, hk⟩ := opt_bind hk
  obtain ⟨e5, hl⟩ := fewT63_inv hxs
  rw [e5] at e1
  obtain ⟨t, ob, vs, rfl, ht, _, _, rx⟩ := (view_vw p1.rel r1 e1).tup p1.rel.fh
  have hxs' := allInts_eq hns
  rw [hxs'] at rx
  rw [rx.ofInts] at ht
  refine ⟨t, ns, rfl, .ofF ht, by rw [hxs', List.length_map] at hl; exact hl, fun ms p so hm hp => ?_⟩
  rw [lt_sorted_eq so hm]
  exact Fin.lst p1.rel (Fin.of (X := X) fin p1 (ret_inv hk)) (.ints _) hp
end
end MP
set_option maxHeartbeats 2000000
/-! MPzm: list(zip(..)), sorted(dict keyed by tuples), len(set(list)). -/
namespace MP
open PySem L2 PySem.Spec PyProof.Rows
variable [WI]
section
variable {X : Cx} {cf : CallF} {W : WX} {cl : Str → Addr} {tb : Tb}
/-! ### list(zip(a, b)) -/
theorem Pst.putZ {st : MP.St} {σ : L2.St} {ρ : List Addr} : ∀ (l : List (Addr × Obj × V × V)) {H F : Hp}, Rel st σ H F ρ → (l.map (·.1)).Nodup → (∀ q ∈ l, H q.1 = none) → Pst st st σ ρ H F (MP.putZ H l) (MP.putZ F l)
  | [], _, _, r, _, _ => Pst.refl r
  | (a, o, x, y) :: l, H, F, r, n, h => by
    have n' := List.nodup_cons.mp (show (a :: l.map (·.1)).Nodup from n)
    have p1 := Pst.newF (o := HO.frz o (.tup [x, y])) r (h _ (List.mem_cons_self ..))
    refine p1.trans (Pst.putZ l p1.rel n'.2 fun q hq => ?_)
    rw [upd_ne (fun z => n'.1 (List.mem_map.mpr ⟨q, hq, z⟩))]
    exact h q (List.mem_cons_of_mem _ hq)
theorem rp_zip {F : Hp} : ∀ {l : List (Addr × Obj × V × V)} {xs ys : List V} {ds es : List D}, l.map (·.2.2) = xs.zip ys → (∀ q ∈ l, F q.1 = some (.frz q.2.1 (.tup [q.2.2.1, q.2.2.2])) ∧ q.2.1.dict = none) → RpL F xs ds → RpL F ys es → RpL F (l.map fun q => V.ref q.1) (zipD ds es)
  | l, [], _, ds, es, e, _, h1, _ => by
    cases h1
    have : l = [] := List.map_eq_nil_iff.mp e
    subst this
    exact .nil
  | l, _ :: _, [], ds, es, e, _, h1, h2 => by
    cases h1
    cases h2
    have : l = [] := List.map_eq_nil_iff.mp e
    subst this
    exact .nil
  | [], x :: xs, y :: ys, _, _, e, _, _, _ => by cases e
  | q :: l, x :: xs, y :: ys, _, _, e, hq, .cons r1 rs1, .cons r2 rs2 => by
    rw [List.map_cons, List.zip_cons_cons] at e
    have e1 := (List.cons.inj e).1
    have e2 := (List.cons.inj e).2
    obtain ⟨g1, g2⟩ := hq q (List.mem_cons_self ..)
    rw [e1] at g1
    exact .cons (.tup g1 g2 (.cons r1 (.cons r2 .nil))) (rp_zip e2 (fun q' h' => hq q' (List.mem_cons_of_mem _ h')) rs1 rs2)
theorem sqE_of {F H : Hp} {K : PySem.W.Frag} {v : V} {d : D} {ds : List D} (hf : Le F H) (h : Vw F H v d) (e : items d = some ds) : ∃ a xs, v = .ref a ∧ SqE K H a xs ∧ RpL F xs ds := by
  obtain ⟨a, xs, rfl, ha, rx⟩ := h.items hf e
  exact ⟨a, xs, rfl, ha.imp .of (fun ⟨_, h⟩ => .ofF h), rx⟩
theorem se_lzip {a b : Ex} {x y : Expr} {p0 p1 p2 p : Pos} (ok : Ok X cf W cl tb) (hg : gloB X.env.scope "list" = true) (hg2 : gloB X.env.scope "zip" = true) (hb1 : badE x = false) (hb2 : badE y = false) (ha : SE X cf W cl a x) (hb : SE X cf W cl b y) :
    SE X cf W cl (.lzip a b) (.Call (.Name "list" p0) [.Call (.Name "zip" p1) [x, y] [] p2] [] p) := by
  intro st σ H F ρ r Q rel hk hx fin
  obtain ⟨s1, s2⟩ := two_plain (X := X) (pos := p2) hb1 hb2
  refine tE_of (pe_lzip ok.calm (gl_of hg) (ok.blt _ (by decide +kernel)) (gl_of hg2) (ok.blt _ (by decide +kernel)) (pa_cons pe_self (pa_cons pe_self pa_nil (star_cons hb2)) s1) s1 s2) ?_
  show tE X x σ H fun v H1 => tE X y σ H1 fun u H2 => _
  refine ha.one rel hk hx fun w1 st1 v1 H1 F1 p1 r1 f1 hk => ?_
  obtain ⟨d1, st2, h1, hk⟩ := keep_bind hk
  obtain ⟨F2, k1, rp1⟩ := keep_ok p1 r1 f1 h1
  refine hb.one k1.rel hk (hx.step k1) fun w3 st3 v3 H3 F3 p3 r3 f3 hk => ?_
  obtain ⟨d3, st4, h3, hk⟩ := keep_bind hk
  obtain ⟨F4, k3, rp3⟩ := keep_ok p3 r3 f3 h3
  obtain ⟨xs, e1, hk⟩ := opt_bind hk
  obtain ⟨ys, e3, hk⟩ := opt_bind hk
  have P := k1.trans k3
  obtain ⟨q1, us, rfl, su, ru⟩ := sqE_of (K := X.K) P.rel.fh (.val (rp1.mono k3.stp.fle)) e1
  obtain ⟨q3, ws, rfl, sw, rw'⟩ := sqE_of (K := X.K) P.rel.fh (.val rp3) e3
  refine ⟨q1, q3, us, ws, rfl, su, sw, fun p l hl nd hn hp hpn => ?_⟩
  have P2 := Pst.putZ l P.rel nd fun q hq => (hn q hq).1
  have le := P2.stp.fle
  have at' : ∀ q ∈ l, (MP.putZ F4 l) q.1 = some (.frz q.2.1 (.tup [q.2.2.1, q.2.2.2])) ∧ q.2.1.dict = none := fun q hq => ⟨putZ_at l F4 nd hq, (hn q hq).2⟩
  have rz := rp_zip hl at' (ru.mono le) (rw'.mono le)
  have hp' : (MP.putZ H3 l) p = none := by rw [putZ_off l _ hpn]; exact hp
  exact Fin.lst P2.rel (Fin.of (X := X) fin (P.trans P2) (ret_inv hk)) rz hp'

/-! ### sorted(d) -/
theorem RpT.keysL {F : Hp} : ∀ {xs : List TEn} {ds : List (D × D)}, RpT F xs ds → RpL F (xs.map fun x => V.ref x.2.1) (ds.map Prod.fst)
  | _, _, .nil => .nil
  | _, _, .cons _ r1 _ rs => .cons r1 (RpT.keysL rs)
theorem RpK.noTups {F : Hp} {xs : List (Key × V)} {ds : List (D × D)} {ts : List (List Int)} (r : RpK F xs ds) (h : allTups (ds.map Prod.fst) = some ts) : ds = [] ∧ xs = [] := by
  cases r with
  | nil => exact ⟨rfl, rfl⟩
  | cons r rs => cases h
theorem dicD_inv {p : D} {kvs : List (D × D)} (h : dicD p = some kvs) : p = .dict kvs := by
  unfold dicD at h
  split at h
  · cases h; rfl
  · cases h
theorem se_srtK {a : Ex} {x : Expr} {p0 p : Pos} (ok : Ok X cf W cl tb) (hg : gloB X.env.scope "sorted" = true) (hb : badE x = false) (ha : SE X cf W cl a x) : SE X cf W cl (.srtK a) (.Call (.Name "sorted" p0) [x] [] p) := by
  intro st σ H F ρ r Q rel hk hx fin
  obtain ⟨s1, s2⟩ := one_plain (X := X) (pos := p) hb
  refine tE_of (pe_callB (cr_sortedTD ok.calm) (gl_of hg) (ok.blt _ (by decide +kernel)) boot_sorted (pa_cons pe_self pa_nil s1) (by decide) (by decide) s1 s2) ?_
  refine ha.one rel hk hx fun w1 st1 v1 H1 F1 p1 r1 f1 hk => ?_
  obtain ⟨d, e1, hk⟩ := view_bind hk
  obtain ⟨kvs, h1, hk⟩ := opt_bind hk
  obtain ⟨ts, h2, hk⟩ := opt_bind hk
  rw [dicD_inv h1] at e1
  rcases (view_vw p1.rel r1 e1).dic p1.rel.fh with ⟨t, ys, rfl, ht, rx⟩ | ⟨t, es, rfl, ht, hne, rx⟩
  · obtain ⟨rfl, rfl⟩ := rx.noTups h2
    cases h2
    refine ⟨t, [], fun _ => [], rfl, .inr ⟨rfl, ht⟩, fun x h => (by cases h), fun x h => (by cases h), fun ys p pm so hp => ?_⟩
    have e : ys = [] := pm.eq_nil
    subst e
    exact Fin.lst p1.rel (Fin.of (X := X) fin p1 (ret_inv hk)) .nil hp
  · have rs := rx.keysL
    obtain ⟨k1, k2, k3⟩ := allTups_at rs h2
    have ke := rp_each rs h2
    refine ⟨t, es, intsAt F1, rfl, .inl (by rw [ok.wi]; exact ht), rx.keysOk p1.rel.fh, fun x hx' => ?_, fun ys p pm so hp => ?_⟩
    · obtain ⟨b, ob, g1, g2, g3⟩ := k3 (.ref x.2.1) (List.mem_map.mpr ⟨x, hx', rfl⟩)
      cases g1
      exact ⟨ob, p1.rel.fh _ _ g2, g3⟩
    · have e : ys.map (intsAt F1) = isortL ts := by
        refine sortedL_unique ?_ (List.pairwise_map.mpr so) (isortL_sorted ts)
        rw [← k1]
        exact (pm.map _).trans (isortL_perm _).symm
      have rr := rp_tups (F := F1) (vs := ys) fun v hv => ke v (pm.mem_iff.mp hv)
      rw [e] at rr
      exact Fin.lst p1.rel (Fin.of (X := X) fin p1 (ret_inv hk)) rr hp

/-! ### len(set(xs)), a list of ints -/
omit [WI] in
theorem firstMet_dedup {ns : List Int} : ∀ i, i ≤ ns.length → PyProof.Rows.firstMet (fun i => ns.getD i 0) i = dedup (ns.take i)
  | 0, _ => rfl
  | i + 1, hi => by
    have hlt : i < ns.length := hi
    have e1 : ns.getD i 0 = ns[i] := by
      rw [List.getD_eq_getElem?_getD, List.getElem?_eq_getElem hlt] <;> rfl
    have e2 : ns.take (i + 1) = ns.take i ++ [ns[i]] := by
      rw [List.take_add_one, List.getElem?_eq_getElem hlt] <;> rfl
    have ih := firstMet_dedup i (Nat.le_of_lt hlt)
    rw [PyProof.Rows.firstMet_succ, ih, e2]
    show (if (dedup (ns.take i)).any (· == ns.getD i 0) then dedup (ns.take i) else dedup (ns.take i) ++ [ns.getD i 0]) = _
    rw [e1]
    unfold dedup
    rw [List.foldl_append, List.foldl_cons, List.foldl_nil]
    have e3 : ∀ l : List Int, l.any (· == ns[i]) = l.contains ns[i] := fun l => by
      rw [List.contains_eq_any_beq]
      congr 1
      funext x
      exact Bool.beq_comm
    rw [e3]
omit [WI] in
theorem dedup_lenL (ns : List Int) : (dedup ns).length ≤ ns.length := by
  have h : ∀ (l acc : List Int), (l.foldl (fun acc n => if acc.contains n then acc else acc ++ [n]) acc).length ≤ acc.length + l.length := by
    intro l
    induction l with
    | nil => intro acc; exact Nat.le_refl _
    | cons x l ih =>
      intro acc
      rw [List.foldl_cons]
      refine Nat.le_trans (ih _) ?_
      split
      · rw [List.length_cons]; omega
      · rw [List.length_append, List.length_cons, List.length_cons, List.length_nil]; omega
  have := h ns []
  rw [List.length_nil, Nat.zero_add] at this
  exact this
omit [WI] in
theorem fewL_inv {p : D} {xs : List D} (h : fewL p = some xs) : p = .list xs ∧ xs.length < 4000 := by
  unfold fewL at h
  split at h
  · split at h
    · cases h
      exact ⟨rfl, by assumption⟩
    · cases h
  · cases h
def tLensL (K : PySem.W.Frag) (ta : TE) : TE := fun σ H Q => ta σ H fun x H1 => ∃ (l : Addr) (ns : List Int), x = .ref l ∧ SqL K H1 l (ns.map V.int) ∧ ns.length < 4000 ∧ Q (.int ((dedup ns).length : Nat)) H1
omit [WI] in
theorem pe_lensL {a : Expr} {ta : TE} {p p2 q pos : Pos} (hc : X.calm = true) (hg : Gl X "len") (hm : X.mg "len" = none) (hg2 : Gl X "set") (hm2 : X.mg "set" = none) (ha : PE X a ta)
    (na : starEach [a] X.env = (false, eval a X.env) :: starEach [] X.env) : PE X (.Call (.Name "len" p) [.Call (.Name "set" p2) [a] [] q] [] pos) (tLensL X.K ta) := by
  refine ⟨fun pins s σ H Q I h => ?_⟩
  refine Call_ (ld_blt I hg hm boot_len ?_)
  refine PyProof.Rows.callWith_builtin1 (PyProof.Rows.args_cons ?_ rfl) rfl rfl
  refine Call_ (ld_blt I hg2 hm2 boot_set ?_)
  refine PyProof.Rows.callWith_type1 (PyProof.Rows.args_cons (thn (ha.run pins s σ H _ I h) fun v s1 ⟨x, H1, I1, r1, q1⟩ => PyProof.Rows.args_nil ?_) na) na rfl
  obtain ⟨l, ns, rfl, hq, hl, q1⟩ := q1
  cases r1
  obtain ⟨its, r, pl, hz⟩ := I1.list hq
  have hlen : its.toArray.size = ns.length := by rw [List.size_toArray, ← r.length, List.length_map]
  refine call_set_list (I1.ok.hd hc) pl.isList (by simpa using ints_vals r) (by rw [hlen]; unfold scanBound; omega) fun h' tk hS hk => ?_
  refine PyProof.Rows.args_nil ?_
  rw [hlen, firstMet_dedup ns.length (Nat.le_refl _), List.take_length] at hS
  obtain ⟨o, es, ep, t, ho, hex, hd, _, _, _, hf, hn⟩ := hS
  have I2 : Inv X pins σ H1 { s1 with heap := h', toks := tk } := I1.kept fun b o e => hk b o (Heap.lt_size e) e
  have hdl := dedup_lenL ns
  exact call_len_set ho hex hd hf (by rw [hn] <;> omega) ⟨.int (dedup ns).length, H1, I2.tok _, ⟨_, by rw [hn]⟩, q1⟩
theorem se_lensL {a : Ex} {x : Expr} {p0 p1 p2 p : Pos} (ok : Ok X cf W cl tb) (hg : gloB X.env.scope "len" = true) (hg2 : gloB X.env.scope "set" = true) (hb : badE x = false) (ha : SE X cf W cl a x) :
    SE X cf W cl (.lensL a) (.Call (.Name "len" p0) [.Call (.Name "set" p1) [x] [] p2] [] p) := by
  intro st σ H F ρ r Q rel hk hx fin
  refine tE_of (pe_lensL ok.calm (gl_of hg) (ok.blt _ (by decide +kernel)) (gl_of hg2) (ok.blt _ (by decide +kernel)) pe_self (star_cons hb)) ?_
  refine ha.one rel hk hx fun w1 st1 v1 H1 F1 p1 r1 f1 hk => ?_
  obtain ⟨d1, e1, hk⟩ := view_bind hk
  obtain ⟨xs, hxs, hk⟩ := opt_bind hk
  obtain ⟨ns, hns, hk⟩ := opt_bind hk
  obtain ⟨e5, hl⟩ := fewL_inv hxs
  rw [e5] at e1
  obtain ⟨t, vs, rfl, ht, rx⟩ := (view_vw p1.rel r1 e1).lst p1.rel.fh
  have hxs' := allInts_eq hns
  rw [hxs'] at rx
  rw [rx.ofInts] at ht
  refine ⟨t, ns, rfl, .of ht, ?_, (Fin.of (X := X) fin p1 (ret_inv hk)).rp p1.rel (.int _)⟩
  rw [hxs', List.length_map] at hl
  exact hl
end
end MP
set_option maxHeartbeats 2000000
/-! MPn: enumerate of a tuple. -/
namespace MP
open PySem L2 PySem.Spec PyProof.Rows
/-- the two objects that enumerate(t) makes -/
abbrev tupIt (t : Addr) : Obj := { cls := .type "tuple_iterator", data := .fields #[.ref t, .int 0 0] }
abbrev enuOf (i : Addr) : Obj := { cls := .type "enumerate", data := .fields #[.none, .bool false, .ref i, rawInt 0, .none, .none] }
theorem enumT_new (t : Addr) (items : Array Value) :
    Meets (Builtin.«enumerate.__new__» ⟨[.type "enumerate", .ref t], []⟩) (fun _ R s => s.heap.IsTuple t items ∧ R (.ok (.ret (.ref (s.heap.push (tupIt t)).objs.size))) { s with heap := (s.heap.push (tupIt t)).push (enuOf s.heap.objs.size) }) := by
  refine .of_wp fun prog w A R s ⟨ht, h⟩ => ?_
  have hsub := sub_enumerate
  obtain ⟨hp, g, d, tk, os⟩ := s
  have q1 : ∀ {A' : Around} {E : Value → Shared → Prop} {Q : Value → Shared → Prop}, Q (.ref hp.objs.size) ⟨hp.push (tupIt t), g, d, tk, os⟩ → wpAny (model prog w) A' (pyIter (.ref t)) Q E ⟨hp, g, d, tk, os⟩ := fun q => wpAny_pyIter_tuple ht q
  wp_walk using q1
  refine wpAny_stack_any fun st => wpAny_pure ?_
  split
  · rename_i c _ _ _ _ _
    by_cases hc : (c == Value.type "enumerate") = true
    · simp only [hc]
      wp_walk using q1
      exact ⟨_, rfl, h⟩
    · simp only [hc]
      wp_walk using q1
      exact ⟨_, rfl, h⟩
  · wp_walk using q1
    exact ⟨_, rfl, h⟩
theorem enumT_call {prog : Program} {w : World} {A : Around} {E : Value → Shared → Prop} {s : Shared} {t : Addr} {items : Array Value} {Q : Value → Shared → Prop} (ht : s.heap.IsTuple t items)
    (h : ∀ h', IsEnum h' (s.heap.objs.size + 1) s.heap.objs.size 0 .none → h'.IsTupleIter s.heap.objs.size t 0 → (∀ b o, s.heap.get? b = some o → h'.get? b = some o) → Q (.ref (s.heap.objs.size + 1)) { s with heap := h' }) :
    wpAny (model prog w) A (call (.type "enumerate") [.ref t]) Q E s := by
  have z : (s.heap.push (tupIt t)).objs.size = s.heap.objs.size + 1 := Heap.size_push ..
  have e1 : ((s.heap.push (tupIt t)).push (enuOf s.heap.objs.size)).get? (s.heap.objs.size + 1) = some (enuOf s.heap.objs.size) := by
    rw [← z]
    exact Heap.get?_push_size _ rfl
  have e2 : ((s.heap.push (tupIt t)).push (enuOf s.heap.objs.size)).get? s.heap.objs.size = some (tupIt t) := Heap.get?_push_of_some _ (Heap.get?_push_size _ rfl)
  have q := h _ e1 ⟨_, e2, rfl, rfl⟩ fun b o x => Heap.get?_push_of_some _ (Heap.get?_push_of_some _ x)
  rw [← z] at q e1
  exact callType_new F.called_enumerate (by decide) (F.typeCall_enumerate_1 _) (F.newCall_enumerate_1 _) (fun obj => F.args_object_init_2 obj _) F.entry_enumerate_new (enumT_new t items) ⟨ht, ⟨_, e1, rfl⟩, q⟩

/-- the tuple at a, each item in a new pair -/
def IteT (K : PySem.W.Frag) (a : Addr) : L2.It where
  go := fun i H => ∃ (xs : List V) (x : V), SqT K H a xs ∧ xs[i]? = some x
  yld := fun i H v H' => ∃ T x, v = .ref T ∧ H T = none ∧ H' = upd H T (.tup [.int (i : Nat), x]) ∧ ∀ xs, SqT K H a xs → xs[i]? = some x
  stop := fun i H => ∃ xs : List V, SqT K H a xs ∧ xs.length ≤ i
/-- where such a walk stands -/
def EnT (e it a : Addr) (i : Nat) (h : Heap) : Prop := (∃ old, IsEnum h e it ((i : Nat) : Int) old) ∧ h.IsTupleIter it a i ∧ e ≠ it
theorem EnT.two {e it a : Addr} {i : Nat} {h : Heap} (st : EnT e it a i h) {b : Addr} (hb : b ∈ [e, it]) : ∃ o vs, h.get? b = some o ∧ o.data = .fields vs ∧ o.cls ≠ .type "tuple" := by
  obtain ⟨⟨old, h1⟩, ⟨o, h2, h3, h4⟩, _⟩ := st
  rcases List.mem_cons.mp hb with z | z
  · subst z
    exact ⟨_, _, h1, rfl, fun q => absurd (show Value.type "enumerate" = .type "tuple" from q) (by decide)⟩
  · rw [List.mem_singleton] at z
    subst z
    exact ⟨_, _, h2, h4, fun q => absurd (h3.symm.trans q) (by decide)⟩
theorem EnT.keep {e it a : Addr} {i : Nat} {h h' : Heap} (st : EnT e it a i h) (k : ∀ b ∈ [e, it], ∀ o, h.get? b = some o → h'.get? b = some o) : EnT e it a i h' := by
  obtain ⟨⟨old, h1⟩, h2, h3⟩ := st
  exact ⟨⟨old, k e (List.mem_cons_self ..) _ h1⟩, h2.at fun o q => k it (by simp) o q, h3⟩
theorem turn_enumT {P : Program} {w : World} {K : PySem.W.Frag} {elts : List Expr} {kk : Nat} {tpos : Pos} (a e it : Addr) : Turn P w K (.Tuple elts kk tpos) (IteT K a) [e, it] e (EnT e it a) := by
  refine ⟨List.mem_cons_self .., fun i h st b hb => ?_, fun i h h' st k => st.keep k, ?_, ?_, fun A i s Q E st h => ?_⟩
  · obtain ⟨o, vs, h1, h2, _⟩ := st.two hb
    exact ⟨o, h1, fun v z => by rw [h2] at z; cases z⟩
  · rintro X rfl rfl rfl hc i pins s σ H E I hf st ⟨xs, x, hq, hx⟩
    obtain ⟨its, rv, p, hz⟩ := I.tuple hq
    obtain ⟨u, hu, ru⟩ := rv.get hx
    have apart : ∀ b ∈ [e, it], b ≠ a := fun b hb z => by
      obtain ⟨o, vs, h1, _, h2⟩ := st.two hb
      obtain ⟨o', h3, h4, _⟩ := id p
      rw [z, h3] at h1
      cases h1
      exact h2 h4
    have lt : ∀ b ∈ [e, it], b < s.heap.objs.size := fun b hb => by
      obtain ⟨o, vs, h1, _⟩ := st.two hb
      exact Heap.lt_size h1
    obtain ⟨⟨old, he⟩, hit, hne⟩ := id st
    have D := Draws.tuple (prog := X.prog) (w := X.w) (A := X.A.in1) (I.ok.hd hc) it a (fun z => apart it (by simp) z.symm) its.toArray
    have hi : i < its.toArray.size := by
      rw [List.size_toArray, ← rv.length]
      exact (List.getElem?_eq_some_iff.mp hx).1
    refine wpAny_pyNext_enum_itemD D he ⟨hit, p⟩ hi hne (fun z => ?_) fun v h' tk hP ho hs' hT hsz hk => ?_
    · rcases List.mem_cons.mp z with z | z
      · exact hne z
      · exact apart e (by simp) (List.mem_singleton.mp z)
    have ev : v = u := by
      have hP : its.toArray[i]? = some v := hP
      rw [List.getElem?_toArray, hu] at hP
      exact (Option.some.inj hP).symm
    subst ev
    refine ⟨_, rfl, wpAny_letOwnedTupleGo_enum (s := { s with heap := h', toks := tk + 1 }) ho fun h'' he' sb => ?_⟩
    have keepAll : ∀ b ob, b ∉ [e, it] → s.heap.get? b = some ob → h''.get? b = some ob := fun b ob hb q => by
      have n1 : b ≠ e := fun z => hb (by simp [z])
      have n2 : b ≠ it := fun z => hb (by simp [z])
      exact (sb.2 b n1).trans (hk b ob n1 n2 q)
    have hT2 : h''.get? s.heap.objs.size = some { cls := .type "tuple", data := .seq #[.int i tk, v] } := (sb.2 _ (Nat.ne_of_gt (lt e (by simp)))).trans hT
    have I1 : Inv X pins σ (upd H s.heap.objs.size (.tup [.int (i : Nat), x])) { s with heap := h'', toks := tk + 1 } := I.turnedNew (ch := [e, it]) keepAll hf (Nat.le_refl _)
      (show ObjOk X.prog X.w _ _ _ (.tup [.int (i : Nat), x]) from ⟨show 2 ≤ sizeLine by decide, [.int i tk, v], .cons ⟨_, rfl⟩ (.cons ru .nil), ⟨_, hT2, rfl, _, rfl⟩⟩)
    refine ⟨.ref s.heap.objs.size, _, I1, rfl, ⟨_, x, rfl, I.hok.fresh (Nat.le_refl _), rfl, fun ys hy => by rw [I.tuple_inj hy hq]; exact hx⟩, ⟨⟨v, ?_⟩, hs'.1.at fun o q => (sb.2 it (Ne.symm hne)).trans q, hne⟩, fun b hb => ?_⟩
    · rw [Int.natCast_succ]
      exact he'
    · rw [upd_ne (Nat.ne_of_lt (lt b hb))]
      exact (hf b hb).1
  · rintro X rfl rfl rfl hc i pins s σ H E I hf st ⟨xs, hq, hx⟩
    obtain ⟨its, rv, p, hz⟩ := I.tuple hq
    obtain ⟨⟨old, he⟩, hit, hne⟩ := id st
    have na : a ≠ it := fun z => by
      obtain ⟨o, vs, h1, _, h2⟩ := st.two (b := it) (by simp)
      obtain ⟨o', h3, h4, _⟩ := id p
      rw [z, h1] at h3
      cases h3
      exact h2 h4
    have hi : its.toArray.size ≤ i := by
      rw [List.size_toArray, ← rv.length]
      exact hx
    obtain ⟨f0, f1, f2, f3, f4, f5⟩ := hf it (by simp)
    show wpAny _ _ _ _ _ _
    have hT : s.TypeIs (.ref e) "enumerate" := ⟨_, he, rfl⟩
    unfold pyNext
    refine wpAny_bind (wpAny_attempt (wpAny_callSpecial?_slot (name := Str.ofString "__next__") hT F.slot_enumerate_next (wpAny_call_entry F.slot_enumerate_next hT F.entry_enumerate_next ?_ (F.args_enumerate_next_1 _))))
    show wpAny _ _ (field (.ref e) 2 >>= _) _ _ s
    refine wpAny_bind (wpAny_field he rfl (x := .ref it) rfl ?_)
    refine wpAny_bind (wpAny_nextOf_tuple_end (I.ok.hd hc) hit p (by simpa using hi) fun h' y eb hy => ?_)
    obtain ⟨o, ho, hcl⟩ := hy
    exact wpAny_bind (wpAny_isInstance (T := "StopIteration") (b := true) ⟨o, ho, hcl⟩ isSubtype_stop (wpAny_pure ⟨rfl, I.turned (t' := s.toks) (fun b o hb q => eb b o hb q) f0 f1 f3 f4 f5⟩))
  · obtain ⟨⟨_, he⟩, _⟩ := st
    exact wpAny_pyIter_enum he h
def iEnumT (K : PySem.W.Frag) (ta : TA) : TI := fun σ H R => ta σ H fun vs H1 => ∃ a xs, vs = [.ref a] ∧ SqT K H1 a xs ∧ R (IteT K a) H1
theorem pi_enumT {X : Cx} {e : Expr} {ta : TA} {p pos tpos : Pos} {elts : List Expr} {kk : Nat} (hg : Gl X "enumerate") (hm : X.mg "enumerate" = none) (ha : PA X [e] ta) (hs : starEach [e] X.env = [(false, eval e X.env)]) :
    PI X (.Tuple elts kk tpos) (.Call (.Name "enumerate" p) [e] [] pos) (iEnumT X.K ta) := by
  refine ⟨fun pins s σ H R I h => Call_ (ld_blt I hg hm boot_enumerate (PyProof.Rows.callWith_type1 (thn (ha.run pos pins s σ H _ I h) ?_) hs rfl))⟩
  rintro us s1 ⟨vs, H1, I1, r1, a, xs, rfl, hq, q⟩
  rw [Vals.ref1 r1]
  obtain ⟨its, rv, p', hz⟩ := I1.tuple hq
  refine enumT_call p' fun h' he hit hk => wpAny_pyIter_enum he ?_
  have I2 : Inv X pins σ H1 { s1 with heap := h' } := I1.kept (t' := s1.toks) hk
  refine ⟨s1.heap.objs.size + 1, [s1.heap.objs.size + 1, s1.heap.objs.size], _, _, H1, rfl, I2, turn_enumT a (s1.heap.objs.size + 1) s1.heap.objs.size, ⟨⟨.none, he⟩, hit, Nat.succ_ne_self _⟩, fun b hb => ?_, q⟩
  have hle : s1.heap.objs.size ≤ b := by
    rcases List.mem_cons.mp hb with z | z
    · exact z ▸ Nat.le_succ _
    · exact (List.mem_singleton.mp z) ▸ Nat.le_refl _
  exact I1.fpOk hle (I1.hok.fresh hle)
theorem walk_enumT {K : PySem.W.Frag} {a : Addr} {xs : List V} : Walk (IteT K a) xs.length (fun H => SqT K H a xs) (YPair (fun i => some (.int (i : Nat))) (fun i => xs[i]?)) := by
  refine ⟨fun i _ hi q => ⟨xs, xs[i], q, List.getElem?_eq_getElem hi⟩, fun _ q => ⟨xs, q, Nat.le_refl _⟩, ?_⟩
  rintro i H v H' _ q ⟨T, x, h1, h2, h3, h4⟩
  exact ⟨T, .int (i : Nat), x, h1, h2, h3, rfl, h4 xs q⟩
end MP
set_option maxHeartbeats 2000000
/-! MPo: what is walked, by values. -/
namespace MP
open PySem L2 PySem.Spec PyProof.Rows RZ
variable [WI]
/-- an item that a walk gives: one of F, or a new pair of such -/
inductive IV (m : Bool) (F H H' : Hp) : V → D → Prop
  | val {v : V} {d : D} : H' = H → Rp F v d → IV m F H H' v d
  | pair {T : Addr} {x y : V} {d e : D} : m = true → H T = none → H' = upd H T (.tup [x, y]) → Rp F x d → Rp F y e → IV m F H H' (.ref T) (.tuple [d, e])
abbrev WalkD (m : Bool) (J : L2.It) (F : Hp) (ds : List D) : Prop := Walk J ds.length (Le F) fun i H v H' => ∃ d, ds[i]? = some d ∧ IV m F H H' v d
section
variable {m : Bool} {K : PySem.W.Frag} {F : Hp} {a b : Addr} {ob ob2 : Obj} {vs us : List V} {ds es : List D}
theorem wd_list (h : F a = some (.lst vs)) (r : RpL F vs ds) : WalkD m (Itl K a) F ds := by
  rw [WalkD, ← r.length]
  refine (walk_list (K := K) (a := a) (xs := vs)).mono (fun H hl => .of (hl _ _ h)) ?_
  rintro i H x H' _ _ ⟨e, q⟩
  obtain ⟨d, h1, h2⟩ := r.getV q
  exact ⟨d, h1, .val e h2⟩
theorem wd_tup (h : F a = some (.frz ob (.tup vs))) (r : RpL F vs ds) : WalkD m (Itt K a) F ds := by
  rw [WalkD, ← r.length]
  refine (walk_tup (K := K) (a := a) (xs := vs)).mono (fun H hl => .ofF (hl _ _ h)) ?_
  rintro i H x H' _ _ ⟨e, q⟩
  obtain ⟨d, h1, h2⟩ := r.getV q
  exact ⟨d, h1, .val e h2⟩
omit [WI] in
theorem rngD_length (i j : Int) : (rngD i j).length = (j - i).toNat := by unfold rngD; rw [List.length_map, List.length_range]
theorem wd_rng (i j : Int) : WalkD m (Itr i (j - i).toNat) F (rngD i j) := by
  rw [WalkD, rngD_length]
  refine (walk_range (lo := i) (n := (j - i).toNat)).mono (fun _ _ => True.intro) ?_
  rintro k H x H' hk _ ⟨e, rfl⟩
  refine ⟨.int (i + (k : Nat)), ?_, .val e (.int _)⟩
  unfold rngD
  rw [List.getElem?_map, List.getElem?_range hk]
  rfl
omit [WI] in
theorem enumD_get : ∀ (ds : List D) (n i : Nat), (enumD ds n)[i]? = ds[i]?.map fun d => .tuple [.int ((n + i : Nat) : Int), d]
  | [], n, i => by simp [enumD]
  | d :: ds, n, 0 => by simp [enumD]
  | d :: ds, n, i + 1 => by
    show (enumD ds (n + 1))[i]? = _
    rw [enumD_get ds (n + 1) i, List.getElem?_cons_succ]
    have e : n + 1 + i = n + (i + 1) := by omega
    rw [e]
omit [WI] in
theorem enumD_length : ∀ (ds : List D) (n : Nat), (enumD ds n).length = ds.length
  | [], n => rfl
  | d :: ds, n => by
    show (enumD ds (n + 1)).length + 1 = _
    rw [enumD_length ds (n + 1)]
    rfl
theorem en_item (r : RpL F vs ds) {i : Nat} {H H' : Hp} {v : V} (h : YPair (fun i => some (.int (i : Nat))) (fun i => vs[i]?) i H v H') : ∃ d, (enumD ds 0)[i]? = some d ∧ IV true F H H' v d := by
  obtain ⟨T, x, y, rfl, h2, h3, h4, h5⟩ := h
  cases h4
  obtain ⟨d, h6, h7⟩ := r.getV h5
  refine ⟨.tuple [.int (i : Nat), d], ?_, .pair rfl h2 h3 (.int _) h7⟩
  rw [enumD_get, h6, Nat.zero_add]
  rfl
theorem wd_enum (h : F a = some (.lst vs)) (r : RpL F vs ds) : WalkD true (Ite K a) F (enumD ds 0) := by
  rw [WalkD, enumD_length, ← r.length]
  exact (walk_enum (K := K) (a := a) (xs := vs)).mono (fun H hl => .of (hl _ _ h)) fun i H x H' _ _ y => en_item r y
theorem wd_enumT (h : F a = some (.frz ob (.tup vs))) (r : RpL F vs ds) : WalkD true (IteT K a) F (enumD ds 0) := by
  rw [WalkD, enumD_length, ← r.length]
  exact (walk_enumT (K := K) (a := a) (xs := vs)).mono (fun H hl => .ofF (hl _ _ h)) fun i H x H' _ _ y => en_item r y
omit [WI] in
theorem zipD_length : ∀ (ds es : List D), (zipD ds es).length = min ds.length es.length
  | [], es => by simp [zipD]
  | d :: ds, [] => by simp [zipD]
  | d :: ds, e :: es => by
    show (zipD ds es).length + 1 = min (ds.length + 1) (es.length + 1)
    rw [zipD_length ds es]
    omega
omit [WI] in
theorem zipD_get : ∀ (ds es : List D) (i : Nat) (d e : D), ds[i]? = some d → es[i]? = some e → (zipD ds es)[i]? = some (.tuple [d, e])
  | d' :: ds, e' :: es, 0, d, e, h1, h2 => by
    cases h1
    cases h2
    rfl
  | d' :: ds, e' :: es, i + 1, d, e, h1, h2 => zipD_get ds es i d e h1 h2
  | [], es, i, d, e, h1, h2 => by simp at h1
  | d' :: ds, [], i, d, e, h1, h2 => by simp at h2
theorem zp_item (r : RpL F vs ds) (r2 : RpL F us es) {i : Nat} {H H' : Hp} {v : V} (h : YPair (fun i => vs[i]?) (fun i => us[i]?) i H v H') : ∃ d, (zipD ds es)[i]? = some d ∧ IV true F H H' v d := by
  obtain ⟨T, x, y, rfl, h2, h3, h4, h5⟩ := h
  obtain ⟨d, h6, h7⟩ := r.getV h4
  obtain ⟨e, h8, h9⟩ := r2.getV h5
  exact ⟨_, zipD_get _ _ _ _ _ h6 h8, .pair rfl h2 h3 h7 h9⟩
theorem wd_zip (h : F a = some (.lst vs)) (r : RpL F vs ds) (h2 : F b = some (.lst us)) (r2 : RpL F us es) : WalkD true (Itz K a b) F (zipD ds es) := by
  rw [WalkD, zipD_length, ← r.length, ← r2.length]
  exact (walk_zip (K := K) (a := a) (b := b) (xs := vs) (ys := us) rfl).mono (fun H hl => ⟨.of (hl _ _ h), .of (hl _ _ h2)⟩) fun i H x H' _ _ y => zp_item r r2 y
theorem wd_zipT (h : F a = some (.frz ob (.tup vs))) (r : RpL F vs ds) (h2 : F b = some (.frz ob2 (.tup us))) (r2 : RpL F us es) : WalkD true (ItzT K a b) F (zipD ds es) := by
  rw [WalkD, zipD_length, ← r.length, ← r2.length]
  refine ⟨fun i H hi hl => ?_, fun H hl => ⟨vs, us, .ofF (hl _ _ h), .ofF (hl _ _ h2), by omega⟩, ?_⟩
  · have h3 : i < vs.length := by omega
    have h4 : i < us.length := by omega
    exact ⟨vs, us, _, _, .ofF (hl _ _ h), .ofF (hl _ _ h2), List.getElem?_eq_getElem h3, List.getElem?_eq_getElem h4⟩
  · rintro i H v H' _ hl ⟨T, x, y, h3, h4, h5, h6, h7⟩
    exact zp_item r r2 ⟨T, x, y, h3, h4, h5, h6 _ (.ofF (hl _ _ h)), h7 _ (.ofF (hl _ _ h2))⟩
end
section
variable {X : Cx} {cf : CallF} {W : WX} {cl : Str → Addr} {tb : Tb}
def SI (m : Bool) (X : Cx) (cf : CallF) (W : WX) (cl : Str → Addr) (it : MP.It) (tg e : Expr) : Prop := ∀ (β : Type) (k : List D → M β) (st : MP.St) (σ : L2.St) (H F : Hp) (ρ : List Addr) (r : R β) (Q : L2.It → Hp → Prop), Rel st σ H F ρ → M.bind (evI cf it) k st = some r → PX W cl st σ ρ H F r →
  (∀ ds st1 J H1 F1, Pst st st1 σ ρ H F H1 F1 → WalkD m J F1 ds → k ds st1 = some r → Q J H1) → tIt X tg e σ H Q
theorem rp_items {F : Hp} {v : V} {d : D} {ds : List D} (r : Rp F v d) (h : items d = some ds) : ∃ a vs, v = .ref a ∧ ((d = .list ds ∧ F a = some (.lst vs)) ∨ (d = .tuple ds ∧ ∃ ob, F a = some (.frz ob (.tup vs)))) ∧ RpL F vs ds := by
  cases r with
  | lst e rs => cases h; exact ⟨_, _, rfl, .inl ⟨rfl, e⟩, rs⟩
  | tup e _ rs => cases h; exact ⟨_, _, rfl, .inr ⟨rfl, _, e⟩, rs⟩
  | non => cases h
  | bl b => cases h
  | int i => cases h
  | str x => cases h
  | dicK e rs => cases h
  | dicF e rs => cases h
  | dicT e n rs => cases h
omit [WI] in
/-- an object to be walked: what is known of it before -/
theorem walk_pre {β : Type} {a : Ex} {k : List D → M β} {st : MP.St} {r : R β} (hk : M.bind (evE cf a) (fun w => M.bind (keep w) fun d => M.bind (M.opt (items d)) k) st = some r) :
    (∃ c s', evE cf a st = some (.exc c s') ∧ r = .exc c s') ∨ ∃ w st1 d st2 ds, evE cf a st = some (.ok w st1) ∧ keep w st1 = some (.ok d st2) ∧ items d = some ds ∧ k ds st2 = some r := by
  rcases bind_inv hk with h | ⟨w, st1, h1, h2⟩
  · exact .inl h
  · obtain ⟨d, st2, h3, h4⟩ := keep_bind h2
    obtain ⟨ds, h5, h6⟩ := opt_bind h4
    exact .inr ⟨w, st1, d, st2, ds, h1, h3, h5, h6⟩
theorem SE.exc {ir : Ex} {e : Expr} {β : Type} {st : MP.St} {σ : L2.St} {H F : Hp} {ρ : List Addr} {r : R β} {Q : VK} {c : Str} {s' : MP.St} (ha : SE X cf W cl ir e) (rel : Rel st σ H F ρ) (h : evE cf ir st = some (.exc c s')) (e' : r = .exc c s') (hx : PX W cl st σ ρ H F r) : tE X e σ H Q :=
  ha st σ H F ρ _ Q rel h (hx.exc e') fun w st' z => by cases z
/-- an object that is kept -/
theorem SE.kept {ir : Ex} {e : Expr} {st st1 st2 : MP.St} {σ : L2.St} {H F : Hp} {ρ : List Addr} {Q : VK} {w : MP.W} {d : D} (ha : SE X cf W cl ir e) (rel : Rel st σ H F ρ) (h : evE cf ir st = some (.ok w st1)) (h2 : keep w st1 = some (.ok d st2))
    (fin : ∀ v H1 F1, Pst st st2 σ ρ H F H1 F1 → Rp F1 v d → Q v H1) : tE X e σ H Q := by
  refine ha st σ H F ρ _ Q rel h PX.ok fun w' st' z v H' F' p rw' fr => ?_
  cases z
  obtain ⟨F2, p2, rp⟩ := keep_ok p rw' fr h2
  exact fin v H' F2 p2 rp
theorem si_over {m : Bool} {a : Ex} {tg x : Expr} (ha : SE X cf W cl a x) : SI m X cf W cl (.over a) tg x := by
  intro β k st σ H F ρ r Q rel hk hx fin
  have hk : M.bind (M.bind (evE cf a) fun w => M.bind (keep w) fun d => M.opt (items d)) k st = some r := hk
  rw [bind_assoc] at hk
  have e : (fun w => M.bind (M.bind (keep w) fun d => M.opt (items d)) k) = fun w => M.bind (keep w) fun d => M.bind (M.opt (items d)) k := by
    funext w
    rw [bind_assoc]
  rw [e] at hk
  rcases walk_pre hk with ⟨c, s', h1, h2⟩ | ⟨w, st1, d, st2, ds, h1, h2, h3, h4⟩
  · exact tI_of (pi_list pe_self) (ha.exc rel h1 h2 hx)
  · cases d with
    | list xs =>
      refine tI_of (pi_list pe_self) (ha.kept rel h1 h2 fun v H1 F1 p rp => ?_)
      obtain ⟨a', vs, rfl, hh, rs⟩ := rp_items rp h3
      rcases hh with ⟨_, hf⟩ | ⟨z, _⟩
      · exact ⟨a', rfl, ⟨vs, .of (p.rel.fh _ _ hf)⟩, fin ds st2 _ H1 F1 p (wd_list hf rs) h4⟩
      · cases z
    | tuple xs =>
      refine tI_of (pi_tup pe_self) (ha.kept rel h1 h2 fun v H1 F1 p rp => ?_)
      obtain ⟨a', vs, rfl, hh, rs⟩ := rp_items rp h3
      rcases hh with ⟨z, _⟩ | ⟨_, ob, hf⟩
      · cases z
      · exact ⟨a', rfl, ⟨vs, .ofF (p.rel.fh _ _ hf)⟩, fin ds st2 _ H1 F1 p (wd_tup hf rs) h4⟩
    | none => cases h3
    | bool b => cases h3
    | int b => cases h3
    | str b => cases h3
    | dict b => cases h3
/-! ### a dict's keys -/
theorem wd_keys {m : Bool} {F : Hp} {d : Addr} {o : Obj} {kvs : List (Key × V)} {ds : List (D × D)} (h : F d = some (.frz o (.dK kvs))) (r : RpK F kvs ds) : WalkD m (Itk d o kvs) F (ds.map Prod.fst) := by
  rw [WalkD, List.length_map, ← r.length]
  refine (walk_keys (d := d) (o := o) (kvs := kvs)).mono (fun H hl => hl _ _ h) ?_
  rintro i H x H' _ _ ⟨e, k, v, q, rfl⟩
  obtain ⟨j, rfl, h2⟩ := r.getK q
  exact ⟨.int j, h2, .val e (.int j)⟩
section
variable {st : MP.St} {σ : L2.St} {H F : Hp} {ρ : List Addr} {v : V}
theorem Rel.putL {D : Addr} {o : HO} (rel : Rel st σ H F ρ) (hf : F D = none) (ho : ¬ OwnS st.v σ ρ D) : Rel st σ (upd H D o) F ρ := by
  refine ⟨fun a u e => ?_, rel.len, fun i a e => ?_, rel.inj, ⟨rel.sto.len, rel.sto.nd, fun n a c e1 e2 => ?_⟩⟩
  · rw [upd_ne (fun z => by rw [z, hf] at e; cases e)]
    exact rel.fh _ _ e
  · have q := rel.slot i a e
    cases a with
    | un => exact q
    | val d => exact q
    | loc n => exact q
    | own c =>
      obtain ⟨p, h1, h2, h3, h4⟩ := q
      exact ⟨p, h1, h2.other fun z => ho (.inr ⟨i, c, e, by rw [h1, z]⟩), h3, h4⟩
  · obtain ⟨k1, k2, k3⟩ := rel.sto.cel n a c e1 e2
    exact ⟨k1.other fun z => ho (.inl (by rw [← z]; exact List.mem_of_getElem? e1)), k2, k3⟩
theorem lock_ok {st0 st1 : MP.St} {H0 F0 : Hp} {w : MP.W} {ks : List D} (P : Pst st0 st σ ρ H0 F0 H F) (hw : RW st σ H F ρ v w) (fr : Fresh st0 σ ρ H0 v w) (h : lockW w st = some (.ok ks st1)) :
    ∃ p kvs ds, v = .ref p ∧ H p = some (.dK kvs) ∧ F p = none ∧ RpK F kvs ds ∧ ks = ds.map Prod.fst ∧ ∀ o, Pst st0 st1 σ ρ H0 F0 (upd H p (.frz o (.dK kvs))) (upd F p (.frz o (.dK kvs))) := by
  unfold lockW at h
  split at h
  · rename_i ds
    cases h
    obtain ⟨p, rfl, ⟨kvs, hp, rk⟩, hn, ho⟩ := hw
    refine ⟨p, kvs, ds, rfl, hp, hn, rk, rfl, fun o => ?_⟩
    have hr := (P.rel.putL (o := .frz o (.dK kvs)) hn ho).freeze upd_same hn ho
    have own : OwnS st0.v σ ρ p ∨ H0 p = none := (fr p rfl).symm
    refine ⟨hr, ⟨P.stp.fle.trans (Le.upd hn), fun a u e n => ?_, fun a u u' e n h => ?_⟩, P.sub⟩
    · have ha : a ≠ p := fun z => by
        rcases own with y | y
        · exact n (by rw [z]; exact y)
        · rw [z, y] at e; cases e
      rw [upd_ne ha]
      exact P.stp.keep a u e n
    · by_cases ha : a = p
      · rcases own with y | y
        · rw [ha]; exact .inl y
        · rw [ha, y] at h; cases h
      · rw [upd_ne ha] at e
        exact P.stp.new a u u' e n h
  · rename_i i
    have hw : σ[i]? = some (some v) := hw
    split at h
    · rename_i ds hc
      cases h
      obtain ⟨p, e1, ⟨kvs, hp, rk⟩, h3, h4⟩ := P.rel.slot i _ hc
      rw [hw] at e1
      cases e1
      refine ⟨p, kvs, ds, rfl, hp, h3, rk, rfl, fun o => ?_⟩
      have r1 : Rel { st with v := st.v.set i .un } σ H F ρ := P.rel.slotSet True.intro fun c z => by cases z
      have no : ¬ OwnS (st.v.set i .un) σ ρ p := OwnS.gone (c := .dic false ds) (fun j c' e e' => P.rel.inj i j _ c' p hc e hw e') h4 fun c z => by cases z
      have r2 := (r1.putL (o := .frz o (.dK kvs)) h3 no).freeze upd_same h3 no
      have rp : Rp (upd F p (.frz o (.dK kvs))) (.ref p) (.dict ds) := .dicF upd_same (rk.mono (Le.upd h3))
      have r3 : Rel { st with v := (st.v.set i .un).set i (.val (.dict ds)) } σ (upd H p (.frz o (.dK kvs))) (upd F p (.frz o (.dK kvs))) ρ := r2.slotSet ⟨_, hw, rp⟩ fun c z => by cases z
      rw [List.set_set] at r3
      have own : OwnS st0.v σ ρ p ∨ H0 p = none := P.sub p (.inr ⟨i, _, hc, hw⟩)
      refine ⟨r3, ⟨P.stp.fle.trans (Le.upd h3), fun a u e n => ?_, fun a u u' e n h => ?_⟩, fun a h => P.sub a (OwnS.set_sub (fun c z => by cases z) h)⟩
      · have ha : a ≠ p := fun z => by
          rcases own with y | y
          · exact n (by rw [z]; exact y)
          · rw [z, y] at e; cases e
        rw [upd_ne ha]
        exact P.stp.keep a u e n
      · by_cases ha : a = p
        · rcases own with y | y
          · rw [ha]; exact .inl y
          · rw [ha, y] at h; cases h
        · rw [upd_ne ha] at e
          exact P.stp.new a u u' e n h
    · cases h
  · cases h
omit [WI] in
theorem lockW_inv {w : MP.W} {st : MP.St} {r : R (List D)} (h : lockW w st = some r) : ∃ ks st', r = .ok ks st' := by
  unfold lockW at h
  split at h
  · exact ⟨_, _, (Option.some.inj h).symm⟩
  · split at h
    · exact ⟨_, _, (Option.some.inj h).symm⟩
    · cases h
  · cases h
end
theorem si_keys {m : Bool} {a : Ex} {tg x : Expr} (ha : SE X cf W cl a x) : SI m X cf W cl (.keys a) tg x := by
  intro β k st σ H F ρ r Q rel hk hx fin
  have hk : M.bind (M.bind (evE cf a) lockW) k st = some r := hk
  rw [bind_assoc] at hk
  refine tI_of (pi_keysL pe_self) ?_
  refine ha.one rel hk hx fun w1 st1 v1 H1 F1 p1 r1 f1 hk => ?_
  rcases bind_inv hk with ⟨c, s', h1, h2⟩ | ⟨ks, st2, h1, hk⟩
  · obtain ⟨_, _, z⟩ := lockW_inv h1
    cases z
  · obtain ⟨p, kvs, ds, rfl, hp, hn, rk, rfl, hP⟩ := lock_ok p1 r1 f1 h1
    exact ⟨p, kvs, rfl, hp, fun o => fin _ st2 _ _ _ (hP o) (wd_keys upd_same (rk.mono (Le.upd hn))) hk⟩
theorem blt_none (ok : Ok X cf W cl tb) (x : Str) (h : bltNames.contains x = true) : X.mg x = none := ok.blt x h
theorem si_enum {a : Ex} {es : List Expr} {kk : Nat} {tpos : Pos} {x : Expr} {p0 p : Pos} (ok : Ok X cf W cl tb) (hg : gloB X.env.scope "enumerate" = true) (hb : badE x = false) (ha : SE X cf W cl a x) : SI true X cf W cl (.enum a) (.Tuple es kk tpos) (.Call (.Name "enumerate" p0) [x] [] p) := by
  intro β k st σ H F ρ r Q rel hk hx fin
  have hk : M.bind (M.bind (evE cf a) fun w => M.bind (keep w) fun d => M.bind (M.opt (items d)) fun xs => M.ret (enumD xs 0)) k st = some r := hk
  rw [bind_assoc] at hk
  have e : (fun w => M.bind (M.bind (keep w) fun d => M.bind (M.opt (items d)) fun xs => M.ret (enumD xs 0)) k) = fun w => M.bind (keep w) fun d => M.bind (M.opt (items d)) fun xs => k (enumD xs 0) := by
    funext w
    rw [bind_assoc]
    congr 1
    funext d
    rw [bind_assoc]
    rfl
  rw [e] at hk
  have hm := ok.blt "enumerate" (by decide +kernel)
  have s1 := (one_plain (X := X) (pos := p) hb).1
  have pa : PA X [x] _ := pa_cons pe_self pa_nil s1
  rcases walk_pre hk with ⟨c, s', h1, h2⟩ | ⟨w, st1, d, st2, ds, h1, h2, h3, h4⟩
  · exact tI_of (pi_enum (gl_of hg) hm pa s1) (ha.exc rel h1 h2 hx)
  · cases d with
    | list xs =>
      refine tI_of (pi_enum (gl_of hg) hm pa s1) (ha.kept rel h1 h2 fun v H1 F1 p rp => ?_)
      obtain ⟨a', vs, rfl, hh, rs⟩ := rp_items rp h3
      rcases hh with ⟨_, hf⟩ | ⟨z, _⟩
      · exact ⟨a', vs, rfl, .of (p.rel.fh _ _ hf), fin _ st2 _ H1 F1 p (wd_enum hf rs) h4⟩
      · cases z
    | tuple xs =>
      refine tI_of (pi_enumT (gl_of hg) hm pa s1) (ha.kept rel h1 h2 fun v H1 F1 p rp => ?_)
      obtain ⟨a', vs, rfl, hh, rs⟩ := rp_items rp h3
      rcases hh with ⟨z, _⟩ | ⟨_, ob, hf⟩
      · cases z
      · exact ⟨a', vs, rfl, .ofF (p.rel.fh _ _ hf), fin _ st2 _ H1 F1 p (wd_enumT hf rs) h4⟩
    | none => cases h3
    | bool b => cases h3
    | int b => cases h3
    | str b => cases h3
    | dict b => cases h3
theorem si_rng1 {m : Bool} {b : Ex} {tg y : Expr} {p0 p : Pos} (ok : Ok X cf W cl tb) (hg : gloB X.env.scope "range" = true) (hb : badE y = false) (ha : SE X cf W cl b y) : SI m X cf W cl (.rng1 b) tg (.Call (.Name "range" p0) [y] [] p) := by
  intro β k st σ H F ρ r Q rel hk hx fin
  have s1 := (one_plain (X := X) (pos := p) hb).1
  refine tI_of (pi_range1 (gl_of hg) (ok.blt "range" (by decide +kernel)) (pa_cons pe_self pa_nil s1) s1) ?_
  have hk : M.bind (M.bind (evE cf b) fun y => M.bind (toInt y) fun j => if -1000000 ≤ j ∧ j ≤ 1000000 then M.ret (rngD 0 j) else M.stuck) k st = some r := hk
  rw [bind_assoc] at hk
  refine ha.one rel hk hx fun w1 st1 v1 H1 F1 p1 r1 f1 hk => ?_
  rw [bind_assoc] at hk
  obtain ⟨j, e1, hk⟩ := toInt_bind hk
  split at hk
  · rename_i hj
    refine ⟨j, by rw [(view_vw p1.rel r1 e1).int], by omega, by omega, ?_⟩
    have wd := wd_rng (m := m) (F := F1) 0 j
    rw [Int.sub_zero] at wd
    exact fin _ st1 _ H1 F1 p1 wd hk
  · cases hk
theorem si_rng2 {m : Bool} {a b : Ex} {tg x y : Expr} {p0 p : Pos} (ok : Ok X cf W cl tb) (hg : gloB X.env.scope "range" = true) (hb1 : badE x = false) (hb2 : badE y = false) (ha : SE X cf W cl a x) (hb : SE X cf W cl b y) : SI m X cf W cl (.rng2 a b) tg (.Call (.Name "range" p0) [x, y] [] p) := by
  intro β k st σ H F ρ r Q rel hk hx fin
  have s2 : starEach [y] X.env = [(false, eval y X.env)] := star_cons hb2
  have s1 : starEach [x, y] X.env = [(false, eval x X.env), (false, eval y X.env)] := by rw [star_cons hb1, s2]
  refine tI_of (pi_range2 (gl_of hg) (ok.blt "range" (by decide +kernel)) (pa_cons pe_self (pa_cons pe_self pa_nil s2) (star_cons hb1)) s1 s2) ?_
  have hk : M.bind (M.bind (evE cf a) fun x => M.bind (evE cf b) fun y => M.bind (toInt x) fun i => M.bind (toInt y) fun j => if -1000000 ≤ i ∧ i ≤ 1000000 ∧ -1000000 ≤ j ∧ j ≤ 1000000 then M.ret (rngD i j) else M.stuck) k st = some r := hk
  rw [bind_assoc] at hk
  refine ha.one rel hk hx fun w1 st1 v1 H1 F1 p1 r1 f1 hk => ?_
  rw [bind_assoc] at hk
  refine hb.one p1.rel hk (hx.step p1) fun w2 st2 v2 H2 F2 p2 r2 f2 hk => ?_
  rw [bind_assoc] at hk
  obtain ⟨i, e1, hk⟩ := toInt_bind hk
  rw [bind_assoc] at hk
  obtain ⟨j, e2, hk⟩ := toInt_bind hk
  split at hk
  · rename_i hj
    refine ⟨i, j, by rw [(view_vw p2.rel (r1.step p2) e1).int, (view_vw p2.rel r2 e2).int], by omega, ?_⟩
    exact fin _ st2 _ H2 F2 (p1.trans p2) (wd_rng i j) hk
  · cases hk
theorem si_zip {a b : Ex} {es : List Expr} {kk : Nat} {tpos : Pos} {x y : Expr} {p0 p : Pos} (ok : Ok X cf W cl tb) (hg : gloB X.env.scope "zip" = true) (hb1 : badE x = false) (hb2 : badE y = false) (ha : SE X cf W cl a x) (hb : SE X cf W cl b y) :
    SI true X cf W cl (.zip a b) (.Tuple es kk tpos) (.Call (.Name "zip" p0) [x, y] [] p) := by
  intro β k st σ H F ρ r Q rel hk hx fin
  obtain ⟨s1, s2⟩ := two_plain (X := X) (pos := p) hb1 hb2
  refine tI_of (pi_zipA (gl_of hg) (ok.blt "zip" (by decide +kernel)) (pa_cons pe_self (pa_cons pe_self pa_nil (star_cons hb2)) s1) s1 s2) ?_
  have hk : M.bind (M.bind (evE cf a) fun x => M.bind (keep x) fun p => M.bind (evE cf b) fun y => M.bind (keep y) fun q => M.bind (M.opt (zipK p q)) fun xy => M.ret (zipD xy.1 xy.2)) k st = some r := hk
  rw [bind_assoc] at hk
  refine ha.one rel hk hx fun w1 st1 v1 H1 F1 p1 r1 f1 hk => ?_
  rw [bind_assoc] at hk
  obtain ⟨d1, st2, h1, hk⟩ := keep_bind hk
  obtain ⟨F2, p2, rp1⟩ := keep_ok p1 r1 f1 h1
  rw [bind_assoc] at hk
  refine hb.one p2.rel hk (hx.step p2) fun w3 st3 v3 H3 F3 p3 r3 f3 hk => ?_
  rw [bind_assoc] at hk
  obtain ⟨d2, st4, h2, hk⟩ := keep_bind hk
  obtain ⟨F4, p4, rp2⟩ := keep_ok p3 r3 f3 h2
  rw [bind_assoc] at hk
  obtain ⟨xy, h3, hk⟩ := opt_bind hk
  have rp1 := rp1.mono p4.stp.fle
  have P := p2.trans p4
  unfold zipK at h3
  split at h3
  · rename_i xs ys
    cases h3
    cases rp1 with
    | lst e1 rs1 =>
      cases rp2 with
      | lst e2 rs2 => exact ⟨_, _, _, _, rfl, .inl ⟨.of (P.rel.fh _ _ e1), .of (P.rel.fh _ _ e2), fin _ st4 _ _ F4 P (wd_zip e1 rs1 e2 rs2) hk⟩⟩
  · rename_i xs ys
    cases h3
    cases rp1 with
    | tup e1 _ rs1 =>
      cases rp2 with
      | tup e2 _ rs2 => exact ⟨_, _, _, _, rfl, .inr ⟨.ofF (P.rel.fh _ _ e1), .ofF (P.rel.fh _ _ e2), fin _ st4 _ _ F4 P (wd_zipT e1 rs1 e2 rs2) hk⟩⟩
  · cases h3
end
end MP
set_option maxHeartbeats 2000000
/-! MPp: targets; list comprehensions. -/
namespace MP
open PySem L2 PySem.Spec PyProof.Rows
variable [WI]
/-! ### targets -/
def gMany : List Nat → TGs
  | [] => gNil
  | i :: is => gCons (gName i) (gMany is)
def gT (K : PySem.W.Frag) : Tgt → TG
  | .one i => gName i
  | .many is => gTup K is.length (gMany is)
section
variable {X : Cx}
omit [WI] in
theorem loc_of {blk : Str → Bool} {x : Str} (h : locB blk X.env.scope x = true) (hf : ∀ y, blk y = true → X.fn y = true) : Loc X.env.scope x ∧ (X.fn x = true ∨ X.env.scope.names.lookup x = some .local) := by
  unfold locB at h
  split at h
  · exact ⟨.inl (by assumption), .inr (by assumption)⟩
  · exact ⟨.inr (by assumption), .inl (hf x h)⟩
  · cases h
omit [WI] in
theorem pg_one {blk : Str → Bool} {i : Nat} {e : Expr} (nd : X.N.Nodup) (hf : ∀ y, blk y = true → X.fn y = true) (h : chkN blk X.N X.env.scope i e = true) : PG X e (gName i) ∧ assignEach [e] X.env = [(false, assign e X.env)] ∧ ∀ es, assignEach (e :: es) X.env = (false, assign e X.env) :: assignEach es X.env := by
  cases e <;> first | (exact Bool.noConfusion (show false = true from h)) | skip
  obtain ⟨h1, h2⟩ := and2 h
  obtain ⟨h3, h4⟩ := loc_of h2 hf
  exact ⟨pg_name nd (of_decide_eq_true h1) h3 h4, rfl, fun es => rfl⟩
omit [WI] in
theorem pgs_many {blk : Str → Bool} (nd : X.N.Nodup) (hf : ∀ y, blk y = true → X.fn y = true) : ∀ {is : List Nat} {es : List Expr}, chkNs blk X.N X.env.scope is es = true → PGs X es (gMany is) ∧ (assignEach es X.env).length = is.length ∧ (assignEach es X.env).findIdx? (·.1) = none
  | [], [], _ => ⟨pgs_nil, rfl, rfl⟩
  | [], _ :: _, h => Bool.noConfusion (show false = true from h)
  | _ :: _, [], h => Bool.noConfusion (show false = true from h)
  | i :: is, e :: es, h => by
    obtain ⟨h1, h2⟩ := and2 h
    obtain ⟨a1, _, a3⟩ := pg_one nd hf h1
    obtain ⟨b1, b2, b3⟩ := pgs_many nd hf h2
    refine ⟨pgs_cons a1 b1 (by rw [a3] <;> rfl), ?_, ?_⟩
    · rw [a3, List.length_cons, b2, List.length_cons]
    · rw [a3, List.findIdx?_cons]
      simp [b3]
omit [WI] in
theorem pg_T {blk : Str → Bool} {tg : Tgt} {e : Expr} (hc : X.calm = true) (nd : X.N.Nodup) (hf : ∀ y, blk y = true → X.fn y = true) (h : chkT blk X.N X.env.scope tg e = true) : PG X e (gT X.K tg) := by
  cases tg with
  | one i => exact (pg_one nd hf h).1
  | many is =>
    cases e <;> first | (exact Bool.noConfusion (show false = true from h)) | skip
    obtain ⟨b1, b2, b3⟩ := pgs_many nd hf (show chkNs blk X.N X.env.scope is _ = true from h)
    exact pg_tup hc b1 b2 b3
end
/-! ### a slot gets a value -/
section
variable {st : MP.St} {σ : L2.St} {H F : Hp} {ρ : List Addr}
theorem Rel.asg {i : Nat} {v : V} {a : Slot} (rel : Rel st σ H F ρ) (h : SlotOk F H ρ (some (some v)) a) (inj : ∀ c p, a = .own c → v = .ref p → ∀ (j : Nat) (c' : Cell), st.v[j]? = some (Slot.own c') → σ[j]? = some (some (V.ref p)) → j = i) : Rel { st with v := st.v.set i a } (σ.set i (some v)) H F ρ := by
  have at' : ∀ {j : Nat} {b : Slot}, (st.v.set i a)[j]? = some b → (j = i ∧ b = a ∧ (σ.set i (some v))[j]? = some (some v)) ∨ (j ≠ i ∧ st.v[j]? = some b ∧ (σ.set i (some v))[j]? = σ[j]?) := fun {j b} e => by
    rcases getElem?_set_cases e with ⟨rfl, rfl, hl⟩ | ⟨n, e⟩
    · exact .inl ⟨rfl, rfl, List.getElem?_set_self (by rw [rel.len]; exact hl)⟩
    · exact .inr ⟨n, e, List.getElem?_set_ne (fun z => n z.symm)⟩
  refine ⟨rel.fh, by rw [List.length_set, List.length_set]; exact rel.len, fun j b e => ?_, fun j k c c' p e1 e2 e3 e4 => ?_, rel.sto⟩
  · rcases at' e with ⟨rfl, rfl, e'⟩ | ⟨_, e, e'⟩
    · rw [e']; exact h
    · rw [e']; exact rel.slot j b e
  · rcases at' e1 with ⟨rfl, h1, e1'⟩ | ⟨n1, h1, e1'⟩ <;> rcases at' e2 with ⟨rfl, h2, e2'⟩ | ⟨n2, h2, e2'⟩
    · rfl
    · rw [e1'] at e3
      rw [e2'] at e4
      exact (inj c p h1.symm (Option.some.inj (Option.some.inj e3)) k c' h2 e4).symm
    · rw [e2'] at e4
      rw [e1'] at e3
      exact inj c' p h2.symm (Option.some.inj (Option.some.inj e4)) j c h1 e3
    · rw [e1'] at e3
      rw [e2'] at e4
      exact rel.inj j k c c' p h1 h2 e3 e4
omit [WI] in
theorem OwnS.asg_sub {i : Nat} {v : V} {a : Slot} {q : Addr} (len : σ.length = st.v.length) (na : ∀ c, a ≠ .own c) (h : OwnS (st.v.set i a) (σ.set i (some v)) ρ q) : OwnS st.v σ ρ q := by
  rcases h with h | ⟨j, c, e, e'⟩
  · exact .inl h
  · rcases getElem?_set_cases e with ⟨_, z, _⟩ | ⟨n, e⟩
    · exact absurd z.symm (na c)
    · rw [List.getElem?_set_ne (fun z => n z.symm)] at e'
      exact .inr ⟨j, c, e, e'⟩
/-- values for several slots -/
theorem puts_ok : ∀ {is : List Nat} {ds : List D} {vs : List V} {st st2 : MP.St} {σ : L2.St}, Rel st σ H F ρ → RpL F vs ds → putSlots is (ds.map Slot.val) st = some (.ok () st2) →
    ∀ {Q : L2.St → Hp → Prop}, (∀ σ2, Rel st2 σ2 H F ρ → (∀ q, OwnS st2.v σ2 ρ q → OwnS st.v σ ρ q) → (∀ j, j ∉ is → σ2[j]? = σ[j]?) → σ2.length = σ.length → st2.s = st.s → Q σ2 H) → gMany is vs σ H Q
  | [], ds, vs, st, st2, σ, rel, r, h, Q, q => by
    cases r with
    | nil =>
      cases h
      exact ⟨rfl, q σ rel (fun _ h => h) (fun _ _ => rfl) rfl rfl⟩
    | cons _ _ => cases h
  | i :: is, ds, vs, st, st2, σ, rel, r, h, Q, q => by
    cases r with
    | nil => cases h
    | @cons v vs d ds rd rs =>
      have h : M.bind (putSlot i (.val d)) (fun _ => putSlots is (ds.map Slot.val)) st = some (.ok () st2) := h
      rcases bind_inv h with ⟨c, s', _, z⟩ | ⟨_, st1, h1, h2⟩
      · cases z
      · unfold putSlot at h1
        split at h1
        · cases h1
          have rel1 := rel.asg (i := i) (v := v) (a := .val d) ⟨v, rfl, rd⟩ (fun c p z => by cases z)
          refine ⟨v, vs, rfl, puts_ok rel1 rs h2 fun σ2 r2 o2 k2 l2 s2 => q σ2 r2 (fun p hp => OwnS.asg_sub rel.len (fun c z => by cases z) (o2 p hp)) (fun j hj => ?_) (by rw [l2, List.length_set]) s2⟩
          rw [k2 j (fun z => hj (List.mem_cons_of_mem _ z)), List.getElem?_set_ne (fun z => hj (by rw [z]; exact List.mem_cons_self ..))]
        · cases h1
/-- an item for a target -/
theorem tgt_ok {K : PySem.W.Frag} {m : Bool} {tg : Tgt} {F1 H' : Hp} {v : V} {d : D} {st2 : MP.St} {Q : L2.St → Hp → Prop} (rel : Rel st σ H F ρ) (le : Le F1 F) (hm : m = true → isMany tg = true) (iv : IV m F1 H H' v d) (h : putTgt tg d st = some (.ok () st2))
    (q : ∀ σ2, Rel st2 σ2 H' F ρ → Le H H' → (∀ a u, H' a = some u → H a = some u ∨ H a = none) → (∀ q, OwnS st2.v σ2 ρ q → OwnS st.v σ ρ q) → (∀ j, j ∉ tgtIs tg → σ2[j]? = σ[j]?) → σ2.length = σ.length → st2.s = st.s → Q σ2 H') : gT K tg v σ H' Q := by
  cases iv with
  | val e r =>
    subst e
    have r := r.mono le
    cases tg with
    | one i =>
      have h : putSlot i (.val d) st = some (.ok () st2) := h
      unfold putSlot at h
      split at h
      · cases h
        exact q _ (rel.asg ⟨v, rfl, r⟩ (fun c p z => by cases z)) (Le.refl _) (fun a u e => .inl e) (fun p hp => OwnS.asg_sub rel.len (fun c z => by cases z) hp) (fun j hj => List.getElem?_set_ne (fun z => hj (by rw [← z]; exact List.mem_singleton.mpr rfl))) (List.length_set ..) rfl
      · cases h
    | many is =>
      cases d with
      | tuple ds =>
        cases r with
        | tup e1 _ rs =>
          have hl : ∀ {is : List Nat} {ds : List Slot} {s : MP.St}, putSlots is ds s = some (.ok () st2) → ds.length = is.length := by
            intro is
            induction is with
            | nil =>
              intro ds s h
              cases ds with
              | nil => rfl
              | cons _ _ => cases h
            | cons i is ih =>
              intro ds s h
              cases ds with
              | nil => cases h
              | cons d ds =>
                rcases bind_inv (show M.bind (putSlot i d) (fun _ => putSlots is ds) s = some (.ok () st2) from h) with ⟨c, s', _, z⟩ | ⟨_, s1, _, h2⟩
                · cases z
                · rw [List.length_cons, List.length_cons, ih h2]
          refine ⟨_, _, rfl, .ofF (rel.fh _ _ e1), ?_, puts_ok rel rs h fun σ2 r2 o2 k2 l2 s2 => q σ2 r2 (Le.refl _) (fun a u e => .inl e) o2 k2 l2 s2⟩
          have := hl h
          rw [List.length_map] at this
          rw [rs.length, this]
      | none => cases h
      | bool b => cases h
      | int b => cases h
      | str b => cases h
      | list b => cases h
      | dict b => cases h
  | @pair T x y d e hm' hT e1 rx ry =>
    subst e1
    have rel' : Rel st σ (upd H T (.tup [x, y])) F ρ := rel.newH hT (Le.refl _) fun a u e => .inl e
    cases tg with
    | one i => exact Bool.noConfusion (show false = true from hm hm')
    | many is =>
      have h : putSlots is ([d, e].map Slot.val) st = some (.ok () st2) := h
      cases is with
      | nil => cases h
      | cons i is =>
        cases is with
        | nil =>
          rcases bind_inv (show M.bind (putSlot i (.val d)) (fun _ => putSlots [] [.val e]) st = some (.ok () st2) from h) with ⟨c, s', _, z⟩ | ⟨_, s1, _, h2⟩
          · cases z
          · cases h2
        | cons j is =>
          cases is with
          | cons k is =>
            rcases bind_inv (show M.bind (putSlot i (.val d)) (fun _ => putSlots (j :: k :: is) [.val e]) st = some (.ok () st2) from h) with ⟨c, s', _, z⟩ | ⟨_, s1, _, h2⟩
            · cases z
            · rcases bind_inv (show M.bind (putSlot j (.val e)) (fun _ => putSlots (k :: is) []) s1 = some (.ok () st2) from h2) with ⟨c, s', _, z⟩ | ⟨_, s3, _, h3⟩
              · cases z
              · cases h3
          | nil =>
            refine ⟨T, [x, y], rfl, .of upd_same, rfl, puts_ok rel' (.cons (rx.mono le) (.cons (ry.mono le) .nil)) h fun σ2 r2 o2 k2 l2 s2 => q σ2 r2 (Le.upd hT) (fun a u e => ?_) o2 k2 l2 s2⟩
            by_cases ha : a = T
            · rw [ha]; exact .inr hT
            · rw [upd_ne ha] at e; exact .inl e
end
end MP
set_option maxHeartbeats 2000000
/-! MPq: list comprehensions. -/
namespace MP
open PySem L2 PySem.Spec PyProof.Rows
variable [WI]
/-! ### the block's slots -/
omit [WI] in
theorem wipe_at (σ : L2.St) : ∀ (vs : List Nat) (j : Nat), (wipe σ vs)[j]? = if j ∈ vs then σ[j]?.map (fun _ => none) else σ[j]?
  | [], j => by simp [wipe]
  | v :: vs, j => by
    show ((wipe σ vs).set v none)[j]? = _
    by_cases e : v = j
    · subst e
      rw [if_pos (List.mem_cons_self ..)]
      by_cases hl : v < σ.length
      · rw [List.getElem?_set_self (by rw [wipe_length]; exact hl), List.getElem?_eq_getElem hl]
        rfl
      · rw [List.getElem?_eq_none (by rw [List.length_set, wipe_length]; omega), List.getElem?_eq_none (by omega)]
        rfl
    · rw [List.getElem?_set_ne e, wipe_at σ vs j]
      have : (j ∈ v :: vs) ↔ j ∈ vs := by
        rw [List.mem_cons]
        exact ⟨fun h => h.elim (fun h => absurd h.symm e) id, .inr⟩
      simp only [this]
omit [WI] in
theorem wipe_same {σ τ : L2.St} {vs : List Nat} (l : τ.length = (wipe σ vs).length) (h : ∀ j, j ∉ vs → τ[j]? = (wipe σ vs)[j]?) : wipe τ vs = wipe σ vs := by
  refine List.ext_getElem? fun j => ?_
  rw [wipe_at]
  by_cases hj : j ∈ vs
  · rw [if_pos hj, wipe_at, if_pos hj]
    rw [wipe_length] at l
    by_cases hl : j < σ.length
    · rw [List.getElem?_eq_getElem hl, List.getElem?_eq_getElem (by rw [l]; exact hl)]
      rfl
    · rw [List.getElem?_eq_none (by omega), List.getElem?_eq_none (by omega)]
  · rw [if_neg hj]
    exact h j hj
omit [WI] in
theorem wipeS_at : ∀ (is : List Nat) (v : List Slot) (j : Nat), (wipeS v is)[j]? = if j ∈ is then v[j]?.map (fun _ => .un) else v[j]?
  | [], v, j => by simp [wipeS]
  | i :: is, v, j => by
    show (wipeS (v.set i .un) is)[j]? = _
    rw [wipeS_at is (v.set i .un) j]
    by_cases e : i = j
    · subst e
      rw [if_pos (List.mem_cons_self ..)]
      by_cases hl : i < v.length
      · rw [List.getElem?_set_self hl, List.getElem?_eq_getElem hl]
        split <;> rfl
      · rw [List.getElem?_eq_none (by rw [List.length_set]; omega), List.getElem?_eq_none (by omega)]
        split <;> rfl
    · rw [List.getElem?_set_ne e]
      have : (j ∈ i :: is) ↔ j ∈ is := by
        rw [List.mem_cons]
        exact ⟨fun h => h.elim (fun h => absurd h.symm e) id, .inr⟩
      simp only [this]
omit [WI] in
theorem wipeS_length : ∀ (is : List Nat) (v : List Slot), (wipeS v is).length = v.length
  | [], v => rfl
  | i :: is, v => by
    show (wipeS (v.set i .un) is).length = _
    rw [wipeS_length is, List.length_set]
/-- every slot -/
def allPl (n : Nat) : List MP.W := (List.range n).map MP.W.pl
omit [WI] in
theorem mem_allPl {n i : Nat} (h : i < n) : MP.W.pl i ∈ allPl n := List.mem_map.mpr ⟨i, List.mem_range.mpr h, rfl⟩
section
variable {st : MP.St} {σ : L2.St} {H F H' F' : Hp} {ρ : List Addr}
abbrev blkV (st : MP.St) (tg : Tgt) : List Slot := wipeS (st.v.map Slot.borrow) (tgtIs tg)
omit [WI] in
theorem blkV_own {tg : Tgt} {j : Nat} {c : Cell} (h : (blkV st tg)[j]? = some (Slot.own c)) : False := by
  rw [wipeS_at, List.getElem?_map] at h
  cases q : st.v[j]? with
  | none =>
    rw [q] at h
    split at h <;> cases h
  | some a =>
    rw [q] at h
    split at h
    · cases h
    · cases a <;> cases h
/-- within the block: every variable's object is lent -/
theorem blk_rel {tg : Tgt} {s' : List Cell} (rel : Rel st σ H F ρ) (b : Back ρ H (lentF st σ (allPl st.v.length) H F) H' F' s') : Rel { v := blkV st tg, s := s' } (wipe σ (tgtIs tg)) H' F' ρ := by
  refine ⟨b.fh, by rw [wipe_length, wipeS_length, List.length_map]; exact rel.len, fun j a e => ?_, fun i j c c' p e1 => (blkV_own e1).elim, b.sto⟩
  have le := (lentF_le rel (allPl st.v.length)).trans b.stp.fle
  have e : (blkV st tg)[j]? = some a := e
  rw [wipeS_at, List.getElem?_map] at e
  rw [wipe_at]
  split at e
  · rename_i hj
    cases q : st.v[j]? with
    | none => rw [q] at e; cases e
    | some x => rw [q] at e; cases e; exact True.intro
  · rename_i hj
    rw [if_neg hj]
    cases q : st.v[j]? with
    | none => rw [q] at e; cases e
    | some x =>
      rw [q] at e
      cases e
      have z := rel.slot j x q
      cases x with
      | un => exact z
      | val d =>
        obtain ⟨v, h1, h2⟩ := z
        exact ⟨v, h1, h2.mono le⟩
      | loc n => exact z
      | own c =>
        obtain ⟨p, h1, h2, h3, h4⟩ := z
        refine ⟨_, h1, h2.rp le fun o ho => b.stp.fle _ _ ?_⟩
        unfold lentF
        rw [if_pos ⟨j, c, mem_allPl (List.getElem?_eq_some_iff.mp q).1, q, h1⟩]
        exact ho
/-- a new content for an object that nobody holds -/
theorem Rel.putD {D : Addr} {o : HO} (rel : Rel st σ H F ρ) (hf : F D = none) (ho : ¬ OwnS st.v σ ρ D) : Rel st σ (upd H D o) F ρ := by
  refine ⟨fun a u e => ?_, rel.len, fun i a e => ?_, rel.inj, ⟨rel.sto.len, rel.sto.nd, fun n a c e1 e2 => ?_⟩⟩
  · rw [upd_ne (fun z => by rw [z, hf] at e; cases e)]
    exact rel.fh _ _ e
  · have q := rel.slot i a e
    cases a with
    | un => exact q
    | val d => exact q
    | loc n => exact q
    | own c =>
      obtain ⟨p, h1, h2, h3, h4⟩ := q
      exact ⟨p, h1, h2.other fun z => ho (.inr ⟨i, c, e, by rw [h1, z]⟩), h3, h4⟩
  · obtain ⟨k1, k2, k3⟩ := rel.sto.cel n a c e1 e2
    exact ⟨k1.other fun z => ho (.inl (by rw [← z]; exact List.mem_of_getElem? e1)), k2, k3⟩
theorem Pst.back {st st' : MP.St} (p : Pst st st' σ ρ H F H' F') (n : ∀ q, OwnS st.v σ ρ q → q ∈ ρ) : Back ρ H F H' F' st'.s :=
  ⟨p.rel.sto, p.rel.fh, ⟨p.stp.fle, fun a o h k => p.stp.keep a o h fun z => k (n a z), fun a o o' e k h => (p.stp.new a o o' e k h).imp (n a) id⟩⟩
theorem Back.refl {s : List Cell} (r : RelS F H ρ s) (le : Le F H) : Back ρ H F H F s := ⟨r, le, Stp.refl⟩
theorem Back.trans {H1 F1 H2 F2 : Hp} {s1 s2 : List Cell} (a : Back ρ H F H1 F1 s1) (b : Back ρ H1 F1 H2 F2 s2) : Back ρ H F H2 F2 s2 := ⟨b.sto, b.fh, a.stp.trans OwnSub.refl b.stp⟩
/-- the new list is laid, or gets an item -/
theorem Back.putD {D : Addr} {o : HO} {s : List Cell} (b : Back ρ H F H' F' s) (hD : H D = none) (hf : F' D = none) (hn : D ∉ ρ) : Back ρ H F (upd H' D o) F' s := by
  refine ⟨⟨b.sto.len, b.sto.nd, fun n a c e1 e2 => ?_⟩, fun a u e => ?_, ⟨b.stp.fle, fun a u h k => ?_, b.stp.new⟩⟩
  · obtain ⟨k1, k2, k3⟩ := b.sto.cel n a c e1 e2
    exact ⟨k1.other fun z => hn (by rw [← z]; exact List.mem_of_getElem? e1), k2, k3⟩
  · rw [upd_ne (fun z => by rw [z, hf] at e; cases e)]
    exact b.fh _ _ e
  · rw [upd_ne (fun z => by rw [z, hD] at h; cases h)]
    exact b.stp.keep a u h k
theorem lent_relS (rel : Rel st σ H F ρ) (ws : List MP.W) : RelS (lentF st σ ws H F) H ρ st.s := by
  refine ⟨rel.sto.len, rel.sto.nd, fun n q c e1 e2 => ?_⟩
  obtain ⟨k1, k2, k3⟩ := rel.sto.cel n q c e1 e2
  refine ⟨k1.mono (lentF_le rel _) fun _ h => h, ?_, k3⟩
  unfold lentF
  rw [if_neg (fun z => z.nρ rel (List.mem_of_getElem? e1))]
  exact k2
end
/-! ### tests -/
section
variable {X : Cx} {cf : CallF} {W : WX} {cl : Str → Addr} {tb : Tb}
def tTs (X : Cx) (ifs : List Expr) : TT := fun σ H Q => ∀ (pins : List (Addr × Obj)) (s : Shared), Inv X pins σ H s →
  wpAny (model X.prog X.w) X.A (forIn ifs true fun c r => if r = true then do let ok ← isTrue c X.env (eval c X.env); pure (ForInStep.yield ok) else pure (ForInStep.yield r)) (TP X pins σ Q) X.xe s
def SCo (X : Cx) (cf : CallF) (W : WX) (cl : Str → Addr) (ir : Exo) (ifs : List Expr) : Prop := ∀ (st : MP.St) (σ : L2.St) (H F : Hp) (ρ : List Addr) (r : R Bool) (Q : Bool → Hp → Prop), Rel st σ H F ρ → evC cf ir st = some r → PX W cl st σ ρ H F r →
  (∀ t st', r = .ok t st' → ∀ H' F', Pst st st' σ ρ H F H' F' → Q t H') → tTs X ifs σ H Q
theorem sc_no : SCo X cf W cl .no [] := fun st σ H F ρ r Q rel hk hx fin => fun pins s I => pts_nil.run pins s σ H Q I (fin true st (ret_inv hk) H F (Pst.refl rel))
theorem sc_yes {a : Ex} {x : Expr} (h : ST X cf W cl a x) : SCo X cf W cl (.yes a) [x] := fun st σ H F ρ r Q rel hk hx fin => fun pins s I => (pts_one pt_self).run pins s σ H Q I (h st σ H F ρ r Q rel hk hx fin)
abbrev W0 : WX := fun _ _ _ _ => False
theorem Ok.blk {scope : Scope} {cenv : Env} {s : Shared} {H : Hp} {fp : List Addr} (ok : Ok X cf W cl tb) : Ok (X.blk s H scope cenv fp) cf W0 cl tb :=
  ⟨ok.calm, ok.nd, ok.un, ok.wi, takes0, ok.glo, ok.blt, ok.fn, ok.exc⟩
omit [WI] in
theorem own_snd (N : List Str) (tg : Tgt) : (ownOf N tg).map (·.2) = tgtIs tg := by
  unfold ownOf
  rw [List.map_map]
  exact List.map_id'' (fun _ => rfl) _
omit [WI] in
theorem putSlot_inv {i : Nat} {a : Slot} {st : MP.St} {r : R Unit} (h : putSlot i a st = some r) : ∃ st', r = .ok () st' := by
  unfold putSlot at h
  split at h
  · exact ⟨_, (Option.some.inj h).symm⟩
  · cases h
omit [WI] in
theorem putSlots_inv : ∀ {is : List Nat} {as : List Slot} {st : MP.St} {r : R Unit}, putSlots is as st = some r → ∃ st', r = .ok () st'
  | [], [], st, r, h => ⟨_, (Option.some.inj h).symm⟩
  | [], _ :: _, st, r, h => by cases h
  | _ :: _, [], st, r, h => by cases h
  | i :: is, a :: as, st, r, h => by
    rcases bind_inv (show M.bind (putSlot i a) (fun _ => putSlots is as) st = some r from h) with ⟨c, s', h1, _⟩ | ⟨_, s1, _, h2⟩
    · obtain ⟨_, z⟩ := putSlot_inv h1
      cases z
    · exact putSlots_inv h2
omit [WI] in
theorem putTgt_inv {tg : Tgt} {d : D} {st : MP.St} {r : R Unit} (h : putTgt tg d st = some r) : ∃ st', r = .ok () st' := by
  cases tg with
  | one i => exact putSlot_inv h
  | many is =>
    cases d with
    | tuple ds => exact putSlots_inv (show putSlots is (ds.map Slot.val) st = some r from h)
    | none => cases h
    | bool b => cases h
    | int b => cases h
    | str b => cases h
    | list b => cases h
    | dict b => cases h
omit [WI] in
/-- one turn of a comprehension, in the evaluator -/
theorem compF_cons {tg : Tgt} {v : List Slot} {c : M Bool} {e : M D} {d : D} {ds rest : List D} {s sE : List Cell} (h : compF tg v c e (d :: ds) s = some (rest, sE)) : ∃ st1, putTgt tg d { v := v, s := s } = some (.ok () st1) ∧
    ((∃ st2 dd st3 rest', c st1 = some (.ok true st2) ∧ e st2 = some (.ok dd st3) ∧ noMut dd = true ∧ rest = dd :: rest' ∧ compF tg v c e ds st3.s = some (rest', sE)) ∨ ∃ st2, c st1 = some (.ok false st2) ∧ compF tg v c e ds st2.s = some (rest, sE)) := by
  unfold compF at h
  split at h
  · rename_i u st1 h1
    refine ⟨st1, h1, ?_⟩
    split at h
    · rename_i st2 h2
      split at h
      · rename_i dd st3 h3
        split at h
        · rename_i hm
          simp only [Option.map_eq_some_iff] at h
          obtain ⟨⟨r, s'⟩, h4, h5⟩ := h
          cases h5
          exact .inl ⟨st2, dd, st3, r, h2, h3, hm, rfl, h4⟩
        · cases h
      · cases h
    · rename_i st2 h2
      exact .inr ⟨st2, h2, h⟩
    · cases h
  · cases h
omit [WI] in
theorem noMutL_snoc : ∀ {ds : List D} {d : D}, noMutL ds = true → noMut d = true → noMutL (ds ++ [d]) = true
  | [], d, _, h => by
    show (noMut d && true) = true
    rw [h]
    rfl
  | x :: ds, d, h, h2 => by
    obtain ⟨h3, h4⟩ := and2 (show (noMut x && noMutL ds) = true from h)
    show (noMut x && noMutL (ds ++ [d])) = true
    rw [h3, noMutL_snoc h4 h2]
    rfl
/-- the block's tests and its item, in whatever heap it runs -/
abbrev bT (X : Cx) (scope : Scope) (ifs : List Expr) : TT := fun σ H Q => ∀ s H0 C cl' fp, tTs (X.blk s H0 scope (compEnvC scope cl' C X.env) fp) ifs σ H Q
abbrev bE (X : Cx) (scope : Scope) (x : Expr) : TE := fun σ H Q => ∀ s H0 C cl' fp, tE (X.blk s H0 scope (compEnvC scope cl' C X.env) fp) x σ H Q
theorem comp_core {m : Bool} {elt : Ex} {tg : Tgt} {it : MP.It} {cond : Exo} {x t i : Expr} {ifs : List Expr} {scope : Scope}
    (hm : m = true → isMany tg = true) (hi : SI m X cf W cl it t i) (hc : ∀ (s : Shared) (H : Hp) (C : Addr) (cl' : List (Str × Addr)) (fp : List Addr), SCo (X.blk s H scope (compEnvC scope cl' C X.env) fp) cf W0 cl cond ifs)
    (he : ∀ (s : Shared) (H : Hp) (C : Addr) (cl' : List (Str × Addr)) (fp : List Addr), SE (X.blk s H scope (compEnvC scope cl' C X.env) fp) cf W0 cl elt x) {st : MP.St} {σ : L2.St} {H F : Hp} {ρ : List Addr} {r : R MP.W} {Q : VK} (rel : Rel st σ H F ρ) (hk : evE cf (.comp elt tg it cond) st = some r) (hx : PX W cl st σ ρ H F r)
    (fin : ∀ w st', r = .ok w st' → ∀ v H' F', Pst st st' σ ρ H F H' F' → RW st' σ H' F' ρ v w → Fresh st σ ρ H v w → Q v H') : tLc (tIt X t i) (gT X.K tg) (bT X scope ifs) (bE X scope x) ((ownOf X.N tg).map (·.2)) σ H Q := by
  rw [own_snd]
  refine hi _ _ st σ H F ρ r _ rel hk hx fun ds st1 J H1 F1 p1 wd hk => ?_
  split at hk
  · cases hk
  rename_i hlen
  simp only [Option.bind_eq_some_iff] at hk
  obtain ⟨⟨dsE, sE⟩, hcF, hr⟩ := hk
  have hr : r = .ok (.fr (.lst dsE)) { st1 with s := sE } := (Option.some.inj hr).symm
  intro D hD
  have rel1 := p1.rel
  have nown := not_own_new rel1 hD
  have nρ : D ∉ ρ := fun z => nown (.inl z)
  have Flent : lentF st1 σ (allPl st1.v.length) H1 F1 D = none := by
    cases q : lentF st1 σ (allPl st1.v.length) H1 F1 D with
    | none => rfl
    | some u => rw [lentF_leH rel1 _ _ _ q] at hD; cases hD
  refine lc_it wd (g := gT X.K tg) (tt := bT X scope ifs) (te := bE X scope x)
    (vs := tgtIs tg) (σ := σ) (H1 := H1) (D := D) (Qd := Q (.ref D)) (fun i H => ∃ Fi si acc dacc rest, Back ρ H1 (lentF st1 σ (allPl st1.v.length) H1 F1) H Fi si ∧ H D = some (.lst acc) ∧ Fi D = none ∧ RpL Fi acc dacc ∧ noMutL dacc = true ∧
      compF tg (blkV st1 tg) (evC cf cond) ((evE cf elt).bind keep) (ds.drop i) si = some (rest, sE) ∧ dacc ++ rest = dsE ∧ dacc.length ≤ i) ?_ ?_ ?_ ?_
  · exact ⟨_, st1.s, [], [], dsE, (Back.refl (lent_relS rel1 _) (lentF_leH rel1 _)).putD hD Flent nρ, upd_same, Flent, .nil, rfl, hcF, rfl, Nat.le_refl _⟩
  · rintro k H2 _ ⟨Fi, si, acc, dacc, rest, b, _⟩
    exact ((lentF_le rel1 _).trans b.stp.fle).trans b.fh
  · rintro k xv H2 H3 hkl ⟨Fi, si, acc, dacc, rest, b, hDa, hFD, rs, nm, hF, hE, hl⟩ ⟨d, hd, iv⟩
    have hdrop : ds.drop k = d :: ds.drop (k + 1) := by
      obtain ⟨h1, h2⟩ := List.getElem?_eq_some_iff.mp hd
      rw [← h2]
      exact List.drop_eq_getElem_cons h1
    rw [hdrop] at hF
    obtain ⟨stA, hput, hF⟩ := compF_cons hF
    have brel := blk_rel (tg := tg) rel1 b
    refine tgt_ok brel ((lentF_le rel1 _).trans b.stp.fle) hm iv hput fun σ2 relA leH newH ownA kA lA sA => ⟨wipe_same lA kA, fun s0 H0 C cl' fp => ?_⟩
    have ownρ : ∀ q, OwnS stA.v σ2 ρ q → q ∈ ρ := fun q h => (ownA q h).elim id fun ⟨j, c, e, _⟩ => (blkV_own e).elim
    have bA : Back ρ H1 (lentF st1 σ (allPl st1.v.length) H1 F1) H3 Fi si := by
      refine ⟨?_, relA.fh, ⟨b.stp.fle, fun a o h n => leH _ _ (b.stp.keep a o h n), b.stp.new⟩⟩
      have := relA.sto
      rw [sA] at this
      exact this
    have step : ∀ {st' : MP.St} {H4 F4 : Hp}, Pst stA st' σ2 ρ H3 Fi H4 F4 → Back ρ H1 (lentF st1 σ (allPl st1.v.length) H1 F1) H4 F4 st'.s ∧ H4 D = some (.lst acc) ∧ F4 D = none := fun {st' H4 F4} P => by
      refine ⟨bA.trans (P.back ownρ), P.stp.keep D _ (leH _ _ hDa) (fun z => nρ (ownρ D z)), ?_⟩
      cases q : F4 D with
      | none => rfl
      | some u =>
        rcases P.stp.new D u _ q hFD (leH _ _ hDa) with z | ⟨ob, xs, z⟩
        · exact absurd (ownρ D z) nρ
        · cases z
    rcases hF with ⟨stB, dd, stC, rest', h1, h2, h3, h4, h5⟩ | ⟨stB, h1, h2⟩
    · refine hc s0 H0 C cl' fp stA σ2 H3 Fi ρ _ _ relA h1 PX.ok fun tt st' e' H4 F4 P4 => ?_
      cases e'
      rw [if_pos rfl]
      intro s1 H01 C1 cl1 fp1
      rcases bind_inv h2 with ⟨_, _, _, z⟩ | ⟨w, stC', h6, h7⟩
      · cases z
      refine (he s1 H01 C1 cl1 fp1).kept P4.rel h6 h7 fun y H5 F5 P5 ry => ?_
      obtain ⟨bb, b1, b2⟩ := step (P4.trans P5)
      have hacc : acc.length = dacc.length := rs.length
      refine ⟨acc, b1, ?_, F5, stC.s, acc ++ [y], dacc ++ [dd], rest', bb.putD hD b2 nρ, upd_same, b2, (rs.mono (P4.trans P5).stp.fle).append (.cons ry .nil), noMutL_snoc nm h3, h5, ?_, ?_⟩
      · rw [hacc]
        exact lim_lt (by omega)
      · rw [← hE, h4, List.append_assoc]
        rfl
      · rw [List.length_append, List.length_singleton]
        omega
    · refine hc s0 H0 C cl' fp stA σ2 H3 Fi ρ _ _ relA h1 PX.ok fun tt st' e' H4 F4 P4 => ?_
      cases e'
      rw [if_neg Bool.false_ne_true]
      obtain ⟨bb, b1, b2⟩ := step P4
      exact ⟨F4, stB.s, acc, dacc, rest, bb, b1, b2, rs.mono P4.stp.fle, nm, h2, hE, by omega⟩
  · rintro H2 ⟨Fi, si, acc, dacc, rest, b, hDa, hFD, rs, nm, hF, hE, hl⟩
    rw [List.drop_length] at hF
    cases hF
    rw [List.append_nil] at hE
    subst hE
    obtain ⟨F2, p2, lt, le2⟩ := back_lent rel1 b
    have P := p1.trans p2
    have hF2 : F2 D = none := by
      cases q : F2 D with
      | none => rfl
      | some u => rw [le2 _ _ q] at hFD; cases hFD
    refine fin _ _ hr (.ref D) H2 F2 P ⟨D, rfl, ⟨acc, hDa, rs.monoT lt nm⟩, hF2, nown⟩ ?_
    exact Fresh.back (w := .fr (.lst dacc)) p1 fun q e => by
      cases e
      exact .inl hD
theorem blk_pg {tg : Tgt} {t : Expr} {scope : Scope} (ok : Ok X cf W cl tb) (ht : chkT (ownC scope) X.N (relS scope X.env.scope) tg t = true) (s : Shared) (H0 : Hp) (C : Addr) (cl' : List (Str × Addr)) (fp : List Addr) : PG (X.blk s H0 scope (compEnvC scope cl' C X.env) fp) t (gT X.K tg) :=
  pg_T (X := X.blk s H0 scope (compEnvC scope cl' C X.env) fp) (blk := ownC scope) ok.calm ok.nd (fun y h => h) ht
omit [WI] in
theorem blk_pts {scope : Scope} {ifs : List Expr} (s : Shared) (H0 : Hp) (C : Addr) (cl' : List (Str × Addr)) (fp : List Addr) : PTs (X.blk s H0 scope (compEnvC scope cl' C X.env) fp) ifs (bT X scope ifs) := ⟨fun pins s1 σ H Q I h => h s H0 C cl' fp pins s1 I⟩
omit [WI] in
theorem blk_pe {scope : Scope} {x : Expr} (s : Shared) (H0 : Hp) (C : Addr) (cl' : List (Str × Addr)) (fp : List Addr) : PE (X.blk s H0 scope (compEnvC scope cl' C X.env) fp) x (bE X scope x) := ⟨fun pins s1 σ H Q I h => h s H0 C cl' fp pins s1 I⟩
theorem se_comp {m : Bool} {elt : Ex} {tg : Tgt} {it : MP.It} {cond : Exo} {x t i : Expr} {ifs : List Expr} {scope : Scope} {p : Pos} (ok : Ok X cf W cl tb) (hb : blkC X.N X.env.scope scope (ownOf X.N tg) = true) (ht : chkT (ownC scope) X.N (relS scope X.env.scope) tg t = true)
    (hm : m = true → isMany tg = true) (hbi : badE i = false) (hi : SI m X cf W cl it t i) (hc : ∀ (s : Shared) (H : Hp) (C : Addr) (cl' : List (Str × Addr)) (fp : List Addr), SCo (X.blk s H scope (compEnvC scope cl' C X.env) fp) cf W0 cl cond ifs)
    (he : ∀ (s : Shared) (H : Hp) (C : Addr) (cl' : List (Str × Addr)) (fp : List Addr), SE (X.blk s H scope (compEnvC scope cl' C X.env) fp) cf W0 cl elt x) : SE X cf W cl (.comp elt tg it cond) (.ListComp x [⟨t, i, ifs, 0⟩] scope p) := fun st σ H F ρ r Q rel hk hx fin =>
  tE_of (pe_lc ok.calm ok.nd pi_self (blkOk_by hb) (blk_pg ok ht) blk_pts blk_pe (folded_not_set hbi _)) (comp_core hm hi hc he rel hk hx fin)

/-! ### two clauses -/
omit [WI] in
theorem compF2_cons {tg tg1 : Tgt} {v : List Slot} {c c1 : M Bool} {it1 : M (List D)} {e : M D} {d : D} {ds rest : List D} {s sE : List Cell} (h : compF2 tg v c it1 tg1 c1 e (d :: ds) s = some (rest, sE)) : ∃ st1, putTgt tg d { v := v, s := s } = some (.ok () st1) ∧
    ((∃ st2 ys st3 d1 s3 rest', c st1 = some (.ok true st2) ∧ it1 st2 = some (.ok ys st3) ∧ st3.v.all notOwn = true ∧ compF tg1 (wipeS st3.v (tgtIs tg1)) c1 e ys st3.s = some (d1, s3) ∧ rest = d1 ++ rest' ∧ compF2 tg v c it1 tg1 c1 e ds s3 = some (rest', sE)) ∨
      ∃ st2, c st1 = some (.ok false st2) ∧ compF2 tg v c it1 tg1 c1 e ds st2.s = some (rest, sE)) := by
  unfold compF2 at h
  split at h
  · rename_i u st1 h1
    refine ⟨st1, h1, ?_⟩
    split at h
    · rename_i st2 h2
      split at h
      · rename_i ys st3 h3
        split at h
        · rename_i hn
          simp only [Option.bind_eq_some_iff, Option.map_eq_some_iff] at h
          obtain ⟨⟨d1, s3⟩, h4, ⟨r, s'⟩, h5, h6⟩ := h
          cases h6
          exact .inl ⟨st2, ys, st3, d1, s3, r, h2, h3, hn, h4, rfl, h5⟩
        · cases h
      · cases h
    · rename_i st2 h2
      exact .inr ⟨st2, h2, h⟩
    · cases h
  · cases h
omit [WI] in
theorem blkI_own {st : MP.St} {is : List Nat} {j : Nat} {c : Cell} (h : (wipeS (st.v.map Slot.borrow) is)[j]? = some (Slot.own c)) : False := by
  rw [wipeS_at, List.getElem?_map] at h
  cases q : st.v[j]? with
  | none =>
    rw [q] at h
    split at h <;> cases h
  | some a =>
    rw [q] at h
    split at h
    · cases h
    · cases a <;> cases h
theorem blkI_rel {st : MP.St} {σ : L2.St} {H F H' F' : Hp} {ρ : List Addr} {is : List Nat} {s' : List Cell} (rel : Rel st σ H F ρ) (b : Back ρ H (lentF st σ (allPl st.v.length) H F) H' F' s') : Rel { v := wipeS (st.v.map Slot.borrow) is, s := s' } (wipe σ is) H' F' ρ := by
  refine ⟨b.fh, by rw [wipe_length, wipeS_length, List.length_map]; exact rel.len, fun j a e => ?_, fun i j c c' p e1 => (blkI_own e1).elim, b.sto⟩
  have le := (lentF_le rel (allPl st.v.length)).trans b.stp.fle
  have e : (wipeS (st.v.map Slot.borrow) is)[j]? = some a := e
  rw [wipeS_at, List.getElem?_map] at e
  rw [wipe_at]
  split at e
  · rename_i hj
    cases q : st.v[j]? with
    | none => rw [q] at e; cases e
    | some x => rw [q] at e; cases e; exact True.intro
  · rename_i hj
    rw [if_neg hj]
    cases q : st.v[j]? with
    | none => rw [q] at e; cases e
    | some x =>
      rw [q] at e
      cases e
      have z := rel.slot j x q
      cases x with
      | un => exact z
      | val d =>
        obtain ⟨v, h1, h2⟩ := z
        exact ⟨v, h1, h2.mono le⟩
      | loc n => exact z
      | own c =>
        obtain ⟨p, h1, h2, h3, h4⟩ := z
        refine ⟨_, h1, h2.rp le fun o ho => b.stp.fle _ _ ?_⟩
        unfold lentF
        rw [if_pos ⟨j, c, mem_allPl (List.getElem?_eq_some_iff.mp q).1, q, h1⟩]
        exact ho
omit [WI] in
theorem no_own {v : List Slot} (h : v.all notOwn = true) {j : Nat} {c : Cell} (e : v[j]? = some (Slot.own c)) : False := by
  have := List.all_eq_true.mp h _ (List.mem_of_getElem? e)
  cases this
/-- the second clause's slots -/
theorem in_rel {st : MP.St} {σ : L2.St} {H F H' F' : Hp} {ρ : List Addr} {is : List Nat} {s' : List Cell} (rel : Rel st σ H F ρ) (no : st.v.all notOwn = true) (le : Le F F') (fh : Le F' H') (sto : RelS F' H' ρ s') : Rel { v := wipeS st.v is, s := s' } (wipe σ is) H' F' ρ := by
  have none : ∀ {j : Nat} {c : Cell}, (wipeS st.v is)[j]? = some (Slot.own c) → False := fun {j c} e => by
    rw [wipeS_at] at e
    split at e
    · cases q : st.v[j]? with
      | none => rw [q] at e; cases e
      | some x => rw [q] at e; cases e
    · exact no_own no e
  refine ⟨fh, by rw [wipe_length, wipeS_length]; exact rel.len, fun j a e => ?_, fun i j c c' p e1 => (none e1).elim, sto⟩
  have e : (wipeS st.v is)[j]? = some a := e
  rw [wipeS_at] at e
  rw [wipe_at]
  split at e
  · rename_i hj
    cases q : st.v[j]? with
    | none => rw [q] at e; cases e
    | some x => rw [q] at e; cases e; exact True.intro
  · rename_i hj
    rw [if_neg hj]
    have z := rel.slot j a e
    cases a with
    | un => exact z
    | val d =>
      obtain ⟨v, h1, h2⟩ := z
      exact ⟨v, h1, h2.mono le⟩
    | loc n => exact z
    | own c => exact (no_own no e).elim
abbrev bI (X : Cx) (scope : Scope) (t i : Expr) : TI := fun σ H R => ∀ s H0 C cl' fp, tIt (X.blk s H0 scope (compEnvC scope cl' C X.env) fp) t i σ H R
omit [WI] in
theorem blk_pi {scope : Scope} {t i : Expr} (s : Shared) (H0 : Hp) (C : Addr) (cl' : List (Str × Addr)) (fp : List Addr) : PI (X.blk s H0 scope (compEnvC scope cl' C X.env) fp) t i (bI X scope t i) := ⟨fun pins s1 σ H R I h => h s H0 C cl' fp pins s1 I⟩
theorem comp2_core {m m1 : Bool} {elt : Ex} {tg tg1 : Tgt} {it it1 : MP.It} {cond cond1 : Exo} {x t i t1 i1 : Expr} {ifs ifs1 : List Expr} {scope : Scope}
    (hm : m = true → isMany tg = true) (hm1 : m1 = true → isMany tg1 = true) (hi : SI m X cf W cl it t i) (hi1 : ∀ (s : Shared) (H : Hp) (C : Addr) (cl' : List (Str × Addr)) (fp : List Addr), SI m1 (X.blk s H scope (compEnvC scope cl' C X.env) fp) cf W0 cl it1 t1 i1)
    (hc : ∀ (s : Shared) (H : Hp) (C : Addr) (cl' : List (Str × Addr)) (fp : List Addr), SCo (X.blk s H scope (compEnvC scope cl' C X.env) fp) cf W0 cl cond ifs)
    (hc1 : ∀ (s : Shared) (H : Hp) (C : Addr) (cl' : List (Str × Addr)) (fp : List Addr), SCo (X.blk s H scope (compEnvC scope cl' C X.env) fp) cf W0 cl cond1 ifs1)
    (he : ∀ (s : Shared) (H : Hp) (C : Addr) (cl' : List (Str × Addr)) (fp : List Addr), SE (X.blk s H scope (compEnvC scope cl' C X.env) fp) cf W0 cl elt x) {st : MP.St} {σ : L2.St} {H F : Hp} {ρ : List Addr} {r : R MP.W} {Q : VK} (rel : Rel st σ H F ρ) (hk : evE cf (.comp2 elt tg it cond tg1 it1 cond1) st = some r) (hx : PX W cl st σ ρ H F r)
    (fin : ∀ w st', r = .ok w st' → ∀ v H' F', Pst st st' σ ρ H F H' F' → RW st' σ H' F' ρ v w → Fresh st σ ρ H v w → Q v H') :
    tLc2 (tIt X t i) (gT X.K tg) (bT X scope ifs) (bI X scope t1 i1) (gT X.K tg1) (bT X scope ifs1) (bE X scope x) (tgtIs tg ++ tgtIs tg1) (tgtIs tg1) σ H Q := by
  refine hi _ _ st σ H F ρ r _ rel hk hx fun ds st1 J H1 F1 p1 wd hk => ?_
  split at hk
  · cases hk
  rename_i hlen
  simp only [Option.bind_eq_some_iff] at hk
  obtain ⟨⟨dsE, sE⟩, hcF, hr⟩ := hk
  split at hr
  · cases hr
  rename_i hlE
  have hlE : ¬ LIM < dsE.length := hlE
  have hr : r = .ok (.fr (.lst dsE)) { st1 with s := sE } := (Option.some.inj hr).symm
  intro D hD
  have rel1 := p1.rel
  have nown := not_own_new rel1 hD
  have nρ : D ∉ ρ := fun z => nown (.inl z)
  have Flent : lentF st1 σ (allPl st1.v.length) H1 F1 D = none := by
    cases q : lentF st1 σ (allPl st1.v.length) H1 F1 D with
    | none => rfl
    | some u => rw [lentF_leH rel1 _ _ _ q] at hD; cases hD
  let bv := wipeS (st1.v.map Slot.borrow) (tgtIs tg ++ tgtIs tg1)
  let Pv : Nat → Hp → Prop := fun i H => ∃ Fi si acc dacc rest, Back ρ H1 (lentF st1 σ (allPl st1.v.length) H1 F1) H Fi si ∧ H D = some (.lst acc) ∧ Fi D = none ∧ RpL Fi acc dacc ∧ noMutL dacc = true ∧
      compF2 tg bv (evC cf cond) (evI cf it1) tg1 (evC cf cond1) ((evE cf elt).bind keep) (ds.drop i) si = some (rest, sE) ∧ dacc ++ rest = dsE
  refine ⟨fun i m H => m = ds.length - i ∧ i ≤ ds.length ∧ Pv i H, ⟨ds.length, by simp, Nat.zero_le _, _, st1.s, [], [], dsE, (Back.refl (lent_relS rel1 _) (lentF_leH rel1 _)).putD hD Flent nρ, upd_same, Flent, .nil, rfl, hcF, rfl⟩, ?_⟩
  rintro k mm H2 ⟨rfl, hkl, Fi, si, acc, dacc, rest, b, hDa, hFD, rs, nm, hF, hE⟩
  have G : Le F1 H2 := ((lentF_le rel1 _).trans b.stp.fle).trans b.fh
  by_cases hlt : k < ds.length
  · refine .inr ⟨wd.goes k H2 hlt G, Pv (k + 1), fun H' p' => ⟨ds.length - (k + 1), by omega, rfl, hlt, p'⟩, fun xv H3 yy => ?_⟩
    obtain ⟨d, hd, iv⟩ := wd.yields k H2 xv H3 hlt G yy
    have hdrop : ds.drop k = d :: ds.drop (k + 1) := by
      obtain ⟨h1, h2⟩ := List.getElem?_eq_some_iff.mp hd
      rw [← h2]
      exact List.drop_eq_getElem_cons h1
    rw [hdrop] at hF
    obtain ⟨stA, hput, hF⟩ := compF2_cons hF
    have brel := blkI_rel (is := tgtIs tg ++ tgtIs tg1) rel1 b
    refine tgt_ok brel ((lentF_le rel1 _).trans b.stp.fle) hm iv hput fun σ2 relA leH newH ownA kA lA sA => ⟨wipe_same lA (fun j hj => kA j fun z => hj (List.mem_append_left _ z)), fun s0 H0 C cl' fp => ?_⟩
    have ownρ : ∀ q, OwnS stA.v σ2 ρ q → q ∈ ρ := fun q h => (ownA q h).elim id fun ⟨j, c, e, _⟩ => (blkI_own e).elim
    have bA : Back ρ H1 (lentF st1 σ (allPl st1.v.length) H1 F1) H3 Fi si := by
      refine ⟨?_, relA.fh, ⟨b.stp.fle, fun a o h n => leH _ _ (b.stp.keep a o h n), b.stp.new⟩⟩
      have := relA.sto
      rw [sA] at this
      exact this
    have step : ∀ {st' : MP.St} {H4 F4 : Hp}, Pst stA st' σ2 ρ H3 Fi H4 F4 → Back ρ H1 (lentF st1 σ (allPl st1.v.length) H1 F1) H4 F4 st'.s ∧ H4 D = some (.lst acc) ∧ F4 D = none := fun {st' H4 F4} P => by
      refine ⟨bA.trans (P.back ownρ), P.stp.keep D _ (leH _ _ hDa) (fun z => nρ (ownρ D z)), ?_⟩
      cases q : F4 D with
      | none => rfl
      | some u =>
        rcases P.stp.new D u _ q hFD (leH _ _ hDa) with z | ⟨ob, xs, z⟩
        · exact absurd (ownρ D z) nρ
        · cases z
    rcases hF with ⟨stB, ys, st3, d1, s3, rest', h1, h2, hno, h3, h4, h5⟩ | ⟨stB, h1, h2⟩
    · refine hc s0 H0 C cl' fp stA σ2 H3 Fi ρ _ _ relA h1 PX.ok fun tt st' e' H4 F4 P4 => ?_
      cases e'
      rw [if_pos rfl]
      intro s1 H01 C1 cl1 fp1
      refine hi1 s1 H01 C1 cl1 fp1 _ M.ret stB σ2 H4 F4 ρ _ _ P4.rel (by rw [bind_ret]; exact h2) PX.ok fun ys' st3' J1 H5 F5 P5 wd1 hk5 => ?_
      have hk5 := ret_inv hk5
      cases hk5
      obtain ⟨b5, hD5, hF5⟩ := step (P4.trans P5)
      let Pi : Nat → Hp → Prop := fun j H => ∃ Fj sj acc dacc drest, Back ρ H1 (lentF st1 σ (allPl st1.v.length) H1 F1) H Fj sj ∧ Le F5 Fj ∧ H D = some (.lst acc) ∧ Fj D = none ∧ RpL Fj acc dacc ∧ noMutL dacc = true ∧
        compF tg1 (wipeS st3.v (tgtIs tg1)) (evC cf cond1) ((evE cf elt).bind keep) (ys.drop j) sj = some (drest, s3) ∧ dacc ++ (drest ++ rest') = dsE
      refine ⟨fun j m H => m = ys.length - j ∧ j ≤ ys.length ∧ Pi j H, ⟨ys.length, by simp, Nat.zero_le _, F5, st3.s, acc, dacc, d1, b5, Le.refl _, hD5, hF5, rs.mono (P4.trans P5).stp.fle, nm, h3, by rw [← h4]; exact hE⟩, ?_⟩
      rintro j mj H6 ⟨rfl, hjl, Fj, sj, accj, daccj, drest, bj, lej, hDj, hFj, rsj, nmj, hFc, hEj⟩
      have Gj : Le F5 H6 := lej.trans bj.fh
      by_cases hjt : j < ys.length
      · refine .inr ⟨wd1.goes j H6 hjt Gj, Pi (j + 1), fun H' p' => ⟨ys.length - (j + 1), by omega, rfl, hjt, p'⟩, fun xv1 H7 yy1 => ?_⟩
        obtain ⟨dj, hdj, ivj⟩ := wd1.yields j H6 xv1 H7 hjt Gj yy1
        have hdropj : ys.drop j = dj :: ys.drop (j + 1) := by
          obtain ⟨h1, h2⟩ := List.getElem?_eq_some_iff.mp hdj
          rw [← h2]
          exact List.drop_eq_getElem_cons h1
        rw [hdropj] at hFc
        obtain ⟨stC, hputj, hFc⟩ := compF_cons hFc
        have irel := in_rel (is := tgtIs tg1) P5.rel hno lej bj.fh bj.sto
        refine tgt_ok irel lej hm1 ivj hputj fun σ3 relC leHC newHC ownC kC lC sC => ⟨wipe_same lC kC, fun s0 H0 C cl' fp => ?_⟩
        have ownρC : ∀ q, OwnS stC.v σ3 ρ q → q ∈ ρ := fun q h => (ownC q h).elim id fun ⟨j', c, e, _⟩ => by
          exfalso
          rw [wipeS_at] at e
          split at e
          · cases q : st3.v[j']? with
            | none => rw [q] at e; cases e
            | some x => rw [q] at e; cases e
          · exact no_own hno e
        have bC : Back ρ H1 (lentF st1 σ (allPl st1.v.length) H1 F1) H7 Fj sj := by
          refine ⟨?_, relC.fh, ⟨bj.stp.fle, fun a o h n => leHC _ _ (bj.stp.keep a o h n), bj.stp.new⟩⟩
          have := relC.sto
          rw [sC] at this
          exact this
        have stepC : ∀ {st' : MP.St} {H8 F8 : Hp}, Pst stC st' σ3 ρ H7 Fj H8 F8 → Back ρ H1 (lentF st1 σ (allPl st1.v.length) H1 F1) H8 F8 st'.s ∧ H8 D = some (.lst accj) ∧ F8 D = none := fun {st' H8 F8} P => by
          refine ⟨bC.trans (P.back ownρC), P.stp.keep D _ (leHC _ _ hDj) (fun z => nρ (ownρC D z)), ?_⟩
          cases q : F8 D with
          | none => rfl
          | some u =>
            rcases P.stp.new D u _ q hFj (leHC _ _ hDj) with z | ⟨ob, xs, z⟩
            · exact absurd (ownρC D z) nρ
            · cases z
        rcases hFc with ⟨stD, dd, stE, rest2, g1, g2, g3, g4, g5⟩ | ⟨stD, g1, g2⟩
        · refine hc1 s0 H0 C cl' fp stC σ3 H7 Fj ρ _ _ relC g1 PX.ok fun tt st' e' H8 F8 P8 => ?_
          cases e'
          rw [if_pos rfl]
          intro s2 H02 C2 cl2 fp2
          rcases bind_inv g2 with ⟨_, _, _, z⟩ | ⟨w, stE', g6, g7⟩
          · cases z
          refine (he s2 H02 C2 cl2 fp2).kept P8.rel g6 g7 fun y H9 F9 P9 ry => ?_
          obtain ⟨bb, b1, b2⟩ := stepC (P8.trans P9)
          have hacc : accj.length = daccj.length := rsj.length
          refine ⟨accj, b1, ?_, F9, stE.s, accj ++ [y], daccj ++ [dd], rest2, bb.putD hD b2 nρ, lej.trans (P8.trans P9).stp.fle, upd_same, b2, (rsj.mono (P8.trans P9).stp.fle).append (.cons ry .nil), noMutL_snoc nmj g3, g5, ?_⟩
          · rw [hacc]
            have := congrArg List.length hEj
            rw [g4] at this
            simp only [List.length_append, List.length_cons] at this
            exact lim_lt (by omega)
          · rw [← hEj, g4, List.append_assoc]
            rfl
        · refine hc1 s0 H0 C cl' fp stC σ3 H7 Fj ρ _ _ relC g1 PX.ok fun tt st' e' H8 F8 P8 => ?_
          cases e'
          rw [if_neg Bool.false_ne_true]
          obtain ⟨bb, b1, b2⟩ := stepC P8
          exact ⟨F8, stD.s, accj, daccj, drest, bb, lej.trans P8.stp.fle, b1, b2, rsj.mono P8.stp.fle, nmj, g2, hEj⟩
      · have ej : j = ys.length := by omega
        subst ej
        rw [List.drop_length] at hFc
        cases hFc
        exact .inl ⟨wd1.stops H6 Gj, Fj, _, accj, daccj, rest', bj, hDj, hFj, rsj, nmj, h5, by simpa using hEj⟩
    · refine hc s0 H0 C cl' fp stA σ2 H3 Fi ρ _ _ relA h1 PX.ok fun tt st' e' H4 F4 P4 => ?_
      cases e'
      rw [if_neg Bool.false_ne_true]
      obtain ⟨bb, b1, b2⟩ := step P4
      exact ⟨F4, stB.s, acc, dacc, rest, bb, b1, b2, rs.mono P4.stp.fle, nm, h2, hE⟩
  · have ek : k = ds.length := by omega
    subst ek
    refine .inl ⟨wd.stops H2 G, ?_⟩
    rw [List.drop_length] at hF
    cases hF
    rw [List.append_nil] at hE
    subst hE
    obtain ⟨F2, p2, lt, le2⟩ := back_lent rel1 b
    have P := p1.trans p2
    have hF2 : F2 D = none := by
      cases q : F2 D with
      | none => rfl
      | some u => rw [le2 _ _ q] at hFD; cases hFD
    refine fin _ _ hr (.ref D) H2 F2 P ⟨D, rfl, ⟨acc, hDa, rs.monoT lt nm⟩, hF2, nown⟩ ?_
    exact Fresh.back (w := .fr (.lst dacc)) p1 fun q e => by
      cases e
      exact .inl hD
omit [WI] in
theorem own_snd2 (N : List Str) (tg tg1 : Tgt) : (ownOf N tg ++ ownOf N tg1).map (·.2) = tgtIs tg ++ tgtIs tg1 := by
  rw [List.map_append, own_snd, own_snd]
theorem se_comp2 {m m1 : Bool} {elt : Ex} {tg tg1 : Tgt} {it it1 : MP.It} {cond cond1 : Exo} {x t i t1 i1 : Expr} {ifs ifs1 : List Expr} {scope : Scope} {p : Pos} (ok : Ok X cf W cl tb) (hb : blkC X.N X.env.scope scope (ownOf X.N tg ++ ownOf X.N tg1) = true) (ht : chkT (ownC scope) X.N (relS scope X.env.scope) tg t = true) (ht1 : chkT (ownC scope) X.N (relS scope X.env.scope) tg1 t1 = true)
    (hm : m = true → isMany tg = true) (hm1 : m1 = true → isMany tg1 = true) (hbi : badE i = false) (hbi1 : badE i1 = false) (hi : SI m X cf W cl it t i) (hi1 : ∀ (s : Shared) (H : Hp) (C : Addr) (cl' : List (Str × Addr)) (fp : List Addr), SI m1 (X.blk s H scope (compEnvC scope cl' C X.env) fp) cf W0 cl it1 t1 i1)
    (hc : ∀ (s : Shared) (H : Hp) (C : Addr) (cl' : List (Str × Addr)) (fp : List Addr), SCo (X.blk s H scope (compEnvC scope cl' C X.env) fp) cf W0 cl cond ifs)
    (hc1 : ∀ (s : Shared) (H : Hp) (C : Addr) (cl' : List (Str × Addr)) (fp : List Addr), SCo (X.blk s H scope (compEnvC scope cl' C X.env) fp) cf W0 cl cond1 ifs1)
    (he : ∀ (s : Shared) (H : Hp) (C : Addr) (cl' : List (Str × Addr)) (fp : List Addr), SE (X.blk s H scope (compEnvC scope cl' C X.env) fp) cf W0 cl elt x) : SE X cf W cl (.comp2 elt tg it cond tg1 it1 cond1) (.ListComp x [⟨t, i, ifs, 0⟩, ⟨t1, i1, ifs1, 0⟩] scope p) := fun st σ H F ρ r Q rel hk hx fin => by
  have pe := pe_lc2 (pos := p) (vs1 := tgtIs tg1) ok.calm ok.nd (pi_self (X := X) (tg := t) (iter := i)) (blkOk_by hb) (fun j hj => by rw [own_snd2]; exact List.mem_append_right _ hj) (blk_pg ok ht) (blk_pts (ifs := ifs)) (blk_pi (t := t1) (i := i1)) (blk_pg ok ht1) (blk_pts (ifs := ifs1)) (blk_pe (x := x)) (folded_not_set hbi _) (fun env => folded_not_set hbi1 env)
  rw [own_snd2] at pe
  exact tE_of pe (comp2_core hm hm1 hi hi1 hc hc1 he rel hk hx fin)
end
end MP
set_option maxHeartbeats 2000000
/-! MPr: the evaluator is right about every expression that the check lets pass. -/
namespace MP
open PySem L2 PySem.Spec PyProof.Rows
variable [WI]
def isBoolE : Expr → Bool
  | .BoolOp _ _ _ => true
  | _ => false
structure S3 (X : Cx) (cf : CallF) (W : WX) (cl : Str → Addr) (ir : Ex) (x : Expr) : Prop where
  e : SE X cf W cl ir x
  t : ST X cf W cl ir x
  w : isBoolE x = true → SW X cf W cl ir x
section
variable {X : Cx} {cf : CallF} {W : WX} {cl : Str → Addr} {tb : Tb}
theorem S3.of {ir : Ex} {e : Expr} (h : SE X cf W cl ir e) (he : ∀ whole, isTrue e X.env whole = (do let v ← whole; standAt e.pos; holding [v] (truthy v))) (hb : isBoolE e = false) : S3 X cf W cl ir e := ⟨h, .of h he, fun z => by rw [hb] at z; cases z⟩
theorem S3.two {ir : Ex} {e : Expr} (h : SE X cf W cl ir e) (ht : ST X cf W cl ir e) (hb : isBoolE e = false) : S3 X cf W cl ir e := ⟨h, ht, fun z => by rw [hb] at z; cases z⟩
omit [WI] in
theorem many_tuple {blk : Str → Bool} {N : List Str} {sc : Scope} {tg : Tgt} {t : Expr} (h : chkT blk N sc tg t = true) (hm : isMany tg = true) : ∃ es k p, t = .Tuple es k p := by
  cases tg with
  | one i => cases hm
  | many is =>
    cases t <;> first | (exact Bool.noConfusion (show false = true from h)) | skip
    exact ⟨_, _, _, rfl⟩
structure SIok (X : Cx) (cf : CallF) (W : WX) (cl : Str → Addr) (tg : Tgt) (it : MP.It) (t e : Expr) (n : Bool) : Prop where
  m : n = true → isMany tg = true
  b : badE e = false
  s : SI n X cf W cl it t e
def mOf : MP.It → Bool
  | .enum _ => true
  | .zip _ _ => true
  | _ => false
omit [WI] in
theorem mOf_many {N : List Str} {tb : Tb} {sc : Scope} {tg : Tgt} {it : MP.It} {e : Expr} (h : chkI N tb sc tg it e = true) : mOf it = true → isMany tg = true := fun hm => by
  cases it with
  | enum a =>
    simp only [chkI] at h
    split at h
    · obtain ⟨h, _⟩ := and2 h
      obtain ⟨h, _⟩ := and2 h
      exact (and2 h).1
    · cases h
  | zip a b =>
    simp only [chkI] at h
    split at h
    · obtain ⟨h, _⟩ := and2 h
      obtain ⟨h, _⟩ := and2 h
      obtain ⟨h, _⟩ := and2 h
      exact (and2 h).1
    · cases h
  | over a => cases hm
  | rng1 a => cases hm
  | rng2 a b => cases hm
  | keys a => cases hm
  | keysT a => exact Bool.noConfusion (show false = true by simpa only [chkI] using h)
omit [WI] in
theorem chkI_good {N : List Str} {tb : Tb} {sc : Scope} {tg : Tgt} {it : MP.It} {e : Expr} (h : chkI N tb sc tg it e = true) : badE e = false := by
  cases it with
  | over a => exact chk_good (show chkE N tb sc a e = true from h)
  | keys a => exact chk_good (show chkE N tb sc a e = true from h)
  | keysT a => exact Bool.noConfusion (show false = true by simpa only [chkI] using h)
  | enum a =>
    simp only [chkI] at h
    split at h
    · rename_i he
      obtain ⟨p0, p, rfl⟩ := call1_eq he
      rfl
    · cases h
  | zip a b =>
    simp only [chkI] at h
    split at h
    · rename_i he
      obtain ⟨p0, p, rfl⟩ := call2_eq he
      rfl
    · cases h
  | rng1 a =>
    simp only [chkI] at h
    split at h
    · rename_i he
      obtain ⟨p0, p, rfl⟩ := call1_eq he
      rfl
    · cases h
  | rng2 a b =>
    simp only [chkI] at h
    split at h
    · rename_i he
      obtain ⟨p0, p, rfl⟩ := call2_eq he
      rfl
    · cases h
end
mutual
theorem soundE {cf : CallF} {cl : Str → Addr} {tb : Tb} : ∀ (ir : Ex) {X : Cx} {W : WX} {e : Expr}, Ok X cf W cl tb → chkE X.N tb X.env.scope ir e = true → S3 X cf W cl ir e
  | .var i, X, W, e, ok, h => by
    obtain ⟨x, p, rfl, h1, h2, h3⟩ := chk_var h
    exact .of (se_var h1 h2 h3) (fun _ => rfl) rfl
  | .con d, X, W, e, ok, h => by
    have s := se_con (X := X) (cf := cf) (W := W) (cl := cl) h
    rcases chk_con h with ⟨i, k, p, rfl, rfl⟩ | ⟨i, k, p, rfl, rfl⟩ | ⟨k, p, rfl, rfl⟩ | ⟨i, k, p, rfl, rfl⟩
    · exact .of s (fun _ => rfl) rfl
    · exact .of s (fun _ => rfl) rfl
    · exact .of s (fun _ => rfl) rfl
    · exact .of s (fun _ => rfl) rfl
  | .glo x i, X, W, e, ok, h => by
    obtain ⟨p, rfl, h1, h2, h3⟩ := chk_glo h
    exact .of (se_glo ok h1 h2 h3) (fun _ => rfl) rfl
  | .tup es, X, W, e, ok, h => by
    obtain ⟨xs, k, p, rfl, h1, h2⟩ := chk_tup h
    exact .of (se_tup (soundKs es ok h1) h2) (fun _ => rfl) rfl
  | .lst es, X, W, e, ok, h => by
    obtain ⟨xs, p, rfl, h1, h2⟩ := chk_lst h
    exact .of (se_lst (soundKs es ok h1) h2) (fun _ => rfl) rfl
  | .bin o a b, X, W, e, ok, h => by
    obtain ⟨x, y, p, rfl, h1, h2⟩ := chk_bin h
    exact .of (se_bin (soundE a ok h1).e (soundE b ok h2).e) (fun _ => rfl) rfl
  | .neg a, X, W, e, ok, h => by
    obtain ⟨x, p, rfl, h1⟩ := chk_neg h
    exact .of (se_neg (soundE a ok h1).e) (fun _ => rfl) rfl
  | .cmp o a b, X, W, e, ok, h => by
    obtain ⟨x, y, p, rfl, h1, h2⟩ := chk_cmp h
    exact .two (se_cmp ok (chk_good h2) (soundE a ok h1).e (soundE b ok h2).e) (st_cmp ok (chk_good h2) (soundE a ok h1).e (soundE b ok h2).e) rfl
  | .chain o o2 a b c, X, W, e, ok, h => by
    obtain ⟨x, y, z, p, rfl, h1, h2, h3⟩ := chk_chain h
    exact .two (se_chain ok (chk_good h3) (soundE a ok h1).e (soundE b ok h2).e (soundE c ok h3).e) (st_chain ok (chk_good h3) (soundE a ok h1).e (soundE b ok h2).e (soundE c ok h3).e) rfl
  | .and a b, X, W, e, ok, h => by
    obtain ⟨x, y, r, p, rfl, h1, h2⟩ := chk_and h
    have sb := soundE b ok h2
    have w := sw_and (p := p) (soundE a ok h1).t (sb.w rfl)
    exact ⟨se_and (soundE a ok h1).e sb.e, .ofW w, fun _ => w⟩
  | .or a b, X, W, e, ok, h => by
    obtain ⟨x, y, r, p, rfl, h1, h2⟩ := chk_or h
    have sb := soundE b ok h2
    have w := sw_or (p := p) (soundE a ok h1).t (sb.w rfl)
    exact ⟨se_or (soundE a ok h1).e sb.e, .ofW w, fun _ => w⟩
  | .one a, X, W, e, ok, h => by
    obtain ⟨o, x, p, rfl, h1⟩ := chk_one h
    have w := sw_one (o := o) (p := p) (soundE a ok h1).t
    exact ⟨se_one (soundE a ok h1).e, .ofW w, fun _ => w⟩
  | .not a, X, W, e, ok, h => by
    obtain ⟨x, p, rfl, h1⟩ := chk_not h
    exact .two (se_not (soundE a ok h1).e) (st_not (soundE a ok h1).t) rfl
  | .ifx c a b, X, W, e, ok, h => by
    obtain ⟨z, x, y, p, rfl, h1, h2, h3⟩ := chk_ifx h
    exact .two (se_ifx (soundE c ok h1).t (soundE a ok h2).e (soundE b ok h3).e) (st_ifx (soundE c ok h1).t (soundE a ok h2).t (soundE b ok h3).t) rfl
  | .idx a b, X, W, e, ok, h => by
    obtain ⟨x, y, p, rfl, h1, h2⟩ := chk_idx h
    exact .of (se_idx ok (chk_good h2) (soundE a ok h1).e (soundE b ok h2).e) (fun _ => rfl) rfl
  | .sli a lo hi, X, W, e, ok, h => by
    obtain ⟨x, l, u, p, p2, rfl, h1, h2, h3⟩ := chk_sli h
    exact .of (se_sli (soundE a ok h1).e (soundO lo ok h2) (soundO hi ok h3)) (fun _ => rfl) rfl
  | .rev a, X, W, e, ok, h => by
    obtain ⟨x, k, p1, p2, p3, p, rfl, h1⟩ := chk_rev h
    exact .of (se_rev (soundE a ok h1).e) (fun _ => rfl) rfl
  | .call f a es, X, W, e, ok, h => by
    obtain ⟨x, xs, p0, p, rfl, h1, h2, h3, h4, h5⟩ := chk_call h
    exact .of (se_call ok h1 h2 h3 (chk_good h4) (soundE a ok h4).e (soundAs es ok h5) fun pos => (star_none h5).1) (fun _ => rfl) rfl
  | .blt f a, X, W, e, ok, h => by
    obtain ⟨x, p0, p, rfl, h1, h2⟩ := chk_blt h
    exact .of (se_blt ok h1 (chk_good h2) (soundE a ok h2).e) (fun _ => rfl) rfl
  | .lens a, X, W, e, ok, h => by
    obtain ⟨x, p0, p1, p2, p, rfl, h1, h2, h3⟩ := chk_lens h
    exact .of (se_lens ok h1 h2 (chk_good h3) (soundE a ok h3).e) (fun _ => rfl) rfl
  | .trg1 b, X, W, e, ok, h => by
    obtain ⟨y, p0, p1, p2, p, rfl, h1, h2, h3⟩ := chk_trg1 h
    exact .of (se_trg1 ok h1 h2 (chk_good h3) (soundE b ok h3).e) (fun _ => rfl) rfl
  | .trg2 a b, X, W, e, ok, h => by
    obtain ⟨x, y, p0, p1, p2, p, rfl, h1, h2, h3, h4⟩ := chk_trg2 h
    exact .of (se_trg2 ok h1 h2 (chk_good h3) (chk_good h4) (soundE a ok h3).e (soundE b ok h4).e) (fun _ => rfl) rfl
  | .isi a ts, X, W, e, ok, h => by
    obtain ⟨x, t, p0, p, rfl, h1, h2, h3⟩ := chk_isi h
    exact .of (se_isi ok h1 (chk_good h3) h2 (soundE a ok h3).e) (fun _ => rfl) rfl
  | .mth m o es, X, W, e, ok, h => by
    obtain ⟨x, xs, apos, p, rfl, h1, h2, h3, h4⟩ := chk_mth h
    cases es with
    | nil =>
      cases xs with
      | nil => exact .of (se_mth0 ok h1 (attr_base h2) (soundE o ok h2.1).e) (fun _ => rfl) rfl
      | cons y ys => exact Bool.noConfusion (show false = true from h3)
    | cons a es =>
      cases xs with
      | nil => exact Bool.noConfusion (show false = true from h3)
      | cons y ys =>
        exact .of (se_mth1 ok h1 (attr_base h2) (chk_good (chkEs_cons h3).1) h4 (fun pos => (star_none h3).2) (fun pos => (star_none (chkEs_cons h3).2).1) (soundE o ok h2.1).e (soundKs (.cons a es) ok h3)) (fun _ => rfl) rfl
  | .comp elt tg it cond, X, W, e, ok, h => by
    obtain ⟨x, t, i, ifs, scope, p, rfl, h1, h2, h3, h4, h5⟩ := chk_comp h
    have hi := soundI it ok (many_tuple h2) h3
    exact .of (se_comp ok h1 h2 hi.m hi.b hi.s (fun s H C cl' fp => soundC cond (X := X.blk s H scope (compEnvC scope cl' C X.env) fp) ok.blk h5) (fun s H C cl' fp => (soundE elt (X := X.blk s H scope (compEnvC scope cl' C X.env) fp) ok.blk h4).e)) (fun _ => rfl) rfl
  | .comp2 elt tg it cond tg1 it1 cond1, X, W, e, ok, h => by
    obtain ⟨x, t, i, ifs, t1, i1, ifs1, scope, p, rfl, h1, h2, h3, h4, h5, h6, h7, h8⟩ := chk_comp2 h
    have hi := soundI it ok (many_tuple h2) h3
    exact .of (se_comp2 ok h1 h2 h6 hi.m (mOf_many h7) hi.b (chkI_good h7) hi.s (fun s H C cl' fp => (soundI it1 (X := X.blk s H scope (compEnvC scope cl' C X.env) fp) ok.blk (many_tuple h6) h7).s) (fun s H C cl' fp => soundC cond (X := X.blk s H scope (compEnvC scope cl' C X.env) fp) ok.blk h5) (fun s H C cl' fp => soundC cond1 (X := X.blk s H scope (compEnvC scope cl' C X.env) fp) ok.blk h8)
      (fun s H C cl' fp => (soundE elt (X := X.blk s H scope (compEnvC scope cl' C X.env) fp) ok.blk h4).e)) (fun _ => rfl) rfl
  | .dnew, X, W, e, ok, h => by
    obtain ⟨p, rfl⟩ := chk_dnew h
    exact .of se_dnew (fun _ => rfl) rfl
  | .dis a b, X, W, e, ok, h => by
    obtain ⟨x, y, p, rfl, h1, h2⟩ := chk_dis h
    exact .of (se_dis (soundE a ok h1).e (soundE b ok h2).e) (fun _ => rfl) rfl
  | .disT a b, X, W, e, ok, h => by
    obtain ⟨x, y, p, rfl, h1, h2⟩ := chk_disT h
    exact .of (se_disT ok (soundE a ok h1).e (soundE b ok h2).e) (fun _ => rfl) rfl
  | .mm2 mx a b, X, W, e, ok, h => by
    obtain ⟨x, y, p0, p, rfl, h1, h2, h3⟩ := chk_mm2 h
    exact .of (se_mm2 ok h1 (chk_good h2) (chk_good h3) (soundE a ok h2).e (soundE b ok h3).e) (fun _ => rfl) rfl
  | .call0 f, X, W, e, ok, h => by
    obtain ⟨p0, p, rfl, h1, h2, h3⟩ := chk_call0 h
    exact .of (se_call0 ok h1 h2 h3) (fun _ => rfl) rfl
  | .srtT a, X, W, e, ok, h => by
    obtain ⟨x, p0, p, rfl, h1, h2⟩ := chk_srtT h
    exact .of (se_srtT ok h1 (chk_good h2) (soundE a ok h2).e) (fun _ => rfl) rfl
  | .srtS a, X, W, e, ok, h => by
    obtain ⟨x, p0, p1, p2, p, rfl, h1, h2, h3⟩ := chk_srtS h
    exact .of (se_srtS ok h1 h2 (chk_good h3) (soundE a ok h3).e) (fun _ => rfl) rfl
  | .lzip a b, X, W, e, ok, h => by
    obtain ⟨x, y, p0, p1, p2, p, rfl, h1, h2, h3, h4⟩ := chk_lzip h
    exact .of (se_lzip ok h1 h2 (chk_good h3) (chk_good h4) (soundE a ok h3).e (soundE b ok h4).e) (fun _ => rfl) rfl
  | .srtK a, X, W, e, ok, h => by
    obtain ⟨x, p0, p, rfl, h1, h2⟩ := chk_srtK h
    exact .of (se_srtK ok h1 (chk_good h2) (soundE a ok h2).e) (fun _ => rfl) rfl
  | .lensL a, X, W, e, ok, h => by
    obtain ⟨x, p0, p1, p2, p, rfl, h1, h2, h3⟩ := chk_lensL h
    exact .of (se_lensL ok h1 h2 (chk_good h3) (soundE a ok h3).e) (fun _ => rfl) rfl
  | .trg3 i j k, X, W, e, ok, h => by
    exact Bool.noConfusion (show false = true by simpa only [chkE] using h)
  | .sumV a, X, W, e, ok, h => by
    exact Bool.noConfusion (show false = true by simpa only [chkE] using h)
  | .sumT a, X, W, e, ok, h => by
    exact Bool.noConfusion (show false = true by simpa only [chkE] using h)
  | .dmax a, X, W, e, ok, h => by
    exact Bool.noConfusion (show false = true by simpa only [chkE] using h)
  | .neD a b, X, W, e, ok, h => by
    exact Bool.noConfusion (show false = true by simpa only [chkE] using h)
  | .srtK2 a, X, W, e, ok, h => by
    exact Bool.noConfusion (show false = true by simpa only [chkE] using h)
theorem soundO {cf : CallF} {cl : Str → Addr} {tb : Tb} : ∀ (ir : Exo) {X : Cx} {W : WX} {e : Option Expr}, Ok X cf W cl tb → chkO X.N tb X.env.scope ir e = true → SO X cf W cl ir e
  | .no, X, W, e, ok, h => by
    cases e with
    | none => exact so_no
    | some x => exact Bool.noConfusion (show false = true from h)
  | .yes a, X, W, e, ok, h => by
    cases e with
    | none => exact Bool.noConfusion (show false = true from h)
    | some x => exact so_yes (soundE a ok h).e
theorem soundC {cf : CallF} {cl : Str → Addr} {tb : Tb} : ∀ (ir : Exo) {X : Cx} {W : WX} {es : List Expr}, Ok X cf W cl tb → chkC X.N tb X.env.scope ir es = true → SCo X cf W cl ir es
  | .no, X, W, es, ok, h => by
    cases es with
    | nil => exact sc_no
    | cons x xs => exact Bool.noConfusion (show false = true from h)
  | .yes a, X, W, es, ok, h => by
    cases es with
    | nil => exact Bool.noConfusion (show false = true from h)
    | cons x xs =>
      cases xs with
      | nil => exact sc_yes (soundE a ok h).t
      | cons y ys => exact Bool.noConfusion (show false = true from h)
theorem soundKs {cf : CallF} {cl : Str → Addr} {tb : Tb} : ∀ (ir : Exs) {X : Cx} {W : WX} {es : List Expr}, Ok X cf W cl tb → chkEs X.N tb X.env.scope ir es = true → SKs X cf W cl ir es
  | .nil, X, W, es, ok, h => by
    cases es with
    | nil => exact sk_nil
    | cons x xs => exact Bool.noConfusion (show false = true from h)
  | .cons a as, X, W, es, ok, h => by
    cases es with
    | nil => exact Bool.noConfusion (show false = true from h)
    | cons x xs =>
      obtain ⟨h1, h2⟩ := chkEs_cons h
      exact sk_cons (chk_good h1) (soundE a ok h1).e (soundKs as ok h2)
theorem soundAs {cf : CallF} {cl : Str → Addr} {tb : Tb} : ∀ (ir : Exs) {X : Cx} {W : WX} {es : List Expr}, Ok X cf W cl tb → chkEs X.N tb X.env.scope ir es = true → SAs X cf W cl ir es
  | .nil, X, W, es, ok, h => by
    cases es with
    | nil => exact sa_nil
    | cons x xs => exact Bool.noConfusion (show false = true from h)
  | .cons a as, X, W, es, ok, h => by
    cases es with
    | nil => exact Bool.noConfusion (show false = true from h)
    | cons x xs =>
      obtain ⟨h1, h2⟩ := chkEs_cons h
      exact sa_cons (chk_good h1) (soundE a ok h1).e (soundAs as ok h2)
theorem soundI {cf : CallF} {cl : Str → Addr} {tb : Tb} {tg : Tgt} {t : Expr} : ∀ (it : MP.It) {X : Cx} {W : WX} {e : Expr}, Ok X cf W cl tb → (isMany tg = true → ∃ es k p, t = .Tuple es k p) → chkI X.N tb X.env.scope tg it e = true → SIok X cf W cl tg it t e (mOf it)
  | .over a, X, W, e, ok, ht, h => ⟨(fun z => by cases z), chk_good h, si_over (soundE a ok h).e⟩
  | .rng1 b, X, W, e, ok, ht, h => by
    simp only [chkI] at h
    split at h
    · rename_i g y he
      obtain ⟨p0, p, rfl⟩ := call1_eq he
      obtain ⟨h, h3⟩ := and2 h
      obtain ⟨h1, h2⟩ := and2 h
      cases beq_iff_eq.mp h1
      exact ⟨(fun z => by cases z), rfl, si_rng1 ok h2 (chk_good h3) (soundE b ok h3).e⟩
    · cases h
  | .rng2 a b, X, W, e, ok, ht, h => by
    simp only [chkI] at h
    split at h
    · rename_i g x y he
      obtain ⟨p0, p, rfl⟩ := call2_eq he
      obtain ⟨h, h4⟩ := and2 h
      obtain ⟨h, h3⟩ := and2 h
      obtain ⟨h1, h2⟩ := and2 h
      cases beq_iff_eq.mp h1
      exact ⟨(fun z => by cases z), rfl, si_rng2 ok h2 (chk_good h3) (chk_good h4) (soundE a ok h3).e (soundE b ok h4).e⟩
    · cases h
  | .enum a, X, W, e, ok, ht, h => by
    simp only [chkI] at h
    split at h
    · rename_i g x he
      obtain ⟨p0, p, rfl⟩ := call1_eq he
      obtain ⟨h, h4⟩ := and2 h
      obtain ⟨h, h3⟩ := and2 h
      obtain ⟨h1, h2⟩ := and2 h
      cases beq_iff_eq.mp h2
      obtain ⟨es, k, pp, rfl⟩ := ht h1
      exact ⟨fun _ => h1, rfl, si_enum ok h3 (chk_good h4) (soundE a ok h4).e⟩
    · cases h
  | .zip a b, X, W, e, ok, ht, h => by
    simp only [chkI] at h
    split at h
    · rename_i g x y he
      obtain ⟨p0, p, rfl⟩ := call2_eq he
      obtain ⟨h, h5⟩ := and2 h
      obtain ⟨h, h4⟩ := and2 h
      obtain ⟨h, h3⟩ := and2 h
      obtain ⟨h1, h2⟩ := and2 h
      cases beq_iff_eq.mp h2
      obtain ⟨es, k, pp, rfl⟩ := ht h1
      exact ⟨fun _ => h1, rfl, si_zip ok h3 (chk_good h4) (chk_good h5) (soundE a ok h4).e (soundE b ok h5).e⟩
    · cases h
  | .keys a, X, W, e, ok, ht, h => ⟨(fun z => by cases z), chk_good h, si_keys (soundE a ok h).e⟩
  | .keysT a, X, W, e, ok, ht, h => Bool.noConfusion (show false = true by simpa only [chkI] using h)
end
end MP
set_option maxHeartbeats 2000000
/-! MPs: statements: where values are laid. -/
namespace MP
open PySem L2 PySem.Spec PyProof.Rows
variable [WI]
/-! ### which stores are swapped -/
omit [WI] in
theorem blk_fun {env : Env} (hk : env.scope.kind = .function) : env.blockKind = .function := by
  unfold Env.blockKind
  rw [hk]
  rfl
omit [WI] in
theorem swp_of {sc : Scope} {ts vs : List Expr} {k k2 : Nat} {p p2 : Pos} {env : Env} (he : env.scope = sc) (hk : env.scope.kind = .function) {b : Bool} (h : swpB sc ts vs = some b) :
    swappedStores [.Tuple ts k p] (.Tuple vs k2 p2) env = pure (if b = true then some (swpN sc ts) else none) := by
  subst he
  have hb := blk_fun hk
  unfold swpB at h
  unfold swappedStores
  simp only [hb]
  split at h
  · rename_i c
    cases h
    have : (!(ts.length == 2 || ts.length == 3) || vs.length != ts.length || ScopeKind.function != ScopeKind.function) = true := by
      rw [c]
      rfl
    rw [if_pos this]
    rfl
  · rename_i c
    have c1 : ¬ (!(ts.length == 2 || ts.length == 3) || vs.length != ts.length || ScopeKind.function != ScopeKind.function) = true := by
      have : (ScopeKind.function != ScopeKind.function) = false := rfl
      rw [this, Bool.or_false]
      exact c
    refine (if_neg c1).trans ?_
    split at h
    · rename_i c
      cases h
      exact if_pos c
    · rename_i c
      refine (if_neg c).trans ?_
      split at h
      · rename_i c
        cases h
        exact if_pos c
      · rename_i c
        refine (if_neg c).trans ?_
        split at h
        · rename_i c
          cases h
          exact if_pos c
        · rename_i c
          refine (if_neg c).trans ?_
          split at h
          · cases h
          · rename_i c
            cases h
            exact if_neg c

/-! ### what several expressions give, each to be laid somewhere -/
section
variable {st : MP.St} {σ : L2.St} {H F : Hp} {ρ : List Addr}
/-- no new object of these is at p -/
def NotFr (p : Addr) (vs : List V) (ws : List MP.W) : Prop := ∀ (k : Nat) (c : Cell), ws[k]? = some (.fr c) → vs[k]? ≠ some (.ref p)
inductive RWp (st : MP.St) (σ : L2.St) (H F : Hp) (ρ : List Addr) : List V → List MP.W → Prop
  | nil : RWp st σ H F ρ [] []
  | cons {v : V} {vs : List V} {w : MP.W} {ws : List MP.W} : RW st σ H F ρ v w → (∀ c p, w = .fr c → v = .ref p → NotFr p vs ws) → RWp st σ H F ρ vs ws → RWp st σ H F ρ (v :: vs) (w :: ws)
theorem RWp.length : ∀ {vs : List V} {ws : List MP.W}, RWp st σ H F ρ vs ws → vs.length = ws.length
  | _, _, .nil => rfl
  | _, _, .cons _ _ r => congrArg (· + 1) r.length
theorem RWp.get : ∀ {vs : List V} {ws : List MP.W} {k : Nat} {w : MP.W} {v : V}, RWp st σ H F ρ vs ws → ws[k]? = some w → vs[k]? = some v → RW st σ H F ρ v w
  | _, _, _, _, _, .nil, e, _ => by simp at e
  | _, _, 0, _, _, .cons r _ _, e, e2 => by
    cases e
    cases e2
    exact r
  | _, _, k + 1, _, _, .cons _ _ rs, e, e2 => RWp.get (k := k) rs (by simpa using e) (by simpa using e2)
/-- a value that is to be laid: its slot -/
def NotOw (p : Addr) (vs : List V) (as : List Slot) : Prop := ∀ (k : Nat) (c : Cell), as[k]? = some (.own c) → vs[k]? ≠ some (.ref p)
inductive PO (v : List Slot) (σ : L2.St) (H F : Hp) (ρ : List Addr) : List V → List Slot → Prop
  | nil : PO v σ H F ρ [] []
  | cons {x : V} {xs : List V} {a : Slot} {as : List Slot} : SlotOk F H ρ (some (some x)) a → (∀ c p, a = .own c → x = .ref p → ¬ OwnS v σ ρ p ∧ NotOw p xs as) → PO v σ H F ρ xs as → PO v σ H F ρ (x :: xs) (a :: as)
theorem PO.length {v : List Slot} : ∀ {vs : List V} {as : List Slot}, PO v σ H F ρ vs as → vs.length = as.length
  | _, _, .nil => rfl
  | _, _, .cons _ _ r => congrArg (· + 1) r.length
theorem takes_ok : ∀ {vs : List V} {ws : List MP.W} {st st2 : MP.St} {as : List Slot}, Rel st σ H F ρ → RWp st σ H F ρ vs ws → takes ws st = some (.ok as st2) →
    Rel st2 σ H F ρ ∧ PO st2.v σ H F ρ vs as ∧ (∀ q, OwnS st2.v σ ρ q → OwnS st.v σ ρ q) ∧ ∀ (k : Nat) (c : Cell) (p : Addr), as[k]? = some (.own c) → vs[k]? = some (.ref p) → OwnS st.v σ ρ p ∨ ∃ c', ws[k]? = some (.fr c')
  | _, _, st, st2, as, rel, .nil, h => by
    cases h
    exact ⟨rel, .nil, fun _ h => h, fun k c p e => by simp at e⟩
  | _, _, st, st2, as, rel, @RWp.cons _ _ _ _ _ _ v vs w ws r n rs, h => by
    rcases bind_inv (show M.bind (take w) (fun a => M.bind (takes ws) fun as => M.ret (a :: as)) st = some (.ok as st2) from h) with ⟨_, _, _, z⟩ | ⟨a, st1, h1, h⟩
    · cases z
    rcases bind_inv h with ⟨_, _, _, z⟩ | ⟨as', st2', h2, h3⟩
    · cases z
    cases h3
    -- the state behind the first
    have step : Rel st1 σ H F ρ ∧ SlotOk F H ρ (some (some v)) a ∧ (∀ q, OwnS st1.v σ ρ q → OwnS st.v σ ρ q) ∧ ∀ c p, a = .own c → v = .ref p → ¬ OwnS st1.v σ ρ p ∧ (OwnS st.v σ ρ p ∨ ∃ c', w = .fr c') := by
      unfold take at h1
      split at h1
      · cases h1
        exact ⟨rel, ⟨v, rfl, r⟩, fun _ h => h, fun c p z => by cases z⟩
      · cases h1
        obtain ⟨b, e1, e2⟩ := r
        exact ⟨rel, ⟨b, e1, by rw [e2]⟩, fun _ h => h, fun c p z => by cases z⟩
      · rename_i c
        cases h1
        obtain ⟨p, e1, e2, e3, e4⟩ := r
        subst e1
        exact ⟨rel, ⟨p, rfl, e2, e3, fun z => e4 (.inl z)⟩, fun _ h => h, fun c' p' z z' => by
          cases z'
          exact ⟨e4, .inr ⟨c, rfl⟩⟩⟩
      · rename_i j
        have r : σ[j]? = some (some v) := r
        split at h1
        · rename_i c hc
          cases h1
          obtain ⟨p, e1, e2, e3, e4⟩ := rel.slot j _ hc
          rw [r] at e1
          cases e1
          refine ⟨rel.slotSet True.intro (fun c z => by cases z), ⟨p, rfl, e2, e3, e4⟩, (fun q h => OwnS.set_sub (fun c z => by cases z) h), fun c' p' z z' => ?_⟩
          cases z'
          exact ⟨OwnS.gone (c := c) (fun k c' e e' => rel.inj j k c c' _ hc e r e') e4 (fun c z => by cases z), .inl (.inr ⟨j, c, hc, r⟩)⟩
        · rename_i x hx
          cases h1
          obtain ⟨u, e1, e2⟩ := rel.slot j _ hx
          rw [r] at e1
          cases e1
          exact ⟨rel, ⟨_, rfl, e2⟩, fun _ h => h, fun c p z => by cases z⟩
        · cases h1
    obtain ⟨rel1, sok, sub1, own1⟩ := step
    have mono : ∀ {vs : List V} {ws : List MP.W}, RWp st σ H F ρ vs ws → RWp st1 σ H F ρ vs ws := by
      intro vs ws h
      induction h with
      | nil => exact .nil
      | @cons v vs w ws r n rs ih =>
        refine .cons ?_ n ih
        cases w with
        | d x => exact r
        | loc m => exact r
        | pl i => exact r
        | fr c =>
          obtain ⟨p, e1, e2, e3, e4⟩ := r
          exact ⟨p, e1, e2, e3, fun z => e4 (sub1 p z)⟩
    obtain ⟨rel2, po, sub2, own2⟩ := takes_ok rel1 (mono rs) h2
    refine ⟨rel2, .cons sok (fun c p e1 e2 => ?_) po, fun q h => sub1 q (sub2 q h), fun k c p e1 e2 => ?_⟩
    · obtain ⟨k1, k2⟩ := own1 c p e1 e2
      refine ⟨fun z => k1 (sub2 p z), fun k c' e3 e4 => ?_⟩
      rcases own2 k c' p e3 e4 with z | ⟨c2, z⟩
      · exact k1 z
      · rcases k2 with y | ⟨c3, y⟩
        · obtain ⟨p', e5, _, _, e6⟩ := rs.get z e4
          cases e5
          exact e6 y
        · exact n c3 p y e2 k c2 z e4
    · cases k with
      | zero =>
        have e1 : a = .own c := by simpa using e1
        have e2 : v = .ref p := by simpa using e2
        exact (own1 c p e1 e2).2.imp id fun ⟨c', z⟩ => ⟨c', by rw [z]; rfl⟩
      | succ k =>
        rcases own2 k c p (by simpa using e1) (by simpa using e2) with z | z
        · exact .inl (sub1 p z)
        · exact .inr (by simpa using z)
/-- σ with the slots is of the values vs -/
def setAll (σ : L2.St) : List Nat → List V → L2.St
  | i :: is, v :: vs => setAll (σ.set i (some v)) is vs
  | _, _ => σ
theorem putOwn_ok : ∀ {is : List Nat} {vs : List V} {as : List Slot} {st st2 : MP.St} {σ : L2.St}, Rel st σ H F ρ → PO st.v σ H F ρ vs as → putSlots is as st = some (.ok () st2) →
    Rel st2 (setAll σ is vs) H F ρ ∧ is.length = vs.length ∧ ∀ q, OwnS st2.v (setAll σ is vs) ρ q → OwnS st.v σ ρ q ∨ ∃ (k : Nat) (c : Cell), as[k]? = some (.own c) ∧ vs[k]? = some (.ref q)
  | [], _, _, st, st2, σ, rel, .nil, h => by
    cases h
    exact ⟨rel, rfl, fun q h => .inl h⟩
  | [], _, _, st, st2, σ, rel, .cons _ _ _, h => by cases h
  | _ :: _, _, _, st, st2, σ, rel, .nil, h => by cases h
  | i :: is, _, _, st, st2, σ, rel, @PO.cons _ _ _ _ _ _ x xs a as sok n po, h => by
    rcases bind_inv (show M.bind (putSlot i a) (fun _ => putSlots is as) st = some (.ok () st2) from h) with ⟨_, _, _, z⟩ | ⟨_, st1, h1, h2⟩
    · cases z
    unfold putSlot at h1
    split at h1
    · rename_i hi
      cases h1
      have rel1 : Rel { st with v := st.v.set i a } (σ.set i (some x)) H F ρ := rel.asg sok fun c p e1 e2 j c' e3 e4 => absurd (.inr ⟨j, c', e3, e4⟩) (n c p e1 e2).1
      have own1 : ∀ q, OwnS (st.v.set i a) (σ.set i (some x)) ρ q → OwnS st.v σ ρ q ∨ ∃ c, a = .own c ∧ x = .ref q := fun q h => by
        rcases h with h | ⟨j, c, e, e'⟩
        · exact .inl (.inl h)
        · rcases getElem?_set_cases e with ⟨rfl, z, _⟩ | ⟨nj, e⟩
          · rw [List.getElem?_set_self (by rw [rel.len]; exact hi)] at e'
            exact .inr ⟨c, z.symm, Option.some.inj (Option.some.inj e')⟩
          · rw [List.getElem?_set_ne (fun z => nj z.symm)] at e'
            exact .inl (.inr ⟨j, c, e, e'⟩)
      have mono : ∀ {xs' : List V} {as' : List Slot}, (∀ (k : Nat) (c : Cell) (p : Addr), as'[k]? = some (Slot.own c) → xs'[k]? = some (V.ref p) → as[k]? = some (Slot.own c) ∧ xs[k]? = some (V.ref p) ∨ ∃ k' : Nat, as[k']? = some (Slot.own c) ∧ xs[k']? = some (V.ref p)) → PO st.v σ H F ρ xs' as' → PO (st.v.set i a) (σ.set i (some x)) H F ρ xs' as' := by
        intro xs' as' sub h
        induction h with
        | nil => exact .nil
        | @cons y ys b bs sb nb pb ih =>
          refine .cons sb (fun c p e1 e2 => ?_) (ih fun k c p e1 e2 => ?_)
          · obtain ⟨k1, k2⟩ := nb c p e1 e2
            refine ⟨fun z => ?_, k2⟩
            rcases own1 p z with z | ⟨c', z1, z2⟩
            · exact k1 z
            · rcases sub 0 c p (by rw [e1]; rfl) (by rw [e2]; rfl) with ⟨y1, y2⟩ | ⟨k', y1, y2⟩
              · exact (n c' p z1 z2).2 _ _ y1 y2
              · exact (n c' p z1 z2).2 _ _ y1 y2
          · rcases sub (k + 1) c p (by simpa using e1) (by simpa using e2) with ⟨y1, y2⟩ | y
            · exact .inr ⟨_, y1, y2⟩
            · exact .inr y
      obtain ⟨rel2, hl, own2⟩ := putOwn_ok rel1 (mono (fun k c p e1 e2 => .inl ⟨e1, e2⟩) po) h2
      refine ⟨rel2, by rw [List.length_cons, List.length_cons, hl], fun q h => ?_⟩
      rcases own2 q h with z | ⟨k, c, z1, z2⟩
      · rcases own1 q z with z | ⟨c, z1, z2⟩
        · exact .inl z
        · exact .inr ⟨0, c, by rw [z1]; rfl, by rw [z2]; rfl⟩
      · exact .inr ⟨k + 1, c, by simpa using z1, by simpa using z2⟩
    · cases h1
end
/-- behind a statement -/
structure Sst (st st' : MP.St) (σ σ' : L2.St) (ρ : List Addr) (H F H' F' : Hp) : Prop where
  rel : Rel st' σ' H' F' ρ
  stp : Stp (OwnS st.v σ ρ) H F H' F'
  sub : OwnSub H (OwnS st.v σ ρ) (OwnS st'.v σ' ρ)
  len : σ'.length = σ.length
omit [WI] in
theorem setAll_length : ∀ (σ : L2.St) (is : List Nat) (vs : List V), (setAll σ is vs).length = σ.length
  | σ, [], _ => rfl
  | σ, _ :: _, [] => rfl
  | σ, i :: is, v :: vs => by
    show (setAll (σ.set i (some v)) is vs).length = _
    rw [setAll_length, List.length_set]
theorem Sst.refl {st : MP.St} {σ : L2.St} {ρ : List Addr} {H F : Hp} (r : Rel st σ H F ρ) : Sst st st σ σ ρ H F H F := ⟨r, Stp.refl, OwnSub.refl, rfl⟩
theorem Sst.trans {st st1 st2 : MP.St} {σ σ1 σ2 : L2.St} {ρ : List Addr} {H F H1 F1 H2 F2 : Hp} (a : Sst st st1 σ σ1 ρ H F H1 F1) (b : Sst st1 st2 σ1 σ2 ρ H1 F1 H2 F2) : Sst st st2 σ σ2 ρ H F H2 F2 :=
  ⟨b.rel, a.stp.trans a.sub b.stp, a.sub.trans a.stp.keep b.sub, b.len.trans a.len⟩
theorem Pst.s {st st' : MP.St} {σ : L2.St} {ρ : List Addr} {H F H' F' : Hp} (p : Pst st st' σ ρ H F H' F') : Sst st st' σ σ ρ H F H' F' := ⟨p.rel, p.stp, p.sub, rfl⟩
def FreshL (st : MP.St) (σ : L2.St) (ρ : List Addr) (H : Hp) (vs : List V) (ws : List MP.W) : Prop := ∀ (k : Nat) (v : V) (w : MP.W), vs[k]? = some v → ws[k]? = some w → Fresh st σ ρ H v w
/-- values laid into slots -/
theorem lay_ok {st0 st st1 st2 : MP.St} {σ : L2.St} {ρ : List Addr} {H0 F0 H F : Hp} {vs : List V} {ws : List MP.W} {as : List Slot} {is : List Nat} (P : Pst st0 st σ ρ H0 F0 H F) (rw' : RWp st σ H F ρ vs ws) (fr : FreshL st0 σ ρ H0 vs ws)
    (h1 : takes ws st = some (.ok as st1)) (h2 : putSlots is as st1 = some (.ok () st2)) : Sst st0 st2 σ (setAll σ is vs) ρ H0 F0 H F ∧ is.length = vs.length := by
  obtain ⟨rel1, po, sub1, own1⟩ := takes_ok P.rel rw' h1
  obtain ⟨rel2, hl, own2⟩ := putOwn_ok rel1 po h2
  refine ⟨⟨rel2, P.stp, fun q h => ?_, setAll_length ..⟩, hl⟩
  rcases own2 q h with z | ⟨k, c, z1, z2⟩
  · exact P.sub q (sub1 q z)
  · rcases own1 k c q z1 z2 with z | ⟨c', z⟩
    · exact P.sub q z
    · exact (fr k _ _ z2 z q rfl).symm
end MP
set_option maxHeartbeats 2000000
/-! MPt: the evaluator is right about every statement that the check lets pass. -/
namespace MP
open PySem L2 PySem.Spec PyProof.Rows
variable [WI]
structure Fk (X : Cx) : Prop where
  kind : X.env.scope.kind = .function
  fn : ∀ y, X.fn y = true
  pass : PassesOwn (model X.prog X.w) X.A X.env X.xe
/-- what is handed back -/
def RV (own : Addr → Prop) (H F' H' : Hp) (ρ : List Addr) (v : V) : CW → Prop
  | .d x => Rp F' v x
  | .fr c => ∃ p, v = .ref p ∧ Cel F' H' p c ∧ F' p = none ∧ p ∉ ρ ∧ (H p = none ∨ own p)
structure Rts (st st' : MP.St) (σ : L2.St) (ρ : List Addr) (H F H' F' : Hp) (v : V) (w : CW) : Prop where
  sto : RelS F' H' ρ st'.s
  fh : Le F' H'
  stp : Stp (OwnS st.v σ ρ) H F H' F'
  val : RV (OwnS st.v σ ρ) H F' H' ρ v w
theorem Rts.back {st st1 st' : MP.St} {σ σ1 : L2.St} {ρ : List Addr} {H F H1 F1 H' F' : Hp} {v : V} {w : CW} (s : Sst st st1 σ σ1 ρ H F H1 F1) (r : Rts st1 st' σ1 ρ H1 F1 H' F' v w) : Rts st st' σ ρ H F H' F' v w := by
  refine ⟨r.sto, r.fh, s.stp.trans s.sub r.stp, ?_⟩
  have q := r.val
  cases w with
  | d x => exact q
  | fr c =>
    obtain ⟨p, e1, e2, e3, e4, e5⟩ := q
    refine ⟨p, e1, e2, e3, e4, ?_⟩
    rcases e5 with z | z
    · by_cases ho : OwnS st.v σ ρ p
      · exact .inr ho
      · cases y : H p with
        | none => exact .inl rfl
        | some o => rw [s.stp.keep p o y ho] at z; cases z
    · exact (s.sub p z).symm
/-- what is wanted of a statement's ends -/
structure Wd (W : WX) (cl : Str → Addr) (st : MP.St) (σ : L2.St) (ρ : List Addr) (H F : Hp) (r : R Fl) (D : Ends) : Prop where
  nx : ∀ st', r = .ok .nx st' → ∀ σ' H' F', Sst st st' σ σ' ρ H F H' F' → D.nx σ' H'
  bk : ∀ st', r = .ok .brk st' → ∀ σ' H' F', Sst st st' σ σ' ρ H F H' F' → D.bk σ' H'
  rt : ∀ w st', r = .ok (.ret w) st' → ∀ v H' F', Rts st st' σ ρ H F H' F' v w → D.rt v H'
  px : ∀ c st', r = .exc c st' → ∀ σ' H' F', Sst st st' σ σ' ρ H F H' F' → W (.ref (cl c)) none σ' H'
section
variable {X : Cx} {cf : CallF} {W : WX} {cl : Str → Addr} {tb : Tb} {st st1 : MP.St} {σ σ1 : L2.St} {ρ : List Addr} {H F H1 F1 : Hp} {r : R Fl} {D : Ends}
theorem Wd.step (w : Wd W cl st σ ρ H F r D) (s : Sst st st1 σ σ1 ρ H F H1 F1) : Wd W cl st1 σ1 ρ H1 F1 r D :=
  ⟨fun st' e σ' H' F' s' => w.nx st' e σ' H' F' (s.trans s'), fun st' e σ' H' F' s' => w.bk st' e σ' H' F' (s.trans s'), fun x st' e v H' F' s' => w.rt x st' e v H' F' (s'.back s), fun c st' e σ' H' F' s' => w.px c st' e σ' H' F' (s.trans s')⟩
theorem Wd.x (w : Wd W cl st σ ρ H F r D) : PX W cl st σ ρ H F r := fun c st' e H' F' p => w.px c st' e σ H' F' p.s
theorem Wd.next (w : Wd W cl st σ ρ H F r D) {st' : MP.St} {σ' : L2.St} {H' F' : Hp} (h : M.ret Fl.nx st' = some r) (s : Sst st st' σ σ' ρ H F H' F') : D.nx σ' H' := w.nx st' (ret_inv h) σ' H' F' s
def SS (X : Cx) (cf : CallF) (W : WX) (cl : Str → Addr) (ir : Sm) (x : Stmt) : Prop := ∀ (st : MP.St) (σ : L2.St) (H F : Hp) (ρ : List Addr) (r : R Fl) (D : Ends), Rel st σ H F ρ → exS cf ir st = some r → Wd W cl st σ ρ H F r D → tSt X x D σ H
def SB (X : Cx) (cf : CallF) (W : WX) (cl : Str → Addr) (ir : Sms) (xs : List Stmt) : Prop := ∀ (st : MP.St) (σ : L2.St) (H F : Hp) (ρ : List Addr) (r : R Fl) (D : Ends), Rel st σ H F ρ → exB cf ir st = some r → Wd W cl st σ ρ H F r D → tSs X xs D σ H

/-! ### name = value -/
/-- an expression's transformer, right about what the evaluator says -/
def TR (cf : CallF) (W : WX) (cl : Str → Addr) (T : TE) (ir : Ex) (st : MP.St) (σ : L2.St) (H F : Hp) (ρ : List Addr) : Prop := ∀ (r : R MP.W) (Q : VK), evE cf ir st = some r → PX W cl st σ ρ H F r → (∀ w st', r = .ok w st' → ∀ v H' F', Pst st st' σ ρ H F H' F' → RW st' σ H' F' ρ v w → Fresh st σ ρ H v w → Q v H') → T σ H Q
theorem asg_fin {T : TE} {i : Nat} {e : Ex} (hT : TR cf W cl T e st σ H F ρ) (hk : exS cf (.asg i e) st = some r) (wd : Wd W cl st σ ρ H F r D) : T σ H fun x H1 => D.nx (σ.set i (some x)) H1 := by
  have hk : M.bind (evE cf e) (fun w => M.bind (take w) fun a => M.bind (putSlot i a) fun _ => M.ret Fl.nx) st = some r := hk
  rcases bind_inv hk with ⟨c, s', h1, h2⟩ | ⟨w, st1, h1, hk⟩
  · exact hT _ _ h1 (wd.x.exc h2) fun w st' z => by cases z
  · refine hT _ _ h1 PX.ok fun w' st' z v H' F' p rw' fr => ?_
    cases z
    rcases bind_inv hk with ⟨c, s', h3, h4⟩ | ⟨a, st2, h3, hk⟩
    · exfalso
      unfold take at h3
      split at h3
      · cases h3
      · cases h3
      · cases h3
      · split at h3 <;> cases h3
    · rcases bind_inv hk with ⟨c, s', h5, h6⟩ | ⟨_, st3, h5, hk⟩
      · obtain ⟨_, z⟩ := putSlot_inv h5
        cases z
      · have t1 : takes [w] st1 = some (.ok [a] st2) := by
          show M.bind (take w) (fun a => M.bind (M.ret []) fun as => M.ret (a :: as)) st1 = _
          unfold M.bind
          rw [h3]
          rfl
        have t2 : putSlots [i] [a] st2 = some (.ok () st3) := by
          show M.bind (putSlot i a) (fun _ => M.ret ()) st2 = _
          unfold M.bind
          rw [h5]
          rfl
        obtain ⟨s, _⟩ := lay_ok (is := [i]) p (.cons rw' (fun c p _ _ k c' e => by simp at e) .nil) (fun k v' w' e1 e2 => by
          cases k with
          | zero => cases e1; cases e2; exact fr
          | succ k => simp at e1) t1 t2
        exact wd.next hk s
omit [WI] in
theorem sw_eq {env : Env} (hk : env.scope.kind = .function) {e : Expr} (hb : badE e = false) {x : Str} {px : Pos} {l : Nat} : swapsWith e (some (.Name x px)) l env = pure (swB env.scope x px e) := by
  cases e <;> first | rfl | (exact Bool.noConfusion (show true = false from hb)) | skip
  rename_i el gs scope pos
  unfold swapsWith swB
  have hb := blk_fun hk
  have he : env.kindOf x = env.scope.names.lookup x := rfl
  simp only [hb, he, Expr.pos]
  have e1 : (ScopeKind.function == ScopeKind.function) = true := rfl
  rw [e1, Bool.true_and]
  cases env.scope.names.lookup x with
  | none => rfl
  | some k => cases k <;> rfl
theorem ss_asg {i : Nat} {e : Ex} {x : Str} {px pos : Pos} {v : Expr} (ok : Ok X cf W cl tb) (fk : Fk X) (hN : X.N[i]? = some x) (hl : locB allC X.env.scope x = true) (hv : chkE X.N tb X.env.scope e v = true) : SS X cf W cl (.asg i e) (.Assign [.Name x px] v pos) := by
  intro st σ H F ρ r D rel hk wd
  obtain ⟨h3, h4⟩ := loc_of hl (fun y _ => fk.fn y)
  have se := soundE e ok hv
  cases hs : swB X.env.scope x px v with
  | false =>
    refine tS_of (ps_set ok.nd hN h3 pe_self (by rw [sw_eq fk.kind (chk_good hv), hs]) h4) ?_
    exact asg_fin (T := tE X v) (fun r Q h1 hx fin => se.e st σ H F ρ r Q rel h1 hx fin) hk wd
  | true =>
    cases v <;> first | (exact Bool.noConfusion (show false = true from hs)) | skip
    rename_i el gs scope p2
    obtain ⟨hs, s3⟩ := and2 (show ((match X.env.scope.names.lookup x with | some .local => true | _ => false) && (px.line == p2.line) && !(scope.names.any fun (n, k) => n == x && (k == .local || k == .cell))) = true from hs)
    obtain ⟨s1, s2⟩ := and2 hs
    have s1 : X.env.scope.names.lookup x = some .local := by
      split at s1
      · assumption
      · cases s1
    have s3 : (scope.names.any fun (n, k) => n == x && (k == .local || k == .cell)) = false := by simpa using s3
    have hc : (∃ elt tg it cond, e = .comp elt tg it cond) ∨ ∃ elt tg it cond tg1 it1 cond1, e = .comp2 elt tg it cond tg1 it1 cond1 := by
      cases e <;> first | exact .inl ⟨_, _, _, _, rfl⟩ | exact .inr ⟨_, _, _, _, _, _, _, rfl⟩ | (exact Bool.noConfusion (show false = true from hv)) | skip
      rename_i d
      cases d <;> exact Bool.noConfusion (show false = true from hv)
    rcases hc with ⟨elt, tg, it, cond, rfl⟩ | ⟨elt, tg, it, cond, tg1, it1, cond1, rfl⟩
    · obtain ⟨x', t, i', ifs, scope', p', e1, h1, h2, h3', h4', h5⟩ := chk_comp hv
      cases e1
      have hi := soundI it ok (many_tuple h2) h3' (W := W)
      refine tS_of (ps_setLc ok.calm ok.nd hN s1 (sw_true fk.kind s1 s2 s3) pi_self (blkOk_by h1) (blk_pg ok h2) blk_pts blk_pe (folded_not_set hi.b _)) ?_
      refine asg_fin (T := tLc _ _ _ _ _) (fun r Q h6 hx fin => ?_) hk wd
      exact comp_core hi.m hi.s (fun s H C cl' fp => soundC cond (X := X.blk s H scope (compEnvC scope cl' C X.env) fp) ok.blk h5) (fun s H C cl' fp => (soundE elt (X := X.blk s H scope (compEnvC scope cl' C X.env) fp) ok.blk h4').e) rel h6 hx fin
    · obtain ⟨x', t, i', ifs, t1, i1, ifs1, scope', p', e1, h1, h2, h3', h4', h5, h6, h7, h8⟩ := chk_comp2 hv
      cases e1
      have hi := soundI it ok (many_tuple h2) h3' (W := W)
      have ps := ps_setLc2 (i := i) (py := px) (pos := p2) (spos := pos) (vs1 := tgtIs tg1) ok.calm ok.nd hN s1 (sw_true fk.kind s1 s2 s3) (pi_self (X := X) (tg := t) (iter := i')) (blkOk_by h1) (fun j hj => by rw [own_snd2]; exact List.mem_append_right _ hj) (blk_pg ok h2) (blk_pts (ifs := ifs)) (blk_pi (t := t1) (i := i1)) (blk_pg ok h6) (blk_pts (ifs := ifs1)) (blk_pe (x := el)) (folded_not_set hi.b _) (fun env => folded_not_set (chkI_good h7) env)
      rw [own_snd2] at ps
      refine tS_of ps ?_
      refine asg_fin (T := tLc2 _ _ _ _ _ _ _ _ _) (fun r Q h9 hx fin => ?_) hk wd
      exact comp2_core hi.m (mOf_many h7) hi.s (fun s H C cl' fp => (soundI it1 (X := X.blk s H scope (compEnvC scope cl' C X.env) fp) ok.blk (many_tuple h6) h7).s) (fun s H C cl' fp => soundC cond (X := X.blk s H scope (compEnvC scope cl' C X.env) fp) ok.blk h5) (fun s H C cl' fp => soundC cond1 (X := X.blk s H scope (compEnvC scope cl' C X.env) fp) ok.blk h8)
        (fun s H C cl' fp => (soundE elt (X := X.blk s H scope (compEnvC scope cl' C X.env) fp) ok.blk h4').e) rel h9 hx fin

/-! ### other values that are laid -/
omit [WI] in
theorem not_comp_sw {e : Expr} (h : isComp e = false) {t : Option Expr} {l : Nat} {env : Env} : swapsWith e t l env = pure false := by
  cases e <;> first | rfl | (exact Bool.noConfusion (show true = false from h))
omit [WI] in
theorem not_tup_sw {e t : Expr} (h : isTup e = false) {env : Env} : swappedStores [t] e env = pure none := by
  cases t <;> cases e <;> first | rfl | (exact Bool.noConfusion (show true = false from h))
theorem ss_asgT {is : List Nat} {e : Ex} {xs : List Expr} {k : Nat} {pt pos : Pos} {v : Expr} (ok : Ok X cf W cl tb) (fk : Fk X) (h1 : isTup v = false) (h2 : isComp v = false) (h3 : chkNs allC X.N X.env.scope is xs = true) (he : SE X cf W cl e v) : SS X cf W cl (.asgT is e) (.Assign [.Tuple xs k pt] v pos) := by
  intro st σ H F ρ r D rel hk wd
  refine tS_of (ps_asg pe_self (pg_T (tg := .many is) ok.calm ok.nd (fun y _ => fk.fn y) h3) (show swapsWith v (some (.Tuple xs k pt)) pos.line X.env = pure false from not_comp_sw h2) (not_tup_sw h1)) ?_
  have hk : M.bind (evE cf e) (fun w => M.bind (keep w) fun d => M.bind (putTgt (.many is) d) fun _ => M.ret Fl.nx) st = some r := hk
  refine he.one rel hk wd.x fun w1 st1 v1 H1 F1 p1 r1 f1 hk => ?_
  obtain ⟨d, st2, h4, hk⟩ := keep_bind hk
  obtain ⟨F2, p2, rp⟩ := keep_ok p1 r1 f1 h4
  rcases bind_inv hk with ⟨c, s', h5, h6⟩ | ⟨_, st3, h5, hk⟩
  · obtain ⟨_, z⟩ := putTgt_inv h5
    cases z
  · refine tgt_ok (m := false) p2.rel (Le.refl _) (fun z => by cases z) (.val rfl rp) h5 fun σ2 rel2 _ _ own2 _ l2 _ => ?_
    exact wd.next hk ⟨rel2, p2.stp, fun q h => p2.sub q (own2 q h), l2⟩
/-- several expressions, their values not yet laid -/
def SEs (X : Cx) (cf : CallF) (W : WX) (cl : Str → Addr) (es : Exs) (xs : List Expr) : Prop := ∀ (β : Type) (k : List MP.W → M β) (st : MP.St) (σ : L2.St) (H F : Hp) (ρ : List Addr) (r : R β) (Q : List V → Hp → Prop), Rel st σ H F ρ → M.bind (evEs cf es) k st = some r → PX W cl st σ ρ H F r →
  (∀ ws st1 vs H1 F1, Pst st st1 σ ρ H F H1 F1 → RWp st1 σ H1 F1 ρ vs ws → FreshL st σ ρ H vs ws → vs.length = xs.length → k ws st1 = some r → Q vs H1) → tA X xs σ H Q
theorem RWp.step {st st' : MP.St} {σ : L2.St} {H F H' F' : Hp} {ρ : List Addr} (p : Pst st st' σ ρ H F H' F') : ∀ {vs : List V} {ws : List MP.W}, RWp st σ H F ρ vs ws → RWp st' σ H' F' ρ vs ws
  | _, _, .nil => .nil
  | _, _, .cons r n rs => .cons (r.step p) n (RWp.step p rs)
theorem ses_nil : SEs X cf W cl .nil [] := fun β k st σ H F ρ r Q rel hk hx fin => tA_of pa_nil (fin [] st [] H F (Pst.refl rel) .nil (fun k v w e => by simp at e) rfl hk)
theorem ses_cons {a : Ex} {es : Exs} {x : Expr} {xs : List Expr} (hb : badE x = false) (ha : SE X cf W cl a x) (hs : SEs X cf W cl es xs) : SEs X cf W cl (.cons a es) (x :: xs) := fun β k st σ H F ρ r Q rel hk hx fin => by
  refine tA_of (pa_cons pe_self pa_self (star_cons hb)) ?_
  show tE X x σ H fun v H1 => tA X xs σ H1 fun vs H2 => Q (v :: vs) H2
  have hk : M.bind (M.bind (evE cf a) fun w => M.bind (evEs cf es) fun ws => M.ret (w :: ws)) k st = some r := hk
  rw [bind_assoc] at hk
  refine ha.one rel hk hx fun w st1 v H1 F1 p rw' fr hk => ?_
  rw [bind_assoc] at hk
  refine hs _ _ _ _ _ _ _ _ _ p.rel hk (hx.step p) fun ws st3 vs H3 F3 p3 rs frs hl hk => ?_
  refine fin (w :: ws) st3 (v :: vs) H3 F3 (p.trans p3) (.cons (rw'.step p3) (fun c q e1 e2 k c' e3 e4 => ?_) rs) (fun k v' w' e1 e2 => ?_) (by simp [hl]) hk
  · subst e1 e2
    obtain ⟨q', e5, e6, e7, e8⟩ := rw'
    cases e5
    obtain ⟨o, ho, _⟩ := e6.there
    rcases frs k _ _ e4 e3 q rfl with z | z
    · rw [ho] at z; cases z
    · exact e8 z
  · cases k with
    | zero => cases e1; cases e2; exact fr
    | succ k => exact Fresh.back p (frs k v' w' (by simpa using e1) (by simpa using e2))
theorem soundEs (ok : Ok X cf W cl tb) : ∀ {es : Exs} {xs : List Expr}, chkEs X.N tb X.env.scope es xs = true → SEs X cf W cl es xs
  | .nil, [], _ => ses_nil
  | .nil, _ :: _, h => Bool.noConfusion (show false = true from h)
  | .cons _ _, [], h => Bool.noConfusion (show false = true from h)
  | .cons a as, x :: xs, h => ses_cons (chk_good (chkEs_cons h).1) (soundE a ok (chkEs_cons h).1).e (soundEs ok (chkEs_cons h).2)
omit [WI] in
theorem gMany_of : ∀ {is : List Nat} {vs : List V} {σ : L2.St} {H : Hp} {Q : L2.St → Hp → Prop}, is.length = vs.length → Q (setAll σ is vs) H → gMany is vs σ H Q
  | [], [], _, _, _, _, q => ⟨rfl, q⟩
  | [], _ :: _, _, _, _, h, _ => by cases h
  | _ :: _, [], _, _, _, h, _ => by cases h
  | i :: is, v :: vs, _, _, _, h, q => ⟨v, vs, rfl, gMany_of (by simpa using h) q⟩
omit [WI] in
theorem takes_inv : ∀ {ws : List MP.W} {st : MP.St} {r : R (List Slot)}, takes ws st = some r → ∃ as st', r = .ok as st'
  | [], st, r, h => ⟨_, _, (Option.some.inj h).symm⟩
  | w :: ws, st, r, h => by
    rcases bind_inv (show M.bind (take w) (fun a => M.bind (takes ws) fun as => M.ret (a :: as)) st = some r from h) with ⟨c, s', h3, h4⟩ | ⟨a, st2, h3, hk⟩
    · exfalso
      unfold take at h3
      split at h3
      · cases h3
      · cases h3
      · cases h3
      · split at h3 <;> cases h3
    · rcases bind_inv hk with ⟨c, s', h5, _⟩ | ⟨as, st3, _, hk⟩
      · obtain ⟨_, _, z⟩ := takes_inv h5
        cases z
      · exact ⟨_, _, ret_inv hk⟩
theorem RWp.lens {vs : List V} {ws : List MP.W} (h : RWp st σ H F ρ vs ws) : vs.length = ws.length := h.length
omit [WI] in
theorem names_are {blk : Str → Bool} {N : List Str} {sc : Scope} : ∀ {is : List Nat} {xs : List Expr}, chkNs blk N sc is xs = true → is.length = xs.length
  | [], [], _ => rfl
  | [], _ :: _, h => Bool.noConfusion (show false = true from h)
  | _ :: _, [], h => Bool.noConfusion (show false = true from h)
  | _ :: _, _ :: _, h => congrArg (· + 1) (names_are (and2 h).2)
omit [WI] in
theorem chkN_inv {blk : Str → Bool} {N : List Str} {sc : Scope} {i : Nat} {e : Expr} (h : chkN blk N sc i e = true) : ∃ x p, e = .Name x p ∧ N[i]? = some x := by
  cases e <;> first | (exact Bool.noConfusion (show false = true from h)) | skip
  exact ⟨_, _, rfl, of_decide_eq_true (and2 h).1⟩
omit [WI] in
theorem allLoc_inv {sc : Scope} {l : Nat} {x : Str} {p : Pos} {es : List Expr} (h : allLoc sc l (.Name x p :: es) = true) : sc.names.lookup x = some .local ∧ p.line = l ∧ allLoc sc l es = true := by
  obtain ⟨h, h3⟩ := and2 (show ((match sc.names.lookup x with | some .local => true | _ => false) && p.line == l && allLoc sc l es) = true from h)
  obtain ⟨h1, h2⟩ := and2 h
  refine ⟨?_, beq_iff_eq.mp h2, h3⟩
  split at h1
  · assumption
  · cases h1
omit [WI] in
theorem two_of {α : Type} {l : List α} (h : l.length = 2) : ∃ a b, l = [a, b] := by
  match l, h with
  | [a, b], _ => exact ⟨a, b, rfl⟩
omit [WI] in
theorem three_of {α : Type} {l : List α} (h : l.length = 3) : ∃ a b c, l = [a, b, c] := by
  match l, h with
  | [a, b, c], _ => exact ⟨a, b, c, rfl⟩
theorem par_fin {is : List Nat} {es : Exs} {xs : List Expr} (hs : SEs X cf W cl es xs) (rel : Rel st σ H F ρ) (hk : exS cf (.par is es) st = some r) (wd : Wd W cl st σ ρ H F r D) {Q : List V → Hp → Prop}
    (fin : ∀ vs H1 F1 st1 ws as st2 st3, Pst st st1 σ ρ H F H1 F1 → RWp st1 σ H1 F1 ρ vs ws → FreshL st σ ρ H vs ws → vs.length = xs.length → takes ws st1 = some (.ok as st2) → putSlots is as st2 = some (.ok () st3) → M.ret Fl.nx st3 = some r → Q vs H1) : tA X xs σ H Q := by
  have hk : M.bind (evEs cf es) (fun ws => M.bind (takes ws) fun as => M.bind (putSlots is as) fun _ => M.ret Fl.nx) st = some r := hk
  refine hs _ _ _ _ _ _ _ _ _ rel hk wd.x fun ws st1 vs H1 F1 p rs frs hl hk => ?_
  rcases bind_inv hk with ⟨c, s', h5, _⟩ | ⟨as, st2, h5, hk⟩
  · obtain ⟨_, _, z⟩ := takes_inv h5
    cases z
  · rcases bind_inv hk with ⟨c, s', h6, _⟩ | ⟨_, st3, h6, hk⟩
    · obtain ⟨_, z⟩ := putSlots_inv h6
      cases z
    · exact fin vs H1 F1 st1 ws as st2 st3 p rs frs hl h5 h6 hk
theorem ss_par {is : List Nat} {es : Exs} {xs vs : List Expr} {k k2 : Nat} {pt p2 pos : Pos} (ok : Ok X cf W cl tb) (fk : Fk X) (h1 : chkNs allC X.N X.env.scope is xs = true) (h2 : chkEs X.N tb X.env.scope es vs = true) (hl : xs.length = vs.length) (nd : is.Nodup) (few : is.length < 1000)
    (hs : (match swpB X.env.scope xs vs with | some true => (decide (xs.length = 2) || decide (xs.length = 3)) && allLoc X.env.scope (lineOf xs) xs | some false => true | none => false) = true) : SS X cf W cl (.par is es) (.Assign [.Tuple xs k pt] (.Tuple vs k2 p2) pos) := by
  intro st σ H F ρ r D rel hk wd
  have ses := soundEs (W := W) (cl := cl) ok h2
  have hil := names_are h1
  cases hw : swpB X.env.scope xs vs with
  | none => rw [hw] at hs; cases hs
  | some b =>
    rw [hw] at hs
    cases b with
    | false =>
      refine tS_of (ps_asg (pe_tup pa_self) (pg_T (tg := .many is) ok.calm ok.nd (fun y _ => fk.fn y) h1) rfl (swp_of rfl fk.kind hw)) ?_
      refine par_fin ses rel hk wd fun us H1 F1 st1 ws as st2 st3 p rs frs hu h5 h6 hk => ⟨lim_line (by unfold LIM; omega), fun t ht => ?_⟩
      have P2 := Pst.newO (o := HO.tup us) p.rel ht
      obtain ⟨s, hs2⟩ := lay_ok (p.trans P2) (rs.step P2) frs h5 h6
      exact ⟨t, us, rfl, .of upd_same, hs2.symm, gMany_of hs2 (wd.next hk s)⟩
    | true =>
      obtain ⟨hs1, hs2⟩ := and2 hs
      have hsw := swp_of (k := k) (k2 := k2) (p := pt) (p2 := p2) rfl fk.kind hw
      rcases Bool.or_eq_true_iff.mp hs1 with z | z
      · have z := of_decide_eq_true z
        obtain ⟨x, y, rfl⟩ := two_of z
        obtain ⟨i, j, rfl⟩ := two_of (hil.trans z)
        obtain ⟨a, b, rfl⟩ := two_of (hl.symm.trans z)
        obtain ⟨c1, h1⟩ := and2 h1
        obtain ⟨c2, _⟩ := and2 h1
        obtain ⟨nx, px, rfl, n1⟩ := chkN_inv c1
        obtain ⟨ny, py, rfl, n2⟩ := chkN_inv c2
        obtain ⟨l1, m1, hs2⟩ := allLoc_inv hs2
        obtain ⟨l2, m2, _⟩ := allLoc_inv hs2
        have e : swpN X.env.scope [.Name nx px, .Name ny py] = [nx, ny] := by
          unfold swpN
          simp only [List.filterMap_cons, List.filterMap_nil, l1, l2, List.head?_cons, Option.map_some, Option.getD_some, Expr.pos]
          have m2 : py.line = px.line := m2
          simp [m2]
        rw [if_pos rfl, e] at hsw
        refine tS_of (ps_par ok.calm ok.nd n1 n2 (by simpa using nd) l1 l2 pa_self hsw rfl) ?_
        refine par_fin ses rel hk wd fun us H1 F1 st1 ws as st2 st3 p rs frs hu h5 h6 hk => ?_
        obtain ⟨s, hs2⟩ := lay_ok p rs frs h5 h6
        match us, hu with
        | [u1, u2], _ => exact ⟨u1, u2, rfl, wd.next hk s⟩
      · have z := of_decide_eq_true z
        obtain ⟨x, y, z', rfl⟩ := three_of z
        obtain ⟨i, j, l, rfl⟩ := three_of (hil.trans z)
        obtain ⟨a, b, c, rfl⟩ := three_of (hl.symm.trans z)
        obtain ⟨c1, h1⟩ := and2 h1
        obtain ⟨c2, h1⟩ := and2 h1
        obtain ⟨c3, _⟩ := and2 h1
        obtain ⟨nx, px, rfl, n1⟩ := chkN_inv c1
        obtain ⟨ny, py, rfl, n2⟩ := chkN_inv c2
        obtain ⟨nz, pz, rfl, n3⟩ := chkN_inv c3
        obtain ⟨l1, m1, hs2⟩ := allLoc_inv hs2
        obtain ⟨l2, m2, hs2⟩ := allLoc_inv hs2
        obtain ⟨l3, m3, _⟩ := allLoc_inv hs2
        have e : swpN X.env.scope [.Name nx px, .Name ny py, .Name nz pz] = [nx, ny, nz] := by
          unfold swpN
          simp only [List.filterMap_cons, List.filterMap_nil, l1, l2, l3, List.head?_cons, Option.map_some, Option.getD_some, Expr.pos]
          have m2 : py.line = px.line := m2
          have m3 : pz.line = px.line := m3
          simp [m2, m3]
        rw [if_pos rfl, e] at hsw
        have nd : (i ≠ j ∧ i ≠ l) ∧ j ≠ l := by simpa using nd
        refine tS_of (ps_par3 ok.calm ok.nd n1 n2 n3 nd.1.1 nd.1.2 nd.2 l1 l2 l3 pa_self hsw rfl) ?_
        refine par_fin ses rel hk wd fun us H1 F1 st1 ws as st2 st3 p rs frs hu h5 h6 hk => ?_
        obtain ⟨s, hs2⟩ := lay_ok p rs frs h5 h6
        match us, hu with
        | [u1, u2, u3], _ => exact ⟨u1, u2, u3, rfl, wd.next hk s⟩
omit [WI] in
theorem setD_inv {c k v : PyData} {c' : Cell} (h : setD c k v = some c') : (∃ xs i j, c = .list xs ∧ k = .int i ∧ ixD xs.length i = some j ∧ c' = .lst (xs.set j v)) ∨ (∃ kvs i, c = .dict kvs ∧ k = .int i ∧ noTup kvs = true ∧ kvs.length < LIM ∧ c' = .dic false (putD kvs (.int i) v)) ∨
    ∃ kvs, c = .dict kvs ∧ isTK k = true ∧ allTK kvs = true ∧ kvs.length < LIM ∧ c' = .dic true (putD kvs k v) := by
  unfold setD at h
  split at h
  · simp only [Option.map_eq_some_iff] at h
    obtain ⟨j, h1, h2⟩ := h
    exact .inl ⟨_, _, j, rfl, rfl, h1, h2.symm⟩
  · split at h
    · rename_i g
      cases h
      exact .inr (.inl ⟨_, _, rfl, rfl, g.1, g.2, rfl⟩)
    · cases h
  · split at h
    · rename_i g
      cases h
      exact .inr (.inr ⟨_, rfl, g.1, g.2.1, g.2.2, rfl⟩)
    · cases h
  · cases h
def rSetT (X : Cx) : TSet := fun o i v H Q => ∃ a b xs k, o = .ref a ∧ i = .ref b ∧ TDm X.w H a xs ∧ KeysOk H xs ∧ NKy H k (.ref b) ∧ k.depth ≤ 8 ∧ xs.length < sizeLine ∧ Q (upd H a (TDO X.w a (MP.putT xs k b v)))
omit [WI] in
theorem set_td {X : Cx} (hu : X.A.units + 64 < cLine) : PSet X (rSetT X) := by
  intro pins s σ H o i v ov iv u Q I ro ri rv h
  obtain ⟨a, b, xs, k, rfl, rfl, e, hk, hb, hd, hl, q⟩ := h
  cases ro
  cases ri
  exact td_setItem (room8 hu) I e hk hb hd hl rv fun s' I' => ⟨_, I', q⟩
def rSetA (X : Cx) : TSet := fun o i v H Q => (rSetL o i v H Q ∨ rSetD o i v H Q) ∨ rSetT X o i v H Q
omit [WI] in
theorem set_any {X : Cx} (hu : X.A.units + 64 < cLine) : PSet X (rSetA X) := by
  intro pins s σ H o i v ov iv u Q I ro ri rv h
  rcases h with (h | h) | h
  · exact set_list pins s σ H o i v ov iv u Q I ro ri rv h
  · exact set_dict (by omega) pins s σ H o i v ov iv u Q I ro ri rv h
  · exact set_td hu pins s σ H o i v ov iv u Q I ro ri rv h
/-- the dict that is written stands as itself, not locked -/
theorem own_dic {kvs : List (PyData × PyData)} {w : MP.W} {v : V} {st' : MP.St} {c' : Cell} (rel : Rel st σ H F ρ) (hw : RW st σ H F ρ v w) (e : st.view w = some (.dict kvs)) (hs : setCell w c' st = some (.ok () st')) : (∃ p ys, v = .ref p ∧ H p = some (.dK ys) ∧ RpK F ys kvs) ∨ ∃ p ys, v = .ref p ∧ H p = some (TDO WI.w p ys) ∧ kvs ≠ [] ∧ RpT F ys kvs := by
  unfold setCell at hs
  split at hs
  · rename_i i
    have hw : σ[i]? = some (some v) := hw
    split at hs
    · rename_i c hc
      have e : (match st.v[i]? with | some (.own c) => some c.d | some (.val d) => some d | _ => none) = some (PyData.dict kvs) := e
      rw [hc] at e
      obtain ⟨p, e1, h2, _⟩ := rel.slot i _ hc
      rw [hw] at e1
      cases e1
      cases c with
      | lst xs => cases e
      | dic k ds =>
        cases e
        cases k with
        | true =>
          obtain ⟨n, ys, g1, g2⟩ := h2
          exact .inr ⟨p, ys, rfl, g1, n, g2⟩
        | false =>
          obtain ⟨ys, g1, g2⟩ := h2
          exact .inl ⟨p, ys, rfl, g1, g2⟩
    · cases hs
  · rename_i n
    obtain ⟨a, h1, rfl⟩ := hw
    have e : st.s[n]?.map Cell.d = some (PyData.dict kvs) := e
    simp only [Option.map_eq_some_iff] at e
    obtain ⟨c, hc, e⟩ := e
    obtain ⟨g, _, g3⟩ := rel.sto.cel n a c h1 hc
    cases c with
    | lst xs => cases e
    | dic k ds => cases g3
  · cases hs
theorem ss_setI {o i e : Ex} {x y v : Expr} {pt pos : Pos} (ok : Ok X cf W cl tb) (h1 : isComp v = false) (hy : badE y = false) (ho : SE X cf W cl o x) (hi : SE X cf W cl i y) (he : SE X cf W cl e v) : SS X cf W cl (.setI o i e) (.Assign [.Subscript x y pt] v pos) := by
  intro st σ H F ρ r D rel hk wd
  have ha : ∀ u, assign (.Subscript x y pt) X.env u = (do
      let ov ← holding [u] (eval x X.env)
      let iv ← holding [u, ov] (eval y X.env)
      standAt pt
      holding [u, ov, iv] (setItem ov iv u)
      release [u, ov, iv] []) := by
    cases y <;> first | (intro _; rfl) | (exact Bool.noConfusion (show true = false from hy))
  have hsw : swappedStores [.Subscript x y pt] v X.env = pure none := by cases v <;> rfl
  refine tS_of (ps_asg pe_self (pg_sub pe_self pe_self (set_any (X := X) (by have := ok.un; omega)) ha) (show swapsWith v (some (.Subscript x y pt)) pos.line X.env = pure false from not_comp_sw h1) hsw) ?_
  have hk : M.bind (evE cf e) (fun w => M.bind (keep w) fun v => M.bind (evE cf o) fun x => M.bind (evE cf i) fun y => M.bind (view x) fun c => M.bind (view y) fun k => M.bind (M.opt (setD c k v)) fun c' => M.bind (setCell x c') fun _ => M.ret Fl.nx) st = some r := hk
  refine he.one rel hk wd.x fun w1 st1 v1 H1 F1 p1 r1 f1 hk => ?_
  obtain ⟨d, st2, h4, hk⟩ := keep_bind hk
  obtain ⟨F2, p2, rp⟩ := keep_ok p1 r1 f1 h4
  refine ho.one p2.rel hk (wd.x.step p2) fun w3 st3 v3 H3 F3 p3 r3 f3 hk => ?_
  have p23 := p2.trans p3
  refine hi.one p3.rel hk (wd.x.step p23) fun w4 st4 v4 H4 F4 p4 r4 f4 hk => ?_
  have p := p23.trans p4
  obtain ⟨c, e1, hk⟩ := view_bind hk
  obtain ⟨kk, e2, hk⟩ := view_bind hk
  obtain ⟨c', h5, hk⟩ := opt_bind hk
  rcases setD_inv h5 with ⟨xs, n, j, e5, e6, h6, e7⟩ | ⟨kvs, n, e5, e6, hnt, h6, e7⟩ | ⟨kvs, e5, hkk, hall, h6, e7⟩
  · rw [e5] at e1
    rw [e6] at e2
    rw [e7] at hk
    rcases bind_inv hk with ⟨_, s', h7, _⟩ | ⟨_, st5, h7, hk⟩
    · obtain ⟨_, z⟩ := setCell_inv h7
      cases z
    · have r3' := r3.step p4
      obtain ⟨a, ys, rfl, hh, rx⟩ := (view_vw p4.rel r3' e1).lst p4.rel.fh
      have rp' : Rp F4 v1 d := rp.mono (p3.trans p4).stp.fle
      refine .inl (.inl ⟨a, ys, n, j, rfl, (view_vw p4.rel r4 e2).int, hh, ?_, ?_⟩)
      · rw [rx.length]
        exact h6
      · exact wd.next hk (p.trans (mut_ok p4.rel r3' h7 (rx.set rp' j))).s
  · rw [e5] at e1
    rw [e6] at e2
    rw [e7] at hk
    rcases bind_inv hk with ⟨_, s', h7, _⟩ | ⟨_, st5, h7, hk⟩
    · obtain ⟨_, z⟩ := setCell_inv h7
      cases z
    · have r3' := r3.step p4
      rcases own_dic p4.rel r3' e1 h7 with ⟨a, ys, rfl, hh, rx⟩ | ⟨a, ys, rfl, hh, hne, rx⟩
      case inr =>
        rw [(rx.noInts hne).1] at hnt
        cases hnt
      have rp' : Rp F4 v1 d := rp.mono (p3.trans p4).stp.fle
      rw [(view_vw p4.rel r4 e2).int]
      refine .inl (.inr ⟨a, _, rfl, DPut.k (k := .inl n) hh (by rw [rx.length]; exact lim_lt h6), ?_⟩)
      exact wd.next hk (p.trans (mut_okC p4.rel r3' h7 fun H' e => ⟨_, e, rx.put rp'⟩)).s
  · rw [e5] at e1
    rw [e7] at hk
    rcases bind_inv hk with ⟨_, s', h7, _⟩ | ⟨_, st5, h7, hk2⟩
    · obtain ⟨_, z⟩ := setCell_inv h7
      cases z
    · have r3' := r3.step p4
      have rp' : Rp F4 v1 d := rp.mono (p3.trans p4).stp.fle
      have vk := view_vw p4.rel r4 e2
      obtain ⟨ds, rfl⟩ := (isTK_inv hkk).2.2
      obtain ⟨b, ob, zs, rfl, hb, fb, hn', ry⟩ := vk.tup p4.rel.fh
      have rk : Rp F4 (.ref b) (.tuple ds) := .tup fb hn' ry
      have nk := (Rp.nky rk (isTK_inv hkk).1).mono p4.rel.fh
      have hput : putD kvs (.tuple ds) d ≠ [] := by
        unfold putD
        split
        · rename_i g
          intro z
          rw [List.map_eq_nil_iff.mp z] at g
          cases g
        · intro z
          have := congrArg List.length z
          simp at this
      rcases own_dic p4.rel r3' e1 h7 with ⟨a, ys, rfl, hh, rx⟩ | ⟨a, ys, rfl, hh, hne, rx⟩
      · obtain ⟨e8, e9⟩ := rx.allTK hall
        subst e8
        subst e9
        refine .inr ⟨a, b, [], keyN (.tuple ds), rfl, rfl, .inr ⟨rfl, hh⟩, fun x h => (by cases h), nk, (isTK_inv hkk).2.1, by decide, ?_⟩
        rw [ok.wi]
        exact wd.next hk2 (p.trans (mut_okC p4.rel r3' h7 fun H' e => ⟨hput, _, e, RpT.put hkk rk rp' .nil⟩)).s
      · refine .inr ⟨a, b, ys, keyN (.tuple ds), rfl, rfl, .inl (by rw [ok.wi]; exact hh), rx.keysOk p4.rel.fh, nk, (isTK_inv hkk).2.1, by rw [rx.length]; exact lim_lt h6, ?_⟩
        rw [ok.wi]
        exact wd.next hk2 (p.trans (mut_okC p4.rel r3' h7 fun H' e => ⟨hput, _, e, rx.put hkk rk rp'⟩)).s

/-- o[i] = d, d a value that never changes -/
theorem storeI_ok {β : Type} {o i : Ex} {x y : Expr} {k : M β} {st2 : MP.St} {H1 F2 : Hp} {v1 : V} {d : PyData} {r : R β} {Q : L2.St → Hp → Prop} (ok : Ok X cf W cl tb) (ho : SE X cf W cl o x) (hi : SE X cf W cl i y) (rel2 : Rel st2 σ H1 F2 ρ) (rp : Rp F2 v1 d) (hk : M.bind (storeI cf o i d) (fun _ => k) st2 = some r)
    (hx : PX W cl st2 σ ρ H1 F2 r) (fin : ∀ st5 H5 F5, Pst st2 st5 σ ρ H1 F2 H5 F5 → k st5 = some r → Q σ H5) : gSub (tE X x) (tE X y) (rSetA X) v1 σ H1 Q := by
  have hk : M.bind (evE cf o) (fun x => M.bind (evE cf i) fun y => M.bind (view x) fun c => M.bind (view y) fun kk => M.bind (M.opt (setD c kk d)) fun c' => M.bind (setCell x c') fun _ => k) st2 = some r := by
    unfold storeI at hk
    simpa only [bind_assoc] using hk
  refine ho.one rel2 hk hx fun w3 st3 v3 H3 F3 p3 r3 f3 hk => ?_
  refine hi.one p3.rel hk (hx.step p3) fun w4 st4 v4 H4 F4 p4 r4 f4 hk => ?_
  have p := p3.trans p4
  obtain ⟨c, e1, hk⟩ := view_bind hk
  obtain ⟨kk, e2, hk⟩ := view_bind hk
  obtain ⟨c', h5, hk⟩ := opt_bind hk
  rcases setD_inv h5 with ⟨xs, n, j, e5, e6, h6, e7⟩ | ⟨kvs, n, e5, e6, hnt, h6, e7⟩ | ⟨kvs, e5, hkk, hall, h6, e7⟩
  · rw [e5] at e1
    rw [e6] at e2
    rw [e7] at hk
    rcases bind_inv hk with ⟨_, s', h7, _⟩ | ⟨_, st5, h7, hk⟩
    · obtain ⟨_, z⟩ := setCell_inv h7
      cases z
    · have r3' := r3.step p4
      obtain ⟨a, ys, rfl, hh, rx⟩ := (view_vw p4.rel r3' e1).lst p4.rel.fh
      have rp' : Rp F4 v1 d := rp.mono (p3.trans p4).stp.fle
      refine .inl (.inl ⟨a, ys, n, j, rfl, (view_vw p4.rel r4 e2).int, hh, ?_, ?_⟩)
      · rw [rx.length]
        exact h6
      · exact fin _ _ _ (p.trans (mut_ok p4.rel r3' h7 (rx.set rp' j))) hk
  · rw [e5] at e1
    rw [e6] at e2
    rw [e7] at hk
    rcases bind_inv hk with ⟨_, s', h7, _⟩ | ⟨_, st5, h7, hk⟩
    · obtain ⟨_, z⟩ := setCell_inv h7
      cases z
    · have r3' := r3.step p4
      rcases own_dic p4.rel r3' e1 h7 with ⟨a, ys, rfl, hh, rx⟩ | ⟨a, ys, rfl, hh, hne, rx⟩
      case inr =>
        rw [(rx.noInts hne).1] at hnt
        cases hnt
      have rp' : Rp F4 v1 d := rp.mono (p3.trans p4).stp.fle
      rw [(view_vw p4.rel r4 e2).int]
      refine .inl (.inr ⟨a, _, rfl, DPut.k (k := .inl n) hh (by rw [rx.length]; exact lim_lt h6), ?_⟩)
      exact fin _ _ _ (p.trans (mut_okC p4.rel r3' h7 fun H' e => ⟨_, e, rx.put rp'⟩)) hk
  · rw [e5] at e1
    rw [e7] at hk
    rcases bind_inv hk with ⟨_, s', h7, _⟩ | ⟨_, st5, h7, hk2⟩
    · obtain ⟨_, z⟩ := setCell_inv h7
      cases z
    · have r3' := r3.step p4
      have rp' : Rp F4 v1 d := rp.mono (p3.trans p4).stp.fle
      have vk := view_vw p4.rel r4 e2
      obtain ⟨ds, rfl⟩ := (isTK_inv hkk).2.2
      obtain ⟨b, ob, zs, rfl, hb, fb, hn', ry⟩ := vk.tup p4.rel.fh
      have rk : Rp F4 (.ref b) (.tuple ds) := .tup fb hn' ry
      have nk := (Rp.nky rk (isTK_inv hkk).1).mono p4.rel.fh
      have hput : putD kvs (.tuple ds) d ≠ [] := by
        unfold putD
        split
        · rename_i g
          intro z
          rw [List.map_eq_nil_iff.mp z] at g
          cases g
        · intro z
          have := congrArg List.length z
          simp at this
      rcases own_dic p4.rel r3' e1 h7 with ⟨a, ys, rfl, hh, rx⟩ | ⟨a, ys, rfl, hh, hne, rx⟩
      · obtain ⟨e8, e9⟩ := rx.allTK hall
        subst e8
        subst e9
        refine .inr ⟨a, b, [], keyN (.tuple ds), rfl, rfl, .inr ⟨rfl, hh⟩, fun x h => (by cases h), nk, (isTK_inv hkk).2.1, by decide, ?_⟩
        rw [ok.wi]
        exact fin _ _ _ (p.trans (mut_okC p4.rel r3' h7 fun H' e => ⟨hput, _, e, RpT.put hkk rk rp' .nil⟩)) hk2
      · refine .inr ⟨a, b, ys, keyN (.tuple ds), rfl, rfl, .inl (by rw [ok.wi]; exact hh), rx.keysOk p4.rel.fh, nk, (isTK_inv hkk).2.1, by rw [rx.length]; exact lim_lt h6, ?_⟩
        rw [ok.wi]
        exact fin _ _ _ (p.trans (mut_okC p4.rel r3' h7 fun H' e => ⟨hput, _, e, rx.put hkk rk rp'⟩)) hk2
omit [WI] in
theorem sub_assign {x y : Expr} {pt : Pos} (hy : badE y = false) : ∀ u, assign (.Subscript x y pt) X.env u = (do
      let ov ← holding [u] (eval x X.env)
      let iv ← holding [u, ov] (eval y X.env)
      standAt pt
      holding [u, ov, iv] (setItem ov iv u)
      release [u, ov, iv] []) := by
  cases y <;> first | (intro _; rfl) | (exact Bool.noConfusion (show true = false from hy))
/-- a[x], b[y] = e, f -/
theorem ss_par2S {o1 i1 e1 o2 i2 e2 : Ex} {x1 y1 x2 y2 v1 v2 : Expr} {k k2 : Nat} {q1 q2 pt p2 pos : Pos} (ok : Ok X cf W cl tb) (fk : Fk X) (hy1 : badE y1 = false) (hy2 : badE y2 = false) (ho1 : SE X cf W cl o1 x1) (hi1 : SE X cf W cl i1 y1) (ho2 : SE X cf W cl o2 x2) (hi2 : SE X cf W cl i2 y2)
    (hs : SKs X cf W cl (.cons e1 (.cons e2 .nil)) [v1, v2]) (hsw : swpB X.env.scope [.Subscript x1 y1 q1, .Subscript x2 y2 q2] [v1, v2] = some false) :
    SS X cf W cl (.par2S o1 i1 e1 o2 i2 e2) (.Assign [.Tuple [.Subscript x1 y1 q1, .Subscript x2 y2 q2] k pt] (.Tuple [v1, v2] k2 p2) pos) := by
  intro st σ H F ρ r D rel hk wd
  have un := ok.un
  have g1 := pg_sub (pos := q1) (pe_self (X := X) (e := x1)) (pe_self (X := X) (e := y1)) (set_any (X := X) (by omega)) (sub_assign hy1)
  have g2 := pg_sub (pos := q2) (pe_self (X := X) (e := x2)) (pe_self (X := X) (e := y2)) (set_any (X := X) (by omega)) (sub_assign hy2)
  refine tS_of (ps_asg (pe_tup pa_self) (pg_tup ok.calm (pgs_cons g1 (pgs_cons g2 pgs_nil))) rfl (swp_of rfl fk.kind hsw)) ?_
  have hk : M.bind (evKs cf (.cons e1 (.cons e2 .nil))) (fun ds => match ds with
    | [d1, d2] => M.bind (storeI cf o1 i1 d1) fun _ => M.bind (storeI cf o2 i2 d2) fun _ => M.ret Fl.nx
    | _ => M.stuck) st = some r := hk
  refine hs _ _ _ _ _ _ _ _ _ rel hk wd.x fun ds st1 vs H1 F1 p rs hl hk => ⟨?_, fun t ht => ?_⟩
  · rw [rs.length, hl]
    exact lim_line (show 2 ≤ LIM by decide)
  have P2 := Pst.newO (o := HO.tup vs) p.rel ht
  match ds, vs, rs, hl with
  | [d1, d2], [u1, u2], .cons r1 (.cons r2 .nil), _ =>
    refine ⟨t, [u1, u2], rfl, .of upd_same, rfl, u1, [u2], rfl, ?_⟩
    have P := p.trans P2
    refine storeI_ok ok ho1 hi1 P2.rel (r1.mono P2.stp.fle) hk (wd.x.step P) fun st5 H5 F5 p5 hk5 => ?_
    refine ⟨u2, [], rfl, ?_⟩
    refine storeI_ok ok ho2 hi2 p5.rel (r2.mono (P2.trans p5).stp.fle) hk5 (wd.x.step (P.trans p5)) fun st6 H6 F6 p6 hk6 => ?_
    exact ⟨rfl, wd.next hk6 ((P.trans p5).trans p6).s⟩

/-! ### flow -/
theorem ss_expr {e : Ex} {v : Expr} {pos : Pos} (h1 : isComp v = false) (he : SE X cf W cl e v) : SS X cf W cl (.expr e) (.Expr v pos) := by
  intro st σ H F ρ r D rel hk wd
  refine tS_of (ps_expr pe_self (not_comp_sw h1)) ?_
  have hk : M.bind (evE cf e) (fun _ => M.ret Fl.nx) st = some r := hk
  exact he.one rel hk wd.x fun w1 st1 v1 H1 F1 p1 r1 f1 hk => wd.next hk p1.s
omit [WI] in
theorem retW_inv {w : MP.W} {r : R CW} (h : retW w st = some r) : ∃ x st', r = .ok x st' ∧ st'.s = st.s := by
  unfold retW at h
  split at h
  · exact ⟨_, _, (Option.some.inj h).symm, rfl⟩
  · exact ⟨_, _, (Option.some.inj h).symm, rfl⟩
  · cases h
  · split at h
    · exact ⟨_, _, (Option.some.inj h).symm, rfl⟩
    · exact ⟨_, _, (Option.some.inj h).symm, rfl⟩
    · cases h
theorem ss_ret {e : Ex} {v : Expr} {pos : Pos} (he : SE X cf W cl e v) : SS X cf W cl (.ret e) (.Return (some v) pos) := by
  intro st σ H F ρ r D rel hk wd
  refine tS_of (ps_ret pe_self) ?_
  have hk : M.bind (evE cf e) (fun w => M.bind (retW w) fun r => M.ret (Fl.ret r)) st = some r := hk
  refine he.one rel hk wd.x fun w1 st1 v1 H1 F1 p1 r1 f1 hk => ?_
  rcases bind_inv hk with ⟨_, s', h7, _⟩ | ⟨cw, st2, h7, hk⟩
  · obtain ⟨_, _, z, _⟩ := retW_inv h7
    cases z
  · refine wd.rt cw st2 (ret_inv hk) v1 H1 F1 ⟨?_, p1.rel.fh, p1.stp, ?_⟩
    · obtain ⟨_, _, z, hs⟩ := retW_inv h7
      cases z
      rw [hs]
      exact p1.rel.sto
    · unfold retW at h7
      split at h7
      · cases h7
        exact r1
      · rename_i c
        cases h7
        obtain ⟨p, e1, e2, e3, e4⟩ := r1
        subst e1
        exact ⟨p, rfl, e2, e3, fun z => e4 (.inl z), f1 p rfl⟩
      · cases h7
      · rename_i j
        have r1 : σ[j]? = some (some v1) := r1
        split at h7
        · rename_i c hc
          cases h7
          obtain ⟨p, e1, e2, e3, e4⟩ := p1.rel.slot j _ hc
          rw [r1] at e1
          cases e1
          exact ⟨p, rfl, e2, e3, e4, (p1.sub p (.inr ⟨j, c, hc, r1⟩)).symm⟩
        · rename_i x hx
          cases h7
          obtain ⟨u, e1, e2⟩ := p1.rel.slot j _ hx
          rw [r1] at e1
          cases e1
          exact e2
        · cases h7
theorem ss_ifs {c : Ex} {a b : Sms} {x : Expr} {xs ys : List Stmt} {pos : Pos} (hc : ST X cf W cl c x) (ha : SB X cf W cl a xs) (hb : SB X cf W cl b ys) : SS X cf W cl (.ifs c a b) (.If x xs ys pos) := by
  intro st σ H F ρ r D rel hk wd
  refine tS_of (ps_if pt_self pss_self pss_self) ?_
  have hk : M.bind (evE cf c) (fun w => M.bind (toBool w) fun t => if t then exB cf a else exB cf b) st = some r := hk
  refine hc.one rel hk wd.x fun t st1 H1 F1 p1 hk => ?_
  cases t with
  | true =>
    rw [if_pos rfl]
    rw [if_pos rfl] at hk
    exact ha st1 σ H1 F1 ρ r D p1.rel hk (wd.step p1.s)
  | false =>
    rw [if_neg Bool.false_ne_true]
    rw [if_neg Bool.false_ne_true] at hk
    exact hb st1 σ H1 F1 ρ r D p1.rel hk (wd.step p1.s)
/-- behind the body of a loop: on to the next turn (k), or out -/
def bodyEnd (k : M Fl) : R Fl → Option (R Fl)
  | .ok .nx s => k s
  | .ok .brk s => some (.ok .nx s)
  | .ok (.ret w) s => some (.ok (.ret w) s)
  | .exc c s => some (.exc c s)
theorem Wd.body {b : M Fl} {k : M Fl} {r0 : R Fl} {N : L2.St → Hp → Prop} (wd : Wd W cl st σ ρ H F r D) (hb : b st = some r0) (hk : bodyEnd k r0 = some r)
    (next : ∀ st', k st' = some r → ∀ σ' H' F', Sst st st' σ σ' ρ H F H' F' → N σ' H') : Wd W cl st σ ρ H F r0 { D with nx := N, ct := N, bk := D.nx } := by
  refine ⟨fun st' e σ' H' F' s => ?_, fun st' e σ' H' F' s => ?_, fun w st' e v H' F' s => ?_, fun c st' e σ' H' F' s => ?_⟩
  · subst e
    exact next st' hk σ' H' F' s
  · subst e
    exact wd.nx st' (Option.some.inj hk).symm σ' H' F' s
  · subst e
    exact wd.rt w st' (Option.some.inj hk).symm v H' F' s
  · subst e
    exact wd.px c st' (Option.some.inj hk).symm σ' H' F' s
omit [WI] in
theorem body_inv {b : M Fl} {k : M Fl} {st : MP.St} (hk : M.bind b (fun f => match f with | .nx => k | .brk => M.ret .nx | .ret w => M.ret (.ret w)) st = some r) :
    ∃ r0, b st = some r0 ∧ bodyEnd k r0 = some r := by
  rcases bind_inv hk with ⟨c, s', h1, h2⟩ | ⟨f, s', h1, h2⟩
  · exact ⟨_, h1, by rw [h2] <;> rfl⟩
  · refine ⟨_, h1, ?_⟩
    cases f with
    | nx => exact h2
    | brk => exact h2
    | ret w => exact h2
theorem ss_loop {m : Bool} {tg : Tgt} {it : MP.It} {b : Sms} {t i : Expr} {xs : List Stmt} {pos : Pos} (ok : Ok X cf W cl tb) (fk : Fk X) (ht : chkT allC X.N X.env.scope tg t = true) (hi : SIok X cf W cl tg it t i m) (hb : SB X cf W cl b xs) : SS X cf W cl (.loop tg it b) (.For t i xs [] pos) := by
  intro st σ H F ρ r D rel hk wd
  refine tS_of (ps_for fk.pass ok.calm pi_self (pg_T ok.calm ok.nd (fun y _ => fk.fn y) ht) pss_self (folded_not_set hi.b _)) ?_
  have hk : M.bind (evI cf it) (fun xs => forF tg (exB cf b) xs) st = some r := hk
  refine hi.s _ _ st σ H F ρ r _ rel hk wd.x fun ds st1 J H1 F1 p1 wl hk => ?_
  refine for_it wl (fun k σk Hk => ∃ stk Fk, Sst st1 stk σ σk ρ H1 F1 Hk Fk ∧ forF tg (exB cf b) (ds.drop k) stk = some r) ⟨st1, F1, Sst.refl p1.rel, hk⟩ ?_ ?_ ?_
  · rintro k σk Hk _ ⟨stk, Fk, s, _⟩
    exact s.stp.fle.trans s.rel.fh
  · rintro k x σk Hk H' hkl ⟨stk, Fk, s, hF⟩ ⟨d, hd, iv⟩
    have hdrop : ds.drop k = d :: ds.drop (k + 1) := by
      obtain ⟨h1, h2⟩ := List.getElem?_eq_some_iff.mp hd
      rw [← h2]
      exact List.drop_eq_getElem_cons h1
    rw [hdrop] at hF
    have hF : M.bind (putTgt tg d) (fun _ => M.bind (exB cf b) fun f => match f with | .nx => forF tg (exB cf b) (ds.drop (k + 1)) | .brk => M.ret .nx | .ret w => M.ret (.ret w)) stk = some r := hF
    rcases bind_inv hF with ⟨c, s', h5, h6⟩ | ⟨_, stA, h5, hF⟩
    · obtain ⟨_, z⟩ := putTgt_inv h5
      cases z
    · refine tgt_ok s.rel s.stp.fle hi.m iv h5 fun σ2 relA leH newH ownA kA lA sA => ?_
      have sA : Sst stk stA σk σ2 ρ Hk Fk H' Fk := ⟨relA, ⟨Le.refl _, fun a o h _ => leH _ _ h, fun a o o' e n _ => by rw [n] at e; cases e⟩, fun q h => .inl (ownA q h), lA⟩
      obtain ⟨r0, h7, h8⟩ := body_inv hF
      have S := s.trans sA
      refine hb stA σ2 H' Fk ρ r0 _ relA h7 (((wd.step p1.s).step S).body h7 h8 fun st' h9 σ' H2 F2 s2 => ⟨st', F2, S.trans s2, h9⟩)
  · rintro σk Hk ⟨stk, Fk, s, hF⟩
    rw [List.drop_length] at hF
    exact (wd.step p1.s).next hF s
theorem ss_whl {c : Ex} {b : Sms} {x : Expr} {xs : List Stmt} {pos : Pos} (fk : Fk X) (hc : ST X cf W cl c x) (hb : SB X cf W cl b xs) : SS X cf W cl (.whl c b) (.While x xs [] pos) := by
  intro st σ H F ρ r D rel hk wd
  refine tS_of (ps_while fk.pass pt_self pss_self) ?_
  have hk : whlF (M.bind (evE cf c) toBool) (exB cf b) WF st = some r := hk
  refine ⟨fun m σk Hk => ∃ stk Fk, Sst st stk σ σk ρ H F Hk Fk ∧ whlF (M.bind (evE cf c) toBool) (exB cf b) m stk = some r, ⟨WF, st, F, Sst.refl rel, hk⟩, ?_⟩
  rintro m σk Hk ⟨stk, Fk, s, hF⟩
  cases m with
  | zero => cases hF
  | succ m =>
    have hF : M.bind (M.bind (evE cf c) toBool) (fun t => if t then M.bind (exB cf b) (fun f => match f with | .nx => whlF (M.bind (evE cf c) toBool) (exB cf b) m | .brk => M.ret .nx | .ret w => M.ret (.ret w)) else M.ret .nx) stk = some r := hF
    rw [bind_assoc] at hF
    refine hc.one s.rel hF ((wd.step s).x) fun t st1 H1 F1 p1 hF => ?_
    have S := s.trans p1.s
    cases t with
    | true =>
      rw [if_pos rfl]
      rw [if_pos rfl] at hF
      obtain ⟨r0, h7, h8⟩ := body_inv hF
      refine ⟨fun σ' H' => ∃ stk Fk, Sst st stk σ σ' ρ H F H' Fk ∧ whlF (M.bind (evE cf c) toBool) (exB cf b) m stk = some r, fun σ' H' h => ⟨m, Nat.lt_succ_self _, h⟩, ?_⟩
      exact hb st1 σk H1 F1 ρ r0 _ p1.rel h7 ((wd.step S).body h7 h8 fun st' h9 σ' H2 F2 s2 => ⟨st', F2, S.trans s2, h9⟩)
    | false =>
      rw [if_neg Bool.false_ne_true]
      rw [if_neg Bool.false_ne_true] at hF
      exact wd.next hF S
theorem ss_rai {c : Str} {p1 p2 p3 pos : Pos} {m : Str} {k : Nat} (ok : Ok X cf W cl tb) (hg : gloB X.env.scope c = true) (hn : nameOk c = true) (hc : tb.ex.contains c = true) : SS X cf W cl (.rai c) (.Raise (some (.Call (.Name c p1) [.Constant (.str m) k p2] [] p3)) none pos) := by
  intro st σ H F ρ r D rel hk wd
  obtain ⟨bmB, B, newId, initId, f1, f2, f3, f4, f5⟩ := ok.exc c hc
  refine tS_of (ps_raise ok.calm ok.tk (pmk_own f1 f2 f3 f4 f5 (gl_of hg) (name_dbg hn).1)) ?_
  exact wd.px c st (Option.some.inj hk).symm σ H F (Sst.refl rel)
theorem sb_nil : SB X cf W cl .nil [] := fun st σ H F ρ r D rel hk wd => tSs_of pss_nil (wd.next hk (Sst.refl rel))
theorem sb_cons {s : Sm} {ss : Sms} {x : Stmt} {xs : List Stmt} (h1 : SS X cf W cl s x) (h2 : SB X cf W cl ss xs) : SB X cf W cl (.cons s ss) (x :: xs) := by
  intro st σ H F ρ r D rel hk wd
  refine tSs_of (pss_cons ps_self pss_self) ?_
  have hk : M.bind (exS cf s) (fun f => match f with | .nx => exB cf ss | .brk => M.ret .brk | .ret w => M.ret (.ret w)) st = some r := hk
  rcases bind_inv hk with ⟨c, s', e1, e2⟩ | ⟨f, s', e1, hk⟩
  · refine h1 st σ H F ρ _ _ rel e1 ⟨?_, ?_, ?_, ?_⟩
    · rintro st' z
      cases z
    · rintro st' z
      cases z
    · rintro w st' z
      cases z
    · rintro c' st' z
      cases z
      exact wd.px c s' e2
  · refine h1 st σ H F ρ _ _ rel e1 ⟨?_, ?_, ?_, ?_⟩
    · rintro st' z σ' H' F' s2
      cases z
      exact h2 s' σ' H' F' ρ r D s2.rel hk (wd.step s2)
    · rintro st' z
      cases z
      exact wd.bk s' (ret_inv hk)
    · rintro w st' z
      cases z
      exact wd.rt w s' (ret_inv hk)
    · rintro c' st' z
      cases z
end
/-! ### the whole -/
mutual
theorem soundS {cf : CallF} {cl : Str → Addr} {tb : Tb} : ∀ (ir : Sm) {X : Cx} {W : WX} {x : Stmt}, Ok X cf W cl tb → Fk X → chkS X.N tb X.env.scope ir x = true → SS X cf W cl ir x
  | .asg i e, X, W, x, ok, fk, h => by
    cases x <;> first | (exact Bool.noConfusion (show false = true from h)) | skip
    rename_i ts v pos
    cases ts with
    | nil => exact Bool.noConfusion (show false = true from h)
    | cons t ts =>
      cases t <;> first | (exact Bool.noConfusion (show false = true from h)) | skip
      cases ts with
      | cons _ _ => exact Bool.noConfusion (show false = true from h)
      | nil =>
        obtain ⟨h, h3⟩ := and2 h
        obtain ⟨h1, h2⟩ := and2 h
        exact ss_asg ok fk (of_decide_eq_true h1) h2 h3
  | .asgT is e, X, W, x, ok, fk, h => by
    cases x <;> first | (exact Bool.noConfusion (show false = true from h)) | skip
    rename_i ts v pos
    cases ts with
    | nil => exact Bool.noConfusion (show false = true from h)
    | cons t ts =>
      cases t <;> first | (exact Bool.noConfusion (show false = true from h)) | skip
      cases ts with
      | cons _ _ => exact Bool.noConfusion (show false = true from h)
      | nil =>
        obtain ⟨h, h4⟩ := and2 h
        obtain ⟨h, h3⟩ := and2 h
        obtain ⟨h1, h2⟩ := and2 h
        exact ss_asgT ok fk (by simpa using h1) (by simpa using h2) h3 (soundE e ok h4).e
  | .par is es, X, W, x, ok, fk, h => by
    cases x <;> first | (exact Bool.noConfusion (show false = true from h)) | skip
    rename_i ts v pos
    cases ts with
    | nil => exact Bool.noConfusion (show false = true from h)
    | cons t ts =>
      cases t <;> first | (exact Bool.noConfusion (show false = true from h)) | skip
      cases ts with
      | cons _ _ => exact Bool.noConfusion (show false = true from h)
      | nil =>
        cases v <;> first | (exact Bool.noConfusion (show false = true from h)) | skip
        obtain ⟨h, h6⟩ := and2 h
        obtain ⟨h, h5⟩ := and2 h
        obtain ⟨h, h4⟩ := and2 h
        obtain ⟨h, h3⟩ := and2 h
        obtain ⟨h1, h2⟩ := and2 h
        exact ss_par ok fk h1 h2 (of_decide_eq_true h3) (of_decide_eq_true h4) (of_decide_eq_true h5) h6
  | .setI o i e, X, W, x, ok, fk, h => by
    cases x <;> first | (exact Bool.noConfusion (show false = true from h)) | skip
    rename_i ts v pos
    cases ts with
    | nil => exact Bool.noConfusion (show false = true from h)
    | cons t ts =>
      cases t <;> first | (exact Bool.noConfusion (show false = true from h)) | skip
      cases ts with
      | cons _ _ => exact Bool.noConfusion (show false = true from h)
      | nil =>
        obtain ⟨h, h4⟩ := and2 h
        obtain ⟨h, h3⟩ := and2 h
        obtain ⟨h1, h2⟩ := and2 h
        exact ss_setI ok (by simpa using h1) (chk_good h3) (soundE o ok h2).e (soundE i ok h3).e (soundE e ok h4).e
  | .par2S o1 i1 e1 o2 i2 e2, X, W, x, ok, fk, h => by
    cases x <;> first | (exact Bool.noConfusion (show false = true from h)) | skip
    rename_i ts v pos
    match ts, v, h with
    | [.Tuple [.Subscript x1 y1 q1, .Subscript x2 y2 q2] k pt], .Tuple [v1, v2] k2 p2, h =>
      obtain ⟨h, h6⟩ := and2 h
      obtain ⟨h, h5⟩ := and2 h
      obtain ⟨h, h4⟩ := and2 h
      obtain ⟨h, h3⟩ := and2 h
      obtain ⟨h1, h2⟩ := and2 h
      refine ss_par2S ok fk (chk_good h2) (chk_good h4) (soundE o1 ok h1).e (soundE i1 ok h2).e (soundE o2 ok h3).e (soundE i2 ok h4).e (soundKs _ ok h5) ?_
      have e : swpB X.env.scope [.Subscript x1 y1 q1, .Subscript x2 y2 q2] [v1, v2] = swpB X.env.scope [.Subscript x1 y1 pos, .Subscript x2 y2 pos] [v1, v2] := rfl
      rw [e]
      split at h6
      · assumption
      · cases h6
  | .expr e, X, W, x, ok, fk, h => by
    cases x <;> first | (exact Bool.noConfusion (show false = true from h)) | skip
    obtain ⟨h1, h2⟩ := and2 h
    exact ss_expr (by simpa using h1) (soundE e ok h2).e
  | .ret e, X, W, x, ok, fk, h => by
    cases x <;> first | (exact Bool.noConfusion (show false = true from h)) | skip
    rename_i v pos
    cases v with
    | none => exact Bool.noConfusion (show false = true from h)
    | some v => exact ss_ret (soundE e ok h).e
  | .ifs c a b, X, W, x, ok, fk, h => by
    cases x <;> first | (exact Bool.noConfusion (show false = true from h)) | skip
    obtain ⟨h, h3⟩ := and2 h
    obtain ⟨h1, h2⟩ := and2 h
    exact ss_ifs (soundE c ok h1).t (soundB a ok fk h2) (soundB b ok fk h3)
  | .loop tg it b, X, W, x, ok, fk, h => by
    cases x <;> first | (exact Bool.noConfusion (show false = true from h)) | skip
    rename_i t i xs ys pos
    cases ys with
    | cons _ _ => exact Bool.noConfusion (show false = true from h)
    | nil =>
      obtain ⟨h, h3⟩ := and2 h
      obtain ⟨h1, h2⟩ := and2 h
      have hi := soundI it (W := W) ok (many_tuple h1) h2
      exact ss_loop ok fk h1 hi (soundB b ok fk h3)
  | .whl c b, X, W, x, ok, fk, h => by
    cases x <;> first | (exact Bool.noConfusion (show false = true from h)) | skip
    rename_i t xs ys pos
    cases ys with
    | cons _ _ => exact Bool.noConfusion (show false = true from h)
    | nil =>
      obtain ⟨h1, h2⟩ := and2 h
      exact ss_whl fk (soundE c ok h1).t (soundB b ok fk h2)
  | .rai c, X, W, x, ok, fk, h => by
    cases x <;> first | (exact Bool.noConfusion (show false = true from h)) | skip
    rename_i e e2 pos
    cases e with
    | none => exact Bool.noConfusion (show false = true from h)
    | some e =>
      cases e <;> first | (exact Bool.noConfusion (show false = true from h)) | skip
      rename_i f as ks p3
      cases f <;> first | (exact Bool.noConfusion (show false = true from h)) | skip
      cases as with
      | nil => exact Bool.noConfusion (show false = true from h)
      | cons a as =>
        cases a <;> first | (exact Bool.noConfusion (show false = true from h)) | skip
        rename_i k0 _ _
        cases k0 <;> first | (exact Bool.noConfusion (show false = true from h)) | skip
        cases as with
        | cons _ _ => exact Bool.noConfusion (show false = true from h)
        | nil =>
          cases ks with
          | cons _ _ => exact Bool.noConfusion (show false = true from h)
          | nil =>
            cases e2 with
            | some _ => exact Bool.noConfusion (show false = true from h)
            | none =>
              obtain ⟨h, h4⟩ := and2 h
              obtain ⟨h, h3⟩ := and2 h
              obtain ⟨h1, h2⟩ := and2 h
              cases beq_iff_eq.mp h1
              exact ss_rai ok h2 h3 h4
  | .brk, X, W, x, ok, fk, h => by
    cases x <;> first | (exact Bool.noConfusion (show false = true from h)) | skip
    exact fun st σ H F ρ r D rel hk wd => tS_of ps_break (wd.bk st (ret_inv hk) σ H F (Sst.refl rel))
  | .pass, X, W, x, ok, fk, h => by
    cases x <;> first | (exact Bool.noConfusion (show false = true from h)) | skip
    exact fun st σ H F ρ r D rel hk wd => tS_of ps_pass (wd.next hk (Sst.refl rel))
theorem soundB {cf : CallF} {cl : Str → Addr} {tb : Tb} : ∀ (ir : Sms) {X : Cx} {W : WX} {xs : List Stmt}, Ok X cf W cl tb → Fk X → chkB X.N tb X.env.scope ir xs = true → SB X cf W cl ir xs
  | .nil, X, W, xs, ok, fk, h => by
    cases xs with
    | nil => exact sb_nil
    | cons x xs => exact Bool.noConfusion (show false = true from h)
  | .cons s ss, X, W, xs, ok, fk, h => by
    cases xs with
    | nil => exact Bool.noConfusion (show false = true from h)
    | cons x xs =>
      obtain ⟨h1, h2⟩ := and2 h
      exact sb_cons (soundS s ok fk h1) (soundB ss ok fk h2)
end
end MP
set_option maxHeartbeats 2000000
/-! MPu: the defs of a program keep what the evaluator says. -/
namespace MP
open PySem L2 PySem.Spec PyProof.Rows
variable [WI]
/-- a def of the program's top -/
def DefAt (K : PySem.W.Frag) (mg : Str → Option Value) (x : Str) (st : Stmt) (ps : List Str) : Prop := ∃ (f : Addr) (fd : FuncData), Fun K x x st f fd ∧ mg x = some (.ref f) ∧ ∀ us : List Value, us.length = ps.length → bindArgs fd ⟨us, []⟩ = pure (ps.zip us)
omit [WI] in
theorem def_at {K : PySem.W.Frag} {h : Heap} {mg : Str → Option Value} {x : Str} {st : Stmt} {ps : List Str} (X : K.In h) (G : h.Ns mainGlobals mg) {f : Addr} {oc : Value} {od an : Option Addr} {osl : Array (Option Value)} {kV doc pm cdv ct : Value}
    (a : PySem.W.nsIn K mainGlobals x = some (some (.ref f))) (l : K.lookup f = some ⟨oc, od, .func (PySem.W.fnOf x x (defArgs st) (defBody st) (defScope st) .none kV doc pm an cdv ct), osl⟩) (c : PySem.W.codeIn K cdv x = true) (k : PySem.W.keepIn K (.ref f) = true)
    (b : ∀ (kV doc pm : Value) (an : Option Addr) (cdv ct : Value) (us : List Value), us.length = ps.length → bindArgs (PySem.W.fnOf x x (defArgs st) (defBody st) (defScope st) .none kV doc pm an cdv ct) ⟨us, []⟩ = pure (ps.zip us)) : DefAt K mg x st ps :=
  ⟨f, _, fun_mk l c k, PySem.W.mg_of X G a, b kV doc pm an cdv ct⟩
omit [WI] in
theorem glo_at {K : PySem.W.Frag} {h : Heap} {mg : Str → Option Value} {x : Str} {i : Int} {v : Value} (X : K.In h) (G : h.Ns mainGlobals mg) (a : PySem.W.nsIn K mainGlobals x = some (some v)) (e : ∃ t, v = .int i t) : ∃ t, mg x = some (.int i t) := by
  obtain ⟨t, rfl⟩ := e
  exact ⟨t, PySem.W.mg_of X G a⟩
/-- an exception class of the program's top -/
def ExcAt (K : PySem.W.Frag) (mg : Str → Option Value) (c : Str) (C : Addr) : Prop := ∃ (bmB : List Value) (B newId initId : String), ExcBaseFacts B newId initId bmB ∧ PySem.W.excIn K C bmB newId = true ∧ mg c = some (.ref C) ∧ PySem.W.keepIn K (.ref C) = true ∧
  PySem.W.subIn K (.ref C) (.type "BaseException") = some true ∧ PySem.W.typeIn K (.ref C) = some (.type "type")
omit [WI] in
theorem exc_at {K : PySem.W.Frag} {h : Heap} {mg : Str → Option Value} {c : Str} {C : Addr} (X : K.In h) (G : h.Ns mainGlobals mg) (a : PySem.W.nsIn K mainGlobals c = some (some (.ref C)))
    (x : PySem.W.excIn K C [.type "ValueError", .type "Exception", .type "BaseException", .type "object"] "ValueError.__new__" = true) (k : PySem.W.keepIn K (.ref C) = true) (b : PySem.W.subIn K (.ref C) (.type "BaseException") = some true) (t : PySem.W.typeIn K (.ref C) = some (.type "type")) : ExcAt K mg c C :=
  ⟨_, _, _, _, PySem.F.excBase_ValueError, x, PySem.W.mg_of X G a, k, b, t⟩
abbrev Defs := List (Str × Def)
abbrev Defs.f (L : Defs) : Str → Option Def := fun f => L.lookup f
def Def.ps (d : Def) : List Str := d.N.take d.np
/-- a def of ours is the program's -/
structure DefOk (K : PySem.W.Frag) (mg : Str → Option Value) (tb : Tb) (f : Str) (st : Stmt) (d : Def) : Prop where
  at' : DefAt K mg f st d.ps
  sc : FnScope d.N d.ps (defScope st)
  chk : chkB d.N tb (defScope st) d.body (defBody st) = true
  np : d.np ≤ d.N.length
structure PrgOk (K : PySem.W.Frag) (mg : Str → Option Value) (L : Defs) (tb : Tb) (cl : Str → Addr) : Prop where
  d : ∀ f d, L.lookup f = some d → ∃ st, DefOk K mg tb f st d
  fs : ∀ f, tb.fs.contains f = true → ∃ d, L.lookup f = some d
  glo : ∀ (x : Str) (i : Int), tb.gl.contains (x, i) = true → ∃ t, mg x = some (.int i t)
  blt : ∀ x, bltNames.contains x = true → mg x = none
  exc : ∀ c, tb.ex.contains c = true → ExcAt K mg c (cl c)
omit [WI] in
theorem Def.ps_len {d : Def} (h : d.np ≤ d.N.length) : d.ps.length = d.np := by
  unfold Def.ps
  rw [List.length_take]
  omega
/-! ### the start of a body -/
theorem start_get {F : Hp} {ρ : List Addr} : ∀ {vs : List V} {as : List Slot} {m : Nat} {i : Nat} {a : Slot}, RpAs F ρ vs as → (as ++ List.replicate m Slot.un)[i]? = some a → SlotOk F H ρ ((vs.map some ++ List.replicate m none)[i]?) a ∧ ∀ c, a ≠ .own c
  | _, _, m, i, a, .nil, e => by
    rw [List.nil_append] at e
    have e := List.mem_of_getElem? e
    rw [List.eq_of_mem_replicate e]
    exact ⟨True.intro, fun c z => by cases z⟩
  | _, _, m, 0, a, @RpAs.cons _ _ _ v vs b as r rs, e => by
    cases e
    show SlotOk F H ρ (some (some v)) a ∧ _
    cases a with
    | un => exact r.elim
    | own c => exact r.elim
    | val x => exact ⟨⟨v, rfl, r⟩, fun c z => by cases z⟩
    | loc n =>
      obtain ⟨q, e1, e2⟩ := r
      exact ⟨⟨q, e1, by rw [e2]⟩, fun c z => by cases z⟩
  | _, _, m, i + 1, a, .cons r rs, e => start_get (i := i) rs (by simpa using e)
theorem start_rel {F H : Hp} {ρ : List Addr} {vs : List V} {as : List Slot} {s : List Cell} {N : List Str} {k : Nat} (hl : vs.length = k) (r : RpAs F ρ vs as) (le : Le F H) (sto : RelS F H ρ s) :
    Rel { v := as ++ List.replicate (N.length - k) .un, s := s } (L2.start N vs) H F ρ ∧ ∀ q, OwnS (as ++ List.replicate (N.length - k) Slot.un) (L2.start N vs) ρ q → q ∈ ρ := by
  have e : L2.start N vs = vs.map some ++ List.replicate (N.length - k) none := by
    unfold L2.start
    rw [hl]
  rw [e]
  refine ⟨⟨le, ?_, fun i a h => (start_get r h).1, fun i j c c' p h => absurd rfl ((start_get (H := H) r h).2 c), sto⟩, fun q h => ?_⟩
  · simp [r.length]
  · rcases h with h | ⟨j, c, h, _⟩
    · exact h
    · exact absurd rfl ((start_get (H := H) r h).2 c)
omit [WI] in
theorem run_succ {L : Defs} {n : Nat} {f : Str} {as : List Slot} {s : List Cell} {r : CR} (h : run L.f (n + 1) f as s = some r) : ∃ d, L.lookup f = some d ∧ runD (run L.f n) d as s = some r := by
  have h : (L.lookup f).bind (fun d => runD (run L.f n) d as s) = some r := h
  simp only [Option.bind_eq_some_iff] at h
  exact h
omit [WI] in
theorem runD_inv {cf : CallF} {d : Def} {as : List Slot} {s : List Cell} {r : CR} (h : runD cf d as s = some r) : as.length = d.np ∧ ∃ r0, exB cf d.body { v := as ++ List.replicate (d.N.length - d.np) .un, s := s } = some r0 ∧
    ((∃ st, r0 = .ok .nx st ∧ r = .ok (.d .none) st.s) ∨ (∃ w st, r0 = .ok (.ret w) st ∧ r = .ok w st.s) ∨ ∃ c st, r0 = .exc c st ∧ r = .exc c st.s) := by
  unfold runD at h
  split at h
  · rename_i hl
    refine ⟨hl, ?_⟩
    split at h
    · rename_i st e
      exact ⟨_, e, .inl ⟨st, rfl, (Option.some.inj h).symm⟩⟩
    · rename_i w st e
      exact ⟨_, e, .inr (.inl ⟨w, st, rfl, (Option.some.inj h).symm⟩)⟩
    · cases h
    · rename_i c st e
      exact ⟨_, e, .inr (.inr ⟨c, st, rfl, (Option.some.inj h).symm⟩)⟩
    · cases h
  · cases h
omit [WI] in
theorem arity {L : Defs} : ∀ (n : Nat) {f : Str} {d : Def} {as : List Slot} {s : List Cell} {r : CR}, L.lookup f = some d → d.np ≤ d.N.length → run L.f n f as s = some r → as.length = d.ps.length
  | 0, f, d, as, s, r, _, _, h => by cases h
  | n + 1, f, d, as, s, r, hd, hn, h => by
    obtain ⟨d', h1, h2⟩ := run_succ h
    rw [hd] at h1
    cases h1
    rw [(runD_inv h2).1, Def.ps_len hn]
section
variable {P : Program} {w : World} {K : PySem.W.Frag} {mg : Str → Option Value} {base : Heap} {L : Defs} {tb : Tb} {cl : Str → Addr}
/-- a context of a def's body -/
theorem body_ok {d : Def} {qual : Str} {sc : Scope} {f : Addr} {cdv : Value} {A : Around} {outer : List Env} {s : Shared} {H : Hp} {E : XK} {n : Nat} (hww : w = WI.w) (pk : PrgOk K mg L tb cl) (S : FnScope d.N d.ps sc) (hr : Room n (A.deeper (envOfC qual sc s.heap.objs.size f cdv)))
    (fns : ∀ g e, L.lookup g = some e → ∀ fa fd st, Fun K g g st fa fd → DefOk K mg tb g st e → FnOk P w K mg base (L2.CX P w) n fa fd e.ps (spR cl (run L.f n g) e.ps.length)) :
    Ok (cxOf (L2.CX P w) P w K mg base d.N qual sc f cdv A outer s H E) (run L.f n) (fun cls d _ H => E cls d H) cl tb ∧ Fk (cxOf (L2.CX P w) P w K mg base d.N qual sc f cdv A outer s H E) := by
  refine ⟨⟨rfl, S.nd, ?_, hww, takes_of rfl rfl rfl rfl, pk.glo, pk.blt, fun g hg => ?_, fun c hc => ?_⟩, ⟨S.kind, fun _ => rfl, passes_of rfl⟩⟩
  · have := hr.un
    show (A.deeper _).units + 100 < cLine
    omega
  · obtain ⟨e, he⟩ := pk.fs g hg
    obtain ⟨st, dk⟩ := pk.d g e he
    obtain ⟨fa, fd, F, gm, bd⟩ := dk.at'
    exact ⟨fa, fd, e.ps, n, gm, F.kp, .all bd, hr, fun as s r h => arity n he dk.np h, fns g e he fa fd st F dk⟩
  · obtain ⟨bmB, B, i1, i2, k1, k2, k3, k4, k5, k6⟩ := pk.exc c hc
    exact ⟨bmB, B, i1, i2, k1, k2, k3, k4, raises_own k5 k6⟩
theorem run_ok (hww : w = WI.w) (pk : PrgOk K mg L tb cl) : ∀ (n : Nat) (g : Str) (d : Def), L.lookup g = some d → ∀ (fa : Addr) (fd : FuncData) (st : Stmt), Fun K g g st fa fd → DefOk K mg tb g st d → FnOk P w K mg base (L2.CX P w) n fa fd d.ps (spR cl (run L.f n g) d.ps.length)
  | 0, g, d, hd, fa, fd, st, F, dk => by
    refine ⟨fun vs H Q E ⟨_, _, _, _, _, hl, _⟩ => hl, fun A outer s H args us vs Q E hr he hb hv hs => ?_⟩
    obtain ⟨_, _, _, _, _, _, _, _, _, hf, _⟩ := hs
    cases hf
  | n + 1, g, d, hd, fa, fd, st, F, dk => by
    refine F.okX dk.sc (fun vs H Q E ⟨_, _, _, _, _, hl, _⟩ => hl) fun cdv A outer s H vs Q E hr hsp => ?_
    obtain ⟨F0, ρ, as, s0, r, hl, hargs, hle, hsto, hrun, hok, hexc⟩ := hsp
    refine ⟨tSs (cxOf (L2.CX P w) P w K mg base d.N g (defScope st) fa cdv A outer s H E) (defBody st), pss_self, ?_⟩
    obtain ⟨d', h1, h2⟩ := run_succ hrun
    rw [hd] at h1
    cases h1
    obtain ⟨hal, r0, h3, h4⟩ := runD_inv h2
    obtain ⟨okX, fk⟩ := body_ok hww (P := P) (w := w) (base := base) (outer := outer) (H := H) (E := E) pk dk.sc hr fun g' e he fa' fd' st' F' dk' => run_ok hww pk n g' e he fa' fd' st' F' dk'
    have hvl : vs.length = d.np := by rw [hl, Def.ps_len dk.np]
    obtain ⟨rel, own⟩ := start_rel (N := d.N) hvl hargs hle hsto
    have back : ∀ {st' : MP.St} {H' F' : Hp}, RelS F' H' ρ st'.s → Le F' H' → Stp (OwnS (as ++ List.replicate (d.N.length - d.np) Slot.un) (L2.start d.N vs) ρ) H F0 H' F' → Back ρ H F0 H' F' st'.s := fun {st' H' F'} a b c =>
      ⟨a, b, ⟨c.fle, fun x o h k => c.keep x o h fun z => k (own x z), fun x o o' e k h => (c.new x o o' e k h).imp (own x) id⟩⟩
    refine soundB d.body okX fk dk.chk _ _ H F0 ρ r0 _ rel h3 ⟨?_, ?_, ?_, ?_⟩
    · rintro st' rfl σ' H' F' sS
      rcases h4 with ⟨st2, e1, e2⟩ | ⟨_, _, e1, _⟩ | ⟨_, _, e1, _⟩
      · cases e1
        exact hok _ _ e2 .non H' F' (back sS.rel.sto sS.rel.fh sS.stp) .non
      · cases e1
      · cases e1
    · rintro st' rfl
      rcases h4 with ⟨st2, e1, e2⟩ | ⟨_, _, e1, _⟩ | ⟨_, _, e1, _⟩ <;> cases e1
    · rintro cw st' rfl v H' F' rt
      rcases h4 with ⟨st2, e1, e2⟩ | ⟨w2, st2, e1, e2⟩ | ⟨_, _, e1, _⟩
      · cases e1
      · cases e1
        refine hok _ _ e2 v H' F' (back rt.sto rt.fh rt.stp) ?_
        have val := rt.val
        cases cw with
        | d x => exact val
        | fr c =>
          obtain ⟨p, e3, e4, e5, e6, e7⟩ := val
          exact ⟨p, e3, e4, e5, e6, e7.elim id fun z => absurd (own p z) e6⟩
      · cases e1
    · rintro c st' rfl σ' H' F' sS
      rcases h4 with ⟨st2, e1, e2⟩ | ⟨_, _, e1, _⟩ | ⟨_, _, e1, e2⟩
      · cases e1
      · cases e1
      · cases e1
        exact hexc _ _ e2 H' F' (back sS.rel.sto sS.rel.fh sS.stp)
end
end MP
namespace MP
open PySem L2 PySem.Spec PyProof.Rows
def fnScB (N ps : List Str) (sc : Scope) : Bool :=
  (match sc.kind with | .function => true | _ => false) && !sc.isCoroutine && !sc.isGenerator && decide N.Nodup && decide (N.take ps.length = ps) && ps.all (fun x => locB allC sc x) && sc.names.all fun y => match y.2 with | .free => false | _ => true
theorem fnSc_by {N ps : List Str} {sc : Scope} (h : fnScB N ps sc = true) : FnScope N ps sc := by
  obtain ⟨h, h7⟩ := and2 h
  obtain ⟨h, h6⟩ := and2 h
  obtain ⟨h, h5⟩ := and2 h
  obtain ⟨h, h4⟩ := and2 h
  obtain ⟨h, h3⟩ := and2 h
  obtain ⟨h1, h2⟩ := and2 h
  refine ⟨?_, by simpa using h2, by simpa using h3, of_decide_eq_true h4, of_decide_eq_true h5, fun x hx => ?_, fun y hy e => ?_⟩
  · split at h1
    · assumption
    · cases h1
  · have q := List.all_eq_true.mp h6 x hx
    unfold locB at q
    split at q
    · exact .inl (by assumption)
    · exact .inr (by assumption)
    · cases q
  · have q := List.all_eq_true.mp h7 y hy
    rw [e] at q
    cases q
/-- all that is decided of a def -/
def defB (tb : Tb) (d : Def) (st : Stmt) : Bool := fnScB d.N d.ps (defScope st) && chkB d.N tb (defScope st) d.body (defBody st) && decide (d.np ≤ d.N.length)
theorem def_by {K : PySem.W.Frag} {mg : Str → Option Value} {tb : Tb} {f : Str} {st : Stmt} {d : Def} (a : DefAt K mg f st d.ps) (h : defB tb d st = true) : DefOk K mg tb f st d := by
  obtain ⟨h, h3⟩ := and2 h
  obtain ⟨h1, h2⟩ := and2 h
  exact ⟨a, fnSc_by h1, h2, of_decide_eq_true h3⟩
inductive AllD (K : PySem.W.Frag) (mg : Str → Option Value) (tb : Tb) : Defs → Prop
  | nil : AllD K mg tb []
  | cons {f : Str} {d : Def} {L : Defs} {st : Stmt} : DefAt K mg f st d.ps → defB tb d st = true → AllD K mg tb L → AllD K mg tb ((f, d) :: L)
theorem AllD.get {K : PySem.W.Frag} {mg : Str → Option Value} {tb : Tb} {f : Str} {d : Def} : ∀ {L : Defs}, AllD K mg tb L → L.lookup f = some d → ∃ st, DefOk K mg tb f st d
  | _, .nil, h => by cases h
  | _, @AllD.cons _ _ _ g e L st a b r, h => by
    rw [List.lookup_cons] at h
    split at h
    · rename_i c
      cases h
      rw [beq_iff_eq.mp c]
      exact ⟨st, def_by a b⟩
    · exact r.get h
open Classical in
noncomputable def clOf (K : PySem.W.Frag) (mg : Str → Option Value) (c : Str) : Addr := if h : ∃ C, ExcAt K mg c C then h.choose else 0
open Classical in
theorem clOf_at {K : PySem.W.Frag} {mg : Str → Option Value} {c : Str} (h : ∃ C, ExcAt K mg c C) : ExcAt K mg c (clOf K mg c) := by
  unfold clOf
  rw [dif_pos h]
  exact h.choose_spec
inductive AllP {α : Type} (p : α → Prop) : List α → Prop
  | nil : AllP p []
  | cons {x : α} {xs : List α} : p x → AllP p xs → AllP p (x :: xs)
theorem AllP.get {α : Type} {p : α → Prop} {x : α} : ∀ {xs : List α}, AllP p xs → x ∈ xs → p x
  | _, .nil, h => by cases h
  | _, .cons q r, h => (List.mem_cons.mp h).elim (fun e => e ▸ q) r.get
theorem prg_of {K : PySem.W.Frag} {mg : Str → Option Value} {L : Defs} {tb : Tb} (d : AllD K mg tb L) (fs : (tb.fs.all fun f => (L.lookup f).isSome) = true) (g : AllP (fun p : Str × Int => ∃ t, mg p.1 = some (.int p.2 t)) tb.gl) (b : AllP (fun x => mg x = none) bltNames) (e : AllP (fun c => ∃ C, ExcAt K mg c C) tb.ex) : PrgOk K mg L tb (clOf K mg) :=
  ⟨fun f d' h => d.get h, fun f h => Option.isSome_iff_exists.mp (List.all_eq_true.mp fs f (List.contains_iff_mem.mp h)), fun x i h => g.get (List.contains_iff_mem.mp h), fun x h => b.get (List.contains_iff_mem.mp h), fun c h => clOf_at (e.get (List.contains_iff_mem.mp h))⟩
end MP
set_option maxHeartbeats 2000000
/-! MPv: the bags of numbers that every law begins with. -/
namespace MP
open PySem L2 PySem.Spec PyProof.Rows
variable [WI]
abbrev Bag := Int × Int × Int
abbrev MM : Int := 2305843009213693951
def BagOk (b : Bag) : Prop := 0 ≤ b.1 ∧ 0 ≤ b.2.1 ∧ b.2.1 < MM ∧ 0 ≤ b.2.2 ∧ b.2.2 ≤ 1000000
def Bag.vs (b : Bag) : List V := [.int b.1, .int b.2.1, .int b.2.2]
def Bag.ds (b : Bag) : List D := [.int b.1, .int b.2.1, .int b.2.2]
/-- the new list Lr of new lists ps that hold the bags bs -/
structure BagsAt (H H' : Hp) (Lr : Addr) (ps : List Addr) (bs : List Bag) : Prop where
  len : ps.length = bs.length
  nd : ps.Nodup
  nl : Lr ∉ ps
  ok : ∀ b ∈ bs, BagOk b
  lnew : H Lr = none
  new : ∀ p ∈ ps, H p = none
  keep : ∀ x o, H x = some o → H' x = some o
  lst : H' Lr = some (.lst (ps.map V.ref))
  bag : ∀ (j : Nat) (p : Addr) (b : Bag), ps[j]? = some p → bs[j]? = some b → H' p = some (.lst b.vs)
def spBags (K : PySem.W.Frag) : Sp := fun vs H Q _ => ∃ (a : Addr) (ns : List Int) (m : Int), vs = [.ref a, .int m] ∧ SqL K H a (ns.map V.int) ∧ ns.length ≤ 900 ∧ ∀ Lr ps bs H', BagsAt H H' Lr ps bs → Q (.ref Lr) H'
def nBags : List Str := ["script", "most", "k", "cell"]
def irBag : Ex := .call "_law_well" (.var 3) (.cons (.bin .Mult (.con (.int 977)) (.var 2)) .nil)
def bagChk (tb : Tb) (sc scope : Scope) (tg elt : Expr) : Bool :=
  fnScB nBags ["script", "most"] sc && blkC nBags sc scope (ownOf nBags (.many [2, 3])) && chkT (ownC scope) nBags (relS scope sc) (.many [2, 3]) tg && chkE nBags tb (relS scope sc) irBag elt && gloB sc "enumerate" && visB sc "script" && visB sc "most"
def BagsTxt (tb : Tb) (st : Stmt) : Prop := ∃ (elt : Expr) (tgs : List Expr) (scope : Scope) (kk j : Nat) (p3 p4 p5 p6 p7 p8 p9 p10 p11 p12 p13 p14 : Pos),
  defBody st = [.Return (some (.ListComp elt [⟨.Tuple tgs kk p3, .Call (.Name "enumerate" p4) [.BinOp (.Subscript (.Name "script" p5) (.Slice none (some (.Name "most" p6)) none p7) p8) .Add (.List [.Constant (.int 0) j p9] p10) p11] [] p12, [], 0⟩] scope p13)) p14] ∧ bagChk tb (defScope st) scope (.Tuple tgs kk p3) elt = true
/-- what is wanted of _law_well -/
def WellOk (cf : CallF) : Prop := ∀ c t : Int, ∃ b0 b1, cf "_law_well" [.val (.int c), .val (.int t)] [] = some (.ok (.fr (.lst [.int b0, .int b1, .int t])) []) ∧ 0 ≤ b0 ∧ 0 ≤ b1 ∧ b1 < MM
omit [WI] in
theorem bind_ok {α β : Type} {m : M α} {k : α → M β} {st st' : MP.St} {a : α} (h : m st = some (.ok a st')) : M.bind m k st = k a st' := by
  unfold M.bind
  rw [h]
omit [WI] in
theorem bag_ev {cf : CallF} {st : MP.St} {k c b0 b1 : Int} (h3 : st.v = [.un, .un, .val (.int k), .val (.int c)]) (hs : st.s = []) (h : cf "_law_well" [.val (.int c), .val (.int (977 * k))] [] = some (.ok (.fr (.lst [.int b0, .int b1, .int (977 * k)])) [])) :
    evE cf irBag st = some (.ok (.fr (.lst [.int b0, .int b1, .int (977 * k)])) st) := by
  obtain ⟨v, s⟩ := st
  cases h3
  cases hs
  generalize hst : ({ v := [.un, .un, .val (.int k), .val (.int c)], s := [] } : MP.St) = st
  have e1 : evE cf (.var 3) st = some (.ok (.d (.int c)) st) := by rw [← hst]; rfl
  have e2 : binD .Mult (.int 977) (.int k) = some (.d (.int (977 * k))) := by
    show (if (((977 : Int).natAbs < 2 ^ 64 ∨ k.natAbs < 2 ^ 64) ∨ ((977 : Int).natAbs < 2 ^ 1000 ∧ k.natAbs < 2 ^ 1000)) then some (MP.W.d (.int (977 * k))) else none) = _
    rw [if_pos (Or.inl (Or.inl (by decide)))]
  have e3 : evE cf (.bin .Mult (.con (.int 977)) (.var 2)) st = some (.ok (.d (.int (977 * k))) st) := by
    have : evE cf (.bin .Mult (.con (.int 977)) (.var 2)) st = M.opt (binD .Mult (.int 977) (.int k)) st := by rw [← hst]; rfl
    rw [this, e2]
    rfl
  have e4 : evAs cf (.cons (.bin .Mult (.con (.int 977)) (.var 2)) .nil) st = some (.ok [.d (.int (977 * k))] st) := by
    show M.bind (evE cf _) _ st = _
    rw [bind_ok e3]
    rfl
  show M.bind (evE cf (.var 3)) (fun w => M.bind (lend w) fun w => M.bind (evAs cf _) fun ws => callW cf "_law_well" (w :: ws)) st = _
  rw [bind_ok e1]
  show M.bind (evAs cf _) (fun ws => callW cf "_law_well" (.d (.int c) :: ws)) st = _
  rw [bind_ok e4]
  subst hst
  show (cf "_law_well" [.val (.int c), .val (.int (977 * k))] []).bind _ = _
  rw [h]
  rfl
theorem ints_of {F : Hp} {vs : List V} {b0 b1 t : Int} (r : RpL F vs [.int b0, .int b1, .int t]) : vs = Bag.vs (b0, b1, t) := (show RpL F vs ([b0, b1, t].map PyData.int) from r).ofInts
section
variable {P : Program} {w : World} {K : PySem.W.Frag} {mg : Str → Option Value} {base : Heap} {L : Defs} {tb : Tb} {cl : Str → Addr}
theorem bags_ok {n : Nat} {fa : Addr} {fd : FuncData} {st : Stmt} (hww : w = WI.w) (pk : PrgOk K mg L tb cl) (F : Fun K "_law_bags" "_law_bags" st fa fd) (tx : BagsTxt tb st) (well : WellOk (run L.f n)) : FnOk P w K mg base (L2.CX P w) (n + 1) fa fd ["script", "most"] (spBags K) := by
  obtain ⟨elt, tgs, scope, kk, j, p3, p4, p5, p6, p7, p8, p9, p10, p11, p12, p13, p14, hb, hc⟩ := tx
  obtain ⟨hc, c7⟩ := and2 hc
  obtain ⟨hc, c6⟩ := and2 hc
  obtain ⟨hc, c5⟩ := and2 hc
  obtain ⟨hc, c4⟩ := and2 hc
  obtain ⟨hc, c3⟩ := and2 hc
  obtain ⟨c1, c2⟩ := and2 hc
  have S := fnSc_by c1
  refine F.okX S (fun vs H Q E ⟨_, _, _, e, _⟩ => by rw [e]; rfl) fun cdv A outer s H vs Q E hr hsp => ?_
  obtain ⟨a, ns, m, rfl, hS, hlen, q⟩ := hsp
  obtain ⟨ok, fk⟩ := body_ok hww (P := P) (w := w) (base := base) (outer := outer) (H := H) (E := E) (d := ⟨2, nBags, .nil⟩) (qual := "_law_bags") (f := fa) (cdv := cdv) (s := s) pk S hr fun g' e he fa' fd' st' F' dk' => run_ok hww pk n g' e he fa' fd' st' F' dk'
  rw [hb]
  refine ⟨_, pss_one (ps_ret (pe_lc rfl S.nd (pi_enum (gl_of c5) (ok.blt _ (by decide +kernel)) (pa_cons (pe_op op_cat (pe_slice sl_list (pe_var (i := 0) rfl (vis_of c6)) po_none (po_some (pe_var (i := 1) rfl (vis_of c7)))) (pe_lst (pa_cons pe_int pa_nil))) pa_nil)) (blkOk_by c2)
    (blk_pg ok c3) (fun _ _ _ _ _ => pts_nil) blk_pe)), ?_⟩
  rw [own_snd]
  show tLc _ _ _ _ _ _ _ _
  refine ⟨.ref a, rfl, .int m, rfl, m, rfl, a, ns.map V.int, rfl, hS, fun t1 ht1 => ?_⟩
  have hcut : cutV (ns.map V.int) none (some m) = ((ns.drop (HT.sIx (ns.map V.int).length 0 none)).take (HT.sIx (ns.map V.int).length (ns.map V.int).length (some m) - HT.sIx (ns.map V.int).length 0 none)).map V.int := by
    unfold cutV
    rw [List.map_take, List.map_drop]
  generalize hms : (ns.drop (HT.sIx (ns.map V.int).length 0 none)).take (HT.sIx (ns.map V.int).length (ns.map V.int).length (some m) - HT.sIx (ns.map V.int).length 0 none) = ms at hcut
  have hml : ms.length ≤ 900 := by
    rw [← hms, List.length_take, List.length_drop]
    omega
  rw [hcut]
  -- [0], then the sum
  refine ⟨by show 1 ≤ sizeLine; decide, fun t2 ht2 => ?_⟩
  have n21 : t2 ≠ t1 := fun z => by rw [z, upd_same] at ht2; cases ht2
  refine ⟨t1, t2, ms.map V.int, [.int 0], rfl, rfl, by rw [upd_ne n21.symm, upd_same], upd_same, ?_, fun t3 ht3 => ?_⟩
  · rw [List.length_map]
    exact lim_line (by unfold LIM; show ms.length + 1 ≤ _; omega)
  have n32 : t3 ≠ t2 := fun z => by rw [z, upd_same] at ht3; cases ht3
  have hx : ms.map V.int ++ [V.int 0] = (ms ++ [0]).map V.int := by rw [List.map_append]; rfl
  rw [hx]
  generalize hH1 : upd (upd (upd H t1 (.lst (ms.map V.int))) t2 (.lst [.int 0])) t3 (.lst ((ms ++ [0]).map V.int)) = H1
  have hkeep : ∀ x o, H x = some o → H1 x = some o := fun x o e => by
    have a1 : x ≠ t1 := fun z => by rw [z, ht1] at e; cases e
    have e1 : upd H t1 (.lst (ms.map V.int)) x = some o := by rw [upd_ne a1]; exact e
    have a2 : x ≠ t2 := fun z => by rw [z, ht2] at e1; cases e1
    have e2 : upd (upd H t1 (.lst (ms.map V.int))) t2 (.lst [.int 0]) x = some o := by rw [upd_ne a2]; exact e1
    have a3 : x ≠ t3 := fun z => by rw [z, ht3] at e2; cases e2
    rw [← hH1, upd_ne a3]
    exact e2
  have h3 : H1 t3 = some (.lst ((ms ++ [0]).map V.int)) := by rw [← hH1]; exact upd_same
  have none1 : ∀ p, H1 p = none → H p = none := fun p e => by
    cases z : H p with
    | none => rfl
    | some o => rw [hkeep p o z] at e; cases e
  refine ⟨t3, _, rfl, .of h3, fun Dn hD => ?_⟩
  have nl : (ms ++ [0]).length ≤ 901 := by rw [List.length_append, List.length_singleton]; omega
  refine lc_it (walk_enum (K := K) (a := t3) (xs := (ms ++ [0]).map V.int)) (g := gT K (.many [2, 3])) (tt := tYes) (te := bE (cxOf (L2.CX P w) P w K mg base nBags "_law_bags" (defScope st) fa cdv A outer s H E) scope elt) (vs := tgtIs (.many [2, 3])) (H1 := H1) (D := Dn) (Qd := Q (.ref Dn))
    (fun i H2 => ∃ (ps : List Addr) (bs : List Bag), ps.length = i ∧ bs.length = i ∧ ps.Nodup ∧ Dn ∉ ps ∧ (∀ b ∈ bs, BagOk b) ∧ (∀ p ∈ ps, H1 p = none) ∧ (∀ x o, H1 x = some o → H2 x = some o) ∧ H2 Dn = some (.lst (ps.map V.ref)) ∧ ∀ (j : Nat) (p : Addr) (b : Bag), ps[j]? = some p → bs[j]? = some b → H2 p = some (.lst b.vs)) ?_ ?_ ?_ ?_
  · exact ⟨[], [], rfl, rfl, List.Pairwise.nil, by simp, by simp, by simp, fun x o e => by rw [upd_ne (fun z => by rw [z, hD] at e; cases e)]; exact e, upd_same, fun j p b e => by simp at e⟩
  · rintro i H2 _ ⟨ps, bs, _, _, _, _, _, _, k2, _⟩
    exact .of (k2 _ _ h3)
  · rintro i xv H2 H3 hi ⟨ps, bs, l1, l2, nd, nD, bok, bnew, k2, kD, kb⟩ ⟨T, x, y, rfl, hT, rfl, ex, ey⟩
    cases ex
    obtain ⟨c, hc, rfl⟩ : ∃ c, (ms ++ [0])[i]? = some c ∧ y = .int c := by
      have ey : ((ms ++ [0]).map V.int)[i]? = some y := ey
      rw [List.getElem?_map] at ey
      cases z : (ms ++ [0])[i]? with
      | none => rw [z] at ey; cases ey
      | some c => rw [z] at ey; cases ey; exact ⟨c, rfl, rfl⟩
    have hi' : i ≤ 900 := by
      rw [List.length_map] at hi
      omega
    refine ⟨T, [.int (i : Nat), .int c], rfl, .of upd_same, rfl, gMany_of rfl ?_⟩
    refine ⟨wipe_same (by simp [setAll]) fun j hj => ?_, ?_⟩
    · have j2 : j ≠ 2 := fun z => hj (by rw [z]; decide)
      have j3 : j ≠ 3 := fun z => hj (by rw [z]; decide)
      show (((wipe _ _).set 2 _).set 3 _)[j]? = _
      rw [List.getElem?_set_ne j3.symm, List.getElem?_set_ne j2.symm]
    unfold tYes
    simp only [if_true]
    intro s0 H0 C cl' fp
    obtain ⟨b0, b1, hw, w1, w2, w3⟩ := well c (977 * (i : Nat))
    have se := (soundE irBag (X := (cxOf (L2.CX P w) P w K mg base nBags "_law_bags" (defScope st) fa cdv A outer s H E).blk s0 H0 scope (compEnvC scope cl' C (cxOf (L2.CX P w) P w K mg base nBags "_law_bags" (defScope st) fa cdv A outer s H E).env) fp) ok.blk c4).e
    have hσ : setAll (wipe (L2.start nBags [V.ref a, V.int m]) (tgtIs (.many [2, 3]))) [2, 3] [V.int (i : Nat), V.int c] = [some (.ref a), some (.int m), some (.int (i : Nat)), some (.int c)] := rfl
    rw [hσ]
    have rel : Rel { v := [.un, .un, .val (.int (i : Nat)), .val (.int c)], s := [] } [some (.ref a), some (.int m), some (.int (i : Nat)), some (.int c)] (upd H2 T (.tup [.int (i : Nat), .int c])) (fun _ => none) [] := by
      have slots : ∀ (j : Nat) (b : Slot), ([Slot.un, .un, .val (.int (i : Nat)), .val (.int c)] : List Slot)[j]? = some b → SlotOk (fun _ => none) (upd H2 T (.tup [.int (i : Nat), .int c])) [] (([some (.ref a), some (.int m), some (.int (i : Nat)), some (.int c)] : L2.St)[j]?) b ∧ ∀ c', b ≠ .own c' := fun j b e => by
        match j, e with
        | 0, e => cases e; exact ⟨True.intro, fun c' z => by cases z⟩
        | 1, e => cases e; exact ⟨True.intro, fun c' z => by cases z⟩
        | 2, e => cases e; exact ⟨⟨_, rfl, .int _⟩, fun c' z => by cases z⟩
        | 3, e => cases e; exact ⟨⟨_, rfl, .int _⟩, fun c' z => by cases z⟩
        | j + 4, e => simp at e
      exact ⟨(fun x o e => by cases e), rfl, fun j b e => (slots j b e).1, fun j k c1 c2 p e1 => absurd rfl ((slots j _ e1).2 c1), ⟨rfl, List.Pairwise.nil, fun n q c e => by simp at e⟩⟩
    refine se _ _ _ _ [] _ _ rel (bag_ev rfl rfl hw) PX.ok fun wv st' e' v H4 F4 pst rwv fr => ?_
    cases e'
    obtain ⟨p, rfl, ⟨vs, hp, hvs⟩, hF4, _⟩ := rwv
    have evs := ints_of hvs
    subst evs
    have nown : ∀ q, ¬ OwnS ([.un, .un, .val (.int (i : Nat)), .val (.int c)] : List Slot) ([some (.ref a), some (.int m), some (.int (i : Nat)), some (.int c)] : L2.St) [] q := fun q h => by
      rcases h with h | ⟨j, c1, e, _⟩
      · simp at h
      · match j, e with
        | 0, e => cases e
        | 1, e => cases e
        | 2, e => cases e
        | 3, e => cases e
        | j + 4, e => simp at e
    have hpn : upd H2 T (.tup [.int (i : Nat), .int c]) p = none := (fr p rfl).elim id fun z => absurd z (nown p)
    have kT : ∀ x o, H2 x = some o → H4 x = some o := fun x o e => pst.stp.keep x o (by rw [upd_ne (fun z => by rw [z, hT] at e; cases e)]; exact e) (nown x)
    have h2p : H2 p = none := by
      by_cases z : p = T
      · rw [z, upd_same] at hpn; cases hpn
      · rw [upd_ne z] at hpn; exact hpn
    have pD : p ≠ Dn := fun z => by rw [z, kD] at h2p; cases h2p
    have pps : p ∉ ps := fun z => by
      obtain ⟨j, hj⟩ := List.mem_iff_getElem?.mp z
      have hl : j < bs.length := by rw [l2, ← l1]; exact (List.getElem?_eq_some_iff.mp hj).1
      rw [kb j p bs[j] hj (List.getElem?_eq_getElem hl)] at h2p
      cases h2p
    refine ⟨ps.map V.ref, kT _ _ kD, ?_, ps ++ [p], bs ++ [((b0, b1, 977 * ((i : Nat) : Int)) : Bag)], ?_, ?_, ?_, ?_, ?_, ?_, ?_, ?_, ?_⟩
    · rw [List.length_map, l1]
      exact lim_lt (by unfold LIM; omega)
    · rw [List.length_append, l1]; rfl
    · rw [List.length_append, l2]; rfl
    · refine List.nodup_append.mpr ⟨nd, List.pairwise_singleton .., fun x hx y hy e => ?_⟩
      rw [List.mem_singleton.mp hy] at e
      exact pps (e ▸ hx)
    · intro z
      rcases List.mem_append.mp z with z | z
      · exact nD z
      · exact pD (List.mem_singleton.mp z).symm
    · intro b hb'
      rcases List.mem_append.mp hb' with z | z
      · exact bok b z
      · rw [List.mem_singleton.mp z]
        exact ⟨w1, w2, w3, by show 0 ≤ 977 * ((i : Nat) : Int); omega, by show 977 * ((i : Nat) : Int) ≤ 1000000; omega⟩
    · intro q hq
      rcases List.mem_append.mp hq with z | z
      · exact bnew q z
      · rw [List.mem_singleton.mp z]
        cases y : H1 p with
        | none => rfl
        | some o => rw [k2 p o y] at h2p; cases h2p
    · intro x o e
      rw [upd_ne (fun z => by rw [z, hD] at e; cases e)]
      exact kT x o (k2 x o e)
    · rw [upd_same, List.map_append]
      rfl
    · intro j q b e1 e2
      by_cases hj : j < ps.length
      · rw [List.getElem?_append_left hj] at e1
        rw [List.getElem?_append_left (by rw [l2, ← l1]; exact hj)] at e2
        have hq := kb j q b e1 e2
        rw [upd_ne (fun z => nD (by rw [← z]; exact List.mem_of_getElem? e1))]
        exact kT _ _ hq
      · have hj2 : j = ps.length := by
          have := (List.getElem?_eq_some_iff.mp e1).1
          rw [List.length_append, List.length_singleton] at this
          omega
        rw [List.getElem?_append_right (by omega), show j - ps.length = 0 by omega] at e1
        rw [List.getElem?_append_right (by omega), show j - bs.length = 0 by omega] at e2
        cases e1
        cases e2
        rw [upd_ne pD]
        exact hp
  · rintro H2 ⟨ps, bs, l1, l2, nd, nD, bok, bnew, k2, kD, kb⟩
    exact q Dn ps bs H2 ⟨by rw [l1, l2], nd, nD, bok, none1 _ hD, fun p hp => none1 p (bnew p hp), fun x o e => k2 x o (hkeep x o e), kD, kb⟩
end
end MP
set_option maxHeartbeats 2000000
/-! MPw: a law: a loop over bags, then an answer. -/
namespace MP
open PySem L2 PySem.Spec PyProof.Rows
variable [WI]
/-- a law in the small language: its slots, the slot of the bag, a turn's body, the answer -/
structure Law where
  N : List Str
  ib : Nat
  body : Sms
  ret : Sms
def Law.v0 (l : Law) : List Slot := List.replicate l.N.length .un
def Law.st (l : Law) (b : Bag) : MP.St := { v := l.v0.set l.ib (.loc 0), s := [.lst b.ds] }
def Law.st1 (l : Law) : MP.St := { v := l.v0, s := [] }
structure Law.Right (cf : CallF) (l : Law) : Prop where
  turn : ∀ b : Bag, BagOk b → ∃ st', exB cf l.body (l.st b) = some (.ok .nx st')
  ans : ∃ st', exB cf l.ret l.st1 = some (.ok (.ret (.d (.bool true))) st')
def lawChk (tb : Tb) (l : Law) (sc : Scope) (bd : List Stmt) (rt : Stmt) : Bool :=
  fnScB l.N ["script"] sc && chkB l.N tb sc l.body bd && chkB l.N tb sc l.ret [rt] && gloB sc "_law_bags" && visB sc "script" && locB allC sc "bag" && decide (l.N[0]? = some ("script" : Str)) && decide (l.N[l.ib]? = some ("bag" : Str))
def LawTxt (tb : Tb) (l : Law) (st : Stmt) : Prop := ∃ (bd : List Stmt) (rt : Stmt) (M : Int) (j : Nat) (p1 p2 p3 p4 p5 p6 : Pos),
  defBody st = [.For (.Name "bag" p1) (.Call (.Name "_law_bags" p2) [.Name "script" p3, .Constant (.int M) j p4] [] p5) bd [] p6, rt] ∧ lawChk tb l (defScope st) bd rt = true
def spLaw (K : PySem.W.Frag) : Sp := fun vs H Q _ => ∃ (a : Addr) (ns : List Int), vs = [.ref a] ∧ SqL K H a (ns.map V.int) ∧ ns.length ≤ 900 ∧ ∀ H', Q (.bl true) H'
omit [WI] in
theorem v0_un {l : Law} {j : Nat} {b : Slot} (h : l.v0[j]? = some b) : b = .un := List.eq_of_mem_replicate (List.mem_of_getElem? h)
theorem law_st_rel {l : Law} {σ : L2.St} {H : Hp} {p : Addr} {b : Bag} (hi : l.ib < l.N.length) (hl : σ.length = l.N.length) (hp : H p = some (.lst b.vs)) : Rel (l.st b) (σ.set l.ib (some (.ref p))) H (fun _ => none) [p] ∧ ∀ q, OwnS (l.st b).v (σ.set l.ib (some (.ref p))) [p] q → q = p := by
  have slot : ∀ (j : Nat) (c : Slot), (l.v0.set l.ib (.loc 0))[j]? = some c → SlotOk (fun _ => none) H [p] ((σ.set l.ib (some (.ref p)))[j]?) c ∧ ∀ c', c ≠ .own c' := fun j c e => by
    rcases getElem?_set_cases e with ⟨rfl, rfl, _⟩ | ⟨_, e⟩
    · refine ⟨⟨p, rfl, ?_⟩, fun c' z => by cases z⟩
      rw [List.getElem?_set_self (by rw [hl]; exact hi)]
    · rw [v0_un e]
      exact ⟨True.intro, fun c' z => by cases z⟩
  refine ⟨⟨fun a o e => (by cases e), ?_, fun j c e => (slot j c e).1, fun i j c c' q e => absurd rfl ((slot i _ e).2 c), ⟨rfl, List.pairwise_singleton .., fun n q c e1 e2 => ?_⟩⟩, fun q h => ?_⟩
  · show (σ.set _ _).length = (l.v0.set _ _).length
    rw [List.length_set, List.length_set, hl]
    exact (List.length_replicate ..).symm
  · cases n with
    | zero =>
      cases e1
      cases e2
      exact ⟨⟨b.vs, hp, RpL.ints [b.1, b.2.1, b.2.2]⟩, rfl, rfl⟩
    | succ n => simp at e1
  · rcases h with h | ⟨j, c, e, _⟩
    · exact List.mem_singleton.mp h
    · exact absurd rfl ((slot j _ e).2 c)
theorem law_st1_rel {l : Law} {σ : L2.St} {H : Hp} (hl : σ.length = l.N.length) : Rel l.st1 σ H (fun _ => none) [] := by
  refine ⟨fun a o e => (by cases e), ?_, fun j c e => ?_, fun i j c c' q e => ?_, ⟨rfl, List.Pairwise.nil, fun n q c e => by simp at e⟩⟩
  · rw [hl]
    exact (List.length_replicate ..).symm
  · rw [v0_un e]
    exact True.intro
  · have := v0_un e
    cases this
section
variable {P : Program} {w : World} {K : PySem.W.Frag} {mg : Str → Option Value} {base : Heap} {L : Defs} {tb : Tb} {cl : Str → Addr}
theorem law_ok {n : Nat} {fa fb : Addr} {fd fdb : FuncData} {st stb : Stmt} {l : Law} (hww : w = WI.w) (pk : PrgOk K mg L tb cl) (F : Fun K "law" "law" st fa fd) (Fb : Fun K "_law_bags" "_law_bags" stb fb fdb) (gb : mg "_law_bags" = some (.ref fb)) (bb : Binds K fdb ["script", "most"] [])
    (txb : BagsTxt tb stb) (tx : LawTxt tb l st) (well : WellOk (run L.f n)) (rg : l.Right (run L.f (n + 1))) : FnOk P w K mg base (L2.CX P w) (n + 2) fa fd ["script"] (spLaw K) := by
  obtain ⟨bd, rt, M, j, p1, p2, p3, p4, p5, p6, hb, hc⟩ := tx
  obtain ⟨hc, c8⟩ := and2 hc
  obtain ⟨hc, c7⟩ := and2 hc
  obtain ⟨hc, c6⟩ := and2 hc
  obtain ⟨hc, c5⟩ := and2 hc
  obtain ⟨hc, c4⟩ := and2 hc
  obtain ⟨hc, c3⟩ := and2 hc
  obtain ⟨c1, c2⟩ := and2 hc
  have S := fnSc_by c1
  have c7 := of_decide_eq_true c7
  have c8 := of_decide_eq_true c8
  have hib : l.ib < l.N.length := (List.getElem?_eq_some_iff.mp c8).1
  refine F.okX S (fun vs H Q E ⟨_, _, e, _⟩ => by rw [e]; rfl) fun cdv A outer s H vs Q E hr hsp => ?_
  obtain ⟨a, ns, rfl, hS, hlen, q⟩ := hsp
  have S' : FnScope (⟨1, l.N, .nil⟩ : Def).N (⟨1, l.N, .nil⟩ : Def).ps (defScope st) := by
    have : (⟨1, l.N, .nil⟩ : Def).ps = [("script" : Str)] := S.pre
    rw [this]
    exact S
  obtain ⟨ok, fk⟩ := body_ok hww (P := P) (w := w) (base := base) (outer := outer) (H := H) (E := E) (d := ⟨1, l.N, .nil⟩) (qual := "law") (f := fa) (cdv := cdv) (s := s) pk S' hr fun g' e he fa' fd' st' F' dk' => run_ok hww pk (n + 1) g' e he fa' fd' st' F' dk'
  have GB := bags_ok hww (P := P) (w := w) (base := base) pk Fb txb well
  have lc := loc_of (X := cxOf (L2.CX P w) P w K mg base l.N "law" (defScope st) fa cdv A outer s H E) c6 (fun y _ => fk.fn y)
  have hlN : (L2.start l.N [V.ref a]).length = l.N.length := by
    unfold L2.start
    rw [List.length_append, List.length_map, List.length_replicate]
    show 1 + (l.N.length - 1) = l.N.length
    omega
  rw [hb]
  refine ⟨_, pss_cons (ps_for fk.pass rfl (pi_list (pe_callS (E := WE _) GB hr (gl_of c4) gb Fb.kp bb (fun σ => passAt ok.tk σ) (pa_cons (pe_var c7 (vis_of c5)) (pa_cons pe_int pa_nil)) (by decide))) (pg_name S.nd c8 lc.1 lc.2) (pss_self (st := bd)) (folded_not_set (show badE (.Call _ _ _ _) = false from rfl) _)) (pss_self (st := [rt])), ?_⟩
  refine ⟨.ref a, ?_, a, ns, M, rfl, hS, hlen, fun Lr ps bs H1 ba => ?_⟩
  · unfold L2.start
    rfl
  refine ⟨Lr, rfl, ⟨_, .of ba.lst⟩, ?_⟩
  refine for_it (walk_list (K := K) (a := Lr) (xs := ps.map V.ref)) (fun (i : Nat) (σ : L2.St) (H2 : Hp) => σ.length = l.N.length ∧ H2 Lr = some (.lst (ps.map V.ref)) ∧ ∀ (k : Nat) (p : Addr) (b : Bag), i ≤ k → ps[k]? = some p → bs[k]? = some b → H2 p = some (.lst b.vs)) ?_ ?_ ?_ ?_
  · exact ⟨hlN, ba.lst, fun k p b _ e1 e2 => ba.bag k p b e1 e2⟩
  · rintro i σ H2 _ ⟨_, h2, _⟩
    exact .of h2
  · rintro i x σ H3 H2 hi ⟨hl, h2, hbg⟩ ⟨rfl, hx⟩
    rw [List.length_map] at hi
    rw [List.getElem?_map, List.getElem?_eq_getElem hi] at hx
    have ex : x = .ref ps[i] := (Option.some.inj hx).symm
    subst ex
    have hbi : i < bs.length := by rw [← ba.len]; exact hi
    have hp := hbg i ps[i] bs[i] (Nat.le_refl _) (List.getElem?_eq_getElem hi) (List.getElem?_eq_getElem hbi)
    obtain ⟨rel, own⟩ := law_st_rel (l := l) (σ := σ) hib hl hp
    obtain ⟨st', he⟩ := rg.turn bs[i] (ba.ok _ (List.getElem_mem hbi))
    refine soundB l.body ok fk c2 _ _ H2 _ _ _ _ rel he ⟨?_, ?_, ?_, ?_⟩
    · rintro st2 e σ' H' F' sS
      have keep : ∀ x o, H2 x = some o → x ≠ ps[i] → H' x = some o := fun x o e n => sS.stp.keep x o e fun z => n (own x z)
      refine ⟨?_, keep _ _ h2 fun z => ba.nl (by rw [z]; exact List.getElem_mem hi), fun k p b hk e1 e2 => keep _ _ (hbg k p b (by omega) e1 e2) fun z => ?_⟩
      · rw [sS.len, List.length_set, hl]
      · have hkl := (List.getElem?_eq_some_iff.mp e1)
        obtain ⟨hkl, hke⟩ := hkl
        have := (List.pairwise_iff_getElem.mp ba.nd) i k hi hkl (by omega)
        exact this (by rw [hke, z])
    · rintro st2 e
      cases e
    · rintro w2 st2 e
      cases e
    · rintro c st2 e
      cases e
  · rintro σ H2 ⟨hl, _, _⟩
    obtain ⟨st', he⟩ := rg.ans
    refine soundB l.ret ok fk c3 _ _ H2 _ _ _ _ (law_st1_rel hl) he ⟨?_, ?_, ?_, ?_⟩
    · rintro st2 e
      cases e
    · rintro st2 e
      cases e
    · rintro w2 st2 e v H' F' rts
      cases e
      have val : Rp F' v (.bool true) := rts.val
      cases val
      exact q H'
    · rintro c st2 e
      cases e
omit [WI] in
theorem law_fin {n : Nat} {fa : Addr} {st stb : Stmt} {l : Law} (pk : PrgOk K mg L tb cl) (hfa : mg "law" = some (.ref fa)) (F : DefAt K mg "law" st ["script"]) (Fb : DefAt K mg "_law_bags" stb ["script", "most"]) (txb : BagsTxt tb stb) (tx : LawTxt tb l st)
    (well : WellOk (run L.f n)) (rg : l.Right (run L.f (n + 1))) : ∃ fd : FuncData, (∀ (s : Shared) (v : Value), BindsTo s fd ⟨[v], []⟩ [("script", v)]) ∧ ∀ base : Heap, K.In base → base.Ns mainGlobals mg → FnOk P w K mg base (L2.CX P w) (n + 2) fa fd ["script"] (spLaw K) := by
  obtain ⟨f, fd, F, gm, bd⟩ := F
  obtain ⟨fb, fdb, Fb, gb, bb⟩ := Fb
  rw [hfa] at gm
  cases gm
  letI : WI := ⟨w⟩
  exact ⟨fd, fun s v => .of_eq (bd [v] rfl), fun base _ _ => law_ok (show w = WI.w from rfl) pk F Fb gb (.all bb) txb tx well rg⟩
omit [WI] in
theorem cx_none {P : Program} {w : World} {H : Hp} {s : Shared} {e : Value} {s' : Shared} (h : L2.CX P w [] H s (fun _ _ _ => False) e s') : False := by
  obtain ⟨_, _, _, _, _, _, _, _, _, _, _, _, z⟩ := h
  exact z.elim
end
end MP
set_option maxHeartbeats 2000000
/-! MQa: the evaluator, step by step: equations at a state. -/
namespace MP
open PySem L2
def bindR {α β : Type} (o : Option (R α)) (k : α → M β) : Option (R β) := match o with
  | none => none
  | some (.ok a s') => k a s'
  | some (.exc c s') => some (.exc c s')
section
variable {α β : Type} (cf : CallF) (st : MP.St)
theorem q_bind (m : M α) (f : α → M β) : M.bind m f st = bindR (m st) f := rfl
theorem q_ok (a : α) (k : α → M β) : bindR (some (.ok a st)) k = k a st := rfl
theorem q_exc (c : Str) (k : α → M β) : bindR (some (.exc c st)) k = some (.exc c st) := rfl
theorem q_none (k : α → M β) : bindR none k = none := rfl
theorem q_ret (a : α) : M.ret a st = some (.ok a st) := rfl
theorem q_opt (a : α) : M.opt (some a) st = some (.ok a st) := rfl
theorem q_stuck : (M.stuck : M α) st = none := rfl
/-! the value forms -/
theorem q_view_d (x : D) : view (.d x) st = some (.ok x st) := rfl
theorem q_view_fr (c : Cell) : view (.fr c) st = some (.ok c.d st) := rfl
theorem q_keep_d (x : D) : keep (.d x) st = some (.ok x st) := rfl
theorem q_keep_fr (c : Cell) : keep (.fr c) st = some (.ok c.d st) := rfl
theorem q_lend_d (x : D) : lend (.d x) st = some (.ok (.d x) st) := rfl
theorem q_lend_fr (c : Cell) : lend (.fr c) st = some (.ok (.d c.d) st) := rfl
theorem q_lend_pl (i : Nat) : lend (.pl i) st = some (.ok (.pl i) st) := rfl
theorem q_lend_loc (i : Nat) : lend (.loc i) st = some (.ok (.loc i) st) := rfl
theorem q_take_d (x : D) : take (.d x) st = some (.ok (.val x) st) := rfl
theorem q_take_fr (c : Cell) : take (.fr c) st = some (.ok (.own c) st) := rfl
theorem q_retW_d (x : D) : retW (.d x) st = some (.ok (.d x) st) := rfl
theorem q_retW_fr (c : Cell) : retW (.fr c) st = some (.ok (.fr c) st) := rfl
theorem q_view_pl (v : List Slot) (s : List Cell) (i : Nat) (c : Cell) (h : v[i]? = some (.own c)) : view (.pl i) ⟨v, s⟩ = some (.ok c.d ⟨v, s⟩) := by
  show ((match v[i]? with | some (.own c) => some c.d | some (.val d) => some d | _ => none) : Option D).bind _ = _
  rw [h]
  rfl
theorem q_view_plv (v : List Slot) (s : List Cell) (i : Nat) (d : D) (h : v[i]? = some (.val d)) : view (.pl i) ⟨v, s⟩ = some (.ok d ⟨v, s⟩) := by
  show ((match v[i]? with | some (.own c) => some c.d | some (.val d) => some d | _ => none) : Option D).bind _ = _
  rw [h]
  rfl
theorem q_view_loc (v : List Slot) (s : List Cell) (i : Nat) (c : Cell) (h : s[i]? = some c) : view (.loc i) ⟨v, s⟩ = some (.ok c.d ⟨v, s⟩) := by
  show (Option.map Cell.d s[i]?).bind _ = _
  rw [h]
  rfl
theorem q_keep_pl (v : List Slot) (s : List Cell) (i : Nat) (c : Cell) (h : v[i]? = some (.own c)) : keep (.pl i) ⟨v, s⟩ = some (.ok c.d ⟨v.set i (.val c.d), s⟩) := by
  show (match v[i]? with | some (.own c) => _ | some (.val d) => _ | _ => none) = _
  rw [h]
theorem q_keep_plv (v : List Slot) (s : List Cell) (i : Nat) (d : D) (h : v[i]? = some (.val d)) : keep (.pl i) ⟨v, s⟩ = some (.ok d ⟨v, s⟩) := by
  show (match v[i]? with | some (.own c) => _ | some (.val d) => _ | _ => none) = _
  rw [h]
theorem q_take_pl (v : List Slot) (s : List Cell) (i : Nat) (c : Cell) (h : v[i]? = some (.own c)) : take (.pl i) ⟨v, s⟩ = some (.ok (.own c) ⟨v.set i .un, s⟩) := by
  show (match v[i]? with | some (.own c) => _ | some (.val d) => _ | _ => none) = _
  rw [h]
theorem q_retW_pl (v : List Slot) (s : List Cell) (i : Nat) (c : Cell) (h : v[i]? = some (.own c)) : retW (.pl i) ⟨v, s⟩ = some (.ok (.fr c) ⟨v.set i .un, s⟩) := by
  show (match v[i]? with | some (.own c) => _ | some (.val d) => _ | _ => none) = _
  rw [h]
theorem q_set_pl (v : List Slot) (s : List Cell) (i : Nat) (c c' : Cell) (h : v[i]? = some (.own c)) : setCell (.pl i) c' ⟨v, s⟩ = some (.ok () ⟨v.set i (.own c'), s⟩) := by
  show (match v[i]? with | some (.own _) => _ | _ => none) = _
  rw [h]
theorem q_set_loc (v : List Slot) (s : List Cell) (i : Nat) (c' : Cell) (h : i < s.length) (h2 : noMutC c' = true) : setCell (.loc i) c' ⟨v, s⟩ = some (.ok () ⟨v, s.set i c'⟩) := if_pos ⟨h, h2⟩
theorem q_put (v : List Slot) (s : List Cell) (i : Nat) (a : Slot) (h : i < v.length) : putSlot i a ⟨v, s⟩ = some (.ok () ⟨v.set i a, s⟩) := if_pos h
theorem q_puts_nil : putSlots [] [] st = some (.ok () st) := rfl
theorem q_puts_cons (i : Nat) (is : List Nat) (a : Slot) (as : List Slot) : putSlots (i :: is) (a :: as) st = bindR (putSlot i a st) fun _ => putSlots is as := rfl
theorem q_takes_nil : takes [] st = some (.ok [] st) := rfl
theorem q_takes_cons (w : MP.W) (ws : List MP.W) : takes (w :: ws) st = bindR (take w st) fun a => (takes ws).bind fun as => M.ret (a :: as) := rfl
theorem q_tgt1 (i : Nat) (d : D) : putTgt (.one i) d st = putSlot i (.val d) st := rfl
theorem q_tgtM (is : List Nat) (ds : List D) : putTgt (.many is) (.tuple ds) st = putSlots is (ds.map Slot.val) st := rfl
theorem q_bool (b : Bool) : MP.toBool (.d (.bool b)) st = some (.ok b st) := rfl
theorem q_int (i : Int) : MP.toInt (.d (.int i)) st = some (.ok i st) := rfl
/-! expressions -/
theorem q_var (v : List Slot) (s : List Cell) (i : Nat) (d : D) (h : v[i]? = some (.val d)) : evE cf (.var i) ⟨v, s⟩ = some (.ok (.d d) ⟨v, s⟩) := by
  show (match v[i]? with | some (.val d) => some (MP.W.d d) | some (.loc n) => some (.loc n) | some (.own _) => some (.pl i) | _ => none).bind _ = _
  rw [h]
  rfl
theorem q_varO (v : List Slot) (s : List Cell) (i : Nat) (c : Cell) (h : v[i]? = some (.own c)) : evE cf (.var i) ⟨v, s⟩ = some (.ok (.pl i) ⟨v, s⟩) := by
  show (match v[i]? with | some (.val d) => some (MP.W.d d) | some (.loc n) => some (.loc n) | some (.own _) => some (.pl i) | _ => none).bind _ = _
  rw [h]
  rfl
theorem q_varL (v : List Slot) (s : List Cell) (i n : Nat) (h : v[i]? = some (.loc n)) : evE cf (.var i) ⟨v, s⟩ = some (.ok (.loc n) ⟨v, s⟩) := by
  show (match v[i]? with | some (.val d) => some (MP.W.d d) | some (.loc n) => some (.loc n) | some (.own _) => some (.pl i) | _ => none).bind _ = _
  rw [h]
  rfl
theorem q_con (d : D) : evE cf (.con d) st = some (.ok (.d d) st) := rfl
theorem q_glo (x : Str) (i : Int) : evE cf (.glo x i) st = some (.ok (.d (.int i)) st) := rfl
theorem q_tup (es : Exs) : evE cf (.tup es) st = bindR (evKs cf es st) fun ds => M.ret (.d (.tuple ds)) := rfl
theorem q_lst (es : Exs) : evE cf (.lst es) st = bindR (evKs cf es st) fun ds => M.ret (.fr (.lst ds)) := rfl
theorem q_bin (o : Operator) (a b : Ex) : evE cf (.bin o a b) st = bindR (evE cf a st) fun x => (evE cf b).bind fun y => (view x).bind fun p => (view y).bind fun q => M.opt (binD o p q) := rfl
theorem q_neg (a : Ex) : evE cf (.neg a) st = bindR (evE cf a st) fun x => (MP.toInt x).bind fun i => M.ret (.d (.int (-i))) := rfl
theorem q_cmp (o : CmpOp) (a b : Ex) : evE cf (.cmp o a b) st = bindR (evE cf a st) fun x => (evE cf b).bind fun y => (view x).bind fun p => (view y).bind fun q => (M.opt (cmpD o p q)).bind fun t => M.ret (.d (.bool t)) := rfl
theorem q_chain (o o2 : CmpOp) (a b c : Ex) : evE cf (.chain o o2 a b c) st = bindR (evE cf a st) fun x => (evE cf b).bind fun y => (view x).bind fun p => (view y).bind fun q => (M.opt (cmpD o p q)).bind fun t =>
      if t then (evE cf c).bind fun z => (view y).bind fun q => (view z).bind fun r => (M.opt (cmpD o2 q r)).bind fun t => M.ret (.d (.bool t)) else M.ret (.d (.bool false)) := rfl
theorem q_and (a b : Ex) : evE cf (.and a b) st = bindR (evE cf a st) fun x => (MP.toBool x).bind fun t => if t then evE cf b else M.ret (.d (.bool false)) := rfl
theorem q_or (a b : Ex) : evE cf (.or a b) st = bindR (evE cf a st) fun x => (MP.toBool x).bind fun t => if t then M.ret (.d (.bool true)) else evE cf b := rfl
theorem q_one (a : Ex) : evE cf (.one a) st = evE cf a st := rfl
theorem q_not (a : Ex) : evE cf (.not a) st = bindR (evE cf a st) fun x => (MP.toBool x).bind fun t => M.ret (.d (.bool (!t))) := rfl
theorem q_ifx (c a b : Ex) : evE cf (.ifx c a b) st = bindR (evE cf c st) fun x => (MP.toBool x).bind fun t => if t then evE cf a else evE cf b := rfl
theorem q_idx (a b : Ex) : evE cf (.idx a b) st = bindR (evE cf a st) fun x => (evE cf b).bind fun y => (view x).bind fun p => (view y).bind fun q => (M.opt (idxD p q)).bind fun d => M.ret (.d d) := rfl
theorem q_sli (a : Ex) (lo hi : Exo) : evE cf (.sli a lo hi) st = bindR (evE cf a st) fun x => (evO cf lo).bind fun l => (evO cf hi).bind fun h => (view x).bind fun p => M.opt (sliD p l h) := rfl
theorem q_rev (a : Ex) : evE cf (.rev a) st = bindR (evE cf a st) fun x => (view x).bind fun p => M.opt (revD p) := rfl
theorem q_call (f : Str) (e : Ex) (es : Exs) : evE cf (.call f e es) st = bindR (evE cf e st) fun w => (lend w).bind fun w => (evAs cf es).bind fun ws => callW cf f (w :: ws) := rfl
theorem q_blt (f : Blt) (a : Ex) : evE cf (.blt f a) st = bindR (evE cf a st) fun x => (view x).bind fun p => M.opt (bltD f p) := rfl
theorem q_lens (a : Ex) : evE cf (.lens a) st = bindR (evE cf a st) fun x => (view x).bind fun p => (M.opt (fewT p)).bind fun xs => (M.opt (allInts xs)).bind fun ns => M.ret (.d (.int ((dedup ns).length : Nat))) := rfl
theorem q_trg1 (b : Ex) : evE cf (.trg1 b) st = bindR (evE cf b st) fun y => (MP.toInt y).bind fun j => if 0 ≤ j ∧ j ≤ 1000000 then M.ret (.d (.tuple (rngD 0 j))) else M.stuck := rfl
theorem q_trg2 (a b : Ex) : evE cf (.trg2 a b) st = bindR (evE cf a st) fun x => (evE cf b).bind fun y => (MP.toInt x).bind fun i => (MP.toInt y).bind fun j => if 0 ≤ i ∧ i ≤ 1000000 ∧ 0 ≤ j ∧ j ≤ 1000000 then M.ret (.d (.tuple (rngD i j))) else M.stuck := rfl
theorem q_isi (a : Ex) (ts : List String) : evE cf (.isi a ts) st = bindR (evE cf a st) fun x => (view x).bind fun p => (M.opt (isiD p ts)).bind fun t => M.ret (.d (.bool t)) := rfl
def mthF (w : MP.W) (r : MP.W × Option Cell) : M MP.W := match r.2 with
  | none => M.ret r.1
  | some c' => (setCell w c').bind fun _ => M.ret r.1
def mthE (m : Mth) (w : MP.W) (c0 c : D) (ds : List D) : M MP.W := if kindD c0 != kindD c then M.stuck else (M.opt (mthD m c ds)).bind (mthF w)
theorem q_mth (m : Mth) (o : Ex) (es : Exs) : evE cf (.mth m o es) st = bindR (evE cf o st) fun w => (view w).bind fun c0 => (M.opt (mthT m c0)).bind fun _ => (evKs cf es).bind fun ds => (view w).bind fun c => mthE m w c0 c ds := rfl
theorem q_mthL (m : Mth) (w : MP.W) (xs ys : List D) (ds : List D) : mthE m w (.list xs) (.list ys) ds st = bindR (M.opt (mthD m (.list ys) ds) st) (mthF w) := rfl
theorem q_mthT (m : Mth) (w : MP.W) (xs ys : List D) (ds : List D) : mthE m w (.tuple xs) (.tuple ys) ds st = bindR (M.opt (mthD m (.tuple ys) ds) st) (mthF w) := rfl
theorem q_mthN (w x : MP.W) : mthF w (x, none) st = some (.ok x st) := rfl
theorem q_mthS (w x : MP.W) (c : Cell) : mthF w (x, some c) st = bindR (setCell w c st) fun _ => M.ret x := rfl
theorem q_comp (elt : Ex) (tg : Tgt) (it : MP.It) (cond : Exo) : evE cf (.comp elt tg it cond) st = bindR (evI cf it st) fun xs => if LIM < xs.length then M.stuck else fun st =>
      (compF tg (wipeS (st.v.map Slot.borrow) (tgtIs tg)) (evC cf cond) ((evE cf elt).bind keep) xs st.s).bind fun (ds, s') => some (.ok (.fr (.lst ds)) { st with s := s' }) := rfl
theorem q_no : evO cf .no st = some (.ok none st) := rfl
theorem q_yes (e : Ex) : evO cf (.yes e) st = bindR (evE cf e st) fun w => (MP.toInt w).bind fun i => M.ret (some i) := rfl
theorem q_cno : evC cf .no st = some (.ok true st) := rfl
theorem q_cyes (e : Ex) : evC cf (.yes e) st = bindR (evE cf e st) MP.toBool := rfl
theorem q_es_nil : evEs cf .nil st = some (.ok [] st) := rfl
theorem q_es (e : Ex) (es : Exs) : evEs cf (.cons e es) st = bindR (evE cf e st) fun w => (evEs cf es).bind fun ws => M.ret (w :: ws) := rfl
theorem q_as_nil : evAs cf .nil st = some (.ok [] st) := rfl
theorem q_as (e : Ex) (es : Exs) : evAs cf (.cons e es) st = bindR (evE cf e st) fun w => (lend w).bind fun w => (evAs cf es).bind fun ws => M.ret (w :: ws) := rfl
theorem q_ks_nil : evKs cf .nil st = some (.ok [] st) := rfl
theorem q_ks (e : Ex) (es : Exs) : evKs cf (.cons e es) st = bindR (evE cf e st) fun w => (keep w).bind fun d => (evKs cf es).bind fun ds => M.ret (d :: ds) := rfl
theorem q_over (e : Ex) : evI cf (.over e) st = bindR (evE cf e st) fun w => (keep w).bind fun d => M.opt (items d) := rfl
theorem q_rng1 (b : Ex) : evI cf (.rng1 b) st = bindR (evE cf b st) fun y => (MP.toInt y).bind fun j => if -1000000 ≤ j ∧ j ≤ 1000000 then M.ret (rngD 0 j) else M.stuck := rfl
theorem q_rng2 (a b : Ex) : evI cf (.rng2 a b) st = bindR (evE cf a st) fun x => (evE cf b).bind fun y => (MP.toInt x).bind fun i => (MP.toInt y).bind fun j => if -1000000 ≤ i ∧ i ≤ 1000000 ∧ -1000000 ≤ j ∧ j ≤ 1000000 then M.ret (rngD i j) else M.stuck := rfl
theorem q_enum (e : Ex) : evI cf (.enum e) st = bindR (evE cf e st) fun w => (keep w).bind fun d => (M.opt (items d)).bind fun xs => M.ret (enumD xs 0) := rfl
theorem q_zip (a b : Ex) : evI cf (.zip a b) st = bindR (evE cf a st) fun x => (keep x).bind fun p => (evE cf b).bind fun y => (keep y).bind fun q => (M.opt (zipK p q)).bind fun xy => M.ret (zipD xy.1 xy.2) := rfl
/-! statements -/
theorem q_asg (i : Nat) (e : Ex) : exS cf (.asg i e) st = bindR (evE cf e st) fun w => (take w).bind fun a => (putSlot i a).bind fun _ => M.ret .nx := rfl
theorem q_asgT (is : List Nat) (e : Ex) : exS cf (.asgT is e) st = bindR (evE cf e st) fun w => (keep w).bind fun d => (putTgt (.many is) d).bind fun _ => M.ret .nx := rfl
theorem q_par (is : List Nat) (es : Exs) : exS cf (.par is es) st = bindR (evEs cf es st) fun ws => (takes ws).bind fun as => (putSlots is as).bind fun _ => M.ret .nx := rfl
theorem q_setI (o i e : Ex) : exS cf (.setI o i e) st = bindR (evE cf e st) fun w => (keep w).bind fun v => (evE cf o).bind fun x => (evE cf i).bind fun y => (view x).bind fun c => (view y).bind fun k => (M.opt (setD c k v)).bind fun c' => (setCell x c').bind fun _ => M.ret .nx := rfl
theorem q_expr (e : Ex) : exS cf (.expr e) st = bindR (evE cf e st) fun _ => M.ret .nx := rfl
theorem q_retS (e : Ex) : exS cf (.ret e) st = bindR (evE cf e st) fun w => (retW w).bind fun r => M.ret (.ret r) := rfl
theorem q_ifs (c : Ex) (a b : Sms) : exS cf (.ifs c a b) st = bindR (evE cf c st) fun w => (MP.toBool w).bind fun t => if t then exB cf a else exB cf b := rfl
theorem q_loop (tg : Tgt) (it : MP.It) (b : Sms) : exS cf (.loop tg it b) st = bindR (evI cf it st) fun xs => forF tg (exB cf b) xs := rfl
theorem q_whl (c : Ex) (b : Sms) : exS cf (.whl c b) st = whlF ((evE cf c).bind MP.toBool) (exB cf b) WF st := rfl
theorem q_rai (c : Str) : exS cf (.rai c) st = some (.exc c st) := rfl
theorem q_brk : exS cf .brk st = some (.ok .brk st) := rfl
theorem q_pass : exS cf .pass st = some (.ok .nx st) := rfl
def flK (k : M Fl) : Fl → M Fl
  | .nx => k
  | .brk => M.ret .brk
  | .ret w => M.ret (.ret w)
theorem q_bnil : exB cf .nil st = some (.ok .nx st) := rfl
theorem q_bcons (s : Sm) (ss : Sms) : exB cf (.cons s ss) st = bindR (exS cf s st) (flK (exB cf ss)) := by
  show M.bind (exS cf s) (fun f => match f with | .nx => exB cf ss | .brk => M.ret .brk | .ret w => M.ret (.ret w)) st = _
  have e : (fun f => match f with | .nx => exB cf ss | .brk => M.ret .brk | .ret w => M.ret (.ret w)) = flK (exB cf ss) := by
    funext f
    cases f <;> rfl
  rw [e]
  rfl
theorem q_fl_nx (k : M Fl) : flK k .nx st = k st := rfl
theorem q_fl_brk (k : M Fl) : flK k .brk st = some (.ok .brk st) := rfl
theorem q_fl_ret (k : M Fl) (w : CW) : flK k (.ret w) st = some (.ok (.ret w) st) := rfl
end
/-! ifs at a state -/
theorem q_iteM {α : Type} {c : Prop} [Decidable c] (a b : M α) (st : MP.St) : (if c then a else b) st = if c then a st else b st := by
  split <;> rfl
/-! calls -/
theorem q_run {L : Defs} {n : Nat} {f : Str} {d : Def} {as : List Slot} {s : List Cell} (h : L.lookup f = some d) : run L.f (n + 1) f as s = runD (run L.f n) d as s := by
  show (L.lookup f).bind _ = _
  rw [h]
  rfl
theorem q_runD {cf : CallF} {d : Def} {as : List Slot} {s : List Cell} {w : CW} {st : MP.St} (hl : as.length = d.np) (h : exB cf d.body ⟨as ++ List.replicate (d.N.length - d.np) .un, s⟩ = some (.ok (.ret w) st)) : runD cf d as s = some (.ok w st.s) := by
  unfold runD
  rw [if_pos hl, h]
theorem q_runD_nx {cf : CallF} {d : Def} {as : List Slot} {s : List Cell} {st : MP.St} (hl : as.length = d.np) (h : exB cf d.body ⟨as ++ List.replicate (d.N.length - d.np) .un, s⟩ = some (.ok .nx st)) : runD cf d as s = some (.ok (.d .none) st.s) := by
  unfold runD
  rw [if_pos hl, h]
theorem q_runD_exc {cf : CallF} {d : Def} {as : List Slot} {s : List Cell} {c : Str} {st : MP.St} (hl : as.length = d.np) (h : exB cf d.body ⟨as ++ List.replicate (d.N.length - d.np) .un, s⟩ = some (.exc c st)) : runD cf d as s = some (.exc c st.s) := by
  unfold runD
  rw [if_pos hl, h]
/-- a call by what it gives: no list of ours among the arguments, or nothing that changes handed back -/
theorem q_callW {cf : CallF} {f : Str} {ws : List MP.W} {v : List Slot} {s s' : List Cell} {as : List Slot} {x : D} (h1 : argsOf ⟨v, s⟩ ws = some as) (h2 : cf f as s = some (.ok (.d x) s')) (h3 : noMut x = true) : callW cf f ws ⟨v, s⟩ = some (.ok (.d x) ⟨v, s'⟩) := by
  unfold callW
  rw [h1]
  show (cf f as s).bind _ = _
  rw [h2]
  show (if noMut x then _ else _) = _
  rw [if_pos h3]
theorem q_callF {cf : CallF} {f : Str} {ws : List MP.W} {v : List Slot} {s s' : List Cell} {as : List Slot} {c : Cell} (h1 : argsOf ⟨v, s⟩ ws = some as) (h2 : cf f as s = some (.ok (.fr c) s')) : callW cf f ws ⟨v, s⟩ = some (.ok (.fr c) ⟨freezeAll v ws, s'⟩) := by
  unfold callW
  rw [h1]
  show (cf f as s).bind _ = _
  rw [h2]
  rfl
theorem q_callX {cf : CallF} {f : Str} {ws : List MP.W} {v : List Slot} {s s' : List Cell} {as : List Slot} {c : Str} (h1 : argsOf ⟨v, s⟩ ws = some as) (h2 : cf f as s = some (.exc c s')) : callW cf f ws ⟨v, s⟩ = some (.exc c ⟨freezeAll v ws, s'⟩) := by
  unfold callW
  rw [h1]
  show (cf f as s).bind _ = _
  rw [h2]
  rfl
/-! ### by slots, for simp -/
def lookW (i : Nat) : Option Slot → Option MP.W
  | some (.val d) => some (.d d)
  | some (.loc n) => some (.loc n)
  | some (.own _) => some (.pl i)
  | _ => none
def viewS : Option Slot → Option D
  | some (.own c) => some c.d
  | some (.val d) => some d
  | _ => none
section
variable {cf : CallF} {v : List Slot} {s : List Cell} {i n : Nat} {d : D} {c : Cell}
theorem s_var : evE cf (.var i) ⟨v, s⟩ = (lookW i v[i]?).bind fun w => some (.ok w ⟨v, s⟩) := by
  show (match v[i]? with | some (.val d) => some (MP.W.d d) | some (.loc n) => some (.loc n) | some (.own _) => some (.pl i) | _ => none).bind _ = _
  cases v[i]? with
  | none => rfl
  | some a => cases a <;> rfl
theorem s_look_v : lookW i (some (.val d)) = some (.d d) := rfl
theorem s_look_l : lookW i (some (.loc n)) = some (.loc n) := rfl
theorem s_look_o : lookW i (some (.own c)) = some (.pl i) := rfl
theorem s_vs_v : viewS (some (.val d)) = some d := rfl
theorem s_vs_o : viewS (some (.own c)) = some c.d := rfl
theorem s_view_pl : view (.pl i) ⟨v, s⟩ = (viewS v[i]?).bind fun d => some (.ok d ⟨v, s⟩) := by
  show ((match v[i]? with | some (.own c) => some c.d | some (.val d) => some d | _ => none) : Option D).bind _ = _
  cases v[i]? with
  | none => rfl
  | some a => cases a <;> rfl
theorem s_view_loc : view (.loc i) ⟨v, s⟩ = (s[i]?.map Cell.d).bind fun d => some (.ok d ⟨v, s⟩) := rfl
def keepS (i : Nat) (v : List Slot) (s : List Cell) : Option Slot → Option (R D)
  | some (.own c) => some (.ok c.d ⟨v.set i (.val c.d), s⟩)
  | some (.val d) => some (.ok d ⟨v, s⟩)
  | _ => none
theorem s_keep_pl : keep (.pl i) ⟨v, s⟩ = keepS i v s v[i]? := by
  show (match v[i]? with | some (.own c) => _ | some (.val d) => _ | _ => none) = _
  cases v[i]? with
  | none => rfl
  | some a => cases a <;> rfl
theorem s_keepS_o : keepS i v s (some (.own c)) = some (.ok c.d ⟨v.set i (.val c.d), s⟩) := rfl
theorem s_keepS_v : keepS i v s (some (.val d)) = some (.ok d ⟨v, s⟩) := rfl
def takeS (i : Nat) (v : List Slot) (s : List Cell) : Option Slot → Option (R Slot)
  | some (.own c) => some (.ok (.own c) ⟨v.set i .un, s⟩)
  | some (.val d) => some (.ok (.val d) ⟨v, s⟩)
  | _ => none
theorem s_take_pl : take (.pl i) ⟨v, s⟩ = takeS i v s v[i]? := by
  show (match v[i]? with | some (.own c) => _ | some (.val d) => _ | _ => none) = _
  cases v[i]? with
  | none => rfl
  | some a => cases a <;> rfl
theorem s_takeS_o : takeS i v s (some (.own c)) = some (.ok (.own c) ⟨v.set i .un, s⟩) := rfl
theorem s_takeS_v : takeS i v s (some (.val d)) = some (.ok (.val d) ⟨v, s⟩) := rfl
def retS (i : Nat) (v : List Slot) (s : List Cell) : Option Slot → Option (R CW)
  | some (.own c) => some (.ok (.fr c) ⟨v.set i .un, s⟩)
  | some (.val d) => some (.ok (.d d) ⟨v, s⟩)
  | _ => none
theorem s_ret_pl : retW (.pl i) ⟨v, s⟩ = retS i v s v[i]? := by
  show (match v[i]? with | some (.own c) => _ | some (.val d) => _ | _ => none) = _
  cases v[i]? with
  | none => rfl
  | some a => cases a <;> rfl
theorem s_retS_o : retS i v s (some (.own c)) = some (.ok (.fr c) ⟨v.set i .un, s⟩) := rfl
theorem s_retS_v : retS i v s (some (.val d)) = some (.ok (.d d) ⟨v, s⟩) := rfl
def setS (i : Nat) (c' : Cell) (v : List Slot) (s : List Cell) : Option Slot → Option (R Unit)
  | some (.own _) => some (.ok () ⟨v.set i (.own c'), s⟩)
  | _ => none
theorem s_set_pl {c' : Cell} : setCell (.pl i) c' ⟨v, s⟩ = setS i c' v s v[i]? := by
  show (match v[i]? with | some (.own _) => _ | _ => none) = _
  cases v[i]? with
  | none => rfl
  | some a => cases a <;> rfl
theorem s_setS_o {c' : Cell} : setS i c' v s (some (.own c)) = some (.ok () ⟨v.set i (.own c'), s⟩) := rfl
theorem s_set_loc {c' : Cell} : setCell (.loc i) c' ⟨v, s⟩ = if i < s.length ∧ noMutC c' = true then some (.ok () ⟨v, s.set i c'⟩) else none := rfl
theorem s_put {a : Slot} : putSlot i a ⟨v, s⟩ = if i < v.length then some (.ok () ⟨v.set i a, s⟩) else none := rfl
def callK (v : List Slot) (ws : List MP.W) : CR → Option (R MP.W)
  | .ok (.d x) s' => if noMut x = true then some (.ok (.d x) ⟨v, s'⟩) else some (.ok (.d x) ⟨freezeAll v ws, s'⟩)
  | .ok (.fr c) s' => some (.ok (.fr c) ⟨freezeAll v ws, s'⟩)
  | .exc c s' => some (.exc c ⟨freezeAll v ws, s'⟩)
theorem s_call {f : Str} {ws : List MP.W} : callW cf f ws ⟨v, s⟩ = (argsOf ⟨v, s⟩ ws).bind fun as => (cf f as s).bind (callK v ws) := by
  unfold callW
  rfl
theorem s_callK_d {ws : List MP.W} {x : D} {s' : List Cell} : callK v ws (.ok (.d x) s') = if noMut x = true then some (.ok (.d x) ⟨v, s'⟩) else some (.ok (.d x) ⟨freezeAll v ws, s'⟩) := rfl
theorem s_callK_f {ws : List MP.W} {s' : List Cell} : callK v ws (.ok (.fr c) s') = some (.ok (.fr c) ⟨freezeAll v ws, s'⟩) := rfl
theorem s_callK_x {ws : List MP.W} {x : Str} {s' : List Cell} : callK v ws (.exc x s') = some (.exc x ⟨freezeAll v ws, s'⟩) := rfl
theorem s_args_nil {st : MP.St} : argsOf st [] = some [] := rfl
theorem s_args {st : MP.St} {w : MP.W} {ws : List MP.W} : argsOf st (w :: ws) = (argOf st w).bind fun a => (argsOf st ws).bind fun as => some (a :: as) := rfl
theorem s_arg_d {st : MP.St} {x : D} : argOf st (.d x) = some (.val x) := rfl
theorem s_arg_l {st : MP.St} : argOf st (.loc n) = some (.loc n) := rfl
theorem s_arg_pl : argOf ⟨v, s⟩ (.pl i) = (viewS v[i]?).map Slot.val := by
  show Option.map Slot.val (match v[i]? with | some (.own c) => some c.d | some (.val d) => some d | _ => none) = _
  cases v[i]? with
  | none => rfl
  | some a => cases a <;> rfl
theorem s_fz_nil : freezeAll v [] = v := rfl
theorem s_fz_d {x : D} {ws : List MP.W} : freezeAll v (.d x :: ws) = freezeAll v ws := rfl
theorem s_fz_l {ws : List MP.W} : freezeAll v (.loc n :: ws) = freezeAll v ws := rfl
def frzS (v : List Slot) (i : Nat) : Option Slot → List Slot
  | some (.own c) => v.set i (.val c.d)
  | _ => v
theorem s_fz_pl {ws : List MP.W} : freezeAll v (.pl i :: ws) = freezeAll (frzS v i v[i]?) ws := by
  show freezeAll (frz1 v i) ws = _
  have e : frz1 v i = frzS v i v[i]? := by
    unfold frz1
    cases v[i]? with
    | none => rfl
    | some a => cases a <;> rfl
  rw [e]
theorem s_frzS_o : frzS v i (some (.own c)) = v.set i (.val c.d) := rfl
theorem s_frzS_v : frzS v i (some (.val d)) = v := rfl
/-! ### data -/
variable {j k : Int} {x y : D} {xs ys : List D}
theorem b_add : binD .Add (.int j) (.int k) = some (.d (.int (j + k))) := rfl
theorem b_sub : binD .Sub (.int j) (.int k) = some (.d (.int (j - k))) := rfl
theorem b_mul : binD .Mult (.int j) (.int k) = if (j.natAbs < 2 ^ 64 ∨ k.natAbs < 2 ^ 64) ∨ (j.natAbs < 2 ^ 1000 ∧ k.natAbs < 2 ^ 1000) then some (.d (.int (j * k))) else none := rfl
theorem b_fdiv : binD .FloorDiv (.int j) (.int k) = if 0 < k ∧ k < 1073741824 then some (.d (.int (j / k))) else none := rfl
theorem b_mod : binD .Mod (.int j) (.int k) = if 0 < k then some (.d (.int (j % k))) else none := rfl
theorem b_pow : binD .Pow (.int j) (.int k) = if 0 ≤ k ∧ k ≤ 1000 ∧ j.natAbs < 2 ^ 64 then some (.d (.int (j ^ k.toNat))) else none := rfl
theorem b_catT : binD .Add (.tuple xs) (.tuple ys) = if xs.length + ys.length ≤ LIM then some (.d (.tuple (xs ++ ys))) else none := rfl
theorem b_catL : binD .Add (.list xs) (.list ys) = if xs.length + ys.length ≤ LIM then some (.fr (.lst (xs ++ ys))) else none := rfl
theorem b_mulL : binD .Mult (.list xs) (.int k) = if xs.length * k.toNat ≤ LIM ∧ k ≤ 1000000 ∧ -1000000 ≤ k then some (.fr (.lst (List.replicate k.toNat xs).flatten)) else none := rfl
theorem c_lt : cmpD .Lt (.int j) (.int k) = some (decide (j < k)) := rfl
theorem c_le : cmpD .LtE (.int j) (.int k) = some (decide (j ≤ k)) := rfl
theorem c_gt : cmpD .Gt (.int j) (.int k) = some (decide (k < j)) := rfl
theorem c_ge : cmpD .GtE (.int j) (.int k) = some (decide (k ≤ j)) := rfl
theorem c_eq : cmpD .Eq x y = if (SeqAt.shaped x && SeqAt.shaped y) = true then some (PyData.eqv x y) else none := rfl
theorem c_ne : cmpD .NotEq x y = if (SeqAt.shaped x && SeqAt.shaped y) = true then some (!PyData.eqv x y) else none := rfl
theorem c_isN {b : Bool} : cmpD .Is (.int j) .none = some false := rfl
theorem c_isNN : cmpD .Is .none .none = some true := rfl
theorem c_isNT : cmpD .Is (.tuple xs) .none = some false := rfl
theorem c_isNL : cmpD .Is (.list xs) .none = some false := rfl
theorem c_isB {a b : Bool} : cmpD .Is (.bool a) (.bool b) = some (decide (a = b)) := rfl
theorem c_inN : cmpD .IsNot (.int j) .none = some true := rfl
theorem c_inNN : cmpD .IsNot .none .none = some false := rfl
theorem c_inNT : cmpD .IsNot (.tuple xs) .none = some true := rfl
theorem c_inNL : cmpD .IsNot (.list xs) .none = some true := rfl
theorem c_inT : cmpD .In x (.tuple ys) = if (flatD x && ys.all flatD) = true then some (ys.any fun z => PyData.eqv z x) else none := rfl
theorem c_inL : cmpD .In x (.list ys) = if (flatD x && ys.all flatD) = true then some (ys.any fun z => PyData.eqv z x) else none := rfl
theorem c_niT : cmpD .NotIn x (.tuple ys) = if (flatD x && ys.all flatD) = true then some (!ys.any fun z => PyData.eqv z x) else none := rfl
theorem c_niL : cmpD .NotIn x (.list ys) = if (flatD x && ys.all flatD) = true then some (!ys.any fun z => PyData.eqv z x) else none := rfl
theorem d_idxL : idxD (.list xs) (.int j) = atD xs j := rfl
theorem d_idxT : idxD (.tuple xs) (.int j) = atD xs j := rfl
theorem d_sliL {lo hi : Option Int} : sliD (.list xs) lo hi = some (.fr (.lst (cutD xs lo hi))) := rfl
theorem d_sliT {lo hi : Option Int} : sliD (.tuple xs) lo hi = some (.d (.tuple (cutD xs lo hi))) := rfl
theorem d_revL : revD (.list xs) = some (.fr (.lst xs.reverse)) := rfl
theorem d_revT : revD (.tuple xs) = some (.d (.tuple xs.reverse)) := rfl
theorem d_lenL : bltD .len (.list xs) = some (.d (.int (xs.length : Nat))) := rfl
theorem d_lenT : bltD .len (.tuple xs) = some (.d (.int (xs.length : Nat))) := rfl
theorem d_tupL : bltD .tuple (.list xs) = some (.d (.tuple xs)) := rfl
theorem d_tupT : bltD .tuple (.tuple xs) = some (.d (.tuple xs)) := rfl
theorem d_lstL : bltD .list (.list xs) = some (.fr (.lst xs)) := rfl
theorem d_lstT : bltD .list (.tuple xs) = some (.fr (.lst xs)) := rfl
theorem d_all : bltD .all (.list xs) = (allBools xs).bind fun bs => some (.d (.bool (bs.all id))) := rfl
theorem d_sum : bltD .sum (.list xs) = (allInts xs).bind fun ns => some (.d (.int ns.sum)) := rfl
theorem d_itL : items (.list xs) = some xs := rfl
theorem d_itT : items (.tuple xs) = some xs := rfl
theorem d_cL : Cell.d (.lst xs) = .list xs := rfl
theorem d_few : fewT (.tuple xs) = if xs.length < 4000 then some xs else none := rfl
theorem m_app : mthD .append (.list xs) [y] = if xs.length < LIM then some (.d .none, some (.lst (xs ++ [y]))) else none := rfl
theorem m_appT : mthT .append (.list xs) = some ("list", "list.append") := rfl
theorem m_ixT : mthT .index (.tuple xs) = some ("tuple", "tuple.index") := rfl
theorem m_ixL : mthT .index (.list xs) = some ("list", "list.index") := rfl
theorem m_ix : mthD .index (.tuple xs) [y] = if (flatD y && xs.all flatD) = true then (findD y xs).bind fun j => some (.d (.int (j : Nat)), none) else none := rfl
theorem m_ixl : mthD .index (.list xs) [y] = if (flatD y && xs.all flatD) = true then (findD y xs).bind fun j => some (.d (.int (j : Nat)), none) else none := rfl
theorem m_ins : mthD .insert (.list xs) [.int 0, y] = if xs.length < LIM then some (.d .none, some (.lst (y :: xs))) else none := rfl
theorem m_insT : mthT .insert (.list xs) = some ("list", "list.insert") := rfl
theorem m_rem : mthD .remove (.list xs) [.int k] = (allInts xs).bind fun ns => if k ∈ ns then some (.d .none, some (.lst ((ns.erase k).map PyData.int))) else none := rfl
theorem m_remT : mthT .remove (.list xs) = some ("list", "list.remove") := rfl
theorem m_popT : mthT .pop (.list xs) = some ("list", "list.pop") := rfl
theorem m_popAT : mthT .popAt (.list xs) = some ("list", "list.pop") := rfl
theorem m_pop : mthD .pop (.list xs) [] = (xs[xs.length - 1]?).bind fun y => some (.d y, some (.lst xs.dropLast)) := rfl
theorem m_popA : mthD .popAt (.list xs) [.int k] = if k.toNat < LIM ∧ 0 ≤ k then (xs[k.toNat]?).bind fun y => some (.d y, some (.lst (xs.eraseIdx k.toNat))) else none := rfl
theorem m_kL : kindD (.list xs) = 1 := rfl
theorem m_kT : kindD (.tuple xs) = 2 := rfl
theorem n_int : noMut (.int j) = true := rfl
theorem n_bool {b : Bool} : noMut (.bool b) = true := rfl
theorem n_none : noMut .none = true := rfl
theorem n_str {z : Str} : noMut (.str z) = true := rfl
theorem n_tup : noMut (.tuple xs) = noMutL xs := rfl
theorem n_lst : noMut (.list xs) = false := rfl
theorem n_nil : noMutL [] = true := rfl
theorem n_cons : noMutL (x :: xs) = (noMut x && noMutL xs) := rfl
theorem n_ints : ∀ ns : List Int, noMutL (ns.map PyData.int) = true
  | [] => rfl
  | n :: ns => by
    show (true && noMutL (ns.map PyData.int)) = true
    rw [n_ints ns]
    rfl
theorem f_ints (ns : List Int) : (ns.map PyData.int).all flatD = true := by
  rw [List.all_map]
  exact List.all_eq_true.mpr fun x _ => rfl
theorem t_int {ts : List String} : isiD (.int j) ts = some (ts.any fun u => u == "int" || ("int" == "bool" && u == "int")) := rfl
theorem t_bool {b : Bool} {ts : List String} : isiD (.bool b) ts = some (ts.any fun u => u == "bool" || ("bool" == "bool" && u == "int")) := rfl
theorem t_none {ts : List String} : isiD .none ts = some (ts.any fun u => u == "NoneType" || ("NoneType" == "bool" && u == "int")) := rfl
theorem t_str {z : Str} {ts : List String} : isiD (.str z) ts = some (ts.any fun u => u == "str" || ("str" == "bool" && u == "int")) := rfl
theorem t_list {ts : List String} : isiD (.list xs) ts = some (ts.any fun u => u == "list" || ("list" == "bool" && u == "int")) := rfl
theorem t_tuple {ts : List String} : isiD (.tuple xs) ts = some (ts.any fun u => u == "tuple" || ("tuple" == "bool" && u == "int")) := rfl
end
def endD : Option (R Fl) → Option CR
  | some (.ok .nx st) => some (.ok (.d .none) st.s)
  | some (.ok (.ret w) st) => some (.ok w st.s)
  | some (.ok .brk _) => none
  | some (.exc c st) => some (.exc c st.s)
  | none => none
theorem s_runD {cf : CallF} {np : Nat} {N : List Str} {b : Sms} {as : List Slot} {s : List Cell} : runD cf ⟨np, N, b⟩ as s = if as.length = np then endD (exB cf b ⟨as ++ List.replicate (N.length - np) .un, s⟩) else none := by
  unfold runD endD
  rfl
theorem s_end_nx {v : List Slot} {s : List Cell} : endD (some (.ok .nx ⟨v, s⟩)) = some (.ok (.d .none) s) := rfl
theorem s_end_ret {v : List Slot} {s : List Cell} {w : CW} : endD (some (.ok (.ret w) ⟨v, s⟩)) = some (.ok w s) := rfl
theorem s_end_exc {v : List Slot} {s : List Cell} {c : Str} : endD (some (.exc c ⟨v, s⟩)) = some (.exc c s) := rfl
/-! ### dicts, two clauses, and more -/
section
variable {cf : CallF} {st : MP.St} {v : List Slot} {s : List Cell} {i : Nat} {j k : Int} {x y : D} {xs ys : List D} {kvs : List (D × D)}
theorem q_dnew : evE cf .dnew st = some (.ok (.fr (.dic false [])) st) := rfl
theorem q_disT (a b : Ex) : evE cf (.disT a b) st = bindR (evE cf a st) fun x => (keep x).bind fun kd => (evE cf b).bind fun y => (keep y).bind fun d => if isTK kd = true then M.ret (.fr (.dic true [(kd, d)])) else M.stuck := rfl
theorem q_dis (a b : Ex) : evE cf (.dis a b) st = bindR (evE cf a st) fun x => (MP.toInt x).bind fun i => (evE cf b).bind fun y => (keep y).bind fun d => M.ret (.fr (.dic false [(.int i, d)])) := rfl
theorem q_mm2 (mx : Bool) (a b : Ex) : evE cf (.mm2 mx a b) st = bindR (evE cf a st) fun x => (evE cf b).bind fun y => (MP.toInt x).bind fun i => (MP.toInt y).bind fun j => M.ret (.d (.int (if mx then max i j else min i j))) := rfl
theorem q_call0 (f : Str) : evE cf (.call0 f) st = callW cf f [] st := rfl
theorem q_srtT (a : Ex) : evE cf (.srtT a) st = bindR (evE cf a st) fun x => (view x).bind fun p => (M.opt (lstD p)).bind fun xs => (M.opt (allTups xs)).bind fun ts => M.ret (.fr (.lst ((isortL ts).map fun t => .tuple (t.map PyData.int)))) := rfl
theorem q_srtS (a : Ex) : evE cf (.srtS a) st = bindR (evE cf a st) fun x => (view x).bind fun p => (M.opt (fewT63 p)).bind fun xs => (M.opt (allInts xs)).bind fun ns => M.ret (.fr (.lst ((isort (dedup ns)).map PyData.int))) := rfl
theorem d_few63 : fewT63 (.tuple xs) = if xs.length < 64 then some xs else none := rfl
theorem q_lzip (a b : Ex) : evE cf (.lzip a b) st = bindR (evE cf a st) fun x => (keep x).bind fun p => (evE cf b).bind fun y => (keep y).bind fun q => (M.opt (MP.items p)).bind fun xs => (M.opt (MP.items q)).bind fun ys => M.ret (.fr (.lst (zipD xs ys))) := rfl
theorem q_srtK (a : Ex) : evE cf (.srtK a) st = bindR (evE cf a st) fun x => (view x).bind fun p => (M.opt (dicD p)).bind fun kvs => (M.opt (allTups (kvs.map Prod.fst))).bind fun ts => M.ret (.fr (.lst ((isortL ts).map fun t => .tuple (t.map PyData.int)))) := rfl
theorem q_lensL (a : Ex) : evE cf (.lensL a) st = bindR (evE cf a st) fun x => (view x).bind fun p => (M.opt (fewL p)).bind fun xs => (M.opt (allInts xs)).bind fun ns => M.ret (.d (.int ((dedup ns).length : Nat))) := rfl
theorem q_par2S (o1 i1 e1 o2 i2 e2 : Ex) : exS cf (.par2S o1 i1 e1 o2 i2 e2) st = bindR (evKs cf (.cons e1 (.cons e2 .nil)) st) fun ds => match ds with
    | [d1, d2] => (storeI cf o1 i1 d1).bind fun _ => (storeI cf o2 i2 d2).bind fun _ => M.ret .nx
    | _ => M.stuck := rfl
theorem q_storeI (o i : Ex) (d : D) : storeI cf o i d st = bindR (evE cf o st) fun x => (evE cf i).bind fun y => (view x).bind fun c => (view y).bind fun k => (M.opt (setD c k d)).bind fun c' => setCell x c' := rfl
theorem d_dic : dicD (.dict kvs) = some kvs := rfl
theorem d_fewL : fewL (.list xs) = if xs.length < 4000 then some xs else none := rfl
theorem q_comp2 (elt : Ex) (tg tg1 : Tgt) (it it1 : MP.It) (cond cond1 : Exo) : evE cf (.comp2 elt tg it cond tg1 it1 cond1) st = bindR (evI cf it st) fun xs => if LIM < xs.length then M.stuck else fun st =>
      (compF2 tg (wipeS (st.v.map Slot.borrow) (tgtIs tg ++ tgtIs tg1)) (evC cf cond) (evI cf it1) tg1 (evC cf cond1) ((evE cf elt).bind keep) xs st.s).bind fun (ds, s') => if LIM < ds.length then none else some (.ok (.fr (.lst ds)) { st with s := s' }) := rfl
theorem q_keys (e : Ex) : evI cf (.keys e) st = bindR (evE cf e st) lockW := rfl
theorem s_lock_fr : lockW (.fr (.dic false kvs)) st = some (.ok (kvs.map Prod.fst) st) := rfl
def lockS (i : Nat) (v : List Slot) (s : List Cell) : Option Slot → Option (R (List D))
  | some (.own (.dic false kvs)) => some (.ok (kvs.map Prod.fst) ⟨v.set i (.val (.dict kvs)), s⟩)
  | _ => none
theorem s_lock_pl : lockW (.pl i) ⟨v, s⟩ = lockS i v s v[i]? := by
  show (match v[i]? with | some (.own (.dic false kvs)) => _ | _ => none) = _
  cases v[i]? with
  | none => rfl
  | some a =>
    cases a <;> rfl
theorem s_lockS : lockS i v s (some (.own (.dic false kvs))) = some (.ok (kvs.map Prod.fst) ⟨v.set i (.val (.dict kvs)), s⟩) := rfl
theorem d_cD {b : Bool} : Cell.d (.dic b kvs) = .dict kvs := rfl
theorem d_setK : setD (.dict kvs) (.int j) y = if noTup kvs = true ∧ kvs.length < LIM then some (.dic false (putD kvs (.int j) y)) else none := rfl
theorem d_setT {ks : List D} : setD (.dict kvs) (.tuple ks) y = if isTK (.tuple ks) = true ∧ allTK kvs = true ∧ kvs.length < LIM then some (.dic true (putD kvs (.tuple ks) y)) else none := rfl
theorem d_idxKT {ks : List D} : idxD (.dict kvs) (.tuple ks) = if isTK (.tuple ks) = true then lookD (.tuple ks) kvs else none := rfl
theorem c_inD {ks : List D} : cmpD .In (.tuple ks) (.dict kvs) = if (isTK (.tuple ks) && allTK kvs) = true then some (kvs.any fun kv => PyData.eqv kv.1 (.tuple ks)) else none := rfl
theorem c_niD {ks : List D} : cmpD .NotIn (.tuple ks) (.dict kvs) = if (isTK (.tuple ks) && allTK kvs) = true then some (!kvs.any fun kv => PyData.eqv kv.1 (.tuple ks)) else none := rfl
theorem m_getTT {ks : List D} : mthD .get2 (.dict kvs) [.tuple ks, y] = if (isTK (.tuple ks) && allTK kvs) = true then some (.d ((lookD (.tuple ks) kvs).getD y), none) else none := rfl
theorem d_idxK : idxD (.dict kvs) (.int j) = lookD (.int j) kvs := rfl
theorem d_srtL : bltD .sorted (.list xs) = (allInts xs).bind fun ns => some (.fr (.lst ((isort ns).map PyData.int))) := rfl
theorem d_srtT : bltD .sorted (.tuple xs) = (allInts xs).bind fun ns => some (.fr (.lst ((isort ns).map PyData.int))) := rfl
theorem d_srtK : bltD .sorted (.dict kvs) = (allInts (kvs.map Prod.fst)).bind fun ns => if ns.length < 64 then some (.fr (.lst ((isort ns).map PyData.int))) else none := rfl
theorem d_int {b : Bool} : bltD .int (.bool b) = some (.d (.int (if b then 1 else 0))) := rfl
theorem m_getT : mthT .get2 (.dict kvs) = some ("dict", "dict.get") := rfl
theorem m_get : mthD .get2 (.dict kvs) [.int j, y] = if noTup kvs = true then some (.d ((lookD (.int j) kvs).getD y), none) else none := by
  show (if (noTup kvs || false) = true then _ else _) = _
  rw [Bool.or_false]
theorem m_kD : kindD (.dict kvs) = 3 := rfl
theorem q_mthK (m : Mth) (w : MP.W) (xs ys : List (D × D)) (ds : List D) : mthE m w (.dict xs) (.dict ys) ds st = bindR (M.opt (mthD m (.dict ys) ds) st) (mthF w) := rfl
theorem d_lstD : lstD (.list xs) = some xs := rfl
end
end MP
set_option maxHeartbeats 2000000
/-! MQb: loops, comprehensions; data of whole numbers. -/
namespace MP
open PySem L2
/-! ### loops -/
theorem q_for_nil {tg : Tgt} {b : M Fl} {st : MP.St} : forF tg b [] st = some (.ok .nx st) := rfl
def forK (k : M Fl) : Fl → M Fl
  | .nx => k
  | .brk => M.ret .nx
  | .ret w => M.ret (.ret w)
theorem q_for {tg : Tgt} {b : M Fl} {x : D} {xs : List D} {st : MP.St} : forF tg b (x :: xs) st = bindR (putTgt tg x st) fun _ => M.bind b (forK (forF tg b xs)) := by
  show M.bind (putTgt tg x) (fun _ => M.bind b fun f => match f with | .nx => forF tg b xs | .brk => M.ret .nx | .ret w => M.ret (.ret w)) st = _
  have e : (fun f => match f with | .nx => forF tg b xs | .brk => M.ret .nx | .ret w => M.ret (.ret w)) = forK (forF tg b xs) := by
    funext f
    cases f <;> rfl
  rw [e]
  rfl
theorem q_fk_nx {k : M Fl} {st : MP.St} : forK k .nx st = k st := rfl
theorem q_fk_brk {k : M Fl} {st : MP.St} : forK k .brk st = some (.ok .nx st) := rfl
theorem q_fk_ret {k : M Fl} {w : CW} {st : MP.St} : forK k (.ret w) st = some (.ok (.ret w) st) := rfl
/-- one turn: the item is laid, the body runs -/
def turnF (tg : Tgt) (b : M Fl) (x : D) (st : MP.St) : Option (R Fl) := bindR (putTgt tg x st) fun _ => b
theorem for_turn {tg : Tgt} {b : M Fl} {x : D} {xs : List D} {st st' : MP.St} (h : turnF tg b x st = some (.ok .nx st')) : forF tg b (x :: xs) st = forF tg b xs st' := by
  rw [q_for]
  unfold turnF at h
  cases e : putTgt tg x st with
  | none => rw [e] at h; cases h
  | some r =>
    rw [e] at h
    cases r with
    | exc c s => cases h
    | ok u s =>
      show M.bind b (forK (forF tg b xs)) s = _
      rw [q_bind, show b s = some (.ok .nx st') from h]
      rfl
theorem for_ret {tg : Tgt} {b : M Fl} {x : D} {xs : List D} {st st' : MP.St} {w : CW} (h : turnF tg b x st = some (.ok (.ret w) st')) : forF tg b (x :: xs) st = some (.ok (.ret w) st') := by
  rw [q_for]
  unfold turnF at h
  cases e : putTgt tg x st with
  | none => rw [e] at h; cases h
  | some r =>
    rw [e] at h
    cases r with
    | exc c s => cases h
    | ok u s =>
      show M.bind b (forK (forF tg b xs)) s = _
      rw [q_bind, show b s = some (.ok (.ret w) st') from h]
      rfl
/-- a loop that folds -/
theorem for_fold {α : Type} {tg : Tgt} {b : M Fl} (S : α → MP.St) (f : α → D → α) : ∀ (xs : List D) (P : List D → α → Prop), (∀ x ys a, P (x :: ys) a → turnF tg b x (S a) = some (.ok .nx (S (f a x))) ∧ P ys (f a x)) → ∀ a, P xs a → forF tg b xs (S a) = some (.ok .nx (S (xs.foldl f a)))
  | [], P, h, a, p => rfl
  | x :: xs, P, h, a, p => by
    rw [for_turn (h x xs a p).1, List.foldl_cons]
    exact for_fold S f xs P h (f a x) (h x xs a p).2
/-- a loop by an invariant -/
theorem for_inv {tg : Tgt} {b : M Fl} (P : List D → MP.St → Prop) (h : ∀ x ys st, P (x :: ys) st → ∃ st', turnF tg b x st = some (.ok .nx st') ∧ P ys st') : ∀ (xs : List D) (st : MP.St), P xs st → ∃ st', forF tg b xs st = some (.ok .nx st') ∧ P [] st'
  | [], st, p => ⟨st, rfl, p⟩
  | x :: xs, st, p => by
    obtain ⟨st1, h1, p1⟩ := h x xs st p
    obtain ⟨st2, h2, p2⟩ := for_inv P h xs st1 p1
    exact ⟨st2, by rw [for_turn h1, h2], p2⟩
/-! ### comprehensions -/
theorem compF_f {tg : Tgt} {v : List Slot} {c : M Bool} {e : M D} {x : D} {xs : List D} {s : List Cell} {st1 st2 : MP.St} (h1 : putTgt tg x ⟨v, s⟩ = some (.ok () st1)) (h2 : c st1 = some (.ok false st2)) : compF tg v c e (x :: xs) s = compF tg v c e xs st2.s := by
  rw [compF]
  simp only [h1, h2]
theorem compF_t {tg : Tgt} {v : List Slot} {c : M Bool} {e : M D} {x d : D} {xs : List D} {s : List Cell} {st1 st2 st3 : MP.St} (h1 : putTgt tg x ⟨v, s⟩ = some (.ok () st1)) (h2 : c st1 = some (.ok true st2)) (h3 : e st2 = some (.ok d st3)) (h4 : noMut d = true) :
    compF tg v c e (x :: xs) s = (compF tg v c e xs st3.s).map fun r => (d :: r.1, r.2) := by
  rw [compF]
  simp only [h1, h2, h3, h4, if_true]
/-- each item by itself, the objects by reference as they were -/
theorem comp_one {i : Nat} {v : List Slot} {c : M Bool} {e : M D} {s : List Cell} {p : D → Bool} {f : D → D} (hi : i < v.length) : ∀ (xs : List D), (∀ x ∈ xs, c ⟨v.set i (.val x), s⟩ = some (.ok (p x) ⟨v.set i (.val x), s⟩)) →
    (∀ x ∈ xs, p x = true → e ⟨v.set i (.val x), s⟩ = some (.ok (f x) ⟨v.set i (.val x), s⟩) ∧ noMut (f x) = true) → compF (.one i) v c e xs s = some ((xs.filter p).map f, s)
  | [], _, _ => rfl
  | x :: xs, hc, he => by
    have ih := comp_one (p := p) (f := f) hi xs (fun y hy => hc y (List.mem_cons_of_mem _ hy)) fun y hy => he y (List.mem_cons_of_mem _ hy)
    have e1 : putTgt (.one i) x ⟨v, s⟩ = some (.ok () ⟨v.set i (.val x), s⟩) := if_pos hi
    have h0 := hc x (List.mem_cons_self ..)
    cases hp : p x with
    | false =>
      rw [hp] at h0
      rw [compF_f e1 h0, List.filter_cons_of_neg (by rw [hp]; exact Bool.false_ne_true)]
      exact ih
    | true =>
      rw [hp] at h0
      obtain ⟨h1, h2⟩ := he x (List.mem_cons_self ..) hp
      rw [compF_t e1 h0 h1 h2, List.filter_cons_of_pos hp]
      show (compF (.one i) v c e xs s).map _ = _
      rw [ih]
      rfl
def pairD (x : D × D) : D := .tuple [x.1, x.2]
theorem comp_two {i j : Nat} {v : List Slot} {c : M Bool} {e : M D} {s : List Cell} {p : D × D → Bool} {f : D × D → D} (hi : i < v.length) (hj : j < v.length) : ∀ (xs : List (D × D)), (∀ x ∈ xs, c ⟨(v.set i (.val x.1)).set j (.val x.2), s⟩ = some (.ok (p x) ⟨(v.set i (.val x.1)).set j (.val x.2), s⟩)) →
    (∀ x ∈ xs, p x = true → e ⟨(v.set i (.val x.1)).set j (.val x.2), s⟩ = some (.ok (f x) ⟨(v.set i (.val x.1)).set j (.val x.2), s⟩) ∧ noMut (f x) = true) →
    compF (.many [i, j]) v c e (xs.map pairD) s = some ((xs.filter p).map f, s)
  | [], _, _ => rfl
  | x :: xs, hc, he => by
    have ih := comp_two (p := p) (f := f) hi hj xs (fun y hy => hc y (List.mem_cons_of_mem _ hy)) fun y hy => he y (List.mem_cons_of_mem _ hy)
    have e1 : putTgt (.many [i, j]) (pairD x) ⟨v, s⟩ = some (.ok () ⟨(v.set i (.val x.1)).set j (.val x.2), s⟩) := by
      show bindR (putSlot i (.val x.1) ⟨v, s⟩) (fun _ => putSlots [j] [.val x.2]) = _
      rw [s_put, if_pos hi]
      show bindR (putSlot j (.val x.2) ⟨v.set i (.val x.1), s⟩) (fun _ => putSlots [] []) = _
      rw [s_put, if_pos (by rw [List.length_set]; exact hj)]
      rfl
    have h0 := hc x (List.mem_cons_self ..)
    rw [List.map_cons]
    cases hp : p x with
    | false =>
      rw [hp] at h0
      rw [compF_f e1 h0, List.filter_cons_of_neg (by rw [hp]; exact Bool.false_ne_true)]
      exact ih
    | true =>
      rw [hp] at h0
      obtain ⟨h1, h2⟩ := he x (List.mem_cons_self ..) hp
      rw [compF_t e1 h0 h1 h2, List.filter_cons_of_pos hp]
      show (compF (.many [i, j]) v c e (xs.map pairD) s).map _ = _
      rw [ih]
      rfl
/-- each item changes the objects by reference -/
theorem comp_inv {cf : CallF} {i : Nat} {v : List Slot} {e : M D} (I : List Cell → Nat → Prop) (Q : D → Prop) (hi : i < v.length) : ∀ (xs : List D) (s : List Cell) (n : Nat), I s n → (∀ x ∈ xs, ∀ s n, I s n → ∃ d v' s', e ⟨v.set i (.val x), s⟩ = some (.ok d ⟨v', s'⟩) ∧ noMut d = true ∧ Q d ∧ I s' (n + 1)) →
    ∃ ds s', compF (.one i) v (evC cf .no) e xs s = some (ds, s') ∧ ds.length = xs.length ∧ (∀ d ∈ ds, Q d) ∧ I s' (n + xs.length)
  | [], s, n, h, _ => ⟨[], s, rfl, rfl, by simp, h⟩
  | x :: xs, s, n, h, he => by
    obtain ⟨d, v', s1, h1, h2, h3, h4⟩ := he x (List.mem_cons_self ..) s n h
    obtain ⟨ds, s2, k1, k2, k3, k4⟩ := comp_inv (cf := cf) I Q hi xs s1 (n + 1) h4 fun y hy => he y (List.mem_cons_of_mem _ hy)
    refine ⟨d :: ds, s2, ?_, by simp [k2], fun y hy => ?_, ?_⟩
    · have e1 : putTgt (.one i) x ⟨v, s⟩ = some (.ok () ⟨v.set i (.val x), s⟩) := if_pos hi
      rw [compF_t e1 (show evC cf .no ⟨v.set i (.val x), s⟩ = some (.ok true ⟨v.set i (.val x), s⟩) from rfl) h1 h2]
      show (compF (.one i) v (evC cf .no) e xs s1).map _ = _
      rw [k1]
      rfl
    · rcases List.mem_cons.mp hy with z | z
      · rw [z]; exact h3
      · exact k3 y z
    · rw [List.length_cons]
      have : n + (xs.length + 1) = n + 1 + xs.length := by omega
      rw [this]
      exact k4
/-! ### whole numbers -/
abbrev ti (ns : List Int) : D := .tuple (ns.map PyData.int)
abbrev li (ns : List Int) : D := .list (ns.map PyData.int)
theorem e_int (i j : Int) : PyData.eqv (.int i) (.int j) = decide (i = j) := by
  show (i == j) = _
  by_cases h : i = j <;> simp [h]
theorem e_all (a : List Int) : ∀ b : List Int, PyData.eqvAll (a.map PyData.int) (b.map PyData.int) = decide (a = b) := by
  induction a with
  | nil => intro b; cases b <;> rfl
  | cons x a ih =>
    intro b
    cases b with
    | nil => rfl
    | cons y b =>
      show (PyData.eqv (.int x) (.int y) && PyData.eqvAll (a.map PyData.int) (b.map PyData.int)) = _
      rw [e_int, ih b]
      by_cases h1 : x = y <;> by_cases h2 : a = b <;> simp [h1, h2]
theorem e_ti (a b : List Int) : PyData.eqv (.tuple (a.map PyData.int)) (.tuple (b.map PyData.int)) = decide (a = b) := e_all a b
theorem e_li (a b : List Int) : PyData.eqv (.list (a.map PyData.int)) (.list (b.map PyData.int)) = decide (a = b) := e_all a b
theorem e_any (ns : List Int) (i : Int) : ((ns.map PyData.int).any fun z => PyData.eqv z (.int i)) = decide (i ∈ ns) := by
  rw [List.any_map]
  by_cases h : i ∈ ns
  · rw [decide_eq_true h]
    exact List.any_eq_true.mpr ⟨i, h, by show PyData.eqv (.int i) (.int i) = true; rw [e_int]; exact decide_eq_true rfl⟩
  · rw [decide_eq_false h]
    refine List.any_eq_false.mpr fun x hx => ?_
    show ¬ PyData.eqv (.int x) (.int i) = true
    rw [e_int]
    simp only [decide_eq_true_eq]
    exact fun e => h (e ▸ hx)
theorem lay_ints : ∀ ns : List Int, PyData.canLayAll0 (ns.map PyData.int) = true
  | [] => rfl
  | n :: ns => by
    show (true && PyData.canLayAll0 (ns.map PyData.int)) = true
    rw [lay_ints ns]
    rfl
theorem dep_ints : ∀ ns : List Int, PyData.depthAll (ns.map PyData.int) = 0
  | [] => by unfold PyData.depthAll; rfl
  | n :: ns => by
    rw [List.map_cons]
    unfold PyData.depthAll PyData.depth
    rw [dep_ints ns]
    rfl
theorem sh_ti (ns : List Int) : SeqAt.shaped (.tuple (ns.map PyData.int)) = true := by
  unfold SeqAt.shaped
  rw [Bool.and_eq_true]
  refine ⟨lay_ints ns, decide_eq_true ?_⟩
  unfold PyData.depth
  rw [dep_ints]
  decide
theorem sh_li (ns : List Int) : SeqAt.shaped (.list (ns.map PyData.int)) = true := by
  unfold SeqAt.shaped
  rw [Bool.and_eq_true]
  refine ⟨lay_ints ns, decide_eq_true ?_⟩
  unfold PyData.depth
  rw [dep_ints]
  decide
theorem sh_int (i : Int) : SeqAt.shaped (.int i) = true := by
  unfold SeqAt.shaped PyData.depth
  rfl
theorem sh_bool (i : Bool) : SeqAt.shaped (.bool i) = true := by
  unfold SeqAt.shaped PyData.depth
  rfl
theorem sh_none : SeqAt.shaped .none = true := by
  unfold SeqAt.shaped PyData.depth
  rfl
theorem at_nat (xs : List D) (i : Nat) : atD xs (i : Nat) = xs[i]? := by
  unfold atD ixD
  rw [if_pos (Int.natCast_nonneg i)]
  by_cases h : i < xs.length
  · rw [if_pos (Int.ofNat_lt.mpr h)]
    rfl
  · rw [if_neg (fun z => h (Int.ofNat_lt.mp z)), List.getElem?_eq_none (by omega)]
    rfl
theorem at_0 {x : D} {xs : List D} : atD (x :: xs) 0 = some x := at_nat (x :: xs) 0
theorem at_1 {x y : D} {xs : List D} : atD (x :: y :: xs) 1 = some y := at_nat (x :: y :: xs) 1
theorem at_2 {x y z : D} {xs : List D} : atD (x :: y :: z :: xs) 2 = some z := at_nat (x :: y :: z :: xs) 2
theorem at_3 {x y z u : D} {xs : List D} : atD (x :: y :: z :: u :: xs) 3 = some u := at_nat (x :: y :: z :: u :: xs) 3
theorem at_last (xs : List D) : atD xs (-1) = xs[xs.length - 1]? := by
  unfold atD ixD
  rw [if_neg (by decide)]
  by_cases h : 0 < xs.length
  · rw [if_pos (by omega)]
    show xs[(-1 + (xs.length : Int)).toNat]? = _
    have e : (-1 + (xs.length : Int)).toNat = xs.length - 1 := by omega
    rw [e]
  · rw [if_neg (by omega), List.getElem?_eq_none (by omega)]
    rfl
theorem ix_in {n j : Nat} (h : j < n) : ixD n (j : Nat) = some j := by
  unfold ixD
  rw [if_pos (Int.natCast_nonneg j), if_pos (Int.ofNat_lt.mpr h)]
  rfl
theorem set_nat {xs : List D} {j : Nat} {y : D} (h : j < xs.length) : setD (.list xs) (.int (j : Nat)) y = some (.lst (xs.set j y)) := by
  show (ixD xs.length (j : Nat)).map _ = _
  rw [ix_in h]
  rfl
theorem set_0 {x y : D} {xs : List D} : setD (.list (x :: xs)) (.int 0) y = some (.lst (y :: xs)) := set_nat (j := 0) (Nat.succ_pos _)
theorem set_2 {x x2 x3 y : D} {xs : List D} : setD (.list (x :: x2 :: x3 :: xs)) (.int 2) y = some (.lst (x :: x2 :: y :: xs)) := set_nat (j := 2) (by simp)
theorem n_cell {xs : List D} : noMutC (.lst xs) = noMutL xs := rfl
theorem ai_map (ns : List Int) : allInts (ns.map PyData.int) = some ns := allInts_map ns
theorem ab_map : ∀ bs : List Bool, allBools (bs.map PyData.bool) = some bs
  | [] => rfl
  | b :: bs => by
    show (allBools (bs.map PyData.bool)).map (b :: ·) = _
    rw [ab_map bs]
    rfl
/-- a[:hi] -/
theorem cut_to (xs : List D) (k : Nat) : cutD xs none (some (k : Nat)) = xs.take k := by
  unfold cutD
  rw [HT.sIx_nat]
  show (xs.drop 0).take (min k xs.length - 0) = _
  rw [List.drop_zero, Nat.sub_zero]
  by_cases h : k ≤ xs.length
  · rw [Nat.min_eq_left h]
  · rw [Nat.min_eq_right (by omega), List.take_length, List.take_of_length_le (by omega)]
/-- a[lo:] -/
theorem cut_from (xs : List D) (k : Nat) : cutD xs (some (k : Nat)) none = xs.drop k := by
  unfold cutD
  rw [HT.sIx_nat]
  show (xs.drop (min k xs.length)).take (xs.length - min k xs.length) = _
  by_cases h : k ≤ xs.length
  · rw [Nat.min_eq_left h, List.take_of_length_le (by rw [List.length_drop]; exact Nat.le_refl _)]
  · rw [Nat.min_eq_right (by omega), List.drop_length, List.drop_of_length_le (by omega)]
    simp
theorem rng_get (a b : Int) {x : D} (h : x ∈ rngD a b) : ∃ i : Int, x = .int i ∧ a ≤ i ∧ i < b := by
  unfold rngD at h
  obtain ⟨k, hk, rfl⟩ := List.mem_map.mp h
  have := List.mem_range.mp hk
  exact ⟨a + (k : Nat), rfl, by omega, by omega⟩
theorem w_nil {v : List Slot} : wipeS v [] = v := rfl
theorem w_cons {v : List Slot} {i : Nat} {is : List Nat} : wipeS v (i :: is) = wipeS (v.set i .un) is := rfl
theorem w_bv {d : D} : Slot.borrow (.val d) = .val d := rfl
theorem w_bo {c : Cell} : Slot.borrow (.own c) = .val c.d := rfl
theorem w_bu : Slot.borrow .un = .un := rfl
theorem w_bl {n : Nat} : Slot.borrow (.loc n) = .loc n := rfl
theorem w_t1 {i : Nat} : tgtIs (.one i) = [i] := rfl
theorem w_tM {is : List Nat} : tgtIs (.many is) = is := rfl
theorem y_none_I : isiD (.none) ["int"] = some false := rfl
theorem y_none_B : isiD (.none) ["bool"] = some false := rfl
theorem y_none_T : isiD (.none) ["tuple"] = some false := rfl
theorem y_none_L : isiD (.none) ["list"] = some false := rfl
theorem y_none_S : isiD (.none) ["str"] = some false := rfl
theorem y_none_BLT : isiD (.none) ["bool", "list", "tuple"] = some false := rfl
theorem y_bool_I {b : Bool} : isiD (.bool b) ["int"] = some true := rfl
theorem y_bool_B {b : Bool} : isiD (.bool b) ["bool"] = some true := rfl
theorem y_bool_T {b : Bool} : isiD (.bool b) ["tuple"] = some false := rfl
theorem y_bool_L {b : Bool} : isiD (.bool b) ["list"] = some false := rfl
theorem y_bool_S {b : Bool} : isiD (.bool b) ["str"] = some false := rfl
theorem y_bool_BLT {b : Bool} : isiD (.bool b) ["bool", "list", "tuple"] = some true := rfl
theorem y_int_I {i : Int} : isiD (.int i) ["int"] = some true := rfl
theorem y_int_B {i : Int} : isiD (.int i) ["bool"] = some false := rfl
theorem y_int_T {i : Int} : isiD (.int i) ["tuple"] = some false := rfl
theorem y_int_L {i : Int} : isiD (.int i) ["list"] = some false := rfl
theorem y_int_S {i : Int} : isiD (.int i) ["str"] = some false := rfl
theorem y_int_BLT {i : Int} : isiD (.int i) ["bool", "list", "tuple"] = some false := rfl
theorem y_str_I {z : Str} : isiD (.str z) ["int"] = some false := rfl
theorem y_str_B {z : Str} : isiD (.str z) ["bool"] = some false := rfl
theorem y_str_T {z : Str} : isiD (.str z) ["tuple"] = some false := rfl
theorem y_str_L {z : Str} : isiD (.str z) ["list"] = some false := rfl
theorem y_str_S {z : Str} : isiD (.str z) ["str"] = some true := rfl
theorem y_str_BLT {z : Str} : isiD (.str z) ["bool", "list", "tuple"] = some false := rfl
theorem y_list_I {xs : List D} : isiD (.list xs) ["int"] = some false := rfl
theorem y_list_B {xs : List D} : isiD (.list xs) ["bool"] = some false := rfl
theorem y_list_T {xs : List D} : isiD (.list xs) ["tuple"] = some false := rfl
theorem y_list_L {xs : List D} : isiD (.list xs) ["list"] = some true := rfl
theorem y_list_S {xs : List D} : isiD (.list xs) ["str"] = some false := rfl
theorem y_list_BLT {xs : List D} : isiD (.list xs) ["bool", "list", "tuple"] = some true := rfl
theorem y_tuple_I {xs : List D} : isiD (.tuple xs) ["int"] = some false := rfl
theorem y_tuple_B {xs : List D} : isiD (.tuple xs) ["bool"] = some false := rfl
theorem y_tuple_T {xs : List D} : isiD (.tuple xs) ["tuple"] = some true := rfl
theorem y_tuple_L {xs : List D} : isiD (.tuple xs) ["list"] = some false := rfl
theorem y_tuple_S {xs : List D} : isiD (.tuple xs) ["str"] = some false := rfl
theorem y_tuple_BLT {xs : List D} : isiD (.tuple xs) ["bool", "list", "tuple"] = some true := rfl
theorem dedup_len : ∀ (ns acc : List Int), (ns.foldl (fun acc n => if acc.contains n then acc else acc ++ [n]) acc).length ≤ acc.length + ns.length ∧
    ((ns.foldl (fun acc n => if acc.contains n then acc else acc ++ [n]) acc).length = acc.length + ns.length → ns.Nodup ∧ ∀ x ∈ ns, x ∉ acc)
  | [], acc => ⟨Nat.le_refl _, fun _ => ⟨List.Pairwise.nil, by simp⟩⟩
  | n :: ns, acc => by
    rw [List.foldl_cons, List.length_cons]
    by_cases h : acc.contains n = true
    · rw [if_pos h]
      obtain ⟨h1, h2⟩ := dedup_len ns acc
      exact ⟨by omega, fun e => by omega⟩
    · rw [if_neg h]
      obtain ⟨h1, h2⟩ := dedup_len ns (acc ++ [n])
      rw [List.length_append, List.length_singleton] at h1 h2
      refine ⟨by omega, fun e => ?_⟩
      obtain ⟨h3, h4⟩ := h2 (by omega)
      refine ⟨List.nodup_cons.mpr ⟨fun hn => h4 n hn (List.mem_append_right _ (List.mem_singleton.mpr rfl)), h3⟩, fun x hx => ?_⟩
      rcases List.mem_cons.mp hx with rfl | hx
      · exact fun z => h (List.contains_iff_mem.mpr z)
      · exact fun z => h4 x hx (List.mem_append_left _ z)
theorem dedup_nodup (ns : List Int) : decide (((dedup ns).length : Int) = (ns.length : Int)) = decide ns.Nodup := by
  obtain ⟨h1, h2⟩ := dedup_spec ns
  by_cases h : ns.Nodup
  · rw [decide_eq_true h, same_len h1 h h2]
    exact decide_eq_true rfl
  · rw [decide_eq_false h]
    exact decide_eq_false fun e => h ((dedup_len ns []).2 (by show (dedup ns).length = 0 + ns.length; omega)).1
theorem fl_int {i : Int} : flatD (.int i) = true := rfl
theorem fl_bool {i : Bool} : flatD (.bool i) = true := rfl
theorem fl_none : flatD .none = true := rfl
theorem fl_str {z : Str} : flatD (.str z) = true := rfl
abbrev FT := List Slot → List Cell → Option CR
abbrev vI (i : Int) : Slot := .val (.int i)
abbrev vT (ns : List Int) : Slot := .val (ti ns)
abbrev okB (b : Bool) (s : List Cell) : Option CR := some (.ok (.d (.bool b)) s)
theorem q_runF {L : Defs} {n : Nat} {f : Str} {d : Def} (h : L.lookup f = some d) : run L.f (n + 1) f = runD (run L.f n) d := by
  funext as s
  exact q_run h
/-- a loop over whole numbers that folds; sl: what the loop's variable holds -/
theorem for_ints {α : Type} {tg : Tgt} {b : M Fl} (S : α → Slot → MP.St) (f : α → Int → α) (P : List Int → α → Prop) (h : ∀ j ys a sl, P (j :: ys) a → turnF tg b (.int j) (S a sl) = some (.ok .nx (S (f a j) (.val (.int j)))) ∧ P ys (f a j)) :
    ∀ (ns : List Int) (a : α) (sl : Slot), P ns a → ∃ sl', forF tg b (ns.map PyData.int) (S a sl) = some (.ok .nx (S (ns.foldl f a) sl'))
  | [], a, sl, p => ⟨sl, rfl⟩
  | n :: ns, a, sl, p => by
    obtain ⟨h1, h2⟩ := h n ns a sl p
    obtain ⟨sl', h3⟩ := for_ints S f P h ns (f a n) (.val (.int n)) h2
    exact ⟨sl', by rw [List.map_cons, for_turn h1, h3]; rfl⟩
theorem k_ne1 : ((1 : Nat) != 1) = false := rfl
theorem k_ne2 : ((2 : Nat) != 2) = false := rfl
theorem sh_str {z : Str} (h : PyData.strOk z = true) : SeqAt.shaped (.str z) = true := by
  unfold SeqAt.shaped PyData.depth
  rw [Bool.and_eq_true]
  exact ⟨h, rfl⟩
theorem e_bool (a b : Bool) : PyData.eqv (.bool a) (.bool b) = decide (a = b) := by cases a <;> cases b <;> rfl
theorem e_str (a b : Str) : PyData.eqv (.str a) (.str b) = decide (a = b) := by
  show (a == b) = _
  by_cases h : a = b <;> simp [h]
theorem z_kL {xs ys : List D} : zipK (.list xs) (.list ys) = some (xs, ys) := rfl
theorem z_kT {xs ys : List D} : zipK (.tuple xs) (.tuple ys) = some (xs, ys) := rfl
/-! ### ranges and comprehensions over whole numbers -/
def rngI (a b : Int) : List Int := (List.range (b - a).toNat).map fun i => a + (i : Nat)
theorem rng_map (a b : Int) : rngD a b = (rngI a b).map PyData.int := by
  unfold rngD rngI
  rw [List.map_map]
  rfl
theorem rngI_length (a b : Int) : (rngI a b).length = (b - a).toNat := by unfold rngI; rw [List.length_map, List.length_range]
theorem mem_rngI {a b x : Int} : x ∈ rngI a b ↔ a ≤ x ∧ x < b := by
  unfold rngI
  rw [List.mem_map]
  constructor
  · rintro ⟨k, hk, rfl⟩
    have := List.mem_range.mp hk
    omega
  · rintro ⟨h1, h2⟩
    exact ⟨(x - a).toNat, List.mem_range.mpr (by omega), by omega⟩
theorem comp_ints {i : Nat} {v : List Slot} {c : M Bool} {e : M D} {s : List Cell} (p : Int → Bool) (f : Int → D) (hi : i < v.length) (ns : List Int) (hc : ∀ x ∈ ns, c ⟨v.set i (.val (.int x)), s⟩ = some (.ok (p x) ⟨v.set i (.val (.int x)), s⟩))
    (he : ∀ x ∈ ns, p x = true → e ⟨v.set i (.val (.int x)), s⟩ = some (.ok (f x) ⟨v.set i (.val (.int x)), s⟩) ∧ noMut (f x) = true) : compF (.one i) v c e (ns.map PyData.int) s = some ((ns.filter p).map f, s) := by
  have := comp_one (c := c) (e := e) (s := s) (p := fun x => match x with | .int j => p j | _ => false) (f := fun x => match x with | .int j => f j | _ => .none) hi (ns.map PyData.int) (fun x hx => by
    obtain ⟨j, hj, rfl⟩ := List.mem_map.mp hx
    exact hc j hj) fun x hx hp => by
    obtain ⟨j, hj, rfl⟩ := List.mem_map.mp hx
    exact he j hj hp
  rw [this, List.filter_map, List.map_map]
  rfl
theorem cut_ints (ns : List Int) {c : Int} (h : 0 ≤ c) : cutD (ns.map PyData.int) none (some c) = (ns.take c.toNat).map PyData.int := by
  have e : c = (c.toNat : Nat) := by omega
  rw [e, cut_to, List.map_take]
  rfl
theorem cut_intsF (ns : List Int) {c : Int} (h : 0 ≤ c) : cutD (ns.map PyData.int) (some c) none = (ns.drop c.toNat).map PyData.int := by
  have e : c = (c.toNat : Nat) := by omega
  rw [e, cut_from, List.map_drop]
  rfl
theorem e_tnil (ns : List Int) : PyData.eqv (.tuple (ns.map PyData.int)) (.tuple []) = decide (ns = []) := e_ti ns []
theorem e_lnil (ns : List Int) : PyData.eqv (.list (ns.map PyData.int)) (.list []) = decide (ns = []) := e_li ns []
theorem sh_tnil : SeqAt.shaped (.tuple []) = true := sh_ti []
theorem sh_lnil : SeqAt.shaped (.list []) = true := sh_li []
theorem at_intsL (ns : List Int) (h : ns ≠ []) : atD (ns.map PyData.int) (-1) = some (.int (ns.getLast h)) := by
  rw [at_last, List.length_map, List.getElem?_map, ← List.getLast?_eq_getElem?, List.getLast?_eq_getLast h]
  rfl
theorem at_ints (ns : List Int) {i : Nat} (h : i < ns.length) : atD (ns.map PyData.int) (i : Nat) = some (.int ns[i]) := by
  rw [at_nat, List.getElem?_map, List.getElem?_eq_getElem h]
  rfl
theorem at_intsH (ns : List Int) (h : ns ≠ []) : atD (ns.map PyData.int) 0 = some (.int (ns.head h)) := by
  cases ns with
  | nil => exact absurd rfl h
  | cons n ns => exact at_0
theorem e_lnn : PyData.eqv (.list []) (.list []) = true := rfl
theorem e_tnn : PyData.eqv (.tuple []) (.tuple []) = true := rfl
end MP
/-! MD: the defs of the program and of the laws in the small language (printed by gen.py). -/
namespace MP
def d__wall : Def := ⟨1, ["k"], .cons (.whl (.con (.bool true)) (.cons .pass .nil)) .nil⟩
def d_is_integer : Def := ⟨1, ["value"], .cons (.ret (.and (.isi (.var 0) ["int"]) (.one (.not (.isi (.var 0) ["bool"]))))) .nil⟩
def d_in_range : Def := ⟨3, ["value", "low", "high"], .cons (.ret (.and (.call "is_integer" (.var 0) .nil) (.one (.chain .LtE .LtE (.var 1) (.var 0) (.var 2))))) .nil⟩
def d_is_item : Def := ⟨1, ["value"], .cons (.ret (.call "in_range" (.var 0) (.cons (.con (.int 0)) (.cons (.con (.int 99)) .nil)))) .nil⟩
def d_is_list : Def := ⟨1, ["value", "item"], .cons (.ifs (.or (.not (.isi (.var 0) ["tuple"])) (.or (.not (.chain .LtE .LtE (.con (.int 1)) (.blt .len (.var 0)) (.glo "MAX_ITEMS" 10))) (.one (.not (.blt .all (.comp (.call "is_item" (.var 1) .nil) (.one 1) (.over (.var 0)) .no)))))) (.cons (.ret (.con (.bool false))) .nil) .nil) (.cons (.ret (.cmp .Eq (.lens (.var 0)) (.blt .len (.var 0)))) .nil)⟩
def d_check_list : Def := ⟨1, ["items"], .cons (.ifs (.not (.call "is_list" (.var 0) .nil)) (.cons (.rai "InvalidList") .nil) .nil) .nil⟩
def d_check_target : Def := ⟨2, ["items", "target"], .cons (.expr (.call "check_list" (.var 0) .nil)) (.cons (.ifs (.or (.not (.call "is_list" (.var 1) .nil)) (.one (.cmp .NotEq (.blt .sorted (.var 1)) (.blt .sorted (.var 0))))) (.cons (.rai "InvalidList") .nil) .nil) .nil)⟩
def d_check_member : Def := ⟨2, ["items", "item"], .cons (.ifs (.or (.not (.call "is_item" (.var 1) .nil)) (.one (.cmp .NotIn (.var 1) (.var 0)))) (.cons (.rai "InvalidItem") .nil) .nil) .nil⟩
def d_check_uses : Def := ⟨2, ["items", "uses", "item"], .cons (.ifs (.or (.not (.isi (.var 1) ["tuple"])) (.one (.cmp .Gt (.blt .len (.var 1)) (.glo "MAX_USES" 60)))) (.cons (.rai "InvalidUses") .nil) .nil) (.cons (.ifs (.not (.blt .all (.comp (.and (.call "is_item" (.var 2) .nil) (.one (.cmp .In (.var 2) (.var 0)))) (.one 2) (.over (.var 1)) .no))) (.cons (.rai "InvalidUses") .nil) .nil) .nil)⟩
def d_check_positions : Def := ⟨3, ["size", "positions", "most", "position"], .cons (.ifs (.or (.not (.isi (.var 1) ["tuple"])) (.one (.cmp .Gt (.blt .len (.var 1)) (.var 2)))) (.cons (.rai "InvalidPositions") .nil) .nil) (.cons (.ifs (.not (.blt .all (.comp (.call "in_range" (.var 3) (.cons (.con (.int 0)) (.cons (.bin .Sub (.var 0) (.con (.int 1))) .nil))) (.one 3) (.over (.var 1)) .no))) (.cons (.rai "InvalidPositions") .nil) .nil) .nil)⟩
def d_check_count : Def := ⟨3, ["value", "low", "high"], .cons (.ifs (.not (.call "in_range" (.var 0) (.cons (.var 1) (.cons (.var 2) .nil)))) (.cons (.rai "InvalidCount") .nil) .nil) .nil⟩
def d_to_front : Def := ⟨2, ["items", "item", "other"], .cons (.ret (.bin .Add (.tup (.cons (.var 1) .nil)) (.blt .tuple (.comp (.var 2) (.one 2) (.over (.var 0)) (.yes (.cmp .NotEq (.var 2) (.var 1))))))) .nil⟩
def d_after : Def := ⟨2, ["items", "uses", "item"], .cons (.loop (.one 2) (.over (.var 1)) (.cons (.asg 0 (.call "to_front" (.var 0) (.cons (.var 2) .nil))) .nil)) (.cons (.ret (.var 0)) .nil)⟩
def d_use_all : Def := ⟨2, ["items", "uses"], .cons (.expr (.call "check_list" (.var 0) .nil)) (.cons (.expr (.call "check_uses" (.var 0) (.cons (.var 1) .nil))) (.cons (.ret (.call "after" (.var 0) (.cons (.var 1) .nil))) .nil))⟩
def d_positions_of : Def := ⟨2, ["items", "uses", "found", "item"], .cons (.asg 2 (.lst .nil)) (.cons (.loop (.one 3) (.over (.var 1)) (.cons (.expr (.mth .append (.var 2) (.cons (.mth .index (.var 0) (.cons (.var 3) .nil)) .nil))) (.cons (.asg 0 (.call "to_front" (.var 0) (.cons (.var 3) .nil))) .nil))) (.cons (.ret (.var 2)) .nil))⟩
def d_find_positions : Def := ⟨2, ["items", "uses"], .cons (.expr (.call "check_list" (.var 0) .nil)) (.cons (.expr (.call "check_uses" (.var 0) (.cons (.var 1) .nil))) (.cons (.ret (.call "positions_of" (.var 0) (.cons (.var 1) .nil))) .nil))⟩
def d_items_at : Def := ⟨2, ["items", "positions", "found", "position"], .cons (.asg 2 (.tup .nil)) (.cons (.loop (.one 3) (.over (.var 1)) (.cons (.asg 2 (.bin .Add (.var 2) (.tup (.cons (.idx (.var 0) (.var 3)) .nil)))) (.cons (.asg 0 (.call "to_front" (.var 0) (.cons (.idx (.var 0) (.var 3)) .nil))) .nil))) (.cons (.ret (.var 2)) .nil))⟩
def d_uses_at : Def := ⟨2, ["items", "positions"], .cons (.expr (.call "check_list" (.var 0) .nil)) (.cons (.expr (.call "check_positions" (.blt .len (.var 0)) (.cons (.var 1) (.cons (.glo "MAX_USES" 60) .nil)))) (.cons (.ret (.call "items_at" (.var 0) (.cons (.var 1) .nil))) .nil))⟩
def d_last_order : Def := ⟨1, ["uses", "found", "item"], .cons (.asg 1 (.tup .nil)) (.cons (.loop (.one 2) (.over (.rev (.var 0))) (.cons (.ifs (.cmp .NotIn (.var 2) (.var 1)) (.cons (.asg 1 (.bin .Add (.var 1) (.tup (.cons (.var 2) .nil)))) .nil) .nil) .nil)) (.cons (.ret (.var 1)) .nil))⟩
def d_full_order : Def := ⟨2, ["items", "uses", "order", "rest", "item"], .cons (.asg 2 (.call "last_order" (.var 1) .nil)) (.cons (.asg 3 (.blt .tuple (.comp (.var 4) (.one 4) (.over (.var 0)) (.yes (.cmp .NotIn (.var 4) (.var 2)))))) (.cons (.ret (.ifx (.cmp .Eq (.blt .len (.var 3)) (.con (.int 1))) (.bin .Add (.var 2) (.var 3)) (.var 2))) .nil))⟩
def d_same_effect : Def := ⟨3, ["items", "first", "second"], .cons (.expr (.call "check_list" (.var 0) .nil)) (.cons (.expr (.call "check_uses" (.var 0) (.cons (.var 1) .nil))) (.cons (.expr (.call "check_uses" (.var 0) (.cons (.var 2) .nil))) (.cons (.ret (.cmp .Eq (.call "full_order" (.var 0) (.cons (.var 1) .nil)) (.call "full_order" (.var 0) (.cons (.var 2) .nil)))) .nil)))⟩
def d_distinguishing_list : Def := ⟨3, ["items", "first", "second", "left", "right", "ordered", "far", "last", "rest", "place", "moved", "item"], .cons (.expr (.call "check_list" (.var 0) .nil)) (.cons (.expr (.call "check_uses" (.var 0) (.cons (.var 1) .nil))) (.cons (.expr (.call "check_uses" (.var 0) (.cons (.var 2) .nil))) (.cons (.par [3, 4] (.cons (.call "full_order" (.var 0) (.cons (.var 1) .nil)) (.cons (.call "full_order" (.var 0) (.cons (.var 2) .nil)) .nil))) (.cons (.asg 5 (.blt .tuple (.blt .sorted (.var 0)))) (.cons (.ifs (.cmp .Eq (.var 3) (.var 4)) (.cons (.ret (.con .none)) .nil) .nil) (.cons (.ifs (.cmp .NotEq (.call "after" (.var 5) (.cons (.var 1) .nil)) (.call "after" (.var 5) (.cons (.var 2) .nil))) (.cons (.ret (.var 5)) .nil) .nil) (.cons (.asg 6 (.ifx (.cmp .Gt (.blt .len (.var 3)) (.blt .len (.var 4))) (.var 3) (.var 4))) (.cons (.asg 6 (.sli (.var 6) .no (.yes (.bin .Sub (.blt .len (.var 0)) (.con (.int 1)))))) (.cons (.asg 7 (.idx (.var 6) (.neg (.con (.int 1))))) (.cons (.asg 8 (.comp (.var 11) (.one 11) (.over (.var 5)) (.yes (.cmp .NotIn (.var 11) (.var 6))))) (.cons (.asg 9 (.mth .index (.var 5) (.cons (.idx (.var 8) (.con (.int 0))) .nil))) (.cons (.asg 10 (.comp (.var 11) (.one 11) (.over (.sli (.var 5) .no (.yes (.bin .Add (.var 9) (.con (.int 1)))))) (.yes (.cmp .NotEq (.var 11) (.var 7))))) (.cons (.ret (.bin .Add (.bin .Add (.blt .tuple (.var 10)) (.tup (.cons (.var 7) .nil))) (.sli (.var 5) (.yes (.bin .Add (.var 9) (.con (.int 1)))) .no))) .nil)))))))))))))⟩
def d_needed_of : Def := ⟨2, ["items", "target", "places", "count", "item"], .cons (.asg 2 (.comp (.mth .index (.var 0) (.cons (.var 4) .nil)) (.one 4) (.over (.var 1)) .no)) (.cons (.asg 3 (.bin .Sub (.blt .len (.var 2)) (.con (.int 1)))) (.cons (.whl (.and (.cmp .Gt (.var 3) (.con (.int 0))) (.one (.cmp .Lt (.idx (.var 2) (.bin .Sub (.var 3) (.con (.int 1)))) (.idx (.var 2) (.var 3))))) (.cons (.asg 3 (.bin .Sub (.var 3) (.con (.int 1)))) .nil)) (.cons (.ret (.var 3)) .nil)))⟩
def d_needed : Def := ⟨2, ["items", "target"], .cons (.expr (.call "check_target" (.var 0) (.cons (.var 1) .nil))) (.cons (.ret (.call "needed_of" (.var 0) (.cons (.var 1) .nil))) .nil)⟩
def d_shortest_uses : Def := ⟨2, ["items", "target"], .cons (.expr (.call "check_target" (.var 0) (.cons (.var 1) .nil))) (.cons (.ret (.rev (.sli (.var 1) .no (.yes (.call "needed_of" (.var 0) (.cons (.var 1) .nil)))))) .nil)⟩
def d_presses : Def := ⟨2, ["items", "uses"], .cons (.expr (.call "check_list" (.var 0) .nil)) (.cons (.expr (.call "check_uses" (.var 0) (.cons (.var 1) .nil))) (.cons (.ret (.blt .sum (.call "positions_of" (.var 0) (.cons (.var 1) .nil)))) .nil))⟩
def d_fewest_presses : Def := ⟨2, ["items", "target", "ahead", "behind", "cost"], .cons (.expr (.call "check_target" (.var 0) (.cons (.var 1) .nil))) (.cons (.ret (.blt .sum (.comp (.var 4) (.many [2, 3, 4]) (.over (.call "costs_of" (.var 0) (.cons (.var 1) .nil))) .no))) .nil)⟩
def d_costs_of : Def := ⟨2, ["items", "target", "count", "found", "index", "ahead", "place", "behind", "was_ahead", "cost"], .cons (.par [2, 3] (.cons (.call "needed_of" (.var 0) (.cons (.var 1) .nil)) (.cons (.lst .nil) .nil))) (.cons (.loop (.many [4, 5]) (.enum (.sli (.var 1) .no (.yes (.var 2)))) (.cons (.loop (.many [6, 7]) (.enum (.var 1)) (.cons (.ifs (.cmp .Gt (.var 6) (.var 4)) (.cons (.asg 8 (.cmp .Lt (.mth .index (.var 0) (.cons (.var 5) .nil)) (.mth .index (.var 0) (.cons (.var 7) .nil)))) (.cons (.asg 9 (.ifx (.cmp .Lt (.var 6) (.var 2)) (.bin .Add (.con (.int 1)) (.blt .int (.var 8))) (.blt .int (.not (.var 8))))) (.cons (.ifs (.cmp .Gt (.var 9) (.con (.int 0))) (.cons (.expr (.mth .append (.var 3) (.cons (.tup (.cons (.var 5) (.cons (.var 7) (.cons (.var 9) .nil)))) .nil))) .nil) .nil) .nil))) .nil) .nil)) .nil)) (.cons (.ret (.srtT (.var 3))) .nil))⟩
def d_pair_costs : Def := ⟨2, ["items", "target"], .cons (.expr (.call "check_target" (.var 0) (.cons (.var 1) .nil))) (.cons (.ret (.call "costs_of" (.var 0) (.cons (.var 1) .nil))) .nil)⟩
def d_partitions : Def := ⟨2, ["count", "parts", "row", "turn", "longer", "index", "ways"], .cons (.asg 2 (.lst (.cons (.con (.int 1)) .nil))) (.cons (.loop (.one 3) (.rng1 (.var 0)) (.cons (.asg 4 (.bin .Mult (.lst (.cons (.con (.int 0)) .nil)) (.bin .Add (.blt .len (.var 2)) (.con (.int 1))))) (.cons (.loop (.many [5, 6]) (.enum (.var 2)) (.cons (.setI (.var 4) (.var 5) (.bin .Add (.idx (.var 4) (.var 5)) (.bin .Mult (.var 6) (.var 5)))) (.cons (.setI (.var 4) (.bin .Add (.var 5) (.con (.int 1))) (.bin .Add (.idx (.var 4) (.bin .Add (.var 5) (.con (.int 1)))) (.var 6))) .nil))) (.cons (.asg 2 (.var 4)) .nil)))) (.cons (.ret (.ifx (.cmp .Lt (.var 1) (.blt .len (.var 2))) (.idx (.var 2) (.var 1)) (.con (.int 0)))) .nil))⟩
def d_count_of : Def := ⟨3, ["items", "target", "number", "used"], .cons (.ret (.blt .sum (.comp (.call "partitions" (.var 2) (.cons (.var 3) .nil)) (.one 3) (.rng2 (.call "needed_of" (.var 0) (.cons (.var 1) .nil)) (.bin .Add (.blt .len (.var 0)) (.con (.int 1)))) .no))) .nil⟩
def d_history_count : Def := ⟨3, ["items", "target", "number"], .cons (.expr (.call "check_target" (.var 0) (.cons (.var 1) .nil))) (.cons (.expr (.call "check_count" (.var 2) (.cons (.con (.int 0)) (.cons (.glo "MAX_HISTORY" 30) .nil)))) (.cons (.ret (.call "count_of" (.var 0) (.cons (.var 1) (.cons (.var 2) .nil)))) .nil))⟩
def d_is_history : Def := ⟨3, ["items", "target", "uses"], .cons (.expr (.call "check_target" (.var 0) (.cons (.var 1) .nil))) (.cons (.expr (.call "check_uses" (.var 0) (.cons (.var 2) .nil))) (.cons (.ret (.cmp .Eq (.call "after" (.var 0) (.cons (.var 2) .nil)) (.var 1))) .nil))⟩
def d_history_at : Def := ⟨4, ["items", "target", "number", "place", "found", "here", "item", "ways"], .cons (.expr (.call "check_target" (.var 0) (.cons (.var 1) .nil))) (.cons (.expr (.call "check_count" (.var 2) (.cons (.con (.int 0)) (.cons (.glo "MAX_HISTORY" 30) .nil)))) (.cons (.expr (.call "check_count" (.var 3) (.cons (.con (.int 0)) (.cons (.bin .Sub (.call "count_of" (.var 0) (.cons (.var 1) (.cons (.var 2) .nil))) (.con (.int 1))) .nil)))) (.cons (.par [4, 5] (.cons (.tup .nil) (.cons (.var 0) .nil))) (.cons (.whl (.cmp .Lt (.blt .len (.var 4)) (.var 2)) (.cons (.loop (.one 6) (.over (.blt .sorted (.var 0))) (.cons (.asg 7 (.call "count_of" (.call "to_front" (.var 5) (.cons (.var 6) .nil)) (.cons (.var 1) (.cons (.bin .Sub (.bin .Sub (.var 2) (.blt .len (.var 4))) (.con (.int 1))) .nil)))) (.cons (.ifs (.cmp .Lt (.var 3) (.var 7)) (.cons (.par [4, 5] (.cons (.bin .Add (.var 4) (.tup (.cons (.var 6) .nil))) (.cons (.call "to_front" (.var 5) (.cons (.var 6) .nil)) .nil))) (.cons .brk .nil)) .nil) (.cons (.asg 3 (.bin .Sub (.var 3) (.var 7))) .nil)))) .nil)) (.cons (.ret (.var 4)) .nil)))))⟩
def d_history_number : Def := ⟨3, ["items", "target", "uses", "place", "here", "index", "item", "other"], .cons (.expr (.call "check_target" (.var 0) (.cons (.var 1) .nil))) (.cons (.expr (.call "check_uses" (.var 0) (.cons (.var 2) .nil))) (.cons (.ifs (.or (.cmp .Gt (.blt .len (.var 2)) (.glo "MAX_HISTORY" 30)) (.one (.cmp .NotEq (.call "after" (.var 0) (.cons (.var 2) .nil)) (.var 1)))) (.cons (.ret (.con .none)) .nil) .nil) (.cons (.par [3, 4] (.cons (.con (.int 0)) (.cons (.var 0) .nil))) (.cons (.loop (.many [5, 6]) (.enum (.var 2)) (.cons (.loop (.one 7) (.over (.blt .sorted (.var 0))) (.cons (.ifs (.cmp .Lt (.var 7) (.var 6)) (.cons (.asg 3 (.bin .Add (.var 3) (.call "count_of" (.call "to_front" (.var 4) (.cons (.var 7) .nil)) (.cons (.var 1) (.cons (.bin .Sub (.bin .Sub (.blt .len (.var 2)) (.var 5)) (.con (.int 1))) .nil))))) .nil) .nil) .nil)) (.cons (.asg 4 (.call "to_front" (.var 4) (.cons (.var 6) .nil))) .nil))) (.cons (.ret (.var 3)) .nil)))))⟩
def d_surely_used : Def := ⟨2, ["items", "target"], .cons (.expr (.call "check_target" (.var 0) (.cons (.var 1) .nil))) (.cons (.ret (.blt .tuple (.blt .sorted (.sli (.var 1) .no (.yes (.call "needed_of" (.var 0) (.cons (.var 1) .nil))))))) .nil)⟩
def d_arranged : Def := ⟨2, ["size", "pattern", "items"], .cons (.asg 2 (.trg1 (.var 0))) (.cons (.ret (.call "after" (.var 2) (.cons (.call "items_at" (.var 2) (.cons (.var 1) .nil)) .nil))) .nil)⟩
def d_apply_pattern : Def := ⟨2, ["items", "pattern", "place"], .cons (.expr (.call "check_list" (.var 0) .nil)) (.cons (.expr (.call "check_positions" (.blt .len (.var 0)) (.cons (.var 1) (.cons (.glo "MAX_PATTERN" 20) .nil)))) (.cons (.ret (.blt .tuple (.comp (.idx (.var 0) (.var 2)) (.one 2) (.over (.call "arranged" (.blt .len (.var 0)) (.cons (.var 1) .nil))) .no))) .nil))⟩
def d_repeat_pattern : Def := ⟨3, ["items", "pattern", "count", "step", "whole", "place"], .cons (.expr (.call "check_list" (.var 0) .nil)) (.cons (.expr (.call "check_positions" (.blt .len (.var 0)) (.cons (.var 1) (.cons (.glo "MAX_PATTERN" 20) .nil)))) (.cons (.expr (.call "check_count" (.var 2) (.cons (.con (.int 0)) (.cons (.glo "MAX_REPEATS" 1000000000000000) .nil)))) (.cons (.par [3, 4] (.cons (.call "arranged" (.blt .len (.var 0)) (.cons (.var 1) .nil)) (.cons (.trg1 (.blt .len (.var 0))) .nil))) (.cons (.whl (.cmp .Gt (.var 2) (.con (.int 0))) (.cons (.ifs (.cmp .Eq (.bin .Mod (.var 2) (.con (.int 2))) (.con (.int 1))) (.cons (.asg 4 (.blt .tuple (.comp (.idx (.var 4) (.var 5)) (.one 5) (.over (.var 3)) .no))) .nil) .nil) (.cons (.asg 3 (.blt .tuple (.comp (.idx (.var 3) (.var 5)) (.one 5) (.over (.var 3)) .no))) (.cons (.asg 2 (.bin .FloorDiv (.var 2) (.con (.int 2)))) .nil)))) (.cons (.ret (.blt .tuple (.comp (.idx (.var 0) (.var 5)) (.one 5) (.over (.var 4)) .no))) .nil)))))⟩
def d__law_well : Def := ⟨2, ["cell", "turn"], .cons (.ifs (.cmp .GtE (.var 0) (.bin .Pow (.con (.int 10)) (.con (.int 18)))) (.cons (.ret (.lst (.cons (.bin .Sub (.var 0) (.bin .Pow (.con (.int 10)) (.con (.int 18)))) (.cons (.bin .Mod (.var 0) (.con (.int 2305843009213693951))) (.cons (.var 1) .nil))))) .nil) .nil) (.cons (.ret (.lst (.cons (.con (.int 0)) (.cons (.bin .Mod (.var 0) (.con (.int 2305843009213693951))) (.cons (.var 1) .nil))))) .nil)⟩
def d__law_take : Def := ⟨2, ["bag", "many", "found", "p", "n"], .cons (.ifs (.cmp .Gt (.idx (.var 0) (.con (.int 0))) (.con (.int 0))) (.cons (.asg 2 (.bin .Mod (.idx (.var 0) (.con (.int 0))) (.var 1))) (.cons (.setI (.var 0) (.con (.int 0)) (.bin .FloorDiv (.idx (.var 0) (.con (.int 0))) (.var 1))) (.cons (.ret (.var 2)) .nil))) .nil) (.cons (.setI (.var 0) (.con (.int 2)) (.bin .Add (.idx (.var 0) (.con (.int 2))) (.con (.int 1)))) (.cons (.asg 3 (.con (.int 2305843009213693951))) (.cons (.asg 4 (.bin .Mod (.bin .Add (.idx (.var 0) (.con (.int 1))) (.bin .Mult (.con (.int 1000003)) (.idx (.var 0) (.con (.int 2))))) (.var 3))) (.cons (.asg 4 (.bin .Mod (.bin .Add (.bin .Add (.bin .Mult (.var 4) (.var 4)) (.bin .Mult (.con (.int 7919)) (.bin .Pow (.idx (.var 0) (.con (.int 2))) (.con (.int 2))))) (.con (.int 5))) (.var 3))) (.cons (.ret (.bin .Mod (.bin .FloorDiv (.bin .Mod (.bin .Pow (.var 4) (.con (.int 3))) (.var 3)) (.con (.int 13))) (.var 1))) .nil)))))⟩
def d__law_same : Def := ⟨2, ["a", "b", "x", "y"], .cons (.ifs (.or (.and (.isi (.var 0) ["list"]) (.one (.isi (.var 1) ["list"]))) (.one (.and (.isi (.var 0) ["tuple"]) (.one (.isi (.var 1) ["tuple"]))))) (.cons (.ret (.and (.cmp .Eq (.blt .len (.var 0)) (.blt .len (.var 1))) (.one (.blt .all (.comp (.call "_law_same" (.var 2) (.cons (.var 3) .nil)) (.many [2, 3]) (.zip (.var 0) (.var 1)) .no))))) .nil) .nil) (.cons (.ifs (.or (.isi (.var 0) ["bool", "list", "tuple"]) (.one (.isi (.var 1) ["bool", "list", "tuple"]))) (.cons (.ret (.and (.isi (.var 0) ["bool"]) (.and (.isi (.var 1) ["bool"]) (.one (.cmp .Eq (.var 0) (.var 1)))))) .nil) .nil) (.cons (.ifs (.or (.isi (.var 0) ["int"]) (.one (.isi (.var 1) ["int"]))) (.cons (.ret (.and (.isi (.var 0) ["int"]) (.and (.isi (.var 1) ["int"]) (.one (.cmp .Eq (.var 0) (.var 1)))))) .nil) .nil) (.cons (.ifs (.or (.isi (.var 0) ["str"]) (.one (.isi (.var 1) ["str"]))) (.cons (.ret (.and (.isi (.var 0) ["str"]) (.and (.isi (.var 1) ["str"]) (.one (.cmp .Eq (.var 0) (.var 1)))))) .nil) .nil) (.cons (.ret (.and (.cmp .Is (.var 0) (.con .none)) (.one (.cmp .Is (.var 1) (.con .none))))) .nil))))⟩
def d__law_in : Def := ⟨3, ["x", "low", "high"], .cons (.ret (.and (.isi (.var 0) ["int"]) (.and (.not (.isi (.var 0) ["bool"])) (.one (.chain .LtE .LtE (.var 1) (.var 0) (.var 2)))))) .nil⟩
def d__law_all_raise : Def := ⟨2, ["calls", "word", "call"], .cons (.ret (.cmp .Eq (.comp (.con (.int 1)) (.one 2) (.over (.var 0)) (.yes (.cmp .NotEq (.call "_law_outcome" (.var 2) .nil) (.tup (.cons (.var 1) .nil))))) (.lst .nil))) .nil⟩
def d__law_items : Def := ⟨2, ["bag", "most", "found", "turn"], .cons (.asg 2 .dnew) (.cons (.loop (.one 3) (.rng1 (.bin .Add (.con (.int 1)) (.call "_law_take" (.var 0) (.cons (.var 1) .nil)))) (.cons (.setI (.var 2) (.call "_law_take" (.var 0) (.cons (.idx (.lst (.cons (.con (.int 12)) (.cons (.con (.int 100)) .nil))) (.call "_law_take" (.var 0) (.cons (.con (.int 2)) .nil))) .nil)) (.con (.bool true))) .nil)) (.cons (.ret (.call "_law_mixed" (.var 0) (.cons (.blt .tuple (.blt .sorted (.var 2))) .nil))) .nil))⟩
def d__law_mixed : Def := ⟨2, ["bag", "items", "rest", "found"], .cons (.par [2, 3] (.cons (.blt .list (.var 1)) (.cons (.tup .nil) .nil))) (.cons (.whl (.cmp .NotEq (.var 2) (.lst .nil)) (.cons (.asg 3 (.bin .Add (.var 3) (.tup (.cons (.mth .popAt (.var 2) (.cons (.call "_law_take" (.var 0) (.cons (.blt .len (.var 2)) .nil)) .nil)) .nil)))) .nil)) (.cons (.ret (.var 3)) .nil))⟩
def d__law_changed : Def := ⟨2, ["bag", "x", "k", "odd"], .cons (.ifs (.and (.isi (.var 1) ["tuple"]) (.and (.cmp .NotEq (.var 1) (.tup .nil)) (.one (.cmp .Gt (.call "_law_take" (.var 0) (.cons (.con (.int 6)) .nil)) (.con (.int 0)))))) (.cons (.asg 2 (.call "_law_take" (.var 0) (.cons (.blt .len (.var 1)) .nil))) (.cons (.ret (.bin .Add (.bin .Add (.sli (.var 1) .no (.yes (.var 2))) (.tup (.cons (.call "_law_changed" (.var 0) (.cons (.idx (.var 1) (.var 2)) .nil)) .nil))) (.sli (.var 1) (.yes (.bin .Add (.var 2) (.con (.int 1)))) .no))) .nil)) .nil) (.cons (.asg 3 (.lst (.cons (.con .none) (.cons (.con (.bool true)) (.cons (.con (.bool false)) (.cons (.neg (.con (.int 1))) (.cons (.con (.int 0)) (.cons (.con (.int 1)) (.cons (.con (.int 2)) (.cons (.con (.int 99)) (.cons (.con (.int 100)) (.cons (.con (.str "1")) (.cons (.tup .nil) (.cons (.tup (.cons (.con (.int 0)) .nil)) (.cons (.lst (.cons (.con (.int 1)) .nil)) .nil))))))))))))))) (.cons (.ret (.idx (.bin .Add (.var 3) (.lst (.cons (.ifx (.isi (.var 1) ["tuple"]) (.blt .list (.var 1)) (.var 1)) .nil))) (.call "_law_take" (.var 0) (.cons (.con (.int 14)) .nil)))) .nil))⟩
def d_check_files : Def := ⟨1, ["uses", "item"], .cons (.ifs (.or (.not (.isi (.var 0) ["tuple"])) (.or (.cmp .Gt (.blt .len (.var 0)) (.glo "MAX_USES" 60)) (.one (.not (.blt .all (.comp (.call "is_item" (.var 1) .nil) (.one 1) (.over (.var 0)) .no)))))) (.cons (.rai "InvalidUses") .nil) .nil) .nil⟩
def d_check_both : Def := ⟨2, ["uses", "cap"], .cons (.expr (.call "check_files" (.var 0) .nil)) (.cons (.expr (.call "check_count" (.var 1) (.cons (.con (.int 1)) (.cons (.glo "MAX_ITEMS" 10) .nil)))) .nil)⟩
def d_capped : Def := ⟨2, ["uses", "cap"], .cons (.expr (.call "check_both" (.var 0) (.cons (.var 1) .nil))) (.cons (.ret (.sli (.call "last_order" (.var 0) .nil) .no (.yes (.var 1)))) .nil)⟩
def d_drops : Def := ⟨2, ["uses", "cap", "found", "index", "before", "now", "gone", "item"], .cons (.expr (.call "check_both" (.var 0) (.cons (.var 1) .nil))) (.cons (.asg 2 (.lst .nil)) (.cons (.loop (.one 3) (.rng1 (.blt .len (.var 0))) (.cons (.par [4, 5] (.cons (.sli (.call "last_order" (.sli (.var 0) .no (.yes (.var 3))) .nil) .no (.yes (.var 1))) (.cons (.sli (.call "last_order" (.sli (.var 0) .no (.yes (.bin .Add (.var 3) (.con (.int 1))))) .nil) .no (.yes (.var 1))) .nil))) (.cons (.asg 6 (.comp (.var 7) (.one 7) (.over (.var 4)) (.yes (.cmp .NotIn (.var 7) (.var 5))))) (.cons (.expr (.mth .append (.var 2) (.cons (.ifx (.cmp .NotEq (.var 6) (.lst .nil)) (.idx (.var 6) (.con (.int 0))) (.con .none)) .nil))) .nil)))) (.cons (.ret (.var 2)) .nil)))⟩
def d_distances : Def := ⟨1, ["uses", "found", "index", "item", "order"], .cons (.expr (.call "check_files" (.var 0) .nil)) (.cons (.asg 1 (.lst .nil)) (.cons (.loop (.many [2, 3]) (.enum (.var 0)) (.cons (.asg 4 (.call "last_order" (.sli (.var 0) .no (.yes (.var 2))) .nil)) (.cons (.expr (.mth .append (.var 1) (.cons (.ifx (.cmp .In (.var 3) (.var 4)) (.mth .index (.var 4) (.cons (.var 3) .nil)) (.con .none)) .nil))) .nil))) (.cons (.ret (.var 1)) .nil)))⟩
def d_missing : Def := ⟨2, ["uses", "cap", "distance"], .cons (.expr (.call "check_both" (.var 0) (.cons (.var 1) .nil))) (.cons (.ret (.blt .len (.comp (.var 2) (.one 2) (.over (.call "distances" (.var 0) .nil)) (.yes (.or (.cmp .Is (.var 2) (.con .none)) (.one (.cmp .GtE (.var 2) (.var 1)))))))) .nil)⟩
def d_least_cap : Def := ⟨1, ["uses", "distance"], .cons (.expr (.call "check_files" (.var 0) .nil)) (.cons (.ret (.blt .max (.bin .Add (.lst (.cons (.con (.int 1)) .nil)) (.comp (.bin .Add (.var 1) (.con (.int 1))) (.one 1) (.over (.call "distances" (.var 0) .nil)) (.yes (.cmp .IsNot (.var 1) (.con .none))))))) .nil)⟩
def d_cap_range : Def := ⟨2, ["uses", "items", "good", "cap"], .cons (.expr (.call "check_files" (.var 0) .nil)) (.cons (.ifs (.and (.cmp .NotEq (.var 1) (.tup .nil)) (.one (.not (.call "is_list" (.var 1) .nil)))) (.cons (.rai "InvalidList") .nil) .nil) (.cons (.asg 2 (.comp (.var 3) (.one 3) (.rng2 (.con (.int 1)) (.bin .Add (.glo "MAX_ITEMS" 10) (.con (.int 1)))) (.yes (.cmp .Eq (.sli (.call "last_order" (.var 0) .nil) .no (.yes (.var 3))) (.var 1))))) (.cons (.ret (.ifx (.cmp .NotEq (.var 2) (.lst .nil)) (.tup (.cons (.idx (.var 2) (.con (.int 0))) (.cons (.idx (.var 2) (.neg (.con (.int 1)))) .nil))) (.con .none))) .nil)))⟩
def d_check_pattern : Def := ⟨2, ["size", "pattern"], .cons (.expr (.call "check_count" (.var 0) (.cons (.con (.int 1)) (.cons (.con (.int 10)) .nil)))) (.cons (.expr (.call "check_positions" (.var 0) (.cons (.var 1) (.cons (.glo "MAX_PATTERN" 20) .nil)))) .nil)⟩
def d_pattern_period : Def := ⟨2, ["size", "pattern", "step", "here", "count", "place"], .cons (.expr (.call "check_pattern" (.var 0) (.cons (.var 1) .nil))) (.cons (.asg 2 (.call "arranged" (.var 0) (.cons (.var 1) .nil))) (.cons (.par [3, 4] (.cons (.var 2) (.cons (.con (.int 1)) .nil))) (.cons (.whl (.cmp .NotEq (.var 3) (.trg1 (.var 0))) (.cons (.par [3, 4] (.cons (.blt .tuple (.comp (.idx (.var 3) (.var 5)) (.one 5) (.over (.var 2)) .no)) (.cons (.bin .Add (.var 4) (.con (.int 1))) .nil))) .nil)) (.cons (.ret (.var 4)) .nil))))⟩
def d_same_pattern : Def := ⟨3, ["size", "first", "second"], .cons (.expr (.call "check_pattern" (.var 0) (.cons (.var 1) .nil))) (.cons (.expr (.call "check_positions" (.var 0) (.cons (.var 2) (.cons (.glo "MAX_PATTERN" 20) .nil)))) (.cons (.ret (.cmp .Eq (.call "arranged" (.var 0) (.cons (.var 1) .nil)) (.call "arranged" (.var 0) (.cons (.var 2) .nil)))) .nil))⟩
def d_shortest_pattern : Def := ⟨2, ["size", "pattern", "items", "target"], .cons (.expr (.call "check_pattern" (.var 0) (.cons (.var 1) .nil))) (.cons (.asg 2 (.trg1 (.var 0))) (.cons (.asg 3 (.call "arranged" (.var 0) (.cons (.var 1) .nil))) (.cons (.ret (.blt .tuple (.call "positions_of" (.var 2) (.cons (.rev (.sli (.var 3) .no (.yes (.call "needed_of" (.var 2) (.cons (.var 3) .nil))))) .nil)))) .nil)))⟩
def d_check_sightings : Def := ⟨1, ["sightings", "items"], .cons (.ifs (.or (.not (.isi (.var 0) ["tuple"])) (.one (.not (.chain .LtE .LtE (.con (.int 2)) (.blt .len (.var 0)) (.glo "MAX_SIGHTINGS" 6))))) (.cons (.rai "InvalidSightings") .nil) .nil) (.cons (.ifs (.not (.blt .all (.comp (.call "is_list" (.var 1) .nil) (.one 1) (.over (.var 0)) .no))) (.cons (.rai "InvalidSightings") .nil) .nil) (.cons (.ifs (.not (.blt .all (.comp (.cmp .Eq (.blt .sorted (.var 1)) (.blt .sorted (.idx (.var 0) (.con (.int 0))))) (.one 1) (.over (.var 0)) .no))) (.cons (.rai "InvalidSightings") .nil) .nil) .nil))⟩
def d_needs : Def := ⟨1, ["sightings", "items", "target"], .cons (.ret (.comp (.call "needed_of" (.var 1) (.cons (.var 2) .nil)) (.many [1, 2]) (.zip (.var 0) (.sli (.var 0) (.yes (.con (.int 1))) .no)) .no)) .nil⟩
def d_least_total : Def := ⟨1, ["sightings"], .cons (.expr (.call "check_sightings" (.var 0) .nil)) (.cons (.ret (.blt .sum (.call "needs" (.var 0) .nil))) .nil)⟩
def d_total_count : Def := ⟨2, ["sightings", "number", "ways", "items", "target", "counts", "uses", "total"], .cons (.expr (.call "check_sightings" (.var 0) .nil)) (.cons (.expr (.call "check_count" (.var 1) (.cons (.con (.int 0)) (.cons (.glo "MAX_HISTORY" 30) .nil)))) (.cons (.asg 2 (.bin .Add (.lst (.cons (.con (.int 1)) .nil)) (.bin .Mult (.lst (.cons (.con (.int 0)) .nil)) (.var 1)))) (.cons (.loop (.many [3, 4]) (.zip (.var 0) (.sli (.var 0) (.yes (.con (.int 1))) .no)) (.cons (.asg 5 (.comp (.call "count_of" (.var 3) (.cons (.var 4) (.cons (.var 6) .nil))) (.one 6) (.rng1 (.bin .Add (.var 1) (.con (.int 1)))) .no)) (.cons (.asg 2 (.comp (.blt .sum (.comp (.bin .Mult (.idx (.var 2) (.var 6)) (.idx (.var 5) (.bin .Sub (.var 7) (.var 6)))) (.one 6) (.rng1 (.bin .Add (.var 7) (.con (.int 1)))) .no)) (.one 7) (.rng1 (.bin .Add (.var 1) (.con (.int 1)))) .no)) .nil))) (.cons (.ret (.idx (.var 2) (.var 1))) .nil))))⟩
def d_use_ranges : Def := ⟨2, ["sightings", "number", "spare", "least"], .cons (.expr (.call "check_sightings" (.var 0) .nil)) (.cons (.expr (.call "check_count" (.var 1) (.cons (.con (.int 0)) (.cons (.glo "MAX_HISTORY" 30) .nil)))) (.cons (.asg 2 (.bin .Sub (.var 1) (.blt .sum (.call "needs" (.var 0) .nil)))) (.cons (.ifs (.cmp .Lt (.var 2) (.con (.int 0))) (.cons (.ret (.con .none)) .nil) .nil) (.cons (.ifs (.cmp .Eq (.blt .len (.var 0)) (.con (.int 2))) (.cons (.ret (.lst (.cons (.tup (.cons (.var 1) (.cons (.var 1) .nil))) .nil))) .nil) .nil) (.cons (.ret (.comp (.tup (.cons (.var 3) (.cons (.bin .Add (.var 3) (.var 2)) .nil))) (.one 3) (.over (.call "needs" (.var 0) .nil)) .no)) .nil)))))⟩
def d__law_uses : Def := ⟨3, ["bag", "items", "most", "some", "turn"], .cons (.asg 3 (.sli (.var 1) .no (.yes (.idx (.lst (.cons (.blt .len (.var 1)) (.cons (.bin .Add (.con (.int 1)) (.bin .FloorDiv (.blt .len (.var 1)) (.con (.int 2)))) .nil))) (.call "_law_take" (.var 0) (.cons (.con (.int 2)) .nil)))))) (.cons (.ret (.blt .tuple (.comp (.idx (.var 3) (.call "_law_take" (.var 0) (.cons (.blt .len (.var 3)) .nil))) (.one 4) (.rng1 (.call "_law_take" (.var 0) (.cons (.bin .Add (.var 2) (.con (.int 1))) .nil))) .no))) .nil)⟩
def d__law_after : Def := ⟨2, ["items", "uses", "here", "item"], .cons (.asg 2 (.blt .list (.var 0))) (.cons (.loop (.one 3) (.over (.var 1)) (.cons (.expr (.mth .remove (.var 2) (.cons (.var 3) .nil))) (.cons (.expr (.mth .insert (.var 2) (.cons (.con (.int 0)) (.cons (.var 3) .nil)))) .nil))) (.cons (.ret (.blt .tuple (.var 2))) .nil))⟩
def d__law_places : Def := ⟨2, ["items", "uses", "found", "here", "item"], .cons (.par [2, 3] (.cons (.lst .nil) (.cons (.var 0) .nil))) (.cons (.loop (.one 4) (.over (.var 1)) (.cons (.expr (.mth .append (.var 2) (.cons (.mth .index (.var 3) (.cons (.var 4) .nil)) .nil))) (.cons (.asg 3 (.call "_law_after" (.var 3) (.cons (.tup (.cons (.var 4) .nil)) .nil))) .nil))) (.cons (.ret (.var 2)) .nil))⟩
def d__law_orders : Def := ⟨1, ["items", "found", "turn", "longer", "row", "item"], .cons (.asg 1 (.lst (.cons (.tup .nil) .nil))) (.cons (.loop (.one 2) (.rng1 (.blt .len (.var 0))) (.cons (.asg 3 (.lst .nil)) (.cons (.loop (.one 4) (.over (.var 1)) (.cons (.asg 3 (.bin .Add (.var 3) (.comp (.bin .Add (.var 4) (.tup (.cons (.var 5) .nil))) (.one 5) (.over (.blt .sorted (.var 0))) (.yes (.cmp .NotIn (.var 5) (.var 4)))))) .nil)) (.cons (.asg 1 (.var 3)) .nil)))) (.cons (.ret (.var 1)) .nil))⟩
def d__law_latest : Def := ⟨1, ["uses", "found", "item"], .cons (.asg 1 (.lst .nil)) (.cons (.loop (.one 2) (.over (.rev (.var 0))) (.cons (.ifs (.cmp .NotIn (.var 2) (.var 1)) (.cons (.expr (.mth .append (.var 1) (.cons (.var 2) .nil))) .nil) .nil) .nil)) (.cons (.ret (.blt .tuple (.var 1))) .nil))⟩
def d__law_first : Def := ⟨3, ["items", "one", "other", "row"], .cons (.loop (.one 3) (.over (.call "_law_orders" (.var 0) .nil)) (.cons (.ifs (.cmp .NotEq (.call "_law_after" (.var 3) (.cons (.var 1) .nil)) (.call "_law_after" (.var 3) (.cons (.var 2) .nil))) (.cons (.ret (.var 3)) .nil) .nil) .nil)) (.cons (.ret (.con .none)) .nil)⟩
def d__law_near : Def := ⟨3, ["bag", "items", "uses", "latest", "rest", "item"], .cons (.asg 3 (.call "_law_latest" (.var 2) .nil)) (.cons (.asg 4 (.blt .tuple (.comp (.var 5) (.one 5) (.over (.blt .sorted (.var 1))) (.yes (.cmp .NotIn (.var 5) (.var 3)))))) (.cons (.ret (.idx (.lst (.cons (.rev (.var 3)) (.cons (.bin .Add (.var 2) (.sli (.var 2) (.yes (.neg (.con (.int 1)))) .no)) (.cons (.bin .Add (.sli (.var 4) .no (.yes (.con (.int 1)))) (.rev (.var 3))) (.cons (.bin .Add (.rev (.var 4)) (.rev (.var 3))) (.cons (.sli (.var 2) (.yes (.con (.int 1))) .no) (.cons (.bin .Add (.sli (.var 2) .no (.yes (.con (.int 1)))) (.rev (.var 3))) .nil))))))) (.call "_law_take" (.var 0) (.cons (.con (.int 6)) .nil)))) .nil))⟩
def d__law_need : Def := ⟨2, ["items", "target", "count", "places", "item"], .cons (.loop (.one 2) (.rng1 (.blt .len (.var 1))) (.cons (.asg 3 (.comp (.mth .index (.var 0) (.cons (.var 4) .nil)) (.one 4) (.over (.sli (.var 1) (.yes (.var 2)) .no)) .no)) (.cons (.ifs (.cmp .Eq (.var 3) (.blt .sorted (.var 3))) (.cons (.ret (.var 2)) .nil) .nil) .nil))) (.cons (.ret (.blt .len (.var 1))) .nil)⟩
def d__law_far : Def := ⟨1, ["items", "found", "ways", "level", "later", "row", "item", "there"], .cons (.par [1, 2, 3] (.cons (.disT (.var 0) (.con (.int 0))) (.cons (.disT (.var 0) (.con (.int 1))) (.cons (.lst (.cons (.var 0) .nil)) .nil)))) (.cons (.whl (.cmp .NotEq (.var 3) (.lst .nil)) (.cons (.asg 4 (.lst .nil)) (.cons (.loop (.one 5) (.over (.var 3)) (.cons (.loop (.one 6) (.over (.sli (.var 5) (.yes (.con (.int 1))) .no)) (.cons (.asg 7 (.call "_law_after" (.var 5) (.cons (.tup (.cons (.var 6) .nil)) .nil))) (.cons (.ifs (.cmp .NotIn (.var 7) (.var 1)) (.cons (.par2S (.var 1) (.var 7) (.bin .Add (.idx (.var 1) (.var 5)) (.con (.int 1))) (.var 2) (.var 7) (.con (.int 0))) (.cons (.expr (.mth .append (.var 4) (.cons (.var 7) .nil))) .nil)) .nil) (.cons (.ifs (.cmp .Eq (.idx (.var 1) (.var 7)) (.bin .Add (.idx (.var 1) (.var 5)) (.con (.int 1)))) (.cons (.setI (.var 2) (.var 7) (.bin .Add (.idx (.var 2) (.var 7)) (.idx (.var 2) (.var 5)))) .nil) .nil) .nil)))) .nil)) (.cons (.asg 3 (.var 4)) .nil)))) (.cons (.ret (.tup (.cons (.var 1) (.cons (.var 2) .nil)))) .nil))⟩
def d__law_cheapest : Def := ⟨1, ["items", "found", "turn", "levels", "row", "position", "item", "there"], .cons (.par [1, 2] (.cons (.disT (.var 0) (.con (.int 0))) (.cons (.con (.int 0)) .nil))) (.cons (.asg 3 (.dis (.con (.int 0)) (.lst (.cons (.var 0) .nil)))) (.cons (.whl (.cmp .LtE (.var 2) (.dmax (.var 3))) (.cons (.loop (.one 4) (.over (.mth .get2 (.var 3) (.cons (.var 2) (.cons (.lst .nil) .nil)))) (.cons (.loop (.many [5, 6]) (.enum (.var 4)) (.cons (.asg 7 (.call "_law_after" (.var 4) (.cons (.tup (.cons (.var 6) .nil)) .nil))) (.cons (.ifs (.and (.cmp .Eq (.idx (.var 1) (.var 4)) (.var 2)) (.and (.cmp .Gt (.var 5) (.con (.int 0))) (.one (.cmp .Gt (.mth .get2 (.var 1) (.cons (.var 7) (.cons (.bin .Pow (.con (.int 10)) (.con (.int 9))) .nil))) (.bin .Add (.var 2) (.var 5)))))) (.cons (.setI (.var 1) (.var 7) (.bin .Add (.var 2) (.var 5))) (.cons (.setI (.var 3) (.bin .Add (.var 2) (.var 5)) (.bin .Add (.mth .get2 (.var 3) (.cons (.bin .Add (.var 2) (.var 5)) (.cons (.lst .nil) .nil))) (.lst (.cons (.var 7) .nil)))) .nil)) .nil) .nil))) .nil)) (.cons (.asg 2 (.bin .Add (.var 2) (.con (.int 1)))) .nil))) (.cons (.ret (.var 1)) .nil)))⟩
def d__law_passes : Def := ⟨2, ["items", "uses", "found", "here", "item", "other", "pair"], .cons (.par [2, 3] (.cons .dnew (.cons (.var 0) .nil))) (.cons (.loop (.one 4) (.over (.var 1)) (.cons (.loop (.one 5) (.over (.sli (.var 3) .no (.yes (.mth .index (.var 3) (.cons (.var 4) .nil))))) (.cons (.asg 6 (.tup (.cons (.mm2 false (.var 4) (.var 5)) (.cons (.mm2 true (.var 4) (.var 5)) .nil)))) (.cons (.setI (.var 2) (.var 6) (.bin .Add (.mth .get2 (.var 2) (.cons (.var 6) (.cons (.con (.int 0)) .nil))) (.con (.int 1)))) .nil))) (.cons (.asg 3 (.call "_law_after" (.var 3) (.cons (.tup (.cons (.var 4) .nil)) .nil))) .nil))) (.cons (.ret (.var 2)) .nil))⟩
def d__law_pairs_right : Def := ⟨3, ["bag", "items", "target", "rows", "due", "told", "ahead", "behind", "cost", "other", "more", "pair"], .cons (.asg 3 (.call "pair_costs" (.var 1) (.cons (.var 2) .nil))) (.cons (.ifs (.or (.cmp .NotEq (.var 3) (.srtT (.var 3))) (.one (.cmp .NotEq (.comp (.con (.int 1)) (.many [6, 7, 8]) (.over (.var 3)) (.yes (.cmp .Lt (.var 8) (.con (.int 1))))) (.lst .nil)))) (.cons (.ret (.con (.bool false))) .nil) .nil) (.cons (.asg 4 (.call "_law_passes" (.var 1) (.cons (.call "shortest_uses" (.var 1) (.cons (.var 2) .nil)) .nil))) (.cons (.asg 5 .dnew) (.cons (.loop (.many [6, 7, 8]) (.over (.var 3)) (.cons (.ifs (.cmp .Gt (.mth .index (.var 2) (.cons (.var 6) .nil)) (.mth .index (.var 2) (.cons (.var 7) .nil))) (.cons (.ret (.con (.bool false))) .nil) .nil) (.cons (.setI (.var 5) (.tup (.cons (.mm2 false (.var 6) (.var 7)) (.cons (.mm2 true (.var 6) (.var 7)) .nil))) (.var 8)) .nil))) (.cons (.ifs (.or (.cmp .NotEq (.var 5) (.var 4)) (.one (.cmp .NotEq (.sumV (.var 5)) (.call "fewest_presses" (.var 1) (.cons (.var 2) .nil))))) (.cons (.ret (.con (.bool false))) .nil) .nil) (.cons (.asg 9 (.bin .Add (.call "_law_uses" (.var 0) (.cons (.var 1) (.cons (.con (.int 12)) .nil))) (.sli (.rev (.var 2)) (.yes (.call "_law_take" (.var 0) (.cons (.con (.int 2)) .nil))) .no))) (.cons (.ifs (.cmp .Eq (.call "_law_after" (.var 1) (.cons (.var 9) .nil)) (.var 2)) (.cons (.asg 10 (.call "_law_passes" (.var 1) (.cons (.var 9) .nil))) (.cons (.ifs (.cmp .NotEq (.comp (.var 11) (.one 11) (.keysT (.var 5)) (.yes (.cmp .Lt (.mth .get2 (.var 10) (.cons (.var 11) (.cons (.con (.int 0)) .nil))) (.idx (.var 5) (.var 11))))) (.lst .nil)) (.cons (.ret (.con (.bool false))) .nil) .nil) (.cons (.ifs (.cmp .Lt (.call "presses" (.var 1) (.cons (.var 9) .nil)) (.sumV (.var 5))) (.cons (.ret (.con (.bool false))) .nil) .nil) .nil))) .nil) (.cons (.ret (.cmp .Eq (.call "presses" (.var 1) (.cons (.call "shortest_uses" (.var 1) (.cons (.var 2) .nil)) .nil)) (.call "fewest_presses" (.var 1) (.cons (.var 2) .nil)))) .nil))))))))⟩
def d__law_words : Def := ⟨2, ["items", "number", "found", "turn", "longer", "row", "item"], .cons (.asg 2 (.lst (.cons (.tup .nil) .nil))) (.cons (.loop (.one 3) (.rng1 (.var 1)) (.cons (.asg 4 (.lst .nil)) (.cons (.loop (.one 5) (.over (.var 2)) (.cons (.asg 4 (.bin .Add (.var 4) (.comp (.bin .Add (.var 5) (.tup (.cons (.var 6) .nil))) (.one 6) (.over (.blt .sorted (.var 0))) .no))) .nil)) (.cons (.asg 2 (.var 4)) .nil)))) (.cons (.ret (.var 2)) .nil))⟩
def d__law_ways : Def := ⟨2, ["count", "parts", "table", "size", "part"], .cons (.asg 2 (.disT (.tup (.cons (.con (.int 0)) (.cons (.con (.int 0)) .nil))) (.con (.int 1)))) (.cons (.loop (.one 3) (.rng2 (.con (.int 1)) (.bin .Add (.var 0) (.con (.int 1)))) (.cons (.loop (.one 4) (.rng2 (.con (.int 1)) (.bin .Add (.var 3) (.con (.int 1)))) (.cons (.setI (.var 2) (.tup (.cons (.var 3) (.cons (.var 4) .nil))) (.bin .Add (.bin .Mult (.var 4) (.mth .get2 (.var 2) (.cons (.tup (.cons (.bin .Sub (.var 3) (.con (.int 1))) (.cons (.var 4) .nil))) (.cons (.con (.int 0)) .nil)))) (.mth .get2 (.var 2) (.cons (.tup (.cons (.bin .Sub (.var 3) (.con (.int 1))) (.cons (.bin .Sub (.var 4) (.con (.int 1))) .nil))) (.cons (.con (.int 0)) .nil))))) .nil)) .nil)) (.cons (.ret (.mth .get2 (.var 2) (.cons (.tup (.cons (.var 0) (.cons (.var 1) .nil))) (.cons (.con (.int 0)) .nil)))) .nil))⟩
def d__law_counted : Def := ⟨3, ["items", "target", "number", "used"], .cons (.ret (.blt .sum (.comp (.call "_law_ways" (.var 2) (.cons (.var 3) .nil)) (.one 3) (.rng2 (.call "_law_need" (.var 0) (.cons (.var 1) .nil)) (.bin .Add (.blt .len (.var 0)) (.con (.int 1)))) .no))) .nil⟩
def d__law_sighted : Def := ⟨4, ["bag", "items", "parts", "most", "found", "turn"], .cons (.asg 4 (.tup (.cons (.var 1) .nil))) (.cons (.loop (.one 5) (.rng1 (.var 2)) (.cons (.asg 4 (.bin .Add (.var 4) (.tup (.cons (.call "_law_after" (.idx (.var 4) (.neg (.con (.int 1)))) (.cons (.call "_law_uses" (.var 0) (.cons (.var 1) (.cons (.var 3) .nil))) .nil)) .nil)))) .nil)) (.cons (.ret (.var 4)) .nil))⟩
def d__law_total : Def := ⟨2, ["sightings", "number", "ways", "items", "target", "counts", "later", "total", "uses"], .cons (.asg 2 (.bin .Add (.lst (.cons (.con (.int 1)) .nil)) (.bin .Mult (.lst (.cons (.con (.int 0)) .nil)) (.var 1)))) (.cons (.loop (.many [3, 4]) (.zip (.var 0) (.sli (.var 0) (.yes (.con (.int 1))) .no)) (.cons (.asg 5 (.comp (.call "_law_counted" (.var 3) (.cons (.var 4) (.cons (.var 8) .nil))) (.one 8) (.rng1 (.bin .Add (.var 1) (.con (.int 1)))) .no)) (.cons (.asg 6 (.lst .nil)) (.cons (.loop (.one 7) (.rng1 (.bin .Add (.var 1) (.con (.int 1)))) (.cons (.expr (.mth .append (.var 6) (.cons (.blt .sum (.comp (.bin .Mult (.idx (.var 2) (.var 8)) (.idx (.var 5) (.bin .Sub (.var 7) (.var 8)))) (.one 8) (.rng1 (.bin .Add (.var 7) (.con (.int 1)))) .no)) .nil))) .nil)) (.cons (.asg 2 (.var 6)) .nil))))) (.cons (.ret (.idx (.var 2) (.var 1))) .nil))⟩
def d__law_divided : Def := ⟨2, ["sightings", "number", "rows", "turn", "longer", "part", "here", "counts", "item", "last"], .cons (.asg 2 (.lst (.cons (.tup (.cons (.con (.int 0)) (.cons (.idx (.var 0) (.con (.int 0))) (.cons (.tup (.cons (.con (.int 0)) .nil)) .nil)))) .nil))) (.cons (.loop (.one 3) (.rng1 (.var 1)) (.cons (.asg 4 (.lst .nil)) (.cons (.loop (.many [5, 6, 7]) (.over (.call "_law_closed" (.var 0) (.cons (.var 2) .nil))) (.cons (.loop (.one 8) (.over (.var 6)) (.cons (.expr (.mth .append (.var 4) (.cons (.tup (.cons (.var 5) (.cons (.call "_law_after" (.var 6) (.cons (.tup (.cons (.var 8) .nil)) .nil)) (.cons (.bin .Add (.sli (.var 7) .no (.yes (.neg (.con (.int 1))))) (.tup (.cons (.bin .Add (.idx (.var 7) (.neg (.con (.int 1)))) (.con (.int 1))) .nil))) .nil)))) .nil))) .nil)) .nil)) (.cons (.asg 2 (.var 4)) .nil)))) (.cons (.asg 9 (.bin .Sub (.blt .len (.var 0)) (.con (.int 2)))) (.cons (.asg 2 (.call "_law_closed" (.var 0) (.cons (.var 2) .nil))) (.cons (.ret (.comp (.var 7) (.many [5, 6, 7]) (.over (.var 2)) (.yes (.and (.cmp .Eq (.var 5) (.var 9)) (.one (.cmp .Eq (.var 6) (.idx (.var 0) (.neg (.con (.int 1)))))))))) .nil))))⟩
def d__law_closed : Def := ⟨2, ["sightings", "rows", "found", "some", "later", "part", "here", "counts"], .cons (.par [2, 3] (.cons (.blt .list (.var 1)) (.cons (.var 1) .nil))) (.cons (.whl (.cmp .NotEq (.var 3) (.lst .nil)) (.cons (.asg 4 (.lst .nil)) (.cons (.loop (.many [5, 6, 7]) (.over (.var 3)) (.cons (.ifs (.and (.cmp .Lt (.bin .Add (.var 5) (.con (.int 2))) (.blt .len (.var 0))) (.one (.cmp .Eq (.var 6) (.idx (.var 0) (.bin .Add (.var 5) (.con (.int 1))))))) (.cons (.expr (.mth .append (.var 4) (.cons (.tup (.cons (.bin .Add (.var 5) (.con (.int 1))) (.cons (.var 6) (.cons (.bin .Add (.var 7) (.tup (.cons (.con (.int 0)) .nil))) .nil)))) .nil))) .nil) .nil) .nil)) (.cons (.par [2, 3] (.cons (.bin .Add (.var 2) (.var 4)) (.cons (.var 4) .nil))) .nil)))) (.cons (.ret (.var 2)) .nil))⟩
def d__law_files : Def := ⟨2, ["bag", "most", "many", "turn"], .cons (.asg 2 (.idx (.lst (.cons (.con (.int 2)) (.cons (.con (.int 5)) (.cons (.con (.int 12)) (.cons (.con (.int 100)) .nil))))) (.call "_law_take" (.var 0) (.cons (.con (.int 4)) .nil)))) (.cons (.ret (.blt .tuple (.comp (.call "_law_take" (.var 0) (.cons (.var 2) .nil)) (.one 3) (.rng1 (.call "_law_take" (.var 0) (.cons (.bin .Add (.var 1) (.con (.int 1))) .nil))) .no))) .nil)⟩
def d__law_simulated : Def := ⟨2, ["uses", "cap", "here", "gone", "lost", "item"], .cons (.par [2, 3, 4] (.cons (.lst .nil) (.cons (.lst .nil) (.cons (.con (.int 0)) .nil)))) (.cons (.loop (.one 5) (.over (.var 0)) (.cons (.ifs (.cmp .In (.var 5) (.var 2)) (.cons (.expr (.mth .remove (.var 2) (.cons (.var 5) .nil))) .nil) (.cons (.asg 4 (.bin .Add (.var 4) (.con (.int 1)))) .nil)) (.cons (.expr (.mth .insert (.var 2) (.cons (.con (.int 0)) (.cons (.var 5) .nil)))) (.cons (.expr (.mth .append (.var 3) (.cons (.ifx (.cmp .Gt (.blt .len (.var 2)) (.var 1)) (.mth .pop (.var 2) .nil) (.con .none)) .nil))) .nil)))) (.cons (.ret (.tup (.cons (.blt .tuple (.var 2)) (.cons (.var 3) (.cons (.var 4) .nil))))) .nil))⟩
def d__law_distance : Def := ⟨2, ["uses", "index", "before", "place"], .cons (.asg 2 (.comp (.var 3) (.one 3) (.rng1 (.var 1)) (.yes (.cmp .Eq (.idx (.var 0) (.var 3)) (.idx (.var 0) (.var 1)))))) (.cons (.ret (.ifx (.cmp .NotEq (.var 2) (.lst .nil)) (.lens (.sli (.var 0) (.yes (.bin .Add (.idx (.var 2) (.neg (.con (.int 1)))) (.con (.int 1)))) (.yes (.var 1)))) (.con .none))) .nil)⟩
def d__law_again : Def := ⟨2, ["uses", "cap", "here", "gone", "item", "other"], .cons (.par [2, 3] (.cons (.lst .nil) (.cons (.lst .nil) .nil))) (.cons (.loop (.one 4) (.over (.var 0)) (.cons (.ifs (.cmp .In (.var 4) (.var 3)) (.cons (.ret (.con (.bool true))) .nil) .nil) (.cons (.asg 2 (.bin .Add (.lst (.cons (.var 4) .nil)) (.comp (.var 5) (.one 5) (.over (.var 2)) (.yes (.cmp .NotEq (.var 5) (.var 4)))))) (.cons (.asg 3 (.bin .Add (.var 3) (.sli (.var 2) (.yes (.var 1)) .no))) (.cons (.asg 2 (.sli (.var 2) .no (.yes (.var 1)))) .nil))))) (.cons (.ret (.con (.bool false))) .nil))⟩
def d__law_pressed : Def := ⟨2, ["items", "pattern", "position"], .cons (.loop (.one 2) (.over (.var 1)) (.cons (.asg 0 (.call "_law_after" (.var 0) (.cons (.tup (.cons (.idx (.var 0) (.var 2)) .nil)) .nil))) .nil)) (.cons (.ret (.var 0)) .nil)⟩
def d_is_grouped : Def := ⟨1, ["value", "items", "group", "item"], .cons (.ifs (.or (.not (.isi (.var 0) ["tuple"])) (.one (.not (.chain .LtE .LtE (.con (.int 1)) (.blt .len (.var 0)) (.con (.int 5)))))) (.cons (.ret (.con (.bool false))) .nil) .nil) (.cons (.ifs (.not (.blt .all (.comp (.and (.isi (.var 2) ["tuple"]) (.one (.chain .LtE .LtE (.con (.int 1)) (.blt .len (.var 2)) (.con (.int 6))))) (.one 2) (.over (.var 0)) .no))) (.cons (.ret (.con (.bool false))) .nil) .nil) (.cons (.asg 1 (.comp2 (.var 3) (.one 2) (.over (.var 0)) .no (.one 3) (.over (.var 2)) .no)) (.cons (.ret (.and (.blt .all (.comp (.call "is_item" (.var 3) .nil) (.one 3) (.over (.var 1)) .no)) (.one (.cmp .Eq (.lensL (.var 1)) (.blt .len (.var 1)))))) .nil)))⟩
def d_check_grouped : Def := ⟨1, ["grouped"], .cons (.ifs (.not (.call "is_grouped" (.var 0) .nil)) (.cons (.rai "InvalidGroups") .nil) .nil) .nil⟩
def d_check_goal : Def := ⟨2, ["grouped", "target", "group"], .cons (.expr (.call "check_grouped" (.var 0) .nil)) (.cons (.expr (.call "check_grouped" (.var 1) .nil)) (.cons (.ifs (.cmp .NotEq (.srtT (.comp (.blt .tuple (.blt .sorted (.var 2))) (.one 2) (.over (.var 0)) .no)) (.srtT (.comp (.blt .tuple (.blt .sorted (.var 2))) (.one 2) (.over (.var 1)) .no))) (.cons (.rai "InvalidGroups") .nil) .nil) .nil))⟩
def d_group_of : Def := ⟨2, ["grouped", "item", "group"], .cons (.ret (.idx (.comp (.var 2) (.one 2) (.over (.var 0)) (.yes (.cmp .In (.var 1) (.var 2)))) (.con (.int 0)))) .nil⟩
def d_use_one : Def := ⟨2, ["grouped", "item", "own", "group"], .cons (.asg 2 (.call "group_of" (.var 0) (.cons (.var 1) .nil))) (.cons (.ret (.bin .Add (.tup (.cons (.call "to_front" (.var 2) (.cons (.var 1) .nil)) .nil)) (.blt .tuple (.comp (.var 3) (.one 3) (.over (.var 0)) (.yes (.cmp .NotEq (.var 3) (.var 2))))))) .nil)⟩
def d_use_grouped : Def := ⟨2, ["grouped", "uses", "items", "item", "group"], .cons (.expr (.call "check_grouped" (.var 0) .nil)) (.cons (.asg 2 (.comp2 (.var 3) (.one 4) (.over (.var 0)) .no (.one 3) (.over (.var 4)) .no)) (.cons (.ifs (.or (.not (.isi (.var 1) ["tuple"])) (.one (.cmp .Gt (.blt .len (.var 1)) (.glo "MAX_USES" 60)))) (.cons (.rai "InvalidUses") .nil) .nil) (.cons (.ifs (.not (.blt .all (.comp (.and (.call "is_item" (.var 3) .nil) (.one (.cmp .In (.var 3) (.var 2)))) (.one 3) (.over (.var 1)) .no))) (.cons (.rai "InvalidUses") .nil) .nil) (.cons (.loop (.one 3) (.over (.var 1)) (.cons (.asg 0 (.call "use_one" (.var 0) (.cons (.var 3) .nil))) .nil)) (.cons (.ret (.var 0)) .nil)))))⟩
def d_plan_of : Def := ⟨2, ["grouped", "target", "counts", "places", "used", "group"], .cons (.asg 2 (.comp (.call "needed_of" (.call "group_of" (.var 0) (.cons (.idx (.var 5) (.con (.int 0))) .nil)) (.cons (.var 5) .nil)) (.one 5) (.over (.var 1)) .no)) (.cons (.asg 3 (.comp (.mth .indexD (.var 0) (.cons (.call "group_of" (.var 0) (.cons (.idx (.var 5) (.con (.int 0))) .nil)) .nil)) (.one 5) (.over (.var 1)) .no)) (.cons (.asg 4 (.blt .len (.var 1))) (.cons (.whl (.and (.cmp .Gt (.var 4) (.con (.int 0))) (.and (.cmp .Eq (.idx (.var 2) (.bin .Sub (.var 4) (.con (.int 1)))) (.con (.int 0))) (.one (.or (.cmp .Eq (.var 4) (.blt .len (.var 1))) (.one (.cmp .Lt (.idx (.var 3) (.bin .Sub (.var 4) (.con (.int 1)))) (.idx (.var 3) (.var 4)))))))) (.cons (.asg 4 (.bin .Sub (.var 4) (.con (.int 1)))) .nil)) (.cons (.ret (.tup (.cons (.var 4) (.cons (.var 2) .nil)))) .nil))))⟩
def d_grouped_needed : Def := ⟨2, ["grouped", "target", "used", "counts", "count"], .cons (.expr (.call "check_goal" (.var 0) (.cons (.var 1) .nil))) (.cons (.asgT [2, 3] (.call "plan_of" (.var 0) (.cons (.var 1) .nil))) (.cons (.ret (.blt .sum (.comp (.mm2 true (.con (.int 1)) (.var 4)) (.one 4) (.over (.sli (.var 3) .no (.yes (.var 2)))) .no))) .nil))⟩
def d_grouped_uses : Def := ⟨2, ["grouped", "target", "used", "counts", "found", "group", "count"], .cons (.expr (.call "check_goal" (.var 0) (.cons (.var 1) .nil))) (.cons (.asgT [2, 3] (.call "plan_of" (.var 0) (.cons (.var 1) .nil))) (.cons (.asg 4 (.tup .nil)) (.cons (.loop (.many [5, 6]) (.over (.rev (.sli (.lzip (.var 1) (.var 3)) .no (.yes (.var 2))))) (.cons (.asg 4 (.bin .Add (.var 4) (.rev (.sli (.var 5) .no (.yes (.mm2 true (.con (.int 1)) (.var 6))))))) .nil)) (.cons (.ret (.var 4)) .nil))))⟩
def d_choose : Def := ⟨2, ["count", "part", "ways", "index"], .cons (.asg 2 (.con (.int 1))) (.cons (.loop (.one 3) (.rng1 (.var 1)) (.cons (.asg 2 (.bin .FloorDiv (.bin .Mult (.var 2) (.bin .Sub (.var 0) (.var 3))) (.bin .Add (.var 3) (.con (.int 1))))) .nil)) (.cons (.ret (.var 2)) .nil))⟩
def d_orders_by_size : Def := ⟨3, ["target", "used", "counts", "ways", "group", "count", "more", "behind", "own", "orders"], .cons (.asg 3 (.dis (.con (.int 0)) (.con (.int 1)))) (.cons (.loop (.many [4, 5]) (.over (.rev (.sli (.lzip (.var 0) (.var 2)) .no (.yes (.var 1))))) (.cons (.asg 6 .dnew) (.cons (.loop (.one 7) (.keys (.var 3)) (.cons (.loop (.one 8) (.rng2 (.mm2 true (.con (.int 1)) (.var 5)) (.bin .Add (.blt .len (.var 4)) (.con (.int 1)))) (.cons (.asg 9 (.bin .Mult (.idx (.var 3) (.var 7)) (.call "choose" (.bin .Sub (.bin .Add (.var 7) (.var 8)) (.con (.int 1))) (.cons (.bin .Sub (.var 8) (.con (.int 1))) .nil)))) (.cons (.setI (.var 6) (.bin .Add (.var 7) (.var 8)) (.bin .Add (.mth .get2 (.var 6) (.cons (.bin .Add (.var 7) (.var 8)) (.cons (.con (.int 0)) .nil))) (.var 9))) .nil))) .nil)) (.cons (.asg 3 (.var 6)) .nil)))) (.cons (.ret (.var 3)) .nil))⟩
def d_grouped_count : Def := ⟨3, ["grouped", "target", "number", "least", "counts", "total", "used", "ways", "size"], .cons (.expr (.call "check_goal" (.var 0) (.cons (.var 1) .nil))) (.cons (.expr (.call "check_count" (.var 2) (.cons (.con (.int 0)) (.cons (.glo "MAX_HISTORY" 30) .nil)))) (.cons (.asgT [3, 4] (.call "plan_of" (.var 0) (.cons (.var 1) .nil))) (.cons (.asg 5 (.con (.int 0))) (.cons (.loop (.one 6) (.rng2 (.var 3) (.bin .Add (.blt .len (.var 1)) (.con (.int 1)))) (.cons (.asg 7 (.call "orders_by_size" (.var 1) (.cons (.var 6) (.cons (.var 4) .nil)))) (.cons (.asg 5 (.bin .Add (.var 5) (.blt .sum (.comp (.bin .Mult (.idx (.var 7) (.var 8)) (.call "partitions" (.var 2) (.cons (.var 8) .nil))) (.one 8) (.keys (.var 7)) .no)))) .nil))) (.cons (.ret (.var 5)) .nil)))))⟩
def d__law_grouped : Def := ⟨3, ["bag", "most", "wide", "rest", "found", "turn", "size"], .cons (.par [3, 4] (.cons (.call "_law_mixed" (.var 0) (.cons (.trg3 0 60 2) .nil)) (.cons (.tup .nil) .nil))) (.cons (.loop (.one 5) (.rng1 (.bin .Add (.con (.int 1)) (.call "_law_take" (.var 0) (.cons (.var 1) .nil)))) (.cons (.asg 6 (.bin .Add (.con (.int 1)) (.call "_law_take" (.var 0) (.cons (.var 2) .nil)))) (.cons (.par [4, 3] (.cons (.bin .Add (.var 4) (.tup (.cons (.sli (.var 3) .no (.yes (.var 6))) .nil))) (.cons (.sli (.var 3) (.yes (.var 6)) .no) .nil))) .nil))) (.cons (.ret (.var 4)) .nil))⟩
def d__law_flat : Def := ⟨1, ["grouped", "found", "group"], .cons (.asg 1 (.tup .nil)) (.cons (.loop (.one 2) (.over (.var 0)) (.cons (.asg 1 (.bin .Add (.var 1) (.var 2))) .nil)) (.cons (.ret (.var 1)) .nil))⟩
def d__law_used : Def := ⟨2, ["grouped", "uses", "item", "own", "rest", "group"], .cons (.loop (.one 2) (.over (.var 1)) (.cons (.asg 3 (.idx (.comp (.var 5) (.one 5) (.over (.var 0)) (.yes (.cmp .In (.var 2) (.var 5)))) (.con (.int 0)))) (.cons (.asg 4 (.blt .tuple (.comp (.var 5) (.one 5) (.over (.var 0)) (.yes (.cmp .NotEq (.var 5) (.var 3)))))) (.cons (.asg 0 (.bin .Add (.tup (.cons (.call "_law_after" (.var 3) (.cons (.tup (.cons (.var 2) .nil)) .nil)) .nil)) (.var 4))) .nil)))) (.cons (.ret (.var 0)) .nil)⟩
def d__law_regrouped : Def := ⟨2, ["bag", "grouped", "group"], .cons (.ret (.call "_law_mixed" (.var 0) (.cons (.blt .tuple (.comp (.call "_law_mixed" (.var 0) (.cons (.var 2) .nil)) (.one 2) (.over (.var 1)) .no)) .nil))) .nil⟩
def d__law_reached : Def := ⟨1, ["grouped", "found", "level", "later", "here", "item", "there"], .cons (.par [1, 2] (.cons (.disT (.var 0) (.con (.int 0))) (.cons (.lst (.cons (.var 0) .nil)) .nil))) (.cons (.whl (.cmp .NotEq (.var 2) (.lst .nil)) (.cons (.asg 3 (.lst .nil)) (.cons (.loop (.one 4) (.over (.var 2)) (.cons (.loop (.one 5) (.over (.call "_law_flat" (.var 4) .nil)) (.cons (.asg 6 (.call "_law_used" (.var 4) (.cons (.tup (.cons (.var 5) .nil)) .nil))) (.cons (.ifs (.cmp .NotIn (.var 6) (.var 1)) (.cons (.setI (.var 1) (.var 6) (.bin .Add (.idx (.var 1) (.var 4)) (.con (.int 1)))) (.cons (.expr (.mth .append (.var 3) (.cons (.var 6) .nil))) .nil)) .nil) .nil))) .nil)) (.cons (.asg 2 (.var 3)) .nil)))) (.cons (.ret (.var 1)) .nil))⟩
def d__law_reachable : Def := ⟨2, ["grouped", "number", "found", "turn", "later", "here", "item", "there"], .cons (.asg 2 (.disT (.var 0) (.con (.int 1)))) (.cons (.loop (.one 3) (.rng1 (.var 1)) (.cons (.asg 4 .dnew) (.cons (.loop (.one 5) (.keysT (.var 2)) (.cons (.loop (.one 6) (.over (.call "_law_flat" (.var 5) .nil)) (.cons (.asg 7 (.call "_law_used" (.var 5) (.cons (.tup (.cons (.var 6) .nil)) .nil))) (.cons (.setI (.var 4) (.var 7) (.bin .Add (.mth .get2 (.var 4) (.cons (.var 7) (.cons (.con (.int 0)) .nil))) (.idx (.var 2) (.var 5)))) .nil))) .nil)) (.cons (.asg 2 (.var 4)) .nil)))) (.cons (.ret (.var 2)) .nil))⟩
def d__law_due : Def := ⟨2, ["states", "action", "word", "x", "items", "total", "known", "rest", "item"], .cons (.asgT [2, 3] (.var 1)) (.cons (.asgT [4, 5] (.idx (.var 0) (.neg (.con (.int 1))))) (.cons (.asg 6 (.and (.call "_law_in" (.var 3) (.cons (.con (.int 0)) (.cons (.con (.int 99)) .nil))) (.one (.cmp .In (.var 3) (.var 4))))) (.cons (.ifs (.cmp .Eq (.var 2) (.con (.str "undo"))) (.cons (.ifs (.cmp .Eq (.blt .len (.var 0)) (.con (.int 1))) (.cons (.ret (.tup (.cons (.con (.str "NothingToUndo")) .nil))) .nil) .nil) (.cons (.expr (.mth .pop (.var 0) .nil)) (.cons (.ret (.tup (.cons (.con (.str "value")) (.cons (.con .none) .nil)))) .nil))) .nil) (.cons (.ifs (.cmp .Eq (.var 2) (.con (.str "press"))) (.cons (.ifs (.not (.call "_law_in" (.var 3) (.cons (.con (.int 0)) (.cons (.bin .Sub (.blt .len (.var 4)) (.con (.int 1))) .nil)))) (.cons (.ret (.tup (.cons (.con (.str "InvalidPositions")) .nil))) .nil) .nil) (.cons (.expr (.mth .append (.var 0) (.cons (.tup (.cons (.call "_law_after" (.var 4) (.cons (.tup (.cons (.idx (.var 4) (.var 3)) .nil)) .nil)) (.cons (.bin .Add (.var 5) (.var 3)) .nil))) .nil))) (.cons (.ret (.tup (.cons (.con (.str "value")) (.cons (.idx (.var 4) (.var 3)) .nil)))) .nil))) .nil) (.cons (.ifs (.cmp .Eq (.var 2) (.con (.str "add"))) (.cons (.ifs (.or (.var 6) (.or (.not (.call "_law_in" (.var 3) (.cons (.con (.int 0)) (.cons (.con (.int 99)) .nil)))) (.one (.cmp .Eq (.blt .len (.var 4)) (.con (.int 10)))))) (.cons (.ret (.tup (.cons (.con (.str "InvalidItem")) .nil))) .nil) .nil) (.cons (.expr (.mth .append (.var 0) (.cons (.tup (.cons (.bin .Add (.tup (.cons (.var 3) .nil)) (.var 4)) (.cons (.var 5) .nil))) .nil))) (.cons (.ret (.tup (.cons (.con (.str "value")) (.cons (.con .none) .nil)))) .nil))) .nil) (.cons (.ifs (.or (.not (.var 6)) (.one (.and (.cmp .Eq (.var 2) (.con (.str "remove"))) (.one (.cmp .Eq (.blt .len (.var 4)) (.con (.int 1))))))) (.cons (.ret (.tup (.cons (.con (.str "InvalidItem")) .nil))) .nil) .nil) (.cons (.asg 7 (.blt .tuple (.comp (.var 8) (.one 8) (.over (.var 4)) (.yes (.cmp .NotEq (.var 8) (.var 3)))))) (.cons (.expr (.mth .append (.var 0) (.cons (.tup (.cons (.ifx (.cmp .Eq (.var 2) (.con (.str "use"))) (.bin .Add (.tup (.cons (.var 3) .nil)) (.var 7)) (.var 7)) (.cons (.var 5) .nil))) .nil))) (.cons (.ret (.tup (.cons (.con (.str "value")) (.cons (.con .none) .nil)))) .nil)))))))))⟩
def d__law_action : Def := ⟨2, ["bag", "items", "way", "odd", "item"], .cons (.par [2, 3] (.cons (.call "_law_take" (.var 0) (.cons (.con (.int 12)) .nil)) (.cons (.idx (.lst (.cons (.con .none) (.cons (.con (.bool true)) (.cons (.neg (.con (.int 1))) (.cons (.con (.int 100)) (.cons (.con (.str "1")) .nil)))))) (.call "_law_take" (.var 0) (.cons (.con (.int 5)) .nil))) .nil))) (.cons (.asg 4 (.idx (.var 1) (.call "_law_take" (.var 0) (.cons (.blt .len (.var 1)) .nil)))) (.cons (.ifs (.cmp .Lt (.var 2) (.con (.int 3))) (.cons (.ret (.tup (.cons (.con (.str "use")) (.cons (.idx (.lst (.cons (.var 4) (.cons (.var 4) (.cons (.call "_law_take" (.var 0) (.cons (.con (.int 100)) .nil)) (.cons (.var 3) .nil))))) (.call "_law_take" (.var 0) (.cons (.con (.int 4)) .nil))) .nil)))) .nil) .nil) (.cons (.ifs (.cmp .Lt (.var 2) (.con (.int 6))) (.cons (.ret (.tup (.cons (.con (.str "press")) (.cons (.idx (.lst (.cons (.call "_law_take" (.var 0) (.cons (.blt .len (.var 1)) .nil)) (.cons (.call "_law_take" (.var 0) (.cons (.blt .len (.var 1)) .nil)) (.cons (.blt .len (.var 1)) (.cons (.var 3) .nil))))) (.call "_law_take" (.var 0) (.cons (.con (.int 4)) .nil))) .nil)))) .nil) .nil) (.cons (.ifs (.cmp .Lt (.var 2) (.con (.int 8))) (.cons (.ret (.tup (.cons (.con (.str "add")) (.cons (.idx (.lst (.cons (.call "_law_take" (.var 0) (.cons (.con (.int 100)) .nil)) (.cons (.call "_law_take" (.var 0) (.cons (.con (.int 100)) .nil)) (.cons (.var 4) (.cons (.var 3) .nil))))) (.call "_law_take" (.var 0) (.cons (.con (.int 4)) .nil))) .nil)))) .nil) .nil) (.cons (.ret (.ifx (.cmp .Lt (.var 2) (.con (.int 10))) (.tup (.cons (.con (.str "remove")) (.cons (.idx (.lst (.cons (.var 4) (.cons (.var 4) (.cons (.var 3) .nil)))) (.call "_law_take" (.var 0) (.cons (.con (.int 3)) .nil))) .nil))) (.tup (.cons (.con (.str "undo")) (.cons (.con .none) .nil))))) .nil)))))⟩
def d__law_lists_right : Def := ⟨0, ["one", "two", "three"], .cons (.par [0, 1, 2] (.cons (.tup (.cons (.con (.int 1)) (.cons (.con (.int 2)) (.cons (.con (.int 3)) (.cons (.con (.int 4)) (.cons (.con (.int 5)) .nil)))))) (.cons (.tup (.cons (.con (.int 4)) (.cons (.con (.int 2)) (.cons (.con (.int 1)) (.cons (.con (.int 3)) (.cons (.con (.int 5)) .nil)))))) (.cons (.tup (.cons (.con (.int 1)) (.cons (.con (.int 4)) (.cons (.con (.int 2)) (.cons (.con (.int 3)) (.cons (.con (.int 5)) .nil)))))) .nil)))) (.cons (.ifs (.or (.cmp .NotEq (.call "use_all" (.var 0) (.cons (.tup (.cons (.con (.int 2)) (.cons (.con (.int 4)) .nil))) .nil)) (.var 1)) (.or (.cmp .NotEq (.call "find_positions" (.var 0) (.cons (.tup (.cons (.con (.int 2)) (.cons (.con (.int 4)) .nil))) .nil)) (.lst (.cons (.con (.int 1)) (.cons (.con (.int 3)) .nil)))) (.one (.cmp .NotEq (.call "uses_at" (.var 0) (.cons (.tup (.cons (.con (.int 1)) (.cons (.con (.int 3)) .nil))) .nil)) (.tup (.cons (.con (.int 2)) (.cons (.con (.int 4)) .nil))))))) (.cons (.ret (.con (.bool false))) .nil) .nil) (.cons (.ifs (.or (.call "same_effect" (.tup (.cons (.con (.int 1)) (.cons (.con (.int 2)) (.cons (.con (.int 3)) .nil)))) (.cons (.tup (.cons (.con (.int 2)) .nil)) (.cons (.tup (.cons (.con (.int 1)) (.cons (.con (.int 2)) .nil))) .nil))) (.one (.cmp .NotEq (.call "distinguishing_list" (.tup (.cons (.con (.int 1)) (.cons (.con (.int 2)) (.cons (.con (.int 3)) .nil)))) (.cons (.tup (.cons (.con (.int 2)) .nil)) (.cons (.tup (.cons (.con (.int 1)) (.cons (.con (.int 2)) .nil))) .nil))) (.tup (.cons (.con (.int 2)) (.cons (.con (.int 3)) (.cons (.con (.int 1)) .nil))))))) (.cons (.ret (.con (.bool false))) .nil) .nil) (.cons (.ifs (.or (.cmp .NotEq (.call "needed" (.var 0) (.cons (.var 1) .nil)) (.con (.int 2))) (.or (.cmp .NotEq (.call "shortest_uses" (.var 0) (.cons (.var 1) .nil)) (.tup (.cons (.con (.int 2)) (.cons (.con (.int 4)) .nil)))) (.one (.cmp .NotEq (.call "presses" (.var 0) (.cons (.tup (.cons (.con (.int 2)) (.cons (.con (.int 4)) .nil))) .nil)) (.con (.int 4)))))) (.cons (.ret (.con (.bool false))) .nil) .nil) (.cons (.ifs (.or (.cmp .NotEq (.call "fewest_presses" (.var 0) (.cons (.var 1) .nil)) (.con (.int 4))) (.one (.cmp .NotEq (.call "pair_costs" (.var 0) (.cons (.var 1) .nil)) (.lst (.cons (.tup (.cons (.con (.int 2)) (.cons (.con (.int 1)) (.cons (.con (.int 1)) .nil)))) (.cons (.tup (.cons (.con (.int 4)) (.cons (.con (.int 1)) (.cons (.con (.int 1)) .nil)))) (.cons (.tup (.cons (.con (.int 4)) (.cons (.con (.int 2)) (.cons (.con (.int 1)) .nil)))) (.cons (.tup (.cons (.con (.int 4)) (.cons (.con (.int 3)) (.cons (.con (.int 1)) .nil)))) .nil)))))))) (.cons (.ret (.con (.bool false))) .nil) .nil) (.cons (.ifs (.or (.cmp .NotEq (.call "history_count" (.var 0) (.cons (.var 1) (.cons (.con (.int 3)) .nil))) (.con (.int 4))) (.or (.cmp .NotEq (.call "history_at" (.var 0) (.cons (.var 1) (.cons (.con (.int 3)) (.cons (.con (.int 0)) .nil)))) (.tup (.cons (.con (.int 1)) (.cons (.con (.int 2)) (.cons (.con (.int 4)) .nil))))) (.one (.cmp .NotEq (.call "surely_used" (.var 0) (.cons (.var 1) .nil)) (.tup (.cons (.con (.int 2)) (.cons (.con (.int 4)) .nil))))))) (.cons (.ret (.con (.bool false))) .nil) .nil) (.cons (.ifs (.or (.cmp .NotEq (.call "history_number" (.var 0) (.cons (.var 1) (.cons (.tup (.cons (.con (.int 4)) (.cons (.con (.int 2)) (.cons (.con (.int 4)) .nil)))) .nil))) (.con (.int 3))) (.one (.cmp .IsNot (.call "is_history" (.var 0) (.cons (.var 1) (.cons (.tup (.cons (.con (.int 2)) (.cons (.con (.int 2)) (.cons (.con (.int 4)) .nil)))) .nil))) (.con (.bool true))))) (.cons (.ret (.con (.bool false))) .nil) .nil) (.cons (.ifs (.or (.cmp .NotEq (.call "least_total" (.tup (.cons (.var 0) (.cons (.var 1) (.cons (.var 2) .nil)))) .nil) (.con (.int 3))) (.one (.cmp .NotEq (.call "total_count" (.tup (.cons (.var 0) (.cons (.var 1) (.cons (.var 2) .nil)))) (.cons (.con (.int 3)) .nil)) (.con (.int 1))))) (.cons (.ret (.con (.bool false))) .nil) .nil) (.cons (.ret (.cmp .Eq (.call "use_ranges" (.tup (.cons (.var 0) (.cons (.var 1) (.cons (.var 2) .nil)))) (.cons (.con (.int 5)) .nil)) (.lst (.cons (.tup (.cons (.con (.int 2)) (.cons (.con (.int 4)) .nil))) (.cons (.tup (.cons (.con (.int 1)) (.cons (.con (.int 3)) .nil))) .nil))))) .nil))))))))⟩
def d__law_rest_right : Def := ⟨0, ["files", "one", "two", "many"], .cons (.par [0, 1, 2] (.cons (.tup (.cons (.con (.int 1)) (.cons (.con (.int 2)) (.cons (.con (.int 3)) (.cons (.con (.int 1)) (.cons (.con (.int 4)) (.cons (.con (.int 2)) .nil))))))) (.cons (.tup (.cons (.tup (.cons (.con (.int 1)) (.cons (.con (.int 2)) (.cons (.con (.int 3)) .nil)))) (.cons (.tup (.cons (.con (.int 4)) (.cons (.con (.int 5)) .nil))) (.cons (.tup (.cons (.con (.int 6)) .nil)) .nil)))) (.cons (.tup (.cons (.tup (.cons (.con (.int 5)) (.cons (.con (.int 4)) .nil))) (.cons (.tup (.cons (.con (.int 2)) (.cons (.con (.int 1)) (.cons (.con (.int 3)) .nil)))) (.cons (.tup (.cons (.con (.int 6)) .nil)) .nil)))) .nil)))) (.cons (.ifs (.or (.cmp .NotEq (.call "capped" (.var 0) (.cons (.con (.int 3)) .nil)) (.tup (.cons (.con (.int 2)) (.cons (.con (.int 4)) (.cons (.con (.int 1)) .nil))))) (.or (.cmp .NotEq (.call "drops" (.var 0) (.cons (.con (.int 3)) .nil)) (.lst (.cons (.con .none) (.cons (.con .none) (.cons (.con .none) (.cons (.con .none) (.cons (.con (.int 2)) (.cons (.con (.int 3)) .nil)))))))) (.one (.cmp .NotEq (.call "missing" (.var 0) (.cons (.con (.int 3)) .nil)) (.con (.int 5)))))) (.cons (.ret (.con (.bool false))) .nil) .nil) (.cons (.ifs (.or (.cmp .NotEq (.call "distances" (.var 0) .nil) (.lst (.cons (.con .none) (.cons (.con .none) (.cons (.con .none) (.cons (.con (.int 2)) (.cons (.con .none) (.cons (.con (.int 3)) .nil)))))))) (.one (.cmp .NotEq (.call "least_cap" (.var 0) .nil) (.con (.int 4))))) (.cons (.ret (.con (.bool false))) .nil) .nil) (.cons (.ifs (.or (.cmp .NotEq (.call "cap_range" (.var 0) (.cons (.tup (.cons (.con (.int 2)) (.cons (.con (.int 4)) (.cons (.con (.int 1)) .nil)))) .nil)) (.tup (.cons (.con (.int 3)) (.cons (.con (.int 3)) .nil)))) (.one (.cmp .NotEq (.call "apply_pattern" (.tup (.cons (.con (.int 10)) (.cons (.con (.int 20)) (.cons (.con (.int 30)) (.cons (.con (.int 40)) .nil))))) (.cons (.tup (.cons (.con (.int 2)) (.cons (.con (.int 1)) .nil))) .nil)) (.tup (.cons (.con (.int 10)) (.cons (.con (.int 30)) (.cons (.con (.int 20)) (.cons (.con (.int 40)) .nil)))))))) (.cons (.ret (.con (.bool false))) .nil) .nil) (.cons (.ifs (.or (.cmp .NotEq (.call "repeat_pattern" (.tup (.cons (.con (.int 10)) (.cons (.con (.int 20)) (.cons (.con (.int 30)) (.cons (.con (.int 40)) .nil))))) (.cons (.tup (.cons (.con (.int 3)) .nil)) (.cons (.bin .Sub (.bin .Pow (.con (.int 10)) (.con (.int 15))) (.con (.int 1))) .nil))) (.tup (.cons (.con (.int 20)) (.cons (.con (.int 30)) (.cons (.con (.int 40)) (.cons (.con (.int 10)) .nil)))))) (.one (.cmp .NotEq (.call "pattern_period" (.con (.int 4)) (.cons (.tup (.cons (.con (.int 2)) (.cons (.con (.int 1)) .nil))) .nil)) (.con (.int 2))))) (.cons (.ret (.con (.bool false))) .nil) .nil) (.cons (.ifs (.or (.cmp .IsNot (.call "same_pattern" (.con (.int 3)) (.cons (.tup (.cons (.con (.int 1)) (.cons (.con (.int 1)) .nil))) (.cons (.tup .nil) .nil))) (.con (.bool true))) (.one (.cmp .NotEq (.call "shortest_pattern" (.con (.int 4)) (.cons (.tup (.cons (.con (.int 1)) (.cons (.con (.int 1)) (.cons (.con (.int 3)) .nil)))) .nil)) (.tup (.cons (.con (.int 3)) .nil))))) (.cons (.ret (.con (.bool false))) .nil) .nil) (.cons (.ifs (.or (.cmp .NotEq (.call "use_grouped" (.var 1) (.cons (.tup (.cons (.con (.int 5)) .nil)) .nil)) (.tup (.cons (.tup (.cons (.con (.int 5)) (.cons (.con (.int 4)) .nil))) (.cons (.tup (.cons (.con (.int 1)) (.cons (.con (.int 2)) (.cons (.con (.int 3)) .nil)))) (.cons (.tup (.cons (.con (.int 6)) .nil)) .nil))))) (.one (.cmp .NotEq (.call "grouped_needed" (.var 1) (.cons (.var 2) .nil)) (.con (.int 2))))) (.cons (.ret (.con (.bool false))) .nil) .nil) (.cons (.asg 3 (.tup (.cons (.tup (.cons (.con (.int 1)) (.cons (.con (.int 2)) (.cons (.con (.int 3)) (.cons (.con (.int 4)) .nil))))) (.cons (.tup (.cons (.con (.int 5)) (.cons (.con (.int 6)) .nil))) (.cons (.tup (.cons (.con (.int 7)) (.cons (.con (.int 8)) .nil))) (.cons (.tup (.cons (.con (.int 9)) .nil)) .nil)))))) (.cons (.ifs (.cmp .NotEq (.call "grouped_needed" (.var 3) (.cons (.tup (.cons (.tup (.cons (.con (.int 7)) (.cons (.con (.int 8)) .nil))) (.cons (.tup (.cons (.con (.int 1)) (.cons (.con (.int 2)) (.cons (.con (.int 3)) (.cons (.con (.int 4)) .nil))))) (.cons (.tup (.cons (.con (.int 5)) (.cons (.con (.int 6)) .nil))) (.cons (.tup (.cons (.con (.int 9)) .nil)) .nil))))) .nil)) (.con (.int 1))) (.cons (.ret (.con (.bool false))) .nil) .nil) (.cons (.ifs (.or (.cmp .NotEq (.call "grouped_needed" (.var 3) (.cons (.tup (.cons (.tup (.cons (.con (.int 3)) (.cons (.con (.int 1)) (.cons (.con (.int 2)) (.cons (.con (.int 4)) .nil))))) (.cons (.tup (.cons (.con (.int 8)) (.cons (.con (.int 7)) .nil))) (.cons (.tup (.cons (.con (.int 5)) (.cons (.con (.int 6)) .nil))) (.cons (.tup (.cons (.con (.int 9)) .nil)) .nil))))) .nil)) (.con (.int 2))) (.one (.cmp .NotEq (.call "grouped_needed" (.var 3) (.cons (.rev (.var 3)) .nil)) (.con (.int 3))))) (.cons (.ret (.con (.bool false))) .nil) .nil) (.cons (.ret (.and (.cmp .Eq (.call "use_grouped" (.var 1) (.cons (.call "grouped_uses" (.var 1) (.cons (.var 2) .nil)) .nil)) (.var 2)) (.one (.cmp .Eq (.call "grouped_count" (.var 1) (.cons (.var 2) (.cons (.con (.int 3)) .nil))) (.con (.int 7)))))) .nil))))))))))⟩
def d__law_long_right : Def := ⟨1, ["count", "items", "last"], .cons (.asg 1 (.trg1 (.var 0))) (.cons (.ifs (.or (.cmp .NotEq (.call "needed" (.var 1) (.cons (.rev (.var 1)) .nil)) (.bin .Sub (.var 0) (.con (.int 1)))) (.one (.cmp .NotEq (.call "shortest_uses" (.var 1) (.cons (.rev (.var 1)) .nil)) (.trg2 (.con (.int 1)) (.var 0))))) (.cons (.ret (.con (.bool false))) .nil) .nil) (.cons (.ifs (.cmp .NotEq (.call "fewest_presses" (.var 1) (.cons (.rev (.var 1)) .nil)) (.bin .FloorDiv (.bin .Mult (.var 0) (.bin .Sub (.var 0) (.con (.int 1)))) (.con (.int 2)))) (.cons (.ret (.con (.bool false))) .nil) .nil) (.cons (.ifs (.cmp .NotEq (.call "history_count" (.var 1) (.cons (.rev (.var 1)) (.cons (.var 0) .nil))) (.bin .Add (.bin .FloorDiv (.bin .Mult (.var 0) (.bin .Sub (.var 0) (.con (.int 1)))) (.con (.int 2))) (.con (.int 1)))) (.cons (.ret (.con (.bool false))) .nil) .nil) (.cons (.asg 2 (.bin .Add (.tup (.cons (.bin .Sub (.var 0) (.con (.int 1))) .nil)) (.sli (.var 1) .no (.yes (.neg (.con (.int 1))))))) (.cons (.ifs (.or (.cmp .NotEq (.call "needed" (.var 1) (.cons (.var 2) .nil)) (.con (.int 1))) (.one (.cmp .NotEq (.call "fewest_presses" (.var 1) (.cons (.var 2) .nil)) (.bin .Sub (.var 0) (.con (.int 1)))))) (.cons (.ret (.con (.bool false))) .nil) .nil) (.cons (.ifs (.cmp .NotEq (.call "surely_used" (.var 1) (.cons (.var 2) .nil)) (.tup (.cons (.bin .Sub (.var 0) (.con (.int 1))) .nil))) (.cons (.ret (.con (.bool false))) .nil) .nil) (.cons (.ifs (.or (.cmp .NotEq (.call "needed" (.var 2) (.cons (.var 1) .nil)) (.bin .Sub (.var 0) (.con (.int 1)))) (.one (.cmp .NotEq (.call "fewest_presses" (.var 2) (.cons (.var 1) .nil)) (.bin .Pow (.bin .Sub (.var 0) (.con (.int 1))) (.con (.int 2)))))) (.cons (.ret (.con (.bool false))) .nil) .nil) (.cons (.ret (.and (.cmp .Eq (.call "pattern_period" (.var 0) (.cons (.tup (.cons (.bin .Sub (.var 0) (.con (.int 1))) .nil)) .nil)) (.var 0)) (.one (.cmp .Eq (.call "shortest_pattern" (.var 0) (.cons (.tup (.cons (.con (.int 0)) (.cons (.con (.int 0)) .nil))) .nil)) (.tup .nil))))) .nil))))))))⟩
end MP
set_option maxHeartbeats 2000000
/-! MSa: what the smallest defs say. -/
namespace MP
open PySem L2
local macro_rules | `(tactic| walk_at "mp") => `(tactic| simp only [q_bind, q_ok, q_exc, q_none, q_ret, q_opt, q_stuck, q_view_d, q_view_fr, q_keep_d, q_keep_fr, q_lend_d, q_lend_fr, q_lend_pl, q_lend_loc, q_take_d, q_take_fr, q_retW_d, q_retW_fr, q_puts_nil, q_puts_cons, q_takes_nil, q_takes_cons, q_tgt1, q_tgtM, q_bool, q_int, q_con, q_glo, q_tup, q_lst, q_bin, q_neg, q_cmp, q_chain, q_and, q_or, q_one, q_not, q_ifx, q_idx, q_sli, q_rev, q_call, q_blt, q_lens, q_trg1, q_trg2, q_isi, q_mth, q_mthL, q_mthT, q_mthN, q_mthS, q_comp, q_no, q_yes, q_cno, q_cyes, q_es_nil, q_es, q_as_nil, q_as, q_ks_nil, q_ks, q_over, q_rng1, q_rng2, q_enum, q_zip, q_asg, q_asgT, q_par, q_setI, q_expr, q_retS, q_ifs, q_loop, q_whl, q_rai, q_brk, q_pass, q_bnil, q_bcons, q_fl_nx, q_fl_brk, q_fl_ret, q_iteM,
  s_runD, s_end_nx, s_end_ret, s_end_exc, List.replicate_succ, List.replicate_zero, Nat.reduceSub, Nat.reduceAdd, Nat.reduceLT, Nat.zero_add, not_true_eq_false, not_false_eq_true, false_and, and_false, or_true, true_or, or_false, false_or, s_var, s_look_v, s_look_l, s_look_o, s_vs_v, s_vs_o, s_view_pl, s_view_loc, s_keep_pl, s_keepS_o, s_keepS_v, s_take_pl, s_takeS_o, s_takeS_v, s_ret_pl, s_retS_o, s_retS_v, s_set_pl, s_setS_o, s_set_loc, s_put, s_call, s_callK_d, s_callK_f, s_callK_x, s_args_nil, s_args, s_arg_d, s_arg_l, s_arg_pl, s_fz_nil, s_fz_d, s_fz_l, s_fz_pl, s_frzS_o, s_frzS_v,
  fl_int, fl_bool, fl_none, fl_str, vT, vI, ti, li, okB, List.map_append, e_lnn, e_tnn, e_tnil, e_lnil, sh_tnil, sh_lnil, z_kL, z_kT, k_ne1, k_ne2, w_nil, w_cons, w_bv, w_bo, w_bu, w_bl, w_t1, w_tM, at_0, at_1, at_2, at_3, set_0, set_2, n_cell, e_int, e_bool, e_str, sh_str, e_ti, e_li, e_any, sh_ti, sh_li, sh_int, sh_bool, sh_none, f_ints, ai_map, List.length_map, q_for_nil, b_add, b_sub, b_mul, b_fdiv, b_mod, b_pow, b_catT, b_catL, b_mulL, c_lt, c_le, c_gt, c_ge, c_eq, c_ne, c_isNN, c_isNT, c_isNL, c_isB, c_inN, c_inNN, c_inNT, c_inNL, c_inT, c_inL, c_niT, c_niL, d_idxL, d_idxT, d_sliL, d_sliT, d_revL, d_revT, d_lenL, d_lenT, d_tupL, d_tupT, d_lstL, d_lstT, d_all, d_sum, d_itL, d_itT, d_cL, d_few, m_app, m_appT, m_ixT, m_ixL, m_ix, m_ixl, m_ins, m_insT, m_rem, m_remT, m_popT, m_popAT, m_pop, m_popA, m_kL, m_kT, n_int, n_bool, n_none, n_str, n_tup, n_lst, n_nil, n_cons, n_ints, y_none_I, y_none_B, y_none_T, y_none_L, y_none_S, y_none_BLT, y_bool_I, y_bool_B, y_bool_T, y_bool_L, y_bool_S, y_bool_BLT, y_int_I, y_int_B, y_int_T, y_int_L, y_int_S, y_int_BLT, y_str_I, y_str_B, y_str_T, y_str_L, y_str_S, y_str_BLT, y_list_I, y_list_B, y_list_T, y_list_L, y_list_S, y_list_BLT, y_tuple_I, y_tuple_B, y_tuple_T, y_tuple_L, y_tuple_S, y_tuple_BLT,
  List.getElem?_cons_zero, List.getElem?_cons_succ, List.set_cons_zero, List.set_cons_succ, List.length_cons, List.length_nil, Option.bind_some, Option.bind_none, Option.map_some, Option.map_none, List.map_cons, List.map_nil, List.cons_append, List.nil_append, Bool.and_true, Bool.true_and, Bool.false_and, Bool.and_false, if_true, if_false, Bool.not_true, Bool.not_false, reduceCtorEq, decide_true, decide_false, q_dnew, q_dis, q_mm2, q_call0, q_srtT, q_lzip, q_comp2, q_keys, s_lock_fr, s_lock_pl, s_lockS, d_cD, d_setK, d_idxK, d_srtL, d_srtT, d_srtK, d_int, m_getT, m_get, m_kD, q_mthK, d_lstD, if_pos, Bool.false_eq_true, true_and, and_true, *])
def Sp_is_integer (F : FT) : Prop := ∀ i s, F [vI i] s = okB true s
theorem sp_is_integer {cf : CallF} : Sp_is_integer (runD cf d_is_integer) := fun i s => rfl
def Sp_in_range (F : FT) : Prop := ∀ i lo hi s, F [vI i, vI lo, vI hi] s = okB (decide (lo ≤ i) && decide (i ≤ hi)) s
theorem sp_in_range {cf : CallF} (h : Sp_is_integer (cf "is_integer")) : Sp_in_range (runD cf d_in_range) := fun i lo hi s => by
  have h1 := h i s
  unfold d_in_range
  by_cases h : lo ≤ i
  · walk_at "mp"
  · walk_at "mp"
def isItem (i : Int) : Bool := decide (0 ≤ i) && decide (i ≤ 99)
def Sp_is_item (F : FT) : Prop := ∀ i s, F [vI i] s = okB (isItem i) s
theorem sp_is_item {cf : CallF} (h : Sp_in_range (cf "in_range")) : Sp_is_item (runD cf d_is_item) := fun i s => by
  have h1 := h i 0 99 s
  unfold d_is_item isItem
  walk_at "mp"
/-- [is_item(x) for x in ..] -/
theorem items_comp {cf : CallF} (h : Sp_is_item (cf "is_item")) {i : Nat} {v : List Slot} {s : List Cell} (hi : i < v.length) (ns : List Int) :
    compF (.one i) v (evC cf .no) ((evE cf (.call "is_item" (.var i) .nil)).bind keep) (ns.map PyData.int) s = some ((ns.map isItem).map PyData.bool, s) := by
  have := comp_one (c := evC cf .no) (e := (evE cf (.call "is_item" (.var i) .nil)).bind keep) (s := s) (p := fun _ => true) (f := fun x => match x with | .int j => .bool (isItem j) | _ => .none) hi (ns.map PyData.int) (fun x _ => rfl) fun x hx _ => by
    obtain ⟨j, _, rfl⟩ := List.mem_map.mp hx
    have h1 := h j s
    have h2 : (v.set i (.val (.int j)))[i]? = some (.val (.int j)) := List.getElem?_set_self hi
    refine ⟨?_, rfl⟩
    walk_at "mp"
  rw [this]
  rw [List.filter_eq_self.mpr (fun _ _ => rfl), List.map_map, List.map_map]
  rfl
def isList (ns : List Int) : Bool := decide (1 ≤ ns.length ∧ ns.length ≤ 10) && ns.all isItem && decide (ns.Nodup)
def Sp_is_list (F : FT) : Prop := ∀ ns s, ns.length < 4000 → F [vT ns] s = okB (isList ns) s
theorem all_item (ns : List Int) : ns.all isItem = (ns.map isItem).all id := by rw [List.all_map]; rfl
theorem sp_is_list {cf : CallF} (h : Sp_is_item (cf "is_item")) : Sp_is_list (runD cf d_is_list) := fun ns s hl => by
  have hc := items_comp h (i := 1) (v := [vT ns, .un]) (s := s) (Nat.lt_succ_self 1) ns
  have hL : ¬ LIM < ns.length := by unfold LIM; omega
  have hab := ab_map (ns.map isItem)
  have hd := dedup_nodup ns
  unfold d_is_list isList
  by_cases h1 : 1 ≤ ns.length
  · by_cases h2 : ns.length ≤ 10
    · have h3 : (1 : Int) ≤ (ns.length : Nat) := by omega
      have h4 : ((ns.length : Nat) : Int) ≤ 10 := by omega
      rw [all_item]
      by_cases h5 : (ns.map isItem).all id = true
      · walk_at "mp"
      · have h5 : (ns.map isItem).all id = false := by simpa using h5
        walk_at "mp"
    · have h3 : (1 : Int) ≤ (ns.length : Nat) := by omega
      have h4 : ¬ ((ns.length : Nat) : Int) ≤ 10 := by omega
      walk_at "mp"
  · have h3 : ¬ (1 : Int) ≤ (ns.length : Nat) := by omega
    walk_at "mp"
def isFiles (ns : List Int) : Bool := decide (ns.length ≤ 60) && ns.all isItem
def Sp_check_files (F : FT) : Prop := ∀ ns s, ns.length ≤ 60 → ns.all isItem = true → F [vT ns] s = some (.ok (.d .none) s)
theorem sp_check_files {cf : CallF} (h : Sp_is_item (cf "is_item")) : Sp_check_files (runD cf d_check_files) := fun ns s hl ha => by
  have hc := items_comp h (i := 1) (v := [vT ns, .un]) (s := s) (Nat.lt_succ_self 1) ns
  have hL : ¬ LIM < ns.length := by unfold LIM; omega
  have hab := ab_map (ns.map isItem)
  have h6 : (ns.map isItem).all id = true := by rw [← all_item]; exact ha
  have h7 : ¬ (60 : Int) < (ns.length : Nat) := by omega
  unfold d_check_files
  walk_at "mp"
/-! ### the order of last uses -/
def stepO (acc : List Int) (x : Int) : List Int := if x ∈ acc then acc else acc ++ [x]
def lastO (uses : List Int) : List Int := uses.reverse.foldl stepO []
theorem stepO_len (acc : List Int) (x : Int) : (stepO acc x).length ≤ acc.length + 1 := by
  unfold stepO
  split
  · omega
  · rw [List.length_append]; exact Nat.le_refl _
def Sp_last_order (F : FT) : Prop := ∀ ns s, ns.length ≤ 1000 → F [vT ns] s = some (.ok (.d (ti (lastO ns))) s)
theorem sp_last_order {cf : CallF} : Sp_last_order (runD cf d_last_order) := fun ns s hl => by
  obtain ⟨sl, hf⟩ := for_ints (tg := .one 2) (b := exB cf (.cons (.ifs (.cmp .NotIn (.var 2) (.var 1)) (.cons (.asg 1 (.bin .Add (.var 1) (.tup (.cons (.var 2) .nil)))) .nil) .nil) .nil))
    (S := fun (a : List Int) sl => ⟨[vT ns, vT a, sl], s⟩) (f := stepO) (fun ys a => a.length + ys.length ≤ 1000) (fun j ys a sl p => by
      rw [List.length_cons] at p
      have := stepO_len a j
      refine ⟨?_, by omega⟩
      unfold turnF
      by_cases h : j ∈ a
      · have hs : stepO a j = a := if_pos h
        walk_at "mp"
      · have hs : stepO a j = a ++ [j] := if_neg h
        have hL : a.length + 1 ≤ LIM := by
          unfold LIM
          omega
        walk_at "mp") ns.reverse [] .un (by simp; exact hl)
  simp only [vT, ti, List.map_nil] at hf
  have hr : (ns.map PyData.int).reverse = ns.reverse.map PyData.int := (List.map_reverse ..).symm
  unfold d_last_order
  walk_at "mp"
  rfl
/-- the same by a list that grows -/
def Sp_law_latest (F : FT) : Prop := ∀ ns s, ns.length ≤ 1000 → F [vT ns] s = some (.ok (.d (ti (lastO ns))) s)
theorem sp_law_latest {cf : CallF} : Sp_law_latest (runD cf d__law_latest) := fun ns s hl => by
  obtain ⟨sl, hf⟩ := for_ints (tg := .one 2) (b := exB cf (.cons (.ifs (.cmp .NotIn (.var 2) (.var 1)) (.cons (.expr (.mth .append (.var 1) (.cons (.var 2) .nil))) .nil) .nil) .nil))
    (S := fun (a : List Int) sl => ⟨[vT ns, .own (.lst (a.map PyData.int)), sl], s⟩) (f := stepO) (fun ys a => a.length + ys.length ≤ 1000) (fun j ys a sl p => by
      rw [List.length_cons] at p
      have := stepO_len a j
      refine ⟨?_, by omega⟩
      unfold turnF
      by_cases h : j ∈ a
      · have hs : stepO a j = a := if_pos h
        walk_at "mp"
      · have hs : stepO a j = a ++ [j] := if_neg h
        have hL : a.length < LIM := by
          unfold LIM
          omega
        walk_at "mp") ns.reverse [] .un (by simp; exact hl)
  simp only [vT, ti, List.map_nil] at hf
  have hr : (ns.map PyData.int).reverse = ns.reverse.map PyData.int := (List.map_reverse ..).symm
  unfold d__law_latest
  walk_at "mp"
  rfl
end MP
set_option maxHeartbeats 2000000
set_option exponentiation.threshold 2000
/-! MSb: the bags: a number taken. -/
namespace MP
open PySem L2
local macro_rules | `(tactic| walk_at "mp") => `(tactic| simp only [q_bind, q_ok, q_exc, q_none, q_ret, q_opt, q_stuck, q_view_d, q_view_fr, q_keep_d, q_keep_fr, q_lend_d, q_lend_fr, q_lend_pl, q_lend_loc, q_take_d, q_take_fr, q_retW_d, q_retW_fr, q_puts_nil, q_puts_cons, q_takes_nil, q_takes_cons, q_tgt1, q_tgtM, q_bool, q_int, q_con, q_glo, q_tup, q_lst, q_bin, q_neg, q_cmp, q_chain, q_and, q_or, q_one, q_not, q_ifx, q_idx, q_sli, q_rev, q_call, q_blt, q_lens, q_trg1, q_trg2, q_isi, q_mth, q_mthL, q_mthT, q_mthN, q_mthS, q_comp, q_no, q_yes, q_cno, q_cyes, q_es_nil, q_es, q_as_nil, q_as, q_ks_nil, q_ks, q_over, q_rng1, q_rng2, q_enum, q_zip, q_asg, q_asgT, q_par, q_setI, q_expr, q_retS, q_ifs, q_loop, q_whl, q_rai, q_brk, q_pass, q_bnil, q_bcons, q_fl_nx, q_fl_brk, q_fl_ret, q_iteM,
  s_runD, s_end_nx, s_end_ret, s_end_exc, List.replicate_succ, List.replicate_zero, Nat.reduceSub, Nat.reduceAdd, Nat.reduceLT, Nat.zero_add, not_true_eq_false, not_false_eq_true, false_and, and_false, or_true, true_or, or_false, false_or, s_var, s_look_v, s_look_l, s_look_o, s_vs_v, s_vs_o, s_view_pl, s_view_loc, s_keep_pl, s_keepS_o, s_keepS_v, s_take_pl, s_takeS_o, s_takeS_v, s_ret_pl, s_retS_o, s_retS_v, s_set_pl, s_setS_o, s_set_loc, s_put, s_call, s_callK_d, s_callK_f, s_callK_x, s_args_nil, s_args, s_arg_d, s_arg_l, s_arg_pl, s_fz_nil, s_fz_d, s_fz_l, s_fz_pl, s_frzS_o, s_frzS_v,
  fl_int, fl_bool, fl_none, fl_str, vT, vI, ti, li, okB, List.map_append, e_lnn, e_tnn, e_tnil, e_lnil, sh_tnil, sh_lnil, z_kL, z_kT, k_ne1, k_ne2, w_nil, w_cons, w_bv, w_bo, w_bu, w_bl, w_t1, w_tM, at_0, at_1, at_2, at_3, set_0, set_2, n_cell, e_int, e_bool, e_str, sh_str, e_ti, e_li, e_any, sh_ti, sh_li, sh_int, sh_bool, sh_none, f_ints, ai_map, List.length_map, q_for_nil, b_add, b_sub, b_mul, b_fdiv, b_mod, b_pow, b_catT, b_catL, b_mulL, c_lt, c_le, c_gt, c_ge, c_eq, c_ne, c_isNN, c_isNT, c_isNL, c_isB, c_inN, c_inNN, c_inNT, c_inNL, c_inT, c_inL, c_niT, c_niL, d_idxL, d_idxT, d_sliL, d_sliT, d_revL, d_revT, d_lenL, d_lenT, d_tupL, d_tupT, d_lstL, d_lstT, d_all, d_sum, d_itL, d_itT, d_cL, d_few, m_app, m_appT, m_ixT, m_ixL, m_ix, m_ixl, m_ins, m_insT, m_rem, m_remT, m_popT, m_popAT, m_pop, m_popA, m_kL, m_kT, n_int, n_bool, n_none, n_str, n_tup, n_lst, n_nil, n_cons, n_ints, y_none_I, y_none_B, y_none_T, y_none_L, y_none_S, y_none_BLT, y_bool_I, y_bool_B, y_bool_T, y_bool_L, y_bool_S, y_bool_BLT, y_int_I, y_int_B, y_int_T, y_int_L, y_int_S, y_int_BLT, y_str_I, y_str_B, y_str_T, y_str_L, y_str_S, y_str_BLT, y_list_I, y_list_B, y_list_T, y_list_L, y_list_S, y_list_BLT, y_tuple_I, y_tuple_B, y_tuple_T, y_tuple_L, y_tuple_S, y_tuple_BLT,
  List.getElem?_cons_zero, List.getElem?_cons_succ, List.set_cons_zero, List.set_cons_succ, List.length_cons, List.length_nil, Option.bind_some, Option.bind_none, Option.map_some, Option.map_none, List.map_cons, List.map_nil, List.cons_append, List.nil_append, Bool.and_true, Bool.true_and, Bool.false_and, Bool.and_false, if_true, if_false, Bool.not_true, Bool.not_false, reduceCtorEq, decide_true, decide_false, q_dnew, q_dis, q_mm2, q_call0, q_srtT, q_lzip, q_comp2, q_keys, s_lock_fr, s_lock_pl, s_lockS, d_cD, d_setK, d_idxK, d_srtL, d_srtT, d_srtK, d_int, m_getT, m_get, m_kD, q_mthK, d_lstD, if_pos, Bool.false_eq_true, true_and, and_true, *])
def Sp_well (F : FT) : Prop := ∀ c t : Int, ∃ b0 b1, F [vI c, vI t] [] = some (.ok (.fr (.lst [.int b0, .int b1, .int t])) []) ∧ 0 ≤ b0 ∧ 0 ≤ b1 ∧ b1 < MM
theorem sp_well {cf : CallF} : Sp_well (runD cf d__law_well) := fun c t => by
  have hm : (0 : Int) < 2305843009213693951 := by decide
  have hp : (10 : Int) ^ (18 : Int).toNat = 1000000000000000000 := by decide
  have hc : (0 : Int) ≤ 18 ∧ (18 : Int) ≤ 1000 ∧ (10 : Int).natAbs < 2 ^ 64 := by decide
  have m0 := Int.emod_nonneg c (show (2305843009213693951 : Int) ≠ 0 by decide)
  have m1 := Int.emod_lt_of_pos c hm
  by_cases h : (1000000000000000000 : Int) ≤ c
  · refine ⟨c - 1000000000000000000, c % 2305843009213693951, ?_, by omega, m0, m1⟩
    unfold d__law_well
    walk_at "mp"
  · refine ⟨0, c % 2305843009213693951, ?_, by omega, m0, m1⟩
    unfold d__law_well
    walk_at "mp"
/-- a bag in use: n more turns of its counter are in sight -/
def BagIn (b : Bag) (n : Nat) : Prop := 0 ≤ b.1 ∧ 0 ≤ b.2.1 ∧ b.2.1 < MM ∧ 0 ≤ b.2.2 ∧ b.2.2 ≤ 1000000 + (n : Nat)
def Sp_take (F : FT) : Prop := ∀ (b : Bag) (n : Nat) (m : Int), BagIn b n → n ≤ 1000000000 → 0 < m → m < 1000000000 → ∃ (r : Int) (b' : Bag), F [.loc 0, vI m] [.lst b.ds] = some (.ok (.d (.int r)) [.lst b'.ds]) ∧ 0 ≤ r ∧ r < m ∧ BagIn b' (n + 1)
theorem sp_take {cf : CallF} : Sp_take (runD cf d__law_take) := fun b n m hb hn h0 h1 => by
  obtain ⟨b1, b2, b3⟩ := b
  obtain ⟨k1, k2, k3, k4, k5⟩ := hb
  have hm : m < 1073741824 := by omega
  have hz : (0 : Nat) < 1 := by decide
  by_cases h : 0 < b1
  · refine ⟨b1 % m, (b1 / m, b2, b3), ?_, Int.emod_nonneg _ (by omega), Int.emod_lt_of_pos _ h0, Int.ediv_nonneg k1 (by omega), k2, k3, k4, ?_⟩
    · unfold d__law_take Bag.ds
      walk_at "mp"
    · show b3 ≤ 1000000 + ((n + 1 : Nat) : Int)
      have : b3 ≤ 1000000 + (n : Int) := k5
      omega
  · have k4 : (0 : Int) ≤ b3 := k4
    have k5 : b3 ≤ 1000000 + (n : Int) := k5
    have k2 : (0 : Int) ≤ b2 := k2
    have k3 : b2 < 2305843009213693951 := k3
    generalize hx1 : (b2 + 1000003 * (b3 + 1)) % 2305843009213693951 = x1
    have a1 : 0 ≤ x1 := by rw [← hx1]; exact Int.emod_nonneg _ (by decide)
    have a2 : x1 < 2305843009213693951 := by rw [← hx1]; exact Int.emod_lt_of_pos _ (by decide)
    generalize hx2 : (x1 * x1 + 7919 * (b3 + 1) ^ (2 : Int).toNat + 5) % 2305843009213693951 = x2
    have a3 : 0 ≤ x2 := by rw [← hx2]; exact Int.emod_nonneg _ (by decide)
    have a4 : x2 < 2305843009213693951 := by rw [← hx2]; exact Int.emod_lt_of_pos _ (by decide)
    refine ⟨x2 ^ (3 : Int).toNat % 2305843009213693951 / 13 % m, (b1, b2, b3 + 1), ?_, Int.emod_nonneg _ (by omega), Int.emod_lt_of_pos _ h0, k1, k2, k3, by show 0 ≤ b3 + 1; omega, ?_⟩
    · have c0 : ((1000003 : Int).natAbs < 2 ^ 64 ∨ (b3 + 1).natAbs < 2 ^ 64) ∨ ((1000003 : Int).natAbs < 2 ^ 1000 ∧ (b3 + 1).natAbs < 2 ^ 1000) := .inl (.inl (by decide))
      have c1 : (x1.natAbs < 2 ^ 64 ∨ x1.natAbs < 2 ^ 64) ∨ (x1.natAbs < 2 ^ 1000 ∧ x1.natAbs < 2 ^ 1000) := .inl (.inl (by omega))
      have c2 : ((7919 : Int).natAbs < 2 ^ 64 ∨ ((b3 + 1) ^ (2 : Int).toNat).natAbs < 2 ^ 64) ∨ ((7919 : Int).natAbs < 2 ^ 1000 ∧ ((b3 + 1) ^ (2 : Int).toNat).natAbs < 2 ^ 1000) := .inl (.inl (by decide))
      have c3 : (0 : Int) ≤ 2 ∧ (2 : Int) ≤ 1000 ∧ (b3 + 1).natAbs < 2 ^ 64 := ⟨by decide, by decide, by omega⟩
      have c4 : (0 : Int) ≤ 3 ∧ (3 : Int) ≤ 1000 ∧ x2.natAbs < 2 ^ 64 := ⟨by decide, by decide, by omega⟩
      have c5 : (0 : Int) < 13 ∧ (13 : Int) < 1073741824 := by decide
      have c6 : (0 : Int) < 2305843009213693951 := by decide
      unfold d__law_take Bag.ds
      walk_at "mp"
    · show b3 + 1 ≤ 1000000 + ((n + 1 : Nat) : Int)
      omega
/-! ### a tuple of numbers drawn -/
def Sp_files (F : FT) : Prop := ∀ (b : Bag) (n : Nat) (m : Int), BagIn b n → n ≤ 100000 → 0 ≤ m → m ≤ 1000 → ∃ (ns : List Int) (b' : Bag), F [.loc 0, vI m] [.lst b.ds] = some (.ok (.d (ti ns)) [.lst b'.ds]) ∧ (ns.length : Int) ≤ m ∧ (∀ x ∈ ns, 0 ≤ x ∧ x ≤ 99) ∧ ∃ k, k ≤ 1002 ∧ BagIn b' (n + k)
/-- a comprehension that takes numbers -/
theorem takes_comp {cf : CallF} (h : Sp_take (cf "_law_take")) {i j : Nat} {v : List Slot} {m : Int} (hi : i < v.length) (hv : v[0]? = some (.loc 0)) (hm : v[j]? = some (vI m)) (hij : i ≠ j) (hi0 : i ≠ 0) (m0 : 0 < m) (m1 : m < 1000000000) :
    ∀ (xs : List D) (b : Bag) (n : Nat), BagIn b n → n + xs.length ≤ 1000000000 → ∃ (ns : List Int) (b' : Bag), compF (.one i) v (evC cf .no) ((evE cf (.call "_law_take" (.var 0) (.cons (.var j) .nil))).bind keep) xs [.lst b.ds] = some (ns.map PyData.int, [.lst b'.ds]) ∧ ns.length = xs.length ∧ (∀ x ∈ ns, 0 ≤ x ∧ x < m) ∧ BagIn b' (n + xs.length)
  | [], b, n, hb, _ => ⟨[], b, rfl, rfl, by simp, hb⟩
  | x :: xs, b, n, hb, hn => by
    rw [List.length_cons] at hn
    obtain ⟨r, b1, h1, h2, h3, h4⟩ := h b n m hb (by omega) m0 m1
    obtain ⟨ns, b2, k1, k2, k3, k4⟩ := takes_comp h hi hv hm hij hi0 m0 m1 xs b1 (n + 1) h4 (by omega)
    refine ⟨r :: ns, b2, ?_, by rw [List.length_cons, List.length_cons, k2], fun y hy => ?_, ?_⟩
    · have e1 : putTgt (.one i) x ⟨v, [.lst b.ds]⟩ = some (.ok () ⟨v.set i (.val x), [.lst b.ds]⟩) := if_pos hi
      have g0 : (v.set i (.val x))[0]? = some (.loc 0) := by rw [List.getElem?_set_ne hi0]; exact hv
      have gj : (v.set i (.val x))[j]? = some (.val (.int m)) := by rw [List.getElem?_set_ne hij]; exact hm
      have e3 : ((evE cf (.call "_law_take" (.var 0) (.cons (.var j) .nil))).bind keep) ⟨v.set i (.val x), [.lst b.ds]⟩ = some (.ok (.int r) ⟨v.set i (.val x), [.lst b1.ds]⟩) := by
        walk_at "mp"
      rw [compF_t e1 (show evC cf .no ⟨v.set i (.val x), [.lst b.ds]⟩ = some (.ok true ⟨v.set i (.val x), [.lst b.ds]⟩) from rfl) e3 rfl]
      show (compF (.one i) v (evC cf .no) _ xs [.lst b1.ds]).map _ = _
      rw [k1]
      rfl
    · rcases List.mem_cons.mp hy with z | z
      · rw [z]; exact ⟨h2, h3⟩
      · exact k3 y z
    · rw [List.length_cons]
      have : n + (xs.length + 1) = n + 1 + xs.length := by omega
      rw [this]
      exact k4
theorem sp_files {cf : CallF} (h : Sp_take (cf "_law_take")) : Sp_files (runD cf d__law_files) := fun b n m hb hn m0 m1 => by
  obtain ⟨r, b1, h1, h2, h3, h4⟩ := h b n 4 hb (by omega) (by decide) (by decide)
  obtain ⟨q, b2, k1, k2, k3, k4⟩ := h b1 (n + 1) (m + 1) h4 (by omega) (by omega) (by omega)
  obtain ⟨many, hmany, l0, l1⟩ : ∃ many : Int, atD [.int 2, .int 5, .int 12, .int 100] r = some (.int many) ∧ 0 < many ∧ many ≤ 100 := by
    have : r = 0 ∨ r = 1 ∨ r = 2 ∨ r = 3 := by omega
    rcases this with rfl | rfl | rfl | rfl
    · exact ⟨2, at_0, by decide, by decide⟩
    · exact ⟨5, at_1, by decide, by decide⟩
    · exact ⟨12, at_2, by decide, by decide⟩
    · exact ⟨100, at_3, by decide, by decide⟩
  have hl : (rngD 0 q).length = q.toNat := by rw [rngD_length, Int.sub_zero]
  obtain ⟨ns, b3, c1, c2, c3, c4⟩ := takes_comp h (i := 3) (j := 2) (v := [.loc 0, vI m, vI many, .un]) (m := many) (Nat.lt_succ_self 3) rfl rfl (by decide) (by decide) l0 (by omega) (rngD 0 q) b2 (n + 1 + 1) k4 (by rw [hl]; omega)
  refine ⟨ns, b3, ?_, by rw [c2, hl]; omega, fun x hx => by have := c3 x hx; omega, 2 + (rngD 0 q).length, by rw [hl]; omega, by
    have : n + (2 + (rngD 0 q).length) = n + 1 + 1 + (rngD 0 q).length := by omega
    rw [this]
    exact c4⟩
  have g1 : -1000000 ≤ q ∧ q ≤ 1000000 := by omega
  have g2 : ¬ LIM < q.toNat := by unfold LIM; omega
  unfold d__law_files
  walk_at "mp"
end MP
set_option maxHeartbeats 2000000
/-! MSc: whether two results are the same. -/
namespace MP
open PySem L2
local macro_rules | `(tactic| walk_at "mp") => `(tactic| simp only [q_bind, q_ok, q_exc, q_none, q_ret, q_opt, q_stuck, q_view_d, q_view_fr, q_keep_d, q_keep_fr, q_lend_d, q_lend_fr, q_lend_pl, q_lend_loc, q_take_d, q_take_fr, q_retW_d, q_retW_fr, q_puts_nil, q_puts_cons, q_takes_nil, q_takes_cons, q_tgt1, q_tgtM, q_bool, q_int, q_con, q_glo, q_tup, q_lst, q_bin, q_neg, q_cmp, q_chain, q_and, q_or, q_one, q_not, q_ifx, q_idx, q_sli, q_rev, q_call, q_blt, q_lens, q_trg1, q_trg2, q_isi, q_mth, q_mthL, q_mthT, q_mthN, q_mthS, q_comp, q_no, q_yes, q_cno, q_cyes, q_es_nil, q_es, q_as_nil, q_as, q_ks_nil, q_ks, q_over, q_rng1, q_rng2, q_enum, q_zip, q_asg, q_asgT, q_par, q_setI, q_expr, q_retS, q_ifs, q_loop, q_whl, q_rai, q_brk, q_pass, q_bnil, q_bcons, q_fl_nx, q_fl_brk, q_fl_ret, q_iteM,
  s_runD, s_end_nx, s_end_ret, s_end_exc, List.replicate_succ, List.replicate_zero, Nat.reduceSub, Nat.reduceAdd, Nat.reduceLT, Nat.zero_add, not_true_eq_false, not_false_eq_true, false_and, and_false, or_true, true_or, or_false, false_or, s_var, s_look_v, s_look_l, s_look_o, s_vs_v, s_vs_o, s_view_pl, s_view_loc, s_keep_pl, s_keepS_o, s_keepS_v, s_take_pl, s_takeS_o, s_takeS_v, s_ret_pl, s_retS_o, s_retS_v, s_set_pl, s_setS_o, s_set_loc, s_put, s_call, s_callK_d, s_callK_f, s_callK_x, s_args_nil, s_args, s_arg_d, s_arg_l, s_arg_pl, s_fz_nil, s_fz_d, s_fz_l, s_fz_pl, s_frzS_o, s_frzS_v,
  fl_int, fl_bool, fl_none, fl_str, vT, vI, ti, li, okB, List.map_append, e_lnn, e_tnn, e_tnil, e_lnil, sh_tnil, sh_lnil, z_kL, z_kT, k_ne1, k_ne2, w_nil, w_cons, w_bv, w_bo, w_bu, w_bl, w_t1, w_tM, at_0, at_1, at_2, at_3, set_0, set_2, n_cell, e_int, e_bool, e_str, sh_str, e_ti, e_li, e_any, sh_ti, sh_li, sh_int, sh_bool, sh_none, f_ints, ai_map, List.length_map, q_for_nil, b_add, b_sub, b_mul, b_fdiv, b_mod, b_pow, b_catT, b_catL, b_mulL, c_lt, c_le, c_gt, c_ge, c_eq, c_ne, c_isNN, c_isNT, c_isNL, c_isB, c_inN, c_inNN, c_inNT, c_inNL, c_inT, c_inL, c_niT, c_niL, d_idxL, d_idxT, d_sliL, d_sliT, d_revL, d_revT, d_lenL, d_lenT, d_tupL, d_tupT, d_lstL, d_lstT, d_all, d_sum, d_itL, d_itT, d_cL, d_few, m_app, m_appT, m_ixT, m_ixL, m_ix, m_ixl, m_ins, m_insT, m_rem, m_remT, m_popT, m_popAT, m_pop, m_popA, m_kL, m_kT, n_int, n_bool, n_none, n_str, n_tup, n_lst, n_nil, n_cons, n_ints, y_none_I, y_none_B, y_none_T, y_none_L, y_none_S, y_none_BLT, y_bool_I, y_bool_B, y_bool_T, y_bool_L, y_bool_S, y_bool_BLT, y_int_I, y_int_B, y_int_T, y_int_L, y_int_S, y_int_BLT, y_str_I, y_str_B, y_str_T, y_str_L, y_str_S, y_str_BLT, y_list_I, y_list_B, y_list_T, y_list_L, y_list_S, y_list_BLT, y_tuple_I, y_tuple_B, y_tuple_T, y_tuple_L, y_tuple_S, y_tuple_BLT,
  List.getElem?_cons_zero, List.getElem?_cons_succ, List.set_cons_zero, List.set_cons_succ, List.length_cons, List.length_nil, Option.bind_some, Option.bind_none, Option.map_some, Option.map_none, List.map_cons, List.map_nil, List.cons_append, List.nil_append, Bool.and_true, Bool.true_and, Bool.false_and, Bool.and_false, if_true, if_false, Bool.not_true, Bool.not_false, reduceCtorEq, decide_true, decide_false, q_dnew, q_dis, q_mm2, q_call0, q_srtT, q_lzip, q_comp2, q_keys, s_lock_fr, s_lock_pl, s_lockS, d_cD, d_setK, d_idxK, d_srtL, d_srtT, d_srtK, d_int, m_getT, m_get, m_kD, q_mthK, d_lstD, if_pos, Bool.false_eq_true, true_and, and_true, *])
mutual
def okD : D → Bool
  | .list xs => decide (xs.length ≤ LIM) && okL xs
  | .tuple xs => decide (xs.length ≤ LIM) && okL xs
  | .dict _ => false
  | .str z => PyData.strOk z
  | _ => true
def okL : List D → Bool
  | [] => true
  | x :: xs => okD x && okL xs
end
mutual
def sameD : D → D → Bool
  | .list xs, .list ys => decide (xs.length = ys.length) && sameL xs ys
  | .tuple xs, .tuple ys => decide (xs.length = ys.length) && sameL xs ys
  | .bool a, .bool b => decide (a = b)
  | .int a, .int b => decide (a = b)
  | .str a, .str b => decide (a = b)
  | .none, .none => true
  | _, _ => false
def sameL : List D → List D → Bool
  | x :: xs, y :: ys => sameD x y && sameL xs ys
  | _, _ => true
end
mutual
theorem same_self : ∀ {a : D}, okD a = true → sameD a a = true
  | .list xs, h => by
    have h := (Bool.and_eq_true_iff.mp (show (decide (xs.length ≤ LIM) && okL xs) = true from h)).2
    show (decide (xs.length = xs.length) && sameL xs xs) = true
    rw [same_selfL h, decide_eq_true rfl]
    rfl
  | .tuple xs, h => by
    have h := (Bool.and_eq_true_iff.mp (show (decide (xs.length ≤ LIM) && okL xs) = true from h)).2
    show (decide (xs.length = xs.length) && sameL xs xs) = true
    rw [same_selfL h, decide_eq_true rfl]
    rfl
  | .dict _, h => by cases h
  | .str z, _ => decide_eq_true rfl
  | .int i, _ => decide_eq_true rfl
  | .bool b, _ => decide_eq_true rfl
  | .none, _ => rfl
theorem same_selfL : ∀ {xs : List D}, okL xs = true → sameL xs xs = true
  | [], _ => rfl
  | x :: xs, h => by
    obtain ⟨h1, h2⟩ := Bool.and_eq_true_iff.mp (show (okD x && okL xs) = true from h)
    show (sameD x x && sameL xs xs) = true
    rw [same_self h1, same_selfL h2]
    rfl
end
theorem ok_ints : ∀ ns : List Int, okL (ns.map PyData.int) = true
  | [] => rfl
  | n :: ns => by
    show (true && okL (ns.map PyData.int)) = true
    rw [ok_ints ns]
    rfl
theorem ok_ti {ns : List Int} (h : ns.length ≤ LIM) : okD (ti ns) = true := by
  show (decide ((ns.map PyData.int).length ≤ LIM) && okL (ns.map PyData.int)) = true
  rw [ok_ints, List.length_map, decide_eq_true h]
  rfl
theorem depth_list (xs : List D) : PyData.depth (.list xs) = PyData.depthAll xs + 1 := by unfold PyData.depth; rfl
theorem depth_tuple (xs : List D) : PyData.depth (.tuple xs) = PyData.depthAll xs + 1 := by unfold PyData.depth; rfl
theorem depth_cons (x : D) (xs : List D) : PyData.depthAll (x :: xs) = max (PyData.depth x) (PyData.depthAll xs) := by rw [PyData.depthAll]
theorem zipD_map : ∀ (xs ys : List D), zipD xs ys = (xs.zip ys).map pairD
  | [], ys => by simp [zipD]
  | x :: xs, [] => by simp [zipD]
  | x :: xs, y :: ys => by
    show .tuple [x, y] :: zipD xs ys = pairD (x, y) :: (xs.zip ys).map pairD
    rw [zipD_map xs ys]
    rfl
theorem same_zip : ∀ (xs ys : List D), ((xs.zip ys).map fun p => sameD p.1 p.2).all id = sameL xs ys
  | [], ys => by cases ys <;> rfl
  | x :: xs, [] => rfl
  | x :: xs, y :: ys => by
    show (sameD x y && ((xs.zip ys).map fun p => sameD p.1 p.2).all id) = (sameD x y && sameL xs ys)
    rw [same_zip xs ys]
theorem zip_mem : ∀ {xs ys : List D} {p : D × D}, p ∈ xs.zip ys → p.1 ∈ xs ∧ p.2 ∈ ys
  | [], ys, p, h => by simp at h
  | x :: xs, [], p, h => by simp at h
  | x :: xs, y :: ys, p, h => by
    rw [List.zip_cons_cons] at h
    rcases List.mem_cons.mp h with rfl | h
    · exact ⟨List.mem_cons_self .., List.mem_cons_self ..⟩
    · exact ⟨List.mem_cons_of_mem _ (zip_mem h).1, List.mem_cons_of_mem _ (zip_mem h).2⟩
theorem okL_mem : ∀ {xs : List D} {x : D}, okL xs = true → x ∈ xs → okD x = true
  | y :: xs, x, h, hx => by
    obtain ⟨h1, h2⟩ := Bool.and_eq_true_iff.mp (show (okD y && okL xs) = true from h)
    rcases List.mem_cons.mp hx with rfl | hx
    · exact h1
    · exact okL_mem h2 hx
theorem depth_mem : ∀ {xs : List D} {x : D}, x ∈ xs → PyData.depth x ≤ PyData.depthAll xs
  | y :: xs, x, hx => by
    rw [depth_cons]
    rcases List.mem_cons.mp hx with rfl | hx
    · exact Nat.le_max_left _ _
    · exact Nat.le_trans (depth_mem hx) (Nat.le_max_right _ _)
def Sp_same (F : FT) (k : Nat) : Prop := ∀ a b s, PyData.depth a ≤ k → okD a = true → okD b = true → F [.val a, .val b] s = okB (sameD a b) s
theorem same_comp {cf : CallF} {k : Nat} (h : Sp_same (cf "_law_same") k) {v : List Slot} {s : List Cell} (hl : v.length = 4) {xs ys : List D} (hd : PyData.depthAll xs ≤ k) (hx : okL xs = true) (hy : okL ys = true) :
    compF (.many [2, 3]) v (evC cf .no) ((evE cf (.call "_law_same" (.var 2) (.cons (.var 3) .nil))).bind keep) (zipD xs ys) s = some (((xs.zip ys).map fun p => sameD p.1 p.2).map PyData.bool, s) := by
  rw [zipD_map]
  have := comp_two (c := evC cf .no) (e := (evE cf (.call "_law_same" (.var 2) (.cons (.var 3) .nil))).bind keep) (v := v) (s := s) (p := fun _ => true) (f := fun p => .bool (sameD p.1 p.2)) (i := 2) (j := 3) (by omega) (by omega) (xs.zip ys) (fun x _ => rfl) fun x hx' _ => by
    obtain ⟨m1, m2⟩ := zip_mem hx'
    have h1 := h x.1 x.2 s (Nat.le_trans (depth_mem m1) hd) (okL_mem hx m1) (okL_mem hy m2)
    have g2 : ((v.set 2 (.val x.1)).set 3 (.val x.2))[2]? = some (.val x.1) := by
      rw [List.getElem?_set_ne (by decide), List.getElem?_set_self (by omega)]
    have g3 : ((v.set 2 (.val x.1)).set 3 (.val x.2))[3]? = some (.val x.2) := List.getElem?_set_self (by rw [List.length_set]; omega)
    refine ⟨?_, rfl⟩
    walk_at "mp"
  rw [this, List.filter_eq_self.mpr (fun _ _ => rfl), List.map_map]
  rfl
theorem same_step {cf : CallF} {k : Nat} (h : Sp_same (cf "_law_same") k) : Sp_same (runD cf d__law_same) (k + 1) := fun a b s hd ha hb => by
  have seq : ∀ {xs ys : List D} (T : List D → D), (T = PyData.list ∨ T = PyData.tuple) → PyData.depthAll xs ≤ k → decide (xs.length ≤ LIM) = true → okL xs = true → okL ys = true → runD cf d__law_same [.val (T xs), .val (T ys)] s = okB (decide (xs.length = ys.length) && sameL xs ys) s := fun {xs ys} T hT hk hz hx hy => by
    have hc := same_comp h (v := [.val (T xs), .val (T ys), .un, .un]) (s := s) rfl hk hx hy
    have hab := ab_map ((xs.zip ys).map fun p => sameD p.1 p.2)
    have hz := of_decide_eq_true hz
    have hL : ¬ LIM < (zipD xs ys).length := by rw [zipD_length]; omega
    have hq := same_zip xs ys
    have hle : decide ((xs.length : Int) = (ys.length : Int)) = decide (xs.length = ys.length) := by
      by_cases e : xs.length = ys.length
      · rw [decide_eq_true e, decide_eq_true (by omega)]
      · rw [decide_eq_false e, decide_eq_false (by omega)]
    rcases hT with rfl | rfl
    · unfold d__law_same
      by_cases hlen : xs.length = ys.length
      · have hlen' := decide_eq_true hlen
        walk_at "mp"
      · have hlen' := decide_eq_false hlen
        walk_at "mp"
    · unfold d__law_same
      by_cases hlen : xs.length = ys.length
      · have hlen' := decide_eq_true hlen
        walk_at "mp"
      · have hlen' := decide_eq_false hlen
        walk_at "mp"
  cases a with
  | list xs =>
    obtain ⟨hx1, hx2⟩ := Bool.and_eq_true_iff.mp (show (decide (xs.length ≤ LIM) && okL xs) = true from ha)
    cases b with
    | list ys =>
      obtain ⟨hy1, hy2⟩ := Bool.and_eq_true_iff.mp (show (decide (ys.length ≤ LIM) && okL ys) = true from hb)
      rw [depth_list] at hd
      exact seq PyData.list (.inl rfl) (by omega) hx1 hx2 hy2
    | dict d => cases hb
    | none => unfold d__law_same; walk_at "mp"; rfl
    | bool c => unfold d__law_same; walk_at "mp"; rfl
    | int c => unfold d__law_same; walk_at "mp"; rfl
    | str c => unfold d__law_same; walk_at "mp"; rfl
    | tuple c => unfold d__law_same; walk_at "mp"; rfl
  | tuple xs =>
    obtain ⟨hx1, hx2⟩ := Bool.and_eq_true_iff.mp (show (decide (xs.length ≤ LIM) && okL xs) = true from ha)
    cases b with
    | tuple ys =>
      obtain ⟨hy1, hy2⟩ := Bool.and_eq_true_iff.mp (show (decide (ys.length ≤ LIM) && okL ys) = true from hb)
      rw [depth_tuple] at hd
      exact seq PyData.tuple (.inr rfl) (by omega) hx1 hx2 hy2
    | dict d => cases hb
    | none => unfold d__law_same; walk_at "mp"; rfl
    | bool c => unfold d__law_same; walk_at "mp"; rfl
    | int c => unfold d__law_same; walk_at "mp"; rfl
    | str c => unfold d__law_same; walk_at "mp"; rfl
    | list c => unfold d__law_same; walk_at "mp"; rfl
  | dict d => cases ha
  | none => cases b <;> first | (cases hb; done) | (unfold d__law_same; walk_at "mp"; rfl) | (unfold d__law_same; walk_at "mp"; done)
  | bool a => cases b <;> first | (cases hb; done) | (unfold d__law_same; walk_at "mp"; rfl) | (unfold d__law_same; walk_at "mp"; done)
  | int a => cases b <;> first | (cases hb; done) | (unfold d__law_same; walk_at "mp"; rfl) | (unfold d__law_same; walk_at "mp"; done)
  | str a =>
    have ha : PyData.strOk a = true := ha
    cases b <;> first | (cases hb; done) | (unfold d__law_same; walk_at "mp"; rfl) | (unfold d__law_same; walk_at "mp"; done) | (rename_i c; have hb : PyData.strOk c = true := hb; unfold d__law_same; walk_at "mp"; rfl)
theorem same_zero {cf : CallF} : Sp_same (runD cf d__law_same) 0 := fun a b s hd ha hb => by
  cases a with
  | list xs => rw [depth_list] at hd; omega
  | tuple xs => rw [depth_tuple] at hd; omega
  | dict d => cases ha
  | none => cases b <;> first | (cases hb; done) | (unfold d__law_same; walk_at "mp"; rfl) | (unfold d__law_same; walk_at "mp"; done)
  | bool a => cases b <;> first | (cases hb; done) | (unfold d__law_same; walk_at "mp"; rfl) | (unfold d__law_same; walk_at "mp"; done)
  | int a => cases b <;> first | (cases hb; done) | (unfold d__law_same; walk_at "mp"; rfl) | (unfold d__law_same; walk_at "mp"; done)
  | str a =>
    have ha : PyData.strOk a = true := ha
    cases b <;> first | (cases hb; done) | (unfold d__law_same; walk_at "mp"; rfl) | (unfold d__law_same; walk_at "mp"; done) | (rename_i c; have hb : PyData.strOk c = true := hb; unfold d__law_same; walk_at "mp"; rfl)
theorem same_run {L : Defs} (h : L.lookup ("_law_same" : Str) = some d__law_same) : ∀ k n, Sp_same (run L.f (n + k + 1) "_law_same") k
  | 0, n => by
    rw [q_runF h]
    exact same_zero
  | k + 1, n => by
    rw [q_runF h]
    exact same_step (same_run h k n)
end MP
set_option maxHeartbeats 2000000
/-! MSd: the caps at which a list is what a capped file shows. -/
namespace MP
open PySem L2
local macro_rules | `(tactic| walk_at "mp") => `(tactic| simp only [q_bind, q_ok, q_exc, q_none, q_ret, q_opt, q_stuck, q_view_d, q_view_fr, q_keep_d, q_keep_fr, q_lend_d, q_lend_fr, q_lend_pl, q_lend_loc, q_take_d, q_take_fr, q_retW_d, q_retW_fr, q_puts_nil, q_puts_cons, q_takes_nil, q_takes_cons, q_tgt1, q_tgtM, q_bool, q_int, q_con, q_glo, q_tup, q_lst, q_bin, q_neg, q_cmp, q_chain, q_and, q_or, q_one, q_not, q_ifx, q_idx, q_sli, q_rev, q_call, q_blt, q_lens, q_trg1, q_trg2, q_isi, q_mth, q_mthL, q_mthT, q_mthN, q_mthS, q_comp, q_no, q_yes, q_cno, q_cyes, q_es_nil, q_es, q_as_nil, q_as, q_ks_nil, q_ks, q_over, q_rng1, q_rng2, q_enum, q_zip, q_asg, q_asgT, q_par, q_setI, q_expr, q_retS, q_ifs, q_loop, q_whl, q_rai, q_brk, q_pass, q_bnil, q_bcons, q_fl_nx, q_fl_brk, q_fl_ret, q_iteM,
  s_runD, s_end_nx, s_end_ret, s_end_exc, List.replicate_succ, List.replicate_zero, Nat.reduceSub, Nat.reduceAdd, Nat.reduceLT, Nat.zero_add, not_true_eq_false, not_false_eq_true, false_and, and_false, or_true, true_or, or_false, false_or, s_var, s_look_v, s_look_l, s_look_o, s_vs_v, s_vs_o, s_view_pl, s_view_loc, s_keep_pl, s_keepS_o, s_keepS_v, s_take_pl, s_takeS_o, s_takeS_v, s_ret_pl, s_retS_o, s_retS_v, s_set_pl, s_setS_o, s_set_loc, s_put, s_call, s_callK_d, s_callK_f, s_callK_x, s_args_nil, s_args, s_arg_d, s_arg_l, s_arg_pl, s_fz_nil, s_fz_d, s_fz_l, s_fz_pl, s_frzS_o, s_frzS_v,
  fl_int, fl_bool, fl_none, fl_str, vT, vI, ti, li, okB, List.map_append, e_lnn, e_tnn, e_tnil, e_lnil, sh_tnil, sh_lnil, z_kL, z_kT, k_ne1, k_ne2, w_nil, w_cons, w_bv, w_bo, w_bu, w_bl, w_t1, w_tM, at_0, at_1, at_2, at_3, set_0, set_2, n_cell, e_int, e_bool, e_str, sh_str, e_ti, e_li, e_any, sh_ti, sh_li, sh_int, sh_bool, sh_none, f_ints, ai_map, List.length_map, q_for_nil, b_add, b_sub, b_mul, b_fdiv, b_mod, b_pow, b_catT, b_catL, b_mulL, c_lt, c_le, c_gt, c_ge, c_eq, c_ne, c_isNN, c_isNT, c_isNL, c_isB, c_inN, c_inNN, c_inNT, c_inNL, c_inT, c_inL, c_niT, c_niL, d_idxL, d_idxT, d_sliL, d_sliT, d_revL, d_revT, d_lenL, d_lenT, d_tupL, d_tupT, d_lstL, d_lstT, d_all, d_sum, d_itL, d_itT, d_cL, d_few, m_app, m_appT, m_ixT, m_ixL, m_ix, m_ixl, m_ins, m_insT, m_rem, m_remT, m_popT, m_popAT, m_pop, m_popA, m_kL, m_kT, n_int, n_bool, n_none, n_str, n_tup, n_lst, n_nil, n_cons, n_ints, y_none_I, y_none_B, y_none_T, y_none_L, y_none_S, y_none_BLT, y_bool_I, y_bool_B, y_bool_T, y_bool_L, y_bool_S, y_bool_BLT, y_int_I, y_int_B, y_int_T, y_int_L, y_int_S, y_int_BLT, y_str_I, y_str_B, y_str_T, y_str_L, y_str_S, y_str_BLT, y_list_I, y_list_B, y_list_T, y_list_L, y_list_S, y_list_BLT, y_tuple_I, y_tuple_B, y_tuple_T, y_tuple_L, y_tuple_S, y_tuple_BLT,
  List.getElem?_cons_zero, List.getElem?_cons_succ, List.set_cons_zero, List.set_cons_succ, List.length_cons, List.length_nil, Option.bind_some, Option.bind_none, Option.map_some, Option.map_none, List.map_cons, List.map_nil, List.cons_append, List.nil_append, Bool.and_true, Bool.true_and, Bool.false_and, Bool.and_false, if_true, if_false, Bool.not_true, Bool.not_false, reduceCtorEq, decide_true, decide_false, q_dnew, q_dis, q_mm2, q_call0, q_srtT, q_lzip, q_comp2, q_keys, s_lock_fr, s_lock_pl, s_lockS, d_cD, d_setK, d_idxK, d_srtL, d_srtT, d_srtK, d_int, m_getT, m_get, m_kD, q_mthK, d_lstD, if_pos, Bool.false_eq_true, true_and, and_true, *])
def capsOf (O is : List Int) : List Int := (rngI 1 11).filter fun c => decide (O.take c.toNat = is)
def capsD (cs : List Int) : D := if h : cs = [] then .none else .tuple [.int (cs.head h), .int (cs.getLast h)]
def Sp_cap_range (F : FT) : Prop := ∀ us is s, us.length ≤ 60 → us.all isItem = true → is.length ≤ 1000 → (is = [] ∨ isList is = true) → F [vT us, vT is] s = some (.ok (.d (capsD (capsOf (lastO us) is))) s)
theorem sp_cap_range {cf : CallF} (h1 : Sp_check_files (cf "check_files")) (h2 : Sp_is_list (cf "is_list")) (h3 : Sp_last_order (cf "last_order")) : Sp_cap_range (runD cf d_cap_range) := fun us is s l1 l2 l3 l4 => by
  have c1 := h1 us s l1 l2
  have c2 := h2 is s (by omega)
  have c3 := h3 us s (by omega)
  have hc := comp_ints (c := evC cf (.yes (.cmp .Eq (.sli (.call "last_order" (.var 0) .nil) .no (.yes (.var 3))) (.var 1)))) (e := (evE cf (.var 3)).bind keep) (i := 3) (v := [vT us, vT is, .un, .un]) (s := s) (fun c => decide ((lastO us).take c.toNat = is)) PyData.int (Nat.lt_succ_self 3) (rngI 1 11)
    (fun x hx => by
      have hx' := mem_rngI.mp hx
      have h0 : 0 ≤ x := by omega
      have hcut := cut_ints (lastO us) h0
      walk_at "mp") (fun x hx _ => ⟨by walk_at "mp", rfl⟩)
  have hr : rngD 1 (10 + 1) = (rngI 1 11).map PyData.int := rng_map 1 11
  have hl : ¬ LIM < (rngI 1 11).length := by rw [rngI_length]; decide
  have hcap : (rngI 1 11).filter (fun c => decide ((lastO us).take c.toNat = is)) = capsOf (lastO us) is := rfl
  rw [hcap] at hc
  have rest : ∀ st : Unit, exB cf (.cons (.asg 2 (.comp (.var 3) (.one 3) (.rng2 (.con (.int 1)) (.bin .Add (.glo "MAX_ITEMS" 10) (.con (.int 1)))) (.yes (.cmp .Eq (.sli (.call "last_order" (.var 0) .nil) .no (.yes (.var 3))) (.var 1))))) (.cons (.ret (.ifx (.cmp .NotEq (.var 2) (.lst .nil)) (.tup (.cons (.idx (.var 2) (.con (.int 0))) (.cons (.idx (.var 2) (.neg (.con (.int 1)))) .nil))) (.con .none))) .nil)) ⟨[vT us, vT is, .un, .un], s⟩ = some (.ok (.ret (.d (capsD (capsOf (lastO us) is)))) ⟨[vT us, vT is, .own (.lst ((capsOf (lastO us) is).map PyData.int)), .un], s⟩) := fun _ => by
    have r1 : -1000000 ≤ (1 : Int) ∧ (1 : Int) ≤ 1000000 ∧ -1000000 ≤ (10 + 1 : Int) ∧ (10 + 1 : Int) ≤ 1000000 := by decide
    generalize capsOf (lastO us) is = caps at hc ⊢
    by_cases hn : caps = []
    · subst hn
      have hd : capsD [] = .none := rfl
      walk_at "mp"
    · have hat := at_intsL caps hn
      have hah := at_intsH caps hn
      have hd : capsD caps = .tuple [.int (caps.head hn), .int (caps.getLast hn)] := dif_neg hn
      walk_at "mp"
  have rest := rest ()
  unfold d_cap_range
  rcases l4 with rfl | l4
  · simp only [vT, ti, List.map_nil] at rest
    walk_at "mp"
  · by_cases hn : is = []
    · subst hn
      simp only [vT, ti, List.map_nil] at rest
      walk_at "mp"
    · walk_at "mp"
/-! ### such caps stand side by side -/
theorem rngI_lt (a b : Int) : (rngI a b).Pairwise (· < ·) := by
  unfold rngI
  rw [List.pairwise_map]
  exact List.pairwise_lt_range.imp fun {x y} h => by omega
theorem rngI_filter {lo hi a b : Int} {p : Int → Bool} (ha : lo ≤ a) (hb : b ≤ hi) (h : ∀ c, lo ≤ c → c < hi → (p c = true ↔ a ≤ c ∧ c < b)) : (rngI lo hi).filter p = rngI a b := by
  have p1 : ((rngI lo hi).filter p).Pairwise (· < ·) := (rngI_lt lo hi).filter _
  have p2 := rngI_lt a b
  refine sorted_unique ((List.perm_ext_iff_of_nodup (p1.imp fun h => by omega) (p2.imp fun h => by omega)).mpr fun c => ?_) (p1.imp fun h => by omega) (p2.imp fun h => by omega)
  rw [List.mem_filter, mem_rngI, mem_rngI]
  constructor
  · rintro ⟨⟨h1, h2⟩, h3⟩
    exact (h c h1 h2).mp h3
  · rintro ⟨h1, h2⟩
    exact ⟨⟨by omega, by omega⟩, (h c (by omega) (by omega)).mpr ⟨h1, h2⟩⟩
theorem rngI_ends {a b : Int} (h : a < b) (hn : rngI a b ≠ []) : (rngI a b).head hn = a ∧ (rngI a b).getLast hn = b - 1 := by
  constructor
  · rw [List.head_eq_getElem]
    unfold rngI
    rw [List.getElem_map, List.getElem_range]
    omega
  · rw [List.getLast_eq_getElem]
    unfold rngI
    rw [List.getElem_map, List.getElem_range, List.length_map, List.length_range]
    omega
theorem caps_run (O is : List Int) : capsOf O is = [] ∨ ∃ a b, a < b ∧ capsOf O is = rngI a b := by
  by_cases hk : is.length < O.length
  · by_cases ht : O.take is.length = is ∧ 1 ≤ is.length ∧ is.length ≤ 10
    · right
      refine ⟨is.length, is.length + 1, by omega, rngI_filter (by omega) (by omega) fun c h1 h2 => ?_⟩
      rw [decide_eq_true_eq]
      constructor
      · intro e
        have := congrArg List.length e
        rw [List.length_take] at this
        omega
      · intro e
        have : c.toNat = is.length := by omega
        rw [this]
        exact ht.1
    · left
      refine List.filter_eq_nil_iff.mpr fun c hc e => ht ?_
      have e := of_decide_eq_true e
      have hc := mem_rngI.mp hc
      have l := congrArg List.length e
      rw [List.length_take] at l
      have : c.toNat = is.length := by omega
      rw [this] at e
      exact ⟨e, by omega, by omega⟩
  · by_cases ht : O = is ∧ is.length ≤ 10
    · right
      refine ⟨max 1 is.length, 11, by omega, rngI_filter (by omega) (by omega) fun c h1 h2 => ?_⟩
      rw [decide_eq_true_eq]
      constructor
      · intro e
        have := congrArg List.length e
        rw [List.length_take] at this
        rw [ht.1] at this
        omega
      · intro e
        rw [ht.1]
        exact List.take_of_length_le (by omega)
    · left
      refine List.filter_eq_nil_iff.mpr fun c hc e => ht ?_
      have e := of_decide_eq_true e
      have hc := mem_rngI.mp hc
      have l := congrArg List.length e
      rw [List.length_take] at l
      rw [List.take_of_length_le (by omega)] at e
      exact ⟨e, by omega⟩
theorem caps_count {O is : List Int} (h : capsOf O is ≠ []) : ((capsOf O is).length : Int) = (capsOf O is).getLast h - (capsOf O is).head h + 1 := by
  rcases caps_run O is with e | ⟨a, b, hab, e⟩
  · exact absurd e h
  · have gen : ∀ (l : List Int) (hl : l ≠ []), l = rngI a b → (l.length : Int) = l.getLast hl - l.head hl + 1 := by
      rintro l hl rfl
      obtain ⟨h1, h2⟩ := rngI_ends hab hl
      rw [h1, h2, rngI_length]
      omega
    exact gen _ h e
end MP
set_option maxHeartbeats 2000000
/-! MLa: the order of last uses, in plain Lean. -/
namespace MP
/-- each once, where it is met first -/
def dd : List Int → List Int
  | [] => []
  | x :: r => x :: (dd r).filter fun y => decide (y ≠ x)
theorem mem_dd {x : Int} : ∀ {r : List Int}, x ∈ dd r ↔ x ∈ r
  | [] => by simp [dd]
  | y :: r => by
    unfold dd
    rw [List.mem_cons, List.mem_cons, List.mem_filter, mem_dd (r := r), decide_eq_true_eq]
    by_cases h : x = y <;> simp [h]
theorem dd_nodup : ∀ r : List Int, (dd r).Nodup
  | [] => List.Pairwise.nil
  | y :: r => by
    unfold dd
    refine List.nodup_cons.mpr ⟨fun h => ?_, (dd_nodup r).filter _⟩
    rw [List.mem_filter] at h
    exact of_decide_eq_true h.2 rfl
theorem fold_dd : ∀ (r acc : List Int), r.foldl stepO acc = acc ++ (dd r).filter fun y => decide (y ∉ acc)
  | [], acc => by simp [dd]
  | x :: r, acc => by
    rw [List.foldl_cons, fold_dd r, show dd (x :: r) = x :: (dd r).filter fun y => decide (y ≠ x) from rfl]
    unfold stepO
    by_cases h : x ∈ acc
    · rw [if_pos h, List.filter_cons_of_neg (by simpa using h), List.filter_filter]
      congr 1
      refine List.filter_congr fun y _ => ?_
      by_cases hy : y ∈ acc
      · simp [hy]
      · have : y ≠ x := fun e => hy (e ▸ h)
        simp [hy, this]
    · rw [if_neg h, List.filter_cons_of_pos (by simpa using h), List.filter_filter, List.append_assoc]
      congr 1
      rw [List.singleton_append]
      congr 1
      refine List.filter_congr fun y _ => ?_
      by_cases hy : y ∈ acc <;> by_cases hx : y = x <;> simp [hy, hx, h]
theorem lastO_dd (p : List Int) : lastO p = dd p.reverse := by
  unfold lastO
  rw [fold_dd]
  simp
theorem lastO_nodup (p : List Int) : (lastO p).Nodup := by rw [lastO_dd]; exact dd_nodup _
theorem mem_lastO {p : List Int} {x : Int} : x ∈ lastO p ↔ x ∈ p := by rw [lastO_dd, mem_dd, List.mem_reverse]
theorem lastO_snoc (p : List Int) (x : Int) : lastO (p ++ [x]) = x :: (lastO p).filter fun y => decide (y ≠ x) := by
  rw [lastO_dd, lastO_dd, List.reverse_append]
  rfl
theorem lastO_nil : lastO [] = [] := rfl
theorem filter_out {x : Int} {O : List Int} (h : x ∉ O) : (O.filter fun y => decide (y ≠ x)) = O :=
  List.filter_eq_self.mpr fun y hy => decide_eq_true fun e => h (e ▸ hy)
theorem take_in {x : Int} : ∀ (O : List Int) (c : Nat), O.Nodup → x ∈ O.take c → (O.take c).erase x = (O.filter fun y => decide (y ≠ x)).take (c - 1)
  | [], c, _, h => by simp at h
  | y :: O, 0, _, h => by simp at h
  | y :: O, c + 1, nd, h => by
    obtain ⟨n1, n2⟩ := List.nodup_cons.mp nd
    rw [List.take_succ_cons] at h ⊢
    by_cases e : y = x
    · subst e
      rw [List.erase_cons_head, List.filter_cons_of_neg (by simp), filter_out n1]
      rfl
    · rcases List.mem_cons.mp h with z | z
      · exact absurd z.symm e
      · have ih := take_in O c n2 z
        have hc : c ≠ 0 := fun q => by rw [q] at z; simp at z
        obtain ⟨d, rfl⟩ : ∃ d, c = d + 1 := ⟨c - 1, by omega⟩
        rw [List.erase_cons_tail (by simpa using e), List.filter_cons_of_pos (by simpa using e), ih]
        show y :: _ = List.take (d + 1) (y :: _)
        rw [List.take_succ_cons]
        rfl
theorem take_out {x : Int} : ∀ (O : List Int) (c : Nat), x ∉ O.take c → O.take (c - 1) = (O.filter fun y => decide (y ≠ x)).take (c - 1)
  | [], c, _ => by simp
  | y :: O, 0, h => by simp
  | y :: O, c + 1, h => by
    rw [List.take_succ_cons, List.mem_cons, not_or] at h
    rw [List.filter_cons_of_pos (by simpa using fun e => h.1 e.symm)]
    cases c with
    | zero => rfl
    | succ c =>
      have ih := take_out O (c + 1) h.2
      show y :: O.take c = y :: _
      exact congrArg (y :: ·) ih
/-- a capped list behind one more use -/
theorem cap_in {p : List Int} {x : Int} {c : Nat} (h : x ∈ (lastO p).take c) : (lastO (p ++ [x])).take c = x :: ((lastO p).take c).erase x := by
  rw [lastO_snoc, take_in _ _ (lastO_nodup p) h]
  cases c with
  | zero => simp at h
  | succ c => rfl
theorem cap_out {p : List Int} {x : Int} {c : Nat} (hc : 1 ≤ c) (h : x ∉ (lastO p).take c) : (lastO (p ++ [x])).take c = x :: (lastO p).take (c - 1) := by
  rw [lastO_snoc, take_out _ _ h]
  cases c with
  | zero => omega
  | succ c => rfl
theorem dd_len : ∀ r : List Int, (dd r).length ≤ r.length
  | [] => Nat.le_refl _
  | x :: r => by
    show ((dd r).filter _).length + 1 ≤ r.length + 1
    have := List.length_filter_le (fun y => decide (y ≠ x)) (dd r)
    have := dd_len r
    omega
theorem lastO_len (p : List Int) : (lastO p).length ≤ p.length := by
  rw [lastO_dd, ← List.length_reverse (as := p)]
  exact dd_len _
end MP
set_option maxHeartbeats 2000000
/-! MSe: capped files. -/
namespace MP
open PySem L2
local macro_rules | `(tactic| walk_at "mp") => `(tactic| simp only [q_bind, q_ok, q_exc, q_none, q_ret, q_opt, q_stuck, q_view_d, q_view_fr, q_keep_d, q_keep_fr, q_lend_d, q_lend_fr, q_lend_pl, q_lend_loc, q_take_d, q_take_fr, q_retW_d, q_retW_fr, q_puts_nil, q_puts_cons, q_takes_nil, q_takes_cons, q_tgt1, q_tgtM, q_bool, q_int, q_con, q_glo, q_tup, q_lst, q_bin, q_neg, q_cmp, q_chain, q_and, q_or, q_one, q_not, q_ifx, q_idx, q_sli, q_rev, q_call, q_blt, q_lens, q_trg1, q_trg2, q_isi, q_mth, q_mthL, q_mthT, q_mthN, q_mthS, q_comp, q_no, q_yes, q_cno, q_cyes, q_es_nil, q_es, q_as_nil, q_as, q_ks_nil, q_ks, q_over, q_rng1, q_rng2, q_enum, q_zip, q_asg, q_asgT, q_par, q_setI, q_expr, q_retS, q_ifs, q_loop, q_whl, q_rai, q_brk, q_pass, q_bnil, q_bcons, q_fl_nx, q_fl_brk, q_fl_ret, q_iteM,
  s_runD, s_end_nx, s_end_ret, s_end_exc, List.replicate_succ, List.replicate_zero, Nat.reduceSub, Nat.reduceAdd, Nat.reduceLT, Nat.zero_add, not_true_eq_false, not_false_eq_true, false_and, and_false, or_true, true_or, or_false, false_or, s_var, s_look_v, s_look_l, s_look_o, s_vs_v, s_vs_o, s_view_pl, s_view_loc, s_keep_pl, s_keepS_o, s_keepS_v, s_take_pl, s_takeS_o, s_takeS_v, s_ret_pl, s_retS_o, s_retS_v, s_set_pl, s_setS_o, s_set_loc, s_put, s_call, s_callK_d, s_callK_f, s_callK_x, s_args_nil, s_args, s_arg_d, s_arg_l, s_arg_pl, s_fz_nil, s_fz_d, s_fz_l, s_fz_pl, s_frzS_o, s_frzS_v,
  fl_int, fl_bool, fl_none, fl_str, vT, vI, ti, li, okB, List.map_append, e_lnn, e_tnn, e_tnil, e_lnil, sh_tnil, sh_lnil, z_kL, z_kT, k_ne1, k_ne2, w_nil, w_cons, w_bv, w_bo, w_bu, w_bl, w_t1, w_tM, at_0, at_1, at_2, at_3, set_0, set_2, n_cell, e_int, e_bool, e_str, sh_str, e_ti, e_li, e_any, sh_ti, sh_li, sh_int, sh_bool, sh_none, f_ints, ai_map, List.length_map, q_for_nil, b_add, b_sub, b_mul, b_fdiv, b_mod, b_pow, b_catT, b_catL, b_mulL, c_lt, c_le, c_gt, c_ge, c_eq, c_ne, c_isNN, c_isNT, c_isNL, c_isB, c_inN, c_inNN, c_inNT, c_inNL, c_inT, c_inL, c_niT, c_niL, d_idxL, d_idxT, d_sliL, d_sliT, d_revL, d_revT, d_lenL, d_lenT, d_tupL, d_tupT, d_lstL, d_lstT, d_all, d_sum, d_itL, d_itT, d_cL, d_few, m_app, m_appT, m_ixT, m_ixL, m_ix, m_ixl, m_ins, m_insT, m_rem, m_remT, m_popT, m_popAT, m_pop, m_popA, m_kL, m_kT, n_int, n_bool, n_none, n_str, n_tup, n_lst, n_nil, n_cons, n_ints, y_none_I, y_none_B, y_none_T, y_none_L, y_none_S, y_none_BLT, y_bool_I, y_bool_B, y_bool_T, y_bool_L, y_bool_S, y_bool_BLT, y_int_I, y_int_B, y_int_T, y_int_L, y_int_S, y_int_BLT, y_str_I, y_str_B, y_str_T, y_str_L, y_str_S, y_str_BLT, y_list_I, y_list_B, y_list_T, y_list_L, y_list_S, y_list_BLT, y_tuple_I, y_tuple_B, y_tuple_T, y_tuple_L, y_tuple_S, y_tuple_BLT,
  List.getElem?_cons_zero, List.getElem?_cons_succ, List.set_cons_zero, List.set_cons_succ, List.length_cons, List.length_nil, Option.bind_some, Option.bind_none, Option.map_some, Option.map_none, List.map_cons, List.map_nil, List.cons_append, List.nil_append, Bool.and_true, Bool.true_and, Bool.false_and, Bool.and_false, if_true, if_false, Bool.not_true, Bool.not_false, reduceCtorEq, decide_true, decide_false, q_dnew, q_dis, q_mm2, q_call0, q_srtT, q_lzip, q_comp2, q_keys, s_lock_fr, s_lock_pl, s_lockS, d_cD, d_setK, d_idxK, d_srtL, d_srtT, d_srtK, d_int, m_getT, m_get, m_kD, q_mthK, d_lstD, if_pos, Bool.false_eq_true, true_and, and_true, *])
def Sp_check_count (F : FT) : Prop := ∀ i lo hi s, lo ≤ i → i ≤ hi → F [vI i, vI lo, vI hi] s = some (.ok (.d .none) s)
theorem sp_check_count {cf : CallF} (h : Sp_in_range (cf "in_range")) : Sp_check_count (runD cf d_check_count) := fun i lo hi s h1 h2 => by
  have k := h i lo hi s
  rw [decide_eq_true h1, decide_eq_true h2] at k
  unfold d_check_count
  walk_at "mp"
def Sp_check_both (F : FT) : Prop := ∀ us c s, us.length ≤ 60 → us.all isItem = true → 1 ≤ c → c ≤ 10 → F [vT us, vI c] s = some (.ok (.d .none) s)
theorem sp_check_both {cf : CallF} (h1 : Sp_check_files (cf "check_files")) (h2 : Sp_check_count (cf "check_count")) : Sp_check_both (runD cf d_check_both) := fun us c s l1 l2 l3 l4 => by
  have k1 := h1 us s l1 l2
  have k2 := h2 c 1 10 s l3 l4
  unfold d_check_both
  walk_at "mp"
def Sp_capped (F : FT) : Prop := ∀ us c s, us.length ≤ 60 → us.all isItem = true → 1 ≤ c → c ≤ 10 → F [vT us, vI c] s = some (.ok (.d (ti ((lastO us).take c.toNat))) s)
theorem sp_capped {cf : CallF} (h1 : Sp_check_both (cf "check_both")) (h2 : Sp_last_order (cf "last_order")) : Sp_capped (runD cf d_capped) := fun us c s l1 l2 l3 l4 => by
  have k1 := h1 us c s l1 l2 l3 l4
  have k2 := h2 us s (by omega)
  have k3 := cut_ints (lastO us) (c := c) (by omega)
  unfold d_capped
  walk_at "mp"
/-! ### drops -/
def oD : Option Int → D
  | none => .none
  | some i => .int i
def goneL (us : List Int) (c i : Nat) : List Int := ((lastO (us.take i)).take c).filter fun x => !decide (x ∈ (lastO (us.take (i + 1))).take c)
def dropsL (us : List Int) (c : Nat) : List (Option Int) := (List.range us.length).map fun i => (goneL us c i).head?
theorem noMut_o (l : List (Option Int)) : noMutL (l.map oD) = true := by
  induction l with
  | nil => rfl
  | cons a l ih =>
    rw [List.map_cons, n_cons, ih]
    cases a <;> rfl
def Sp_drops (F : FT) : Prop := ∀ us c s, us.length ≤ 60 → us.all isItem = true → 1 ≤ c → c ≤ 10 → F [vT us, vI c] s = some (.ok (.fr (.lst ((dropsL us c.toNat).map oD))) s)
def bDrops (cf : CallF) : M Fl := exB cf (.cons (.par [4, 5] (.cons (.sli (.call "last_order" (.sli (.var 0) .no (.yes (.var 3))) .nil) .no (.yes (.var 1))) (.cons (.sli (.call "last_order" (.sli (.var 0) .no (.yes (.bin .Add (.var 3) (.con (.int 1))))) .nil) .no (.yes (.var 1))) .nil))) (.cons (.asg 6 (.comp (.var 7) (.one 7) (.over (.var 4)) (.yes (.cmp .NotIn (.var 7) (.var 5))))) (.cons (.expr (.mth .append (.var 2) (.cons (.ifx (.cmp .NotEq (.var 6) (.lst .nil)) (.idx (.var 6) (.con (.int 0))) (.con .none)) .nil))) .nil)))
theorem drops_turn {cf : CallF} (h2 : Sp_last_order (cf "last_order")) {us : List Int} {c : Int} {s : List Cell} {acc : List (Option Int)} {a3 a4 a5 a6 : Slot} {i : Int} (l1 : us.length ≤ 60) (l3 : 1 ≤ c) (hi : 0 ≤ i) (hi2 : i < us.length) (ha : acc.length ≤ 100) :
    turnF (.one 3) (bDrops cf) (.int i) ⟨[vT us, vI c, .own (.lst (acc.map oD)), a3, a4, a5, a6, .un], s⟩ = some (.ok .nx ⟨[vT us, vI c, .own (.lst ((acc ++ [(goneL us c.toNat i.toNat).head?]).map oD)), vI i, vT ((lastO (us.take i.toNat)).take c.toNat), vT ((lastO (us.take (i.toNat + 1))).take c.toNat), .own (.lst ((goneL us c.toNat i.toNat).map PyData.int)), .un], s⟩) := by
  have e1 : (i + 1).toNat = i.toNat + 1 := by omega
  have k1 := h2 (us.take i.toNat) s (by rw [List.length_take]; omega)
  have k2 := h2 (us.take (i.toNat + 1)) s (by rw [List.length_take]; omega)
  have c1 := cut_ints us (c := i) hi
  have c2 := cut_ints us (c := i + 1) (by omega)
  rw [e1] at c2
  have c3 := cut_ints (lastO (us.take i.toNat)) (c := c) (by omega)
  have c4 := cut_ints (lastO (us.take (i.toNat + 1))) (c := c) (by omega)
  have hL : acc.length < LIM := by unfold LIM; omega
  have w : ((lastO (us.take i.toNat)).take c.toNat).length ≤ 1000 := by
    rw [List.length_take]
    have := lastO_len (us.take i.toNat)
    rw [List.length_take] at this
    omega
  have hL2 : ¬ LIM < ((lastO (us.take i.toNat)).take c.toNat).length := by unfold LIM; omega
  have hc := comp_ints (c := evC cf (.yes (.cmp .NotIn (.var 7) (.var 5)))) (e := (evE cf (.var 7)).bind keep) (i := 7) (v := [vT us, vI c, .val (.list (acc.map oD)), vI i, vT ((lastO (us.take i.toNat)).take c.toNat), vT ((lastO (us.take (i.toNat + 1))).take c.toNat), Slot.borrow a6, .un]) (s := s)
    (fun x => !decide (x ∈ (lastO (us.take (i.toNat + 1))).take c.toNat)) PyData.int (Nat.lt_succ_self 7) ((lastO (us.take i.toNat)).take c.toNat) (fun x _ => by
      by_cases hx : x ∈ (lastO (us.take (i.toNat + 1))).take c.toNat
      · walk_at "mp"
      · walk_at "mp") (fun x _ _ => ⟨by walk_at "mp", rfl⟩)
  have hg : ((lastO (us.take i.toNat)).take c.toNat).filter (fun x => !decide (x ∈ (lastO (us.take (i.toNat + 1))).take c.toNat)) = goneL us c.toNat i.toNat := rfl
  rw [hg] at hc
  generalize goneL us c.toNat i.toNat = g at hc ⊢
  unfold turnF bDrops
  by_cases hz : g = []
  · subst hz
    have ho : oD (List.head? ([] : List Int)) = .none := rfl
    walk_at "mp"
  · have hah := at_intsH g hz
    have ho : oD g.head? = .int (g.head hz) := by rw [List.head?_eq_some_head hz]; rfl
    walk_at "mp"
theorem sp_drops {cf : CallF} (h1 : Sp_check_both (cf "check_both")) (h2 : Sp_last_order (cf "last_order")) : Sp_drops (runD cf d_drops) := fun us c s l1 l2 l3 l4 => by
  have k1 := h1 us c s l1 l2 l3 l4
  obtain ⟨sl, hf⟩ := for_ints (tg := .one 3) (b := bDrops cf) (S := fun (a : List (Option Int) × Slot × Slot × Slot) sl => ⟨[vT us, vI c, .own (.lst (a.1.map oD)), sl, a.2.1, a.2.2.1, a.2.2.2, .un], s⟩)
    (f := fun a i => (a.1 ++ [(goneL us c.toNat i.toNat).head?], vT ((lastO (us.take i.toNat)).take c.toNat), vT ((lastO (us.take (i.toNat + 1))).take c.toNat), .own (.lst ((goneL us c.toNat i.toNat).map PyData.int))))
    (fun ys a => a.1.length + ys.length ≤ 60 ∧ ∀ y ∈ ys, 0 ≤ y ∧ y < us.length) (fun j ys a sl p => by
      obtain ⟨p1, p2⟩ := p
      rw [List.length_cons] at p1
      have hj := p2 j (List.mem_cons_self ..)
      refine ⟨drops_turn h2 l1 l3 hj.1 hj.2 (by omega), ?_, fun y hy => p2 y (List.mem_cons_of_mem _ hy)⟩
      show (a.1 ++ [_]).length + ys.length ≤ 60
      rw [List.length_append, List.length_singleton]
      omega) (rngI 0 us.length) ([], .un, .un, .un) .un ⟨by rw [rngI_length]; simp; omega, fun y hy => mem_rngI.mp hy⟩
  have hfold : ∀ (ns : List Int) (a : List (Option Int) × Slot × Slot × Slot), (ns.foldl (fun (a : List (Option Int) × Slot × Slot × Slot) i => (a.1 ++ [(goneL us c.toNat i.toNat).head?], vT ((lastO (us.take i.toNat)).take c.toNat), vT ((lastO (us.take (i.toNat + 1))).take c.toNat), Slot.own (.lst ((goneL us c.toNat i.toNat).map PyData.int)))) a).1 = a.1 ++ ns.map fun i => (goneL us c.toNat i.toNat).head? := by
    intro ns
    induction ns with
    | nil => intro a; simp
    | cons n ns ih => intro a; rw [List.foldl_cons, ih, List.map_cons, List.append_assoc]; rfl
  rw [hfold] at hf
  have hd : ([] : List (Option Int)) ++ (rngI 0 us.length).map (fun i => (goneL us c.toNat i.toNat).head?) = dropsL us c.toNat := by
    unfold dropsL rngI
    rw [List.nil_append, List.map_map]
    have : ((us.length : Int) - 0).toNat = us.length := by omega
    rw [this]
    refine List.map_congr_left fun k _ => ?_
    show (goneL us c.toNat (0 + (k : Nat) : Int).toNat).head? = _
    have : (0 + (k : Nat) : Int).toNat = k := by omega
    rw [this]
  rw [show ((([] : List (Option Int)), Slot.un, Slot.un, Slot.un) : List (Option Int) × Slot × Slot × Slot).1 = [] from rfl, hd] at hf
  generalize (List.foldl _ _ _ : List (Option Int) × Slot × Slot × Slot) = fin at hf
  obtain ⟨_, f4, f5, f6⟩ := fin
  simp only [vT, vI, ti, List.map_nil] at hf
  have hr : rngD 0 (us.length : Nat) = (rngI 0 us.length).map PyData.int := rng_map 0 us.length
  have r1 : -1000000 ≤ ((us.length : Nat) : Int) ∧ ((us.length : Nat) : Int) ≤ 1000000 := by omega
  unfold bDrops at hf
  unfold d_drops
  walk_at "mp"
end MP
set_option maxHeartbeats 2000000
/-! MSf: distances, missing. -/
namespace MP
open PySem L2
local macro_rules | `(tactic| walk_at "mp") => `(tactic| simp only [q_bind, q_ok, q_exc, q_none, q_ret, q_opt, q_stuck, q_view_d, q_view_fr, q_keep_d, q_keep_fr, q_lend_d, q_lend_fr, q_lend_pl, q_lend_loc, q_take_d, q_take_fr, q_retW_d, q_retW_fr, q_puts_nil, q_puts_cons, q_takes_nil, q_takes_cons, q_tgt1, q_tgtM, q_bool, q_int, q_con, q_glo, q_tup, q_lst, q_bin, q_neg, q_cmp, q_chain, q_and, q_or, q_one, q_not, q_ifx, q_idx, q_sli, q_rev, q_call, q_blt, q_lens, q_trg1, q_trg2, q_isi, q_mth, q_mthL, q_mthT, q_mthN, q_mthS, q_comp, q_no, q_yes, q_cno, q_cyes, q_es_nil, q_es, q_as_nil, q_as, q_ks_nil, q_ks, q_over, q_rng1, q_rng2, q_enum, q_zip, q_asg, q_asgT, q_par, q_setI, q_expr, q_retS, q_ifs, q_loop, q_whl, q_rai, q_brk, q_pass, q_bnil, q_bcons, q_fl_nx, q_fl_brk, q_fl_ret, q_iteM,
  s_runD, s_end_nx, s_end_ret, s_end_exc, List.replicate_succ, List.replicate_zero, Nat.reduceSub, Nat.reduceAdd, Nat.reduceLT, Nat.zero_add, not_true_eq_false, not_false_eq_true, false_and, and_false, or_true, true_or, or_false, false_or, s_var, s_look_v, s_look_l, s_look_o, s_vs_v, s_vs_o, s_view_pl, s_view_loc, s_keep_pl, s_keepS_o, s_keepS_v, s_take_pl, s_takeS_o, s_takeS_v, s_ret_pl, s_retS_o, s_retS_v, s_set_pl, s_setS_o, s_set_loc, s_put, s_call, s_callK_d, s_callK_f, s_callK_x, s_args_nil, s_args, s_arg_d, s_arg_l, s_arg_pl, s_fz_nil, s_fz_d, s_fz_l, s_fz_pl, s_frzS_o, s_frzS_v,
  fl_int, fl_bool, fl_none, fl_str, vT, vI, ti, li, okB, List.map_append, e_lnn, e_tnn, e_tnil, e_lnil, sh_tnil, sh_lnil, z_kL, z_kT, k_ne1, k_ne2, w_nil, w_cons, w_bv, w_bo, w_bu, w_bl, w_t1, w_tM, at_0, at_1, at_2, at_3, set_0, set_2, n_cell, e_int, e_bool, e_str, sh_str, e_ti, e_li, e_any, sh_ti, sh_li, sh_int, sh_bool, sh_none, f_ints, ai_map, List.length_map, q_for_nil, b_add, b_sub, b_mul, b_fdiv, b_mod, b_pow, b_catT, b_catL, b_mulL, c_lt, c_le, c_gt, c_ge, c_eq, c_ne, c_isNN, c_isNT, c_isNL, c_isB, c_inN, c_inNN, c_inNT, c_inNL, c_inT, c_inL, c_niT, c_niL, d_idxL, d_idxT, d_sliL, d_sliT, d_revL, d_revT, d_lenL, d_lenT, d_tupL, d_tupT, d_lstL, d_lstT, d_all, d_sum, d_itL, d_itT, d_cL, d_few, m_app, m_appT, m_ixT, m_ixL, m_ix, m_ixl, m_ins, m_insT, m_rem, m_remT, m_popT, m_popAT, m_pop, m_popA, m_kL, m_kT, n_int, n_bool, n_none, n_str, n_tup, n_lst, n_nil, n_cons, n_ints, y_none_I, y_none_B, y_none_T, y_none_L, y_none_S, y_none_BLT, y_bool_I, y_bool_B, y_bool_T, y_bool_L, y_bool_S, y_bool_BLT, y_int_I, y_int_B, y_int_T, y_int_L, y_int_S, y_int_BLT, y_str_I, y_str_B, y_str_T, y_str_L, y_str_S, y_str_BLT, y_list_I, y_list_B, y_list_T, y_list_L, y_list_S, y_list_BLT, y_tuple_I, y_tuple_B, y_tuple_T, y_tuple_L, y_tuple_S, y_tuple_BLT,
  List.getElem?_cons_zero, List.getElem?_cons_succ, List.set_cons_zero, List.set_cons_succ, List.length_cons, List.length_nil, Option.bind_some, Option.bind_none, Option.map_some, Option.map_none, List.map_cons, List.map_nil, List.cons_append, List.nil_append, Bool.and_true, Bool.true_and, Bool.false_and, Bool.and_false, if_true, if_false, Bool.not_true, Bool.not_false, reduceCtorEq, decide_true, decide_false, q_dnew, q_dis, q_mm2, q_call0, q_srtT, q_lzip, q_comp2, q_keys, s_lock_fr, s_lock_pl, s_lockS, d_cD, d_setK, d_idxK, d_srtL, d_srtT, d_srtK, d_int, m_getT, m_get, m_kD, q_mthK, d_lstD, if_pos, Bool.false_eq_true, true_and, and_true, *])
theorem idx_ne {x n : Int} {ns : List Int} (h : ¬ n = x) : (n :: ns).idxOf x = ns.idxOf x + 1 := by
  rw [List.idxOf_cons]
  have : (n == x) = false := by simpa using h
  rw [this]
  rfl
theorem findD_idx {x : Int} : ∀ {ns : List Int}, x ∈ ns → findD (.int x) (ns.map PyData.int) = some (ns.idxOf x)
  | [], h => by simp at h
  | n :: ns, h => by
    show (if PyData.eqv (.int n) (.int x) = true then some 0 else (findD (.int x) (ns.map PyData.int)).map (· + 1)) = _
    rw [e_int]
    by_cases e : n = x
    · subst e
      simp
    · have hx : x ∈ ns := (List.mem_cons.mp h).elim (fun z => absurd z.symm e) id
      rw [if_neg (by simpa using e), findD_idx hx, idx_ne e]
      rfl
theorem idx_lt {x : Int} : ∀ {ns : List Int} {c : Nat}, x ∈ ns → (ns.idxOf x < c ↔ x ∈ ns.take c)
  | [], c, h => by simp at h
  | n :: ns, 0, h => by simp
  | n :: ns, c + 1, h => by
    rw [List.take_succ_cons, List.mem_cons]
    by_cases e : n = x
    · subst e
      simp
    · have hx : x ∈ ns := (List.mem_cons.mp h).elim (fun z => absurd z.symm e) id
      rw [idx_ne e, Nat.succ_lt_succ_iff, idx_lt hx]
      exact ⟨.inr, fun h => h.elim (fun z => absurd z.symm e) id⟩
def distO (pre : List Int) (x : Int) : Option Int := if x ∈ lastO pre then some ((lastO pre).idxOf x : Nat) else none
def distL (pre : List Int) : List Int → List (Option Int)
  | [] => []
  | x :: r => distO pre x :: distL (pre ++ [x]) r
theorem distL_len : ∀ (r pre : List Int), (distL pre r).length = r.length
  | [], _ => rfl
  | x :: r, pre => congrArg (· + 1) (distL_len r (pre ++ [x]))
def bDist (cf : CallF) : M Fl := exB cf (.cons (.asg 4 (.call "last_order" (.sli (.var 0) .no (.yes (.var 2))) .nil)) (.cons (.expr (.mth .append (.var 1) (.cons (.ifx (.cmp .In (.var 3) (.var 4)) (.mth .index (.var 4) (.cons (.var 3) .nil)) (.con .none)) .nil))) .nil))
theorem dist_loop {cf : CallF} (h2 : Sp_last_order (cf "last_order")) {us : List Int} {s : List Cell} (l1 : us.length ≤ 1000) : ∀ (r pre : List Int) (acc : List (Option Int)) (a2 a3 a4 : Slot), us = pre ++ r → acc.length = pre.length →
    ∃ b2 b3 b4, forF (.many [2, 3]) (bDist cf) (enumD (r.map PyData.int) pre.length) ⟨[vT us, .own (.lst (acc.map oD)), a2, a3, a4], s⟩ = some (.ok .nx ⟨[vT us, .own (.lst ((acc ++ distL pre r).map oD)), b2, b3, b4], s⟩)
  | [], pre, acc, a2, a3, a4, e, hl => ⟨a2, a3, a4, by rw [show distL pre [] = [] from rfl, List.append_nil]; rfl⟩
  | x :: r, pre, acc, a2, a3, a4, e, hl => by
    have hle : pre.length ≤ 1000 := by rw [e, List.length_append] at l1; omega
    have ht : us.take pre.length = pre := by rw [e]; simp
    have k := h2 pre s hle
    have c1 := cut_ints us (c := (pre.length : Nat)) (by omega)
    have e0 : ((pre.length : Nat) : Int).toNat = pre.length := by omega
    rw [e0, ht] at c1
    have hL : pre.length < LIM := by unfold LIM; omega
    obtain ⟨b2, b3, b4, ih⟩ := dist_loop (s := s) h2 l1 r (pre ++ [x]) (acc ++ [distO pre x]) (vI (pre.length : Nat)) (vI x) (vT (lastO pre)) (by rw [e, List.append_assoc]; rfl) (by simp [hl])
    clear e ht
    refine ⟨b2, b3, b4, ?_⟩
    have t : turnF (.many [2, 3]) (bDist cf) (.tuple [.int (pre.length : Nat), .int x]) ⟨[vT us, .own (.lst (acc.map oD)), a2, a3, a4], s⟩ = some (.ok .nx ⟨[vT us, .own (.lst ((acc ++ [distO pre x]).map oD)), vI (pre.length : Nat), vI x, vT (lastO pre)], s⟩) := by
      unfold turnF bDist
      by_cases hx : x ∈ lastO pre
      · have hd : oD (distO pre x) = .int ((lastO pre).idxOf x : Nat) := by unfold distO; rw [if_pos hx]; rfl
        have hf := findD_idx hx
        walk_at "mp"
      · have hd : oD (distO pre x) = .none := by unfold distO; rw [if_neg hx]; rfl
        walk_at "mp"
    show forF _ _ (.tuple [.int (pre.length : Nat), .int x] :: enumD (r.map PyData.int) (pre.length + 1)) _ = _
    rw [for_turn t]
    have el : (pre ++ [x]).length = pre.length + 1 := by simp
    rw [el] at ih
    rw [ih, List.append_assoc]
    rfl
def Sp_distances (F : FT) : Prop := ∀ us s, us.length ≤ 60 → us.all isItem = true → F [vT us] s = some (.ok (.fr (.lst ((distL [] us).map oD))) s)
theorem sp_distances {cf : CallF} (h1 : Sp_check_files (cf "check_files")) (h2 : Sp_last_order (cf "last_order")) : Sp_distances (runD cf d_distances) := fun us s l1 l2 => by
  have k1 := h1 us s l1 l2
  obtain ⟨b2, b3, b4, hf⟩ := dist_loop h2 (us := us) (s := s) (by omega) us [] [] .un .un .un rfl rfl
  simp only [vT, ti, List.map_nil, List.nil_append, List.length_nil] at hf
  unfold bDist at hf
  unfold d_distances
  walk_at "mp"
/-! ### missing -/
def farO (c : Int) : Option Int → Bool
  | none => true
  | some d => decide (c ≤ d)
def Sp_missing (F : FT) : Prop := ∀ us c s, us.length ≤ 60 → us.all isItem = true → 1 ≤ c → c ≤ 10 → F [vT us, vI c] s = some (.ok (.d (.int (((distL [] us).filter (farO c)).length : Nat))) s)
theorem comp_opt {i : Nat} {v : List Slot} {c : M Bool} {e : M D} {s : List Cell} (p : Option Int → Bool) (f : Option Int → D) (hi : i < v.length) : ∀ (ns : List (Option Int)), (∀ x ∈ ns, c ⟨v.set i (.val (oD x)), s⟩ = some (.ok (p x) ⟨v.set i (.val (oD x)), s⟩)) →
    (∀ x ∈ ns, p x = true → e ⟨v.set i (.val (oD x)), s⟩ = some (.ok (f x) ⟨v.set i (.val (oD x)), s⟩) ∧ noMut (f x) = true) → compF (.one i) v c e (ns.map oD) s = some ((ns.filter p).map f, s)
  | [], _, _ => rfl
  | x :: xs, hc, he => by
    have ih := comp_opt p f hi xs (fun y hy => hc y (List.mem_cons_of_mem _ hy)) fun y hy => he y (List.mem_cons_of_mem _ hy)
    have e1 : putTgt (.one i) (oD x) ⟨v, s⟩ = some (.ok () ⟨v.set i (.val (oD x)), s⟩) := if_pos hi
    have h0 := hc x (List.mem_cons_self ..)
    rw [List.map_cons]
    cases hp : p x with
    | false =>
      rw [hp] at h0
      rw [compF_f e1 h0, List.filter_cons_of_neg (by rw [hp]; exact Bool.false_ne_true)]
      exact ih
    | true =>
      rw [hp] at h0
      obtain ⟨h1, h2⟩ := he x (List.mem_cons_self ..) hp
      rw [compF_t e1 h0 h1 h2, List.filter_cons_of_pos hp]
      show (compF (.one i) v c e (xs.map oD) s).map _ = _
      rw [ih]
      rfl
theorem sp_missing {cf : CallF} (h1 : Sp_check_both (cf "check_both")) (h2 : Sp_distances (cf "distances")) : Sp_missing (runD cf d_missing) := fun us c s l1 l2 l3 l4 => by
  have k1 := h1 us c s l1 l2 l3 l4
  have k2 := h2 us s l1 l2
  have hL : ¬ LIM < (distL [] us).length := by rw [distL_len]; unfold LIM; omega
  have hc := comp_opt (c := evC cf (.yes (.or (.cmp .Is (.var 2) (.con .none)) (.one (.cmp .GtE (.var 2) (.var 1)))))) (e := (evE cf (.var 2)).bind keep) (i := 2) (v := [vT us, vI c, .un]) (s := s) (farO c) oD (Nat.lt_succ_self 2) (distL [] us) (fun x _ => by
    cases x with
    | none =>
      have e : oD none = .none := rfl
      have e2 : farO c none = true := rfl
      walk_at "mp"
    | some d =>
      have e : oD (some d) = .int d := rfl
      have e2 : farO c (some d) = decide (c ≤ d) := rfl
      have e3 : cmpD .Is (.int d) .none = some false := rfl
      walk_at "mp") (fun x _ _ => ⟨by walk_at "mp", by cases x <;> rfl⟩)
  have hz : us.all isItem = true := l2
  unfold d_missing
  walk_at "mp"
end MP
set_option maxHeartbeats 2000000
/-! MSg: the law's simulation of a capped file. -/
namespace MP
open PySem L2
local macro_rules | `(tactic| walk_at "mp") => `(tactic| simp only [q_bind, q_ok, q_exc, q_none, q_ret, q_opt, q_stuck, q_view_d, q_view_fr, q_keep_d, q_keep_fr, q_lend_d, q_lend_fr, q_lend_pl, q_lend_loc, q_take_d, q_take_fr, q_retW_d, q_retW_fr, q_puts_nil, q_puts_cons, q_takes_nil, q_takes_cons, q_tgt1, q_tgtM, q_bool, q_int, q_con, q_glo, q_tup, q_lst, q_bin, q_neg, q_cmp, q_chain, q_and, q_or, q_one, q_not, q_ifx, q_idx, q_sli, q_rev, q_call, q_blt, q_lens, q_trg1, q_trg2, q_isi, q_mth, q_mthL, q_mthT, q_mthN, q_mthS, q_comp, q_no, q_yes, q_cno, q_cyes, q_es_nil, q_es, q_as_nil, q_as, q_ks_nil, q_ks, q_over, q_rng1, q_rng2, q_enum, q_zip, q_asg, q_asgT, q_par, q_setI, q_expr, q_retS, q_ifs, q_loop, q_whl, q_rai, q_brk, q_pass, q_bnil, q_bcons, q_fl_nx, q_fl_brk, q_fl_ret, q_iteM,
  s_runD, s_end_nx, s_end_ret, s_end_exc, List.replicate_succ, List.replicate_zero, Nat.reduceSub, Nat.reduceAdd, Nat.reduceLT, Nat.zero_add, not_true_eq_false, not_false_eq_true, false_and, and_false, or_true, true_or, or_false, false_or, s_var, s_look_v, s_look_l, s_look_o, s_vs_v, s_vs_o, s_view_pl, s_view_loc, s_keep_pl, s_keepS_o, s_keepS_v, s_take_pl, s_takeS_o, s_takeS_v, s_ret_pl, s_retS_o, s_retS_v, s_set_pl, s_setS_o, s_set_loc, s_put, s_call, s_callK_d, s_callK_f, s_callK_x, s_args_nil, s_args, s_arg_d, s_arg_l, s_arg_pl, s_fz_nil, s_fz_d, s_fz_l, s_fz_pl, s_frzS_o, s_frzS_v,
  fl_int, fl_bool, fl_none, fl_str, vT, vI, ti, li, okB, List.map_append, e_lnn, e_tnn, e_tnil, e_lnil, sh_tnil, sh_lnil, z_kL, z_kT, k_ne1, k_ne2, w_nil, w_cons, w_bv, w_bo, w_bu, w_bl, w_t1, w_tM, at_0, at_1, at_2, at_3, set_0, set_2, n_cell, e_int, e_bool, e_str, sh_str, e_ti, e_li, e_any, sh_ti, sh_li, sh_int, sh_bool, sh_none, f_ints, ai_map, List.length_map, q_for_nil, b_add, b_sub, b_mul, b_fdiv, b_mod, b_pow, b_catT, b_catL, b_mulL, c_lt, c_le, c_gt, c_ge, c_eq, c_ne, c_isNN, c_isNT, c_isNL, c_isB, c_inN, c_inNN, c_inNT, c_inNL, c_inT, c_inL, c_niT, c_niL, d_idxL, d_idxT, d_sliL, d_sliT, d_revL, d_revT, d_lenL, d_lenT, d_tupL, d_tupT, d_lstL, d_lstT, d_all, d_sum, d_itL, d_itT, d_cL, d_few, m_app, m_appT, m_ixT, m_ixL, m_ix, m_ixl, m_ins, m_insT, m_rem, m_remT, m_popT, m_popAT, m_pop, m_popA, m_kL, m_kT, n_int, n_bool, n_none, n_str, n_tup, n_lst, n_nil, n_cons, n_ints, y_none_I, y_none_B, y_none_T, y_none_L, y_none_S, y_none_BLT, y_bool_I, y_bool_B, y_bool_T, y_bool_L, y_bool_S, y_bool_BLT, y_int_I, y_int_B, y_int_T, y_int_L, y_int_S, y_int_BLT, y_str_I, y_str_B, y_str_T, y_str_L, y_str_S, y_str_BLT, y_list_I, y_list_B, y_list_T, y_list_L, y_list_S, y_list_BLT, y_tuple_I, y_tuple_B, y_tuple_T, y_tuple_L, y_tuple_S, y_tuple_BLT,
  List.getElem?_cons_zero, List.getElem?_cons_succ, List.set_cons_zero, List.set_cons_succ, List.length_cons, List.length_nil, Option.bind_some, Option.bind_none, Option.map_some, Option.map_none, List.map_cons, List.map_nil, List.cons_append, List.nil_append, Bool.and_true, Bool.true_and, Bool.false_and, Bool.and_false, if_true, if_false, Bool.not_true, Bool.not_false, reduceCtorEq, decide_true, decide_false, q_dnew, q_dis, q_mm2, q_call0, q_srtT, q_lzip, q_comp2, q_keys, s_lock_fr, s_lock_pl, s_lockS, d_cD, d_setK, d_idxK, d_srtL, d_srtT, d_srtK, d_int, m_getT, m_get, m_kD, q_mthK, d_lstD, if_pos, Bool.false_eq_true, true_and, and_true, *])
def bSim (cf : CallF) : M Fl := exB cf (.cons (.ifs (.cmp .In (.var 5) (.var 2)) (.cons (.expr (.mth .remove (.var 2) (.cons (.var 5) .nil))) .nil) (.cons (.asg 4 (.bin .Add (.var 4) (.con (.int 1)))) .nil)) (.cons (.expr (.mth .insert (.var 2) (.cons (.con (.int 0)) (.cons (.var 5) .nil)))) (.cons (.expr (.mth .append (.var 3) (.cons (.ifx (.cmp .Gt (.blt .len (.var 2)) (.var 1)) (.mth .pop (.var 2) .nil) (.con .none)) .nil))) .nil)))
section
variable {cf : CallF} {us T : List Int} {c lost x : Int} {gone : List (Option Int)} {s : List Cell} {sl : Slot}
theorem sim_in (hx : x ∈ T) (ht : (T.length : Int) ≤ c) (hg : gone.length < LIM) (hT : T.length < 1000) :
    turnF (.one 5) (bSim cf) (.int x) ⟨[vT us, vI c, .own (.lst (T.map PyData.int)), .own (.lst (gone.map oD)), vI lost, sl], s⟩ = some (.ok .nx ⟨[vT us, vI c, .own (.lst ((x :: T.erase x).map PyData.int)), .own (.lst ((gone ++ [none]).map oD)), vI lost, vI x], s⟩) := by
  have ho : oD none = .none := rfl
  have he : (T.erase x).length = T.length - 1 := List.length_erase_of_mem hx
  have hl : (T.erase x).length < LIM := by rw [he]; unfold LIM; omega
  have hp : 1 ≤ T.length := List.length_pos_of_mem hx
  have h1 : ¬ c < (((T.erase x).length + 1 : Nat) : Int) := by omega
  clear he
  unfold turnF bSim
  walk_at "mp"
theorem sim_out (hx : x ∉ T) (ht : (T.length : Int) < c) (hg : gone.length < LIM) (hT : T.length < 1000) :
    turnF (.one 5) (bSim cf) (.int x) ⟨[vT us, vI c, .own (.lst (T.map PyData.int)), .own (.lst (gone.map oD)), vI lost, sl], s⟩ = some (.ok .nx ⟨[vT us, vI c, .own (.lst ((x :: T).map PyData.int)), .own (.lst ((gone ++ [none]).map oD)), vI (lost + 1), vI x], s⟩) := by
  have ho : oD none = .none := rfl
  have hl : T.length < LIM := by unfold LIM; omega
  have h1 : ¬ c < ((T.length + 1 : Nat) : Int) := by omega
  unfold turnF bSim
  walk_at "mp"
theorem sim_pop {y : Int} (hx : x ∉ T) (ht : (T.length : Int) = c) (hg : gone.length < LIM) (hT : T.length < 1000) (hy : T.getLast? = some y) :
    turnF (.one 5) (bSim cf) (.int x) ⟨[vT us, vI c, .own (.lst (T.map PyData.int)), .own (.lst (gone.map oD)), vI lost, sl], s⟩ = some (.ok .nx ⟨[vT us, vI c, .own (.lst ((x :: T.dropLast).map PyData.int)), .own (.lst ((gone ++ [some y]).map oD)), vI (lost + 1), vI x], s⟩) := by
  have ho : oD (some y) = .int y := rfl
  have hl : T.length < LIM := by unfold LIM; omega
  have h1 : c < ((T.length + 1 : Nat) : Int) := by omega
  have h2 : (PyData.int x :: T.map PyData.int)[T.length + 1 - 1]? = some (.int y) := by
    rw [Nat.add_sub_cancel]
    cases T with
    | nil => cases hy
    | cons a T =>
      rw [List.length_cons, List.getElem?_cons_succ, List.getElem?_map]
      rw [List.getLast?_eq_getElem?, List.length_cons, Nat.add_sub_cancel] at hy
      rw [hy]
      rfl
  have h3 : (PyData.int x :: T.map PyData.int).dropLast = PyData.int x :: T.dropLast.map PyData.int := by
    cases T with
    | nil => cases hy
    | cons a T => rw [List.map_cons, List.dropLast_cons₂, ← List.map_cons, List.map_dropLast]
  clear ht
  unfold turnF bSim
  walk_at "mp"
end
end MP
set_option maxHeartbeats 2000000
/-! MLb: drops and misses by simulation, in plain Lean. -/
namespace MP
def capT (c : Nat) (pre : List Int) : List Int := (lastO pre).take c
def dropO (c : Nat) (pre : List Int) (x : Int) : Option Int := if x ∈ capT c pre then none else if (capT c pre).length = c then (capT c pre).getLast? else none
def dropsR (c : Nat) : List Int → List Int → List (Option Int)
  | _, [] => []
  | pre, x :: r => dropO c pre x :: dropsR c (pre ++ [x]) r
def missR (c : Nat) : List Int → List Int → Nat
  | _, [] => 0
  | pre, x :: r => (if x ∈ capT c pre then 0 else 1) + missR c (pre ++ [x]) r
theorem dropsR_len (c : Nat) : ∀ (r pre : List Int), (dropsR c pre r).length = r.length
  | [], _ => rfl
  | x :: r, pre => congrArg (· + 1) (dropsR_len c r (pre ++ [x]))
theorem capT_nodup (c : Nat) (pre : List Int) : (capT c pre).Nodup := (List.take_sublist c _).nodup (lastO_nodup pre)
theorem last_alone : ∀ {T : List Int}, T.Nodup → T ≠ [] → T.filter (fun y => !decide (y ∈ T.dropLast)) = (T.getLast?).toList
  | [], _, h => absurd rfl h
  | [a], _, _ => by simp
  | a :: b :: T, nd, _ => by
    obtain ⟨n1, n2⟩ := List.nodup_cons.mp nd
    have ih := last_alone n2 (List.cons_ne_nil _ _)
    rw [List.dropLast_cons₂, List.filter_cons_of_neg (by simp), List.getLast?_cons_cons, ← ih]
    refine List.filter_congr fun y hy => ?_
    have : y ≠ a := fun e => n1 (e ▸ hy)
    simp [this]
theorem goneHead {c : Nat} (hc : 1 ≤ c) (pre : List Int) (x : Int) : ((capT c pre).filter fun y => !decide (y ∈ capT c (pre ++ [x]))).head? = dropO c pre x := by
  unfold dropO
  by_cases hx : x ∈ capT c pre
  · rw [if_pos hx, show capT c (pre ++ [x]) = x :: (capT c pre).erase x from cap_in hx]
    have : (capT c pre).filter (fun y => !decide (y ∈ x :: (capT c pre).erase x)) = [] := by
      refine List.filter_eq_nil_iff.mpr fun y hy => ?_
      by_cases e : y = x
      · simp [e]
      · simp [(List.mem_erase_of_ne e).mpr hy]
    rw [this]
    rfl
  · rw [if_neg hx, show capT c (pre ++ [x]) = x :: (lastO pre).take (c - 1) from cap_out hc hx]
    by_cases hl : (capT c pre).length = c
    · rw [if_pos hl]
      have hne : capT c pre ≠ [] := fun e => by rw [e] at hl; simp at hl; omega
      have e1 : (lastO pre).take (c - 1) = (capT c pre).dropLast := by
        rw [List.dropLast_eq_take, hl]
        unfold capT
        rw [List.take_take, Nat.min_eq_left (by omega)]
      rw [e1]
      have e2 : (capT c pre).filter (fun y => !decide (y ∈ x :: (capT c pre).dropLast)) = (capT c pre).filter (fun y => !decide (y ∈ (capT c pre).dropLast)) := by
        refine List.filter_congr fun y hy => ?_
        have : y ≠ x := fun e => hx (e ▸ hy)
        simp [this]
      rw [e2, last_alone (capT_nodup c pre) hne]
      cases (capT c pre).getLast? <;> rfl
    · rw [if_neg hl]
      have hlt : (lastO pre).length ≤ c - 1 := by
        unfold capT at hl
        rw [List.length_take] at hl
        omega
      have e1 : (lastO pre).take (c - 1) = capT c pre := by
        unfold capT
        rw [List.take_of_length_le hlt, List.take_of_length_le (by omega)]
      rw [e1]
      have : (capT c pre).filter (fun y => !decide (y ∈ x :: capT c pre)) = [] := by
        refine List.filter_eq_nil_iff.mpr fun y hy => ?_
        simp [hy]
      rw [this]
      rfl
theorem dropsR_range {c : Nat} (hc : 1 ≤ c) : ∀ (r pre : List Int), dropsR c pre r = (List.range r.length).map fun i => (goneL (pre ++ r) c (pre.length + i)).head?
  | [], _ => rfl
  | x :: r, pre => by
    rw [List.length_cons, List.range_succ_eq_map, List.map_cons, List.map_map]
    show dropO c pre x :: dropsR c (pre ++ [x]) r = _
    rw [dropsR_range hc r (pre ++ [x])]
    congr 1
    · rw [← goneHead hc pre x]
      unfold goneL capT
      have e1 : (pre ++ x :: r).take (pre.length + 0) = pre := by simp
      have e2 : (pre ++ x :: r).take (pre.length + 0 + 1) = pre ++ [x] := by
        rw [Nat.add_zero, List.take_length_add_append]
        rfl
      rw [e1, e2]
    · refine List.map_congr_left fun i _ => ?_
      show (goneL (pre ++ [x] ++ r) c ((pre ++ [x]).length + i)).head? = (goneL (pre ++ x :: r) c (pre.length + (i + 1))).head?
      have e1 : pre ++ [x] ++ r = pre ++ x :: r := by rw [List.append_assoc]; rfl
      have e2 : (pre ++ [x]).length + i = pre.length + (i + 1) := by rw [List.length_append, List.length_singleton]; omega
      rw [e1, e2]
theorem drops_eq {c : Nat} (hc : 1 ≤ c) (us : List Int) : dropsL us c = dropsR c [] us := by
  rw [dropsR_range hc us []]
  unfold dropsL
  refine List.map_congr_left fun i _ => ?_
  rw [List.nil_append, List.length_nil, Nat.zero_add]
theorem far_iff (c : Nat) (pre : List Int) (x : Int) : farO (c : Nat) (distO pre x) = !decide (x ∈ capT c pre) := by
  unfold distO capT
  by_cases h : x ∈ lastO pre
  · rw [if_pos h]
    have k := idx_lt (c := c) h
    show decide (((c : Nat) : Int) ≤ ((lastO pre).idxOf x : Nat)) = _
    by_cases h2 : x ∈ (lastO pre).take c
    · rw [decide_eq_true h2, decide_eq_false (by have := k.mpr h2; omega)]
      rfl
    · rw [decide_eq_false h2, decide_eq_true (by have : ¬ (lastO pre).idxOf x < c := (fun z => h2 (k.mp z)); omega)]
      rfl
  · rw [if_neg h, decide_eq_false (fun z => h (List.mem_of_mem_take z))]
    rfl
theorem miss_eq (c : Nat) : ∀ (r pre : List Int), ((distL pre r).filter (farO (c : Nat))).length = missR c pre r
  | [], _ => rfl
  | x :: r, pre => by
    show ((distO pre x :: distL (pre ++ [x]) r).filter _).length = (if x ∈ capT c pre then 0 else 1) + missR c (pre ++ [x]) r
    rw [← miss_eq c r (pre ++ [x])]
    have k := far_iff c pre x
    by_cases h : x ∈ capT c pre
    · rw [decide_eq_true h] at k
      rw [List.filter_cons_of_neg (by rw [k]; simp), if_pos h, Nat.zero_add]
    · rw [decide_eq_false h] at k
      rw [List.filter_cons_of_pos (by rw [k]; rfl), if_neg h, List.length_cons, Nat.add_comm]
theorem miss_mono {a b : Int} (h : a ≤ b) (l : List (Option Int)) : (l.filter (farO b)).length ≤ (l.filter (farO a)).length := by
  induction l with
  | nil => exact Nat.le_refl _
  | cons o l ih =>
    by_cases hb : farO b o = true
    · have ha : farO a o = true := by
        cases o with
        | none => rfl
        | some d => exact decide_eq_true (Int.le_trans h (of_decide_eq_true hb))
      rw [List.filter_cons_of_pos hb, List.filter_cons_of_pos ha]
      exact Nat.succ_le_succ ih
    · rw [List.filter_cons_of_neg hb]
      refine Nat.le_trans ih ?_
      by_cases ha : farO a o = true
      · rw [List.filter_cons_of_pos ha]
        exact Nat.le_succ _
      · rw [List.filter_cons_of_neg ha]
        exact Nat.le_refl _
end MP
set_option maxHeartbeats 2000000
/-! MSh: the law's simulation of a capped file. -/
namespace MP
open PySem L2
local macro_rules | `(tactic| walk_at "mp") => `(tactic| simp only [q_bind, q_ok, q_exc, q_none, q_ret, q_opt, q_stuck, q_view_d, q_view_fr, q_keep_d, q_keep_fr, q_lend_d, q_lend_fr, q_lend_pl, q_lend_loc, q_take_d, q_take_fr, q_retW_d, q_retW_fr, q_puts_nil, q_puts_cons, q_takes_nil, q_takes_cons, q_tgt1, q_tgtM, q_bool, q_int, q_con, q_glo, q_tup, q_lst, q_bin, q_neg, q_cmp, q_chain, q_and, q_or, q_one, q_not, q_ifx, q_idx, q_sli, q_rev, q_call, q_blt, q_lens, q_trg1, q_trg2, q_isi, q_mth, q_mthL, q_mthT, q_mthN, q_mthS, q_comp, q_no, q_yes, q_cno, q_cyes, q_es_nil, q_es, q_as_nil, q_as, q_ks_nil, q_ks, q_over, q_rng1, q_rng2, q_enum, q_zip, q_asg, q_asgT, q_par, q_setI, q_expr, q_retS, q_ifs, q_loop, q_whl, q_rai, q_brk, q_pass, q_bnil, q_bcons, q_fl_nx, q_fl_brk, q_fl_ret, q_iteM,
  s_runD, s_end_nx, s_end_ret, s_end_exc, List.replicate_succ, List.replicate_zero, Nat.reduceSub, Nat.reduceAdd, Nat.reduceLT, Nat.zero_add, not_true_eq_false, not_false_eq_true, false_and, and_false, or_true, true_or, or_false, false_or, s_var, s_look_v, s_look_l, s_look_o, s_vs_v, s_vs_o, s_view_pl, s_view_loc, s_keep_pl, s_keepS_o, s_keepS_v, s_take_pl, s_takeS_o, s_takeS_v, s_ret_pl, s_retS_o, s_retS_v, s_set_pl, s_setS_o, s_set_loc, s_put, s_call, s_callK_d, s_callK_f, s_callK_x, s_args_nil, s_args, s_arg_d, s_arg_l, s_arg_pl, s_fz_nil, s_fz_d, s_fz_l, s_fz_pl, s_frzS_o, s_frzS_v,
  fl_int, fl_bool, fl_none, fl_str, vT, vI, ti, li, okB, List.map_append, e_lnn, e_tnn, e_tnil, e_lnil, sh_tnil, sh_lnil, z_kL, z_kT, k_ne1, k_ne2, w_nil, w_cons, w_bv, w_bo, w_bu, w_bl, w_t1, w_tM, at_0, at_1, at_2, at_3, set_0, set_2, n_cell, e_int, e_bool, e_str, sh_str, e_ti, e_li, e_any, sh_ti, sh_li, sh_int, sh_bool, sh_none, f_ints, ai_map, List.length_map, q_for_nil, b_add, b_sub, b_mul, b_fdiv, b_mod, b_pow, b_catT, b_catL, b_mulL, c_lt, c_le, c_gt, c_ge, c_eq, c_ne, c_isNN, c_isNT, c_isNL, c_isB, c_inN, c_inNN, c_inNT, c_inNL, c_inT, c_inL, c_niT, c_niL, d_idxL, d_idxT, d_sliL, d_sliT, d_revL, d_revT, d_lenL, d_lenT, d_tupL, d_tupT, d_lstL, d_lstT, d_all, d_sum, d_itL, d_itT, d_cL, d_few, m_app, m_appT, m_ixT, m_ixL, m_ix, m_ixl, m_ins, m_insT, m_rem, m_remT, m_popT, m_popAT, m_pop, m_popA, m_kL, m_kT, n_int, n_bool, n_none, n_str, n_tup, n_lst, n_nil, n_cons, n_ints, y_none_I, y_none_B, y_none_T, y_none_L, y_none_S, y_none_BLT, y_bool_I, y_bool_B, y_bool_T, y_bool_L, y_bool_S, y_bool_BLT, y_int_I, y_int_B, y_int_T, y_int_L, y_int_S, y_int_BLT, y_str_I, y_str_B, y_str_T, y_str_L, y_str_S, y_str_BLT, y_list_I, y_list_B, y_list_T, y_list_L, y_list_S, y_list_BLT, y_tuple_I, y_tuple_B, y_tuple_T, y_tuple_L, y_tuple_S, y_tuple_BLT,
  List.getElem?_cons_zero, List.getElem?_cons_succ, List.set_cons_zero, List.set_cons_succ, List.length_cons, List.length_nil, Option.bind_some, Option.bind_none, Option.map_some, Option.map_none, List.map_cons, List.map_nil, List.cons_append, List.nil_append, Bool.and_true, Bool.true_and, Bool.false_and, Bool.and_false, if_true, if_false, Bool.not_true, Bool.not_false, reduceCtorEq, decide_true, decide_false, q_dnew, q_dis, q_mm2, q_call0, q_srtT, q_lzip, q_comp2, q_keys, s_lock_fr, s_lock_pl, s_lockS, d_cD, d_setK, d_idxK, d_srtL, d_srtT, d_srtK, d_int, m_getT, m_get, m_kD, q_mthK, d_lstD, if_pos, Bool.false_eq_true, true_and, and_true, *])
theorem capT_len (c : Nat) (pre : List Int) : (capT c pre).length ≤ c := by unfold capT; rw [List.length_take]; omega
theorem sim_turn {cf : CallF} {us pre : List Int} {c : Nat} {lost x : Int} {gone : List (Option Int)} {s : List Cell} {sl : Slot} (h1 : 1 ≤ c) (h2 : c ≤ 10) (hg : gone.length < LIM) :
    turnF (.one 5) (bSim cf) (.int x) ⟨[vT us, vI (c : Nat), .own (.lst ((capT c pre).map PyData.int)), .own (.lst (gone.map oD)), vI lost, sl], s⟩ = some (.ok .nx ⟨[vT us, vI (c : Nat), .own (.lst ((capT c (pre ++ [x])).map PyData.int)), .own (.lst ((gone ++ [dropO c pre x]).map oD)), vI (lost + ((if x ∈ capT c pre then 0 else 1 : Nat) : Nat)), vI x], s⟩) := by
  have hl := capT_len c pre
  unfold dropO
  by_cases hx : x ∈ capT c pre
  · rw [if_pos hx, if_pos hx, show capT c (pre ++ [x]) = x :: (capT c pre).erase x from cap_in hx]
    rw [sim_in hx (by omega) hg (by omega), show lost + ((0 : Nat) : Int) = lost from Int.add_zero _]
  · rw [if_neg hx, if_neg hx, show capT c (pre ++ [x]) = x :: (lastO pre).take (c - 1) from cap_out h1 hx]
    by_cases he : (capT c pre).length = c
    · rw [if_pos he]
      have hne : capT c pre ≠ [] := fun e => by rw [e] at he; simp at he; omega
      have e1 : (lastO pre).take (c - 1) = (capT c pre).dropLast := by
        rw [List.dropLast_eq_take, he]
        unfold capT
        rw [List.take_take, Nat.min_eq_left (by omega)]
      rw [e1, List.getLast?_eq_some_getLast hne]
      exact sim_pop hx (by omega) hg (by omega) (List.getLast?_eq_some_getLast hne)
    · rw [if_neg he]
      have hlt : (lastO pre).length ≤ c - 1 := by
        unfold capT at he
        rw [List.length_take] at he
        omega
      have e1 : (lastO pre).take (c - 1) = capT c pre := by
        unfold capT
        rw [List.take_of_length_le hlt, List.take_of_length_le (by omega)]
      rw [e1]
      exact sim_out hx (by omega) hg (by omega)
theorem sim_loop {cf : CallF} {us : List Int} {c : Nat} {s : List Cell} (h1 : 1 ≤ c) (h2 : c ≤ 10) : ∀ (r pre : List Int) (gone : List (Option Int)) (lost : Int) (sl : Slot), gone.length + r.length ≤ 1000 →
    ∃ sl', forF (.one 5) (bSim cf) (r.map PyData.int) ⟨[vT us, vI (c : Nat), .own (.lst ((capT c pre).map PyData.int)), .own (.lst (gone.map oD)), vI lost, sl], s⟩ = some (.ok .nx ⟨[vT us, vI (c : Nat), .own (.lst ((capT c (pre ++ r)).map PyData.int)), .own (.lst ((gone ++ dropsR c pre r).map oD)), vI (lost + (missR c pre r : Nat)), sl'], s⟩)
  | [], pre, gone, lost, sl, hl => ⟨sl, by
      rw [List.append_nil, show dropsR c pre [] = [] from rfl, List.append_nil, show lost + ((missR c pre [] : Nat) : Int) = lost from Int.add_zero _]
      rfl⟩
  | x :: r, pre, gone, lost, sl, hl => by
    rw [List.length_cons] at hl
    obtain ⟨sl', ih⟩ := sim_loop (cf := cf) (us := us) (s := s) h1 h2 r (pre ++ [x]) (gone ++ [dropO c pre x]) (lost + ((if x ∈ capT c pre then 0 else 1 : Nat) : Nat)) (vI x) (by rw [List.length_append, List.length_singleton]; omega)
    refine ⟨sl', ?_⟩
    rw [List.map_cons, for_turn (sim_turn h1 h2 (by unfold LIM; omega)), ih]
    have e1 : pre ++ [x] ++ r = pre ++ x :: r := by rw [List.append_assoc]; rfl
    have e2 : gone ++ [dropO c pre x] ++ dropsR c (pre ++ [x]) r = gone ++ dropsR c pre (x :: r) := by rw [List.append_assoc]; rfl
    have e3 : lost + ((if x ∈ capT c pre then 0 else 1 : Nat) : Int) + (missR c (pre ++ [x]) r : Nat) = lost + (missR c pre (x :: r) : Nat) := by
      show _ = lost + (((if x ∈ capT c pre then 0 else 1) + missR c (pre ++ [x]) r : Nat) : Int)
      omega
    rw [e1, e2, e3]
def simD (us : List Int) (c : Nat) : D := .tuple [ti (capT c us), .list ((dropsR c [] us).map oD), .int (missR c [] us : Nat)]
def Sp_simulated (F : FT) : Prop := ∀ us (c : Nat) s, us.length ≤ 60 → 1 ≤ c → c ≤ 10 → F [vT us, vI (c : Nat)] s = some (.ok (.d (simD us c)) s)
theorem sp_simulated {cf : CallF} : Sp_simulated (runD cf d__law_simulated) := fun us c s l1 l3 l4 => by
  obtain ⟨sl', hf⟩ := sim_loop (cf := cf) (us := us) (s := s) l3 l4 us [] [] 0 .un (by simp; omega)
  rw [show capT c [] = [] by unfold capT; rw [lastO_nil]; exact List.take_nil] at hf
  simp only [vT, vI, ti, List.map_nil, List.nil_append, Int.zero_add] at hf
  have hL : ¬ LIM < us.length := by unfold LIM; omega
  have hL2 : ¬ LIM < (capT c us).length := by have := capT_len c us; unfold LIM; omega
  unfold bSim at hf
  unfold d__law_simulated simD
  walk_at "mp"
end MP
set_option maxHeartbeats 2000000
/-! MQc: while loops; results that are lists of numbers or None. -/
namespace MP
open PySem L2
/-! ### while -/
theorem whl_end {c : M Bool} {b : M Fl} {n : Nat} {st st1 : MP.St} (h : c st = some (.ok false st1)) : whlF c b (n + 1) st = some (.ok .nx st1) := by
  show M.bind c _ st = _
  rw [q_bind, h]
  rfl
theorem whl_go {c : M Bool} {b : M Fl} {n : Nat} {st st1 st2 : MP.St} (h : c st = some (.ok true st1)) (hb : b st1 = some (.ok .nx st2)) : whlF c b (n + 1) st = whlF c b n st2 := by
  show M.bind c _ st = _
  rw [q_bind, h]
  show M.bind b _ st1 = _
  rw [q_bind, hb]
  rfl
/-- a while by a measure and an invariant -/
theorem whl_inv {c : M Bool} {b : M Fl} (P Q : MP.St → Prop) (μ : MP.St → Nat) (h : ∀ st, P st → (∃ st1, c st = some (.ok false st1) ∧ Q st1) ∨ ∃ st1 st2, c st = some (.ok true st1) ∧ b st1 = some (.ok .nx st2) ∧ P st2 ∧ μ st2 < μ st) :
    ∀ (n : Nat) (st : MP.St), P st → μ st < n → ∃ st', whlF c b n st = some (.ok .nx st') ∧ Q st'
  | 0, st, _, hn => absurd hn (Nat.not_lt_zero _)
  | n + 1, st, p, hn => by
    rcases h st p with ⟨st1, h1, q⟩ | ⟨st1, st2, h1, h2, p2, hm⟩
    · exact ⟨st1, whl_end h1, q⟩
    · obtain ⟨st', h3, q⟩ := whl_inv P Q μ h n st2 p2 (by omega)
      exact ⟨st', by rw [whl_go h1 h2]; exact h3, q⟩
/-- a while that counts up -/
theorem whl_up {c : M Bool} {b : M Fl} (S : Nat → MP.St) (k : Nat) (h2 : c (S k) = some (.ok false (S k))) : ∀ (n a : Nat), (∀ i, a ≤ i → i < k → c (S i) = some (.ok true (S i)) ∧ b (S i) = some (.ok .nx (S (i + 1)))) → a ≤ k → k - a < n → whlF c b n (S a) = some (.ok .nx (S k))
  | 0, a, _, _, hn => absurd hn (Nat.not_lt_zero _)
  | n + 1, a, h, ha, hn => by
    by_cases e : a = k
    · subst e
      exact whl_end h2
    · obtain ⟨h3, h4⟩ := h a (Nat.le_refl _) (by omega)
      rw [whl_go h3 h4]
      exact whl_up S k h2 n (a + 1) (fun i hi => h i (by omega)) (by omega) (by omega)
theorem whl_par {c : M Bool} {b : M Fl} {α : Type} (S : α → MP.St) (P Q : α → Prop) (μ : α → Nat) (h : ∀ a, P a → (c (S a) = some (.ok false (S a)) ∧ Q a) ∨ ∃ a', c (S a) = some (.ok true (S a)) ∧ b (S a) = some (.ok .nx (S a')) ∧ P a' ∧ μ a' < μ a) :
    ∀ (n : Nat) (a : α), P a → μ a < n → ∃ a', whlF c b n (S a) = some (.ok .nx (S a')) ∧ Q a'
  | 0, a, _, hn => absurd hn (Nat.not_lt_zero _)
  | n + 1, a, p, hn => by
    rcases h a p with ⟨h1, q⟩ | ⟨a', h1, h2, p2, hm⟩
    · exact ⟨a, whl_end h1, q⟩
    · obtain ⟨a'', h3, q⟩ := whl_par S P Q μ h n a' p2 (by omega)
      exact ⟨a'', by rw [whl_go h1 h2]; exact h3, q⟩
theorem for_par {tg : Tgt} {b : M Fl} {α : Type} (S : α → Slot → MP.St) (P : List D → α → Prop) (h : ∀ x ys a sl, P (x :: ys) a → ∃ a' sl', turnF tg b x (S a sl) = some (.ok .nx (S a' sl')) ∧ P ys a') :
    ∀ (xs : List D) (a : α) (sl : Slot), P xs a → ∃ a' sl', forF tg b xs (S a sl) = some (.ok .nx (S a' sl')) ∧ P [] a'
  | [], a, sl, p => ⟨a, sl, rfl, p⟩
  | x :: xs, a, sl, p => by
    obtain ⟨a1, sl1, h1, p1⟩ := h x xs a sl p
    obtain ⟨a2, sl2, h2, p2⟩ := for_par S P h xs a1 sl1 p1
    exact ⟨a2, sl2, by rw [for_turn h1, h2], p2⟩
theorem m_popN {xs : List D} {i : Nat} : mthD .popAt (.list xs) [.int ((i : Nat) : Int)] = if i < LIM then (xs[i]?).bind fun y => some (.d y, some (.lst (xs.eraseIdx i))) else none := by
  by_cases h : i < LIM
  · rw [m_popA, if_pos (show ((i : Nat) : Int).toNat < LIM ∧ 0 ≤ ((i : Nat) : Int) by omega), if_pos h, Int.toNat_natCast]
  · rw [m_popA, if_neg (show ¬ (((i : Nat) : Int).toNat < LIM ∧ 0 ≤ ((i : Nat) : Int)) by omega), if_neg h]
/-! ### data of numbers and None -/
theorem ok_o : ∀ l : List (Option Int), okL (l.map oD) = true
  | [] => rfl
  | o :: l => by
    show (okD (oD o) && okL (l.map oD)) = true
    rw [ok_o l]
    cases o <;> rfl
theorem depth_o : ∀ l : List (Option Int), PyData.depthAll (l.map oD) ≤ 0
  | [] => by unfold List.map PyData.depthAll; exact Nat.zero_le _
  | o :: l => by
    rw [List.map_cons, depth_cons]
    refine Nat.max_le.mpr ⟨?_, depth_o l⟩
    cases o <;> (unfold oD PyData.depth; exact Nat.zero_le _)
theorem depth_i : ∀ l : List Int, PyData.depthAll (l.map PyData.int) ≤ 0
  | [] => by unfold List.map PyData.depthAll; exact Nat.zero_le _
  | o :: l => by
    rw [List.map_cons, depth_cons]
    refine Nat.max_le.mpr ⟨?_, depth_i l⟩
    unfold PyData.depth; exact Nat.zero_le _
theorem lay_o : ∀ l : List (Option Int), PyData.canLayAll0 (l.map oD) = true
  | [] => rfl
  | o :: l => by
    show (PyData.canLay0 (oD o) && PyData.canLayAll0 (l.map oD)) = true
    rw [lay_o l]
    cases o <;> rfl
theorem sh_lo (l : List (Option Int)) : SeqAt.shaped (.list (l.map oD)) = true := by
  unfold SeqAt.shaped
  rw [Bool.and_eq_true]
  refine ⟨lay_o l, decide_eq_true ?_⟩
  unfold PyData.depth
  have := depth_o l
  have h : (60 : Nat) ≤ 1000 := by decide
  omega
theorem e_oD (a b : Option Int) : PyData.eqv (oD a) (oD b) = decide (a = b) := by
  cases a with
  | none => cases b <;> rfl
  | some x =>
    cases b with
    | none => rfl
    | some y =>
      show PyData.eqv (.int x) (.int y) = _
      rw [e_int]
      simp
theorem e_los (a : List (Option Int)) : ∀ b : List (Option Int), PyData.eqvAll (a.map oD) (b.map oD) = decide (a = b) := by
  induction a with
  | nil => intro b; cases b <;> rfl
  | cons x a ih =>
    intro b
    cases b with
    | nil => rfl
    | cons y b =>
      show (PyData.eqv (oD x) (oD y) && PyData.eqvAll (a.map oD) (b.map oD)) = _
      rw [e_oD, ih b]
      by_cases h1 : x = y <;> by_cases h2 : a = b <;> simp [h1, h2]
theorem e_lo (a b : List (Option Int)) : PyData.eqv (.list (a.map oD)) (.list (b.map oD)) = decide (a = b) := e_los a b
/-! ### ranges -/
theorem rngI_cons {a b : Int} (h : a < b) : rngI a b = a :: rngI (a + 1) b := by
  unfold rngI
  obtain ⟨n, hn⟩ : ∃ n, (b - a).toNat = n + 1 := ⟨(b - a).toNat - 1, by omega⟩
  have h2 : (b - (a + 1)).toNat = n := by omega
  rw [hn, h2, List.range_succ_eq_map, List.map_cons, List.map_map]
  congr 1
  · show a + ((0 : Nat) : Int) = a
    omega
  · refine List.map_congr_left fun i _ => ?_
    show a + ((i + 1 : Nat) : Int) = a + 1 + (i : Nat)
    omega
theorem rngI_nil {a b : Int} (h : b ≤ a) : rngI a b = [] := by
  unfold rngI
  have : (b - a).toNat = 0 := by omega
  rw [this]
  rfl
theorem rngI_split {a m b : Int} (h1 : a ≤ m) (h2 : m ≤ b) : rngI a b = rngI a m ++ rngI m b := by
  have gen : ∀ (n : Nat) (a : Int), a ≤ m → (m - a).toNat = n → rngI a b = rngI a m ++ rngI m b := by
    intro n
    induction n with
    | zero =>
      intro a h hn
      have : a = m := by omega
      subst this
      rw [rngI_nil (Int.le_refl _)]
      rfl
    | succ n ih =>
      intro a h hn
      rw [rngI_cons (show a < b by omega), rngI_cons (show a < m by omega), ih (a + 1) (by omega) (by omega)]
      rfl
  exact gen _ a h1 rfl
end MP
namespace Lk20
open PySem L2 MP
def L : MP.Defs := (("is_integer" : Str), d_is_integer) :: (("in_range" : Str), d_in_range) :: (("is_item" : Str), d_is_item) :: (("is_list" : Str), d_is_list) :: (("check_list" : Str), d_check_list) :: (("check_target" : Str), d_check_target) :: (("check_uses" : Str), d_check_uses) :: (("check_positions" : Str), d_check_positions) :: (("check_count" : Str), d_check_count) :: (("to_front" : Str), d_to_front) :: (("after" : Str), d_after) :: (("use_all" : Str), d_use_all) :: (("positions_of" : Str), d_positions_of) :: (("find_positions" : Str), d_find_positions) :: (("items_at" : Str), d_items_at) :: (("uses_at" : Str), d_uses_at) :: (("last_order" : Str), d_last_order) :: (("full_order" : Str), d_full_order) :: (("same_effect" : Str), d_same_effect) :: (("distinguishing_list" : Str), d_distinguishing_list) :: (("needed_of" : Str), d_needed_of) :: (("needed" : Str), d_needed) :: (("shortest_uses" : Str), d_shortest_uses) :: (("presses" : Str), d_presses) :: (("fewest_presses" : Str), d_fewest_presses) :: (("costs_of" : Str), d_costs_of) :: (("pair_costs" : Str), d_pair_costs) :: (("check_files" : Str), d_check_files) :: (("check_both" : Str), d_check_both) :: (("capped" : Str), d_capped) :: (("drops" : Str), d_drops) :: (("distances" : Str), d_distances) :: (("missing" : Str), d_missing) :: (("least_cap" : Str), d_least_cap) :: (("cap_range" : Str), d_cap_range) :: (("partitions" : Str), d_partitions) :: (("count_of" : Str), d_count_of) :: (("history_count" : Str), d_history_count) :: (("is_history" : Str), d_is_history) :: (("history_at" : Str), d_history_at) :: (("history_number" : Str), d_history_number) :: (("surely_used" : Str), d_surely_used) :: (("is_grouped" : Str), d_is_grouped) :: (("check_grouped" : Str), d_check_grouped) :: (("check_goal" : Str), d_check_goal) :: (("group_of" : Str), d_group_of) :: (("use_one" : Str), d_use_one) :: (("use_grouped" : Str), d_use_grouped) :: (("plan_of" : Str), d_plan_of) :: (("grouped_needed" : Str), d_grouped_needed) :: (("grouped_uses" : Str), d_grouped_uses) :: (("choose" : Str), d_choose) :: (("orders_by_size" : Str), d_orders_by_size) :: (("grouped_count" : Str), d_grouped_count) :: (("arranged" : Str), d_arranged) :: (("apply_pattern" : Str), d_apply_pattern) :: (("repeat_pattern" : Str), d_repeat_pattern) :: (("check_pattern" : Str), d_check_pattern) :: (("pattern_period" : Str), d_pattern_period) :: (("same_pattern" : Str), d_same_pattern) :: (("shortest_pattern" : Str), d_shortest_pattern) :: (("check_sightings" : Str), d_check_sightings) :: (("needs" : Str), d_needs) :: (("least_total" : Str), d_least_total) :: (("total_count" : Str), d_total_count) :: (("use_ranges" : Str), d_use_ranges) :: (("_law_well" : Str), d__law_well) :: (("_law_take" : Str), d__law_take) :: (("_law_lists_right" : Str), d__law_lists_right) :: (("_law_rest_right" : Str), d__law_rest_right) :: (("_law_long_right" : Str), d__law_long_right) :: []
def tb : MP.Tb := ⟨[("MAX_ITEMS", 10), ("MAX_USES", 60), ("MAX_HISTORY", 30), ("MAX_PATTERN", 20), ("MAX_REPEATS", 1000000000000000), ("MAX_SIGHTINGS", 6)], ("is_integer" : Str) :: ("in_range" : Str) :: ("is_item" : Str) :: ("is_list" : Str) :: ("check_list" : Str) :: ("check_target" : Str) :: ("check_uses" : Str) :: ("check_positions" : Str) :: ("check_count" : Str) :: ("to_front" : Str) :: ("after" : Str) :: ("use_all" : Str) :: ("positions_of" : Str) :: ("find_positions" : Str) :: ("items_at" : Str) :: ("uses_at" : Str) :: ("last_order" : Str) :: ("full_order" : Str) :: ("same_effect" : Str) :: ("distinguishing_list" : Str) :: ("needed_of" : Str) :: ("needed" : Str) :: ("shortest_uses" : Str) :: ("presses" : Str) :: ("fewest_presses" : Str) :: ("costs_of" : Str) :: ("pair_costs" : Str) :: ("check_files" : Str) :: ("check_both" : Str) :: ("capped" : Str) :: ("drops" : Str) :: ("distances" : Str) :: ("missing" : Str) :: ("least_cap" : Str) :: ("cap_range" : Str) :: ("partitions" : Str) :: ("count_of" : Str) :: ("history_count" : Str) :: ("is_history" : Str) :: ("history_at" : Str) :: ("history_number" : Str) :: ("surely_used" : Str) :: ("is_grouped" : Str) :: ("check_grouped" : Str) :: ("check_goal" : Str) :: ("group_of" : Str) :: ("use_one" : Str) :: ("use_grouped" : Str) :: ("plan_of" : Str) :: ("grouped_needed" : Str) :: ("grouped_uses" : Str) :: ("choose" : Str) :: ("orders_by_size" : Str) :: ("grouped_count" : Str) :: ("arranged" : Str) :: ("apply_pattern" : Str) :: ("repeat_pattern" : Str) :: ("check_pattern" : Str) :: ("pattern_period" : Str) :: ("same_pattern" : Str) :: ("shortest_pattern" : Str) :: ("check_sightings" : Str) :: ("needs" : Str) :: ("least_total" : Str) :: ("total_count" : Str) :: ("use_ranges" : Str) :: ("_law_well" : Str) :: ("_law_take" : Str) :: ("_law_lists_right" : Str) :: ("_law_rest_right" : Str) :: ("_law_long_right" : Str) :: [], ["RecentError", "InvalidList", "InvalidUses", "InvalidPositions", "InvalidCount", "InvalidSightings", "InvalidGroups"]⟩
def S (i : Nat) : Stmt := (PySem.Challenge.pw_recentlist_k20_examples_by_hand.main.body[i]?).getD (.Pass ⟨0, 0, 0, 0⟩)
def law : MP.Law := ⟨["script", "bag"], 1, .cons (.ifs (.not (.call "_law_long_right" (.bin .Add (.con (.int 2)) (.call "_law_take" (.var 1) (.cons (.con (.int 9)) .nil))) .nil)) (.cons (.ret (.con (.bool false))) .nil) .nil) .nil, .cons (.ret (.and (.call0 "_law_lists_right") (.one (.call0 "_law_rest_right")))) .nil⟩
def cf (n : Nat) : MP.CallF := MP.run L.f n
end Lk20
set_option maxHeartbeats 2000000
/-! Mk20: the examples by hand: the kernel runs the evaluator. -/
namespace Lk20
open PySem L2 MP
local macro_rules | `(tactic| walk_at "mp") => `(tactic| simp only [q_bind, q_ok, q_exc, q_none, q_ret, q_opt, q_stuck, q_view_d, q_view_fr, q_keep_d, q_keep_fr, q_lend_d, q_lend_fr, q_lend_pl, q_lend_loc, q_take_d, q_take_fr, q_retW_d, q_retW_fr, q_puts_nil, q_puts_cons, q_takes_nil, q_takes_cons, q_tgt1, q_tgtM, q_bool, q_int, q_con, q_glo, q_tup, q_lst, q_bin, q_neg, q_cmp, q_chain, q_and, q_or, q_one, q_not, q_ifx, q_idx, q_sli, q_rev, q_call, q_blt, q_lens, q_trg1, q_trg2, q_isi, q_mth, q_mthL, q_mthT, q_mthN, q_mthS, q_comp, q_no, q_yes, q_cno, q_cyes, q_es_nil, q_es, q_as_nil, q_as, q_ks_nil, q_ks, q_over, q_rng1, q_rng2, q_enum, q_zip, q_asg, q_asgT, q_par, q_setI, q_expr, q_retS, q_ifs, q_loop, q_whl, q_rai, q_brk, q_pass, q_bnil, q_bcons, q_fl_nx, q_fl_brk, q_fl_ret, q_iteM,
  s_runD, s_end_nx, s_end_ret, s_end_exc, List.replicate_succ, List.replicate_zero, Nat.reduceSub, Nat.reduceAdd, Nat.reduceLT, Nat.zero_add, not_true_eq_false, not_false_eq_true, false_and, and_false, or_true, true_or, or_false, false_or, s_var, s_look_v, s_look_l, s_look_o, s_vs_v, s_vs_o, s_view_pl, s_view_loc, s_keep_pl, s_keepS_o, s_keepS_v, s_take_pl, s_takeS_o, s_takeS_v, s_ret_pl, s_retS_o, s_retS_v, s_set_pl, s_setS_o, s_set_loc, s_put, s_call, s_callK_d, s_callK_f, s_callK_x, s_args_nil, s_args, s_arg_d, s_arg_l, s_arg_pl, s_fz_nil, s_fz_d, s_fz_l, s_fz_pl, s_frzS_o, s_frzS_v,
  fl_int, fl_bool, fl_none, fl_str, vT, vI, ti, li, okB, List.map_append, e_lnn, e_tnn, e_tnil, e_lnil, sh_tnil, sh_lnil, z_kL, z_kT, k_ne1, k_ne2, w_nil, w_cons, w_bv, w_bo, w_bu, w_bl, w_t1, w_tM, at_0, at_1, at_2, at_3, set_0, set_2, n_cell, e_int, e_bool, e_str, sh_str, e_ti, e_li, e_any, sh_ti, sh_li, sh_int, sh_bool, sh_none, f_ints, ai_map, List.length_map, q_for_nil, b_add, b_sub, b_mul, b_fdiv, b_mod, b_pow, b_catT, b_catL, b_mulL, c_lt, c_le, c_gt, c_ge, c_eq, c_ne, c_isNN, c_isNT, c_isNL, c_isB, c_inN, c_inNN, c_inNT, c_inNL, c_inT, c_inL, c_niT, c_niL, d_idxL, d_idxT, d_sliL, d_sliT, d_revL, d_revT, d_lenL, d_lenT, d_tupL, d_tupT, d_lstL, d_lstT, d_all, d_sum, d_itL, d_itT, d_cL, d_few, m_app, m_appT, m_ixT, m_ixL, m_ix, m_ixl, m_ins, m_insT, m_rem, m_remT, m_popT, m_popAT, m_pop, m_popN, m_kL, m_kT, n_int, n_bool, n_none, n_str, n_tup, n_lst, n_nil, n_cons, n_ints, y_none_I, y_none_B, y_none_T, y_none_L, y_none_S, y_none_BLT, y_bool_I, y_bool_B, y_bool_T, y_bool_L, y_bool_S, y_bool_BLT, y_int_I, y_int_B, y_int_T, y_int_L, y_int_S, y_int_BLT, y_str_I, y_str_B, y_str_T, y_str_L, y_str_S, y_str_BLT, y_list_I, y_list_B, y_list_T, y_list_L, y_list_S, y_list_BLT, y_tuple_I, y_tuple_B, y_tuple_T, y_tuple_L, y_tuple_S, y_tuple_BLT,
  List.getElem?_cons_zero, List.getElem?_cons_succ, List.set_cons_zero, List.set_cons_succ, List.length_cons, List.length_nil, Option.bind_some, Option.bind_none, Option.map_some, Option.map_none, List.map_cons, List.map_nil, List.cons_append, List.nil_append, Bool.and_true, Bool.true_and, Bool.false_and, Bool.and_false, if_true, if_false, Bool.not_true, Bool.not_false, reduceCtorEq, decide_true, decide_false, q_dnew, q_dis, q_disT, q_mm2, q_call0, q_srtT, q_srtS, d_few63, q_lzip, q_comp2, q_keys, s_lock_fr, s_lock_pl, s_lockS, d_cD, d_setK, d_setT, d_idxKT, c_inD, c_niD, m_getTT, d_idxK, d_srtL, d_srtT, d_srtK, d_int, m_getT, m_get, m_kD, q_mthK, d_lstD, if_pos, Bool.false_eq_true, true_and, and_true, *])
theorem f_well (n : Nat) : Sp_well (run L.f (n + 1) "_law_well") := by rw [q_runF rfl]; exact sp_well
theorem f_take (n : Nat) : Sp_take (run L.f (n + 1) "_law_take") := by rw [q_runF rfl]; exact sp_take
theorem well : WellOk (run L.f 60) := f_well 59
theorem lists_ok (s : List Cell) : run L.f 61 "_law_lists_right" [] s = okB true s := by kernel_rfl
theorem rest_ok (s : List Cell) : run L.f 61 "_law_rest_right" [] s = okB true s := by kernel_rfl
theorem long_2 (s : List Cell) : run L.f 61 "_law_long_right" [vI 2] s = okB true s := by kernel_rfl
theorem long_3 (s : List Cell) : run L.f 61 "_law_long_right" [vI 3] s = okB true s := by kernel_rfl
theorem long_4 (s : List Cell) : run L.f 61 "_law_long_right" [vI 4] s = okB true s := by kernel_rfl
theorem long_5 (s : List Cell) : run L.f 61 "_law_long_right" [vI 5] s = okB true s := by kernel_rfl
theorem long_6 (s : List Cell) : run L.f 61 "_law_long_right" [vI 6] s = okB true s := by kernel_rfl
theorem long_7 (s : List Cell) : run L.f 61 "_law_long_right" [vI 7] s = okB true s := by kernel_rfl
theorem long_8 (s : List Cell) : run L.f 61 "_law_long_right" [vI 8] s = okB true s := by kernel_rfl
theorem long_9 (s : List Cell) : run L.f 61 "_law_long_right" [vI 9] s = okB true s := by kernel_rfl
theorem long_10 (s : List Cell) : run L.f 61 "_law_long_right" [vI 10] s = okB true s := by kernel_rfl
theorem long_ok (c : Int) (h0 : 2 ≤ c) (h1 : c ≤ 10) (s : List Cell) : run L.f 61 "_law_long_right" [vI c] s = okB true s := by
  have h : c = 2 ∨ c = 3 ∨ c = 4 ∨ c = 5 ∨ c = 6 ∨ c = 7 ∨ c = 8 ∨ c = 9 ∨ c = 10 := by omega
  rcases h with rfl | rfl | rfl | rfl | rfl | rfl | rfl | rfl | rfl
  · exact long_2 s
  · exact long_3 s
  · exact long_4 s
  · exact long_5 s
  · exact long_6 s
  · exact long_7 s
  · exact long_8 s
  · exact long_9 s
  · exact long_10 s
theorem turn_ok (b : Bag) (hb : BagOk b) : ∃ st', exB (run L.f 61) law.body (law.st b) = some (.ok .nx st') := by
  obtain ⟨c, b2, j1, j2, j3, j4⟩ := f_take 60 b 0 9 ⟨hb.1, hb.2.1, hb.2.2.1, hb.2.2.2.1, by have := hb.2.2.2.2; show b.2.2 ≤ 1000000 + ((0 : Nat) : Int); omega⟩ (by decide) (by decide) (by decide)
  have k1 := long_ok (2 + c) (by omega) (by omega) [.lst b2.ds]
  refine ⟨⟨[.un, .loc 0], [.lst b2.ds]⟩, ?_⟩
  have hst : law.st b = ⟨[.un, .loc 0], [.lst b.ds]⟩ := rfl
  rw [hst]
  unfold law
  walk_at "mp"
theorem ans_ok : ∃ st', exB (run L.f 61) law.ret law.st1 = some (.ok (.ret (.d (.bool true))) st') := by
  have k1 := lists_ok []
  have k2 := rest_ok []
  refine ⟨⟨[.un, .un], []⟩, ?_⟩
  have hst : law.st1 = ⟨[.un, .un], []⟩ := rfl
  rw [hst]
  unfold law
  walk_at "mp"
theorem right : law.Right (run L.f 61) := ⟨turn_ok, ans_ok⟩
end Lk20
namespace Lk20
open PySem L2 MP
theorem b_is_integer : defB tb d_is_integer (S 11) = true := by decide +kernel
theorem b_in_range : defB tb d_in_range (S 12) = true := by decide +kernel
theorem b_is_item : defB tb d_is_item (S 13) = true := by decide +kernel
theorem b_is_list : defB tb d_is_list (S 14) = true := by decide +kernel
theorem b_check_list : defB tb d_check_list (S 15) = true := by decide +kernel
theorem b_check_target : defB tb d_check_target (S 16) = true := by decide +kernel
theorem b_check_uses : defB tb d_check_uses (S 17) = true := by decide +kernel
theorem b_check_positions : defB tb d_check_positions (S 18) = true := by decide +kernel
theorem b_check_count : defB tb d_check_count (S 19) = true := by decide +kernel
theorem b_to_front : defB tb d_to_front (S 20) = true := by decide +kernel
theorem b_after : defB tb d_after (S 21) = true := by decide +kernel
theorem b_use_all : defB tb d_use_all (S 22) = true := by decide +kernel
theorem b_positions_of : defB tb d_positions_of (S 23) = true := by decide +kernel
theorem b_find_positions : defB tb d_find_positions (S 24) = true := by decide +kernel
theorem b_items_at : defB tb d_items_at (S 25) = true := by decide +kernel
theorem b_uses_at : defB tb d_uses_at (S 26) = true := by decide +kernel
theorem b_last_order : defB tb d_last_order (S 27) = true := by decide +kernel
theorem b_full_order : defB tb d_full_order (S 28) = true := by decide +kernel
theorem b_same_effect : defB tb d_same_effect (S 29) = true := by decide +kernel
theorem b_distinguishing_list : defB tb d_distinguishing_list (S 30) = true := by decide +kernel
theorem b_needed_of : defB tb d_needed_of (S 32) = true := by decide +kernel
theorem b_needed : defB tb d_needed (S 33) = true := by decide +kernel
theorem b_shortest_uses : defB tb d_shortest_uses (S 34) = true := by decide +kernel
theorem b_presses : defB tb d_presses (S 35) = true := by decide +kernel
theorem b_fewest_presses : defB tb d_fewest_presses (S 36) = true := by decide +kernel
theorem b_costs_of : defB tb d_costs_of (S 37) = true := by decide +kernel
theorem b_pair_costs : defB tb d_pair_costs (S 38) = true := by decide +kernel
theorem b_check_files : defB tb d_check_files (S 40) = true := by decide +kernel
theorem b_check_both : defB tb d_check_both (S 41) = true := by decide +kernel
theorem b_capped : defB tb d_capped (S 42) = true := by decide +kernel
theorem b_drops : defB tb d_drops (S 43) = true := by decide +kernel
theorem b_distances : defB tb d_distances (S 44) = true := by decide +kernel
theorem b_missing : defB tb d_missing (S 45) = true := by decide +kernel
theorem b_least_cap : defB tb d_least_cap (S 46) = true := by decide +kernel
theorem b_cap_range : defB tb d_cap_range (S 47) = true := by decide +kernel
theorem b_partitions : defB tb d_partitions (S 50) = true := by decide +kernel
theorem b_count_of : defB tb d_count_of (S 51) = true := by decide +kernel
theorem b_history_count : defB tb d_history_count (S 52) = true := by decide +kernel
theorem b_is_history : defB tb d_is_history (S 53) = true := by decide +kernel
theorem b_history_at : defB tb d_history_at (S 54) = true := by decide +kernel
theorem b_history_number : defB tb d_history_number (S 55) = true := by decide +kernel
theorem b_surely_used : defB tb d_surely_used (S 56) = true := by decide +kernel
theorem b_is_grouped : defB tb d_is_grouped (S 58) = true := by decide +kernel
theorem b_check_grouped : defB tb d_check_grouped (S 59) = true := by decide +kernel
theorem b_check_goal : defB tb d_check_goal (S 60) = true := by decide +kernel
theorem b_group_of : defB tb d_group_of (S 61) = true := by decide +kernel
theorem b_use_one : defB tb d_use_one (S 62) = true := by decide +kernel
theorem b_use_grouped : defB tb d_use_grouped (S 63) = true := by decide +kernel
theorem b_plan_of : defB tb d_plan_of (S 64) = true := by decide +kernel
theorem b_grouped_needed : defB tb d_grouped_needed (S 65) = true := by decide +kernel
theorem b_grouped_uses : defB tb d_grouped_uses (S 66) = true := by decide +kernel
theorem b_choose : defB tb d_choose (S 67) = true := by decide +kernel
theorem b_orders_by_size : defB tb d_orders_by_size (S 68) = true := by decide +kernel
theorem b_grouped_count : defB tb d_grouped_count (S 69) = true := by decide +kernel
theorem b_arranged : defB tb d_arranged (S 73) = true := by decide +kernel
theorem b_apply_pattern : defB tb d_apply_pattern (S 74) = true := by decide +kernel
theorem b_repeat_pattern : defB tb d_repeat_pattern (S 75) = true := by decide +kernel
theorem b_check_pattern : defB tb d_check_pattern (S 76) = true := by decide +kernel
theorem b_pattern_period : defB tb d_pattern_period (S 77) = true := by decide +kernel
theorem b_same_pattern : defB tb d_same_pattern (S 78) = true := by decide +kernel
theorem b_shortest_pattern : defB tb d_shortest_pattern (S 79) = true := by decide +kernel
theorem b_check_sightings : defB tb d_check_sightings (S 82) = true := by decide +kernel
theorem b_needs : defB tb d_needs (S 83) = true := by decide +kernel
theorem b_least_total : defB tb d_least_total (S 84) = true := by decide +kernel
theorem b_total_count : defB tb d_total_count (S 85) = true := by decide +kernel
theorem b_use_ranges : defB tb d_use_ranges (S 86) = true := by decide +kernel
theorem b__law_well : defB tb d__law_well (S 88) = true := by decide +kernel
theorem b__law_take : defB tb d__law_take (S 89) = true := by decide +kernel
theorem b__law_lists_right : defB tb d__law_lists_right (S 91) = true := by decide +kernel
theorem b__law_rest_right : defB tb d__law_rest_right (S 92) = true := by decide +kernel
theorem b__law_long_right : defB tb d__law_long_right (S 93) = true := by decide +kernel
theorem t_bags : BagsTxt tb (S 90) := ⟨_, _, _, _, _, _, _, _, _, _, _, _, _, _, _, _, _, rfl, by decide +kernel⟩
theorem t_law : LawTxt tb law (S 94) := ⟨_, _, _, _, _, _, _, _, _, _, rfl, by decide +kernel⟩
end Lk20
open PySem PySem.W PyProof.Rows
set_option maxHeartbeats 0 in
theorem PySem.Challenge.cw_recentlist_k20_examples_by_hand_holds : PySem.Challenge.rw_recentlist_k20_examples_by_hand.Holds := by
  w_on; o_law; k_head; (case hw => w_witness2)
  k_fill
  refine L2.walk_of (l := PySem.Challenge.rw_recentlist_k20_examples_by_hand) (n := 63) (k := 62) (x := "script") (CX := fun w => L2.CX PySem.Challenge.rw_recentlist_k20_examples_by_hand.prog w) (sp := fun w => MP.spLaw _) rfl (by decide) rfl ⟨rfl, by decide, by decide⟩ (fun w h Y => PySem.W.kIn_of Y) ?F (fun _ _ a ns hl _ hS => ⟨a, ns, rfl, hS, by omega, fun _ => rfl⟩) (fun _ _ _ _ _ h => MP.cx_none h)
  case F =>
    intro w mg fa h KX G hmg
    have h0 : MP.DefAt (L2.KOf KX) mg "is_integer" (Lk20.S 11) ["value"] := by
      delta L2.KOf
      refine' MP.def_at KX G ?a ?l ?c ?k (fun _ _ _ _ _ _ us hl => match us, hl with | [_], _ => rfl)
      (case a => k_is); (case l => k_is); (case c => k_is); (case k => k_is)
    have h1 : MP.DefAt (L2.KOf KX) mg "in_range" (Lk20.S 12) ["value", "low", "high"] := by
      delta L2.KOf
      refine' MP.def_at KX G ?a ?l ?c ?k (fun _ _ _ _ _ _ us hl => match us, hl with | [_, _, _], _ => rfl)
      (case a => k_is); (case l => k_is); (case c => k_is); (case k => k_is)
    have h2 : MP.DefAt (L2.KOf KX) mg "is_item" (Lk20.S 13) ["value"] := by
      delta L2.KOf
      refine' MP.def_at KX G ?a ?l ?c ?k (fun _ _ _ _ _ _ us hl => match us, hl with | [_], _ => rfl)
      (case a => k_is); (case l => k_is); (case c => k_is); (case k => k_is)
    have h3 : MP.DefAt (L2.KOf KX) mg "is_list" (Lk20.S 14) ["value"] := by
      delta L2.KOf
      refine' MP.def_at KX G ?a ?l ?c ?k (fun _ _ _ _ _ _ us hl => match us, hl with | [_], _ => rfl)
      (case a => k_is); (case l => k_is); (case c => k_is); (case k => k_is)
    have h4 : MP.DefAt (L2.KOf KX) mg "check_list" (Lk20.S 15) ["items"] := by
      delta L2.KOf
      refine' MP.def_at KX G ?a ?l ?c ?k (fun _ _ _ _ _ _ us hl => match us, hl with | [_], _ => rfl)
      (case a => k_is); (case l => k_is); (case c => k_is); (case k => k_is)
    have h5 : MP.DefAt (L2.KOf KX) mg "check_target" (Lk20.S 16) ["items", "target"] := by
      delta L2.KOf
      refine' MP.def_at KX G ?a ?l ?c ?k (fun _ _ _ _ _ _ us hl => match us, hl with | [_, _], _ => rfl)
      (case a => k_is); (case l => k_is); (case c => k_is); (case k => k_is)
    have h6 : MP.DefAt (L2.KOf KX) mg "check_uses" (Lk20.S 17) ["items", "uses"] := by
      delta L2.KOf
      refine' MP.def_at KX G ?a ?l ?c ?k (fun _ _ _ _ _ _ us hl => match us, hl with | [_, _], _ => rfl)
      (case a => k_is); (case l => k_is); (case c => k_is); (case k => k_is)
    have h7 : MP.DefAt (L2.KOf KX) mg "check_positions" (Lk20.S 18) ["size", "positions", "most"] := by
      delta L2.KOf
      refine' MP.def_at KX G ?a ?l ?c ?k (fun _ _ _ _ _ _ us hl => match us, hl with | [_, _, _], _ => rfl)
      (case a => k_is); (case l => k_is); (case c => k_is); (case k => k_is)
    have h8 : MP.DefAt (L2.KOf KX) mg "check_count" (Lk20.S 19) ["value", "low", "high"] := by
      delta L2.KOf
      refine' MP.def_at KX G ?a ?l ?c ?k (fun _ _ _ _ _ _ us hl => match us, hl with | [_, _, _], _ => rfl)
      (case a => k_is); (case l => k_is); (case c => k_is); (case k => k_is)
    have h9 : MP.DefAt (L2.KOf KX) mg "to_front" (Lk20.S 20) ["items", "item"] := by
      delta L2.KOf
      refine' MP.def_at KX G ?a ?l ?c ?k (fun _ _ _ _ _ _ us hl => match us, hl with | [_, _], _ => rfl)
      (case a => k_is); (case l => k_is); (case c => k_is); (case k => k_is)
    have h10 : MP.DefAt (L2.KOf KX) mg "after" (Lk20.S 21) ["items", "uses"] := by
      delta L2.KOf
      refine' MP.def_at KX G ?a ?l ?c ?k (fun _ _ _ _ _ _ us hl => match us, hl with | [_, _], _ => rfl)
      (case a => k_is); (case l => k_is); (case c => k_is); (case k => k_is)
    have h11 : MP.DefAt (L2.KOf KX) mg "use_all" (Lk20.S 22) ["items", "uses"] := by
      delta L2.KOf
      refine' MP.def_at KX G ?a ?l ?c ?k (fun _ _ _ _ _ _ us hl => match us, hl with | [_, _], _ => rfl)
      (case a => k_is); (case l => k_is); (case c => k_is); (case k => k_is)
    have h12 : MP.DefAt (L2.KOf KX) mg "positions_of" (Lk20.S 23) ["items", "uses"] := by
      delta L2.KOf
      refine' MP.def_at KX G ?a ?l ?c ?k (fun _ _ _ _ _ _ us hl => match us, hl with | [_, _], _ => rfl)
      (case a => k_is); (case l => k_is); (case c => k_is); (case k => k_is)
    have h13 : MP.DefAt (L2.KOf KX) mg "find_positions" (Lk20.S 24) ["items", "uses"] := by
      delta L2.KOf
      refine' MP.def_at KX G ?a ?l ?c ?k (fun _ _ _ _ _ _ us hl => match us, hl with | [_, _], _ => rfl)
      (case a => k_is); (case l => k_is); (case c => k_is); (case k => k_is)
    have h14 : MP.DefAt (L2.KOf KX) mg "items_at" (Lk20.S 25) ["items", "positions"] := by
      delta L2.KOf
      refine' MP.def_at KX G ?a ?l ?c ?k (fun _ _ _ _ _ _ us hl => match us, hl with | [_, _], _ => rfl)
      (case a => k_is); (case l => k_is); (case c => k_is); (case k => k_is)
    have h15 : MP.DefAt (L2.KOf KX) mg "uses_at" (Lk20.S 26) ["items", "positions"] := by
      delta L2.KOf
      refine' MP.def_at KX G ?a ?l ?c ?k (fun _ _ _ _ _ _ us hl => match us, hl with | [_, _], _ => rfl)
      (case a => k_is); (case l => k_is); (case c => k_is); (case k => k_is)
    have h16 : MP.DefAt (L2.KOf KX) mg "last_order" (Lk20.S 27) ["uses"] := by
      delta L2.KOf
      refine' MP.def_at KX G ?a ?l ?c ?k (fun _ _ _ _ _ _ us hl => match us, hl with | [_], _ => rfl)
      (case a => k_is); (case l => k_is); (case c => k_is); (case k => k_is)
    have h17 : MP.DefAt (L2.KOf KX) mg "full_order" (Lk20.S 28) ["items", "uses"] := by
      delta L2.KOf
      refine' MP.def_at KX G ?a ?l ?c ?k (fun _ _ _ _ _ _ us hl => match us, hl with | [_, _], _ => rfl)
      (case a => k_is); (case l => k_is); (case c => k_is); (case k => k_is)
    have h18 : MP.DefAt (L2.KOf KX) mg "same_effect" (Lk20.S 29) ["items", "first", "second"] := by
      delta L2.KOf
      refine' MP.def_at KX G ?a ?l ?c ?k (fun _ _ _ _ _ _ us hl => match us, hl with | [_, _, _], _ => rfl)
      (case a => k_is); (case l => k_is); (case c => k_is); (case k => k_is)
    have h19 : MP.DefAt (L2.KOf KX) mg "distinguishing_list" (Lk20.S 30) ["items", "first", "second"] := by
      delta L2.KOf
      refine' MP.def_at KX G ?a ?l ?c ?k (fun _ _ _ _ _ _ us hl => match us, hl with | [_, _, _], _ => rfl)
      (case a => k_is); (case l => k_is); (case c => k_is); (case k => k_is)
    have h20 : MP.DefAt (L2.KOf KX) mg "needed_of" (Lk20.S 32) ["items", "target"] := by
      delta L2.KOf
      refine' MP.def_at KX G ?a ?l ?c ?k (fun _ _ _ _ _ _ us hl => match us, hl with | [_, _], _ => rfl)
      (case a => k_is); (case l => k_is); (case c => k_is); (case k => k_is)
    have h21 : MP.DefAt (L2.KOf KX) mg "needed" (Lk20.S 33) ["items", "target"] := by
      delta L2.KOf
      refine' MP.def_at KX G ?a ?l ?c ?k (fun _ _ _ _ _ _ us hl => match us, hl with | [_, _], _ => rfl)
      (case a => k_is); (case l => k_is); (case c => k_is); (case k => k_is)
    have h22 : MP.DefAt (L2.KOf KX) mg "shortest_uses" (Lk20.S 34) ["items", "target"] := by
      delta L2.KOf
      refine' MP.def_at KX G ?a ?l ?c ?k (fun _ _ _ _ _ _ us hl => match us, hl with | [_, _], _ => rfl)
      (case a => k_is); (case l => k_is); (case c => k_is); (case k => k_is)
    have h23 : MP.DefAt (L2.KOf KX) mg "presses" (Lk20.S 35) ["items", "uses"] := by
      delta L2.KOf
      refine' MP.def_at KX G ?a ?l ?c ?k (fun _ _ _ _ _ _ us hl => match us, hl with | [_, _], _ => rfl)
      (case a => k_is); (case l => k_is); (case c => k_is); (case k => k_is)
    have h24 : MP.DefAt (L2.KOf KX) mg "fewest_presses" (Lk20.S 36) ["items", "target"] := by
      delta L2.KOf
      refine' MP.def_at KX G ?a ?l ?c ?k (fun _ _ _ _ _ _ us hl => match us, hl with | [_, _], _ => rfl)
      (case a => k_is); (case l => k_is); (case c => k_is); (case k => k_is)
    have h25 : MP.DefAt (L2.KOf KX) mg "costs_of" (Lk20.S 37) ["items", "target"] := by
      delta L2.KOf
      refine' MP.def_at KX G ?a ?l ?c ?k (fun _ _ _ _ _ _ us hl => match us, hl with | [_, _], _ => rfl)
      (case a => k_is); (case l => k_is); (case c => k_is); (case k => k_is)
    have h26 : MP.DefAt (L2.KOf KX) mg "pair_costs" (Lk20.S 38) ["items", "target"] := by
      delta L2.KOf
      refine' MP.def_at KX G ?a ?l ?c ?k (fun _ _ _ _ _ _ us hl => match us, hl with | [_, _], _ => rfl)
      (case a => k_is); (case l => k_is); (case c => k_is); (case k => k_is)
    have h27 : MP.DefAt (L2.KOf KX) mg "check_files" (Lk20.S 40) ["uses"] := by
      delta L2.KOf
      refine' MP.def_at KX G ?a ?l ?c ?k (fun _ _ _ _ _ _ us hl => match us, hl with | [_], _ => rfl)
      (case a => k_is); (case l => k_is); (case c => k_is); (case k => k_is)
    have h28 : MP.DefAt (L2.KOf KX) mg "check_both" (Lk20.S 41) ["uses", "cap"] := by
      delta L2.KOf
      refine' MP.def_at KX G ?a ?l ?c ?k (fun _ _ _ _ _ _ us hl => match us, hl with | [_, _], _ => rfl)
      (case a => k_is); (case l => k_is); (case c => k_is); (case k => k_is)
    have h29 : MP.DefAt (L2.KOf KX) mg "capped" (Lk20.S 42) ["uses", "cap"] := by
      delta L2.KOf
      refine' MP.def_at KX G ?a ?l ?c ?k (fun _ _ _ _ _ _ us hl => match us, hl with | [_, _], _ => rfl)
      (case a => k_is); (case l => k_is); (case c => k_is); (case k => k_is)
    have h30 : MP.DefAt (L2.KOf KX) mg "drops" (Lk20.S 43) ["uses", "cap"] := by
      delta L2.KOf
      refine' MP.def_at KX G ?a ?l ?c ?k (fun _ _ _ _ _ _ us hl => match us, hl with | [_, _], _ => rfl)
      (case a => k_is); (case l => k_is); (case c => k_is); (case k => k_is)
    have h31 : MP.DefAt (L2.KOf KX) mg "distances" (Lk20.S 44) ["uses"] := by
      delta L2.KOf
      refine' MP.def_at KX G ?a ?l ?c ?k (fun _ _ _ _ _ _ us hl => match us, hl with | [_], _ => rfl)
      (case a => k_is); (case l => k_is); (case c => k_is); (case k => k_is)
    have h32 : MP.DefAt (L2.KOf KX) mg "missing" (Lk20.S 45) ["uses", "cap"] := by
      delta L2.KOf
      refine' MP.def_at KX G ?a ?l ?c ?k (fun _ _ _ _ _ _ us hl => match us, hl with | [_, _], _ => rfl)
      (case a => k_is); (case l => k_is); (case c => k_is); (case k => k_is)
    have h33 : MP.DefAt (L2.KOf KX) mg "least_cap" (Lk20.S 46) ["uses"] := by
      delta L2.KOf
      refine' MP.def_at KX G ?a ?l ?c ?k (fun _ _ _ _ _ _ us hl => match us, hl with | [_], _ => rfl)
      (case a => k_is); (case l => k_is); (case c => k_is); (case k => k_is)
    have h34 : MP.DefAt (L2.KOf KX) mg "cap_range" (Lk20.S 47) ["uses", "items"] := by
      delta L2.KOf
      refine' MP.def_at KX G ?a ?l ?c ?k (fun _ _ _ _ _ _ us hl => match us, hl with | [_, _], _ => rfl)
      (case a => k_is); (case l => k_is); (case c => k_is); (case k => k_is)
    have h35 : MP.DefAt (L2.KOf KX) mg "partitions" (Lk20.S 50) ["count", "parts"] := by
      delta L2.KOf
      refine' MP.def_at KX G ?a ?l ?c ?k (fun _ _ _ _ _ _ us hl => match us, hl with | [_, _], _ => rfl)
      (case a => k_is); (case l => k_is); (case c => k_is); (case k => k_is)
    have h36 : MP.DefAt (L2.KOf KX) mg "count_of" (Lk20.S 51) ["items", "target", "number"] := by
      delta L2.KOf
      refine' MP.def_at KX G ?a ?l ?c ?k (fun _ _ _ _ _ _ us hl => match us, hl with | [_, _, _], _ => rfl)
      (case a => k_is); (case l => k_is); (case c => k_is); (case k => k_is)
    have h37 : MP.DefAt (L2.KOf KX) mg "history_count" (Lk20.S 52) ["items", "target", "number"] := by
      delta L2.KOf
      refine' MP.def_at KX G ?a ?l ?c ?k (fun _ _ _ _ _ _ us hl => match us, hl with | [_, _, _], _ => rfl)
      (case a => k_is); (case l => k_is); (case c => k_is); (case k => k_is)
    have h38 : MP.DefAt (L2.KOf KX) mg "is_history" (Lk20.S 53) ["items", "target", "uses"] := by
      delta L2.KOf
      refine' MP.def_at KX G ?a ?l ?c ?k (fun _ _ _ _ _ _ us hl => match us, hl with | [_, _, _], _ => rfl)
      (case a => k_is); (case l => k_is); (case c => k_is); (case k => k_is)
    have h39 : MP.DefAt (L2.KOf KX) mg "history_at" (Lk20.S 54) ["items", "target", "number", "place"] := by
      delta L2.KOf
      refine' MP.def_at KX G ?a ?l ?c ?k (fun _ _ _ _ _ _ us hl => match us, hl with | [_, _, _, _], _ => rfl)
      (case a => k_is); (case l => k_is); (case c => k_is); (case k => k_is)
    have h40 : MP.DefAt (L2.KOf KX) mg "history_number" (Lk20.S 55) ["items", "target", "uses"] := by
      delta L2.KOf
      refine' MP.def_at KX G ?a ?l ?c ?k (fun _ _ _ _ _ _ us hl => match us, hl with | [_, _, _], _ => rfl)
      (case a => k_is); (case l => k_is); (case c => k_is); (case k => k_is)
    have h41 : MP.DefAt (L2.KOf KX) mg "surely_used" (Lk20.S 56) ["items", "target"] := by
      delta L2.KOf
      refine' MP.def_at KX G ?a ?l ?c ?k (fun _ _ _ _ _ _ us hl => match us, hl with | [_, _], _ => rfl)
      (case a => k_is); (case l => k_is); (case c => k_is); (case k => k_is)
    have h42 : MP.DefAt (L2.KOf KX) mg "is_grouped" (Lk20.S 58) ["value"] := by
      delta L2.KOf
      refine' MP.def_at KX G ?a ?l ?c ?k (fun _ _ _ _ _ _ us hl => match us, hl with | [_], _ => rfl)
      (case a => k_is); (case l => k_is); (case c => k_is); (case k => k_is)
    have h43 : MP.DefAt (L2.KOf KX) mg "check_grouped" (Lk20.S 59) ["grouped"] := by
      delta L2.KOf
      refine' MP.def_at KX G ?a ?l ?c ?k (fun _ _ _ _ _ _ us hl => match us, hl with | [_], _ => rfl)
      (case a => k_is); (case l => k_is); (case c => k_is); (case k => k_is)
    have h44 : MP.DefAt (L2.KOf KX) mg "check_goal" (Lk20.S 60) ["grouped", "target"] := by
      delta L2.KOf
      refine' MP.def_at KX G ?a ?l ?c ?k (fun _ _ _ _ _ _ us hl => match us, hl with | [_, _], _ => rfl)
      (case a => k_is); (case l => k_is); (case c => k_is); (case k => k_is)
    have h45 : MP.DefAt (L2.KOf KX) mg "group_of" (Lk20.S 61) ["grouped", "item"] := by
      delta L2.KOf
      refine' MP.def_at KX G ?a ?l ?c ?k (fun _ _ _ _ _ _ us hl => match us, hl with | [_, _], _ => rfl)
      (case a => k_is); (case l => k_is); (case c => k_is); (case k => k_is)
    have h46 : MP.DefAt (L2.KOf KX) mg "use_one" (Lk20.S 62) ["grouped", "item"] := by
      delta L2.KOf
      refine' MP.def_at KX G ?a ?l ?c ?k (fun _ _ _ _ _ _ us hl => match us, hl with | [_, _], _ => rfl)
      (case a => k_is); (case l => k_is); (case c => k_is); (case k => k_is)
    have h47 : MP.DefAt (L2.KOf KX) mg "use_grouped" (Lk20.S 63) ["grouped", "uses"] := by
      delta L2.KOf
      refine' MP.def_at KX G ?a ?l ?c ?k (fun _ _ _ _ _ _ us hl => match us, hl with | [_, _], _ => rfl)
      (case a => k_is); (case l => k_is); (case c => k_is); (case k => k_is)
    have h48 : MP.DefAt (L2.KOf KX) mg "plan_of" (Lk20.S 64) ["grouped", "target"] := by
      delta L2.KOf
      refine' MP.def_at KX G ?a ?l ?c ?k (fun _ _ _ _ _ _ us hl => match us, hl with | [_, _], _ => rfl)
      (case a => k_is); (case l => k_is); (case c => k_is); (case k => k_is)
    have h49 : MP.DefAt (L2.KOf KX) mg "grouped_needed" (Lk20.S 65) ["grouped", "target"] := by
      delta L2.KOf
      refine' MP.def_at KX G ?a ?l ?c ?k (fun _ _ _ _ _ _ us hl => match us, hl with | [_, _], _ => rfl)
      (case a => k_is); (case l => k_is); (case c => k_is); (case k => k_is)
    have h50 : MP.DefAt (L2.KOf KX) mg "grouped_uses" (Lk20.S 66) ["grouped", "target"] := by
      delta L2.KOf
      refine' MP.def_at KX G ?a ?l ?c ?k (fun _ _ _ _ _ _ us hl => match us, hl with | [_, _], _ => rfl)
      (case a => k_is); (case l => k_is); (case c => k_is); (case k => k_is)
    have h51 : MP.DefAt (L2.KOf KX) mg "choose" (Lk20.S 67) ["count", "part"] := by
      delta L2.KOf
      refine' MP.def_at KX G ?a ?l ?c ?k (fun _ _ _ _ _ _ us hl => match us, hl with | [_, _], _ => rfl)
      (case a => k_is); (case l => k_is); (case c => k_is); (case k => k_is)
    have h52 : MP.DefAt (L2.KOf KX) mg "orders_by_size" (Lk20.S 68) ["target", "used", "counts"] := by
      delta L2.KOf
      refine' MP.def_at KX G ?a ?l ?c ?k (fun _ _ _ _ _ _ us hl => match us, hl with | [_, _, _], _ => rfl)
      (case a => k_is); (case l => k_is); (case c => k_is); (case k => k_is)
    have h53 : MP.DefAt (L2.KOf KX) mg "grouped_count" (Lk20.S 69) ["grouped", "target", "number"] := by
      delta L2.KOf
      refine' MP.def_at KX G ?a ?l ?c ?k (fun _ _ _ _ _ _ us hl => match us, hl with | [_, _, _], _ => rfl)
      (case a => k_is); (case l => k_is); (case c => k_is); (case k => k_is)
    have h54 : MP.DefAt (L2.KOf KX) mg "arranged" (Lk20.S 73) ["size", "pattern"] := by
      delta L2.KOf
      refine' MP.def_at KX G ?a ?l ?c ?k (fun _ _ _ _ _ _ us hl => match us, hl with | [_, _], _ => rfl)
      (case a => k_is); (case l => k_is); (case c => k_is); (case k => k_is)
    have h55 : MP.DefAt (L2.KOf KX) mg "apply_pattern" (Lk20.S 74) ["items", "pattern"] := by
      delta L2.KOf
      refine' MP.def_at KX G ?a ?l ?c ?k (fun _ _ _ _ _ _ us hl => match us, hl with | [_, _], _ => rfl)
      (case a => k_is); (case l => k_is); (case c => k_is); (case k => k_is)
    have h56 : MP.DefAt (L2.KOf KX) mg "repeat_pattern" (Lk20.S 75) ["items", "pattern", "count"] := by
      delta L2.KOf
      refine' MP.def_at KX G ?a ?l ?c ?k (fun _ _ _ _ _ _ us hl => match us, hl with | [_, _, _], _ => rfl)
      (case a => k_is); (case l => k_is); (case c => k_is); (case k => k_is)
    have h57 : MP.DefAt (L2.KOf KX) mg "check_pattern" (Lk20.S 76) ["size", "pattern"] := by
      delta L2.KOf
      refine' MP.def_at KX G ?a ?l ?c ?k (fun _ _ _ _ _ _ us hl => match us, hl with | [_, _], _ => rfl)
      (case a => k_is); (case l => k_is); (case c => k_is); (case k => k_is)
    have h58 : MP.DefAt (L2.KOf KX) mg "pattern_period" (Lk20.S 77) ["size", "pattern"] := by
      delta L2.KOf
      refine' MP.def_at KX G ?a ?l ?c ?k (fun _ _ _ _ _ _ us hl => match us, hl with | [_, _], _ => rfl)
      (case a => k_is); (case l => k_is); (case c => k_is); (case k => k_is)
    have h59 : MP.DefAt (L2.KOf KX) mg "same_pattern" (Lk20.S 78) ["size", "first", "second"] := by
      delta L2.KOf
      refine' MP.def_at KX G ?a ?l ?c ?k (fun _ _ _ _ _ _ us hl => match us, hl with | [_, _, _], _ => rfl)
      (case a => k_is); (case l => k_is); (case c => k_is); (case k => k_is)
    have h60 : MP.DefAt (L2.KOf KX) mg "shortest_pattern" (Lk20.S 79) ["size", "pattern"] := by
      delta L2.KOf
      refine' MP.def_at KX G ?a ?l ?c ?k (fun _ _ _ _ _ _ us hl => match us, hl with | [_, _], _ => rfl)
      (case a => k_is); (case l => k_is); (case c => k_is); (case k => k_is)
    have h61 : MP.DefAt (L2.KOf KX) mg "check_sightings" (Lk20.S 82) ["sightings"] := by
      delta L2.KOf
      refine' MP.def_at KX G ?a ?l ?c ?k (fun _ _ _ _ _ _ us hl => match us, hl with | [_], _ => rfl)
      (case a => k_is); (case l => k_is); (case c => k_is); (case k => k_is)
    have h62 : MP.DefAt (L2.KOf KX) mg "needs" (Lk20.S 83) ["sightings"] := by
      delta L2.KOf
      refine' MP.def_at KX G ?a ?l ?c ?k (fun _ _ _ _ _ _ us hl => match us, hl with | [_], _ => rfl)
      (case a => k_is); (case l => k_is); (case c => k_is); (case k => k_is)
    have h63 : MP.DefAt (L2.KOf KX) mg "least_total" (Lk20.S 84) ["sightings"] := by
      delta L2.KOf
      refine' MP.def_at KX G ?a ?l ?c ?k (fun _ _ _ _ _ _ us hl => match us, hl with | [_], _ => rfl)
      (case a => k_is); (case l => k_is); (case c => k_is); (case k => k_is)
    have h64 : MP.DefAt (L2.KOf KX) mg "total_count" (Lk20.S 85) ["sightings", "number"] := by
      delta L2.KOf
      refine' MP.def_at KX G ?a ?l ?c ?k (fun _ _ _ _ _ _ us hl => match us, hl with | [_, _], _ => rfl)
      (case a => k_is); (case l => k_is); (case c => k_is); (case k => k_is)
    have h65 : MP.DefAt (L2.KOf KX) mg "use_ranges" (Lk20.S 86) ["sightings", "number"] := by
      delta L2.KOf
      refine' MP.def_at KX G ?a ?l ?c ?k (fun _ _ _ _ _ _ us hl => match us, hl with | [_, _], _ => rfl)
      (case a => k_is); (case l => k_is); (case c => k_is); (case k => k_is)
    have h66 : MP.DefAt (L2.KOf KX) mg "_law_well" (Lk20.S 88) ["cell", "turn"] := by
      delta L2.KOf
      refine' MP.def_at KX G ?a ?l ?c ?k (fun _ _ _ _ _ _ us hl => match us, hl with | [_, _], _ => rfl)
      (case a => k_is); (case l => k_is); (case c => k_is); (case k => k_is)
    have h67 : MP.DefAt (L2.KOf KX) mg "_law_take" (Lk20.S 89) ["bag", "many"] := by
      delta L2.KOf
      refine' MP.def_at KX G ?a ?l ?c ?k (fun _ _ _ _ _ _ us hl => match us, hl with | [_, _], _ => rfl)
      (case a => k_is); (case l => k_is); (case c => k_is); (case k => k_is)
    have h68 : MP.DefAt (L2.KOf KX) mg "_law_bags" (Lk20.S 90) ["script", "most"] := by
      delta L2.KOf
      refine' MP.def_at KX G ?a ?l ?c ?k (fun _ _ _ _ _ _ us hl => match us, hl with | [_, _], _ => rfl)
      (case a => k_is); (case l => k_is); (case c => k_is); (case k => k_is)
    have h69 : MP.DefAt (L2.KOf KX) mg "_law_lists_right" (Lk20.S 91) [] := by
      delta L2.KOf
      refine' MP.def_at KX G ?a ?l ?c ?k (fun _ _ _ _ _ _ us hl => match us, hl with | [], _ => rfl)
      (case a => k_is); (case l => k_is); (case c => k_is); (case k => k_is)
    have h70 : MP.DefAt (L2.KOf KX) mg "_law_rest_right" (Lk20.S 92) [] := by
      delta L2.KOf
      refine' MP.def_at KX G ?a ?l ?c ?k (fun _ _ _ _ _ _ us hl => match us, hl with | [], _ => rfl)
      (case a => k_is); (case l => k_is); (case c => k_is); (case k => k_is)
    have h71 : MP.DefAt (L2.KOf KX) mg "_law_long_right" (Lk20.S 93) ["count"] := by
      delta L2.KOf
      refine' MP.def_at KX G ?a ?l ?c ?k (fun _ _ _ _ _ _ us hl => match us, hl with | [_], _ => rfl)
      (case a => k_is); (case l => k_is); (case c => k_is); (case k => k_is)
    have h72 : MP.DefAt (L2.KOf KX) mg "law" (Lk20.S 94) ["script"] := by
      delta L2.KOf
      refine' MP.def_at KX G ?a ?l ?c ?k (fun _ _ _ _ _ _ us hl => match us, hl with | [_], _ => rfl)
      (case a => k_is); (case l => k_is); (case c => k_is); (case k => k_is)
    have e0 : ∃ C, MP.ExcAt (L2.KOf KX) mg "RecentError" C := by
      delta L2.KOf
      refine' ⟨_, MP.exc_at KX G ?a ?x ?k ?b ?t⟩
      (case a => k_is); (case x => k_exc); (case k => k_is); (case b => k_is); (case t => k_is)
    have e1 : ∃ C, MP.ExcAt (L2.KOf KX) mg "InvalidList" C := by
      delta L2.KOf
      refine' ⟨_, MP.exc_at KX G ?a ?x ?k ?b ?t⟩
      (case a => k_is); (case x => k_exc); (case k => k_is); (case b => k_is); (case t => k_is)
    have e2 : ∃ C, MP.ExcAt (L2.KOf KX) mg "InvalidUses" C := by
      delta L2.KOf
      refine' ⟨_, MP.exc_at KX G ?a ?x ?k ?b ?t⟩
      (case a => k_is); (case x => k_exc); (case k => k_is); (case b => k_is); (case t => k_is)
    have e3 : ∃ C, MP.ExcAt (L2.KOf KX) mg "InvalidPositions" C := by
      delta L2.KOf
      refine' ⟨_, MP.exc_at KX G ?a ?x ?k ?b ?t⟩
      (case a => k_is); (case x => k_exc); (case k => k_is); (case b => k_is); (case t => k_is)
    have e4 : ∃ C, MP.ExcAt (L2.KOf KX) mg "InvalidCount" C := by
      delta L2.KOf
      refine' ⟨_, MP.exc_at KX G ?a ?x ?k ?b ?t⟩
      (case a => k_is); (case x => k_exc); (case k => k_is); (case b => k_is); (case t => k_is)
    have e5 : ∃ C, MP.ExcAt (L2.KOf KX) mg "InvalidSightings" C := by
      delta L2.KOf
      refine' ⟨_, MP.exc_at KX G ?a ?x ?k ?b ?t⟩
      (case a => k_is); (case x => k_exc); (case k => k_is); (case b => k_is); (case t => k_is)
    have e6 : ∃ C, MP.ExcAt (L2.KOf KX) mg "InvalidGroups" C := by
      delta L2.KOf
      refine' ⟨_, MP.exc_at KX G ?a ?x ?k ?b ?t⟩
      (case a => k_is); (case x => k_exc); (case k => k_is); (case b => k_is); (case t => k_is)
    have g0 : ∃ t, mg "MAX_ITEMS" = some (.int 10 t) := by
      refine' MP.glo_at KX G ?a ?e
      (case a => k_is); (case e => exact ⟨_, rfl⟩)
    have g1 : ∃ t, mg "MAX_USES" = some (.int 60 t) := by
      refine' MP.glo_at KX G ?a ?e
      (case a => k_is); (case e => exact ⟨_, rfl⟩)
    have g2 : ∃ t, mg "MAX_HISTORY" = some (.int 30 t) := by
      refine' MP.glo_at KX G ?a ?e
      (case a => k_is); (case e => exact ⟨_, rfl⟩)
    have g3 : ∃ t, mg "MAX_PATTERN" = some (.int 20 t) := by
      refine' MP.glo_at KX G ?a ?e
      (case a => k_is); (case e => exact ⟨_, rfl⟩)
    have g4 : ∃ t, mg "MAX_REPEATS" = some (.int 1000000000000000 t) := by
      refine' MP.glo_at KX G ?a ?e
      (case a => k_is); (case e => exact ⟨_, rfl⟩)
    have g5 : ∃ t, mg "MAX_SIGHTINGS" = some (.int 6 t) := by
      refine' MP.glo_at KX G ?a ?e
      (case a => k_is); (case e => exact ⟨_, rfl⟩)
    have z0 : mg "len" = none := by
      refine' PySem.W.mg_none_of KX G ?a
      (case a => k_is)
    have z1 : mg "sum" = none := by
      refine' PySem.W.mg_none_of KX G ?a
      (case a => k_is)
    have z2 : mg "max" = none := by
      refine' PySem.W.mg_none_of KX G ?a
      (case a => k_is)
    have z3 : mg "min" = none := by
      refine' PySem.W.mg_none_of KX G ?a
      (case a => k_is)
    have z4 : mg "all" = none := by
      refine' PySem.W.mg_none_of KX G ?a
      (case a => k_is)
    have z5 : mg "sorted" = none := by
      refine' PySem.W.mg_none_of KX G ?a
      (case a => k_is)
    have z6 : mg "list" = none := by
      refine' PySem.W.mg_none_of KX G ?a
      (case a => k_is)
    have z7 : mg "tuple" = none := by
      refine' PySem.W.mg_none_of KX G ?a
      (case a => k_is)
    have z8 : mg "int" = none := by
      refine' PySem.W.mg_none_of KX G ?a
      (case a => k_is)
    have z9 : mg "set" = none := by
      refine' PySem.W.mg_none_of KX G ?a
      (case a => k_is)
    have z10 : mg "range" = none := by
      refine' PySem.W.mg_none_of KX G ?a
      (case a => k_is)
    have z11 : mg "isinstance" = none := by
      refine' PySem.W.mg_none_of KX G ?a
      (case a => k_is)
    have z12 : mg "enumerate" = none := by
      refine' PySem.W.mg_none_of KX G ?a
      (case a => k_is)
    have z13 : mg "zip" = none := by
      refine' PySem.W.mg_none_of KX G ?a
      (case a => k_is)
    have z14 : mg "bool" = none := by
      refine' PySem.W.mg_none_of KX G ?a
      (case a => k_is)
    have z15 : mg "str" = none := by
      refine' PySem.W.mg_none_of KX G ?a
      (case a => k_is)
    exact MP.law_fin (n := 60) (MP.prg_of (.cons h0 Lk20.b_is_integer (.cons h1 Lk20.b_in_range (.cons h2 Lk20.b_is_item (.cons h3 Lk20.b_is_list (.cons h4 Lk20.b_check_list (.cons h5 Lk20.b_check_target (.cons h6 Lk20.b_check_uses (.cons h7 Lk20.b_check_positions (.cons h8 Lk20.b_check_count (.cons h9 Lk20.b_to_front (.cons h10 Lk20.b_after (.cons h11 Lk20.b_use_all (.cons h12 Lk20.b_positions_of (.cons h13 Lk20.b_find_positions (.cons h14 Lk20.b_items_at (.cons h15 Lk20.b_uses_at (.cons h16 Lk20.b_last_order (.cons h17 Lk20.b_full_order (.cons h18 Lk20.b_same_effect (.cons h19 Lk20.b_distinguishing_list (.cons h20 Lk20.b_needed_of (.cons h21 Lk20.b_needed (.cons h22 Lk20.b_shortest_uses (.cons h23 Lk20.b_presses (.cons h24 Lk20.b_fewest_presses (.cons h25 Lk20.b_costs_of (.cons h26 Lk20.b_pair_costs (.cons h27 Lk20.b_check_files (.cons h28 Lk20.b_check_both (.cons h29 Lk20.b_capped (.cons h30 Lk20.b_drops (.cons h31 Lk20.b_distances (.cons h32 Lk20.b_missing (.cons h33 Lk20.b_least_cap (.cons h34 Lk20.b_cap_range (.cons h35 Lk20.b_partitions (.cons h36 Lk20.b_count_of (.cons h37 Lk20.b_history_count (.cons h38 Lk20.b_is_history (.cons h39 Lk20.b_history_at (.cons h40 Lk20.b_history_number (.cons h41 Lk20.b_surely_used (.cons h42 Lk20.b_is_grouped (.cons h43 Lk20.b_check_grouped (.cons h44 Lk20.b_check_goal (.cons h45 Lk20.b_group_of (.cons h46 Lk20.b_use_one (.cons h47 Lk20.b_use_grouped (.cons h48 Lk20.b_plan_of (.cons h49 Lk20.b_grouped_needed (.cons h50 Lk20.b_grouped_uses (.cons h51 Lk20.b_choose (.cons h52 Lk20.b_orders_by_size (.cons h53 Lk20.b_grouped_count (.cons h54 Lk20.b_arranged (.cons h55 Lk20.b_apply_pattern (.cons h56 Lk20.b_repeat_pattern (.cons h57 Lk20.b_check_pattern (.cons h58 Lk20.b_pattern_period (.cons h59 Lk20.b_same_pattern (.cons h60 Lk20.b_shortest_pattern (.cons h61 Lk20.b_check_sightings (.cons h62 Lk20.b_needs (.cons h63 Lk20.b_least_total (.cons h64 Lk20.b_total_count (.cons h65 Lk20.b_use_ranges (.cons h66 Lk20.b__law_well (.cons h67 Lk20.b__law_take (.cons h69 Lk20.b__law_lists_right (.cons h70 Lk20.b__law_rest_right (.cons h71 Lk20.b__law_long_right .nil))))))))))))))))))))))))))))))))))))))))))))))))))))))))))))))))))))))) (by decide +kernel) (.cons g0 (.cons g1 (.cons g2 (.cons g3 (.cons g4 (.cons g5 .nil)))))) (.cons z0 (.cons z1 (.cons z2 (.cons z3 (.cons z4 (.cons z5 (.cons z6 (.cons z7 (.cons z8 (.cons z9 (.cons z10 (.cons z11 (.cons z12 (.cons z13 (.cons z14 (.cons z15 .nil)))))))))))))))) (.cons e0 (.cons e1 (.cons e2 (.cons e3 (.cons e4 (.cons e5 (.cons e6 .nil)))))))) hmg h72 h68 Lk20.t_bags Lk20.t_law Lk20.well Lk20.right
