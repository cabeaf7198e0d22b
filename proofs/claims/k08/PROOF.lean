import PyProof.Rows.All
import HandS.ForMost
import HandS.Walk
import HandS.TupAny
import HandS.Strs
import HandS.StrMore
import HandS.Flow
import HandS.Defaults
import HandS.NoneIn
import HandS.IsInst
import HandS.Exc
import HandS.ExcOwn
import HandS.TryOnly
import HandS.TryMany
import HandS.FStr
import HandS.SortInts
import HandS.Lambda
import HandS.Style
import HandS.Conv
import KE.GoesNew
import HandS.SetFor
import HandS.More
import HandS.Head0
import HandS.Head1
import HandS.Head2
import HandS.HeadEnd
import HandS.HeadHook1
import HandS.HeadHook2
import HandS.HeadHook3
import HandS.HeadHook4
import HandS.Ends
import HandS.Codes
import PySem.Challenge.RW_sweepwarrant_k08_statuses_groups
set_option Elab.async false
set_option maxRecDepth 100000
set_option maxHeartbeats 0
set_option linter.all false

/-! A tree evaluator for a part of Python, and its tie to the hand layer: data are trees (PyData); what is changed
stands in cells of a store, or belongs to one name. -/
namespace Tr
open PySem L2
open PySem.Spec PyProof.Rows

mutual
/-- a datum; a cell of the store; a tuple with cells in it; what one name alone has; a caught exception -/
inductive A where
  | val (d : PyData)
  | ref (n : Nat)
  | tup (as : List A)
  | own (c : Cell)
  | exn (k : Nat) (d : PyData)
/-- a list of data, of anything, a dict, an instance of the k-th class; a cell that is given up -/
inductive Cell where
  | lst (ds : List PyData)
  | refs (as : List A)
  | dct (kvs : List (PyData × PyData))
  | inst (k : Nat) (fs : List (Str × A))
  | dead
end
abbrev Store := List Cell

/-- the end of an expression: a value; an exception of the k-th class with its field -/
inductive R (α : Type) where
  | ok (a : α) (S : Store)
  | exc (k : Nat) (d : PyData) (S : Store)
  | err
namespace R
def bind {α β : Type} (r : R α) (f : α → Store → R β) : R β := match r with
  | .ok a S => f a S
  | .exc k d S => .exc k d S
  | .err => .err
def lift {α : Type} (o : Option α) (S : Store) : R α := match o with
  | some a => .ok a S
  | none => .err
/-- no exception leaves it -/
def noX {α : Type} (r : R α) : R α := match r with
  | .exc _ _ _ => .err
  | r => r
end R

inductive BOp where
  | add | sub | mul | fdiv | mod | pow
  deriving DecidableEq
inductive COp where
  | eq | ne | lt | le | gt | ge | inn | nin
  deriving DecidableEq
/-- built-in functions of values -/
inductive BF where
  | abs | int | str | max2 | min2 | tuple | list | all | any | repr | sum | sorted | maxL | minL
  | isInst (t : String)
  deriving DecidableEq
/-- methods of texts, tuples, dicts -/
inductive MF where
  | removesuffix | endswith | startswith | join | split | index | get2
  deriving DecidableEq

mutual
inductive Ex where
  | var (i : Nat)
  | own (i : Nat)
  | const (d : PyData)
  | glob (x : Str) (d : PyData)
  | tup (es : List Ex)
  | lst (es : List Ex)
  | bin (o : BOp) (a b : Ex)
  | neg (a : Ex)
  | cmp (o : COp) (a b : Ex)
  | isN (neg : Bool) (a : Ex)
  | isB (neg : Bool) (a : Ex) (b : Bool)
  | chain (o o' : COp) (a b c : Ex)
  | ands (es : List Ex)
  | ors (es : List Ex)
  | not (a : Ex)
  | ife (c a b : Ex)
  | idx (a i : Ex)
  | slice (a : Ex) (lo hi : Option Ex)
  | rev (a : Ex)
  /-- list(range(..)) -/
  | lrange (es : List Ex)
  | len (a : Ex)
  | blt (f : BF) (es : List Ex)
  | meth (f : MF) (a : Ex) (es : List Ex)
  | call (f : Nat) (es : List Ex)
  | comp (tg : List Nat) (it : Wk) (c : Option Ex) (e : Ex)
  /-- a new list that becomes a cell -/
  | newc (e : Ex)
  /-- a list display, a comprehension whose items may be cells: a new cell -/
  | newr (es : List Ex)
  | newm (tg : List Nat) (it : Wk) (c : Option Ex) (e : Ex)
  /-- a display with stars: a tuple (true) or a list -/
  | star (t : Bool) (es : List (Bool × Ex))
  | fstr (es : List (Str × Option Ex))
  | fld (e : Ex) (x : Str)
  | callm (k f : Nat) (o : Ex) (es : List Ex)
  | new (k f : Nat) (es : List Ex)
  | exf (i : Nat) (x : Str)
/-- what is walked -/
inductive Wk where
  | seq (e : Ex)
  | range (es : List Ex)
  | enum (e : Ex)
  | zip (es : List Ex)
end

inductive MO where
  | append | extend | insert | remove
  deriving DecidableEq

inductive Cmd where
  | set (i : Nat) (e : Ex)
  /-- the name has the new list alone -/
  | setO (i : Nat) (e : Ex)
  /-- .. a new dict -/
  | setD (i : Nat)
  | setT (is : List Nat) (e : Ex)
  | par (is : List Nat) (es : List Ex)
  | aug (i : Nat) (o : BOp) (e : Ex)
  | mth (m : MO) (r : Ex) (es : List Ex)
  | pop (dst : List Nat) (r : Ex) (k : Option Ex)
  | put (r k e : Ex)
  | augPut (r k : Ex) (o : BOp) (e : Ex)
  | setF (o : Ex) (x : Str) (e : Ex)
  | augF (r : Ex) (x : Str) (o : BOp) (e : Ex)
  /-- not in the text: what the name has is no more changed -/
  | rel (i : Nat)
  | expr (e : Ex)
  | ifs (c : Ex) (a b : List Cmd)
  | fors (tg : List Nat) (it : Wk) (body : List Cmd)
  | whil (n : Nat) (c : Ex) (body : List Cmd)
  | ret (e : Ex)
  | retO (i : Nat)
  | retN
  | raise (k : Nat) (e : Option Ex)
  /-- the classes that a clause names (with those under them), its name, its suite -/
  | tryc (body : List Cmd) (hs : List (List Nat × Option Nat × List Cmd))
  | pass
  | brk
  | cnt
  | doc

/-- a def: its parameters' number, the number of its names, whether its cells live on, whether it hands back a new list -/
structure Fn where
  np : Nat
  ns : Nat
  keep : Bool
  fresh : Bool
  body : List Cmd

def flatD : PyData → Bool
  | .none => true
  | .bool _ => true
  | .int _ => true
  | .str _ => true
  | _ => false

def binD : BOp → PyData → PyData → Option PyData
  | .add, .int i, .int j => some (.int (i + j))
  | .add, .str x, .str y => if x.length + y.length ≤ sizeLine then some (.str (x ++ y)) else none
  | .add, .list x, .list y => if x.length + y.length ≤ sizeLine then some (.list (x ++ y)) else none
  | .add, .tuple x, .tuple y => if x.length + y.length ≤ sizeLine then some (.tuple (x ++ y)) else none
  | .sub, .int i, .int j => some (.int (i - j))
  | .mul, .int i, .int j => if (-(2 ^ 64) < i ∧ i < 2 ^ 64) ∨ (-(2 ^ 64) < j ∧ j < 2 ^ 64) then some (.int (i * j)) else none
  | .fdiv, .int i, .int j => if j ≠ 0 ∧ j.natAbs < 1073741824 then some (.int (i.fdiv j)) else none
  | .mod, .int i, .int j => if j ≠ 0 then some (.int (i.fmod j)) else none
  | .pow, .int i, .int j => if 0 ≤ j ∧ j ≤ 1000000 ∧ i.natAbs < 2 ^ 64 then some (.int (i ^ j.toNat)) else none
  | _, _, _ => none

/-- in over a list or tuple: the items are compared as data -/
def inD (x : PyData) (ys : List PyData) : Option Bool :=
  if flatD x = true ∧ ys.all flatD = true then some (ys.any fun y => PyData.eqv y x) else none

def cmpD : COp → PyData → PyData → Option Bool
  | .eq, .str x, .str y => some (decide (x = y))
  | .ne, .str x, .str y => some (!decide (x = y))
  | .eq, a, b => if SeqAt.shaped a = true ∧ SeqAt.shaped b = true then some (PyData.eqv a b) else none
  | .ne, a, b => if SeqAt.shaped a = true ∧ SeqAt.shaped b = true then some (!PyData.eqv a b) else none
  | .lt, .int i, .int j => some (decide (i < j))
  | .le, .int i, .int j => some (decide (i ≤ j))
  | .gt, .int i, .int j => some (decide (j < i))
  | .ge, .int i, .int j => some (decide (j ≤ i))
  | .inn, x, .list ys => inD x ys
  | .inn, x, .tuple ys => inD x ys
  | .inn, .str x, .str y => some (!(Builtin.Str.occurrences y x 0 y.length 1).isEmpty)
  | .nin, x, .list ys => (inD x ys).map (!·)
  | .nin, x, .tuple ys => (inD x ys).map (!·)
  | .nin, .str x, .str y => some (!(!(Builtin.Str.occurrences y x 0 y.length 1).isEmpty))
  | _, _, _ => none

def idxD : PyData → PyData → Option PyData
  | .list xs, .int i => atI xs i
  | .tuple xs, .int i => atI xs i
  | .str z, .int i => if z.length ≤ sizeLine then (atI z.cps.toList i).map fun c => .str ⟨#[c]⟩ else none
  | _, _ => none

/-- in place, upon ints and texts -/
def augD : BOp → PyData → PyData → Option PyData
  | .add, .int i, .int j => some (.int (i + j))
  | .add, .str x, .str y => if x.length + y.length ≤ sizeLine then some (.str (x ++ y)) else none
  | .sub, .int i, .int j => some (.int (i - j))
  | _, _, _ => none

/-- a part of a list -/
def cutD (xs : List PyData) (lo hi : Option Int) : List PyData :=
  (xs.drop (HT.sIx xs.length 0 lo)).take (HT.sIx xs.length xs.length hi - HT.sIx xs.length 0 lo)

def sliceD : PyData → Option Int → Option Int → Option PyData
  | .list xs, lo, hi => some (.list (cutD xs lo hi))
  | .tuple xs, lo, hi => some (.tuple (cutD xs lo hi))
  | .str z, lo, hi => if z.length ≤ sizeLine then some (.str (cutS z lo hi)) else none
  | _, _, _ => none
def revD : PyData → Option PyData
  | .list xs => some (.list xs.reverse)
  | _ => none

def boolsD : List PyData → Option (List Bool)
  | [] => some []
  | .bool b :: r => (boolsD r).map (b :: ·)
  | _ :: _ => none
def strsD : List PyData → Option (List Str)
  | [] => some []
  | .str b :: r => (strsD r).map (b :: ·)
  | _ :: _ => none
def intsD : List PyData → Option (List Int)
  | [] => some []
  | .int b :: r => (intsD r).map (b :: ·)
  | _ :: _ => none

/-- the kinds of isinstance -/
def kindOf : PyData → String
  | .none => "NoneType"
  | .bool _ => "bool"
  | .int _ => "int"
  | .str _ => "str"
  | .list _ => "list"
  | .tuple _ => "tuple"
  | .dict _ => "dict"
def isK (a k : String) : Bool := a == k || (a == "bool" && k == "int")
def isKind (k : String) (d : PyData) : Bool := isK (kindOf d) k

/-- ints in rising order -/
def insI (x : Int) : List Int → List Int
  | [] => [x]
  | y :: r => if x ≤ y then x :: y :: r else y :: insI x r
def sortI : List Int → List Int
  | [] => []
  | x :: r => insI x (sortI r)

def maxI : List Int → Option Int
  | [] => none
  | x :: r => some (r.foldl max x)
def minI : List Int → Option Int
  | [] => none
  | x :: r => some (r.foldl min x)
def bltD : BF → List PyData → Option PyData
  | .abs, [.int i] => some (.int (if i < 0 then -i else i))
  | .int, [.int i] => some (.int i)
  | .int, [.bool b] => some (.int (if b then 1 else 0))
  | .str, [.int i] => if i.natAbs.log2 < 1920 then some (.str (toString i)) else none
  | .max2, [.int i, .int j] => some (.int (if j > i then j else i))
  | .min2, [.int i, .int j] => some (.int (if j < i then j else i))
  | .tuple, [.list xs] => some (.tuple xs)
  | .tuple, [.tuple xs] => some (.tuple xs)
  | .list, [.list xs] => some (.list xs)
  | .list, [.tuple xs] => some (.list xs)
  | .all, [.list xs] => (boolsD xs).map fun bs => .bool (bs.all id)
  | .any, [.list xs] => (boolsD xs).map fun bs => .bool (bs.any id)
  | .repr, [d] => if d.showable = true ∧ d.hasDict = false ∧ d.depth ≤ 60 ∧ d.shown.length ≤ sizeLine then some (.str d.shown) else none
  | .sum, [.list xs] => (intsD xs).map fun ns => .int ns.sum
  | .sorted, [.list xs] => (intsD xs).map fun ns => .list ((sortI ns).map .int)
  | .maxL, [.list xs] => (intsD xs).bind fun ns => (maxI ns).map .int
  | .minL, [.list xs] => (intsD xs).bind fun ns => (minI ns).map .int
  | .isInst t, [d] => some (.bool (isKind t d))
  | _, _ => none

/-- the first place of an equal item -/
def placeD (d : PyData) : List PyData → Option Nat
  | [] => none
  | x :: r => if PyData.eqv x d = true then some 0 else (placeD d r).map (· + 1)
def indexD (ds : List PyData) (d : PyData) : Option PyData := if flatD d = true ∧ ds.all flatD = true then (placeD d ds).map fun n => .int (n : Nat) else none

def methD : MF → PyData → List PyData → Option PyData
  | .removesuffix, .str a, [.str b] => if a.length ≤ sizeLine then some (.str (Txt.removesuffix a b)) else none
  | .endswith, .str a, [.str b] => some (.bool (Txt.endswith a b))
  | .startswith, .str a, [.str b] => some (.bool (Txt.startswith a b))
  | .join, .str a, [.list ds] => (strsD ds).bind fun ys => if (ys.map (·.length)).sum + ys.length * a.length ≤ 16777216 then some (.str (Txt.join a ys)) else none
  | .join, .str a, [.tuple ds] => (strsD ds).bind fun ys => if (ys.map (·.length)).sum + ys.length * a.length ≤ 16777216 then some (.str (Txt.join a ys)) else none
  | .split, .str a, [.str b] => if (b.length == 0) = false ∧ a.length + 2 ≤ sizeLine then some (.list ((Txt.split a b).map .str)) else none
  | .index, .list ds, [d] => indexD ds d
  | .index, .tuple ds, [d] => indexD ds d
  | _, _, _ => none

/-- the kind that has the method -/
def methR : MF → PyData → Bool
  | .index, .list _ => true
  | .index, .tuple _ => true
  | .index, _ => false
  | .get2, .dict _ => true
  | .get2, _ => false
  | _, .str _ => true
  | _, _ => false

def rangeD (lo : Int) : Nat → List PyData
  | 0 => []
  | n + 1 => .int lo :: rangeD (lo + 1) n

/-- .. by steps of c -/
def rangeC (c lo : Int) : Nat → List PyData
  | 0 => []
  | n + 1 => .int lo :: rangeC c (lo + c) n

/-- a cell's content as a datum -/
def Cell.data : Cell → Option PyData
  | .lst ds => some (.list ds)
  | .dct kvs => some (.dict kvs)
  | _ => none
/-- the datum, for reading -/
def deref (S : Store) : A → Option PyData
  | .val d => some d
  | .ref n => (S[n]?).bind Cell.data
  | .own c => c.data
  | _ => none
def derefs (S : Store) : List A → Option (List PyData)
  | [] => some []
  | a :: r => match deref S a with
    | some d => (derefs S r).map (d :: ·)
    | none => none
def valsOf : List A → Option (List PyData)
  | [] => some []
  | .val d :: r => (valsOf r).map (d :: ·)
  | _ :: _ => none
/-- an atom: it can be kept -/
def A.atom : A → Bool
  | .val _ => true
  | .ref _ => true
  | .tup _ => true
  | _ => false
def mkTup (as : List A) : A := match valsOf as with
  | some ds => .val (.tuple ds)
  | none => .tup as
def Cell.len : Cell → Option Nat
  | .lst ds => some ds.length
  | .refs as => some as.length
  | .dct kvs => some kvs.length
  | _ => none
def lenA (S : Store) : A → Option Nat
  | .val (.list ds) => some ds.length
  | .val (.tuple ds) => some ds.length
  | .val (.str x) => if x.length ≤ sizeLine then some x.length else none
  | .ref n => (S[n]?).bind Cell.len
  | .own c => c.len
  | .tup as => some as.length
  | _ => none
def Cell.at_ : Cell → PyData → Option A
  | .lst ds, .int i => (atI ds i).map .val
  | .refs as, .int i => atI as i
  | _, _ => none
def idxA (S : Store) : A → PyData → Option A
  | .val d, k => (idxD d k).map .val
  | .ref n, k => (S[n]?).bind (·.at_ k)
  | .own c, k => c.at_ k
  | .tup as, .int i => atI as i
  | _, _ => none
/-- in a walked cell: what stays the same object -/
def A.rigid : A → Bool
  | .val d => flatD d
  | .ref _ => true
  | _ => false
def Cell.items : Cell → Option (List A)
  | .lst ds => some (ds.map .val)
  | .refs as => some as
  | _ => none
/-- what a walk over it gives, and the cells that must stay -/
def itemsA (S : Store) : A → Option (List A × List (Nat × Cell))
  | .val (.list xs) => some (xs.map .val, [])
  | .val (.tuple xs) => some (xs.map .val, [])
  | .val (.str z) => some (z.cps.toList.map fun c => .val (.str ⟨#[c]⟩), [])
  | .tup as => some (as, [])
  | .own c => (c.items).map fun as => (as, [])
  | .ref n => match S[n]? with
    | some c => match c.items with
      | some as => if as.all A.rigid = true then some (as, [(n, c)]) else none
      | none => none
    | none => none
  | _ => none
def pairsFrom (k : Nat) : List A → List A
  | [] => []
  | a :: r => mkTup [.val (.int (k : Nat)), a] :: pairsFrom (k + 1) r
def heads : List (List A) → Option (List A)
  | [] => some []
  | [] :: _ => none
  | (a :: _) :: r => (heads r).map (a :: ·)
/-- one of each, as long as all have one -/
def zipA : List (List A) → Nat → List A
  | _, 0 => []
  | ls, n + 1 => match heads ls with
    | some as => mkTup as :: zipA (ls.map (·.tail)) n
    | none => []
def itemsAs (S : Store) : List A → Option (List (List A) × List (Nat × Cell))
  | [] => some ([], [])
  | a :: r => match itemsA S a with
    | some p => (itemsAs S r).map fun q => (p.1 :: q.1, p.2 ++ q.2)
    | none => none

abbrev TEnv := List (Option A)
/-- what a call of the f-th def gives; the cells below base are the callers' -/
structure Calls where
  call : Nat → List A → Store → R A
  base : Nat

def getV (env : TEnv) (i : Nat) : Option A := match env[i]? with
  | some (some a) => some a
  | _ => none
def asBool : A → Option Bool
  | .val (.bool b) => some b
  | _ => none
def asInt (S : Store) (a : A) : Option Int := match deref S a with
  | some (.int i) => some i
  | _ => none
/-- the parts of a value that is taken apart -/
def partsA : A → Option (List A)
  | .val (.tuple ds) => some (ds.map .val)
  | .val (.list ds) => some (ds.map .val)
  | .tup as => some as
  | _ => none
/-- names take values -/
def setE (env : TEnv) : List Nat → List A → TEnv
  | i :: is, d :: ds => setE (env.set i (some d)) is ds
  | _, _ => env
/-- a target takes a value -/
def bindT : List Nat → A → TEnv → Option TEnv
  | [i], a, env => if a.atom = true then some (env.set i (some a)) else none
  | is, a, env => match partsA a with
    | some as => if is.length = as.length then some (setE env is as) else none
    | none => none
/-- a value may be put into the cell n: no cell of the callers comes to hold a younger one -/
def okIn (b n : Nat) : A → Bool
  | .val _ => true
  | .ref m => decide (b ≤ n ∨ m ≤ n)
  | _ => false

open Classical in
noncomputable def collect (g : List (Nat × Cell)) (f : A → Store → R (Option A)) : List A → Store → R (List A)
  | [], S => if (∀ p ∈ g, S[p.1]? = some p.2) then .ok [] S else .err
  | a :: r, S => if (∀ p ∈ g, S[p.1]? = some p.2) then (f a S).bind fun o S => (collect g f r S).bind fun ys S => .ok (match o with
    | some y => y :: ys
    | none => ys) S else .err

noncomputable section
mutual
def evalE (C : Calls) : Ex → TEnv → Store → R A
  | .var i, env, S => match getV env i with
    | some a => if a.atom = true then .ok a S else .err
    | none => .err
  | .own i, env, S => match getV env i with
    | some (.own c) => .ok (.own c) S
    | _ => .err
  | .const d, _, S => .ok (.val d) S
  | .glob _ d, _, S => .ok (.val d) S
  | .tup es, env, S => (evalEs C es env S).bind fun as S => if as.length ≤ sizeLine then .ok (mkTup as) S else .err
  | .lst es, env, S => (evalEs C es env S).bind fun as S => match valsOf as with
    | some ds => if ds.length ≤ sizeLine then .ok (.val (.list ds)) S else .err
    | none => .err
  | .bin o a b, env, S => (evalE C a env S).bind fun x S => (evalE C b env S).bind fun y S => match deref S x, deref S y with
    | some d, some e => .lift ((binD o d e).map .val) S
    | _, _ => .err
  | .neg a, env, S => (evalE C a env S).bind fun x S => match asInt S x with
    | some i => .ok (.val (.int (-i))) S
    | none => .err
  | .cmp o a b, env, S => (evalE C a env S).bind fun x S => (evalE C b env S).bind fun y S => match deref S x, deref S y with
    | some d, some e => .lift ((cmpD o d e).map fun b => .val (.bool b)) S
    | _, _ => .err
  | .isN ng a, env, S => (evalE C a env S).bind fun x S => match x with
    | .val .none => .ok (.val (.bool (!ng))) S
    | _ => .ok (.val (.bool ng)) S
  | .isB ng a b, env, S => (evalE C a env S).bind fun x S => match x with
    | .val (.bool c) => .ok (.val (.bool ((c == b) != ng))) S
    | _ => .err
  | .chain o o' a b c, env, S => (evalE C a env S).bind fun x S => (evalE C b env S).bind fun y S => match deref S x, deref S y with
    | some d, some e => (R.lift (cmpD o d e) S).bind fun k S => if k = true then (evalE C c env S).bind fun z S => match deref S y, deref S z with
        | some e, some g => .lift ((cmpD o' e g).map fun b => .val (.bool b)) S
        | _, _ => .err
      else .ok (.val (.bool false)) S
    | _, _ => .err
  | .ands es, env, S => evalAnd C es env S
  | .ors es, env, S => evalOr C es env S
  | .not a, env, S => (evalE C a env S).bind fun x S => (R.lift (asBool x) S).bind fun k S => .ok (.val (.bool (!k))) S
  | .ife c a b, env, S => (evalE C c env S).bind fun x S => (R.lift (asBool x) S).bind fun k S => if k = true then evalE C a env S else evalE C b env S
  | .idx a i, env, S => (evalE C a env S).bind fun x S => (evalE C i env S).bind fun y S => match deref S y with
    | some k => .lift (idxA S x k) S
    | _ => .err
  | .slice a lo hi, env, S => (evalE C a env S).bind fun x S => (evalO C lo env S).bind fun l S => (evalO C hi env S).bind fun h S => match deref S x with
    | some d => .lift ((sliceD d l h).map .val) S
    | none => .err
  | .rev a, env, S => (evalE C a env S).bind fun x S => match deref S x with
    | some d => .lift ((revD d).map .val) S
    | none => .err
  | .lrange es, env, S => (evalEs C es env S).bind fun as S => match derefs S as with
    | some [.int j] => if j < 2 ^ 24 ∧ -(2 ^ 24) < j then .ok (.val (.list (rangeD 0 j.toNat))) S else .err
    | some [.int i, .int j] => if j < 2 ^ 23 ∧ -(2 ^ 23) < j ∧ i < 2 ^ 23 ∧ -(2 ^ 23) < i then .ok (.val (.list (rangeD i (j - i).toNat))) S else .err
    | _ => .err
  | .len a, env, S => (evalE C a env S).bind fun x S => match lenA S x with
    | some n => .ok (.val (.int (n : Nat))) S
    | none => .err
  | .blt f es, env, S => (evalEs C es env S).bind fun as S => match derefs S as with
    | some ds => .lift ((bltD f ds).map .val) S
    | none => .err
  | .meth f a es, env, S => (evalE C a env S).bind fun x S => match deref S x with
    | some d0 => if methR f d0 = true then (evalEs C es env S).bind fun as S => match deref S x, derefs S as with
        | some d, some ds => if kindOf d = kindOf d0 then .lift ((methD f d ds).map .val) S else .err
        | _, _ => .err
      else .err
    | none => .err
  | .call f es, env, S => (evalEs C es env S).bind fun as S => C.call f as S
  | .comp tg it c e, env, S => (evalW C it env S).bind fun w S => if w.1.length ≤ sizeLine then
      (collect w.2 (fun a S => match bindT tg a env with
        | some env' => (evalC C c env' S).bind fun k S => if k = true then (evalE C e env' S).bind fun y S => .ok (some y) S
          else .ok none S
        | none => .err) w.1 S).noX.bind fun ys S => match valsOf ys with
      | some ds => .ok (.val (.list ds)) S
      | none => .err
    else .err
  | .newc e, env, S => (evalE C e env S).bind fun x S => match x with
    | .val (.list ds) => .ok (.ref S.length) (S ++ [.lst ds])
    | _ => .err
  | .newr es, env, S => (evalEs C es env S).bind fun as S => if as.length ≤ sizeLine then .ok (.ref S.length) (S ++ [.refs as]) else .err
  | .newm tg it c e, env, S => (evalW C it env S).bind fun w S => if w.1.length ≤ sizeLine then
      (collect w.2 (fun a S => match bindT tg a env with
        | some env' => (evalC C c env' S).bind fun k S => if k = true then (evalE C e env' S).bind fun y S => .ok (some y) S
          else .ok none S
        | none => .err) w.1 S).noX.bind fun ys S => .ok (.ref S.length) (S ++ [.refs ys])
    else .err
  | .star _ _, _, _ => .err
  | .fstr _, _, _ => .err
  | .fld e x, env, S => (evalE C e env S).bind fun a S => match a with
    | .ref n => match S[n]? with
      | some (.inst _ fs) => .lift (fs.lookup x) S
      | _ => .err
    | _ => .err
  | .callm k f o es, env, S => (evalE C o env S).bind fun a S => match a with
    | .ref n => match S[n]? with
      | some (.inst k' _) => if k' = k then (evalEs C es env S).bind fun as S => C.call f (.ref n :: as) S else .err
      | _ => .err
    | _ => .err
  | .new k f es, env, S => (evalEs C es env S).bind fun as S => (C.call f (.ref S.length :: as) (S ++ [.inst k []])).bind fun a S' => match a with
    | .val .none => .ok (.ref S.length) S'
    | _ => .err
  | .exf i _, env, S => match getV env i with
    | some (.exn _ d) => .ok (.val d) S
    | _ => .err
def evalEs (C : Calls) : List Ex → TEnv → Store → R (List A)
  | [], _, S => .ok [] S
  | e :: es, env, S => (evalE C e env S).bind fun a S => (evalEs C es env S).bind fun as S => .ok (a :: as) S
def evalAnd (C : Calls) : List Ex → TEnv → Store → R A
  | [], _, _ => .err
  | e :: es, env, S => match es with
    | [] => evalE C e env S
    | _ :: _ => (evalE C e env S).bind fun x S => (R.lift (asBool x) S).bind fun k S => if k = true then evalAnd C es env S else .ok (.val (.bool false)) S
def evalOr (C : Calls) : List Ex → TEnv → Store → R A
  | [], _, _ => .err
  | e :: es, env, S => match es with
    | [] => evalE C e env S
    | _ :: _ => (evalE C e env S).bind fun x S => (R.lift (asBool x) S).bind fun k S => if k = true then .ok (.val (.bool true)) S else evalOr C es env S
def evalO (C : Calls) : Option Ex → TEnv → Store → R (Option Int)
  | none, _, S => .ok none S
  | some e, env, S => (evalE C e env S).bind fun a S => match asInt S a with
    | some i => .ok (some i) S
    | none => .err
/-- a clause's test -/
def evalC (C : Calls) : Option Ex → TEnv → Store → R Bool
  | none, _, S => .ok true S
  | some e, env, S => (evalE C e env S).bind fun a S => .lift (asBool a) S
/-- a walk: its items, the cells that must stay -/
def evalW (C : Calls) : Wk → TEnv → Store → R (List A × List (Nat × Cell))
  | .seq e, env, S => (evalE C e env S).bind fun a S => .lift (itemsA S a) S
  | .range es, env, S => (evalEs C es env S).bind fun as S => match derefs S as with
    | some [.int j] => if -(2 ^ 62) ≤ j ∧ j < 2 ^ 62 then .ok ((rangeD 0 j.toNat).map .val, []) S else .err
    | some [.int i, .int j] => if -(2 ^ 62) ≤ i ∧ i < 2 ^ 62 ∧ -(2 ^ 62) ≤ j ∧ j < 2 ^ 62 then .ok ((rangeD i (j - i).toNat).map .val, []) S else .err
    | some [.int i, .int j, .int c] => if c ≠ 0 ∧ c.natAbs < 1073741824 ∧ Builtin.Range.small i j c = true ∧ 0 ≤ Builtin.Range.rangeSize i j c then .ok ((rangeC c i (Builtin.Range.rangeSize i j c).toNat).map .val, []) S else .err
    | _ => .err
  | .enum e, env, S => (evalE C e env S).bind fun a S => match itemsA S a with
    | some (as, g) => .ok (pairsFrom 0 as, g) S
    | none => .err
  | .zip es, env, S => (evalEs C es env S).bind fun as S => match itemsAs S as with
    | some (l :: ls, g) => .ok (zipA (l :: ls) l.length, g) S
    | _ => .err
end

inductive RS where
  | nx (env : TEnv) (S : Store)
  | bk (env : TEnv) (S : Store)
  | ct (env : TEnv) (S : Store)
  | rt (a : A) (S : Store)
  | exc (k : Nat) (d : PyData) (env : TEnv) (S : Store)
  | err

def RS.bind (r : RS) (f : TEnv → Store → RS) : RS := match r with
  | .nx env S => f env S
  | r => r
/-- behind an expression -/
def R.thn {α : Type} (r : R α) (env : TEnv) (f : α → Store → RS) : RS := match r with
  | .ok a S => f a S
  | .exc k d S => .exc k d env S
  | .err => .err
open Classical in
def loop (g : List (Nat × Cell)) (f : A → TEnv → Store → RS) : List A → TEnv → Store → RS
  | [], env, S => if (∀ p ∈ g, S[p.1]? = some p.2) then .nx env S else .err
  | d :: r, env, S => if (∀ p ∈ g, S[p.1]? = some p.2) then match f d env S with
    | .nx env S => loop g f r env S
    | .ct env S => loop g f r env S
    | .bk env S => .nx env S
    | x => x else .err
def wloop (t : TEnv → Store → R A) (f : TEnv → Store → RS) : Nat → TEnv → Store → RS
  | 0, _, _ => .err
  | n + 1, env, S => (t env S).thn env fun x S => match asBool x with
    | some true => match f env S with
      | .nx env S => wloop t f n env S
      | .ct env S => wloop t f n env S
      | .bk env S => .nx env S
      | x => x
    | some false => .nx env S
    | none => .err

/-- what a receiver names is changed: a name's own, or a cell -/
def mutate (r : Ex) (a : A) (env : TEnv) (S : Store) (f : Nat → Cell → Option Cell) : RS := match r, a with
  | .own i, .own c => match f S.length c with
    | some c' => .nx (env.set i (some (.own c'))) S
    | none => .err
  | _, .ref n => match S[n]? with
    | some c => match f n c with
      | some c' => .nx env (S.set n c')
      | none => .err
    | none => .err
  | _, _ => .err

def appC (b n : Nat) (a : A) : Cell → Option Cell
  | .lst ds => match a with
    | .val d => if ds.length < sizeLine then some (.lst (ds ++ [d])) else none
    | _ => none
  | .refs as => if as.length < sizeLine ∧ okIn b n a = true then some (.refs (as ++ [a])) else none
  | _ => none
def insC (b n : Nat) (i : Int) (a : A) : Cell → Option Cell
  | .lst ds => match a with
    | .val d => if ds.length < sizeLine ∧ 0 ≤ i ∧ i < 2 ^ 63 then some (.lst (ds.take i.toNat ++ [d] ++ ds.drop i.toNat)) else none
    | _ => none
  | .refs as => if as.length < sizeLine ∧ 0 ≤ i ∧ i < 2 ^ 63 ∧ okIn b n a = true then some (.refs (as.take i.toNat ++ [a] ++ as.drop i.toNat)) else none
  | _ => none
def extC (xs : List PyData) : Cell → Option Cell
  | .lst ds => if ds.length + xs.length ≤ sizeLine then some (.lst (ds ++ xs)) else none
  | _ => none
/-- the first place of an int -/
def placeI (k : Int) : List Int → Option Nat
  | [] => none
  | x :: r => if x = k then some 0 else (placeI k r).map (· + 1)
def remC (x : PyData) : Cell → Option Cell
  | .lst ds => match x with
    | .int k => (intsD ds).bind fun ns => (placeI k ns).map fun j => .lst ((ns.eraseIdx j).map .int)
    | _ => none
  | _ => none
def putC (b n : Nat) (k : PyData) (a : A) : Cell → Option Cell
  | .lst ds => match k, a with
    | .int j, .val d => (ixN ds.length j).map fun m => .lst (ds.set m d)
    | _, _ => none
  | .refs as => match k with
    | .int j => if okIn b n a = true then (ixN as.length j).map fun m => .refs (as.set m a) else none
    | _ => none
  | _ => none
def mutC (b n : Nat) : MO → List A → Cell → Option Cell
  | .append, [a], c => appC b n a c
  | .extend, [.val (.list xs)], c => extC xs c
  | .insert, [.val (.int i), a], c => insC b n i a c
  | .remove, [.val x], c => remC x c
  | _, _, _ => none
/-- the item that a pop takes, and the rest -/
def popC (k : Option Int) : Cell → Option (A × Cell)
  | .lst ds => match k with
    | none => ds[ds.length - 1]?.map fun d => (.val d, .lst ds.dropLast)
    | some i => if -(2 ^ 63) ≤ i ∧ i < 2 ^ 63 then (seqIndex? i ds.length).bind fun m => (ds[m]?).map fun d => (.val d, .lst (ds.eraseIdx m)) else none
  | .refs as => match k with
    | none => as[as.length - 1]?.map fun d => (d, .refs as.dropLast)
    | some i => if -(2 ^ 63) ≤ i ∧ i < 2 ^ 63 then (seqIndex? i as.length).bind fun m => (as[m]?).map fun d => (d, .refs (as.eraseIdx m)) else none
  | _ => none
/-- a list, at the moment -/
def isLst (S : Store) : A → Bool
  | .own (.lst _) => true
  | .own (.refs _) => true
  | .ref n => match S[n]? with
    | some (.lst _) => true
    | some (.refs _) => true
    | _ => false
  | _ => false
/-- what stands in a cell and in the cells of it, as data; the cells are given up -/
def frzL (f : Store → A → Option (PyData × Store)) : Store → List A → Option (List PyData × Store)
  | S, [] => some ([], S)
  | S, a :: r => match f S a with
    | some p => (frzL f p.2 r).map fun q => (p.1 :: q.1, q.2)
    | none => none
def frz : Nat → Store → A → Option (PyData × Store)
  | 0, S, a => match a with
    | .val d => some (d, S)
    | _ => none
  | k + 1, S, a => match a with
    | .val d => some (d, S)
    | .ref n => match S[n]? with
      | some (.lst ds) => some (.list ds, S.set n .dead)
      | some (.refs as) => (frzL (frz k) (S.set n .dead) as).map fun p => (.list p.1, p.2)
      | _ => none
    | .tup as => (frzL (frz k) S as).map fun p => (.tuple p.1, p.2)
    | _ => none

/-- the names of a target take what is popped -/
def popT (dst : List Nat) (x : A) (env : TEnv) (S : Store) : RS := match dst with
  | [] => .nx env S
  | _ => match bindT dst x env with
    | some env' => .nx env' S
    | none => .err
def popK (r : Ex) (a : A) (env : TEnv) (S : Store) (k : Option Int) (g : A → TEnv → Store → RS) : RS := match r, a with
  | .own i, .own c => match popC k c with
    | some q => g q.1 (env.set i (some (.own q.2))) S
    | none => .err
  | _, .ref n => match S[n]? with
    | some c => match popC k c with
      | some q => g q.1 env (S.set n q.2)
      | none => .err
    | none => .err
  | _, _ => .err
def popS (dst : List Nat) (r : Ex) (a : A) (env : TEnv) (S : Store) (k : Option Int) : RS := popK r a env S k (popT dst)

def setFs (fs : List (Str × A)) (x : Str) (a : A) : List (Str × A) := (x, a) :: fs

mutual
def exec (C : Calls) : Cmd → TEnv → Store → RS
  | .set i e, env, S => (evalE C e env S).thn env fun a S => .nx (env.set i (some a)) S
  | .setO i e, env, S => (evalE C e env S).thn env fun a S => match a with
    | .val (.list ds) => .nx (env.set i (some (.own (.lst ds)))) S
    | _ => .err
  | .setD i, env, S => .nx (env.set i (some (.own (.dct [])))) S
  | .setT is e, env, S => (evalE C e env S).thn env fun a S => match bindT is a env with
    | some env' => .nx env' S
    | none => .err
  | .par is es, env, S => (evalEs C es env S).thn env fun as S => if is.length = as.length then .nx (setE env is as) S else .err
  | .aug i o e, env, S => match getV env i with
    | some (.val d) => (evalE C e env S).thn env fun b S => match deref S b with
      | some y => match augD o d y with
        | some z => .nx (env.set i (some (.val z))) S
        | none => .err
      | none => .err
    | _ => .err
  | .mth m r es, env, S => (evalE C r env S).thn env fun a S => if isLst S a = true then (evalEs C es env S).thn env fun as S => mutate r a env S fun n c => mutC C.base n m as c else .err
  | .pop dst r k, env, S => (evalE C r env S).thn env fun a S => if isLst S a = true then (evalO C k env S).thn env fun k S => popS dst r a env S k else .err
  | .put r k e, env, S => (evalE C e env S).thn env fun a S => (evalE C r env S).thn env fun p S => (evalE C k env S).thn env fun b S => match deref S b with
    | some j => mutate r p env S fun n c => putC C.base n j a c
    | none => .err
  | .augPut r k o e, env, S => (evalE C r env S).thn env fun p S => (evalE C k env S).thn env fun b S => if isLst S p = true then (match deref S b with
    | some j => match idxA S p j with
      | some (.val old) => (evalE C e env S).thn env fun y S => match deref S y with
        | some d => match augD o old d with
          | some z => mutate r p env S fun n c => putC C.base n j (.val z) c
          | none => .err
        | none => .err
      | _ => .err
    | none => .err) else .err
  | .setF r x e, env, S => (evalE C e env S).thn env fun a S => (evalE C r env S).thn env fun p S => match p with
    | .ref n => match S[n]? with
      | some (.inst k fs) => if okIn C.base n a = true ∧ fs.length ≤ 900 then .nx env (S.set n (.inst k (setFs fs x a))) else .err
      | _ => .err
    | _ => .err
  | .augF r x o e, env, S => .err
  | .rel i, env, S => match getV env i with
    | some (.own (.lst ds)) => .nx (env.set i (some (.val (.list ds)))) S
    | some a => match frz 3 S a with
      | some p => .nx (env.set i (some (.val p.1))) p.2
      | none => .err
    | none => .err
  | .expr e, env, S => (evalE C e env S).thn env fun _ S => .nx env S
  | .ifs c a b, env, S => (evalE C c env S).thn env fun x S => match asBool x with
    | some k => if k = true then execs C a env S else execs C b env S
    | none => .err
  | .fors tg it body, env, S => (evalW C it env S).thn env fun w S => loop w.2 (fun d env S => match bindT tg d env with
      | some env' => execs C body env' S
      | none => .err) w.1 env S
  | .whil n c body, env, S => wloop (evalE C c) (execs C body) n env S
  | .ret e, env, S => (evalE C e env S).thn env fun a S => .rt a S
  | .retO i, env, S => match getV env i with
    | some (.own (.lst ds)) => .rt (.val (.list ds)) S
    | _ => .err
  | .retN, _, S => .rt (.val .none) S
  | .raise k none, env, S => .exc k .none env S
  | .raise k (some e), env, S => (evalE C e env S).thn env fun a S => match a with
    | .val d => .exc k d env S
    | _ => .err
  | .tryc body hs, env, S => match execs C body env S with
    | .exc k d env S => execH C k d hs env S
    | r => r
  | .pass, env, S => .nx env S
  | .brk, env, S => .bk env S
  | .cnt, env, S => .ct env S
  | .doc, env, S => .nx env S
def execs (C : Calls) : List Cmd → TEnv → Store → RS
  | [], env, S => .nx env S
  | s :: ss, env, S => (exec C s env S).bind fun env S => execs C ss env S
/-- the clauses of a try -/
def execH (C : Calls) (k : Nat) (d : PyData) : List (List Nat × Option Nat × List Cmd) → TEnv → Store → RS
  | [], env, S => .exc k d env S
  | (ks, none, s) :: r, env, S => if k ∈ ks then execs C s env S else execH C k d r env S
  | (ks, some i, s) :: r, env, S => if k ∈ ks then (match execs C s (env.set i (some (.exn k d))) S with
    | .nx env S => .nx (env.set i none) S
    | .bk env S => .bk (env.set i none) S
    | .ct env S => .ct (env.set i none) S
    | .rt a S => .rt a S
    | _ => .err) else execH C k d r env S
end

/-- a def's call -/
def runFn (C : Calls) (f : Fn) (as : List A) (S : Store) : R A :=
  if as.length = f.np ∧ f.np ≤ f.ns ∧ as.all A.atom = true then
    match execs C f.body (as.map some ++ List.replicate (f.ns - f.np) none) S with
    | .rt a S' => if f.keep = true then (if a.atom = true then .ok a S' else .err) else match a with
      | .val d => .ok (.val d) (S'.take S.length)
      | .ref n => if n < S.length then .ok (.ref n) (S'.take S.length) else .err
      | _ => .err
    | .nx _ S' => if f.keep = true then .ok (.val .none) S' else .ok (.val .none) (S'.take S.length)
    | .exc k d _ S' => if f.keep = true then .exc k d S' else .exc k d (S'.take S.length)
    | _ => .err
  else .err
/-- the defs, by their numbers -/
abbrev Prg := Nat → Option Fn
/-- calls, n deep -/
def callP (P : Prg) : Nat → Nat → Nat → List A → Store → R A
  | 0, _ => fun _ _ _ => .err
  | n + 1, b => fun f as S => match P f with
    | some fn => runFn ⟨callP P n (if fn.keep = true then b else S.length), if fn.keep = true then b else S.length⟩ fn as S
    | none => .err
end
end Tr


namespace Tr
open PySem L2
open PySem.Spec PyProof.Rows

/-- a tuple of the written part -/
def KT (K : PySem.W.Frag) (a : Addr) (xs : List V) : Prop :=
  ∃ (o : Obj) (its : Array Value) (n : Nat), K.lookup a = some o ∧ o.cls = .type "tuple" ∧ o.dict = none ∧ o.data = .seq its n ∧ its.size ≤ sizeLine ∧ Vals xs its.toList
def SqF (K : PySem.W.Frag) (H : Hp) (a : Addr) (xs : List V) : Prop := (∃ o, H a = some (.frz o (.tup xs)) ∧ o.dict = none) ∨ KT K a xs
theorem SqF.sq {K : PySem.W.Frag} {H : Hp} {a : Addr} {xs : List V} (h : SqF K H a xs) : SqT K H a xs := by
  rcases h with ⟨o, h, _⟩ | ⟨o, its, n, h1, h2, _, h3⟩
  · exact .inl (.inr ⟨o, h⟩)
  · exact .inr ⟨o, its, n, h1, h2, h3⟩
/-- a new tuple -/
def NewT (H : Hp) (xs : List V) (Q : VK) : Prop := ∀ p o, H p = none → o.dict = none → Q (.ref p) (upd H p (.frz o (.tup xs)))
section
variable {X : Cx} {pins : List (Addr × Obj)} {σ : L2.St} {H : Hp} {s : Shared} {xs : List V} {its : List Value} {Q : VK}
theorem tup_end {h' : Heap} {t' : Nat} (I : Inv X pins σ H { s with heap := h', toks := t' }) (r : Vals xs its) (hz : xs.length ≤ sizeLine) (q : NewT H xs Q) :
    EP X pins σ Q (.ref h'.objs.size) { s with heap := h'.push { cls := .type "tuple", data := .seq its.toArray }, toks := t' } := by
  have e : (h'.push { cls := .type "tuple", data := .seq its.toArray }).get? h'.objs.size = some { cls := .type "tuple", data := .seq its.toArray } := Heap.get?_push_size _ rfl
  have hn : H h'.objs.size = none := I.hok.fresh (Nat.le_refl _)
  refine ⟨.ref h'.objs.size, _, I.laid (t' := t') (fun b o e => Heap.get?_push_of_some _ e) (Nat.le_refl _) ?_, rfl, q h'.objs.size { cls := .type "tuple", data := .seq its.toArray } hn rfl⟩
  exact ⟨e, hz, its, r, ⟨_, e, rfl, _, rfl⟩⟩
def tTupF (t : TA) : TE := fun σ H Q => t σ H fun xs H1 => xs.length ≤ sizeLine ∧ NewT H1 xs Q
theorem pe_tupF {es : List Expr} {t : TA} {k : Nat} {pos : Pos} (h : PA X es t) : PE X (.Tuple es k pos) (tTupF t) := by
  refine ⟨fun pins s σ H Q I hq => wpAny_Tuple_spliced (thn (h.run pos pins s σ H _ I hq) fun us s1 ⟨xs, H1, I1, r, z, q⟩ => ⟨by rw [← r.length]; exact z, ?_⟩)⟩
  exact tup_end (s := s1) (h' := s1.heap) (t' := s1.toks) I1 r z q
def rCatF (K : PySem.W.Frag) : R2 := fun x y H Q => ∃ a b xs ys, x = .ref a ∧ y = .ref b ∧ SqT K H a xs ∧ SqT K H b ys ∧ xs.length + ys.length ≤ sizeLine ∧
  (xs = [] → Q (.ref b) H) ∧ (xs ≠ [] → ys = [] → Q (.ref a) H) ∧ (xs ≠ [] → ys ≠ [] → NewT H (xs ++ ys) Q)
theorem op_catF : OpR X (binaryOp .Add) (rCatF X.K) := by
  intro pins s σ H x y v u Q I rx ry h
  obtain ⟨a, b, xs, ys, rfl, rfl, ha, hb, hz, q0, q1, q2⟩ := h
  cases rx
  cases ry
  obtain ⟨its, r1, p1, _⟩ := I.tuple ha
  obtain ⟨its2, r2, p2, _⟩ := I.tuple hb
  by_cases hx : xs = []
  · subst hx
    cases r1
    exact cat_tup0 p1 p2 ⟨.ref b, H, I, rfl, q0 rfl⟩
  · refine HT.cat_tup p1 p2 (fun z => hx (r1.nil_iff.mp z)) (fun z => ⟨.ref a, H, I, rfl, q1 hx (r2.nil_iff.mp z)⟩) (fun z => ?_) (by rw [← r1.length, ← r2.length]; exact hz)
    exact tup_end (s := s) (t' := s.toks) I (r1.append r2) (by rw [List.length_append]; exact hz) (q2 hx fun w => z (r2.nil_iff.mpr w))
def rSlF (K : PySem.W.Frag) : V → Option Int → Option Int → Hp → VK → Prop := fun x lo hi H Q => ∃ a xs, x = .ref a ∧ SqT K H a xs ∧
  (HT.sIx xs.length 0 lo = 0 ∧ HT.sIx xs.length xs.length hi = xs.length → Q (.ref a) H) ∧ (¬ (HT.sIx xs.length 0 lo = 0 ∧ HT.sIx xs.length xs.length hi = xs.length) → NewT H (cutV xs lo hi) Q)
theorem sl_tupF : SlR X (rSlF X.K) := by
  intro pins s σ H x v vl vu lo hi sl Q I rx hs pl pu h
  obtain ⟨a, xs, rfl, hx, q1, q2⟩ := h
  cases rx
  obtain ⟨its, r, ht, hz⟩ := I.tuple hx
  have hlen : its.toArray.size = xs.length := by rw [List.size_toArray]; exact r.length.symm
  refine ⟨"tuple", _, PyProof.Rows.slot_tuple_getitem.lookup, ht.typeIs, ?_⟩
  by_cases hw : HT.sIx xs.length 0 lo = 0 ∧ HT.sIx xs.length xs.length hi = xs.length
  · exact getItem_tuple_whole ht hs pl pu (by rw [hlen]; exact hw) ⟨.ref a, H, I, rfl, q1 hw⟩
  · refine HT.getItem_tuple_cut ht hs pl pu (by rw [hlen]; exact hw) ?_ (by rw [hlen]; exact hz)
    rw [hlen]
    exact tup_end (s := s) (t' := s.toks) I ((r.drop (HT.sIx xs.length 0 lo)).take (HT.sIx xs.length xs.length hi - HT.sIx xs.length 0 lo)) (Nat.le_trans (cutV_length xs lo hi) hz) (q2 hw)
theorem call_tupleF : CallR X (.type "tuple") (fun xs H Q => ∃ p ys, xs = [.ref p] ∧ ((SqL X.K H p ys ∧ NewT H ys Q) ∨ (SqT X.K H p ys ∧ Q (.ref p) H))) := by
  intro pins s σ H xs us Q I r h
  obtain ⟨p, ys, rfl, h⟩ := h
  obtain ⟨u, rfl, rx⟩ : ∃ u, us = [u] ∧ RelV (.ref p) u := by
    cases r with
    | cons r t => cases t; exact ⟨_, rfl, r⟩
  cases rx
  rcases h with ⟨hq, q⟩ | ⟨hq, q⟩
  · obtain ⟨its, r', pl, hz⟩ := I.list hq
    have hlen := r'.length
    refine call_tuple_list pl.isList (fun h' kp => ?_) (by simp only [List.size_toArray] <;> omega)
    exact tup_end (s := s) (t' := s.toks) (I.kept (t' := s.toks) kp) r' hz q
  · obtain ⟨its, r', pl, hz⟩ := I.tuple hq
    exact call_tuple_same pl ⟨.ref p, H, I, rfl, q⟩
/-- the method of a built-in type, by what the object is -/
def tyF (K : PySem.W.Frag) (T : String) (x : V) (H : Hp) : Prop := tyV K T x H ∨ (T = "tuple" ∧ ∃ a xs, x = .ref a ∧ SqF K H a xs)
theorem tyF_is {T : String} {x : V} {v : Value} (I : Inv X pins σ H s) (r : RelV x v) (ty : tyF X.K T x H) : s.TypeIs v T ∧ ∀ a, v = .ref a → ∃ o, s.heap.get? a = some o ∧ o.dict = none := by
  rcases ty with ty | ⟨rfl, a, xs, rfl, h⟩
  · exact tyV_is I r ty
  · cases r
    rcases h with ⟨o, h, hd⟩ | ⟨o, its, n, hk, hc, hd, _⟩
    · obtain ⟨e, _, _, _, ob, e2, hc, _⟩ := I.hok a _ h
      rw [e] at e2
      cases e2
      exact ⟨⟨o, e, hc⟩, fun b z => by cases z; exact ⟨o, e, hd⟩⟩
    · exact ⟨⟨o, I.kIn a o hk, hc⟩, fun b z => by cases z; exact ⟨o, I.kIn a o hk, hd⟩⟩
def tBMF (K : PySem.W.Frag) (T : String) (r : V → List V → Hp → VK → Prop) (to : TE) (t : TA) : TE := fun σ H Q => to σ H fun x H1 => tyF K T x H1 ∧ t σ H1 fun xs H2 => r x xs H2 Q
theorem pe_bmF {o e : Expr} {es : List Expr} {to : TE} {t : TA} {name : Str} {apos cpos : Pos} {T id : String} {r : V → List V → Hp → VK → Prop} (pa : PlainAttrs T) (slot : Slot T name id)
    (hty : typeOf (.builtin id) = pure (.type "method_descriptor")) (hm : MtR X id r) (ho : PE X o to) (ha : PA X (e :: es) t) (hbase : attributeBase o name X.env (eval o X.env) = eval o X.env)
    (h1 : (backTo cpos (starEach (e :: es) X.env)).all (fun x => !x.1) = true) (h2 : (e :: es).length < 29) (hline : (apos.endLine == cpos.line) = true)
    (hs : starEach (e :: es) X.env = (false, eval e X.env) :: starEach es X.env) (hplain : (backTo cpos (starEach es X.env)).any (·.1) = false) :
    PE X (.Call (.Attribute o name apos) (e :: es) [] cpos) (tBMF X.K T r to t) := by
  refine ⟨fun pins s σ H Q I h => wpAny_Call_method_late hbase ?_ hline rfl (thn (ho.run pins s σ H _ I h) fun v s1 ⟨x, H1, I1, r1, ty, q1⟩ => ?_)⟩
  · rw [h1]
    have z : (e :: es).length + ([] : List Keyword).length + (if ([] : List Keyword).isEmpty then 0 else 1) < 30 := by
      show (e :: es).length + 0 + 0 < 30
      omega
    rw [decide_eq_true z]
    rfl
  · obtain ⟨q2, q3⟩ := tyF_is I1 r1 ty
    refine ⟨T, id, pa, slot, hty, q2, q3, ?_⟩
    have hA := ha.run cpos pins s1 σ H1 _ I1 q1
    rw [hs] at hA ⊢
    refine Calls.callWith_builtin (by show (false || (backTo cpos (starEach es X.env)).any (·.1)) = false; rw [Bool.false_or]; exact hplain) (Calls.evalArgs_plain ?_)
    exact thn hA fun us s2 ⟨vs, H2, I2, r2, q2⟩ => hm pins s2 σ H2 x vs v us Q I2 r1 r2 q2
/-- one of two types has the method -/
def tBM2 (K : PySem.W.Frag) (T T' : String) (r r' : V → List V → Hp → VK → Prop) (to : TE) (t : TA) : TE := fun σ H Q => to σ H fun x H1 => (tyF K T x H1 ∧ t σ H1 fun xs H2 => r x xs H2 Q) ∨ (tyF K T' x H1 ∧ t σ H1 fun xs H2 => r' x xs H2 Q)
theorem pe_bm2 {o e : Expr} {es : List Expr} {to : TE} {t : TA} {name : Str} {apos cpos : Pos} {T id T' id' : String} {r r' : V → List V → Hp → VK → Prop} (pa : PlainAttrs T) (slot : Slot T name id)
    (hty : typeOf (.builtin id) = pure (.type "method_descriptor")) (hm : MtR X id r) (pa' : PlainAttrs T') (slot' : Slot T' name id')
    (hty' : typeOf (.builtin id') = pure (.type "method_descriptor")) (hm' : MtR X id' r') (ho : PE X o to) (ha : PA X (e :: es) t) (hbase : attributeBase o name X.env (eval o X.env) = eval o X.env)
    (h1 : (backTo cpos (starEach (e :: es) X.env)).all (fun x => !x.1) = true) (h2 : (e :: es).length < 29) (hline : (apos.endLine == cpos.line) = true)
    (hs : starEach (e :: es) X.env = (false, eval e X.env) :: starEach es X.env) (hplain : (backTo cpos (starEach es X.env)).any (·.1) = false) :
    PE X (.Call (.Attribute o name apos) (e :: es) [] cpos) (tBM2 X.K T T' r r' to t) := by
  refine ⟨fun pins s σ H Q I h => wpAny_Call_method_late hbase ?_ hline rfl (thn (ho.run pins s σ H _ I h) fun v s1 ⟨x, H1, I1, r1, q⟩ => ?_)⟩
  · rw [h1]
    have z : (e :: es).length + ([] : List Keyword).length + (if ([] : List Keyword).isEmpty then 0 else 1) < 30 := by
      show (e :: es).length + 0 + 0 < 30
      omega
    rw [decide_eq_true z]
    rfl
  · have pl : ((false, eval e X.env) :: backTo cpos (starEach es X.env)).any (·.1) = false := by
      show (false || (backTo cpos (starEach es X.env)).any (·.1)) = false
      rw [Bool.false_or]
      exact hplain
    rcases q with ⟨ty, q1⟩ | ⟨ty, q1⟩
    · obtain ⟨q2, q3⟩ := tyF_is I1 r1 ty
      refine ⟨T, id, pa, slot, hty, q2, q3, ?_⟩
      have hA := ha.run cpos pins s1 σ H1 _ I1 q1
      rw [hs] at hA ⊢
      exact Calls.callWith_builtin pl (Calls.evalArgs_plain (thn hA fun us s2 ⟨vs, H2, I2, r2, q2⟩ => hm pins s2 σ H2 x vs v us Q I2 r1 r2 q2))
    · obtain ⟨q2, q3⟩ := tyF_is I1 r1 ty
      refine ⟨T', id', pa', slot', hty', q2, q3, ?_⟩
      have hA := ha.run cpos pins s1 σ H1 _ I1 q1
      rw [hs] at hA ⊢
      exact Calls.callWith_builtin pl (Calls.evalArgs_plain (thn hA fun us s2 ⟨vs, H2, I2, r2, q2⟩ => hm' pins s2 σ H2 x vs v us Q I2 r1 r2 q2))
/-- the first place in a tuple of plain things -/
theorem mt_tindex : MtR X "tuple.index" (fun x xs H Q => ∃ (a : Addr) (ys : List V) (y : V) (j : Nat) (z : V), x = V.ref a ∧ xs = [y] ∧ SqT X.K H a ys ∧ flatV y = true ∧ ys.all flatV = true ∧ ys[j]? = some z ∧ eqV z y = true ∧
    (∀ (m : Nat) (z' : V), m < j → ys[m]? = some z' → eqV z' y = false) ∧ Q (.int (j : Nat)) H) := by
  intro pins s σ H x xs v us Q I rx rxs h
  obtain ⟨a, ys, y, j, z, rfl, rfl, hs, fy, fys, hz, hzj, hno, q⟩ := h
  cases rx
  cases rxs with
  | cons ry rt =>
    rename_i uy ut
    cases rt
    obtain ⟨its, rv, ⟨⟨oc, od, ot, os⟩, ho, hc, n, hd⟩, _⟩ := I.tuple hs
    dsimp only at hc hd
    subst hc hd
    have hvl := rv.length
    have at' : ∀ (m : Nat) (w : V), ys[m]? = some w → ∃ (hm : m < its.toArray.size), eqU y its.toArray[m] = eqV w y := fun m w hw => by
      obtain ⟨u, hu, ru⟩ := rv.get hw
      obtain ⟨h1, h2⟩ := List.getElem?_eq_some_iff.mp hu
      refine ⟨by simpa using h1, ?_⟩
      rw [show its.toArray[m]'(by simpa using h1) = u by simpa using h2, eqU_of ru (flat_at fys hw)]
    obtain ⟨hj, ej⟩ := at' j z hz
    refine call_meets PySem.F.slot_tuple_index ⟨_, ho, rfl⟩ PySem.F.entry_tuple_index (PySem.F.args_tuple_index_2 _ _) (TI.tuple_indexAt a its.toArray n od os uy (eqU y) j hj (by rw [ej]; exact hzj) ?_)
      ⟨ho, fun u' hu' => mem_eqAt ry fy rv fys u' (by simpa using hu'), ⟨.int (j : Nat), H, I.tok _, ⟨_, rfl⟩, q⟩⟩
    intro m hm hmj
    have hmy : m < ys.length := by
      rw [hvl]
      simpa using hm
    obtain ⟨_, em⟩ := at' m ys[m] (List.getElem?_eq_getElem hmy)
    rw [em]
    exact hno m _ hmj (List.getElem?_eq_getElem hmy)
end
end Tr


namespace Tr
open PySem L2
open PySem.Spec PyProof.Rows

/-- the surroundings: the written part; where the k-th class stands; an exception class's field; what calls give, which
defs hand back new lists, to which depth -/
structure Gam where
  K : PySem.W.Frag
  cl : Nat → Option Addr
  xf : Nat → Option Str
  C : Calls
  fr : Nat → Bool
  n : Nat

/-- a list of the written part -/
def KL (K : PySem.W.Frag) (a : Addr) (xs : List V) : Prop :=
  ∃ (o : Obj) (its : Array Value) (n : Nat), K.lookup a = some o ∧ o.cls = .type "list" ∧ o.dict = none ∧ o.data = .seq its n ∧ its.size ≤ sizeLine ∧ Vals xs its.toList
/-- a list that nobody changes -/
def SqB (K : PySem.W.Frag) (Bad : Addr → Prop) (H : Hp) (a : Addr) (xs : List V) : Prop := (Rd H a (.lst xs) ∧ ¬ Bad a) ∨ KL K a xs
theorem SqB.sq {K : PySem.W.Frag} {Bad : Addr → Prop} {H : Hp} {a : Addr} {xs : List V} (h : SqB K Bad H a xs) : SqL K H a xs := h.elim (fun q => .inl q.1) .inr

mutual
inductive Rep (K : PySem.W.Frag) (Bad : Addr → Prop) (H : Hp) : V → PyData → Prop
  | non : Rep K Bad H .non .none
  | bl (b : Bool) : Rep K Bad H (.bl b) (.bool b)
  | int (i : Int) : Rep K Bad H (.int i) (.int i)
  | str (x : Str) : Rep K Bad H (.str x) (.str x)
  | lst {a : Addr} {xs : List V} {ds : List PyData} : SqB K Bad H a xs → Reps K Bad H xs ds → Rep K Bad H (.ref a) (.list ds)
  | tup {a : Addr} {xs : List V} {ds : List PyData} : SqF K H a xs → Reps K Bad H xs ds → Rep K Bad H (.ref a) (.tuple ds)
inductive Reps (K : PySem.W.Frag) (Bad : Addr → Prop) (H : Hp) : List V → List PyData → Prop
  | nil : Reps K Bad H [] []
  | cons {v : V} {vs : List V} {d : PyData} {ds : List PyData} : Rep K Bad H v d → Reps K Bad H vs ds → Reps K Bad H (v :: vs) (d :: ds)
end
mutual
/-- a value that can be kept: a datum, a cell, a tuple of such -/
inductive RepA (K : PySem.W.Frag) (Bad : Addr → Prop) (H : Hp) (ρ : List Addr) : V → A → Prop
  | val {v : V} {d : PyData} : Rep K Bad H v d → RepA K Bad H ρ v (.val d)
  | ref {n : Nat} {a : Addr} : ρ[n]? = some a → RepA K Bad H ρ (.ref a) (.ref n)
  | tup {a : Addr} {xs : List V} {as : List A} : SqF K H a xs → RepAs K Bad H ρ xs as → RepA K Bad H ρ (.ref a) (.tup as)
inductive RepAs (K : PySem.W.Frag) (Bad : Addr → Prop) (H : Hp) (ρ : List Addr) : List V → List A → Prop
  | nil : RepAs K Bad H ρ [] []
  | cons {v : V} {vs : List V} {a : A} {as : List A} : RepA K Bad H ρ v a → RepAs K Bad H ρ vs as → RepAs K Bad H ρ (v :: vs) (a :: as)
end

/-- what stood stands, but what is in M may have changed -/
structure Ext (M : Addr → Prop) (H H' : Hp) : Prop where
  keep : ∀ a o, H a = some o → ¬ M a → H' a = some o
  muts : ∀ a, Mut (H a) → Mut (H' a)
theorem Mut.some {o : Option HO} (h : Mut o) : o ≠ none := fun z => by rw [z] at h; exact h
theorem Ext.refl {M : Addr → Prop} {H : Hp} : Ext M H H := ⟨fun _ _ h _ => h, fun _ h => h⟩
theorem Ext.trans {M : Addr → Prop} {H H1 H2 : Hp} (h : Ext M H H1) (g : Ext M H1 H2) : Ext M H H2 :=
  ⟨fun a o e n => g.keep a o (h.keep a o e n) n, fun a e => g.muts a (h.muts a e)⟩
theorem Ext.mono {M M' : Addr → Prop} {H H' : Hp} (h : Ext M H H') (hm : ∀ a, M a → M' a) : Ext M' H H' := ⟨fun a o e n => h.keep a o e fun q => n (hm a q), h.muts⟩
theorem Ext.new {M : Addr → Prop} {H : Hp} {p : Addr} {o : HO} (h : H p = none) : Ext M H (upd H p o) :=
  ⟨fun a u e _ => by rw [upd_ne (ne_of_none e h)]; exact e, fun a e => by
    rw [upd_ne (fun z => by rw [z, h] at e; exact e)]; exact e⟩
theorem Ext.put {M : Addr → Prop} {H : Hp} {p : Addr} {o : HO} (hm : M p) (ho : Mut (some o)) : Ext M H (upd H p o) := by
  refine ⟨fun a u e n => ?_, fun a e => ?_⟩
  · rw [upd_ne (fun (q : a = p) => n (q ▸ hm))]; exact e
  · by_cases q : a = p
    · subst q; rw [upd_same]; exact ho
    · rw [upd_ne q]; exact e
/-- what is not there was not there -/
theorem Ext.none {M : Addr → Prop} {H H' : Hp} (h : Ext M H H') (hl : ∀ a, M a → Mut (H a)) {p : Addr} (e : H' p = none) : H p = none := by
  cases q : H p with
  | none => rfl
  | some o =>
    by_cases m : M p
    · exact absurd e (Mut.some (h.muts p (hl p m)))
    · have := h.keep p o q m
      rw [e] at this; cases this
/-- one after the other, where the second's changes are of the first's or of what was new -/
theorem Ext.chain {M M' : Addr → Prop} {Ha Hb Hc : Hp} (h : Ext M Ha Hb) (g : Ext M' Hb Hc) (hm : ∀ a, M' a → M a ∨ Ha a = Option.none) : Ext M Ha Hc :=
  ⟨fun a o e n => g.keep a o (h.keep a o e n) fun m => (hm a m).elim n fun z => (by rw [e] at z; cases z), fun a e => g.muts a (h.muts a e)⟩

/-- what is in Bad is of a kind that changes -/
def BadOk (Bad : Addr → Prop) (H : Hp) : Prop := ∀ a, Bad a → Mut (H a)
theorem BadOk.ext {Bad M : Addr → Prop} {H H' : Hp} (h : BadOk Bad H) (e : Ext M H H') : BadOk Bad H' := fun a b => e.muts a (h a b)

section
variable {K : PySem.W.Frag} {Bad Bad' M : Addr → Prop} {H H' : Hp} {ρ ρ' : List Addr}
theorem SqF.ext {a : Addr} {xs : List V} (ok : BadOk Bad H) (hM : ∀ a, M a → Bad a ∨ H a = none) (e : Ext M H H') (h : SqF K H a xs) : SqF K H' a xs := by
  rcases h with ⟨o, h, hd⟩ | h
  · refine .inl ⟨o, e.keep _ _ h fun m => ?_, hd⟩
    rcases hM a m with z | z
    · have z := ok a z
      rw [h] at z; exact z
    · rw [h] at z; cases z
  · exact .inr h
theorem SqB.ext {a : Addr} {xs : List V} (hM : ∀ a, M a → Bad a ∨ H a = none) (e : Ext M H H') (hb : ∀ a, Bad' a → Bad a ∨ H a = none) (h : SqB K Bad H a xs) : SqB K Bad' H' a xs := by
  rcases h with ⟨h, n⟩ | h
  · have hn : H a ≠ none := fun q => by rcases h with h | ⟨o, h⟩ <;> (rw [q] at h; cases h)
    have nm : ¬ M a := fun m => (hM a m).elim n hn
    refine .inl ⟨?_, fun b => (hb a b).elim n hn⟩
    rcases h with h | ⟨o, h⟩
    · exact .inl (e.keep _ _ h nm)
    · exact .inr ⟨o, e.keep _ _ h nm⟩
  · exact .inr h
mutual
theorem Rep.ext (ok : BadOk Bad H) (hM : ∀ a, M a → Bad a ∨ H a = none) (e : Ext M H H') (hb : ∀ a, Bad' a → Bad a ∨ H a = none) : ∀ {v : V} {d : PyData}, Rep K Bad H v d → Rep K Bad' H' v d
  | _, _, .non => .non
  | _, _, .bl b => .bl b
  | _, _, .int i => .int i
  | _, _, .str x => .str x
  | _, _, .lst h1 h2 => .lst (h1.ext hM e hb) (h2.ext ok hM e hb)
  | _, _, .tup h1 h2 => .tup (SqF.ext ok hM e h1) (h2.ext ok hM e hb)
theorem Reps.ext (ok : BadOk Bad H) (hM : ∀ a, M a → Bad a ∨ H a = none) (e : Ext M H H') (hb : ∀ a, Bad' a → Bad a ∨ H a = none) : ∀ {v : List V} {d : List PyData}, Reps K Bad H v d → Reps K Bad' H' v d
  | _, _, .nil => .nil
  | _, _, .cons h1 h2 => .cons (h1.ext ok hM e hb) (h2.ext ok hM e hb)
end
mutual
theorem RepA.ext (ok : BadOk Bad H) (hM : ∀ a, M a → Bad a ∨ H a = none) (e : Ext M H H') (hb : ∀ a, Bad' a → Bad a ∨ H a = none) (hρ : ρ <+: ρ') : ∀ {v : V} {a : A}, RepA K Bad H ρ v a → RepA K Bad' H' ρ' v a
  | _, _, .val h => .val (h.ext ok hM e hb)
  | _, _, .ref (n := n) h => .ref (by obtain ⟨t, rfl⟩ := hρ; rw [List.getElem?_append_left (List.getElem?_eq_some_iff.mp h).1]; exact h)
  | _, _, .tup h1 h2 => .tup (SqF.ext ok hM e h1) (h2.ext ok hM e hb hρ)
theorem RepAs.ext (ok : BadOk Bad H) (hM : ∀ a, M a → Bad a ∨ H a = none) (e : Ext M H H') (hb : ∀ a, Bad' a → Bad a ∨ H a = none) (hρ : ρ <+: ρ') : ∀ {v : List V} {a : List A}, RepAs K Bad H ρ v a → RepAs K Bad' H' ρ' v a
  | _, _, .nil => .nil
  | _, _, .cons h1 h2 => .cons (h1.ext ok hM e hb hρ) (h2.ext ok hM e hb hρ)
end
/-- fewer that may change -/
theorem Rep.anti (ok : BadOk Bad H) (hb : ∀ a, Bad' a → Bad a) {v : V} {d : PyData} (h : Rep K Bad H v d) : Rep K Bad' H v d := h.ext (M := fun _ => False) ok (fun _ q => q.elim) .refl fun a q => .inl (hb a q)
theorem Reps.anti (ok : BadOk Bad H) (hb : ∀ a, Bad' a → Bad a) {v : List V} {d : List PyData} (h : Reps K Bad H v d) : Reps K Bad' H v d := h.ext (M := fun _ => False) ok (fun _ q => q.elim) .refl fun a q => .inl (hb a q)
theorem RepA.anti (ok : BadOk Bad H) (hb : ∀ a, Bad' a → Bad a) {v : V} {d : A} (h : RepA K Bad H ρ v d) : RepA K Bad' H ρ v d := h.ext (M := fun _ => False) ok (fun _ q => q.elim) .refl (fun a q => .inl (hb a q)) (List.prefix_refl _)
theorem RepAs.anti (ok : BadOk Bad H) (hb : ∀ a, Bad' a → Bad a) {v : List V} {d : List A} (h : RepAs K Bad H ρ v d) : RepAs K Bad' H ρ v d := h.ext (M := fun _ => False) ok (fun _ q => q.elim) .refl (fun a q => .inl (hb a q)) (List.prefix_refl _)
mutual
theorem Rep.dp : ∀ {v : V} {d : PyData}, Rep K Bad H v d → Dp K H v d
  | _, _, .non => .non
  | _, _, .bl b => .bl b
  | _, _, .int i => .int i
  | _, _, .str x => .str x
  | _, _, .lst h1 h2 => .lst h1.sq h2.dps
  | _, _, .tup h1 h2 => .tup h1.sq h2.dps
theorem Reps.dps : ∀ {v : List V} {d : List PyData}, Reps K Bad H v d → DpAll K H v d
  | _, _, .nil => .nil
  | _, _, .cons h1 h2 => .cons h1.dp h2.dps
end
theorem Reps.length : ∀ {vs : List V} {ds : List PyData}, Reps K Bad H vs ds → vs.length = ds.length
  | _, _, .nil => rfl
  | _, _, .cons _ h => congrArg (· + 1) h.length
theorem Reps.get : ∀ {vs : List V} {ds : List PyData} {i : Nat} {d : PyData}, Reps K Bad H vs ds → ds[i]? = some d → ∃ v, vs[i]? = some v ∧ Rep K Bad H v d
  | _, _, _, _, .nil, e => by simp at e
  | _, _, 0, _, .cons r _, e => by
    simp at e; subst e
    exact ⟨_, by simp, r⟩
  | _, _, i + 1, d, .cons _ t, e => by
    obtain ⟨v, h1, h2⟩ := Reps.get (i := i) (d := d) t (by simpa using e)
    exact ⟨v, by simpa using h1, h2⟩
theorem Reps.getV : ∀ {vs : List V} {ds : List PyData} {i : Nat} {v : V}, Reps K Bad H vs ds → vs[i]? = some v → ∃ d, ds[i]? = some d ∧ Rep K Bad H v d := fun {vs ds i v} h e => by
  have hi := (List.getElem?_eq_some_iff.mp e).1
  rw [h.length] at hi
  obtain ⟨w, e1, r⟩ := h.get (List.getElem?_eq_getElem hi)
  rw [e] at e1; cases e1
  exact ⟨_, List.getElem?_eq_getElem hi, r⟩
theorem Reps.append : ∀ {vs ws : List V} {ds es : List PyData}, Reps K Bad H vs ds → Reps K Bad H ws es → Reps K Bad H (vs ++ ws) (ds ++ es)
  | _, _, _, _, .nil, g => g
  | _, _, _, _, .cons h t, g => .cons h (t.append g)
theorem Reps.take : ∀ {vs : List V} {ds : List PyData} (n : Nat), Reps K Bad H vs ds → Reps K Bad H (vs.take n) (ds.take n)
  | _, _, 0, _ => .nil
  | _, _, _ + 1, .nil => .nil
  | _, _, n + 1, .cons h t => .cons h (t.take n)
theorem Reps.drop : ∀ {vs : List V} {ds : List PyData} (n : Nat), Reps K Bad H vs ds → Reps K Bad H (vs.drop n) (ds.drop n)
  | _, _, 0, r => r
  | _, _, _ + 1, .nil => .nil
  | _, _, n + 1, .cons _ t => t.drop n
theorem Reps.set {v : V} {d : PyData} (r : Rep K Bad H v d) : ∀ {vs : List V} {ds : List PyData} (i : Nat), Reps K Bad H vs ds → Reps K Bad H (vs.set i v) (ds.set i d)
  | _, _, _, .nil => .nil
  | _, _, 0, .cons _ t => .cons r t
  | _, _, i + 1, .cons q t => .cons q (Reps.set r i t)
theorem Reps.reverse : ∀ {vs : List V} {ds : List PyData}, Reps K Bad H vs ds → Reps K Bad H vs.reverse ds.reverse
  | _, _, .nil => .nil
  | _, _, .cons h t => by
    rw [List.reverse_cons, List.reverse_cons]
    exact t.reverse.append (.cons h .nil)
theorem Reps.eraseIdx : ∀ {vs : List V} {ds : List PyData} (i : Nat), Reps K Bad H vs ds → Reps K Bad H (vs.eraseIdx i) (ds.eraseIdx i)
  | _, _, _, .nil => .nil
  | _, _, 0, .cons _ t => t
  | _, _, i + 1, .cons h t => .cons h (t.eraseIdx i)
theorem RepAs.length : ∀ {vs : List V} {ds : List A}, RepAs K Bad H ρ vs ds → vs.length = ds.length
  | _, _, .nil => rfl
  | _, _, .cons _ h => congrArg (· + 1) h.length
theorem RepAs.get : ∀ {vs : List V} {ds : List A} {i : Nat} {d : A}, RepAs K Bad H ρ vs ds → ds[i]? = some d → ∃ v, vs[i]? = some v ∧ RepA K Bad H ρ v d
  | _, _, _, _, .nil, e => by simp at e
  | _, _, 0, _, .cons r _, e => by
    simp at e; subst e
    exact ⟨_, by simp, r⟩
  | _, _, i + 1, d, .cons _ t, e => by
    obtain ⟨v, h1, h2⟩ := RepAs.get (i := i) (d := d) t (by simpa using e)
    exact ⟨v, by simpa using h1, h2⟩
theorem RepAs.getV : ∀ {vs : List V} {ds : List A} {i : Nat} {v : V}, RepAs K Bad H ρ vs ds → vs[i]? = some v → ∃ d, ds[i]? = some d ∧ RepA K Bad H ρ v d := fun {vs ds i v} h e => by
  have hi := (List.getElem?_eq_some_iff.mp e).1
  rw [h.length] at hi
  obtain ⟨w, e1, r⟩ := h.get (List.getElem?_eq_getElem hi)
  rw [e] at e1; cases e1
  exact ⟨_, List.getElem?_eq_getElem hi, r⟩
theorem RepAs.append : ∀ {vs ws : List V} {ds es : List A}, RepAs K Bad H ρ vs ds → RepAs K Bad H ρ ws es → RepAs K Bad H ρ (vs ++ ws) (ds ++ es)
  | _, _, _, _, .nil, g => g
  | _, _, _, _, .cons h t, g => .cons h (t.append g)
theorem RepAs.set {v : V} {d : A} (r : RepA K Bad H ρ v d) : ∀ {vs : List V} {ds : List A} (i : Nat), RepAs K Bad H ρ vs ds → RepAs K Bad H ρ (vs.set i v) (ds.set i d)
  | _, _, _, .nil => .nil
  | _, _, 0, .cons _ t => .cons r t
  | _, _, i + 1, .cons q t => .cons q (RepAs.set r i t)
theorem Reps.as : ∀ {vs : List V} {ds : List PyData}, Reps K Bad H vs ds → RepAs K Bad H ρ vs (ds.map .val)
  | _, _, .nil => .nil
  | _, _, .cons h t => .cons (.val h) t.as
theorem RepAs.vals : ∀ {vs : List V} {as : List A} {ds : List PyData}, RepAs K Bad H ρ vs as → valsOf as = some ds → Reps K Bad H vs ds
  | _, _, _, .nil, e => by cases e; exact .nil
  | _, _, ds, .cons (a := a) h t, e => by
    cases h with
    | val h =>
      have e' : (valsOf _).map (_ :: ·) = some ds := e
      obtain ⟨es, e1, rfl⟩ := Option.map_eq_some_iff.mp e'
      exact .cons h (t.vals e1)
    | ref h => cases e
    | tup h1 h2 => cases e
theorem RepA.atom {v : V} {a : A} (h : RepA K Bad H ρ v a) : a.atom = true := by cases h <;> rfl
end

/-- the attributes of an instance -/
def RepF (K : PySem.W.Frag) (Bad : Addr → Prop) (H : Hp) (ρ : List Addr) (vs : List (Str × V)) (fs : List (Str × A)) : Prop :=
  vs.map (·.1) = fs.map (·.1) ∧ RepAs K Bad H ρ (vs.map (·.2)) (fs.map (·.2))
/-- what stands at p is the cell's content -/
inductive ObjC (G : Gam) (Bad : Addr → Prop) (H : Hp) (ρ : List Addr) (p : Addr) : Cell → Prop
  | lst {xs : List V} {ds : List PyData} : H p = some (.lst xs) → Reps G.K Bad H xs ds → ObjC G Bad H ρ p (.lst ds)
  | refs {xs : List V} {as : List A} : H p = some (.lst xs) → RepAs G.K Bad H ρ xs as → ObjC G Bad H ρ p (.refs as)
  | inst {k : Nat} {C dx : Addr} {vs : List (Str × V)} {fs : List (Str × A)} : G.cl k = some C → H p = some (.ins C dx vs) → RepF G.K Bad H ρ vs fs → ObjC G Bad H ρ p (.inst k fs)
  | dead : H p ≠ none → ObjC G Bad H ρ p .dead
/-- a cell that lives -/
def Live (ρ : List Addr) (S : Store) (a : Addr) : Prop := ∃ (n : Nat) (c : Cell), ρ[n]? = some a ∧ S[n]? = some c ∧ c ≠ Cell.dead

section
variable {G : Gam} {Bad Bad' M : Addr → Prop} {H H' : Hp} {ρ ρ' : List Addr} {p : Addr} {c : Cell}
theorem RepF.ext {vs : List (Str × V)} {fs : List (Str × A)} (ok : BadOk Bad H) (hM : ∀ a, M a → Bad a ∨ H a = none) (e : Ext M H H') (hb : ∀ a, Bad' a → Bad a ∨ H a = none) (hρ : ρ <+: ρ') (h : RepF G.K Bad H ρ vs fs) : RepF G.K Bad' H' ρ' vs fs :=
  ⟨h.1, h.2.ext ok hM e hb hρ⟩
theorem ObjC.ext (ok : BadOk Bad H) (hM : ∀ a, M a → Bad a ∨ H a = none) (e : Ext M H H') (hb : ∀ a, Bad' a → Bad a ∨ H a = none) (hρ : ρ <+: ρ') (np : ¬ M p) (h : ObjC G Bad H ρ p c) : ObjC G Bad' H' ρ' p c := by
  cases h with
  | lst h1 h2 => exact .lst (e.keep _ _ h1 np) (h2.ext ok hM e hb)
  | refs h1 h2 => exact .refs (e.keep _ _ h1 np) (h2.ext ok hM e hb hρ)
  | inst h1 h2 h3 => exact .inst h1 (e.keep _ _ h2 np) (h3.ext ok hM e hb hρ)
  | dead h =>
    obtain ⟨o, ho⟩ := Option.ne_none_iff_exists'.mp h
    exact .dead (by rw [e.keep _ _ ho np]; simp)
theorem ObjC.mutb (h : ObjC G Bad H ρ p c) (hc : c ≠ .dead) : Mut (H p) := by
  cases h with
  | lst h1 h2 => rw [h1]; trivial
  | refs h1 h2 => rw [h1]; trivial
  | inst h1 h2 h3 => rw [h2]; trivial
  | dead _ => exact absurd rfl hc
theorem ObjC.thr (h : ObjC G Bad H ρ p c) : H p ≠ none := by
  cases h with
  | lst h1 h2 => rw [h1]; simp
  | refs h1 h2 => rw [h1]; simp
  | inst h1 h2 h3 => rw [h2]; simp
  | dead h => exact h
theorem ObjC.anti (ok : BadOk Bad H) (hb : ∀ a, Bad' a → Bad a) (h : ObjC G Bad H ρ p c) : ObjC G Bad' H ρ p c :=
  h.ext (M := fun _ => False) ok (fun _ q => q.elim) .refl (fun a q => .inl (hb a q)) (List.prefix_refl _) id
end

/-- no cell from b on is in it -/
inductive Below (b : Nat) : A → Prop
  | val {d : PyData} : Below b (.val d)
  | ref {n : Nat} : n < b → Below b (.ref n)
  | tup {as : List A} : (∀ a ∈ as, Below b a) → Below b (.tup as)
theorem Below.mono {b b' : Nat} (h : b ≤ b') : ∀ {a : A}, Below b a → Below b' a
  | _, .val => .val
  | _, .ref q => .ref (Nat.lt_of_lt_of_le q h)
  | _, .tup q => .tup fun a m => Below.mono h (q a m)
def CBelow (b : Nat) : Cell → Prop
  | .refs as => ∀ a ∈ as, Below b a
  | .inst _ fs => ∀ q ∈ fs, Below b q.2
  | _ => True
/-- the cells below b hold none from b on -/
def Closed (b : Nat) (S : Store) : Prop := ∀ n c, n < b → S[n]? = some c → CBelow b c
section
variable {K : PySem.W.Frag} {Bad : Addr → Prop} {H : Hp} {ρ ρ' : List Addr}
mutual
theorem RepA.blw : ∀ {v : V} {a : A}, RepA K Bad H ρ v a → Below ρ.length a
  | _, _, .val _ => .val
  | _, _, .ref h => .ref (List.getElem?_eq_some_iff.mp h).1
  | _, _, .tup _ h2 => .tup h2.blw
theorem RepAs.blw : ∀ {v : List V} {as : List A}, RepAs K Bad H ρ v as → ∀ a ∈ as, Below ρ.length a
  | _, _, .nil, _, m => nomatch m
  | _, _, .cons h t, a, m => (List.mem_cons.mp m).elim (fun e => e ▸ h.blw) (t.blw a)
end
mutual
/-- the younger cells are forgotten -/
theorem RepA.trunc (hρ : ρ <+: ρ') : ∀ {v : V} {a : A}, RepA K Bad H ρ' v a → Below ρ.length a → RepA K Bad H ρ v a
  | _, _, .val h, _ => .val h
  | _, _, .ref h, .ref q => .ref (by obtain ⟨t, rfl⟩ := hρ; rw [List.getElem?_append_left q] at h; exact h)
  | _, _, .tup h1 h2, .tup q => .tup h1 (h2.trunc hρ q)
theorem RepAs.trunc (hρ : ρ <+: ρ') : ∀ {v : List V} {as : List A}, RepAs K Bad H ρ' v as → (∀ a ∈ as, Below ρ.length a) → RepAs K Bad H ρ v as
  | _, _, .nil, _ => .nil
  | _, _, .cons h t, q => .cons (h.trunc hρ (q _ List.mem_cons_self)) (t.trunc hρ fun a m => q a (List.mem_cons_of_mem _ m))
end
theorem ObjC.blw {G : Gam} {p : Addr} {c : Cell} (h : ObjC G Bad H ρ p c) : CBelow ρ.length c := by
  cases h with
  | lst _ _ => trivial
  | refs _ h2 => exact h2.blw
  | inst _ _ h3 => exact fun q m => h3.2.blw q.2 (List.mem_map_of_mem m)
  | dead _ => trivial
theorem ObjC.trunc {G : Gam} {p : Addr} {c : Cell} (hρ : ρ <+: ρ') (h : ObjC G Bad H ρ' p c) (q : CBelow ρ.length c) : ObjC G Bad H ρ p c := by
  cases h with
  | lst h1 h2 => exact .lst h1 h2
  | refs h1 h2 => exact .refs h1 (h2.trunc hρ q)
  | inst h1 h2 h3 =>
    refine .inst h1 h2 ⟨h3.1, h3.2.trunc hρ fun a m => ?_⟩
    obtain ⟨f, hf, rfl⟩ := List.mem_map.mp m
    exact q f hf
  | dead h => exact .dead h
end

inductive RepD (K : PySem.W.Frag) (Bad : Addr → Prop) (H : Hp) (v : V) : PyData → Prop
  | of {d : PyData} : Rep K Bad H v d → RepD K Bad H v d
  | lst {p : Addr} {xs : List V} {ds : List PyData} : v = .ref p → H p = some (.lst xs) → Reps K Bad H xs ds → RepD K Bad H v (.list ds)
section
variable {K : PySem.W.Frag} {Bad : Addr → Prop} {H : Hp} {v : V} {d : PyData}
theorem RepD.list {ds : List PyData} (h : RepD K Bad H v (.list ds)) : ∃ p xs, v = .ref p ∧ SqL K H p xs ∧ Reps K Bad H xs ds := by
  cases h with
  | of h =>
    cases h with
    | lst h1 h2 => exact ⟨_, _, rfl, h1.sq, h2⟩
  | lst h1 h2 h3 => exact ⟨_, _, h1, .inl (.inl h2), h3⟩
theorem RepD.tuple {ds : List PyData} (h : RepD K Bad H v (.tuple ds)) : ∃ p xs, v = .ref p ∧ SqF K H p xs ∧ Reps K Bad H xs ds := by
  cases h with
  | of h =>
    cases h with
    | tup h1 h2 => exact ⟨_, _, rfl, h1, h2⟩
theorem RepD.int {i : Int} (h : RepD K Bad H v (.int i)) : v = .int i := by
  cases h with
  | of h => cases h; rfl
theorem RepD.str {x : Str} (h : RepD K Bad H v (.str x)) : v = .str x := by
  cases h with
  | of h => cases h; rfl
theorem RepD.bool {b : Bool} (h : RepD K Bad H v (.bool b)) : v = .bl b := by
  cases h with
  | of h => cases h; rfl
theorem RepD.none (h : RepD K Bad H v .none) : v = .non := by
  cases h with
  | of h => cases h; rfl
theorem RepD.dp (h : RepD K Bad H v d) : Dp K H v d := by
  cases h with
  | of h => exact h.dp
  | lst h1 h2 h3 =>
    subst h1
    exact .lst (.inl (.inl h2)) h3.dps
end
end Tr


namespace Tr
open PySem L2
open PySem.Spec PyProof.Rows

/-- B0: changing objects of others; ρ: the cells' addresses; He: the heap at the start; M: what may have been changed since;
bs: where the callers' cells end; xa: the exception of the suite, its class, its dict -/
structure Wd where
  B0 : Addr → Prop
  ρ : List Addr
  He : Hp
  M : Addr → Prop
  bs : Nat → Prop
  xa : Option (Addr × Nat × Option Addr)
abbrev Wd.up (wd : Wd) (ρ : List Addr) : Wd := { wd with ρ := ρ }
abbrev Wd.plus (wd : Wd) (p : Addr) : Wd := { wd with B0 := fun a => wd.B0 a ∨ a = p }
/-- the name i has the object at p alone -/
def OwnAt (σ : L2.St) (env : TEnv) (i : Nat) (p : Addr) : Prop := (∃ c, env[i]? = some (some (.own c))) ∧ σ[i]? = some (some (.ref p))
def Own (σ : L2.St) (env : TEnv) (p : Addr) : Prop := ∃ i, OwnAt σ env i p
def BadOf (wd : Wd) (σ : L2.St) (env : TEnv) (S : Store) (a : Addr) : Prop := (wd.B0 a ∨ Own σ env a) ∨ Live wd.ρ S a

/-- what a name holds -/
inductive RepV (G : Gam) (Bad : Addr → Prop) (H : Hp) (ρ : List Addr) (xa : Option (Addr × Nat × Option Addr)) (v : V) : A → Prop
  | at_ {a : A} : RepA G.K Bad H ρ v a → RepV G Bad H ρ xa v a
  | own {c : Cell} {p : Addr} : v = .ref p → ObjC G Bad H ρ p c → c ≠ .dead → RepV G Bad H ρ xa v (.own c)
  | exn {k : Nat} {d : PyData} {a : Addr} {x : Option Addr} : v = .ref a → xa = some (a, k, x) →
      (∀ f, G.xf k = some f → ∃ dd w, x = some dd ∧ H dd = some (.xd [(f, w)]) ∧ Rep G.K Bad H w d) → RepV G Bad H ρ xa v (.exn k d)

structure SR (G : Gam) (wd : Wd) (σ : L2.St) (H : Hp) (env : TEnv) (S : Store) : Prop where
  len : env.length = σ.length
  lenρ : wd.ρ.length = S.length
  var : ∀ (i : Nat) (a : A), env[i]? = some (some a) → ∃ v, σ[i]? = some (some v) ∧ RepV G (BadOf wd σ env S) H wd.ρ wd.xa v a
  cel : ∀ (n : Nat) (p : Addr) (c : Cell), wd.ρ[n]? = some p → S[n]? = some c → ObjC G (BadOf wd σ env S) H wd.ρ p c
  nd : wd.ρ.Nodup
  dist : ∀ i j p, OwnAt σ env i p → OwnAt σ env j p → i = j
  ownB : ∀ p, Own σ env p → ¬ wd.B0 p
  ownρ : ∀ p, Own σ env p → p ∉ wd.ρ
  liveB : ∀ p, Live wd.ρ S p → ¬ wd.B0 p
  b0 : ∀ p, wd.B0 p → Mut (H p)
  ownM : ∀ p, Own σ env p → wd.M p ∨ wd.He p = none
  ρM : ∀ p, Live wd.ρ S p → wd.M p ∨ wd.He p = none
  mM : ∀ p, wd.M p → Mut (wd.He p)
  ext : Ext wd.M wd.He H
  cl : ∀ b, wd.bs b → Closed b S
  bsb : ∀ b, wd.bs b → b ≤ G.C.base
  base : G.C.base ≤ S.length

/-- what an expression may do: change cells, make new objects and cells, give cells up -/
structure Step (wd : Wd) (S : Store) (H : Hp) (ρ' : List Addr) (S' : Store) (H' : Hp) : Prop where
  pre : wd.ρ <+: ρ'
  nd : ρ'.Nodup
  new : ∀ a ∈ ρ', a ∈ wd.ρ ∨ H a = none
  ext : Ext (Live wd.ρ S) H H'
  dead : ∀ n : Nat, S[n]? = some .dead → S'[n]? = some .dead

section
variable {G : Gam} {wd : Wd} {σ : L2.St} {H H' H1 H2 : Hp} {env : TEnv} {S S' S1 S2 : Store} {ρ' ρ1 ρ2 : List Addr}
theorem ownAt_lookup {i : Nat} {p : Addr} (h : OwnAt σ env i p) : ∃ c, env[i]? = some (some (.own c)) ∧ σ[i]? = some (some (.ref p)) := let ⟨⟨c, e⟩, e2⟩ := h; ⟨c, e, e2⟩
theorem SR.own (I : SR G wd σ H env S) {i : Nat} {p : Addr} {c : Cell} (e : env[i]? = some (some (.own c))) (h : σ[i]? = some (some (.ref p))) : ObjC G (BadOf wd σ env S) H wd.ρ p c ∧ c ≠ .dead := by
  obtain ⟨v, h1, h2⟩ := I.var i _ e
  rw [h] at h1
  cases h1
  cases h2 with
  | at_ h => cases h
  | own e1 h3 h4 => cases e1; exact ⟨h3, h4⟩
theorem SR.ownAt (I : SR G wd σ H env S) {i : Nat} {c : Cell} (e : env[i]? = some (some (.own c))) : ∃ p, OwnAt σ env i p ∧ ObjC G (BadOf wd σ env S) H wd.ρ p c ∧ c ≠ .dead := by
  obtain ⟨v, h1, h2⟩ := I.var i _ e
  cases h2 with
  | at_ h => cases h
  | own e1 h3 h4 => subst e1; exact ⟨_, ⟨⟨c, e⟩, h1⟩, h3, h4⟩
theorem SR.badOk (I : SR G wd σ H env S) : BadOk (BadOf wd σ env S) H := fun a h => by
  rcases h with (h | ⟨i, ⟨c, e⟩, h⟩) | ⟨n, c, h1, h2, h3⟩
  · exact I.b0 a h
  · obtain ⟨q, nc⟩ := I.own e h
    exact q.mutb nc
  · exact (I.cel n a c h1 h2).mutb h3
theorem SR.notBad (I : SR G wd σ H env S) {p : Addr} (h : H p = none) : ¬ BadOf wd σ env S p := fun z => Mut.some (I.badOk p z) h
theorem SR.noneHe (I : SR G wd σ H env S) {p : Addr} (h : H p = none) : wd.He p = none := I.ext.none I.mM h
theorem SR.liveMut (I : SR G wd σ H env S) {p : Addr} (h : Live wd.ρ S p) : Mut (H p) := I.badOk p (.inr h)

theorem Step.refl (h : wd.ρ.Nodup) : Step wd S H wd.ρ S H := ⟨List.prefix_refl _, h, fun a m => .inl m, .refl, fun _ e => e⟩
/-- what lives behind it lived ahead of it, or is new -/
theorem Step.live (st : Step wd S H ρ' S' H') (hl : wd.ρ.length = S.length) {a : Addr} (h : Live ρ' S' a) : Live wd.ρ S a ∨ H a = none := by
  obtain ⟨n, c, h1, h2, h3⟩ := h
  rcases st.new a (List.mem_of_getElem? h1) with m | m
  · obtain ⟨k, hk, e⟩ := List.mem_iff_getElem.mp m
    have e1 : ρ'[k]? = some a := by
      obtain ⟨t, rfl⟩ := st.pre
      rw [List.getElem?_append_left hk, List.getElem?_eq_getElem hk, e]
    have ek : k = n := by
      have l1 := List.getElem?_eq_some_iff.mp e1
      have l2 := List.getElem?_eq_some_iff.mp h1
      exact (List.getElem_inj st.nd).mp (l1.2.trans l2.2.symm)
    subst ek
    have hs : k < S.length := by rw [← hl]; exact hk
    refine .inl ⟨k, S[k], by rw [List.getElem?_eq_getElem hk, e], List.getElem?_eq_getElem hs, fun z => ?_⟩
    have := st.dead k (by rw [List.getElem?_eq_getElem hs, z])
    rw [h2] at this
    cases this
    exact h3 rfl
  · exact .inr m
theorem Step.trans (h : Step wd S H ρ1 S1 H1) (hl : wd.ρ.length = S.length) (hm : ∀ a, Live wd.ρ S a → Mut (H a)) (g : Step (wd.up ρ1) S1 H1 ρ2 S2 H2) : Step wd S H ρ2 S2 H2 := by
  have back : ∀ a, H1 a = none → H a = none := fun a e => h.ext.none hm e
  refine ⟨h.pre.trans g.pre, g.nd, fun a m => ?_, h.ext.chain g.ext fun a z => h.live hl z, fun n e => g.dead n (h.dead n e)⟩
  rcases g.new a m with z | z
  · exact h.new a z
  · exact .inr (back a z)
theorem SR.trans (I : SR G wd σ H env S) (h : Step wd S H ρ1 S1 H1) (g : Step (wd.up ρ1) S1 H1 ρ2 S2 H2) : Step wd S H ρ2 S2 H2 := h.trans I.lenρ (fun _ => I.liveMut) g
theorem SR.refl (I : SR G wd σ H env S) : Step wd S H wd.ρ S H := .refl I.nd

/-- no more is bad than was, but what is new -/
theorem SR.hb (I : SR G wd σ H env S) (st : Step wd S H ρ' S' H') : ∀ a, BadOf (wd.up ρ') σ env S' a → BadOf wd σ env S a ∨ H a = none := fun a z =>
  z.elim (fun z => .inl (.inl z)) fun z => (st.live I.lenρ z).imp .inr id
theorem SR.hM (I : SR G wd σ H env S) : ∀ a, Live wd.ρ S a → BadOf wd σ env S a ∨ H a = none := fun a z => .inl (.inr z)
theorem SR.keep (I : SR G wd σ H env S) (st : Step wd S H ρ' S' H') {v : V} {a : A} (h : RepA G.K (BadOf wd σ env S) H wd.ρ v a) : RepA G.K (BadOf (wd.up ρ') σ env S') H' ρ' v a :=
  h.ext I.badOk I.hM st.ext (I.hb st) st.pre
theorem SR.keepD (I : SR G wd σ H env S) (st : Step wd S H ρ' S' H') {v : V} {d : PyData} (h : Rep G.K (BadOf wd σ env S) H v d) : Rep G.K (BadOf (wd.up ρ') σ env S') H' v d :=
  h.ext I.badOk I.hM st.ext (I.hb st)
theorem SR.keepO (I : SR G wd σ H env S) (st : Step wd S H ρ' S' H') {p : Addr} {c : Cell} (hp : ¬ Live wd.ρ S p) (h : ObjC G (BadOf wd σ env S) H wd.ρ p c) : ObjC G (BadOf (wd.up ρ') σ env S') H' ρ' p c :=
  h.ext I.badOk I.hM st.ext (I.hb st) st.pre hp
theorem SR.ρsome (I : SR G wd σ H env S) {p : Addr} (h : p ∈ wd.ρ) : H p ≠ none := by
  obtain ⟨n, hn, e⟩ := List.mem_iff_getElem.mp h
  have hs : n < S.length := by rw [← I.lenρ]; exact hn
  exact (I.cel n p S[n] (by rw [List.getElem?_eq_getElem hn, e]) (List.getElem?_eq_getElem hs)).thr
theorem Live.mem {ρ : List Addr} {a : Addr} (h : Live ρ S a) : a ∈ ρ := let ⟨n, c, h1, _⟩ := h; List.mem_of_getElem? h1
theorem SR.ownLive (I : SR G wd σ H env S) {p : Addr} (h : Own σ env p) : ¬ Live wd.ρ S p := fun z => I.ownρ p h z.mem
theorem SR.ownSome (I : SR G wd σ H env S) {p : Addr} (h : Own σ env p) : H p ≠ none := Mut.some (I.badOk p (.inl (.inr h)))
/-- the cells have changed, and new objects stand -/
theorem SR.step (I : SR G wd σ H env S) (st : Step wd S H ρ' S' H') (hl : ρ'.length = S'.length)
    (hc : ∀ (n : Nat) (p : Addr) (c : Cell), ρ'[n]? = some p → S'[n]? = some c → ObjC G (BadOf (wd.up ρ') σ env S') H' ρ' p c) (hcl : ∀ b, wd.bs b → Closed b S') : SR G (wd.up ρ') σ H' env S' := by
  refine ⟨I.len, hl, fun i a h => ?_, hc, st.nd, I.dist, I.ownB, fun p h m => ?_, fun p h b => ?_, fun p h => st.ext.muts p (I.b0 p h), I.ownM, fun p h => ?_, I.mM, I.ext.chain st.ext fun a z => I.ρM a z, hcl, I.bsb, ?_⟩
  · obtain ⟨v, h1, h2⟩ := I.var i a h
    refine ⟨v, h1, ?_⟩
    cases h2 with
    | at_ h2 => exact .at_ (I.keep st h2)
    | own e1 h3 h4 => exact .own e1 (I.keepO st (I.ownLive ⟨i, ⟨_, h⟩, e1 ▸ h1⟩) h3) h4
    | exn e1 e2 h3 =>
      refine .exn e1 e2 fun f ef => ?_
      obtain ⟨dd, w, q1, q2, q3⟩ := h3 f ef
      refine ⟨dd, w, q1, st.ext.keep _ _ q2 fun z => ?_, I.keepD st q3⟩
      have := I.liveMut z
      rw [q2] at this
      exact this
  · rcases st.new p m with z | z
    · exact I.ownρ p h z
    · exact I.ownSome h z
  · rcases st.live I.lenρ h with z | z
    · exact I.liveB p z b
    · exact Mut.some (I.b0 p b) z
  · rcases st.live I.lenρ h with z | z
    · exact I.ρM p z
    · exact .inr (I.noneHe z)
  · have h1 := I.base
    have h2 := I.lenρ
    obtain ⟨t, e⟩ := st.pre
    have h3 : ρ'.length = wd.ρ.length + t.length := by rw [← e]; simp
    omega
/-- new objects stand -/
theorem Step.of_new (h : wd.ρ.Nodup) (e : Ext (fun _ => False) H H') : Step wd S H wd.ρ S H' := ⟨List.prefix_refl _, h, fun a m => .inl m, e.mono fun _ z => z.elim, fun _ q => q⟩
theorem SR.news (I : SR G wd σ H env S) (e : Ext (fun _ => False) H H') : SR G wd σ H' env S :=
  have st := Step.of_new (S := S) I.nd e
  I.step st I.lenρ (fun n p c h1 h2 => (I.cel n p c h1 h2).ext (M := fun _ => False) I.badOk (fun _ z => z.elim) e (fun a z => .inl z) (List.prefix_refl _) id) I.cl

theorem live_append {ρ : List Addr} {p : Addr} {c : Cell} (hl : ρ.length = S.length) (hc : c ≠ .dead) {a : Addr} : Live (ρ ++ [p]) (S ++ [c]) a ↔ Live ρ S a ∨ a = p := by
  constructor
  · rintro ⟨n, c', h1, h2, h3⟩
    by_cases hn : n < ρ.length
    · rw [List.getElem?_append_left hn] at h1
      rw [List.getElem?_append_left (by rw [← hl]; exact hn)] at h2
      exact .inl ⟨n, c', h1, h2, h3⟩
    · have l := (List.getElem?_eq_some_iff.mp h1).1
      rw [List.length_append, List.length_singleton] at l
      have e : n = ρ.length := by omega
      subst e
      rw [List.getElem?_append_right (Nat.le_refl _)] at h1
      exact .inr (by simpa using h1.symm)
  · rintro (⟨n, c', h1, h2, h3⟩ | rfl)
    · exact ⟨n, c', by rw [List.getElem?_append_left (List.getElem?_eq_some_iff.mp h1).1]; exact h1, by rw [List.getElem?_append_left (List.getElem?_eq_some_iff.mp h2).1]; exact h2, h3⟩
    · exact ⟨ρ.length, c, by simp, by rw [hl]; simp, hc⟩
/-- a new object of others becomes a cell -/
theorem SR.adopt {p : Addr} {c : Cell} (I : SR G (wd.plus p) σ H env S) (nB : ¬ wd.B0 p) (np : p ∉ wd.ρ) (hn : wd.He p = none) (ho : ObjC G (BadOf (wd.plus p) σ env S) H wd.ρ p c) (hc : c ≠ .dead) :
    SR G (wd.up (wd.ρ ++ [p])) σ H env (S ++ [c]) := by
  have hl : wd.ρ.length = S.length := I.lenρ
  have eb : ∀ a, BadOf (wd.up (wd.ρ ++ [p])) σ env (S ++ [c]) a → BadOf (wd.plus p) σ env S a := fun a z => by
    rcases z with (z | z) | z
    · exact .inl (.inl (.inl z))
    · exact .inl (.inr z)
    · rcases (live_append hl hc).mp z with z | z
      · exact .inr z
      · exact .inl (.inl (.inr z))
  have pre : wd.ρ <+: wd.ρ ++ [p] := List.prefix_append _ _
  have X : ∀ {q : Addr} {d : Cell}, ObjC G (BadOf (wd.plus p) σ env S) H wd.ρ q d → ObjC G (BadOf (wd.up (wd.ρ ++ [p])) σ env (S ++ [c])) H (wd.ρ ++ [p]) q d := fun h =>
    h.ext (M := fun _ => False) I.badOk (fun _ z => z.elim) .refl (fun a z => .inl (eb a z)) pre id
  refine ⟨I.len, by simp [hl], fun i a h => ?_, fun n q d h1 h2 => ?_, ?_, I.dist, fun q h z => I.ownB q h (.inl z), fun q h m => ?_, fun q h z => ?_, fun q h => I.b0 q (.inl h), I.ownM, fun q h => ?_, I.mM, I.ext, fun b hb n d hn' e => ?_, I.bsb, ?_⟩
  · obtain ⟨v, h1, h2⟩ := I.var i a h
    refine ⟨v, h1, ?_⟩
    cases h2 with
    | at_ h2 => exact .at_ (h2.ext (M := fun _ => False) I.badOk (fun _ z => z.elim) .refl (fun a z => .inl (eb a z)) pre)
    | own e1 h3 h4 => exact .own e1 (X h3) h4
    | exn e1 e2 h3 => exact .exn e1 e2 fun f ef => let ⟨dd, w, q1, q2, q3⟩ := h3 f ef; ⟨dd, w, q1, q2, q3.anti I.badOk eb⟩
  · have h1 : (wd.ρ ++ [p])[n]? = some q := h1
    by_cases hn : n < wd.ρ.length
    · rw [List.getElem?_append_left hn] at h1
      rw [List.getElem?_append_left (by rw [← hl]; exact hn)] at h2
      exact X (I.cel n q d h1 h2)
    · have l := (List.getElem?_eq_some_iff.mp h1).1
      rw [List.length_append, List.length_singleton] at l
      have e : n = wd.ρ.length := by omega
      subst e
      rw [List.getElem?_append_right (Nat.le_refl _)] at h1
      have e1 : q = p := by simpa using h1.symm
      rw [hl] at h2
      have e2 : d = c := by simpa using h2.symm
      subst e1 e2
      exact X ho
  · refine List.nodup_append.mpr ⟨I.nd, by simp, fun a ha b hb' => ?_⟩
    have e : b = p := by simpa using hb'
    subst e
    exact fun z => np (z ▸ ha)
  · rcases List.mem_append.mp m with z | z
    · exact I.ownρ q h z
    · have e : q = p := by simpa using z
      exact I.ownB q h (.inr e)
  · rcases (live_append hl hc).mp h with h | rfl
    · exact I.liveB q h (.inl z)
    · exact nB z
  · rcases (live_append hl hc).mp h with h | rfl
    · exact I.ρM q h
    · exact .inr hn
  · have hb' := I.bsb b hb
    have hb2 := I.base
    rw [List.getElem?_append_left (by omega)] at e
    exact I.cl b hb n d hn' e
  · have := I.base
    simp only [List.length_append, List.length_singleton]
    omega

theorem OwnAt.names {i j : Nat} {v : V} {a : A} {q : Addr} (h : OwnAt (σ.set i (some v)) (env.set i (some a)) j q) : (i ≠ j ∧ OwnAt σ env j q) ∨ (i = j ∧ v = .ref q ∧ ∃ c, a = .own c) := by
  obtain ⟨⟨c, h1⟩, h2⟩ := h
  by_cases e : i = j
  · subst e
    refine .inr ⟨rfl, ?_⟩
    by_cases hi : i < env.length
    · rw [List.getElem?_set_self hi] at h1
      by_cases hi' : i < σ.length
      · rw [List.getElem?_set_self hi'] at h2
        cases h1
        cases h2
        exact ⟨rfl, c, rfl⟩
      · rw [List.getElem?_eq_none (by simpa using hi')] at h2; cases h2
    · rw [List.getElem?_eq_none (by simpa using hi)] at h1; cases h1
  · rw [List.getElem?_set_ne e] at h1 h2
    exact .inl ⟨e, ⟨c, h1⟩, h2⟩
/-- a name takes what is no object of its own -/
theorem SR.setV (I : SR G wd σ H env S) {i : Nat} {v : V} {a : A} (r : RepV G (BadOf wd σ env S) H wd.ρ wd.xa v a) (hn : ∀ c, a ≠ .own c) : SR G wd (σ.set i (some v)) H (env.set i (some a)) S := by
  have ho : ∀ j q, OwnAt (σ.set i (some v)) (env.set i (some a)) j q → OwnAt σ env j q := fun j q h => by
    rcases h.names with h | ⟨_, _, c, h⟩
    · exact h.2
    · exact absurd h (hn c)
  have ho' : ∀ q, Own (σ.set i (some v)) (env.set i (some a)) q → Own σ env q := fun q ⟨j, h⟩ => ⟨j, ho j q h⟩
  have hb : ∀ q, BadOf wd (σ.set i (some v)) (env.set i (some a)) S q → BadOf wd σ env S q := fun q h => h.imp (fun h => h.imp id (ho' q)) id
  have rv : ∀ {w : V} {b : A}, RepV G (BadOf wd σ env S) H wd.ρ wd.xa w b → RepV G (BadOf wd (σ.set i (some v)) (env.set i (some a)) S) H wd.ρ wd.xa w b := fun h => by
    cases h with
    | at_ h2 => exact .at_ (h2.anti I.badOk hb)
    | own e1 h3 h4 => exact .own e1 (h3.anti I.badOk hb) h4
    | exn e1 e2 h3 => exact .exn e1 e2 fun f ef => let ⟨dd, w, q1, q2, q3⟩ := h3 f ef; ⟨dd, w, q1, q2, q3.anti I.badOk hb⟩
  refine ⟨by simp [I.len], I.lenρ, fun j b h => ?_, fun n p c h1 h2 => (I.cel n p c h1 h2).anti I.badOk hb, I.nd, fun j k p h1 h2 => I.dist j k p (ho j p h1) (ho k p h2), fun p h => I.ownB p (ho' p h), fun p h => I.ownρ p (ho' p h), I.liveB, I.b0, fun p h => I.ownM p (ho' p h), I.ρM, I.mM, I.ext, I.cl, I.bsb, I.base⟩
  by_cases e : i = j
  · subst e
    by_cases hi : i < env.length
    · rw [List.getElem?_set_self hi] at h
      cases h
      exact ⟨v, List.getElem?_set_self (by rw [← I.len]; exact hi), rv r⟩
    · rw [List.getElem?_eq_none (by simpa using hi)] at h; cases h
  · rw [List.getElem?_set_ne e] at h ⊢
    obtain ⟨w, q1, q2⟩ := I.var j b h
    exact ⟨w, q1, rv q2⟩
/-- a name is wiped out -/
theorem SR.setN (I : SR G wd σ H env S) {i : Nat} {u : Option V} : SR G wd (σ.set i u) H (env.set i none) S := by
  have ho : ∀ j q, OwnAt (σ.set i u) (env.set i none) j q → OwnAt σ env j q := fun j q ⟨⟨c, h1⟩, h2⟩ => by
    by_cases e : i = j
    · subst e
      by_cases hi : i < env.length
      · rw [List.getElem?_set_self hi] at h1; cases h1
      · rw [List.getElem?_eq_none (by simpa using hi)] at h1; cases h1
    · rw [List.getElem?_set_ne e] at h1 h2
      exact ⟨⟨c, h1⟩, h2⟩
  have ho' : ∀ q, Own (σ.set i u) (env.set i none) q → Own σ env q := fun q ⟨j, h⟩ => ⟨j, ho j q h⟩
  have hb : ∀ q, BadOf wd (σ.set i u) (env.set i none) S q → BadOf wd σ env S q := fun q h => h.imp (fun h => h.imp id (ho' q)) id
  refine ⟨by simp [I.len], I.lenρ, fun j b h => ?_, fun n p c h1 h2 => (I.cel n p c h1 h2).anti I.badOk hb, I.nd, fun j k p h1 h2 => I.dist j k p (ho j p h1) (ho k p h2), fun p h => I.ownB p (ho' p h), fun p h => I.ownρ p (ho' p h), I.liveB, I.b0, fun p h => I.ownM p (ho' p h), I.ρM, I.mM, I.ext, I.cl, I.bsb, I.base⟩
  by_cases e : i = j
  · subst e
    by_cases hi : i < env.length
    · rw [List.getElem?_set_self hi] at h; cases h
    · rw [List.getElem?_eq_none (by simpa using hi)] at h; cases h
  · rw [List.getElem?_set_ne e] at h ⊢
    obtain ⟨w, q1, q2⟩ := I.var j b h
    refine ⟨w, q1, ?_⟩
    cases q2 with
    | at_ h2 => exact .at_ (h2.anti I.badOk hb)
    | own e1 h3 h4 => exact .own e1 (h3.anti I.badOk hb) h4
    | exn e1 e2 h3 => exact .exn e1 e2 fun f ef => let ⟨dd, w, q1, q2, q3⟩ := h3 f ef; ⟨dd, w, q1, q2, q3.anti I.badOk hb⟩
/-- a name takes a new object of others as its own -/
theorem SR.setO {p : Addr} {c : Cell} (I : SR G (wd.plus p) σ H env S) {i : Nat} (nB : ¬ wd.B0 p) (np : p ∉ wd.ρ) (hn : wd.He p = none) (ho : ObjC G (BadOf (wd.plus p) σ env S) H wd.ρ p c) (hc : c ≠ .dead) :
    SR G wd (σ.set i (some (.ref p))) H (env.set i (some (.own c))) S := by
  have oa : ∀ j q, OwnAt (σ.set i (some (.ref p))) (env.set i (some (.own c))) j q → (i ≠ j ∧ OwnAt σ env j q) ∨ (i = j ∧ q = p) := fun j q h => by
    rcases h.names with h | ⟨h1, h2, _⟩
    · exact .inl h
    · exact .inr ⟨h1, by cases h2; rfl⟩
  have oa' : ∀ q, Own (σ.set i (some (.ref p))) (env.set i (some (.own c))) q → Own σ env q ∨ q = p := fun q ⟨j, h⟩ => (oa j q h).elim (fun z => .inl ⟨j, z.2⟩) fun z => .inr z.2
  have hb : ∀ q, BadOf wd (σ.set i (some (.ref p))) (env.set i (some (.own c))) S q → BadOf (wd.plus p) σ env S q := fun q h => by
    rcases h with (h | h) | h
    · exact .inl (.inl (.inl h))
    · rcases oa' q h with h | h
      · exact .inl (.inr h)
      · exact .inl (.inl (.inr h))
    · exact .inr h
  have nown : ¬ Own σ env p := fun z => I.ownB p z (.inr rfl)
  refine ⟨by simp [I.len], I.lenρ, fun j b h => ?_, fun n q d h1 h2 => (I.cel n q d h1 h2).anti I.badOk hb, I.nd, fun j k q g1 g2 => ?_, fun q h z => ?_, fun q h => ?_, fun q h z => I.liveB q h (.inl z), fun q h => I.b0 q (.inl h), fun q h => ?_, I.ρM, I.mM, I.ext, I.cl, I.bsb, I.base⟩
  · by_cases e : i = j
    · subst e
      by_cases hi : i < env.length
      · rw [List.getElem?_set_self hi] at h
        cases h
        exact ⟨_, List.getElem?_set_self (by rw [← I.len]; exact hi), .own rfl (ho.anti I.badOk hb) hc⟩
      · rw [List.getElem?_eq_none (by simpa using hi)] at h; cases h
    · rw [List.getElem?_set_ne e] at h ⊢
      obtain ⟨w, q1, q2⟩ := I.var j b h
      refine ⟨w, q1, ?_⟩
      cases q2 with
      | at_ h2 => exact .at_ (h2.anti I.badOk hb)
      | own e1 h3 h4 => exact .own e1 (h3.anti I.badOk hb) h4
      | exn e1 e2 h3 => exact .exn e1 e2 fun f ef => let ⟨dd, w, q1, q2, q3⟩ := h3 f ef; ⟨dd, w, q1, q2, q3.anti I.badOk hb⟩
  · rcases oa j q g1 with ⟨_, f1⟩ | ⟨e1, e2⟩
    · rcases oa k q g2 with ⟨_, f2⟩ | ⟨e1, e2⟩
      · exact I.dist j k q f1 f2
      · exact absurd ⟨j, e2 ▸ f1⟩ nown
    · rcases oa k q g2 with ⟨_, f2⟩ | ⟨e3, _⟩
      · exact absurd ⟨k, e2 ▸ f2⟩ nown
      · exact e1.symm.trans e3
  · rcases oa' q h with h | rfl
    · exact I.ownB q h (.inl z)
    · exact nB z
  · rcases oa' q h with h | rfl
    · exact I.ownρ q h
    · exact np
  · rcases oa' q h with h | rfl
    · exact I.ownM q h
    · exact .inr hn
/-- one more object of others -/
theorem SR.more (I : SR G wd σ H env S) {p : Addr} {o : HO} (h : H p = none) (ho : Mut (some o)) : SR G (wd.plus p) σ (upd H p o) env S := by
  have J := I.news (H' := upd H p o) (.new h)
  have np : ∀ q, BadOf wd σ env S q → q ≠ p := fun q z e => I.notBad h (e ▸ z)
  have hM : ∀ a, False → BadOf wd σ env S a ∨ H a = none := fun a z => z.elim
  have hb : ∀ a, BadOf (wd.plus p) σ env S a → BadOf wd σ env S a ∨ H a = none := fun a z => by
    rcases z with ((z | z) | z) | z
    · exact .inl (.inl (.inl z))
    · exact .inr (by rw [z]; exact h)
    · exact .inl (.inl (.inr z))
    · exact .inl (.inr z)
  have e : Ext (fun _ => False) H (upd H p o) := .new h
  have X : ∀ {q : Addr} {d : Cell}, ObjC G (BadOf wd σ env S) H wd.ρ q d → ObjC G (BadOf (wd.plus p) σ env S) (upd H p o) wd.ρ q d := fun z => z.ext I.badOk hM e hb (List.prefix_refl _) id
  refine ⟨I.len, I.lenρ, fun i a q => ?_, fun n q d h1 h2 => X (I.cel n q d h1 h2), I.nd, I.dist, fun q h1 z => z.elim (I.ownB q h1) (np q (.inl (.inr h1))), I.ownρ, fun q h1 z => z.elim (I.liveB q h1) (np q (.inr h1)), fun q z => ?_, I.ownM, I.ρM, I.mM, J.ext, I.cl, I.bsb, I.base⟩
  · obtain ⟨v, h1, h2⟩ := I.var i a q
    refine ⟨v, h1, ?_⟩
    cases h2 with
    | at_ h2 => exact .at_ (h2.ext I.badOk hM e hb (List.prefix_refl _))
    | own e1 h3 h4 => exact .own e1 (X h3) h4
    | exn e1 e2 h3 => exact .exn e1 e2 fun f ef => let ⟨dd, w, q1, q2, q3⟩ := h3 f ef; ⟨dd, w, q1, e.keep _ _ q2 id, q3.ext I.badOk hM e hb⟩
  · rcases z with z | z
    · exact e.muts q (I.b0 q z)
    · rw [z, upd_same]; exact ho
/-- .. and one less -/
theorem SR.less {p : Addr} (I : SR G (wd.plus p) σ H env S) : SR G wd σ H env S := by
  have hb : ∀ a, BadOf wd σ env S a → BadOf (wd.plus p) σ env S a := fun a z => z.imp (fun z => z.imp .inl id) id
  refine ⟨I.len, I.lenρ, fun i a q => ?_, fun n q d h1 h2 => (I.cel n q d h1 h2).anti I.badOk hb, I.nd, I.dist, fun q h1 z => I.ownB q h1 (.inl z), I.ownρ, fun q h1 z => I.liveB q h1 (.inl z), fun q z => I.b0 q (.inl z), I.ownM, I.ρM, I.mM, I.ext, I.cl, I.bsb, I.base⟩
  obtain ⟨v, h1, h2⟩ := I.var i a q
  refine ⟨v, h1, ?_⟩
  cases h2 with
  | at_ h2 => exact .at_ (h2.anti I.badOk hb)
  | own e1 h3 h4 => exact .own e1 (h3.anti I.badOk hb) h4
  | exn e1 e2 h3 => exact .exn e1 e2 fun f ef => let ⟨dd, w, q1, q2, q3⟩ := h3 f ef; ⟨dd, w, q1, q2, q3.anti I.badOk hb⟩

/-- an object of a name's own is changed -/
theorem SR.putO (I : SR G wd σ H env S) {i : Nat} {p : Addr} {c : Cell} {o : HO} (oa : OwnAt σ env i p) (ho : Mut (some o)) (hc : c ≠ .dead) (hr : ObjC G (BadOf wd σ env S) (upd H p o) wd.ρ p c) :
    SR G wd σ (upd H p o) (env.set i (some (.own c))) S := by
  obtain ⟨⟨c0, e0⟩, e1⟩ := id oa
  have hil : i < env.length := (List.getElem?_eq_some_iff.mp e0).1
  have eo : OwnAt σ (env.set i (some (.own c))) = OwnAt σ env := by
    funext j q
    refine propext ⟨fun ⟨⟨b, d⟩, f⟩ => ⟨?_, f⟩, fun ⟨⟨b, d⟩, f⟩ => ⟨?_, f⟩⟩
    · by_cases e : i = j
      · subst e; exact ⟨c0, e0⟩
      · rw [List.getElem?_set_ne e] at d; exact ⟨b, d⟩
    · by_cases e : i = j
      · subst e; exact ⟨c, List.getElem?_set_self hil⟩
      · exact ⟨b, by rw [List.getElem?_set_ne e]; exact d⟩
  have eo' : Own σ (env.set i (some (.own c))) = Own σ env := by unfold Own; rw [eo]
  have eb : BadOf wd σ (env.set i (some (.own c))) S = BadOf wd σ env S := by unfold BadOf; rw [eo']
  have op : Own σ env p := ⟨i, oa⟩
  have e : Ext (fun a => a = p) H (upd H p o) := .put rfl ho
  have hM : ∀ a, a = p → BadOf wd σ env S a ∨ H a = none := fun a z => .inl (z ▸ .inl (.inr op))
  have hb : ∀ a, BadOf wd σ env S a → BadOf wd σ env S a ∨ H a = none := fun a z => .inl z
  refine ⟨by simp [I.len], I.lenρ, fun j a q => ?_, fun n q d h1 h2 => ?_, I.nd, by rw [eo]; exact I.dist, by rw [eo']; exact I.ownB, by rw [eo']; exact I.ownρ, I.liveB, fun q h => e.muts q (I.b0 q h), by rw [eo']; exact I.ownM, I.ρM, I.mM, I.ext.chain e fun a z => z ▸ I.ownM p op, I.cl, I.bsb, I.base⟩
  · rw [eb]
    by_cases ej : i = j
    · subst ej
      rw [List.getElem?_set_self hil] at q
      cases q
      exact ⟨_, e1, .own rfl hr hc⟩
    · rw [List.getElem?_set_ne ej] at q
      obtain ⟨v, h1, h2⟩ := I.var j a q
      refine ⟨v, h1, ?_⟩
      cases h2 with
      | at_ h2 => exact .at_ (h2.ext I.badOk hM e hb (List.prefix_refl _))
      | own f1 h3 h4 => exact .own f1 (h3.ext I.badOk hM e hb (List.prefix_refl _) fun z => ej (I.dist i j _ oa ⟨⟨_, q⟩, by rw [← z, ← f1]; exact h1⟩)) h4
      | exn f1 f2 h3 =>
        refine .exn f1 f2 fun f ef => ?_
        obtain ⟨dd, w, q1, q2, q3⟩ := h3 f ef
        refine ⟨dd, w, q1, e.keep _ _ q2 fun z => ?_, q3.ext I.badOk hM e hb⟩
        have := I.badOk p (.inl (.inr op))
        rw [← z, q2] at this
        exact this
  · rw [eb]
    exact (I.cel n q d h1 h2).ext I.badOk hM e hb (List.prefix_refl _) fun z => I.ownρ p op (z ▸ List.mem_of_getElem? h1)
theorem getElem?_nodup {α : Type} {l : List α} (h : l.Nodup) {i j : Nat} {a : α} (e1 : l[i]? = some a) (e2 : l[j]? = some a) : i = j := by
  have l1 := List.getElem?_eq_some_iff.mp e1
  have l2 := List.getElem?_eq_some_iff.mp e2
  exact (List.getElem_inj h).mp (l1.2.trans l2.2.symm)
theorem live_set {ρ : List Addr} {n : Nat} {c c' : Cell} (e : S[n]? = some c) (hc : c ≠ .dead) {a : Addr} (h : Live ρ (S.set n c') a) : Live ρ S a := by
  obtain ⟨m, d, h1, h2, h3⟩ := h
  by_cases em : n = m
  · subst em; exact ⟨n, c, h1, e, hc⟩
  · rw [List.getElem?_set_ne em] at h2; exact ⟨m, d, h1, h2, h3⟩
/-- a cell is changed -/
theorem SR.putC (I : SR G wd σ H env S) {n : Nat} {p : Addr} {c c' : Cell} {o : HO} (hn : wd.ρ[n]? = some p) (e0 : S[n]? = some c) (hc0 : c ≠ .dead) (ho : Mut (some o)) (hr : ObjC G (BadOf wd σ env S) (upd H p o) wd.ρ p c')
    (hin : ∀ b, wd.bs b → n < b → CBelow b c') : SR G wd σ (upd H p o) env (S.set n c') ∧ Step wd S H wd.ρ (S.set n c') (upd H p o) := by
  have lp : Live wd.ρ S p := ⟨n, c, hn, e0, hc0⟩
  have hnl : n < S.length := (List.getElem?_eq_some_iff.mp e0).1
  have st : Step wd S H wd.ρ (S.set n c') (upd H p o) := by
    refine ⟨List.prefix_refl _, I.nd, fun a m => .inl m, .put lp ho, fun m e => ?_⟩
    by_cases em : n = m
    · subst em; rw [e0] at e; cases e; exact absurd rfl hc0
    · rw [List.getElem?_set_ne em]; exact e
  have e : Ext (fun a => a = p) H (upd H p o) := .put rfl ho
  have hM : ∀ a, a = p → BadOf wd σ env S a ∨ H a = none := fun a z => .inl (z ▸ .inr lp)
  have hb : ∀ a, BadOf wd σ env (S.set n c') a → BadOf wd σ env S a := fun a z => z.imp id (live_set e0 hc0)
  have hb' : ∀ a, BadOf wd σ env (S.set n c') a → BadOf wd σ env S a ∨ H a = none := fun a z => .inl (hb a z)
  have ok' : BadOk (BadOf wd σ env S) (upd H p o) := I.badOk.ext e
  refine ⟨I.step st (by rw [List.length_set]; exact I.lenρ) (fun m q d h1 h2 => ?_) fun b h m d hm e1 => ?_, st⟩
  · by_cases em : n = m
    · subst em
      rw [List.getElem?_set_self hnl] at h2
      cases h2
      rw [hn] at h1
      cases h1
      exact hr.anti ok' hb
    · rw [List.getElem?_set_ne em] at h2
      exact (I.cel m q d h1 h2).ext I.badOk hM e hb' (List.prefix_refl _) fun z => em (getElem?_nodup I.nd hn (z ▸ h1))
  · by_cases em : n = m
    · subst em
      rw [List.getElem?_set_self hnl] at e1
      cases e1
      exact hin b h hm
    · rw [List.getElem?_set_ne em] at e1
      exact I.cl b h m d hm e1
/-- a cell is given up: its list is changed no more -/
theorem SR.kill (I : SR G wd σ H env S) {n : Nat} {p : Addr} {c : Cell} (hn : wd.ρ[n]? = some p) (e0 : S[n]? = some c) (hc0 : c ≠ .dead) :
    SR G wd σ H env (S.set n .dead) ∧ Step wd S H wd.ρ (S.set n .dead) H ∧ (∀ a, BadOf wd σ env (S.set n .dead) a → BadOf wd σ env S a) ∧ ¬ BadOf wd σ env (S.set n .dead) p := by
  have lp : Live wd.ρ S p := ⟨n, c, hn, e0, hc0⟩
  have hnl : n < S.length := (List.getElem?_eq_some_iff.mp e0).1
  have st : Step wd S H wd.ρ (S.set n .dead) H := by
    refine ⟨List.prefix_refl _, I.nd, fun a m => .inl m, .refl, fun m e => ?_⟩
    by_cases em : n = m
    · subst em; rw [List.getElem?_set_self hnl]
    · rw [List.getElem?_set_ne em]; exact e
  have hb : ∀ a, BadOf wd σ env (S.set n .dead) a → BadOf wd σ env S a := fun a z => z.imp id (live_set e0 hc0)
  refine ⟨I.step st (by rw [List.length_set]; exact I.lenρ) (fun m q d h1 h2 => ?_) fun b h m d hm e1 => ?_, st, hb, fun z => ?_⟩
  · by_cases em : n = m
    · subst em
      rw [List.getElem?_set_self hnl] at h2
      cases h2
      exact .dead (I.cel n q c h1 e0).thr
    · rw [List.getElem?_set_ne em] at h2
      exact (I.cel m q d h1 h2).anti I.badOk hb
  · by_cases em : n = m
    · subst em
      rw [List.getElem?_set_self hnl] at e1
      cases e1
      trivial
    · rw [List.getElem?_set_ne em] at e1
      exact I.cl b h m d hm e1
  · rcases z with (z | z) | ⟨m, d, h1, h2, h3⟩
    · exact I.liveB p lp z
    · exact I.ownLive z lp
    · have em := getElem?_nodup I.nd hn h1
      subst em
      rw [List.getElem?_set_self hnl] at h2
      cases h2
      exact h3 rfl
/-- what a name has alone is changed no more -/
theorem SR.relO (I : SR G wd σ H env S) {i : Nat} {ds : List PyData} (e0 : env[i]? = some (some (.own (.lst ds)))) : SR G wd σ H (env.set i (some (.val (.list ds)))) S := by
  obtain ⟨p, oa, ho, _⟩ := I.ownAt e0
  have hil : i < env.length := (List.getElem?_eq_some_iff.mp e0).1
  have oe : ∀ j q, OwnAt σ (env.set i (some (.val (.list ds)))) j q → i ≠ j ∧ OwnAt σ env j q := fun j q ⟨⟨c, h1⟩, h2⟩ => by
    by_cases e : i = j
    · subst e
      rw [List.getElem?_set_self hil] at h1; cases h1
    · rw [List.getElem?_set_ne e] at h1
      exact ⟨e, ⟨c, h1⟩, h2⟩
  have oe' : ∀ q, Own σ (env.set i (some (.val (.list ds)))) q → Own σ env q := fun q ⟨j, h⟩ => ⟨j, (oe j q h).2⟩
  have hb : ∀ q, BadOf wd σ (env.set i (some (.val (.list ds)))) S q → BadOf wd σ env S q := fun q h => h.imp (fun h => h.imp id (oe' q)) id
  have np : ¬ BadOf wd σ (env.set i (some (.val (.list ds)))) S p := fun z => by
    rcases z with (z | ⟨j, z⟩) | z
    · exact I.ownB p ⟨i, oa⟩ z
    · obtain ⟨ne, z⟩ := oe j p z
      exact ne (I.dist i j p oa z)
    · exact I.ownLive ⟨i, oa⟩ z
  refine ⟨by simp [I.len], I.lenρ, fun j b h => ?_, fun n q d h1 h2 => (I.cel n q d h1 h2).anti I.badOk hb, I.nd, fun j k q h1 h2 => I.dist j k q (oe j q h1).2 (oe k q h2).2, fun q h => I.ownB q (oe' q h), fun q h => I.ownρ q (oe' q h), I.liveB, I.b0, fun q h => I.ownM q (oe' q h), I.ρM, I.mM, I.ext, I.cl, I.bsb, I.base⟩
  by_cases e : i = j
  · subst e
    rw [List.getElem?_set_self hil] at h
    cases h
    cases ho with
    | lst h1 h2 => exact ⟨_, oa.2, .at_ (.val (.lst (.inl ⟨.inl h1, np⟩) (h2.anti I.badOk hb)))⟩
  · rw [List.getElem?_set_ne e] at h
    obtain ⟨w, q1, q2⟩ := I.var j b h
    refine ⟨w, q1, ?_⟩
    cases q2 with
    | at_ h2 => exact .at_ (h2.anti I.badOk hb)
    | own e1 h3 h4 => exact .own e1 (h3.anti I.badOk hb) h4
    | exn e1 e2 h3 => exact .exn e1 e2 fun f ef => let ⟨dd, w, q1, q2, q3⟩ := h3 f ef; ⟨dd, w, q1, q2, q3.anti I.badOk hb⟩

/-- the walk starts here -/
def Wd.now (wd : Wd) (σ : L2.St) (env : TEnv) (S : Store) (H : Hp) : Wd := { wd with He := H, M := fun a => Own σ env a ∨ Live wd.ρ S a }
theorem SR.now (I : SR G wd σ H env S) : SR G (wd.now σ env S H) σ H env S :=
  ⟨I.len, I.lenρ, I.var, I.cel, I.nd, I.dist, I.ownB, I.ownρ, I.liveB, I.b0, fun p h => .inl (.inl h), fun p h => .inl (.inr h), fun p h => I.badOk p (h.elim (fun z => .inl (.inr z)) .inr), .refl, I.cl, I.bsb, I.base⟩
theorem SR.nowM (I0 : SR G wd σ H1 env S) {a : Addr} (z : (wd.now σ env S H1).M a) : wd.M a ∨ wd.He a = none := z.elim (I0.ownM a) (I0.ρM a)
theorem SR.since (I0 : SR G wd σ H1 env S) {τ : L2.St} {env' : TEnv} (J : SR G ((wd.now σ env S H1).up ρ') τ H env' S') : SR G (wd.up ρ') τ H env' S' := by
  have hN : ∀ a, ((wd.now σ env S H1).M a ∨ H1 a = none) → wd.M a ∨ wd.He a = none := fun a z => z.elim I0.nowM fun z => .inr (I0.noneHe z)
  exact ⟨J.len, J.lenρ, J.var, J.cel, J.nd, J.dist, J.ownB, J.ownρ, J.liveB, J.b0, fun p h => hN p (J.ownM p h), fun p h => hN p (J.ρM p h), I0.mM, I0.ext.chain J.ext fun a => I0.nowM, J.cl, J.bsb, J.base⟩
end
end Tr


namespace Tr
open PySem L2
open PySem.Spec PyProof.Rows

def New (H H' : Hp) : Prop := H' = H ∨ ∃ p o, H p = none ∧ H' = upd H p o
theorem New.ext {M : Addr → Prop} {H H' : Hp} (h : New H H') : Ext M H H' := by
  rcases h with rfl | ⟨p, o, h, rfl⟩
  · exact .refl
  · exact .new h
structure OpPost (K : PySem.W.Frag) (Bad : Addr → Prop) (H : Hp) (fr : Bool) (g : PyData) (v : V) (H' : Hp) : Prop where
  new : New H H'
  rep : Rep K Bad H' v g
  fresh : fr = true → ∀ gs, g = .list gs → ∃ p xs, v = .ref p ∧ H p = none ∧ H' = upd H p (.lst xs) ∧ Reps K Bad H xs gs
section
variable {K : PySem.W.Frag} {Bad : Addr → Prop} {H : Hp} {fr : Bool} {g : PyData} {v : V} {Q : VK}
theorem OpPost.same (r : Rep K Bad H v g) (h : fr = true → ∀ gs, g ≠ .list gs) : OpPost K Bad H fr g v H := ⟨.inl rfl, r, fun f gs e => absurd e (h f gs)⟩
theorem OpPost.int (i : Int) : OpPost K Bad H fr (.int i) (.int i) H := .same (.int i) fun _ _ e => nomatch e
theorem OpPost.bool (b : Bool) : OpPost K Bad H fr (.bool b) (.bl b) H := .same (.bl b) fun _ _ e => nomatch e
theorem OpPost.str (b : Str) : OpPost K Bad H fr (.str b) (.str b) H := .same (.str b) fun _ _ e => nomatch e
theorem notBad (ok : BadOk Bad H) {p : Addr} (h : H p = none) : ¬ Bad p := fun b => Mut.some (ok p b) h
theorem OpPost.list (ok : BadOk Bad H) {p : Addr} (h : H p = none) {xs : List V} {gs : List PyData} (r : Reps K Bad H xs gs) : OpPost K Bad H fr (.list gs) (.ref p) (upd H p (.lst xs)) := by
  refine ⟨.inr ⟨p, _, h, rfl⟩, .lst (.inl ⟨.inl upd_same, notBad ok h⟩) (r.ext (M := fun _ => False) ok (fun _ q => q.elim) (.new h) fun a q => .inl q), fun _ gs' e => ?_⟩
  cases e
  exact ⟨p, xs, rfl, h, rfl, r⟩
theorem OpPost.tuple (ok : BadOk Bad H) {p : Addr} (h : H p = none) {o : Obj} (hd : o.dict = none) {xs : List V} {gs : List PyData} (r : Reps K Bad H xs gs) : OpPost K Bad H fr (.tuple gs) (.ref p) (upd H p (.frz o (.tup xs))) :=
  ⟨.inr ⟨p, _, h, rfl⟩, .tup (.inl ⟨o, upd_same, hd⟩) (r.ext (M := fun _ => False) ok (fun _ q => q.elim) (.new h) fun a q => .inl q), fun _ gs' e => nomatch e⟩
end

/-- a reading by data of a two-place operation -/
def rD (K : PySem.W.Frag) (f : PyData → PyData → Option PyData) : R2 := fun x y H Q => ∃ Bad d e g, BadOk Bad H ∧ RepD K Bad H x d ∧ RepD K Bad H y e ∧ f d e = some g ∧ ∀ v H', OpPost K Bad H true g v H' → Q v H'
/-- not new -/
def rD0 (K : PySem.W.Frag) (f : PyData → PyData → Option PyData) : R2 := fun x y H Q => ∃ Bad d e g, BadOk Bad H ∧ RepD K Bad H x d ∧ RepD K Bad H y e ∧ f d e = some g ∧ ∀ v H', OpPost K Bad H false g v H' → Q v H'

theorem RepD.lst_at {K : PySem.W.Frag} {Bad : Addr → Prop} {H : Hp} {v : V} {ds : List PyData} (h : RepD K Bad H v (.list ds)) : ∃ p xs, v = .ref p ∧ SqL K H p xs ∧ Reps K Bad H xs ds := h.list

section
variable {X : Cx}
/-- list + list, whatever they are -/
theorem op_cat_sq : OpR X (binaryOp .Add) (fun x y H Q => ∃ a b xs ys, x = .ref a ∧ y = .ref b ∧ SqL X.K H a xs ∧ SqL X.K H b ys ∧ xs.length + ys.length ≤ sizeLine ∧ ∀ p, H p = none → Q (.ref p) (upd H p (.lst (xs ++ ys)))) := by
  intro pins s σ H x y v u Q I rx ry h
  obtain ⟨a, b, xs, ys, rfl, rfl, ha, hb, hz, q⟩ := h
  cases rx
  cases ry
  obtain ⟨its, r1, ⟨⟨c1, d1, t1, sl1⟩, n1, e1, hc1, hd1, ht1⟩, _⟩ := I.list ha
  obtain ⟨its2, r2, ⟨⟨c2, d2, t2, sl2⟩, n2, e2, hc2, hd2, ht2⟩, _⟩ := I.list hb
  dsimp only at hc1 hd1 ht1 hc2 hd2 ht2
  subst hc1 hd1 ht1 hc2 hd2 ht2
  have l1 := r1.length
  have l2 := r2.length
  refine concat_meets ⟨_, e1, rfl⟩ ⟨_, e2, rfl⟩ noFill_list_add seq_list_add PySem.F.slot_list_add PySem.F.entry_list_add
    (PySem.F.args_list_add_2 _ _) (list_addW a b _ _ n1 n2 none none sl1 sl2 (by rw [List.size_toArray, List.size_toArray]; omega)) ⟨e1, e2, ?_⟩
  have ea : its.toArray ++ its2.toArray = (its ++ its2).toArray := by simp
  rw [ea]
  exact ⟨.ref _, _, I.lnew (t' := s.toks) (r1.append r2) (by rw [List.length_append]; omega), rfl, q _ I.fresh⟩
theorem or2 {f : Value → Value → Sem Value} {r r' : R2} (h : OpR X f r) (h' : OpR X f r') : OpR X f (fun x y H Q => r x y H Q ∨ r' x y H Q) := by
  intro pins s σ H x y v u Q I rx ry q
  rcases q with q | q
  · exact h pins s σ H x y v u Q I rx ry q
  · exact h' pins s σ H x y v u Q I rx ry q
theorem imp2 {f : Value → Value → Sem Value} {r r' : R2} (h : OpR X f r) (i : ∀ x y H Q, r' x y H Q → r x y H Q) : OpR X f r' :=
  fun pins s σ H x y v u Q I rx ry q => h pins s σ H x y v u Q I rx ry (i x y H Q q)
def opOf : BOp → Operator
  | .add => .Add
  | .sub => .Sub
  | .mul => .Mult
  | .fdiv => .FloorDiv
  | .mod => .Mod
  | .pow => .Pow
theorem op_bin (o : BOp) : OpR X (binaryOp (opOf o)) (rD X.K (binD o)) := by
  cases o with
  | add =>
    refine imp2 (or2 (op_add (X := X)) (or2 op_add_str (or2 op_cat_sq op_catF))) fun x y H Q h => ?_
    obtain ⟨Bad, d, e, g, ok, hx, hy, hf, q⟩ := h
    cases d <;> cases e <;> simp only [binD, reduceCtorEq] at hf <;> try cases hf
    · rename_i i j
      exact .inl ⟨i, j, hx.int, hy.int, q _ _ (.int _)⟩
    · rename_i a b
      split at hf
      · cases hf
        rename_i hz
        exact .inr (.inl ⟨a, b, hx.str, hy.str, hz, q _ _ (.str _)⟩)
      · cases hf
    · split at hf
      · cases hf
        rename_i hz
        obtain ⟨p, xs, rfl, h1, h2⟩ := hx.list
        obtain ⟨p', ys, rfl, h1', h2'⟩ := hy.list
        exact .inr (.inr (.inl ⟨p, p', xs, ys, rfl, rfl, h1, h1', by rw [h2.length, h2'.length]; exact hz, fun r hr => q _ _ (.list ok hr (h2.append h2'))⟩))
      · cases hf
    · split at hf
      · cases hf
        rename_i hz
        obtain ⟨p, xs, rfl, h1, h2⟩ := hx.tuple
        obtain ⟨p', ys, rfl, h1', h2'⟩ := hy.tuple
        refine .inr (.inr (.inr ⟨p, p', xs, ys, rfl, rfl, h1.sq, h1'.sq, by rw [h2.length, h2'.length]; exact hz, fun e => ?_, fun _ e => ?_, fun _ _ r o hr hd => q _ _ (.tuple ok hr hd (h2.append h2'))⟩))
        · subst e
          cases h2
          exact q _ _ (.same (.tup h1' h2') fun _ _ e => nomatch e)
        · subst e
          cases h2'
          rw [List.append_nil] at q
          exact q _ _ (.same (.tup h1 h2) fun _ _ e => nomatch e)
      · cases hf
  | sub =>
    refine imp2 (op_sub (X := X)) fun x y H Q h => ?_
    obtain ⟨Bad, d, e, g, ok, hx, hy, hf, q⟩ := h
    cases d <;> cases e <;> simp only [binD, reduceCtorEq] at hf <;> cases hf
    exact ⟨_, _, hx.int, hy.int, q _ _ (.int _)⟩
  | mul =>
    refine imp2 (op_mul (X := X)) fun x y H Q h => ?_
    obtain ⟨Bad, d, e, g, ok, hx, hy, hf, q⟩ := h
    cases d <;> cases e <;> simp only [binD, reduceCtorEq] at hf <;> try cases hf
    split at hf
    · cases hf
      rename_i hz
      exact ⟨_, _, hx.int, hy.int, hz, q _ _ (.int _)⟩
    · cases hf
  | fdiv =>
    refine imp2 (op_fdivN (X := X)) fun x y H Q h => ?_
    obtain ⟨Bad, d, e, g, ok, hx, hy, hf, q⟩ := h
    cases d <;> cases e <;> simp only [binD, reduceCtorEq] at hf <;> try cases hf
    split at hf
    · cases hf
      rename_i hz
      exact ⟨_, _, hx.int, hy.int, hz, q _ _ (.int _)⟩
    · cases hf
  | mod =>
    refine imp2 (op_modN (X := X)) fun x y H Q h => ?_
    obtain ⟨Bad, d, e, g, ok, hx, hy, hf, q⟩ := h
    cases d <;> cases e <;> simp only [binD, reduceCtorEq] at hf <;> try cases hf
    split at hf
    · cases hf
      rename_i hz
      exact ⟨_, _, hx.int, hy.int, hz, q _ _ (.int _)⟩
    · cases hf
  | pow =>
    refine imp2 (op_pow (X := X)) fun x y H Q h => ?_
    obtain ⟨Bad, d, e, g, ok, hx, hy, hf, q⟩ := h
    cases d <;> cases e <;> simp only [binD, reduceCtorEq] at hf <;> try cases hf
    split at hf
    · cases hf
      rename_i hz
      exact ⟨_, _, hx.int, hy.int, hz, q _ _ (.int _)⟩
    · cases hf

def copOf : COp → CmpOp
  | .eq => .Eq
  | .ne => .NotEq
  | .lt => .Lt
  | .le => .LtE
  | .gt => .Gt
  | .ge => .GtE
  | .inn => .In
  | .nin => .NotIn
/-- a comparison by data: a bool, the heap as it was -/
def rC (K : PySem.W.Frag) (o : COp) : R2 := fun x y H Q => ∃ Bad d e b, BadOk Bad H ∧ RepD K Bad H x d ∧ RepD K Bad H y e ∧ cmpD o d e = some b ∧ Q (.bl b) H
theorem flat_rep {K : PySem.W.Frag} {Bad : Addr → Prop} {H : Hp} {v : V} {d : PyData} (h : Rep K Bad H v d) (f : flatD d = true) : flatV v = true := by
  cases h <;> first | rfl | (cases f; done)
theorem eqV_rep {K : PySem.W.Frag} {Bad : Addr → Prop} {H : Hp} {v w : V} {d e : PyData} (h : Rep K Bad H v d) (g : Rep K Bad H w e) (f : flatD d = true) (f' : flatD e = true) : eqV v w = PyData.eqv d e := by
  cases h <;> cases g <;> first | rfl | (cases f; done) | (cases f'; done)
theorem flats_rep {K : PySem.W.Frag} {Bad : Addr → Prop} {H : Hp} : ∀ {vs : List V} {ds : List PyData}, Reps K Bad H vs ds → ds.all flatD = true → vs.all flatV = true
  | _, _, .nil, _ => rfl
  | _, _, .cons h t, f => by
    rw [List.all_cons, Bool.and_eq_true] at f ⊢
    exact ⟨flat_rep h f.1, flats_rep t f.2⟩
theorem inV_rep {K : PySem.W.Frag} {Bad : Addr → Prop} {H : Hp} {v : V} {d : PyData} (h : Rep K Bad H v d) (fd : flatD d = true) : ∀ {vs : List V} {ds : List PyData}, Reps K Bad H vs ds → ds.all flatD = true → inV v vs = ds.any fun y => PyData.eqv y d
  | _, _, .nil, _ => rfl
  | _, _, .cons g t, f => by
    rw [List.all_cons, Bool.and_eq_true] at f
    have ih := inV_rep h fd t f.2
    unfold inV at ih ⊢
    rw [List.any_cons, List.any_cons, ih, eqV_rep g h f.1 fd]
theorem RepD.flat {K : PySem.W.Frag} {Bad : Addr → Prop} {H : Hp} {v : V} {d : PyData} (h : RepD K Bad H v d) (f : flatD d = true) : Rep K Bad H v d := by
  cases h with
  | of h => exact h
  | lst _ _ _ => cases f
theorem inD_ok {x : PyData} {ys : List PyData} {b : Bool} (h : inD x ys = some b) : flatD x = true ∧ ys.all flatD = true ∧ b = ys.any fun y => PyData.eqv y x := by
  unfold inD at h
  split at h
  · rename_i hc
    cases h
    exact ⟨hc.1, hc.2, rfl⟩
  · cases h
theorem in_rep {K : PySem.W.Frag} {Bad : Addr → Prop} {H : Hp} {x y : V} {d : PyData} {ys : List PyData} {xs : List V} {b : Bool} (hx : RepD K Bad H x d) (h2 : Reps K Bad H xs ys) (h : inD d ys = some b) :
    flatV x = true ∧ xs.all flatV = true ∧ inV x xs = b := by
  obtain ⟨f1, f2, rfl⟩ := inD_ok h
  exact ⟨flat_rep (hx.flat f1) f1, flats_rep h2 f2, inV_rep (hx.flat f1) f1 h2 f2⟩
theorem cmpD_gen {d e : PyData} (h : ¬ ∃ s t, d = .str s ∧ e = .str t) : cmpD .eq d e = if SeqAt.shaped d = true ∧ SeqAt.shaped e = true then some (PyData.eqv d e) else none := by
  cases d <;> first | (cases e <;> first | rfl | exact absurd ⟨_, _, rfl, rfl⟩ h) | rfl
theorem cmpD_gen' {d e : PyData} (h : ¬ ∃ s t, d = .str s ∧ e = .str t) : cmpD .ne d e = if SeqAt.shaped d = true ∧ SeqAt.shaped e = true then some (!PyData.eqv d e) else none := by
  cases d <;> first | (cases e <;> first | rfl | exact absurd ⟨_, _, rfl, rfl⟩ h) | rfl
theorem op_cmp (o : COp) (hu : X.A.units + 64 < cLine) : OpR X (compareOp (copOf o)) (rC X.K o) := by
  cases o with
  | eq =>
    refine imp2 (or2 (op_eqD hu) (op_eq (X := X))) fun x y H Q h => ?_
    obtain ⟨Bad, d, e, b, ok, hx, hy, hf, q⟩ := h
    by_cases hs : ∃ s t, d = .str s ∧ e = .str t
    · obtain ⟨s, t, rfl, rfl⟩ := hs
      cases hf
      rw [hx.str, hy.str]
      exact .inr ⟨rfl, by rw [show decide (V.str s = V.str t) = decide (s = t) from decide_eq_decide.mpr ⟨fun z => by cases z; rfl, fun z => by rw [z]⟩]; exact q⟩
    · rw [cmpD_gen hs] at hf
      split at hf
      · rename_i hc
        cases hf
        exact .inl ⟨d, e, hx.dp, hy.dp, hc.1, hc.2, q⟩
      · cases hf
  | ne =>
    refine imp2 (or2 (op_neD hu) (op_ne (X := X))) fun x y H Q h => ?_
    obtain ⟨Bad, d, e, b, ok, hx, hy, hf, q⟩ := h
    by_cases hs : ∃ s t, d = .str s ∧ e = .str t
    · obtain ⟨s, t, rfl, rfl⟩ := hs
      cases hf
      rw [hx.str, hy.str]
      exact .inr ⟨rfl, by rw [show decide (V.str s = V.str t) = decide (s = t) from decide_eq_decide.mpr ⟨fun z => by cases z; rfl, fun z => by rw [z]⟩]; exact q⟩
    · rw [cmpD_gen' hs] at hf
      split at hf
      · rename_i hc
        cases hf
        exact .inl ⟨d, e, hx.dp, hy.dp, hc.1, hc.2, q⟩
      · cases hf
  | lt =>
    refine imp2 (op_lt (X := X)) fun x y H Q h => ?_
    obtain ⟨Bad, d, e, b, ok, hx, hy, hf, q⟩ := h
    cases d <;> cases e <;> simp only [cmpD, reduceCtorEq] at hf <;> cases hf
    exact ⟨_, _, hx.int, hy.int, q⟩
  | le =>
    refine imp2 (op_le (X := X)) fun x y H Q h => ?_
    obtain ⟨Bad, d, e, b, ok, hx, hy, hf, q⟩ := h
    cases d <;> cases e <;> simp only [cmpD, reduceCtorEq] at hf <;> cases hf
    exact ⟨_, _, hx.int, hy.int, q⟩
  | gt =>
    refine imp2 (op_gt (X := X)) fun x y H Q h => ?_
    obtain ⟨Bad, d, e, b, ok, hx, hy, hf, q⟩ := h
    cases d <;> cases e <;> simp only [cmpD, reduceCtorEq] at hf <;> cases hf
    exact ⟨_, _, hx.int, hy.int, q⟩
  | ge =>
    refine imp2 (op_ge (X := X)) fun x y H Q h => ?_
    obtain ⟨Bad, d, e, b, ok, hx, hy, hf, q⟩ := h
    cases d <;> cases e <;> simp only [cmpD, reduceCtorEq] at hf <;> cases hf
    exact ⟨_, _, hx.int, hy.int, q⟩
  | inn =>
    refine imp2 (or2 (op_in_seq (X := X)) op_in_str) fun x y H Q h => ?_
    obtain ⟨Bad, d, e, b, ok, hx, hy, hf, q⟩ := h
    cases e with
    | list ys =>
      obtain ⟨p, xs, rfl, h1, h2⟩ := hy.list
      have hf' : inD d ys = some b := by cases d <;> exact hf
      obtain ⟨f1, f2, f3⟩ := in_rep (y := .ref p) hx h2 hf'
      exact .inl ⟨p, xs, rfl, .inl h1, f1, f2, by rw [f3]; exact q⟩
    | tuple ys =>
      obtain ⟨p, xs, rfl, h1, h2⟩ := hy.tuple
      have hf' : inD d ys = some b := by cases d <;> exact hf
      obtain ⟨f1, f2, f3⟩ := in_rep (y := .ref p) hx h2 hf'
      exact .inl ⟨p, xs, rfl, .inr h1.sq, f1, f2, by rw [f3]; exact q⟩
    | str z =>
      cases d <;> simp only [cmpD, reduceCtorEq] at hf <;> cases hf
      exact .inr ⟨_, _, hx.str, hy.str, q⟩
    | _ => cases d <;> simp only [cmpD, reduceCtorEq] at hf
  | nin =>
    refine imp2 (or2 (op_notIn_seq (X := X)) op_notin_str) fun x y H Q h => ?_
    obtain ⟨Bad, d, e, b, ok, hx, hy, hf, q⟩ := h
    cases e with
    | list ys =>
      obtain ⟨p, xs, rfl, h1, h2⟩ := hy.list
      have hf' : (inD d ys).map (!·) = some b := by cases d <;> exact hf
      obtain ⟨c, hc, rfl⟩ := Option.map_eq_some_iff.mp hf'
      obtain ⟨f1, f2, f3⟩ := in_rep (y := .ref p) hx h2 hc
      exact .inl ⟨p, xs, rfl, .inl h1, f1, f2, by rw [f3]; exact q⟩
    | tuple ys =>
      obtain ⟨p, xs, rfl, h1, h2⟩ := hy.tuple
      have hf' : (inD d ys).map (!·) = some b := by cases d <;> exact hf
      obtain ⟨c, hc, rfl⟩ := Option.map_eq_some_iff.mp hf'
      obtain ⟨f1, f2, f3⟩ := in_rep (y := .ref p) hx h2 hc
      exact .inl ⟨p, xs, rfl, .inr h1.sq, f1, f2, by rw [f3]; exact q⟩
    | str z =>
      cases d <;> simp only [cmpD, reduceCtorEq] at hf <;> cases hf
      exact .inr ⟨_, _, hx.str, hy.str, q⟩
    | _ => cases d <;> simp only [cmpD, reduceCtorEq] at hf

theorem atI_rep {K : PySem.W.Frag} {Bad : Addr → Prop} {H : Hp} {vs : List V} {ds : List PyData} {i : Int} {g : PyData} (h : Reps K Bad H vs ds) (e : atI ds i = some g) : ∃ v, atI vs i = some v ∧ Rep K Bad H v g := by
  unfold atI at e ⊢
  rw [h.length]
  cases q : ixN ds.length i with
  | none => rw [q] at e; cases e
  | some j =>
    rw [q] at e
    exact h.get e
theorem op_idx : IxR X (rD0 X.K idxD) := by
  intro value slice pins s σ H x y v u Q I rx ry h hs
  refine ix_seq value slice pins s σ H x y v u Q I rx ry ?_ hs
  obtain ⟨Bad, d, e, g, ok, hx, hy, hf, q⟩ := h
  cases e with
  | int i =>
    cases d with
    | list ds =>
      obtain ⟨p, xs, rfl, h1, h2⟩ := hx.list
      obtain ⟨w, e1, r⟩ := atI_rep h2 hf
      exact .inl ⟨p, xs, i, w, rfl, hy.int, h1, e1, q _ _ ⟨.inl rfl, r, fun f => nomatch f⟩⟩
    | tuple ds =>
      obtain ⟨p, xs, rfl, h1, h2⟩ := hx.tuple
      obtain ⟨w, e1, r⟩ := atI_rep h2 hf
      exact .inr (.inl ⟨p, xs, i, w, rfl, hy.int, h1.sq, e1, q _ _ ⟨.inl rfl, r, fun f => nomatch f⟩⟩)
    | str z =>
      simp only [idxD] at hf
      split at hf
      · rename_i hz
        obtain ⟨c, e1, rfl⟩ := Option.map_eq_some_iff.mp hf
        exact .inr (.inr ⟨z, i, c, hx.str, hy.int, hz, e1, q _ _ (.str _)⟩)
      · cases hf
    | _ => cases hf
  | _ => cases d <;> cases hf
theorem cut_rep {K : PySem.W.Frag} {Bad : Addr → Prop} {H : Hp} {vs : List V} {ds : List PyData} (h : Reps K Bad H vs ds) (lo hi : Option Int) : Reps K Bad H (cutV vs lo hi) (cutD ds lo hi) := by
  unfold cutV cutD
  rw [h.length]
  exact (h.drop _).take _
theorem cut_whole {ds : List PyData} {lo hi : Option Int} (h : HT.sIx ds.length 0 lo = 0 ∧ HT.sIx ds.length ds.length hi = ds.length) : cutD ds lo hi = ds := by
  unfold cutD
  rw [h.1, h.2, Nat.sub_zero, List.drop_zero, List.take_length]
def rSlD (K : PySem.W.Frag) : V → Option Int → Option Int → Hp → VK → Prop := fun x lo hi H Q => ∃ Bad d g, BadOk Bad H ∧ RepD K Bad H x d ∧ sliceD d lo hi = some g ∧ ∀ v H', OpPost K Bad H true g v H' → Q v H'
theorem op_slice : SlR X (rSlD X.K) := by
  intro pins s σ H x v vl vu lo hi sl Q I rx hs pl pu h
  obtain ⟨Bad, d, g, ok, hx, hf, q⟩ := h
  cases d with
  | list ds =>
    cases hf
    obtain ⟨p, xs, rfl, h1, h2⟩ := hx.list
    exact sl_list pins s σ H _ v vl vu lo hi sl Q I rx hs pl pu ⟨p, xs, rfl, h1, fun r hr => q _ _ (.list ok hr (cut_rep h2 lo hi))⟩
  | tuple ds =>
    cases hf
    obtain ⟨p, xs, rfl, h1, h2⟩ := hx.tuple
    refine sl_tupF pins s σ H _ v vl vu lo hi sl Q I rx hs pl pu ⟨p, xs, rfl, h1.sq, fun e => ?_, fun _ r o hr hd => q _ _ (.tuple ok hr hd (cut_rep h2 lo hi))⟩
    rw [h2.length] at e
    rw [cut_whole e] at q
    exact q _ _ (.same (.tup h1 h2) fun _ _ e => nomatch e)
  | str z =>
    simp only [sliceD] at hf
    split at hf
    · cases hf
      rename_i hz
      exact sl_str pins s σ H _ v vl vu lo hi sl Q I rx hs pl pu ⟨z, hx.str, hz, q _ _ (.str _)⟩
    · cases hf
  | _ => cases hf
end
end Tr


namespace Tr
open PySem L2
open PySem.Spec PyProof.Rows

structure FnG (P : Program) (w : World) (K : PySem.W.Frag) (mg : Str → Option Value) (base : Heap) (k : Nat) (f : Addr) (fd : FuncData) (ps : List Str) (sp : Sp) : Prop where
  len : ∀ vs H Q E, sp vs H Q E → vs.length = ps.length
  run : ∀ (A : Around) (outer : List Env) (s : Shared) (H : Hp) (args : Args) (us : List Value) (vs : List V) (Q : VK) (E : XK),
    Room k A → A.guards = some [] → Env0 P w K mg base A outer s H → BindsTo s fd args (ps.zip us) → Vals vs us → sp vs H Q E →
    codeAny (model P w) A (.call (.ref f) args) (CR (L2.CX P w) outer P w H s Q E) s

section
variable {X : Cx} {k : Nat} {f : Addr} {fd : FuncData} {ps : List Str} {sp : Sp} {x : Str} {p pos : Pos} {W : WX}
theorem run_g {pins : List (Addr × Obj)} {σ : L2.St} {H : Hp} {s : Shared} {Q : VK} {E : XK} {us : List Value} {vs : List V}
    (F : FnG X.prog X.w X.K X.mg X.base k f fd ps sp) (hr : Room k X.A) (hg : X.A.guards = some []) (hb : Binds X.K fd ps []) (hx : PassesAt (L2.CX X.prog X.w) X σ E)
    (I : Inv X pins σ H s) (r : Vals vs us) (h : sp vs H Q E) : wpAny (model X.prog X.w) X.A (call (.ref f) us) (EP X pins σ Q) X.xe s := by
  have hl : us.length = ps.length := by
    have q := F.len _ _ _ _ h
    rw [← r.length]
    exact q
  have hb' := hb s us I.kIn (by rw [List.append_nil]; exact hl)
  rw [List.append_nil] at hb'
  refine wpAny_call (codeAny_mono (F.run X.A X.stack s H ⟨us, []⟩ us vs Q E hr hg I.env0 hb' r h) fun r s' hq => ?_)
  cases r with
  | error e => exact hx pins H s e s' I hq
  | ok fl =>
    cases fl with
    | ret u => exact I.after hq
    | _ => exact False.elim hq

def tCallG (sp : Sp) (W : WX) (t : TA) : TE := fun σ H Q => t σ H fun vs H1 => sp vs H1 Q (WE W σ)
/-- all of a list of arguments, none with a star -/
def noStar : Expr → Bool
  | .Starred _ _ => false
  | _ => true
theorem star1 {e : Expr} {es : List Expr} {env : Env} (h : noStar e = true) : starEach (e :: es) env = (false, eval e env) :: starEach es env := by
  cases e <;> first | rfl | (cases h; done)
theorem stars {env : Env} {pos : Pos} : ∀ {es : List Expr}, es.all noStar = true → (backTo pos (starEach es env)).any (·.1) = false
  | [], _ => rfl
  | e :: es, h => by
    rw [List.all_cons, Bool.and_eq_true] at h
    have ih := stars (env := env) (pos := pos) h.2
    rw [star1 h.1]
    unfold backTo at ih ⊢
    rw [List.map_cons, List.any_cons, ih]
    rfl
theorem stars2 {env : Env} {pos : Pos} : ∀ {es : List Expr}, es.all noStar = true → (backTo pos (starEach es env)).all (fun x => !x.1) = true
  | [], _ => rfl
  | e :: es, h => by
    rw [List.all_cons, Bool.and_eq_true] at h
    have ih := stars2 (env := env) (pos := pos) h.2
    rw [star1 h.1]
    unfold backTo at ih ⊢
    rw [List.map_cons, List.all_cons, ih]
    rfl
theorem pe_callg {e : Expr} {es : List Expr} {t : TA} (F : FnG X.prog X.w X.K X.mg X.base k f fd ps sp) (hr : Room k X.A) (hgu : X.A.guards = some []) (hg : Gl X x)
    (hm : X.mg x = some (.ref f)) (hk : PySem.W.keepIn X.K (.ref f) = true) (hb : Binds X.K fd ps []) (tk : Takes X W) (ha : PA X (e :: es) t)
    (hdb : (x == ("__debug__" : Str)) = false) (hs : (e :: es).all noStar = true) : PE X (.Call (.Name x p) (e :: es) [] pos) (tCallG sp W t) := by
  rw [List.all_cons, Bool.and_eq_true] at hs
  refine ⟨fun pins s σ H Q I h => wpAny_Call_Name_kw (ld_glob I hg hm ?_ hdb)⟩
  refine PySem.W.callWith_K (h₀ := X.base) I.ok.mod.kin hk (thn (ha.run pos pins s σ H _ I h) fun us s1 ⟨vs, H1, I1, r, q⟩ => ⟨I1.kIn, ?_⟩) (star1 hs.1) (stars hs.2)
  exact run_g F hr hgu hb (passAt tk σ) I1 r q
theorem pe_callg0 (F : FnG X.prog X.w X.K X.mg X.base k f fd ps sp) (hr : Room k X.A) (hgu : X.A.guards = some []) (hg : Gl X x)
    (hm : X.mg x = some (.ref f)) (hk : PySem.W.keepIn X.K (.ref f) = true) (hb : Binds X.K fd ps []) (tk : Takes X W) (hdb : (x == ("__debug__" : Str)) = false) :
    PE X (.Call (.Name x p) [] [] pos) (tCallG sp W tNil) :=
  ⟨fun pins s σ H Q I h => wpAny_Call_Name_kw (ld_glob I hg hm (PySem.W.callWith_K0 I.kIn hk (run_g (us := []) F hr hgu hb (passAt tk σ) I .nil h)) hdb)⟩
end

mutual
/-- the value, if it is a list, is a new one -/
def freshE (fr : Nat → Bool) : Ex → Bool
  | .const _ => true
  | .tup _ => true
  | .lst _ => true
  | .bin _ _ _ => true
  | .neg _ => true
  | .cmp _ _ _ => true
  | .isN _ _ => true
  | .isB _ _ _ => true
  | .chain _ _ _ _ _ => true
  | .not _ => true
  | .slice _ _ _ => true
  | .rev _ => true
  | .lrange _ => true
  | .len _ => true
  | .blt _ _ => true
  | .meth .get2 _ _ => false
  | .meth _ _ _ => true
  | .comp _ _ _ _ => true
  | .star _ _ => true
  | .fstr _ => true
  | .ife _ a b => freshE fr a && freshE fr b
  | .call f _ => fr f
  | _ => false
end

/-- the list is new, nobody else has it -/
def Fresh (G : Gam) (wd : Wd) (σ : L2.St) (env : TEnv) (H0 : Hp) (S : Store) (H : Hp) (v : V) (ds : List PyData) : Prop :=
  ∃ p xs, v = .ref p ∧ H0 p = none ∧ ¬ wd.B0 p ∧ p ∉ wd.ρ ∧ H p = some (.lst xs) ∧ SR G (wd.plus p) σ H env S ∧ Reps G.K (BadOf (wd.plus p) σ env S) H xs ds
/-- behind an expression -/
def PostN (G : Gam) (wd : Wd) (σ : L2.St) (env : TEnv) (S : Store) (H : Hp) (S' : Store) (H' : Hp) : Prop := ∃ ρ', Step wd S H ρ' S' H' ∧ SR G (wd.up ρ') σ H' env S'
def Post (G : Gam) (wd : Wd) (σ : L2.St) (env : TEnv) (S : Store) (H : Hp) (fr : Bool) (a : A) (S' : Store) (v : V) (H' : Hp) : Prop :=
  ∃ ρ', Step wd S H ρ' S' H' ∧ SR G (wd.up ρ') σ H' env S' ∧ RepA G.K (BadOf (wd.up ρ') σ env S') H' ρ' v a ∧
    (fr = true → ∀ ds, a = .val (.list ds) → Fresh G (wd.up ρ') σ env H S' H' v ds)
/-- a value that is read: a name's own besides -/
inductive RepB (G : Gam) (Bad : Addr → Prop) (H : Hp) (ρ : List Addr) (v : V) : A → Prop
  | at_ {a : A} : RepA G.K Bad H ρ v a → RepB G Bad H ρ v a
  | own {c : Cell} {p : Addr} : v = .ref p → ObjC G Bad H ρ p c → c ≠ .dead → p ∉ ρ → RepB G Bad H ρ v (.own c)
def PostB (G : Gam) (wd : Wd) (σ : L2.St) (env : TEnv) (S : Store) (H : Hp) (a : A) (S' : Store) (v : V) (H' : Hp) : Prop :=
  ∃ ρ', Step wd S H ρ' S' H' ∧ SR G (wd.up ρ') σ H' env S' ∧ RepB G (BadOf (wd.up ρ') σ env S') H' ρ' v a
/-- an exception of the k-th class with its field -/
def XRep (G : Gam) (Bad : Addr → Prop) (H : Hp) (k : Nat) (d : PyData) (cls : Value) (x : Option Addr) : Prop :=
  ∃ C, G.cl k = some C ∧ cls = .ref C ∧ ∀ f, G.xf k = some f → ∃ dd w, x = some dd ∧ H dd = some (.xd [(f, w)]) ∧ Rep G.K Bad H w d
def PostX (G : Gam) (wd : Wd) (σ : L2.St) (env : TEnv) (S : Store) (H : Hp) (k : Nat) (d : PyData) (S' : Store) (cls : Value) (x : Option Addr) (H' : Hp) : Prop :=
  ∃ ρ', Step wd S H ρ' S' H' ∧ SR G (wd.up ρ') σ H' env S' ∧ XRep G (BadOf (wd.up ρ') σ env S') H' k d cls x
/-- how an expression ends -/
def Out {α : Type} (G : Gam) (W : WX) (wd : Wd) (σ : L2.St) (env : TEnv) (S : Store) (H : Hp) (r : R α) (P : α → Store → Prop) : Prop := match r with
  | .ok a S' => P a S'
  | .exc k d S' => ∀ cls x H', PostX G wd σ env S H k d S' cls x H' → W cls x σ H'
  | .err => False

section
variable {α β : Type} {G : Gam} {W : WX} {wd : Wd} {σ : L2.St} {env : TEnv} {S S1 S2 : Store} {H H1 H2 : Hp} {ρ1 : List Addr}
theorem Out.bind {r : R α} {f : α → Store → R β} {P : β → Store → Prop} (h : Out G W wd σ env S H (r.bind f) P) : Out G W wd σ env S H r fun a S => Out G W wd σ env S0 H0 (f a S) P → Out G W wd σ env S0 H0 (f a S) P := by
  cases r with
  | ok a S => exact id
  | exc k d S => exact h
  | err => exact h
theorem Out.seq {r : R α} {f : α → Store → R β} {P : β → Store → Prop} {Q : α → Store → Prop} (h : Out G W wd σ env S H (r.bind f) P) (q : ∀ a S1, r = .ok a S1 → Out G W wd σ env S H (f a S1) P → Q a S1) : Out G W wd σ env S H r Q := by
  cases r with
  | ok a S1 => exact q a S1 rfl h
  | exc k d S => exact h
  | err => exact h
theorem Out.mono {r : R α} {P Q : α → Store → Prop} (h : Out G W wd σ env S H r P) (q : ∀ a S1, r = .ok a S1 → P a S1 → Q a S1) : Out G W wd σ env S H r Q := by
  cases r with
  | ok a S1 => exact q a S1 rfl h
  | exc k d S => exact h
  | err => exact h
/-- from the start to the present state -/
theorem Out.at_ {r : R α} {P : α → Store → Prop} (h : Out G W wd σ env S H r P) (I : SR G wd σ H env S) (st : Step wd S H ρ1 S1 H1) : Out G W (wd.up ρ1) σ env S1 H1 r P := by
  cases r with
  | ok a S1 => exact h
  | exc k d S2 => exact fun cls x H' ⟨ρ2, st2, I2, xr⟩ => h cls x H' ⟨ρ2, I.trans st st2, I2, xr⟩
  | err => exact h
theorem Out.lift {o : Option α} {P : α → Store → Prop} (h : Out G W wd σ env S H (R.lift o S1) P) : ∃ a, o = some a ∧ P a S1 := by
  cases o with
  | none => exact h.elim
  | some a => exact ⟨a, rfl, h⟩

theorem PE.imp {X : Cx} {e : Expr} {t t' : TE} (h : PE X e t) (i : ∀ σ H Q, t' σ H Q → t σ H Q) : PE X e t' := ⟨fun pins s σ H Q I q => h.run pins s σ H Q I (i σ H Q q)⟩
theorem PT.imp {X : Cx} {e : Expr} {t t' : TT} (h : PT X e t) (i : ∀ σ H Q, t' σ H Q → t σ H Q) : PT X e t' := ⟨fun pins s σ H Q I q => h.run pins s σ H Q I (i σ H Q q)⟩
theorem PW.imp {X : Cx} {e : Expr} {t t' : TT} (h : PW X e t) (i : ∀ σ H Q, t' σ H Q → t σ H Q) : PW X e t' := ⟨fun wh pins s σ H Q I q => h.run wh pins s σ H Q I (i σ H Q q)⟩

def tE (G : Gam) (W : WX) (e : Ex) : TE := fun σ H Q => ∃ wd env S, SR G wd σ H env S ∧
  Out G W wd σ env S H (evalE G.C e env S) fun a S' => ∀ v H', Post G wd σ env S H (freshE G.fr e) a S' v H' → Q v H'
def tB (G : Gam) (W : WX) (e : Ex) : TE := fun σ H Q => ∃ wd env S, SR G wd σ H env S ∧
  Out G W wd σ env S H (evalE G.C e env S) fun a S' => ∀ v H', PostB G wd σ env S H a S' v H' → Q v H'
def tT (G : Gam) (W : WX) (e : Ex) : TT := fun σ H Q => ∃ wd env S, SR G wd σ H env S ∧
  Out G W wd σ env S H (evalE G.C e env S) fun a S' => ∃ b, a = .val (.bool b) ∧ ∀ H', PostN G wd σ env S H S' H' → Q b H'

variable {fr : Bool} {a : A} {v : V} {d : PyData}
theorem PostN.of (I : SR G wd σ H env S) (I1 : SR G (wd.up ρ1) σ H1 env S1) (st : Step wd S H ρ1 S1 H1) : PostN G wd σ env S H S1 H1 := ⟨ρ1, st, I1⟩
theorem PostN.refl (I : SR G wd σ H env S) : PostN G wd σ env S H S H := ⟨wd.ρ, I.refl, I⟩
theorem PostN.after (I : SR G wd σ H env S) (st : Step wd S H ρ1 S1 H1) (p : PostN G (wd.up ρ1) σ env S1 H1 S2 H2) : PostN G wd σ env S H S2 H2 :=
  let ⟨ρ2, st2, I2⟩ := p; ⟨ρ2, I.trans st st2, I2⟩
theorem Post.after (I : SR G wd σ H env S) (st : Step wd S H ρ1 S1 H1) (p : Post G (wd.up ρ1) σ env S1 H1 fr a S2 v H2) : Post G wd σ env S H fr a S2 v H2 := by
  obtain ⟨ρ2, st2, I2, r, f⟩ := p
  refine ⟨ρ2, I.trans st st2, I2, r, fun hf ds e => ?_⟩
  obtain ⟨p, xs, e1, e2, e3⟩ := f hf ds e
  exact ⟨p, xs, e1, st.ext.none (fun _ => I.liveMut) e2, e3⟩
theorem PostB.after (I : SR G wd σ H env S) (st : Step wd S H ρ1 S1 H1) (p : PostB G (wd.up ρ1) σ env S1 H1 a S2 v H2) : PostB G wd σ env S H a S2 v H2 :=
  let ⟨ρ2, st2, I2, r⟩ := p; ⟨ρ2, I.trans st st2, I2, r⟩
theorem Post.n (p : Post G wd σ env S H fr a S2 v H2) : PostN G wd σ env S H S2 H2 := let ⟨ρ2, st2, I2, _⟩ := p; ⟨ρ2, st2, I2⟩
theorem Post.b (p : Post G wd σ env S H fr a S2 v H2) : PostB G wd σ env S H a S2 v H2 := let ⟨ρ2, st2, I2, r, _⟩ := p; ⟨ρ2, st2, I2, .at_ r⟩
theorem Post.old (p : Post G wd σ env S H fr a S2 v H2) : Post G wd σ env S H false a S2 v H2 := let ⟨ρ2, st2, I2, r, _⟩ := p; ⟨ρ2, st2, I2, r, fun z => nomatch z⟩
theorem post_same (I : SR G wd σ H env S) (r : RepA G.K (BadOf wd σ env S) H wd.ρ v a) (hf : fr = true → ∀ ds, a ≠ .val (.list ds)) : Post G wd σ env S H fr a S v H :=
  ⟨wd.ρ, I.refl, I, r, fun f ds e => absurd e (hf f ds)⟩
/-- what was told stands behind the next -/
theorem RepB.keep (I : SR G wd σ H env S) (st : Step wd S H ρ1 S1 H1) (h : RepB G (BadOf wd σ env S) H wd.ρ v a) : RepB G (BadOf (wd.up ρ1) σ env S1) H1 ρ1 v a := by
  cases h with
  | at_ h => exact .at_ (I.keep st h)
  | own e h1 h2 h3 =>
    refine .own e (I.keepO st (fun z => h3 z.mem) h1) h2 fun m => ?_
    rcases st.new _ m with z | z
    · exact h3 z
    · exact Mut.some (h1.mutb h2) z
/-- an operation's end is an expression's end -/
theorem OpPost.post {d : PyData} (I : SR G wd σ H env S) (q : OpPost G.K (BadOf wd σ env S) H fr d v H2) : Post G wd σ env S H fr (.val d) S v H2 := by
  have e : Ext (fun _ => False) H H2 := q.new.ext
  refine ⟨wd.ρ, .of_new I.nd e, I.news e, .val q.rep, fun f ds z => ?_⟩
  cases z
  obtain ⟨p, xs, rfl, h1, rfl, h2⟩ := q.fresh f ds rfl
  have J := I.more (o := .lst xs) h1 trivial
  refine ⟨p, xs, rfl, h1, fun z => I.notBad h1 (.inl (.inl z)), fun m => I.ρsome m h1, upd_same, J, h2.ext (M := fun _ => False) I.badOk (fun _ z => z.elim) e fun a z => ?_⟩
  rcases z with ((z | z) | z) | z
  · exact .inl (.inl (.inl z))
  · exact .inr (by rw [z]; exact h1)
  · exact .inl (.inl (.inr z))
  · exact .inl (.inr z)
/-- the datum that is read -/
theorem ObjC.data {Bad : Addr → Prop} {ρ : List Addr} {p : Addr} {c : Cell} (h : ObjC G Bad H ρ p c) (e : c.data = some d) : RepD G.K Bad H (.ref p) d := by
  cases h with
  | lst h1 h2 => cases e; exact .lst rfl h1 h2
  | refs h1 h2 => cases e
  | inst h1 h2 h3 => cases e
  | dead h => cases e
theorem SR.cell (I : SR G wd σ H env S) {n : Nat} {p : Addr} {c : Cell} (h : wd.ρ[n]? = some p) (e : S[n]? = some c) : ObjC G (BadOf wd σ env S) H wd.ρ p c := I.cel n p c h e
theorem RepB.deref (I : SR G wd σ H env S) (h : RepB G (BadOf wd σ env S) H wd.ρ v a) (e : deref S a = some d) : RepD G.K (BadOf wd σ env S) H v d := by
  cases h with
  | at_ h =>
    cases h with
    | val h => cases e; exact .of h
    | ref h =>
      obtain ⟨c, e1, e2⟩ := Option.bind_eq_some_iff.mp e
      exact (I.cel _ _ c h e1).data e2
    | tup h1 h2 => cases e
  | own e1 h1 h2 h3 => subst e1; exact h1.data e
theorem PostB.at_ (p : PostB G wd σ env S H a S1 v H1) : ∃ ρ1, Step wd S H ρ1 S1 H1 ∧ SR G (wd.up ρ1) σ H1 env S1 ∧ RepB G (BadOf (wd.up ρ1) σ env S1) H1 ρ1 v a := p
end
end Tr


namespace Tr
open PySem L2
open PySem.Spec PyProof.Rows

mutual
def sameD : PyData → PyData → Bool
  | .none, .none => true
  | .bool a, .bool b => a == b
  | .int a, .int b => a == b
  | .str a, .str b => a == b
  | .list a, .list b => sameDs a b
  | .tuple a, .tuple b => sameDs a b
  | _, _ => false
def sameDs : List PyData → List PyData → Bool
  | [], [] => true
  | a :: r, b :: s => sameD a b && sameDs r s
  | _, _ => false
end
mutual
theorem sameD_eq : ∀ {a b : PyData}, sameD a b = true → a = b
  | .none, .none, _ => rfl
  | .bool a, .bool b, h => by rw [eq_of_beq (show (a == b) = true from h)]
  | .int a, .int b, h => by rw [eq_of_beq (show (a == b) = true from h)]
  | .str a, .str b, h => by rw [eq_of_beq (show (a == b) = true from h)]
  | .list a, .list b, h => by rw [sameDs_eq (show sameDs a b = true from h)]
  | .tuple a, .tuple b, h => by rw [sameDs_eq (show sameDs a b = true from h)]
theorem sameDs_eq : ∀ {a b : List PyData}, sameDs a b = true → a = b
  | [], [], _ => rfl
  | a :: r, b :: s, h => by
    have h' : (sameD a b && sameDs r s) = true := h
    rw [Bool.and_eq_true] at h'
    rw [sameD_eq h'.1, sameDs_eq h'.2]
end

structure Ctx where
  N : List Str
  sc : Scope
  fn : Str → Bool
  fns : List (Nat × Str × Nat)
  cons : List (Str × PyData)
  calm : Bool
  fr : Nat → Bool

def nmB (c : Ctx) (i : Nat) (x : Str) : Bool := decide (c.N[i]? = some x) && ((match c.sc.names.lookup x with
  | some .local => true
  | some .cell => true
  | some .free => true
  | _ => false) && (!(x == ("__debug__" : Str)) && !(x == ("__classdict__" : Str))))
def glB (c : Ctx) (x : Str) : Bool := decide (c.sc.names.lookup x = some .globalImplicit) && !(x == ("__debug__" : Str))
def constB : Const → PyData → Bool
  | .none, .none => true
  | .bool a, .bool b => a == b
  | .int a, .int b => a == b
  | .str a, .str b => a == b
  | _, _ => false
def noSet : Expr → Bool
  | .Set _ _ _ => false
  | _ => true
def noSlice : Expr → Bool
  | .Slice _ _ _ _ => false
  | _ => true
/-- no call without arguments -/
def noCall0 : Expr → Bool
  | .Call _ [] _ _ => false
  | _ => true
/-- plain as a test: the truth of its value is asked -/
def plainT : Expr → Bool
  | .UnaryOp .Not _ _ => false
  | .BoolOp _ _ _ => false
  | .IfExp _ _ _ _ => false
  | .Compare _ _ _ _ => false
  | _ => true

/-- built-ins: their names, whether a class -/
def bfName : BF → Str
  | .abs => "abs"
  | .int => "int"
  | .str => "str"
  | .max2 => "max"
  | .min2 => "min"
  | .tuple => "tuple"
  | .list => "list"
  | .all => "all"
  | .any => "any"
  | .repr => "repr"
  | .sum => "sum"
  | .sorted => "sorted"
  | .maxL => "max"
  | .minL => "min"
  | .isInst _ => "isinstance"
def mfName : MF → Str
  | .removesuffix => "removesuffix"
  | .endswith => "endswith"
  | .startswith => "startswith"
  | .join => "join"
  | .split => "split"
  | .index => "index"
  | .get2 => "get"
def bltNames : List Str := ["len", "abs", "int", "str", "max", "min", "tuple", "list", "all", "any", "repr", "isinstance", "range", "enumerate", "zip", "bool", "sum", "sorted", "reversed"]
def kindNames : List String := ["int", "str", "bool", "tuple", "list"]

def tgB (c : Ctx) (i : Nat) (x : Str) : Bool := decide (c.N[i]? = some x) && (match c.sc.names.lookup x with
  | some .local => true
  | some .cell => c.fn x
  | _ => false)
def tgsB (c : Ctx) : List Nat → List Expr → Bool
  | [], [] => true
  | i :: is, .Name x _ :: es => tgB c i x && tgsB c is es
  | _, _ => false
/-- a target -/
def tgtB (c : Ctx) (is : List Nat) (e : Expr) : Bool := match is, e with
  | [i], .Name x _ => tgB c i x
  | i :: j :: r, .Tuple es _ _ => tgsB c (i :: j :: r) es && decide ((i :: j :: r).Nodup)
  | _, _ => false
def isTuple : Expr → Bool
  | .Tuple _ _ _ => true
  | _ => false
/-- the block of a comprehension -/
def ctxIn (c : Ctx) (scope : Scope) : Ctx := { c with sc := relS scope c.sc, fn := fun x => scope.names.lookup x == some .cell }
def ownOf (c : Ctx) (is : List Nat) : List (Str × Nat) := is.map fun i => (c.N.getD i "", i)

mutual
/-- b: the value is only read -/
def chkE (c : Ctx) (b : Bool) : Ex → Expr → Bool
  | .var i, e => match e with
    | .Name x _ => nmB c i x
    | _ => false
  | .own i, e => match e with
    | .Name x _ => nmB c i x && b
    | _ => false
  | .const d, e => match e with
    | .Constant k _ _ => constB k d
    | _ => false
  | .glob x d, e => match e with
    | .Name y _ => decide (x = y) && (glB c x && (match c.cons.lookup x with
      | some d' => sameD d' d
      | none => false))
    | _ => false
  | .tup es, e => match e with
    | .Tuple ts _ _ => chkEs c false es ts && ts.all noStar
    | _ => false
  | .lst es, e => match e with
    | .List ts _ => chkEs c false es ts && ts.all noStar
    | _ => false
  | .bin o a b', e => match e with
    | .BinOp l op r _ => decide (op = opOf o) && (chkE c true a l && chkE c true b' r)
    | _ => false
  | .neg a, e => match e with
    | .UnaryOp .USub x _ => chkE c true a x
    | _ => false
  | .cmp o a b', e => match e with
    | .Compare l [op] [r] _ => decide (op = copOf o) && (chkE c true a l && (chkE c true b' r && noSet r))
    | _ => false
  | .isN ng a, e => match e with
    | .Compare l [op] [.Constant .none _ _] _ => decide (op = if ng then .IsNot else .Is) && chkE c true a l
    | _ => false
  | .chain o o' a b' d, e => match e with
    | .Compare l [op, op'] [m, r] _ => decide (op = copOf o) && (decide (op' = copOf o') && (chkE c true a l && (chkE c true b' m && (chkE c true d r && (noSet m && noSet r)))))
    | _ => false
  | .ands es, e => match e with
    | .BoolOp .And ts _ => chkEs c false es ts
    | _ => false
  | .ors es, e => match e with
    | .BoolOp .Or ts _ => chkEs c false es ts
    | _ => false
  | .not a, e => match e with
    | .UnaryOp .Not x _ => chkE c false a x
    | _ => false
  | .ife t a b', e => match e with
    | .IfExp t' a' b'' _ => chkE c false t t' && (chkE c false a a' && chkE c false b' b'')
    | _ => false
  | .idx a i, e => match e with
    | .Subscript v s _ => chkE c true a v && (chkE c true i s && noSlice s)
    | _ => false
  | .slice a lo hi, e => match e with
    | .Subscript v (.Slice l h none _) _ => chkE c true a v && (chkO c lo l && chkO c hi h)
    | _ => false
  | .rev a, e => match e with
    | .Subscript v (.Slice none none (some (.UnaryOp .USub (.Constant (.int j) _ _) _)) _) _ => decide (j = 1) && chkE c true a v
    | _ => false
  | .lrange es, e => match e with
    | .Call (.Name x _) [.Call (.Name y _) (t :: ts) [] _] [] _ => c.calm && (decide (x = ("list" : Str)) && (decide (y = ("range" : Str)) && (glB c x && (glB c y && (chkEs c true es (t :: ts) && ((t :: ts).all noStar && decide (ts.length ≤ 1)))))))
    | _ => false
  | .len a, e => match e with
    | .Call (.Name x _) [t] [] _ => decide (x = ("len" : Str)) && (glB c x && (chkE c true a t && noStar t))
    | _ => false
  | .blt f es, e => match e with
    | .Call (.Name x _) (a :: as) [] _ => decide (x = bfName f) && (glB c x && (c.calm && (match f, as with
      | .isInst t, [.Name y _] => decide (y = Str.ofString t) && (kindNames.contains t && (glB c y && (chkEs c true es [a] && noStar a)))
      | .isInst _, _ => false
      | _, _ => chkEs c true es (a :: as) && (a :: as).all noStar)))
    | _ => false
  | .meth f a es, e => match e with
    | .Call (.Attribute o n ap) (t :: ts) [] p => decide (n = mfName f ∧ f ≠ .get2) && (chkE c true a o && (chkEs c true es (t :: ts) && ((t :: ts).all noStar && (noCall0 o && (ap.endLine == p.line && decide ((t :: ts).length < 29))))))
    | _ => false
  | .call f es, e => match e with
    | .Call (.Name x _) ts [] _ => (match c.fns.lookup f with
      | some (y, _) => decide (x = y)
      | none => false) && (c.calm && (glB c x && (chkEs c false es ts && ts.all noStar)))
    | _ => false
  | .comp tg it cd el, e => match e with
    | .ListComp el' [⟨t, i, ifs, 0⟩] scope _ => c.calm && (chkW c true it t i && (noSet i && (blkC c.N c.sc scope (ownOf c tg) && (tgtB (ctxIn c scope) tg t && (chkC (ctxIn c scope) cd ifs && chkE (ctxIn c scope) false el el')))))
    | _ => false
  | .newc a, e => chkE c false a e && freshE c.fr a
  | .newr es, e => match e with
    | .List ts _ => chkEs c false es ts && ts.all noStar
    | _ => false
  | .newm tg it cd el, e => match e with
    | .ListComp el' [⟨t, i, ifs, 0⟩] scope _ => c.calm && (chkW c true it t i && (noSet i && (blkC c.N c.sc scope (ownOf c tg) && (tgtB (ctxIn c scope) tg t && (chkC (ctxIn c scope) cd ifs && chkE (ctxIn c scope) false el el')))))
    | _ => false
  | _, _ => false
def chkEs (c : Ctx) (b : Bool) : List Ex → List Expr → Bool
  | [], [] => true
  | a :: as, e :: es => chkE c b a e && chkEs c b as es
  | _, _ => false
def chkO (c : Ctx) : Option Ex → Option Expr → Bool
  | none, none => true
  | some a, some e => chkE c true a e
  | _, _ => false
def chkC (c : Ctx) : Option Ex → List Expr → Bool
  | none, [] => true
  | some a, [e] => chkE c false a e
  | _, _ => false
/-- a walk into the target t; o: a name's own may be walked -/
def chkW (c : Ctx) (o : Bool) : Wk → Expr → Expr → Bool
  | .seq a, _, e => chkE c o a e
  | .range es, _, e => match e with
    | .Call (.Name x _) (t :: ts) [] _ => decide (x = ("range" : Str)) && (glB c x && (chkEs c true es (t :: ts) && ((t :: ts).all noStar && decide ((t :: ts).length ≤ 3))))
    | _ => false
  | .enum a, tg, e => match e with
    | .Call (.Name x _) [t] [] _ => isTuple tg && (decide (x = ("enumerate" : Str)) && (glB c x && (chkE c o a t && noStar t)))
    | _ => false
  | .zip es, tg, e => match e with
    | .Call (.Name x _) (t :: u :: ts) [] _ => isTuple tg && (decide (x = ("zip" : Str)) && (glB c x && (chkEs c o es (t :: u :: ts) && ((t :: u :: ts).all noStar && decide (ts.length ≤ 1)))))
    | _ => false
end
end Tr


namespace Tr
open PySem L2
open PySem.Spec PyProof.Rows

inductive RepDs (K : PySem.W.Frag) (Bad : Addr → Prop) (H : Hp) : List V → List PyData → Prop
  | nil : RepDs K Bad H [] []
  | cons {v : V} {vs : List V} {d : PyData} {ds : List PyData} : RepD K Bad H v d → RepDs K Bad H vs ds → RepDs K Bad H (v :: vs) (d :: ds)
def rF (K : PySem.W.Frag) (f : List PyData → Option PyData) : List V → Hp → VK → Prop := fun xs H Q => ∃ Bad ds g, BadOk Bad H ∧ RepDs K Bad H xs ds ∧ f ds = some g ∧ ∀ v H', OpPost K Bad H true g v H' → Q v H'
def rM (K : PySem.W.Frag) (f : PyData → List PyData → Option PyData) : V → List V → Hp → VK → Prop := fun x xs H Q => ∃ Bad d ds g, BadOk Bad H ∧ RepD K Bad H x d ∧ RepDs K Bad H xs ds ∧ f d ds = some g ∧ ∀ v H', OpPost K Bad H true g v H' → Q v H'
section
variable {K : PySem.W.Frag} {Bad : Addr → Prop} {H : Hp}
theorem RepDs.one {xs : List V} {d : PyData} (h : RepDs K Bad H xs [d]) : ∃ v, xs = [v] ∧ RepD K Bad H v d := by
  cases h with
  | cons h t =>
    cases t
    exact ⟨_, rfl, h⟩
theorem RepDs.two {xs : List V} {d e : PyData} (h : RepDs K Bad H xs [d, e]) : ∃ v w, xs = [v, w] ∧ RepD K Bad H v d ∧ RepD K Bad H w e := by
  cases h with
  | cons h t =>
    obtain ⟨w, rfl, h2⟩ := t.one
    exact ⟨_, _, rfl, h, h2⟩
theorem bools_rep : ∀ {vs : List V} {ds : List PyData} {bs : List Bool}, Reps K Bad H vs ds → boolsD ds = some bs → vs = bs.map V.bl
  | _, _, bs, .nil, e => by cases e; rfl
  | _, _, bs, .cons (d := d) h t, e => by
    cases d with
    | bool b =>
      have e' : (boolsD _).map (b :: ·) = some bs := e
      obtain ⟨cs, e1, rfl⟩ := Option.map_eq_some_iff.mp e'
      cases h
      rw [bools_rep t e1]
      rfl
    | _ => cases e
theorem strs_rep : ∀ {vs : List V} {ds : List PyData} {bs : List Str}, Reps K Bad H vs ds → strsD ds = some bs → vs = bs.map V.str
  | _, _, bs, .nil, e => by cases e; rfl
  | _, _, bs, .cons (d := d) h t, e => by
    cases d with
    | str b =>
      have e' : (strsD _).map (b :: ·) = some bs := e
      obtain ⟨cs, e1, rfl⟩ := Option.map_eq_some_iff.mp e'
      cases h
      rw [strs_rep t e1]
      rfl
    | _ => cases e
end
section
variable {X : Cx}
theorem CallR.imp {f : Value} {r r' : List V → Hp → VK → Prop} (h : CallR X f r) (i : ∀ xs H Q, r' xs H Q → r xs H Q) : CallR X f r' :=
  fun pins s σ H xs us Q I rv q => h pins s σ H xs us Q I rv (i xs H Q q)
theorem CallR.or {f : Value} {r r' : List V → Hp → VK → Prop} (h : CallR X f r) (h' : CallR X f r') : CallR X f (fun xs H Q => r xs H Q ∨ r' xs H Q) :=
  fun pins s σ H xs us Q I rv q => q.elim (h pins s σ H xs us Q I rv) (h' pins s σ H xs us Q I rv)
theorem c_abs : CallR X (.builtin "abs") (rF X.K (bltD .abs)) := by
  refine CallR.imp call_abs fun xs H Q h => ?_
  obtain ⟨Bad, ds, g, ok, hx, hf, q⟩ := h
  rcases ds with _ | ⟨d, _ | ⟨_, _⟩⟩
  · cases hf
  · obtain ⟨v, rfl, h1⟩ := hx.one
    cases d <;> cases hf
    exact ⟨_, by rw [h1.int], q _ _ (.int _)⟩
  · cases d <;> cases hf
theorem c_int : CallR X (.type "int") (rF X.K (bltD .int)) := by
  refine CallR.imp call_int1 fun xs H Q h => ?_
  obtain ⟨Bad, ds, g, ok, hx, hf, q⟩ := h
  rcases ds with _ | ⟨d, _ | ⟨_, _⟩⟩
  · cases hf
  · obtain ⟨v, rfl, h1⟩ := hx.one
    cases d <;> cases hf
    · exact .inr ⟨_, by rw [h1.bool], q _ _ (.int _)⟩
    · exact .inl ⟨_, by rw [h1.int], q _ _ (.int _)⟩
  · cases d <;> cases hf
theorem c_str : CallR X (.type "str") (rF X.K (bltD .str)) := by
  refine CallR.imp call_str_int fun xs H Q h => ?_
  obtain ⟨Bad, ds, g, ok, hx, hf, q⟩ := h
  rcases ds with _ | ⟨d, _ | ⟨_, _⟩⟩
  · cases hf
  · obtain ⟨v, rfl, h1⟩ := hx.one
    cases d with
    | int i =>
      simp only [bltD] at hf
      split at hf
      · rename_i hz
        cases hf
        exact ⟨i, by rw [h1.int], hz, q _ _ (.str _)⟩
      · cases hf
    | _ => cases hf
  · cases d <;> cases hf
theorem c_max (hc : X.calm = true) : CallR X (.builtin "max") (rF X.K (bltD .max2)) := by
  refine CallR.imp (call_max2 hc) fun xs H Q h => ?_
  obtain ⟨Bad, ds, g, ok, hx, hf, q⟩ := h
  rcases ds with _ | ⟨d, _ | ⟨e, _ | ⟨_, _⟩⟩⟩
  · cases hf
  · cases d <;> cases hf
  · obtain ⟨v, w, rfl, h1, h2⟩ := hx.two
    cases d <;> cases e <;> cases hf
    exact ⟨_, _, by rw [h1.int, h2.int], q _ _ (.int _)⟩
  · cases d <;> cases e <;> cases hf
theorem c_min (hc : X.calm = true) : CallR X (.builtin "min") (rF X.K (bltD .min2)) := by
  refine CallR.imp (call_min2 hc) fun xs H Q h => ?_
  obtain ⟨Bad, ds, g, ok, hx, hf, q⟩ := h
  rcases ds with _ | ⟨d, _ | ⟨e, _ | ⟨_, _⟩⟩⟩
  · cases hf
  · cases d <;> cases hf
  · obtain ⟨v, w, rfl, h1, h2⟩ := hx.two
    cases d <;> cases e <;> cases hf
    exact ⟨_, _, by rw [h1.int, h2.int], q _ _ (.int _)⟩
  · cases d <;> cases e <;> cases hf
theorem c_tuple : CallR X (.type "tuple") (rF X.K (bltD .tuple)) := by
  refine CallR.imp call_tupleF fun xs H Q h => ?_
  obtain ⟨Bad, ds, g, ok, hx, hf, q⟩ := h
  rcases ds with _ | ⟨d, _ | ⟨_, _⟩⟩
  · cases hf
  · obtain ⟨v, rfl, h1⟩ := hx.one
    cases d with
    | list ys =>
      cases hf
      obtain ⟨p, zs, rfl, h2, h3⟩ := h1.list
      exact ⟨p, zs, rfl, .inl ⟨h2, fun l o hl hd => q _ _ (.tuple ok hl hd h3)⟩⟩
    | tuple ys =>
      cases hf
      obtain ⟨p, zs, rfl, h2, h3⟩ := h1.tuple
      exact ⟨p, zs, rfl, .inr ⟨h2.sq, q _ _ (.same (.tup h2 h3) fun _ _ e => nomatch e)⟩⟩
    | _ => cases hf
  · cases d <;> cases hf
theorem c_list : CallR X (.type "list") (rF X.K (bltD .list)) := by
  refine CallR.imp call_list_of fun xs H Q h => ?_
  obtain ⟨Bad, ds, g, ok, hx, hf, q⟩ := h
  rcases ds with _ | ⟨d, _ | ⟨_, _⟩⟩
  · cases hf
  · obtain ⟨v, rfl, h1⟩ := hx.one
    cases d with
    | list ys =>
      cases hf
      obtain ⟨p, zs, rfl, h2, h3⟩ := h1.list
      exact ⟨p, zs, rfl, .inl h2, fun l hl => q _ _ (.list ok hl h3)⟩
    | tuple ys =>
      cases hf
      obtain ⟨p, zs, rfl, h2, h3⟩ := h1.tuple
      exact ⟨p, zs, rfl, .inr h2.sq, fun l hl => q _ _ (.list ok hl h3)⟩
    | _ => cases hf
  · cases d <;> cases hf
theorem c_all (hc : X.calm = true) : CallR X (.builtin "all") (rF X.K (bltD .all)) := by
  refine CallR.imp (cr_all hc) fun xs H Q h => ?_
  obtain ⟨Bad, ds, g, ok, hx, hf, q⟩ := h
  rcases ds with _ | ⟨d, _ | ⟨_, _⟩⟩
  · cases hf
  · obtain ⟨v, rfl, h1⟩ := hx.one
    cases d with
    | list ys =>
      obtain ⟨bs, e1, rfl⟩ := Option.map_eq_some_iff.mp hf
      obtain ⟨p, zs, rfl, h2, h3⟩ := h1.list
      exact ⟨p, bs, rfl, by rw [← bools_rep h3 e1]; exact h2, q _ _ (.bool _)⟩
    | _ => cases hf
  · cases d <;> cases hf
theorem c_any (hc : X.calm = true) : CallR X (.builtin "any") (rF X.K (bltD .any)) := by
  refine CallR.imp (cr_any hc) fun xs H Q h => ?_
  obtain ⟨Bad, ds, g, ok, hx, hf, q⟩ := h
  rcases ds with _ | ⟨d, _ | ⟨_, _⟩⟩
  · cases hf
  · obtain ⟨v, rfl, h1⟩ := hx.one
    cases d with
    | list ys =>
      obtain ⟨bs, e1, rfl⟩ := Option.map_eq_some_iff.mp hf
      obtain ⟨p, zs, rfl, h2, h3⟩ := h1.list
      exact ⟨p, bs, rfl, by rw [← bools_rep h3 e1]; exact h2, q _ _ (.bool _)⟩
    | _ => cases hf
  · cases d <;> cases hf
/-- repr, where no guard is up -/
theorem c_repr (hg : X.A.guards = some []) (hu : X.A.units + 64 < cLine) : CallR X (.builtin "repr") (rF X.K (bltD .repr)) := by
  intro pins s σ H xs us Q I rv h
  obtain ⟨Bad, ds, g, ok, hx, hf, q⟩ := h
  rcases ds with _ | ⟨d, _ | ⟨_, _⟩⟩
  · cases hf
  · obtain ⟨v, rfl, h1⟩ := hx.one
    simp only [bltD] at hf
    split at hf
    · rename_i hc
      obtain ⟨c1, c2, c3, c4⟩ := hc
      cases hf
      obtain ⟨u, rfl, ru⟩ : ∃ u, us = [u] ∧ RelV v u := by
        cases rv with
        | cons r t => cases t; exact ⟨_, rfl, r⟩
      have fin : ∀ (h' : Heap) (u' : Tok) (tk : Nat), (∀ b o, s.heap.get? b = some o → h'.get? b = some o) → EP X pins σ Q (.str d.shown u') { s with heap := h', toks := tk } :=
        fun h' u' tk k => ⟨.str _, H, I.kept k, ⟨u', rfl⟩, q _ _ (.str _)⟩
      have big : ∀ a, u = .ref a → wpAny (model X.prog X.w) X.A (call (.builtin "repr") [u]) (EP X pins σ Q) X.xe s := fun a e => by
        subst e
        obtain ⟨as, rd⟩ := Dp.reads I d v _ h1.dp ru
        exact repr_of_reads' rd c1 (fun z => absurd z (by rw [c2]; exact Bool.false_ne_true)) hg (by omega) (fun _ _ e => e) (fun h' u' tk k => fin h' u' tk k) c4
      cases h1 with
      | of h1 =>
        cases h1 with
        | non =>
          cases ru
          exact P.repr_of_none (fin _ _ _ fun _ _ e => e)
        | bl b =>
          cases ru
          exact P.repr_of_bool (fin _ _ _ fun _ _ e => e)
        | int i =>
          obtain ⟨t, rfl⟩ := ru
          exact P.repr_of_int (of_decide_eq_true c1) (fin _ _ _ fun _ _ e => e)
        | str z =>
          obtain ⟨t, rfl⟩ := ru
          exact P.repr_of_str (fin _ _ _ fun _ _ e => e) c4
        | lst _ _ => exact big _ ru
        | tup _ _ => exact big _ ru
      | lst e _ _ =>
        subst e
        exact big _ ru
    · cases hf
  · cases hf
theorem ints_rep {K : PySem.W.Frag} {Bad : Addr → Prop} {H : Hp} : ∀ {vs : List V} {ds : List PyData} {bs : List Int}, Reps K Bad H vs ds → intsD ds = some bs → vs = bs.map V.int
  | _, _, bs, .nil, e => by cases e; rfl
  | _, _, bs, .cons (d := d) h t, e => by
    cases d with
    | int b =>
      have e' : (intsD _).map (b :: ·) = some bs := e
      obtain ⟨cs, e1, rfl⟩ := Option.map_eq_some_iff.mp e'
      cases h
      rw [ints_rep t e1]
      rfl
    | _ => cases e
theorem reps_ints {K : PySem.W.Frag} {Bad : Addr → Prop} {H : Hp} : ∀ ys : List Int, Reps K Bad H (ys.map V.int) (ys.map PyData.int)
  | [] => .nil
  | y :: r => .cons (.int y) (reps_ints r)
theorem insI_perm (x : Int) : ∀ l : List Int, (insI x l).Perm (x :: l)
  | [] => .refl _
  | y :: r => by
    unfold insI
    split
    · exact .refl _
    · exact ((insI_perm x r).cons y).trans (.swap x y r)
theorem sortI_perm : ∀ l : List Int, (sortI l).Perm l
  | [] => .refl _
  | x :: r => (insI_perm x _).trans ((sortI_perm r).cons x)
theorem insI_sorted (x : Int) : ∀ l : List Int, l.Pairwise (· ≤ ·) → (insI x l).Pairwise (· ≤ ·)
  | [], _ => by simp [insI]
  | y :: r, h => by
    unfold insI
    have h' := List.pairwise_cons.mp h
    split
    · rename_i hxy
      refine List.pairwise_cons.mpr ⟨fun z hz => ?_, h⟩
      rcases List.mem_cons.mp hz with rfl | hz
      · exact hxy
      · exact Int.le_trans hxy (h'.1 z hz)
    · rename_i hxy
      refine List.pairwise_cons.mpr ⟨fun z hz => ?_, insI_sorted x r h'.2⟩
      have hz := (insI_perm x r).mem_iff.mp hz
      rcases List.mem_cons.mp hz with rfl | hz
      · omega
      · exact h'.1 z hz
theorem sortI_sorted : ∀ l : List Int, (sortI l).Pairwise (· ≤ ·)
  | [] => .nil
  | x :: r => insI_sorted x _ (sortI_sorted r)
theorem sorted_eq {l m : List Int} (p : l.Perm m) (h : l.Pairwise (· ≤ ·)) (g : m.Pairwise (· ≤ ·)) : l = m :=
  p.eq_of_pairwise (fun a b _ _ h1 h2 => Int.le_antisymm h1 h2) h g
theorem maxI_is {ns : List Int} {m k : Int} (h : maxI ns = some k) (h1 : m ∈ ns) (h2 : ∀ y ∈ ns, y ≤ m) : k = m := by
  cases ns with
  | nil => cases h
  | cons x r =>
    cases h
    have key : ∀ (r : List Int) (x : Int), (x ≤ r.foldl max x ∧ ∀ y ∈ r, y ≤ r.foldl max x) ∧ (r.foldl max x = x ∨ r.foldl max x ∈ r) := by
      intro r
      induction r with
      | nil => intro x; exact ⟨⟨Int.le_refl _, fun y hy => nomatch hy⟩, .inl rfl⟩
      | cons z r ih =>
        intro x
        obtain ⟨⟨a1, a2⟩, a3⟩ := ih (max x z)
        refine ⟨⟨Int.le_trans (by omega) a1, fun y hy => ?_⟩, ?_⟩
        · rcases List.mem_cons.mp hy with rfl | hy
          · exact Int.le_trans (by omega) a1
          · exact a2 y hy
        · rcases a3 with a3 | a3
          · rw [List.foldl_cons, a3]
            by_cases hh : x ≤ z
            · right; rw [Int.max_eq_right hh]; exact List.mem_cons_self
            · left; omega
          · exact .inr (List.mem_cons_of_mem _ a3)
    obtain ⟨⟨a1, a2⟩, a3⟩ := key r x
    have e1 : r.foldl max x ≤ m := by
      rcases a3 with a3 | a3
      · rw [a3]; exact h2 x List.mem_cons_self
      · exact h2 _ (List.mem_cons_of_mem _ a3)
    have e2 : m ≤ r.foldl max x := by
      rcases List.mem_cons.mp h1 with rfl | h1
      · exact a1
      · exact a2 m h1
    omega
theorem minI_is {ns : List Int} {m k : Int} (h : minI ns = some k) (h1 : m ∈ ns) (h2 : ∀ y ∈ ns, m ≤ y) : k = m := by
  cases ns with
  | nil => cases h
  | cons x r =>
    cases h
    have key : ∀ (r : List Int) (x : Int), (r.foldl min x ≤ x ∧ ∀ y ∈ r, r.foldl min x ≤ y) ∧ (r.foldl min x = x ∨ r.foldl min x ∈ r) := by
      intro r
      induction r with
      | nil => intro x; exact ⟨⟨Int.le_refl _, fun y hy => nomatch hy⟩, .inl rfl⟩
      | cons z r ih =>
        intro x
        obtain ⟨⟨a1, a2⟩, a3⟩ := ih (min x z)
        refine ⟨⟨Int.le_trans a1 (by omega), fun y hy => ?_⟩, ?_⟩
        · rcases List.mem_cons.mp hy with rfl | hy
          · exact Int.le_trans a1 (by omega)
          · exact a2 y hy
        · rcases a3 with a3 | a3
          · rw [List.foldl_cons, a3]
            by_cases hh : z ≤ x
            · right; rw [Int.min_eq_right hh]; exact List.mem_cons_self
            · left; omega
          · exact .inr (List.mem_cons_of_mem _ a3)
    obtain ⟨⟨a1, a2⟩, a3⟩ := key r x
    have e1 : m ≤ r.foldl min x := by
      rcases a3 with a3 | a3
      · rw [a3]; exact h2 x List.mem_cons_self
      · exact h2 _ (List.mem_cons_of_mem _ a3)
    have e2 : r.foldl min x ≤ m := by
      rcases List.mem_cons.mp h1 with rfl | h1
      · exact a1
      · exact a2 m h1
    omega
theorem one_list {f : List PyData → Option PyData} {ds : List PyData} {g : PyData} (h : bltD .sum ds = some g ∨ bltD .sorted ds = some g ∨ bltD .maxL ds = some g ∨ bltD .minL ds = some g) : ∃ xs ns, ds = [.list xs] ∧ intsD xs = some ns := by
  have key : ∀ {α : Type} {xs : List PyData} {f : List Int → Option α} {y : α}, (intsD xs).bind f = some y → ∃ ns, intsD xs = some ns := fun h => let ⟨a, e, _⟩ := Option.bind_eq_some_iff.mp h; ⟨a, e⟩
  have key2 : ∀ {α : Type} {xs : List PyData} {f : List Int → α} {y : α}, (intsD xs).map f = some y → ∃ ns, intsD xs = some ns := fun h => let ⟨a, e, _⟩ := Option.map_eq_some_iff.mp h; ⟨a, e⟩
  rcases ds with _ | ⟨d, _ | ⟨e, t⟩⟩
  · rcases h with h | h | h | h <;> cases h
  · cases d with
    | list xs =>
      rcases h with h | h | h | h
      · obtain ⟨ns, e⟩ := key2 h; exact ⟨xs, ns, rfl, e⟩
      · obtain ⟨ns, e⟩ := key2 h; exact ⟨xs, ns, rfl, e⟩
      · obtain ⟨ns, e⟩ := key h; exact ⟨xs, ns, rfl, e⟩
      · obtain ⟨ns, e⟩ := key h; exact ⟨xs, ns, rfl, e⟩
    | _ => rcases h with h | h | h | h <;> cases h
  · rcases h with h | h | h | h <;> (cases d <;> cases h)
theorem c_sum (hc : X.calm = true) : CallR X (.builtin "sum") (rF X.K (bltD .sum)) := by
  refine CallR.imp (cr_sum hc) fun xs H Q h => ?_
  obtain ⟨Bad, ds, g, ok, hx, hf, q⟩ := h
  obtain ⟨ys, ns, rfl, e⟩ := one_list (f := fun _ => none) (.inl hf)
  obtain ⟨v, rfl, h1⟩ := hx.one
  obtain ⟨p, zs, rfl, h2, h3⟩ := h1.list
  have hf : (intsD ys).map (fun ns => PyData.int ns.sum) = some g := hf
  rw [e] at hf
  cases hf
  exact ⟨p, ns, rfl, by rw [← ints_rep h3 e]; exact h2, q _ _ (.int _)⟩
theorem c_sorted : CallR X (.builtin "sorted") (rF X.K (bltD .sorted)) := by
  refine CallR.imp cr_sortedI fun xs H Q h => ?_
  obtain ⟨Bad, ds, g, ok, hx, hf, q⟩ := h
  obtain ⟨ys, ns, rfl, e⟩ := one_list (f := fun _ => none) (.inr (.inl hf))
  obtain ⟨v, rfl, h1⟩ := hx.one
  obtain ⟨p, zs, rfl, h2, h3⟩ := h1.list
  have hf : (intsD ys).map (fun ns => PyData.list ((sortI ns).map .int)) = some g := hf
  rw [e] at hf
  cases hf
  refine ⟨p, ns, rfl, by rw [← ints_rep h3 e]; exact h2, fun ns' l pm so hl => ?_⟩
  have : ns' = sortI ns := sorted_eq (pm.trans (sortI_perm ns).symm) so (sortI_sorted ns)
  subst this
  exact q _ _ (.list ok hl (reps_ints _))
theorem c_maxL (hc : X.calm = true) : CallR X (.builtin "max") (rF X.K (bltD .maxL)) := by
  refine CallR.imp (cr_max hc) fun xs H Q h => ?_
  obtain ⟨Bad, ds, g, ok, hx, hf, q⟩ := h
  obtain ⟨ys, ns, rfl, e⟩ := one_list (f := fun _ => none) (.inr (.inr (.inl hf)))
  obtain ⟨v, rfl, h1⟩ := hx.one
  obtain ⟨p, zs, rfl, h2, h3⟩ := h1.list
  have hf : (intsD ys).bind (fun ns => (maxI ns).map PyData.int) = some g := hf
  rw [e] at hf
  obtain ⟨k, ek, rfl⟩ := Option.map_eq_some_iff.mp (show (maxI ns).map PyData.int = some g from hf)
  refine ⟨p, ns, rfl, by rw [← ints_rep h3 e]; exact h2, ?_, fun m h4 h5 => ?_⟩
  · cases ns with
    | nil => cases ek
    | cons _ _ => simp
  · rw [← maxI_is ek h4 h5]
    exact q _ _ (.int _)
theorem c_minL (hc : X.calm = true) : CallR X (.builtin "min") (rF X.K (bltD .minL)) := by
  refine CallR.imp (cr_min hc) fun xs H Q h => ?_
  obtain ⟨Bad, ds, g, ok, hx, hf, q⟩ := h
  obtain ⟨ys, ns, rfl, e⟩ := one_list (f := fun _ => none) (.inr (.inr (.inr hf)))
  obtain ⟨v, rfl, h1⟩ := hx.one
  obtain ⟨p, zs, rfl, h2, h3⟩ := h1.list
  have hf : (intsD ys).bind (fun ns => (minI ns).map PyData.int) = some g := hf
  rw [e] at hf
  obtain ⟨k, ek, rfl⟩ := Option.map_eq_some_iff.mp (show (minI ns).map PyData.int = some g from hf)
  refine ⟨p, ns, rfl, by rw [← ints_rep h3 e]; exact h2, ?_, fun m h4 h5 => ?_⟩
  · cases ns with
    | nil => cases ek
    | cons _ _ => simp
  · rw [← minI_is ek h4 h5]
    exact q _ _ (.int _)
theorem kits : ∀ a ∈ ["NoneType", "bool", "int", "str", "list", "tuple"], ∀ k ∈ kindNames, kitB a k = some (isK a k) := by decide +kernel
/-- what type a datum is of -/
theorem ty_rep {K : PySem.W.Frag} {Bad : Addr → Prop} {H : Hp} {v : V} {d : PyData} (h : RepD K Bad H v d) : TyX K H v (.type (kindOf d)) ∧ kindOf d ∈ ["NoneType", "bool", "int", "str", "list", "tuple"] := by
  cases d with
  | none =>
    cases h with
    | of h => cases h; exact ⟨.base .non, by simp [kindOf]⟩
  | bool b => rw [h.bool]; exact ⟨.base (.bl b), by simp [kindOf]⟩
  | int i => rw [h.int]; exact ⟨.base (.int i), by simp [kindOf]⟩
  | str x => rw [h.str]; exact ⟨.base (.str x), by simp [kindOf]⟩
  | list ds =>
    obtain ⟨p, xs, rfl, q, _⟩ := h.list
    refine ⟨?_, by simp [kindOf]⟩
    rcases q with (q | ⟨o, q⟩) | ⟨o, its, n, q, c, _⟩
    · exact .base (.lst q)
    · exact .base (.frz q)
    · exact .kList q c
  | tuple ds =>
    obtain ⟨p, xs, rfl, q, _⟩ := h.tuple
    refine ⟨?_, by simp [kindOf]⟩
    rcases q with ⟨o, q, _⟩ | ⟨o, its, n, q, c, _⟩
    · exact .fTuple q
    · exact .kTuple q c
  | dict _ =>
    cases h with
    | of h => cases h
theorem c_isi {t : String} (ht : t ∈ kindNames) : CallR X (.builtin "isinstance") (fun xs H Q => ∃ Bad d v, xs = [v, .ty t] ∧ RepD X.K Bad H v d ∧ Q (.bl (isKind t d)) H) := by
  refine CallR.imp call_isi fun xs H Q h => ?_
  obtain ⟨Bad, d, v, rfl, h1, q⟩ := h
  obtain ⟨h2, h3⟩ := ty_rep h1
  exact ⟨v, .ty t, _, .type t, _, rfl, .ty t, h2, kit_ty (kits _ h3 t ht), q⟩
theorem MtR.imp {id : String} {r r' : V → List V → Hp → VK → Prop} (h : MtR X id r) (i : ∀ x xs H Q, r' x xs H Q → r x xs H Q) : MtR X id r' :=
  fun pins s σ H x xs v us Q I rx rv q => h pins s σ H x xs v us Q I rx rv (i x xs H Q q)
theorem m_removesuffix : MtR X "str.removesuffix" (rM X.K (methD .removesuffix)) := by
  refine MtR.imp mt_removesuffix fun x xs H Q h => ?_
  obtain ⟨Bad, d, ds, g, ok, hx, hxs, hf, q⟩ := h
  rcases ds with _ | ⟨e, _ | ⟨_, _⟩⟩
  · cases d <;> cases hf
  · obtain ⟨v, rfl, h1⟩ := hxs.one
    cases d <;> cases e <;> simp only [methD, reduceCtorEq] at hf
    split at hf
    · rename_i hz
      cases hf
      exact ⟨_, _, hx.str, by rw [h1.str], hz, q _ _ (.str _)⟩
    · cases hf
  · cases d <;> cases e <;> cases hf
theorem m_endswith : MtR X "str.endswith" (rM X.K (methD .endswith)) := by
  refine MtR.imp mt_endswith fun x xs H Q h => ?_
  obtain ⟨Bad, d, ds, g, ok, hx, hxs, hf, q⟩ := h
  rcases ds with _ | ⟨e, _ | ⟨_, _⟩⟩
  · cases d <;> cases hf
  · obtain ⟨v, rfl, h1⟩ := hxs.one
    cases d <;> cases e <;> cases hf
    exact ⟨_, _, hx.str, by rw [h1.str], q _ _ (.bool _)⟩
  · cases d <;> cases e <;> cases hf
theorem m_startswith : MtR X "str.startswith" (rM X.K (methD .startswith)) := by
  refine MtR.imp mt_startswith fun x xs H Q h => ?_
  obtain ⟨Bad, d, ds, g, ok, hx, hxs, hf, q⟩ := h
  rcases ds with _ | ⟨e, _ | ⟨_, _⟩⟩
  · cases d <;> cases hf
  · obtain ⟨v, rfl, h1⟩ := hxs.one
    cases d <;> cases e <;> cases hf
    exact ⟨_, _, hx.str, by rw [h1.str], q _ _ (.bool _)⟩
  · cases d <;> cases e <;> cases hf
theorem m_join : MtR X "str.join" (rM X.K (methD .join)) := by
  refine MtR.imp mt_join fun x xs H Q h => ?_
  obtain ⟨Bad, d, ds, g, ok, hx, hxs, hf, q⟩ := h
  rcases ds with _ | ⟨e, _ | ⟨_, _⟩⟩
  · cases d <;> cases hf
  · obtain ⟨v, rfl, h1⟩ := hxs.one
    cases d with
    | str a =>
      cases e with
      | list ys =>
        obtain ⟨zs, e1, e2⟩ := Option.bind_eq_some_iff.mp hf
        split at e2
        · rename_i hz
          cases e2
          obtain ⟨p, ws, rfl, h2, h3⟩ := h1.list
          exact ⟨a, p, zs, hx.str, rfl, .inl (by rw [← strs_rep h3 e1]; exact h2), hz, q _ _ (.str _)⟩
        · cases e2
      | tuple ys =>
        obtain ⟨zs, e1, e2⟩ := Option.bind_eq_some_iff.mp hf
        split at e2
        · rename_i hz
          cases e2
          obtain ⟨p, ws, rfl, h2, h3⟩ := h1.tuple
          exact ⟨a, p, zs, hx.str, rfl, .inr (by rw [← strs_rep h3 e1]; exact h2.sq), hz, q _ _ (.str _)⟩
        · cases e2
      | _ => cases hf
    | _ => cases e <;> cases hf
  · cases d <;> cases e <;> cases hf
theorem reps_strs {K : PySem.W.Frag} {Bad : Addr → Prop} {H : Hp} : ∀ ys : List Str, Reps K Bad H (ys.map V.str) (ys.map PyData.str)
  | [] => .nil
  | y :: r => .cons (.str y) (reps_strs r)
theorem m_split : MtR X "str.split" (rM X.K (methD .split)) := by
  refine MtR.imp mt_split fun x xs H Q h => ?_
  obtain ⟨Bad, d, ds, g, ok, hx, hxs, hf, q⟩ := h
  rcases ds with _ | ⟨e, _ | ⟨_, _⟩⟩
  · cases d <;> cases hf
  · obtain ⟨v, rfl, h1⟩ := hxs.one
    cases d <;> cases e <;> simp only [methD, reduceCtorEq] at hf
    split at hf
    · rename_i hz
      cases hf
      exact ⟨_, _, hx.str, by rw [h1.str], hz.1, hz.2, fun p hp => q _ _ (.list ok hp (reps_strs _))⟩
    · cases hf
  · cases d <;> cases e <;> cases hf
theorem place_rep {K : PySem.W.Frag} {Bad : Addr → Prop} {H : Hp} {v : V} {d : PyData} (h : Rep K Bad H v d) (fd : flatD d = true) : ∀ {vs : List V} {ds : List PyData} {n : Nat}, Reps K Bad H vs ds → ds.all flatD = true → placeD d ds = some n →
    ∃ z, vs[n]? = some z ∧ eqV z v = true ∧ ∀ (m : Nat) (z' : V), m < n → vs[m]? = some z' → eqV z' v = false
  | _, _, n, .nil, _, e => by cases e
  | _, _, n, .cons (v := w) (d := x) (vs := vs) g t, f, e => by
    rw [List.all_cons, Bool.and_eq_true] at f
    have eq := eqV_rep g h f.1 fd
    simp only [placeD] at e
    split at e
    · rename_i hc
      cases e
      exact ⟨w, rfl, by rw [eq]; exact hc, fun m z' hm => absurd hm (Nat.not_lt_zero _)⟩
    · rename_i hc
      obtain ⟨k, e1, rfl⟩ := Option.map_eq_some_iff.mp e
      obtain ⟨z, h1, h2, h3⟩ := place_rep h fd t f.2 e1
      refine ⟨z, by simpa using h1, h2, fun m z' hm hz => ?_⟩
      cases m with
      | zero =>
        have e2 : w = z' := by simpa using hz
        rw [← e2, eq]
        exact Bool.not_eq_true _ ▸ hc
      | succ m => exact h3 m z' (by omega) (by simpa using hz)
theorem indexD_ok {ds : List PyData} {d g : PyData} (h : indexD ds d = some g) : flatD d = true ∧ ds.all flatD = true ∧ ∃ n, placeD d ds = some n ∧ g = .int (n : Nat) := by
  unfold indexD at h
  split at h
  · rename_i hc
    obtain ⟨n, e1, rfl⟩ := Option.map_eq_some_iff.mp h
    exact ⟨hc.1, hc.2, n, e1, rfl⟩
  · cases h
/-- index of a list's, a tuple's item -/
def rIdxM (K : PySem.W.Frag) (k : Bool) : V → List V → Hp → VK → Prop := fun x xs H Q => ∃ Bad es d g, BadOk Bad H ∧ RepD K Bad H x (if k then .list es else .tuple es) ∧ RepDs K Bad H xs [d] ∧ indexD es d = some g ∧ ∀ v H', OpPost K Bad H true g v H' → Q v H'
theorem m_lindex : MtR X "list.index" (rIdxM X.K true) := by
  refine MtR.imp mt_index fun x xs H Q h => ?_
  obtain ⟨Bad, es, d, g, ok, hx, hxs, hf, q⟩ := h
  obtain ⟨v, rfl, h1⟩ := hxs.one
  obtain ⟨f1, f2, n, e1, rfl⟩ := indexD_ok hf
  obtain ⟨p, ws, rfl, h2, h3⟩ := RepD.list hx
  obtain ⟨z, h4, h5, h6⟩ := place_rep (h1.flat f1) f1 h3 f2 e1
  exact ⟨p, ws, v, n, z, rfl, rfl, h2, flat_rep (h1.flat f1) f1, flats_rep h3 f2, h4, h5, h6, q _ _ (.int _)⟩
theorem m_tindex : MtR X "tuple.index" (rIdxM X.K false) := by
  refine MtR.imp mt_tindex fun x xs H Q h => ?_
  obtain ⟨Bad, es, d, g, ok, hx, hxs, hf, q⟩ := h
  obtain ⟨v, rfl, h1⟩ := hxs.one
  obtain ⟨f1, f2, n, e1, rfl⟩ := indexD_ok hf
  obtain ⟨p, ws, rfl, h2, h3⟩ := RepD.tuple hx
  obtain ⟨z, h4, h5, h6⟩ := place_rep (h1.flat f1) f1 h3 f2 e1
  exact ⟨p, ws, v, n, z, rfl, rfl, h2.sq, flat_rep (h1.flat f1) f1, flats_rep h3 f2, h4, h5, h6, q _ _ (.int _)⟩
end
end Tr


namespace Tr
open PySem L2
open PySem.Spec PyProof.Rows

/-- what the i-th def promises: it gives what the evaluator gives -/
def spF (G : Gam) (i : Nat) : Sp := fun vs H Q E => ∃ wd σ env S as, SR G wd σ H env S ∧ RepAs G.K (BadOf wd σ env S) H wd.ρ vs as ∧
  match G.C.call i as S with
  | .ok a S' => ∀ v H', Post G wd σ env S H (G.fr i) a S' v H' → Q v H'
  | .exc k d S' => ∀ cls x H', PostX G wd σ env S H k d S' cls x H' → E cls x H'
  | .err => False

structure XOk (X : Cx) (G : Gam) (c : Ctx) (W : WX) : Prop where
  N : X.N = c.N
  nd : c.N.Nodup
  sc : X.env.scope = c.sc
  fn : ∀ x, c.fn x = true → X.fn x = true
  calm : c.calm = true → X.calm = true
  K : X.K = G.K
  un : X.A.units + 64 < cLine
  room : c.calm = true → Room G.n X.A
  gu : c.calm = true → X.A.guards = some []
  fns : ∀ (i : Nat) (x : Str) (np : Nat), c.fns.lookup i = some (x, np) → ∃ f fd ps, X.mg x = some (.ref f) ∧ PySem.W.keepIn X.K (.ref f) = true ∧ Binds X.K fd ps [] ∧ FnG X.prog X.w X.K X.mg X.base G.n f fd ps (spF G i)
  cons : ∀ (x : Str) (d : PyData), c.cons.lookup x = some d → ∃ u v, X.mg x = some u ∧ RelV v u ∧ ∀ Bad H, Rep G.K Bad H v d
  free : ∀ x ∈ bltNames, X.mg x = none
  fr : c.fr = G.fr
  tk : Takes X W
  po : PassesOwn (model X.prog X.w) X.A X.env X.xe

/-- an item of a walk: a value, or a tuple that is taken apart at once -/
inductive RepI (K : PySem.W.Frag) (Bad : Addr → Prop) (H : Hp) (ρ : List Addr) (v : V) : A → Prop
  | of {a : A} : RepA K Bad H ρ v a → RepI K Bad H ρ v a
  | tup {p : Addr} {xs : List V} {as : List A} : v = .ref p → SqT K H p xs → 2 ≤ as.length → RepAs K Bad H ρ xs as → RepI K Bad H ρ v (mkTup as)
/-- a later state of a walk that started at wd, σ, env, S, H -/
structure Later (G : Gam) (o : Bool) (g : List (Nat × Cell)) (M : Addr → Prop) (wd : Wd) (σ : L2.St) (env : TEnv) (S : Store) (H : Hp) (wd2 : Wd) (σ2 : L2.St) (env2 : TEnv) (S2 : Store) (H2 : Hp) : Prop where
  sr : SR G wd2 σ2 H2 env2 S2
  pre : wd.ρ <+: wd2.ρ
  ext : Ext M H H2
  hM : ∀ a, M a → (Live wd.ρ S a ∨ (o = false ∧ Own σ env a)) ∨ H a = none
  hb : ∀ a, BadOf wd2 σ2 env2 S2 a → BadOf wd σ env S a ∨ H a = none
  g : ∀ p ∈ g, S2[p.1]? = some p.2
/-- a walk over items: it goes as long as the cells in g stay -/
def Wlk (G : Gam) (k o : Bool) (J : It) (as : List A) (g : List (Nat × Cell)) (wd : Wd) (σ : L2.St) (env : TEnv) (S : Store) (H : Hp) : Prop :=
  ∃ (Gd : Hp → Prop) (Y : Nat → Hp → V → Hp → Prop), Walk J as.length Gd Y ∧
    (∀ M wd2 σ2 env2 S2 H2, Later G o g M wd σ env S H wd2 σ2 env2 S2 H2 → Gd H2) ∧
    ∀ M wd2 σ2 env2 S2 H2 i x H', Later G o g M wd σ env S H wd2 σ2 env2 S2 H2 → i < as.length → Y i H2 x H' →
      New H2 H' ∧ ∃ a, as[i]? = some a ∧ RepI G.K (BadOf wd2 σ2 env2 S2) H' wd2.ρ x a ∧ (k = false → RepA G.K (BadOf wd2 σ2 env2 S2) H' wd2.ρ x a)
def tI (G : Gam) (W : WX) (k o : Bool) (w : Wk) : TI := fun σ H R => ∃ wd env S, SR G wd σ H env S ∧
  Out G W wd σ env S H (evalW G.C w env S) fun p S' => ∀ J ρ' H', Step wd S H ρ' S' H' → SR G (wd.up ρ') σ H' env S' → Wlk G k o J p.1 p.2 (wd.up ρ') σ env S' H' → R J H'

structure Sound (G : Gam) (e' : Ex) : Prop where
  val : ∀ (X : Cx) (c : Ctx) (W : WX) (e : Expr), XOk X G c W → chkE c false e' e = true → PE X e (tE G W e')
  bor : ∀ (X : Cx) (c : Ctx) (W : WX) (e : Expr), XOk X G c W → chkE c true e' e = true → PE X e (tB G W e')
  tst : ∀ (X : Cx) (c : Ctx) (W : WX) (e : Expr), XOk X G c W → chkE c false e' e = true → PT X e (tT G W e')
structure SoundW (G : Gam) (w : Wk) : Prop where
  wlk : ∀ (X : Cx) (c : Ctx) (W : WX) (o : Bool) (tg e : Expr), XOk X G c W → chkW c o w tg e = true → PI X tg e (tI G W (isTuple tg) o w)

section
variable {X : Cx} {G : Gam} {c : Ctx} {W : WX} {e : Expr} {e' : Ex}
theorem ba {a b : Bool} (h : (a && b) = true) : a = true ∧ b = true := Bool.and_eq_true_iff.mp h
theorem de {p : Prop} [Decidable p] (h : decide p = true) : p := of_decide_eq_true h
theorem XOk.look (o : XOk X G c W) {i : Nat} {x : Str} (h : nmB c i x = true) : X.N[i]? = some x ∧ Vis X.env.scope x ∧ (x == ("__debug__" : Str)) = false ∧ (x == ("__classdict__" : Str)) = false := by
  unfold nmB at h
  simp only [Bool.and_eq_true, decide_eq_true_eq, Bool.not_eq_true'] at h
  obtain ⟨h1, h2, h3, h4⟩ := h
  refine ⟨by rw [o.N]; exact h1, ?_, h3, h4⟩
  rw [o.sc]
  unfold Vis
  split at h2
  · exact .inl (by assumption)
  · exact .inr (.inl (by assumption))
  · exact .inr (.inr (by assumption))
  · cases h2
theorem XOk.gl (o : XOk X G c W) {x : Str} (h : glB c x = true) : Gl X x ∧ (x == ("__debug__" : Str)) = false := by
  unfold glB at h
  simp only [Bool.and_eq_true, decide_eq_true_eq, Bool.not_eq_true'] at h
  refine ⟨?_, h.2⟩
  show X.env.scope.names.lookup x = _
  rw [o.sc]
  exact h.1

theorem bor_of (h : PE X e (tE G W e')) : PE X e (tB G W e') := PE.imp h fun σ H Q ⟨wd, env, S, I, h⟩ => ⟨wd, env, S, I, h.mono fun a S1 _ q v H' p => q v H' p.b⟩
theorem isTrue_of (h : plainT e = true) {env : Env} (whole : Sem Value) : isTrue e env whole = (do let v ← whole; standAt e.pos; holding [v] (truthy v)) := by
  cases e <;> first
    | rfl
    | (cases h; done)
    | (rename_i op x p; cases op <;> first | rfl | (cases h; done))
theorem val_bool {K : PySem.W.Frag} {Bad : Addr → Prop} {H : Hp} {ρ : List Addr} {v : V} {b : Bool} (h : RepA K Bad H ρ v (.val (.bool b))) : v = .bl b := by
  cases h with
  | val h => cases h; rfl
theorem tst_of (h : PE X e (tE G W e')) (hp : plainT e = true) : PT X e (tT G W e') := by
  refine PT.imp (pt_val h (fun _ => isTrue_of hp _)) fun σ H Q ⟨wd, env, S, I, h⟩ => ⟨wd, env, S, I, h.mono fun a S1 _ ⟨b, eb, q⟩ v H' p => ?_⟩
  subst eb
  obtain ⟨ρ', st, I', r, _⟩ := id p
  exact ⟨b, val_bool r, q H' p.n⟩

theorem wlk_str {k o : Bool} {z : Str} {wd : Wd} {σ : L2.St} {env : TEnv} {S : Store} {H : Hp} : Wlk G k o (Its z) (z.cps.toList.map fun c => .val (.str ⟨#[c]⟩)) [] wd σ env S H := by
  refine ⟨fun _ => True, _, by rw [List.length_map, Array.length_toList]; exact walk_str, fun _ _ _ _ _ _ _ => trivial, fun M wd2 σ2 env2 S2 H2 i x H' L hi y => ?_⟩
  obtain ⟨rfl, k, h1, rfl⟩ := y
  refine ⟨.inl rfl, _, ?_, .of (.val (.str _)), fun _ => .val (.str _)⟩
  rw [List.getElem?_map, Array.getElem?_toList, h1]
  rfl
theorem rangeD_len : ∀ (lo : Int) (n : Nat), (rangeD lo n).length = n
  | _, 0 => rfl
  | lo, n + 1 => congrArg (· + 1) (rangeD_len (lo + 1) n)
theorem rangeD_at : ∀ (lo : Int) (n i : Nat), i < n → (rangeD lo n)[i]? = some (.int (lo + i))
  | _, 0, _, h => absurd h (Nat.not_lt_zero _)
  | lo, n + 1, 0, _ => by simp [rangeD]
  | lo, n + 1, i + 1, h => by
    show (rangeD (lo + 1) n)[i]? = _
    rw [rangeD_at (lo + 1) n i (by omega)]
    congr 2
    omega
theorem wlk_range {k o : Bool} {lo : Int} {n : Nat} {wd : Wd} {σ : L2.St} {env : TEnv} {S : Store} {H : Hp} : Wlk G k o (Itr lo n) ((rangeD lo n).map .val) [] wd σ env S H := by
  refine ⟨fun _ => True, _, by rw [List.length_map, rangeD_len]; exact walk_range, fun _ _ _ _ _ _ _ => trivial, fun M wd2 σ2 env2 S2 H2 i x H' L hi y => ?_⟩
  obtain ⟨rfl, rfl⟩ := y
  rw [List.length_map, rangeD_len] at hi
  exact ⟨.inl rfl, _, by rw [List.getElem?_map, rangeD_at lo n i hi]; rfl, .of (.val (.int _)), fun _ => .val (.int _)⟩

/-- what is walked: a list or a tuple (t) at p, of the values xs -/
structure Src (G : Gam) (o t : Bool) (p : Addr) (xs : List V) (as : List A) (g : List (Nat × Cell)) (wd : Wd) (σ : L2.St) (env : TEnv) (S : Store) (H : Hp) : Prop where
  len : xs.length = as.length
  sq : ∀ M wd2 σ2 env2 S2 H2, Later G o g M wd σ env S H wd2 σ2 env2 S2 H2 → if t = true then SqT G.K H2 p xs else SqL G.K H2 p xs
  rep : ∀ M wd2 σ2 env2 S2 H2, Later G o g M wd σ env S H wd2 σ2 env2 S2 H2 → RepAs G.K (BadOf wd2 σ2 env2 S2) H2 wd2.ρ xs as
theorem Later.bad {o : Bool} {g : List (Nat × Cell)} {M : Addr → Prop} {wd : Wd} {σ : L2.St} {env : TEnv} {S : Store} {H : Hp} {wd2 : Wd} {σ2 : L2.St} {env2 : TEnv} {S2 : Store} {H2 : Hp} (L : Later G o g M wd σ env S H wd2 σ2 env2 S2 H2) :
    ∀ a, M a → BadOf wd σ env S a ∨ H a = none := fun a m => (L.hM a m).imp (fun z => z.elim .inr fun z => .inl (.inr z.2)) id
section
variable {o : Bool} {wd : Wd} {σ : L2.St} {env : TEnv} {S : Store} {H : Hp} {p : Addr} {xs : List V}
theorem src_list {ds : List PyData} (I : SR G wd σ H env S) (h : SqB G.K (BadOf wd σ env S) H p xs) (r : Reps G.K (BadOf wd σ env S) H xs ds) : Src G o false p xs (ds.map .val) [] wd σ env S H :=
  ⟨by rw [List.length_map]; exact r.length, fun M wd2 σ2 env2 S2 H2 L => (if_neg (by simp)).mpr (h.ext (Bad' := BadOf wd σ env S) L.bad L.ext fun a z => .inl z).sq, fun M wd2 σ2 env2 S2 H2 L => (r.ext I.badOk L.bad L.ext L.hb).as⟩
theorem src_tup {as : List A} (I : SR G wd σ H env S) (h : SqF G.K H p xs) (r : RepAs G.K (BadOf wd σ env S) H wd.ρ xs as) : Src G o true p xs as [] wd σ env S H :=
  ⟨r.length, fun M wd2 σ2 env2 S2 H2 L => (if_pos rfl).mpr (SqF.ext I.badOk L.bad L.ext h).sq, fun M wd2 σ2 env2 S2 H2 L => r.ext I.badOk L.bad L.ext L.hb L.pre⟩
theorem src_own {c : Cell} {as : List A} (I : SR G wd σ H env S) (ho : o = true) (hp : p ∉ wd.ρ) (h : ObjC G (BadOf wd σ env S) H wd.ρ p c) (e : c.items = some as) : ∃ xs, Src G o false p xs as [] wd σ env S H := by
  have np : ∀ {M wd2 σ2 env2 S2 H2}, Later G o [] M wd σ env S H wd2 σ2 env2 S2 H2 → ¬ M p := fun {M wd2 σ2 env2 S2 H2} L m => by
    rcases L.hM p m with (z | ⟨z, _⟩) | z
    · exact hp z.mem
    · rw [ho] at z; cases z
    · exact h.thr z
  cases h with
  | lst h1 h2 =>
    cases e
    exact ⟨_, by rw [List.length_map]; exact h2.length, fun M wd2 σ2 env2 S2 H2 L => (if_neg (by simp)).mpr (.inl (.inl (L.ext.keep _ _ h1 (np L)))), fun M wd2 σ2 env2 S2 H2 L => (h2.ext I.badOk L.bad L.ext L.hb).as⟩
  | refs h1 h2 =>
    cases e
    exact ⟨_, h2.length, fun M wd2 σ2 env2 S2 H2 L => (if_neg (by simp)).mpr (.inl (.inl (L.ext.keep _ _ h1 (np L)))), fun M wd2 σ2 env2 S2 H2 L => h2.ext I.badOk L.bad L.ext L.hb L.pre⟩
  | inst h1 h2 h3 => cases e
  | dead h => cases e
/-- the values of rigid items are told by them -/
theorem rigid_one {K : PySem.W.Frag} {Bad Bad' : Addr → Prop} {H H' : Hp} {ρ ρ' : List Addr} (hρ : ρ <+: ρ') {v v' : V} {a : A} (h : RepA K Bad H ρ v a) (h' : RepA K Bad' H' ρ' v' a) (r : a.rigid = true) : v' = v := by
  cases h with
  | val h =>
    cases h' with
    | val h' => cases h <;> cases h' <;> first | rfl | (cases r; done)
  | ref h =>
    cases h' with
    | ref h' =>
      obtain ⟨t, rfl⟩ := hρ
      rw [List.getElem?_append_left (List.getElem?_eq_some_iff.mp h).1, h] at h'
      cases h'; rfl
  | tup _ _ => cases r
theorem rigid_all {K : PySem.W.Frag} {Bad Bad' : Addr → Prop} {H H' : Hp} {ρ ρ' : List Addr} (hρ : ρ <+: ρ') : ∀ {vs vs' : List V} {as : List A}, RepAs K Bad H ρ vs as → RepAs K Bad' H' ρ' vs' as → as.all A.rigid = true → vs' = vs
  | _, _, _, .nil, .nil, _ => rfl
  | _, _, _, .cons h t, .cons h' t', r => by
    rw [List.all_cons, Bool.and_eq_true] at r
    rw [rigid_one hρ h h' r.1, rigid_all hρ t t' r.2]
theorem ObjC.items {Bad : Addr → Prop} {ρ : List Addr} {c : Cell} {as : List A} (h : ObjC G Bad H ρ p c) (e : c.items = some as) : ∃ xs, H p = some (.lst xs) ∧ RepAs G.K Bad H ρ xs as := by
  cases h with
  | lst h1 h2 => cases e; exact ⟨_, h1, h2.as⟩
  | refs h1 h2 => cases e; exact ⟨_, h1, h2⟩
  | inst h1 h2 h3 => cases e
  | dead h => cases e
theorem src_cell {n : Nat} {c : Cell} {as : List A} (I : SR G wd σ H env S) (hn : wd.ρ[n]? = some p) (e0 : S[n]? = some c) (e : c.items = some as) (hr : as.all A.rigid = true) : ∃ xs, Src G o false p xs as [(n, c)] wd σ env S H := by
  obtain ⟨xs, h1, h2⟩ := (I.cel n p c hn e0).items e
  have key : ∀ {M wd2 σ2 env2 S2 H2}, Later G o [(n, c)] M wd σ env S H wd2 σ2 env2 S2 H2 → H2 p = some (.lst xs) ∧ RepAs G.K (BadOf wd2 σ2 env2 S2) H2 wd2.ρ xs as := fun {M wd2 σ2 env2 S2 H2} L => by
    have e2 := L.g (n, c) (by simp)
    have hn2 : wd2.ρ[n]? = some p := by
      obtain ⟨t, e⟩ := L.pre
      rw [← e, List.getElem?_append_left (List.getElem?_eq_some_iff.mp hn).1]; exact hn
    obtain ⟨ys, g1, g2⟩ := (L.sr.cel n p c hn2 e2).items e
    have := rigid_all L.pre h2 g2 hr
    subst this
    exact ⟨g1, g2⟩
  exact ⟨xs, h2.length, fun M wd2 σ2 env2 S2 H2 L => (if_neg (by simp)).mpr (.inl (.inl (key L).1)), fun M wd2 σ2 env2 S2 H2 L => (key L).2⟩
/-- a value that is read, as what is walked -/
theorem src_of {v : V} {a : A} {as : List A} {g : List (Nat × Cell)} (I : SR G wd σ H env S) (r : RepB G (BadOf wd σ env S) H wd.ρ v a) (ho : o = true ∨ RepA G.K (BadOf wd σ env S) H wd.ρ v a) (e : itemsA S a = some (as, g)) :
    (∃ p xs t, v = .ref p ∧ Src G o t p xs as g wd σ env S H) ∨ ∃ z : Str, v = .str z ∧ g = [] ∧ as = z.cps.toList.map fun c => .val (.str ⟨#[c]⟩) := by
  have at_ : RepA G.K (BadOf wd σ env S) H wd.ρ v a → (∃ p xs t, v = .ref p ∧ Src G o t p xs as g wd σ env S H) ∨ ∃ z : Str, v = .str z ∧ g = [] ∧ as = z.cps.toList.map fun c => .val (.str ⟨#[c]⟩) := fun r => by
    cases r with
    | val h =>
      cases h with
      | lst h1 h2 => cases e; exact .inl ⟨_, _, false, rfl, src_list I h1 h2⟩
      | tup h1 h2 => cases e; exact .inl ⟨_, _, true, rfl, src_tup I h1 h2.as⟩
      | str z => cases e; exact .inr ⟨z, rfl, rfl, rfl⟩
      | _ => cases e
    | ref h =>
      rename_i n p
      simp only [itemsA] at e
      split at e
      · rename_i c ec
        split at e
        · rename_i as' ei
          split at e
          · rename_i hr
            cases e
            obtain ⟨xs, s⟩ := src_cell (o := o) I h ec ei hr
            exact .inl ⟨p, xs, false, rfl, s⟩
          · cases e
        · cases e
      · cases e
    | tup h1 h2 => cases e; exact .inl ⟨_, _, true, rfl, src_tup I h1 h2⟩
  cases r with
  | at_ r => exact at_ r
  | own e1 h1 h2 h3 =>
    rcases ho with ho | r
    · obtain ⟨as', ei, e⟩ := Option.map_eq_some_iff.mp e
      cases e
      obtain ⟨xs, s⟩ := src_own I ho h3 h1 ei
      exact .inl ⟨_, xs, false, e1, s⟩
    · cases r
theorem wlk_src {k t : Bool} {as : List A} {g : List (Nat × Cell)} (s : Src G o t p xs as g wd σ env S H) : Wlk G k o (if t = true then Itt G.K p else Itl G.K p) as g wd σ env S H := by
  have fin : ∀ M wd2 σ2 env2 S2 H2 i x H', Later G o g M wd σ env S H wd2 σ2 env2 S2 H2 → i < as.length → YAt xs i H2 x H' →
      New H2 H' ∧ ∃ a, as[i]? = some a ∧ RepI G.K (BadOf wd2 σ2 env2 S2) H' wd2.ρ x a ∧ (k = false → RepA G.K (BadOf wd2 σ2 env2 S2) H' wd2.ρ x a) := fun M wd2 σ2 env2 S2 H2 i x H' L hi y => by
    obtain ⟨rfl, y⟩ := y
    obtain ⟨d, h1, h2⟩ := (s.rep _ _ _ _ _ _ L).getV y
    exact ⟨.inl rfl, d, h1, .of h2, fun _ => h2⟩
  cases t with
  | true => exact ⟨fun H => SqT G.K H p xs, YAt xs, by rw [← s.len]; exact walk_tup, fun M wd2 σ2 env2 S2 H2 L => (if_pos rfl).mp (s.sq _ _ _ _ _ _ L), fin⟩
  | false => exact ⟨fun H => SqL G.K H p xs, YAt xs, by rw [← s.len]; exact walk_list, fun M wd2 σ2 env2 S2 H2 L => (if_neg (by simp)).mp (s.sq _ _ _ _ _ _ L), fin⟩
end
/-- a list, a tuple or a text is walked -/
def iSeq (K : PySem.W.Frag) (te : TE) : TI := fun σ H R => te σ H fun x H1 => (∃ a xs, x = .ref a ∧ SqL K H1 a xs ∧ R (Itl K a) H1) ∨ (∃ a xs, x = .ref a ∧ SqT K H1 a xs ∧ R (Itt K a) H1) ∨ ∃ z, x = .str z ∧ R (Its z) H1
theorem pi_seq {tg : Expr} {te : TE} (he : PE X e te) : PI X tg e (iSeq X.K te) := by
  refine ⟨fun pins s σ H R I h => thn (he.run pins s σ H _ I h) fun v s1 ⟨x, H1, I1, r1, q1⟩ => ?_⟩
  have one : ∀ b ∈ [s1.heap.objs.size], FpOk X pins H1 b := fun b hb => by
    have z : b = s1.heap.objs.size := by simpa using hb
    rw [z]
    exact I1.fpOk (Nat.le_refl _) (I1.hok.fresh (Nat.le_refl _))
  rcases q1 with ⟨a, xs, rfl, hq, q⟩ | ⟨a, xs, rfl, hq, q⟩ | ⟨z, rfl, q⟩
  · cases r1
    obtain ⟨its, rv, p, _⟩ := I1.list hq
    exact wpAny_pyIter_list p.isList ⟨_, [s1.heap.objs.size], _, _, H1, rfl, I1.kept (t' := s1.toks) fun b o w => Heap.get?_push_of_some _ w, turn_list a _, ⟨_, Heap.get?_push_size _ rfl, rfl, rfl⟩, one, q⟩
  · cases r1
    obtain ⟨its, rv, p, _⟩ := I1.tuple hq
    exact wpAny_pyIter_tuple (show s1.heap.IsTuple a its.toArray from p) ⟨_, [s1.heap.objs.size], _, _, H1, rfl, I1.kept (t' := s1.toks) fun b o w => Heap.get?_push_of_some _ w, turn_tuple a _, ⟨_, Heap.get?_push_size _ rfl, rfl, rfl⟩, one, q⟩
  · obtain ⟨t, rfl⟩ := r1
    cases ha : z.cps.all (· < 128)
    · exact wpAny_pyIter_wide ha (pi_one (tk := s1.toks) I1 _ (turn_str _ z t "str_iterator" (.inr rfl)) ⟨_, Heap.get?_push_size _ rfl, rfl, rfl⟩ q)
    · exact wpAny_pyIter_ascii ha (pi_one (tk := s1.toks) I1 _ (turn_str _ z t "str_ascii_iterator" (.inl rfl)) ⟨_, Heap.get?_push_size _ rfl, rfl, rfl⟩ q)
theorem PI.imp {tg : Expr} {t t' : TI} (h : PI X tg e t) (i : ∀ σ H R, t' σ H R → t σ H R) : PI X tg e t' := ⟨fun pins s σ H R I q => h.run pins s σ H R I (i σ H R q)⟩
theorem SR.self {wd : Wd} {σ : L2.St} {H : Hp} {env : TEnv} {S : Store} (I : SR G wd σ H env S) : SR G (wd.up wd.ρ) σ H env S := I
/-- the sole state behind -/
theorem Later.self {o : Bool} {g : List (Nat × Cell)} {wd : Wd} {σ : L2.St} {env : TEnv} {S : Store} {H : Hp} (I : SR G wd σ H env S) (hg : ∀ p ∈ g, S[p.1]? = some p.2) : Later G o g (fun _ => False) wd σ env S H wd σ env S H :=
  ⟨I, List.prefix_refl _, .refl, fun _ z => z.elim, fun a z => .inl z, hg⟩
theorem items_guard {S : Store} {a : A} {as : List A} {g : List (Nat × Cell)} (e : itemsA S a = some (as, g)) : ∀ p ∈ g, S[p.1]? = some p.2 := by
  cases a with
  | val d => cases d <;> cases e <;> exact fun _ z => nomatch z
  | tup as => cases e; exact fun _ z => nomatch z
  | own c =>
    obtain ⟨as', ei, e⟩ := Option.map_eq_some_iff.mp e
    cases e; exact fun _ z => nomatch z
  | exn k d => cases e
  | ref n =>
    simp only [itemsA] at e
    split at e
    · rename_i c ec
      split at e
      · split at e
        · cases e
          intro p hp
          have : p = (n, c) := by simpa using hp
          subst this
          exact ec
        · cases e
      · cases e
    · cases e
theorem SoundW.seq (a : Ex) (ha : Sound G a) : SoundW G (.seq a) := by
  refine ⟨fun X c W o tg e oX h => ?_⟩
  have key : ∀ {σ : L2.St} {H : Hp} {R : It → Hp → Prop} {wd : Wd} {env : TEnv} {S S1 : Store} {x : A} {v : V} {H1 : Hp} {as : List A} {g : List (Nat × Cell)} {ρ1 : List Addr}, SR G (wd.up ρ1) σ H1 env S1 → itemsA S1 x = some (as, g) →
      RepB G (BadOf (wd.up ρ1) σ env S1) H1 ρ1 v x → (o = true ∨ RepA G.K (BadOf (wd.up ρ1) σ env S1) H1 ρ1 v x) → (∀ J, Wlk G (isTuple tg) o J as g (wd.up ρ1) σ env S1 H1 → R J H1) →
      (∃ a xs, v = .ref a ∧ SqL X.K H1 a xs ∧ R (Itl X.K a) H1) ∨ (∃ a xs, v = .ref a ∧ SqT X.K H1 a xs ∧ R (Itt X.K a) H1) ∨ ∃ z, v = .str z ∧ R (Its z) H1 := by
    intro σ H R wd env S S1 x v H1 as g ρ1 I1 ei r ho q
    rw [oX.K]
    rcases src_of I1 r ho ei with ⟨p, xs, t, rfl, s⟩ | ⟨z, rfl, rfl, rfl⟩
    · have sq := s.sq _ _ _ _ _ _ (Later.self I1 (items_guard ei))
      have w := q _ (wlk_src s)
      cases t with
      | true => exact .inr (.inl ⟨p, xs, rfl, (if_pos rfl).mp sq, w⟩)
      | false => exact .inl ⟨p, xs, rfl, (if_neg (by simp)).mp sq, w⟩
    · exact .inr (.inr ⟨z, rfl, q _ wlk_str⟩)
  cases o with
  | true =>
    refine PI.imp (pi_seq (ha.bor X c W e oX h)) fun σ H R ⟨wd, env, S, I, h⟩ => ⟨wd, env, S, I, h.seq fun x S1 e1 h v H1 p => ?_⟩
    obtain ⟨⟨as, g⟩, ei, h⟩ := h.lift
    obtain ⟨ρ1, st, I1, r⟩ := p
    exact key (S := S) (H := H) I1 ei r (.inl rfl) fun J w => h J ρ1 H1 st I1 w
  | false =>
    refine PI.imp (pi_seq (ha.val X c W e oX h)) fun σ H R ⟨wd, env, S, I, h⟩ => ⟨wd, env, S, I, h.seq fun x S1 e1 h v H1 p => ?_⟩
    obtain ⟨⟨as, g⟩, ei, h⟩ := h.lift
    obtain ⟨ρ1, st, I1, r, _⟩ := p
    exact key (S := S) (H := H) I1 ei (.at_ r) (.inr r) fun J w => h J ρ1 H1 st I1 w
/-- a form whose look does not hang on the use -/
theorem Sound.of (hm : ∀ c b e, chkE c b e' e = true → chkE c false e' e = true) (hv : ∀ (X : Cx) (c : Ctx) (W : WX) (e : Expr), XOk X G c W → chkE c false e' e = true → PE X e (tE G W e'))
    (ht : ∀ (X : Cx) (c : Ctx) (W : WX) (e : Expr), XOk X G c W → chkE c false e' e = true → PT X e (tT G W e')) : Sound G e' :=
  ⟨hv, fun X c W e o h => bor_of (hv X c W e o (hm c _ e h)), ht⟩
theorem Sound.plain (hm : ∀ c b e, chkE c b e' e = true → chkE c false e' e = true) (hp : ∀ c e, chkE c false e' e = true → plainT e = true)
    (hv : ∀ (X : Cx) (c : Ctx) (W : WX) (e : Expr), XOk X G c W → chkE c false e' e = true → PE X e (tE G W e')) : Sound G e' :=
  .of hm hv fun X c W e o h => tst_of (hv X c W e o h) (hp c e h)
/-- a form that is not covered -/
theorem Sound.no (h : ∀ c b e, chkE c b e' e = false) : Sound G e' := ⟨fun X c W e o z => (by rw [h] at z; cases z), fun X c W e o z => (by rw [h] at z; cases z), fun X c W e o z => (by rw [h] at z; cases z)⟩
end
end Tr


namespace Tr
open PySem L2
open PySem.Spec PyProof.Rows
section
variable {X : Cx} {G : Gam} {c : Ctx} {W : WX}
theorem getV_some {env : TEnv} {i : Nat} {a : A} (h : getV env i = some a) : env[i]? = some (some a) := by
  unfold getV at h
  split at h
  · rename_i b e
    cases h
    exact e
  · cases h
theorem Sound.var (i : Nat) : Sound G (.var i) := by
  refine .plain (fun c b e h => h) (fun c e h => ?_) fun X c W e o h => ?_
  · cases e <;> first | rfl | (cases h; done)
  · cases e with
    | Name x pos =>
      obtain ⟨q1, q2, q3, q4⟩ := o.look h
      refine PE.imp (pe_var q1 q2 q3 q4) fun σ H Q ⟨wd, env, S, I, h⟩ => ?_
      simp only [evalE] at h
      split at h
      · rename_i a e1
        split at h
        · rename_i ha
          obtain ⟨v, w1, w2⟩ := I.var i a (getV_some e1)
          refine ⟨v, w1, h v H (post_same I ?_ fun f => nomatch f)⟩
          cases w2 with
          | at_ r => exact r
          | own _ _ _ => cases ha
          | exn _ _ _ => cases ha
        · exact h.elim
      · exact h.elim
    | _ => cases h
theorem Sound.own (i : Nat) : Sound G (.own i) := by
  refine ⟨fun X c W e o h => ?_, fun X c W e o h => ?_, fun X c W e o h => ?_⟩
  · cases e <;> first | (cases h; done) | (exact absurd (ba h).2 Bool.false_ne_true)
  · cases e with
    | Name x pos =>
      obtain ⟨q1, q2, q3, q4⟩ := o.look (ba h).1
      refine PE.imp (pe_var q1 q2 q3 q4) fun σ H Q ⟨wd, env, S, I, h⟩ => ?_
      simp only [evalE] at h
      split at h
      · rename_i cc e1
        obtain ⟨v, w1, w2⟩ := I.var i _ (getV_some e1)
        refine ⟨v, w1, h v H ⟨wd.ρ, I.refl, I, ?_⟩⟩
        cases w2 with
        | at_ r => cases r
        | own e2 h1 h2 => exact .own e2 h1 h2 (I.ownρ _ ⟨i, ⟨_, getV_some e1⟩, e2 ▸ w1⟩)
      · exact h.elim
    | _ => cases h
  · cases e <;> first | (cases h; done) | (exact absurd (ba h).2 Bool.false_ne_true)
theorem const_rep {K : PySem.W.Frag} {Bad : Addr → Prop} {H : Hp} {k : Const} {d : PyData} {j : Nat} {pos : Pos} (h : constB k d = true) : ∃ v, PE X (.Constant k j pos) (tC v) ∧ Rep K Bad H v d ∧ ∀ ds, d ≠ .list ds := by
  cases k <;> cases d <;> first | (cases h; done) | skip
  · exact ⟨_, pe_non, .non, fun _ z => nomatch z⟩
  · cases eq_of_beq h
    exact ⟨_, pe_bl, .bl _, fun _ z => nomatch z⟩
  · cases eq_of_beq h
    exact ⟨_, pe_int, .int _, fun _ z => nomatch z⟩
  · cases eq_of_beq h
    exact ⟨_, pe_str, .str _, fun _ z => nomatch z⟩
theorem Sound.const (d : PyData) : Sound G (.const d) := by
  refine .plain (fun c b e h => h) (fun c e h => ?_) fun X c W e o h => ?_
  · cases e <;> first | rfl | (cases h; done)
  · cases e with
    | Constant k j pos =>
      refine ⟨fun pins s σ H Q J hq => ?_⟩
      obtain ⟨wd, env, S, I, q⟩ := hq
      obtain ⟨v, p, r, hl⟩ := const_rep (X := X) (K := G.K) (Bad := BadOf wd σ env S) (H := H) (j := j) (pos := pos) h
      exact p.run pins s σ H Q J (q v H (post_same I (.val r) fun _ ds z => hl ds (by injection z)))
    | _ => cases h
theorem Sound.glob (x : Str) (d : PyData) : Sound G (.glob x d) := by
  refine .plain (fun c b e h => h) (fun c e h => ?_) fun X c W e o h => ?_
  · cases e <;> first | rfl | (cases h; done)
  · cases e with
    | Name y pos =>
      obtain ⟨h1, h2⟩ := ba h
      obtain ⟨h2, h3⟩ := ba h2
      have e1 := de h1
      subst e1
      obtain ⟨g1, g2⟩ := o.gl h2
      split at h3
      · rename_i d' e2
        have e3 := sameD_eq h3
        subst e3
        obtain ⟨u, v, m, r, rp⟩ := o.cons x d' e2
        exact PE.imp (pe_glob g1 m r g2) fun σ H Q ⟨wd, env, S, I, q⟩ => q v H (post_same I (.val (rp _ _)) fun f => nomatch f)
      · cases h3
    | _ => cases h

def tEs (G : Gam) (W : WX) (es : List Ex) : TA := fun σ H Q => ∃ wd env S, SR G wd σ H env S ∧
  Out G W wd σ env S H (evalEs G.C es env S) fun as S' => ∀ vs ρ' H', Step wd S H ρ' S' H' → SR G (wd.up ρ') σ H' env S' → RepAs G.K (BadOf (wd.up ρ') σ env S') H' ρ' vs as → Q vs H'
inductive RepBs (G : Gam) (Bad : Addr → Prop) (H : Hp) (ρ : List Addr) : List V → List A → Prop
  | nil : RepBs G Bad H ρ [] []
  | cons {v : V} {vs : List V} {a : A} {as : List A} : RepB G Bad H ρ v a → RepBs G Bad H ρ vs as → RepBs G Bad H ρ (v :: vs) (a :: as)
def tBs (G : Gam) (W : WX) (es : List Ex) : TA := fun σ H Q => ∃ wd env S, SR G wd σ H env S ∧
  Out G W wd σ env S H (evalEs G.C es env S) fun as S' => ∀ vs ρ' H', Step wd S H ρ' S' H' → SR G (wd.up ρ') σ H' env S' → RepBs G (BadOf (wd.up ρ') σ env S') H' ρ' vs as → Q vs H'
theorem PA.imp {es : List Expr} {t t' : TA} (h : PA X es t) (i : ∀ σ H Q, t' σ H Q → t σ H Q) : PA X es t' := ⟨fun pos pins s σ H Q I q => h.run pos pins s σ H Q I (i σ H Q q)⟩
theorem evalEs_cons {C : Calls} {e : Ex} {es : List Ex} {env : TEnv} {S : Store} : evalEs C (e :: es) env S = (evalE C e env S).bind fun a S => (evalEs C es env S).bind fun as S => .ok (a :: as) S := by simp only [evalEs]
theorem vals_of {es' : List Ex} (hs : ∀ e' ∈ es', Sound G e') : ∀ {X : Cx} {c : Ctx} {W : WX} {es : List Expr}, XOk X G c W → chkEs c false es' es = true → es.all noStar = true → PA X es (tEs G W es') := by
  induction es' with
  | nil =>
    intro X c W es o h _
    cases es with
    | nil => exact PA.imp pa_nil fun σ H Q ⟨wd, env, S, I, h⟩ => by simp only [evalEs] at h; exact h [] wd.ρ H I.refl I .nil
    | cons _ _ => cases h
  | cons e' es' ih =>
    intro X c W es o h hst
    cases es with
    | nil => cases h
    | cons e es =>
      obtain ⟨h1, h2⟩ := ba h
      rw [List.all_cons] at hst
      obtain ⟨s1, s2⟩ := ba hst
      refine PA.imp (pa_cons ((hs e' List.mem_cons_self).val X c W e o h1) (ih (fun f hf => hs f (List.mem_cons_of_mem _ hf)) o h2 s2) (star1 s1)) fun σ H Q ⟨wd, env, S, I, h⟩ => ?_
      rw [evalEs_cons] at h
      refine ⟨wd, env, S, I, h.seq fun a S1 e1 h v H1 ⟨ρ1, st1, I1, r1, _⟩ => ⟨wd.up ρ1, env, S1, I1, (h.at_ I st1).seq fun bs S2 e2 h vs ρ2 H2 st2 I2 r2 => h _ ρ2 H2 (I.trans st1 st2) I2 (.cons (I1.keep st2 r1) r2)⟩⟩
theorem bors_of {es' : List Ex} (hs : ∀ e' ∈ es', Sound G e') : ∀ {X : Cx} {c : Ctx} {W : WX} {es : List Expr}, XOk X G c W → chkEs c true es' es = true → es.all noStar = true → PA X es (tBs G W es') := by
  induction es' with
  | nil =>
    intro X c W es o h _
    cases es with
    | nil => exact PA.imp pa_nil fun σ H Q ⟨wd, env, S, I, h⟩ => by simp only [evalEs] at h; exact h [] wd.ρ H I.refl I .nil
    | cons _ _ => cases h
  | cons e' es' ih =>
    intro X c W es o h hst
    cases es with
    | nil => cases h
    | cons e es =>
      obtain ⟨h1, h2⟩ := ba h
      rw [List.all_cons] at hst
      obtain ⟨s1, s2⟩ := ba hst
      refine PA.imp (pa_cons ((hs e' List.mem_cons_self).bor X c W e o h1) (ih (fun f hf => hs f (List.mem_cons_of_mem _ hf)) o h2 s2) (star1 s1)) fun σ H Q ⟨wd, env, S, I, h⟩ => ?_
      rw [evalEs_cons] at h
      refine ⟨wd, env, S, I, h.seq fun a S1 e1 h v H1 ⟨ρ1, st1, I1, r1⟩ => ⟨wd.up ρ1, env, S1, I1, (h.at_ I st1).seq fun bs S2 e2 h vs ρ2 H2 st2 I2 r2 => h _ ρ2 H2 (I.trans st1 st2) I2 (.cons (RepB.keep (wd := wd.up ρ1) I1 st2 r1) r2)⟩⟩
theorem derefs_rep {wd : Wd} {σ : L2.St} {H : Hp} {env : TEnv} {S : Store} (I : SR G wd σ H env S) : ∀ {vs : List V} {as : List A} {ds : List PyData}, RepBs G (BadOf wd σ env S) H wd.ρ vs as → derefs S as = some ds → RepDs G.K (BadOf wd σ env S) H vs ds
  | _, _, _, .nil, e => by cases e; exact .nil
  | _, _, ds, .cons (a := a) h t, e => by
    simp only [derefs] at e
    split at e
    · rename_i d e0
      obtain ⟨es, e1, rfl⟩ := Option.map_eq_some_iff.mp e
      exact .cons (h.deref I e0) (derefs_rep I t e1)
    · cases e
theorem RepA.mkTup {K : PySem.W.Frag} {Bad : Addr → Prop} {H : Hp} {ρ : List Addr} {a : Addr} {xs : List V} {as : List A} (h : SqF K H a xs) (r : RepAs K Bad H ρ xs as) : RepA K Bad H ρ (.ref a) (Tr.mkTup as) := by
  unfold Tr.mkTup
  split
  · rename_i ds e
    exact .val (.tup h (r.vals e))
  · exact .tup h r
theorem mkTup_list {as : List A} {ds : List PyData} : mkTup as ≠ .val (.list ds) := by
  unfold mkTup
  split <;> exact fun z => nomatch z
/-- a new tuple -/
theorem post_tup {wd : Wd} {σ : L2.St} {H : Hp} {env : TEnv} {S : Store} {p : Addr} {o : Obj} {xs : List V} {as : List A} {fr : Bool} (I : SR G wd σ H env S) (h : H p = none) (hd : o.dict = none) (r : RepAs G.K (BadOf wd σ env S) H wd.ρ xs as) :
    Post G wd σ env S H fr (mkTup as) S (.ref p) (upd H p (.frz o (.tup xs))) := by
  have e : Ext (fun _ => False) H (upd H p (.frz o (.tup xs))) := .new h
  exact ⟨wd.ρ, .of_new I.nd e, I.news e, .mkTup (.inl ⟨o, upd_same, hd⟩) (r.ext (M := fun _ => False) I.badOk (fun _ z => z.elim) e (fun a z => .inl z) (List.prefix_refl _)), fun _ ds z => absurd z mkTup_list⟩
theorem Sound.tup (es : List Ex) (hs : ∀ e' ∈ es, Sound G e') : Sound G (.tup es) := by
  refine .plain (fun c m e h => h) (fun c e h => ?_) fun X c W e o h => ?_
  · cases e <;> first | rfl | (cases h; done)
  · cases e with
    | Tuple ts k pos =>
      obtain ⟨h1, h2⟩ := ba h
      refine PE.imp (pe_tupF (vals_of hs o h1 h2)) fun σ H Q ⟨wd, env, S, I, h⟩ => ?_
      simp only [evalE] at h
      refine ⟨wd, env, S, I, h.seq fun as S1 e1 h vs ρ1 H1 st I1 r1 => ?_⟩
      split at h
      · rename_i hz
        exact ⟨by rw [r1.length]; exact hz, fun p o' hp hd => h _ _ ((post_tup I1 hp hd r1).after I st)⟩
      · exact h.elim
    | _ => cases h
theorem Sound.lst (es : List Ex) (hs : ∀ e' ∈ es, Sound G e') : Sound G (.lst es) := by
  refine .plain (fun c m e h => h) (fun c e h => ?_) fun X c W e o h => ?_
  · cases e <;> first | rfl | (cases h; done)
  · cases e with
    | List ts pos =>
      obtain ⟨h1, h2⟩ := ba h
      refine PE.imp (pe_lst (vals_of hs o h1 h2)) fun σ H Q ⟨wd, env, S, I, h⟩ => ?_
      simp only [evalE] at h
      refine ⟨wd, env, S, I, h.seq fun as S1 e1 h vs ρ1 H1 st I1 r1 => ?_⟩
      split at h
      · rename_i ds e2
        split at h
        · rename_i hz
          have r := r1.vals e2
          exact ⟨by rw [r.length]; exact hz, fun p hp => h _ _ (((OpPost.list I1.badOk hp r).post I1).after I st)⟩
        · exact h.elim
      · exact h.elim
    | _ => cases h

/-- two borrowed values, one behind the other -/
theorem two_ok {a b : Ex} {σ : L2.St} {H : Hp} {Q : V → V → Hp → Prop} {wd : Wd} {env : TEnv} {S : Store} {f : A → A → Store → R A} {P : A → Store → Prop} (I : SR G wd σ H env S)
    (h : Out G W wd σ env S H ((evalE G.C a env S).bind fun x S => (evalE G.C b env S).bind fun y S => f x y S) P)
    (q : ∀ x y v w ρ2 S2 H2, Step wd S H ρ2 S2 H2 → SR G (wd.up ρ2) σ H2 env S2 → RepB G (BadOf (wd.up ρ2) σ env S2) H2 ρ2 v x → RepB G (BadOf (wd.up ρ2) σ env S2) H2 ρ2 w y → Out G W wd σ env S H (f x y S2) P → Q v w H2) :
    tB G W a σ H fun v H1 => tB G W b σ H1 fun w H2 => Q v w H2 := by
  refine ⟨wd, env, S, I, h.seq fun x S1 e1 h v H1 ⟨ρ1, st1, I1, r1⟩ => ⟨wd.up ρ1, env, S1, I1, ?_⟩⟩
  cases e2 : evalE G.C b env S1 with
  | ok y S2 =>
    rw [e2] at h
    exact fun w H2 ⟨ρ2, st2, I2, r2⟩ => q x y v w ρ2 S2 H2 (I.trans st1 st2) I2 (RepB.keep (wd := wd.up ρ1) I1 st2 r1) r2 h
  | exc k d S2 =>
    rw [e2] at h
    exact fun cls x H' ⟨ρ2, st2, I2, xr⟩ => h cls x H' ⟨ρ2, I.trans st1 st2, I2, xr⟩
  | err => rw [e2] at h; exact h
theorem Sound.bin (op : BOp) (a b : Ex) (ha : Sound G a) (hb : Sound G b) : Sound G (.bin op a b) := by
  refine .plain (fun c m e h => h) (fun c e h => ?_) fun X c W e o h => ?_
  · cases e <;> first | rfl | (cases h; done)
  · cases e with
    | BinOp l op' r pos =>
      obtain ⟨h1, h2⟩ := ba h
      obtain ⟨h2, h3⟩ := ba h2
      have e1 := de h1
      subst e1
      refine PE.imp (pe_op (op_bin op) (ha.bor X c W l o h2) (hb.bor X c W r o h3)) fun σ H Q ⟨wd, env, S, I, h⟩ => ?_
      simp only [evalE] at h
      refine two_ok I h fun x y v w ρ2 S2 H2 st I2 r1 r2 h => ?_
      split at h
      · rename_i d e d1 d2
        obtain ⟨z, ew, h⟩ := h.lift
        obtain ⟨g, e3, rfl⟩ := Option.map_eq_some_iff.mp ew
        rw [o.K]
        exact ⟨_, d, e, g, I2.badOk, r1.deref I2 d1, r2.deref I2 d2, e3, fun v' H' p => h _ _ ((p.post I2).after I st)⟩
      · exact h.elim
    | _ => cases h
theorem asInt_rep {wd : Wd} {σ : L2.St} {H : Hp} {env : TEnv} {S : Store} {v : V} {a : A} {i : Int} (I : SR G wd σ H env S) (r : RepB G (BadOf wd σ env S) H wd.ρ v a) (e : asInt S a = some i) : v = .int i := by
  unfold asInt at e
  split at e
  · rename_i j d
    cases e
    exact (r.deref I d).int
  · cases e
theorem post_int {wd : Wd} {σ : L2.St} {H : Hp} {env : TEnv} {S : Store} {fr : Bool} (I : SR G wd σ H env S) (i : Int) : Post G wd σ env S H fr (.val (.int i)) S (.int i) H := (OpPost.int i).post I
theorem post_bool {wd : Wd} {σ : L2.St} {H : Hp} {env : TEnv} {S : Store} {fr : Bool} (I : SR G wd σ H env S) (i : Bool) : Post G wd σ env S H fr (.val (.bool i)) S (.bl i) H := (OpPost.bool i).post I
theorem Sound.neg (a : Ex) (ha : Sound G a) : Sound G (.neg a) := by
  refine .plain (fun c m e h => h) (fun c e h => ?_) fun X c W e o h => ?_
  · cases e <;> first | rfl | (cases h; done) | (rename_i op _ _; cases op <;> first | rfl | (cases h; done))
  · cases e with
    | UnaryOp op x pos =>
      cases op <;> first | (cases h; done) | skip
      refine PE.imp (pe_un un_neg (ha.bor X c W x o h)) fun σ H Q ⟨wd, env, S, I, h⟩ => ?_
      simp only [evalE] at h
      refine ⟨wd, env, S, I, h.seq fun y S1 e1 h v H1 ⟨ρ1, st, I1, r⟩ => ?_⟩
      split at h
      · rename_i i ei
        exact ⟨i, asInt_rep I1 r ei, h _ _ ((post_int I1 (-i)).after I st)⟩
      · exact h.elim
    | _ => cases h
theorem Sound.cmp (op : COp) (a b : Ex) (ha : Sound G a) (hb : Sound G b) : Sound G (.cmp op a b) := by
  have key : ∀ (c : Ctx) (l r : Expr) (op' : CmpOp) (pos : Pos), chkE c false (.cmp op a b) (.Compare l [op'] [r] pos) = true → ∃ (h1 : op' = copOf op) (h2 : chkE c true a l = true) (h3 : chkE c true b r = true), behindInMarks op' r = false := fun c l r op' pos h => by
    obtain ⟨h1, h⟩ := ba h
    obtain ⟨h2, h⟩ := ba h
    obtain ⟨h3, h4⟩ := ba h
    refine ⟨de h1, h2, h3, ?_⟩
    cases r <;> first | rfl | (cases h4; done)
  have red : ∀ (X : Cx) (c : Ctx) (W : WX), XOk X G c W → ∀ (σ : L2.St) (H : Hp) (Q : VK) (wd : Wd) (env : TEnv) (S : Store), SR G wd σ H env S → (Out G W wd σ env S H (evalE G.C (.cmp op a b) env S) fun z S' => ∃ g, z = .val (.bool g) ∧ ∀ H', PostN G wd σ env S H S' H' → Q (.bl g) H') →
      tOp (rC X.K op) (tB G W a) (tB G W b) σ H Q := fun X c W o σ H Q wd env S I h => by
    simp only [evalE] at h
    refine two_ok I h fun x y v w ρ2 S2 H2 st I2 r1 r2 h => ?_
    split at h
    · rename_i d e d1 d2
      obtain ⟨z, ew, g', eg, h⟩ := h.lift
      obtain ⟨g0, e3, rfl⟩ := Option.map_eq_some_iff.mp ew
      cases eg
      rw [o.K]
      exact ⟨_, d, e, _, I2.badOk, r1.deref I2 d1, r2.deref I2 d2, e3, h _ ⟨ρ2, st, I2⟩⟩
    · exact h.elim
  have isb : ∀ {env S z S'}, evalE G.C (.cmp op a b) env S = .ok z S' → ∃ g, z = .val (.bool g) := fun {env S z S'} h => by
    simp only [evalE] at h
    cases ea : evalE G.C a env S with
    | ok x S1 =>
      rw [ea] at h
      simp only [R.bind] at h
      cases eb : evalE G.C b env S1 with
      | ok y S2 =>
        rw [eb] at h
        simp only [R.bind] at h
        split at h
        · rename_i d e _ _
          cases ec : cmpD op d e with
          | none => rw [ec] at h; cases h
          | some g =>
            rw [ec] at h
            have e : z = .val (.bool g) := by cases h; rfl
            exact ⟨g, e⟩
        · cases h
      | exc k d S2 => rw [eb] at h; cases h
      | err => rw [eb] at h; cases h
    | exc k d S1 => rw [ea] at h; cases h
    | err => rw [ea] at h; cases h
  refine .of (fun c m e h => h) (fun X c W e o h => ?_) fun X c W e o h => ?_
  · cases e with
    | Compare l ops rs pos =>
      rcases ops with _ | ⟨op', _ | _⟩ <;> first | (cases h; done) | skip
      rcases rs with _ | ⟨r, _ | _⟩ <;> first | (cases h; done) | skip
      obtain ⟨h1, h2, h3, hm⟩ := key c l r op' pos h
      subst h1
      refine PE.imp (pe_cmpR (op_cmp op o.un) (ha.bor X c W l o h2) (hb.bor X c W r o h3) hm) fun σ H Q ⟨wd, env, S, I, h⟩ => red X c W o σ H Q wd env S I (h.mono fun z S1 e1 h => ?_)
      obtain ⟨g, rfl⟩ := isb e1
      refine ⟨g, rfl, fun H' ⟨ρ', st, I'⟩ => h _ _ ((post_bool I' g).after I st)⟩
    | _ => cases h
  · cases e with
    | Compare l ops rs pos =>
      rcases ops with _ | ⟨op', _ | _⟩ <;> first | (cases h; done) | skip
      rcases rs with _ | ⟨r, _ | _⟩ <;> first | (cases h; done) | skip
      obtain ⟨h1, h2, h3, hm⟩ := key c l r op' pos h
      subst h1
      refine PT.imp (pt_cmpR (op_cmp op o.un) (ha.bor X c W l o h2) (hb.bor X c W r o h3) hm) fun σ H Q ⟨wd, env, S, I, h⟩ => ?_
      refine red X c W o σ H _ wd env S I (h.mono fun z S1 e1 ⟨b', eb, h⟩ => ⟨b', eb, fun H' p => ⟨b', rfl, h H' p⟩⟩)
    | _ => cases h
end
end Tr


namespace Tr
open PySem L2
open PySem.Spec PyProof.Rows
section
variable {G : Gam} {X : Cx} {c : Ctx} {W : WX}
theorem isNone_rep {Bad : Addr → Prop} {H : Hp} {ρ : List Addr} {v : V} {a : A} (r : RepB G Bad H ρ v a) : (v = .non ↔ a = .val .none) := by
  cases r with
  | at_ r =>
    cases r with
    | val r =>
      cases r with
      | non => exact ⟨fun _ => rfl, fun _ => rfl⟩
      | _ => exact ⟨fun z => (nomatch z), fun z => (nomatch z)⟩
    | ref h => exact ⟨fun z => (nomatch z), fun z => (nomatch z)⟩
    | tup h h2 => exact ⟨fun z => (nomatch z), fun z => (nomatch z)⟩
  | own e _ _ _ => subst e; exact ⟨fun z => (nomatch z), fun z => (nomatch z)⟩
/-- a bool's reading is made of its value's -/
theorem Sound.isN (ng : Bool) (a : Ex) (ha : Sound G a) : Sound G (.isN ng a) := by
  have ev_ok : ∀ {W : WX} {wd : Wd} {σ : L2.St} {env : TEnv} {S S1 : Store} {H : Hp} {x : A} {P : A → Store → Prop}, Out G W wd σ env S H (match x with
      | A.val PyData.none => R.ok (A.val (PyData.bool (!ng))) S1
      | _ => R.ok (A.val (PyData.bool ng)) S1) P → (x = .val .none ∧ P (.val (.bool (!ng))) S1) ∨ (x ≠ .val .none ∧ P (.val (.bool ng)) S1) := by
    intro W wd σ env S S1 H x P h
    split at h
    · exact .inl ⟨rfl, h⟩
    · rename_i hn
      exact .inr ⟨fun e => hn e, h⟩
  have red : ∀ {W : WX} {σ : L2.St} {H : Hp} {Q : VK} {ff : Bool → Bool} {wd : Wd} {env : TEnv} {S : Store}, (∀ b, ff b = (if b then !ng else ng)) → SR G wd σ H env S →
      (Out G W wd σ env S H (evalE G.C (.isN ng a) env S) fun z S' => ∀ g, z = .val (.bool g) → ∀ H', PostN G wd σ env S H S' H' → Q (.bl g) H') → tB G W a σ H fun x H1 => Q (.bl (ff (decide (x = .non)))) H1 := by
    intro W σ H Q ff wd env S hff I h
    simp only [evalE] at h
    refine ⟨wd, env, S, I, h.seq fun x S1 e1 h v H1 ⟨ρ1, st, I1, r⟩ => ?_⟩
    have hn := isNone_rep r
    rcases ev_ok h with ⟨hx, h⟩ | ⟨hx, h⟩
    · show Q (.bl (ff (decide (v = .non)))) H1
      rw [decide_eq_true (hn.mpr hx), hff]
      exact h _ rfl _ ⟨ρ1, st, I1⟩
    · show Q (.bl (ff (decide (v = .non)))) H1
      rw [decide_eq_false (fun z => hx (hn.mp z)), hff]
      exact h _ rfl _ ⟨ρ1, st, I1⟩
  have val : ∀ (X : Cx) (c : Ctx) (W : WX) (e : Expr), XOk X G c W → chkE c false (.isN ng a) e = true → PE X e (tE G W (.isN ng a)) ∧ PT X e (tT G W (.isN ng a)) := fun X c W e o h => by
    cases e with
    | Compare l ops rs pos =>
      rcases ops with _ | ⟨op', _ | _⟩ <;> first | (cases h; done) | skip
      rcases rs with _ | ⟨r, _ | _⟩ <;> first | (cases h; done) | (simp [chkE] at h; done) | skip
      cases r <;> first | (cases h; done) | skip
      rename_i k j pos'
      cases k <;> first | (cases h; done) | skip
      obtain ⟨h1, h2⟩ := ba h
      have e1 := de h1
      have ia := ha.bor X c W l o h2
      have pv : ∀ {σ : L2.St} {H : Hp} {Q : VK}, tE G W (.isN ng a) σ H Q → ∃ wd env S, SR G wd σ H env S ∧ (Out G W wd σ env S H (evalE G.C (.isN ng a) env S) fun z S' => ∀ g, z = .val (.bool g) → ∀ H', PostN G wd σ env S H S' H' → Q (.bl g) H') := fun {σ H Q} ⟨wd, env, S, I, h⟩ =>
        ⟨wd, env, S, I, h.mono fun z S1 _ q g eg H' ⟨ρ', st, I'⟩ => by subst eg; exact q _ _ ((post_bool I' g).after I st)⟩
      have pt' : ∀ {σ : L2.St} {H : Hp} {Q : Bool → Hp → Prop}, tT G W (.isN ng a) σ H Q → ∃ wd env S, SR G wd σ H env S ∧ (Out G W wd σ env S H (evalE G.C (.isN ng a) env S) fun z S' => ∀ g, z = .val (.bool g) → ∀ H', PostN G wd σ env S H S' H' → ∃ d, V.bl g = .bl d ∧ Q d H') := fun {σ H Q} ⟨wd, env, S, I, h⟩ =>
        ⟨wd, env, S, I, h.mono fun z S1 _ ⟨b, eb, q⟩ g eg H' p => by subst eg; cases eb; exact ⟨_, rfl, q _ p⟩⟩
      cases ng with
      | true =>
        subst e1
        have pe : PE X _ _ := pe_cmp (pos := pos) (pc_notN (j := j) (pos' := pos') ia) rfl
        have pt : PT X _ _ := pt_cmp (pos := pos) (pc_notN (j := j) (pos' := pos') ia) rfl
        refine ⟨PE.imp pe fun σ H Q q => ?_, PT.imp pt fun σ H Q q => ?_⟩
        · obtain ⟨wd, env, S, I, h⟩ := pv q
          exact red (ff := fun b => !b) (fun b => by cases b <;> rfl) I h
        · obtain ⟨wd, env, S, I, h⟩ := pt' q
          exact red (ff := fun b => !b) (Q := fun x H1 => ∃ d, x = .bl d ∧ Q d H1) (fun b => by cases b <;> rfl) I h
      | false =>
        subst e1
        have pe : PE X _ _ := pe_cmp (pos := pos) (pc_isN (j := j) (pos' := pos') ia) rfl
        have pt : PT X _ _ := pt_cmp (pos := pos) (pc_isN (j := j) (pos' := pos') ia) rfl
        refine ⟨PE.imp pe fun σ H Q q => ?_, PT.imp pt fun σ H Q q => ?_⟩
        · obtain ⟨wd, env, S, I, h⟩ := pv q
          exact red (ff := fun b => b) (fun b => by cases b <;> rfl) I h
        · obtain ⟨wd, env, S, I, h⟩ := pt' q
          exact red (ff := fun b => b) (Q := fun x H1 => ∃ d, x = .bl d ∧ Q d H1) (fun b => by cases b <;> rfl) I h
    | _ => cases h
  exact .of (fun c m e h => h) (fun X c W e o h => (val X c W e o h).1) fun X c W e o h => (val X c W e o h).2
theorem Sound.chain (op op' : COp) (a b d : Ex) (ha : Sound G a) (hb : Sound G b) (hd : Sound G d) : Sound G (.chain op op' a b d) := by
  have red : ∀ (X : Cx) (c : Ctx) (W : WX), XOk X G c W → ∀ (σ : L2.St) (H : Hp) (Q : VK) (wd : Wd) (env : TEnv) (S : Store), SR G wd σ H env S →
      (Out G W wd σ env S H (evalE G.C (.chain op op' a b d) env S) fun z S' => ∀ g, z = .val (.bool g) → ∀ H', PostN G wd σ env S H S' H' → Q (.bl g) H') → tChain (rC X.K op) (rC X.K op') (tB G W a) (tB G W b) (tB G W d) σ H Q := fun X c W o σ H Q wd env S I h => by
    simp only [evalE] at h
    refine two_ok I h fun x y v w ρ2 S2 H2 st I2 r1 r2 h => ?_
    split at h
    · rename_i dx dy d1 d2
      rw [o.K]
      cases ec : cmpD op dx dy with
      | none => rw [ec] at h; exact h.elim
      | some k =>
        rw [ec] at h
        refine ⟨_, dx, dy, k, I2.badOk, r1.deref I2 d1, r2.deref I2 d2, ec, k, rfl, ?_⟩
        have h : Out G W wd σ env S H (if k = true then (evalE G.C d env S2).bind fun z S => match deref S y, deref S z with
          | some e, some g => R.lift ((cmpD op' e g).map fun b => A.val (.bool b)) S
          | _, _ => .err
          else .ok (.val (.bool false)) S2) _ := h
        cases k with
        | false => exact iteF (h _ rfl _ ⟨ρ2, st, I2⟩)
        | true =>
          refine iteT ?_
          rw [if_pos rfl] at h
          refine ⟨wd.up ρ2, env, S2, I2, (h.at_ I st).seq fun u S3 e3 h v3 H3 ⟨ρ3, st3, I3, r3⟩ => ?_⟩
          split at h
          · rename_i dy' du d3 d4
            obtain ⟨z, ew, h⟩ := h.lift
            obtain ⟨g, e5, rfl⟩ := Option.map_eq_some_iff.mp ew
            exact ⟨_, dy', du, g, I3.badOk, (RepB.keep (wd := wd.up ρ2) I2 st3 r2).deref I3 d3, r3.deref I3 d4, e5, h _ rfl _ ⟨ρ3, I.trans st st3, I3⟩⟩
          · exact h.elim
    · exact h.elim
  have val : ∀ (X : Cx) (c : Ctx) (W : WX) (e : Expr), XOk X G c W → chkE c false (.chain op op' a b d) e = true → PE X e (tE G W (.chain op op' a b d)) ∧ PT X e (tT G W (.chain op op' a b d)) := fun X c W e o h => by
    cases e with
    | Compare l ops rs pos =>
      rcases ops with _ | ⟨o1, _ | ⟨o2, _ | _⟩⟩ <;> first | (cases h; done) | skip
      rcases rs with _ | ⟨m, _ | ⟨r, _ | _⟩⟩ <;> first | (cases h; done) | skip
      obtain ⟨h1, h⟩ := ba h
      obtain ⟨h2, h⟩ := ba h
      obtain ⟨h3, h⟩ := ba h
      obtain ⟨h4, h⟩ := ba h
      obtain ⟨h5, h⟩ := ba h
      obtain ⟨h6, h7⟩ := ba h
      have e1 := de h1
      have e2 := de h2
      subst e1 e2
      have mk : ∀ (op : CmpOp) (r : Expr), noSet r = true → behindInMarks op r = false := fun op r h => by cases r <;> first | rfl | (cases h; done)
      have i1 := ha.bor X c W l o h3
      have i2 := hb.bor X c W m o h4
      have i3 := hd.bor X c W r o h5
      refine ⟨PE.imp (pe_chain (pos := pos) (op_cmp op o.un) (op_cmp op' o.un) i1 i2 i3 (mk _ _ h7)) fun σ H Q ⟨wd, env, S, I, h⟩ => ?_, ?_⟩
      · exact red X c W o σ H Q wd env S I (h.mono fun z S1 _ q g eg H' ⟨ρ', st, I'⟩ => by subst eg; exact q _ _ ((post_bool I' g).after I st))
      · refine PT.imp (pt_chain (pos := pos) (op_cmp op o.un) (op_cmp op' o.un) i1 i2 i3 (mk _ _ h7)) fun σ H Q ⟨wd, env, S, I, h⟩ => ?_
        exact red X c W o σ H _ wd env S I (h.mono fun z S1 _ ⟨b, eb, q⟩ g eg H' p => by subst eg; cases eb; exact ⟨_, rfl, q _ p⟩)
    | _ => cases h
  exact .of (fun c m e h => h) (fun X c W e o h => (val X c W e o h).1) fun X c W e o h => (val X c W e o h).2

theorem asBool_some {a : A} {b : Bool} (h : asBool a = some b) : a = .val (.bool b) := by
  unfold asBool at h
  split at h
  · cases h; rfl
  · cases h
/-- a bool is asked for -/
theorem Out.asB {β : Type} {wd : Wd} {σ : L2.St} {env : TEnv} {S S1 : Store} {H : Hp} {x : A} {f : Bool → Store → R β} {P : β → Store → Prop} (h : Out G W wd σ env S H ((R.lift (asBool x) S1).bind f) P) : ∃ k, x = .val (.bool k) ∧ Out G W wd σ env S H (f k S1) P := by
  cases e : asBool x with
  | none => rw [e] at h; exact h.elim
  | some k => rw [e] at h; exact ⟨k, asBool_some e, h⟩
theorem PostN.up {wd : Wd} {σ : L2.St} {env : TEnv} {S S1 : Store} {H H1 : Hp} (p : PostN G wd σ env S H S1 H1) : ∃ ρ1, Step wd S H ρ1 S1 H1 ∧ SR G (wd.up ρ1) σ H1 env S1 := p
theorem ands_of {es : List Ex} (hs : ∀ e' ∈ es, Sound G e') (X : Cx) (c : Ctx) (W : WX) : ∀ (ts : List Expr) (pos : Pos), XOk X G c W → chkEs c false es ts = true → ts ≠ [] → PE X (.BoolOp .And ts pos) (tE G W (.ands es)) ∧ PW X (.BoolOp .And ts pos) (tT G W (.ands es)) := by
  induction es with
  | nil =>
    intro ts pos o h hne
    cases ts with
    | nil => exact absurd rfl hne
    | cons _ _ => cases h
  | cons e' es ih =>
    intro ts pos o h hne
    cases ts with
    | nil => cases h
    | cons t ts =>
      obtain ⟨h1, h2⟩ := ba h
      have s1 := hs e' List.mem_cons_self
      cases es with
      | nil =>
        cases ts with
        | cons _ _ => cases h2
        | nil =>
          have ee : ∀ env S, evalE G.C (.ands [e']) env S = evalE G.C e' env S := fun env S => by simp only [evalE, evalAnd]
          exact ⟨PE.imp (pe_one (s1.val X c W t o h1)) fun σ H Q ⟨wd, env, S, I, h⟩ => ⟨wd, env, S, I, by rw [ee] at h; exact h.mono fun a S1 _ q v H' p => q v H' p.old⟩, PW.imp (pw_and1 (s1.tst X c W t o h1)) fun σ H Q ⟨wd, env, S, I, h⟩ => ⟨wd, env, S, I, by rw [ee] at h; exact h⟩⟩
      | cons e2 es =>
        cases ts with
        | nil => cases h2
        | cons t2 ts =>
          obtain ⟨i1, i2⟩ := ih (fun f hf => hs f (List.mem_cons_of_mem _ hf)) (t2 :: ts) pos o h2 (by simp)
          have ee : ∀ env S, evalE G.C (.ands (e' :: e2 :: es)) env S = (evalE G.C e' env S).bind fun x S => (R.lift (asBool x) S).bind fun k S => if k = true then evalE G.C (.ands (e2 :: es)) env S else .ok (.val (.bool false)) S := fun env S => by
            simp only [evalE]
            rw [evalAnd]
          refine ⟨PE.imp (pe_and (s1.val X c W t o h1) i1) fun σ H Q ⟨wd, env, S, I, h⟩ => ?_, PW.imp (pw_and (s1.tst X c W t o h1) i2) fun σ H Q ⟨wd, env, S, I, h⟩ => ?_⟩
          · rw [ee] at h
            refine ⟨wd, env, S, I, h.seq fun x S1 e1 h v H1 ⟨ρ1, st, I1, r, _⟩ => ?_⟩
            obtain ⟨k, rfl, h⟩ := h.asB
            refine ⟨k, val_bool r, ?_⟩
            cases k with
            | false => exact iteF (h _ _ ((post_bool I1 false).after I st))
            | true => exact iteT ⟨wd.up ρ1, env, S1, I1, (h.at_ I st).mono fun a S2 _ q v2 H2 p2 => q _ _ (p2.old.after I st)⟩
          · rw [ee] at h
            refine ⟨wd, env, S, I, h.seq fun x S1 e1 h => ?_⟩
            obtain ⟨k, rfl, h⟩ := h.asB
            refine ⟨k, rfl, fun H1 ⟨ρ1, st, I1⟩ => ?_⟩
            cases k with
            | false =>
              obtain ⟨b, eb, h⟩ := h
              cases eb
              exact iteF (h _ ⟨ρ1, st, I1⟩)
            | true => exact iteT ⟨wd.up ρ1, env, S1, I1, (h.at_ I st).mono fun a S2 _ ⟨b, eb, q⟩ => ⟨b, eb, fun H2 p2 => q _ (p2.after I st)⟩⟩
theorem ors_of {es : List Ex} (hs : ∀ e' ∈ es, Sound G e') (X : Cx) (c : Ctx) (W : WX) : ∀ (ts : List Expr) (pos : Pos), XOk X G c W → chkEs c false es ts = true → ts ≠ [] → PE X (.BoolOp .Or ts pos) (tE G W (.ors es)) ∧ PW X (.BoolOp .Or ts pos) (tT G W (.ors es)) := by
  induction es with
  | nil =>
    intro ts pos o h hne
    cases ts with
    | nil => exact absurd rfl hne
    | cons _ _ => cases h
  | cons e' es ih =>
    intro ts pos o h hne
    cases ts with
    | nil => cases h
    | cons t ts =>
      obtain ⟨h1, h2⟩ := ba h
      have s1 := hs e' List.mem_cons_self
      cases es with
      | nil =>
        cases ts with
        | cons _ _ => cases h2
        | nil =>
          have ee : ∀ env S, evalE G.C (.ors [e']) env S = evalE G.C e' env S := fun env S => by simp only [evalE, evalOr]
          exact ⟨PE.imp (pe_one (s1.val X c W t o h1)) fun σ H Q ⟨wd, env, S, I, h⟩ => ⟨wd, env, S, I, by rw [ee] at h; exact h.mono fun a S1 _ q v H' p => q v H' p.old⟩, PW.imp (pw_or1 (s1.tst X c W t o h1)) fun σ H Q ⟨wd, env, S, I, h⟩ => ⟨wd, env, S, I, by rw [ee] at h; exact h⟩⟩
      | cons e2 es =>
        cases ts with
        | nil => cases h2
        | cons t2 ts =>
          obtain ⟨i1, i2⟩ := ih (fun f hf => hs f (List.mem_cons_of_mem _ hf)) (t2 :: ts) pos o h2 (by simp)
          have ee : ∀ env S, evalE G.C (.ors (e' :: e2 :: es)) env S = (evalE G.C e' env S).bind fun x S => (R.lift (asBool x) S).bind fun k S => if k = true then .ok (.val (.bool true)) S else evalE G.C (.ors (e2 :: es)) env S := fun env S => by
            simp only [evalE]
            rw [evalOr]
          refine ⟨PE.imp (pe_or (s1.val X c W t o h1) i1) fun σ H Q ⟨wd, env, S, I, h⟩ => ?_, PW.imp (pw_or (s1.tst X c W t o h1) i2) fun σ H Q ⟨wd, env, S, I, h⟩ => ?_⟩
          · rw [ee] at h
            refine ⟨wd, env, S, I, h.seq fun x S1 e1 h v H1 ⟨ρ1, st, I1, r, _⟩ => ?_⟩
            obtain ⟨k, rfl, h⟩ := h.asB
            refine ⟨k, val_bool r, ?_⟩
            cases k with
            | true => exact iteT (h _ _ ((post_bool I1 true).after I st))
            | false => exact iteF ⟨wd.up ρ1, env, S1, I1, (h.at_ I st).mono fun a S2 _ q v2 H2 p2 => q _ _ (p2.old.after I st)⟩
          · rw [ee] at h
            refine ⟨wd, env, S, I, h.seq fun x S1 e1 h => ?_⟩
            obtain ⟨k, rfl, h⟩ := h.asB
            refine ⟨k, rfl, fun H1 ⟨ρ1, st, I1⟩ => ?_⟩
            cases k with
            | true =>
              obtain ⟨b, eb, h⟩ := h
              cases eb
              exact iteT (h _ ⟨ρ1, st, I1⟩)
            | false => exact iteF ⟨wd.up ρ1, env, S1, I1, (h.at_ I st).mono fun a S2 _ ⟨b, eb, q⟩ => ⟨b, eb, fun H2 p2 => q _ (p2.after I st)⟩⟩
theorem noEnd {e : Ex} (h : ∀ env S, evalE G.C e env S = .err) (hm : ∀ c b e2, chkE c b e e2 = true → chkE c false e e2 = true) : Sound G e :=
  ⟨fun X c W e2 o _ => ⟨fun pins s σ H Q I ⟨_, _, _, _, q⟩ => by rw [h] at q; exact q.elim⟩, fun X c W e2 o _ => ⟨fun pins s σ H Q I ⟨_, _, _, _, q⟩ => by rw [h] at q; exact q.elim⟩, fun X c W e2 o _ => ⟨fun pins s σ H Q I ⟨_, _, _, _, q⟩ => by rw [h] at q; exact q.elim⟩⟩
theorem chkEs_ne {c : Ctx} {b : Bool} {es : List Ex} {ts : List Expr} (he : es ≠ []) (h : chkEs c b es ts = true) : ts ≠ [] := fun z => by
  subst z
  cases es with
  | nil => exact he rfl
  | cons _ _ => cases h
theorem Sound.ands (es : List Ex) (hs : ∀ e' ∈ es, Sound G e') : Sound G (.ands es) := by
  by_cases he : es = []
  · subst he
    exact noEnd (fun env S => by simp only [evalE, evalAnd]) fun c b e h => h
  · refine .of (fun c m e h => h) (fun X c W e o h => ?_) fun X c W e o h => ?_
    · cases e with
      | BoolOp op ts pos =>
        cases op <;> first | (cases h; done) | skip
        exact (ands_of hs X c W ts pos o h (chkEs_ne he h)).1
      | _ => cases h
    · cases e with
      | BoolOp op ts pos =>
        cases op <;> first | (cases h; done) | skip
        exact (ands_of hs X c W ts pos o h (chkEs_ne he h)).2.pt
      | _ => cases h
theorem Sound.ors (es : List Ex) (hs : ∀ e' ∈ es, Sound G e') : Sound G (.ors es) := by
  by_cases he : es = []
  · subst he
    exact noEnd (fun env S => by simp only [evalE, evalOr]) fun c b e h => h
  · refine .of (fun c m e h => h) (fun X c W e o h => ?_) fun X c W e o h => ?_
    · cases e with
      | BoolOp op ts pos =>
        cases op <;> first | (cases h; done) | skip
        exact (ors_of hs X c W ts pos o h (chkEs_ne he h)).1
      | _ => cases h
    · cases e with
      | BoolOp op ts pos =>
        cases op <;> first | (cases h; done) | skip
        exact (ors_of hs X c W ts pos o h (chkEs_ne he h)).2.pt
      | _ => cases h
theorem Sound.not (a : Ex) (ha : Sound G a) : Sound G (.not a) := by
  refine .of (fun c m e h => h) (fun X c W e o h => ?_) fun X c W e o h => ?_
  · cases e with
    | UnaryOp op x pos =>
      cases op <;> first | (cases h; done) | skip
      refine PE.imp (pe_not (ha.val X c W x o h)) fun σ H Q ⟨wd, env, S, I, h⟩ => ?_
      simp only [evalE] at h
      refine ⟨wd, env, S, I, h.seq fun y S1 e1 h v H1 ⟨ρ1, st, I1, r, _⟩ => ?_⟩
      obtain ⟨k, rfl, h⟩ := h.asB
      exact ⟨k, val_bool r, h _ _ ((post_bool I1 (!k)).after I st)⟩
    | _ => cases h
  · cases e with
    | UnaryOp op x pos =>
      cases op <;> first | (cases h; done) | skip
      refine PT.imp (pt_not (ha.tst X c W x o h)) fun σ H Q ⟨wd, env, S, I, h⟩ => ?_
      simp only [evalE] at h
      refine ⟨wd, env, S, I, h.seq fun y S1 e1 h => ?_⟩
      obtain ⟨k, rfl, b, eb, h⟩ := h.asB
      cases eb
      exact ⟨k, rfl, h⟩
    | _ => cases h
def tIfT (t u w : TT) : TT := fun σ H Q => t σ H fun k H1 => if k = true then u σ H1 Q else w σ H1 Q
theorem pt_if {X : Cx} {a b d : Expr} {pos : Pos} {t u w : TT} (h1 : PT X a t) (h2 : PT X b u) (h3 : PT X d w) : PT X (.IfExp a b d pos) (tIfT t u w) := by
  refine ⟨fun pins s σ H Q I h => ?_⟩
  rw [show PySem.isTrue (.IfExp a b d pos) X.env (eval (.IfExp a b d pos) X.env) = (do
    if ← PySem.isTrue a X.env (eval a X.env) then PySem.isTrue b X.env (eval b X.env) else PySem.isTrue d X.env (eval d X.env)) from by rw [PySem.isTrue]]
  refine wpAny_bind (thn (h1.run pins s σ H _ I h) fun k s1 ⟨H1, I1, q1⟩ => ?_)
  cases k with
  | true => exact h2.run pins s1 σ H1 Q I1 q1
  | false => exact h3.run pins s1 σ H1 Q I1 q1
theorem Post.fr {wd : Wd} {σ : L2.St} {env : TEnv} {S S1 : Store} {H H1 : Hp} {f f' : Bool} {a : A} {v : V} (hf : f = true → f' = true) (p : Post G wd σ env S H f' a S1 v H1) : Post G wd σ env S H f a S1 v H1 :=
  let ⟨ρ, st, I, r, q⟩ := p; ⟨ρ, st, I, r, fun z => q (hf z)⟩
theorem Sound.ife (t a b : Ex) (ht : Sound G t) (ha : Sound G a) (hb : Sound G b) : Sound G (.ife t a b) := by
  refine .of (fun c m e h => h) (fun X c W e o h => ?_) fun X c W e o h => ?_
  · cases e with
    | IfExp e1 e2 e3 pos =>
      obtain ⟨h1, h⟩ := ba h
      obtain ⟨h2, h3⟩ := ba h
      refine PE.imp (pe_ifExp (ht.tst X c W e1 o h1) (ha.val X c W e2 o h2) (hb.val X c W e3 o h3)) fun σ H Q ⟨wd, env, S, I, h⟩ => ?_
      simp only [evalE] at h
      refine ⟨wd, env, S, I, h.seq fun y S1 e1 h => ?_⟩
      obtain ⟨k, rfl, h⟩ := h.asB
      refine ⟨k, rfl, fun H1 ⟨ρ1, st, I1⟩ => ?_⟩
      cases k with
      | true => exact iteT ⟨wd.up ρ1, env, S1, I1, (h.at_ I st).mono fun z S2 _ q v2 H2 p2 => q _ _ ((p2.after I st).fr fun g => (ba g).1)⟩
      | false => exact iteF ⟨wd.up ρ1, env, S1, I1, (h.at_ I st).mono fun z S2 _ q v2 H2 p2 => q _ _ ((p2.after I st).fr fun g => (ba g).2)⟩
    | _ => cases h
  · cases e with
    | IfExp e1 e2 e3 pos =>
      obtain ⟨h1, h⟩ := ba h
      obtain ⟨h2, h3⟩ := ba h
      refine PT.imp (pt_if (ht.tst X c W e1 o h1) (ha.tst X c W e2 o h2) (hb.tst X c W e3 o h3)) fun σ H Q ⟨wd, env, S, I, h⟩ => ?_
      simp only [evalE] at h
      refine ⟨wd, env, S, I, h.seq fun y S1 e1 h => ?_⟩
      obtain ⟨k, rfl, h⟩ := h.asB
      refine ⟨k, rfl, fun H1 ⟨ρ1, st, I1⟩ => ?_⟩
      cases k with
      | true => exact iteT ⟨wd.up ρ1, env, S1, I1, (h.at_ I st).mono fun z S2 _ ⟨b, eb, q⟩ => ⟨b, eb, fun H2 p2 => q _ (p2.after I st)⟩⟩
      | false => exact iteF ⟨wd.up ρ1, env, S1, I1, (h.at_ I st).mono fun z S2 _ ⟨b, eb, q⟩ => ⟨b, eb, fun H2 p2 => q _ (p2.after I st)⟩⟩
    | _ => cases h

theorem plainIx_of {e : Expr} (h : noSlice e = true) : PlainIx e := fun o i => by
  cases e <;> first | rfl | (cases h; done)
theorem atA_rep {K : PySem.W.Frag} {Bad : Addr → Prop} {H : Hp} {ρ : List Addr} {vs : List V} {ds : List A} {i : Int} {g : A} (h : RepAs K Bad H ρ vs ds) (e : atI ds i = some g) : ∃ v, atI vs i = some v ∧ RepA K Bad H ρ v g := by
  unfold atI at e ⊢
  rw [h.length]
  cases q : ixN ds.length i with
  | none => rw [q] at e; cases e
  | some j =>
    rw [q] at e
    exact h.get e
theorem Cell.at_int {c : Cell} {k : PyData} {g : A} (h : c.at_ k = some g) : ∃ i, k = .int i := by
  unfold Cell.at_ at h
  split at h
  · exact ⟨_, rfl⟩
  · exact ⟨_, rfl⟩
  · cases h
theorem ObjC.at_ {Bad : Addr → Prop} {H : Hp} {ρ : List Addr} {p : Addr} {c : Cell} {i : Int} {g : A} (h : ObjC G Bad H ρ p c) (e : c.at_ (.int i) = some g) : ∃ xs v, H p = some (.lst xs) ∧ atI xs i = some v ∧ RepA G.K Bad H ρ v g := by
  cases h with
  | lst h1 h2 =>
    obtain ⟨d, e0, rfl⟩ := Option.map_eq_some_iff.mp e
    obtain ⟨v, e1, r⟩ := atI_rep h2 e0
    exact ⟨_, v, h1, e1, .val r⟩
  | refs h1 h2 =>
    obtain ⟨v, e1, r⟩ := atA_rep h2 e
    exact ⟨_, v, h1, e1, r⟩
  | inst h1 h2 h3 => cases e
  | dead h => cases e
theorem idx_red {wd : Wd} {σ : L2.St} {H : Hp} {env : TEnv} {S : Store} {v w : V} {x y : A} {k : PyData} {g : A} {Q : VK} {K : PySem.W.Frag} (hK : K = G.K) (I : SR G wd σ H env S) (r1 : RepB G (BadOf wd σ env S) H wd.ρ v x) (r2 : RepB G (BadOf wd σ env S) H wd.ρ w y)
    (ey : deref S y = some k) (e : idxA S x k = some g) (q : ∀ u, RepA G.K (BadOf wd σ env S) H wd.ρ u g → Q u H) : (rIxL K v w H Q ∨ rIxT K v w H Q ∨ rIxS v w H Q) := by
  subst hK
  have rk := r2.deref I ey
  have cell : ∀ {p : Addr} {c : Cell}, v = .ref p → ObjC G (BadOf wd σ env S) H wd.ρ p c → c.at_ k = some g → (rIxL G.K v w H Q ∨ rIxT G.K v w H Q ∨ rIxS v w H Q) := fun {p c} ev ho e => by
    obtain ⟨i, rfl⟩ := Cell.at_int e
    obtain ⟨xs, u, h1, h2, h3⟩ := ho.at_ e
    exact .inl ⟨p, xs, i, u, ev, rk.int, .inl (.inl h1), h2, q u h3⟩
  cases r1 with
  | at_ r1 =>
    cases r1 with
    | val r =>
      obtain ⟨d, e0, rfl⟩ := Option.map_eq_some_iff.mp e
      clear e
      cases k with
      | int i =>
        cases r with
        | lst h1 h2 =>
          obtain ⟨u, e1, r⟩ := atI_rep h2 e0
          exact .inl ⟨_, _, i, u, rfl, rk.int, h1.sq, e1, q u (.val r)⟩
        | tup h1 h2 =>
          obtain ⟨u, e1, r⟩ := atI_rep h2 e0
          exact .inr (.inl ⟨_, _, i, u, rfl, rk.int, h1.sq, e1, q u (.val r)⟩)
        | str z =>
          simp only [idxD] at e0
          split at e0
          · rename_i hz
            obtain ⟨cc, e1, rfl⟩ := Option.map_eq_some_iff.mp e0
            exact .inr (.inr ⟨z, i, cc, rfl, rk.int, hz, e1, q _ (.val (.str _))⟩)
          · cases e0
        | _ => cases e0
      | _ => cases r <;> cases e0
    | ref h =>
      obtain ⟨c, e1, e2⟩ := Option.bind_eq_some_iff.mp e
      exact cell rfl (I.cel _ _ c h e1) e2
    | tup h1 h2 =>
      cases k with
      | int i =>
        obtain ⟨u, e1, r⟩ := atA_rep h2 e
        exact .inr (.inl ⟨_, _, i, u, rfl, rk.int, h1.sq, e1, q u r⟩)
      | _ => cases e
  | own e1 h1 h2 h3 => exact cell e1 h1 e
theorem Sound.idx (a i : Ex) (ha : Sound G a) (hi : Sound G i) : Sound G (.idx a i) := by
  refine .plain (fun c m e h => h) (fun c e h => ?_) fun X c W e o h => ?_
  · cases e <;> first | rfl | (cases h; done)
  · cases e with
    | Subscript v s pos =>
      obtain ⟨h1, h⟩ := ba h
      obtain ⟨h2, h3⟩ := ba h
      refine PE.imp (pe_ix ix_seq (ha.bor X c W v o h1) (hi.bor X c W s o h2) (plainIx_of h3)) fun σ H Q ⟨wd, env, S, I, h⟩ => ?_
      simp only [evalE] at h
      refine two_ok I h fun x y v w ρ2 S2 H2 st I2 r1 r2 h => ?_
      split at h
      · rename_i k ek
        obtain ⟨g, eg, h⟩ := h.lift
        exact idx_red (wd := wd.up ρ2) o.K I2 r1 r2 ek eg fun u ru => h u H2 ((post_same (fr := false) I2 ru fun f => nomatch f).after I st)
      · exact h.elim
    | _ => cases h
theorem len_red {wd : Wd} {σ : L2.St} {H : Hp} {env : TEnv} {S : Store} {v : V} {x : A} {n : Nat} {Q : VK} {K : PySem.W.Frag} (hK : K = G.K) (I : SR G wd σ H env S) (r : RepB G (BadOf wd σ env S) H wd.ρ v x) (e : lenA S x = some n) (q : Q (.int (n : Nat)) H) :
    (∃ p ys, [v] = [V.ref p] ∧ (SqL K H p ys ∨ SqT K H p ys) ∧ Q (.int ys.length) H) ∨ ∃ z : Str, [v] = [V.str z] ∧ z.length ≤ sizeLine ∧ Q (.int z.length) H := by
  subst hK
  have cell : ∀ {p : Addr} {c : Cell}, v = .ref p → ObjC G (BadOf wd σ env S) H wd.ρ p c → c.len = some n → (∃ p ys, [v] = [V.ref p] ∧ (SqL G.K H p ys ∨ SqT G.K H p ys) ∧ Q (.int ys.length) H) := fun {p c} ev ho e => by
    cases ho with
    | lst h1 h2 => cases e; exact ⟨p, _, by rw [ev], .inl (.inl (.inl h1)), by rw [h2.length]; exact q⟩
    | refs h1 h2 => cases e; exact ⟨p, _, by rw [ev], .inl (.inl (.inl h1)), by rw [h2.length]; exact q⟩
    | inst h1 h2 h3 => cases e
    | dead h => cases e
  cases r with
  | at_ r =>
    cases r with
    | val r =>
      cases r with
      | lst h1 h2 => cases e; exact .inl ⟨_, _, rfl, .inl h1.sq, by rw [h2.length]; exact q⟩
      | tup h1 h2 => cases e; exact .inl ⟨_, _, rfl, .inr h1.sq, by rw [h2.length]; exact q⟩
      | str z =>
        simp only [lenA] at e
        split at e
        · rename_i hz
          cases e
          exact .inr ⟨z, rfl, hz, q⟩
        · cases e
      | _ => cases e
    | ref h =>
      obtain ⟨c, e1, e2⟩ := Option.bind_eq_some_iff.mp e
      exact .inl (cell rfl (I.cel _ _ c h e1) e2)
    | tup h1 h2 => cases e; exact .inl ⟨_, _, rfl, .inr h1.sq, by rw [h2.length]; exact q⟩
  | own e1 h1 h2 h3 => exact .inl (cell e1 h1 e)
theorem Sound.len (a : Ex) (ha : Sound G a) : Sound G (.len a) := by
  refine .plain (fun c m e h => h) (fun c e h => ?_) fun X c W e o h => ?_
  · cases e <;> first | rfl | (cases h; done)
  · cases e <;> first | (cases h; done) | skip
    rename_i fn args kws pos
    cases fn <;> first | (cases h; done) | skip
    rename_i x p
    rcases args with _ | ⟨t, _ | _⟩ <;> first | (cases h; done) | skip
    rcases kws with _ | _ <;> first | (cases h; done) | skip
    obtain ⟨h1, h⟩ := ba h
    obtain ⟨h2, h⟩ := ba h
    obtain ⟨h3, h4⟩ := ba h
    have e1 := de h1
    subst e1
    obtain ⟨g1, g2⟩ := o.gl h2
    refine PE.imp (pe_callB (CallR.or call_len_seq call_len_str) g1 (o.free _ (by decide)) PySem.boot_len (pa_cons (ha.bor X c W t o h3) pa_nil (star1 h4)) (by decide) g2 (star1 h4) rfl) fun σ H Q ⟨wd, env, S, I, h⟩ => ?_
    simp only [evalE] at h
    refine ⟨wd, env, S, I, h.seq fun y S1 e1 h v H1 ⟨ρ1, st, I1, r⟩ => ?_⟩
    split at h
    · rename_i n en
      exact len_red (wd := wd.up ρ1) o.K I1 r en (h _ _ ((post_int I1 n).after I st))
    · exact h.elim
def tOI (G : Gam) (W : WX) (a : Option Ex) : TO := fun σ H Q => ∃ wd env S, SR G wd σ H env S ∧
  Out G W wd σ env S H (evalO G.C a env S) fun i S' => ∀ H', PostN G wd σ env S H S' H' → Q i H'
theorem PO.imp {X : Cx} {e : Option Expr} {t t' : TO} (h : PO X e t) (i : ∀ σ H Q, t' σ H Q → t σ H Q) : PO X e t' := ⟨fun pins s σ H Q I q => h.run pins s σ H Q I (i σ H Q q)⟩
theorem po_of {X : Cx} {c : Ctx} {a : Option Ex} {e : Option Expr} (o : XOk X G c W) (ha : ∀ b, a = some b → Sound G b) (h : chkO c a e = true) : PO X e (tOI G W a) := by
  cases a with
  | none =>
    cases e with
    | some _ => cases h
    | none => exact PO.imp po_none fun σ H Q ⟨wd, env, S, I, h⟩ => by simp only [evalO] at h; exact h H (.refl I)
  | some a =>
    cases e with
    | none => cases h
    | some e =>
      refine PO.imp (po_some ((ha a rfl).bor X c W e o h)) fun σ H Q ⟨wd, env, S, I, h⟩ => ?_
      simp only [evalO] at h
      refine ⟨wd, env, S, I, h.seq fun x S1 e1 h v H1 ⟨ρ1, st, I1, r⟩ => ?_⟩
      split at h
      · rename_i j ej
        exact ⟨j, asInt_rep (wd := wd.up ρ1) I1 r ej, h H1 ⟨ρ1, st, I1⟩⟩
      · exact h.elim
theorem Sound.slice (a : Ex) (lo hi : Option Ex) (ha : Sound G a) (hl : ∀ b, lo = some b → Sound G b) (hh : ∀ b, hi = some b → Sound G b) : Sound G (.slice a lo hi) := by
  refine .plain (fun c m e h => h) (fun c e h => ?_) fun X c W e o h => ?_
  · cases e <;> first | rfl | (cases h; done)
  · cases e with
    | Subscript v s pos =>
      cases s <;> first | (cases h; done) | skip
      rename_i l u st p2
      cases st <;> first | (cases h; done) | skip
      obtain ⟨h1, h⟩ := ba h
      obtain ⟨h2, h3⟩ := ba h
      refine PE.imp (pe_slice op_slice (ha.bor X c W v o h1) (po_of o hl h2) (po_of o hh h3)) fun σ H Q ⟨wd, env, S, I, h⟩ => ?_
      simp only [evalE] at h
      refine ⟨wd, env, S, I, h.seq fun x S1 e1 h v H1 ⟨ρ1, st1, I1, r⟩ => ⟨wd.up ρ1, env, S1, I1, (h.at_ I st1).seq fun i S2 e2 h H2 ⟨ρ2, st2, I2⟩ => ?_⟩⟩
      have st12 := I.trans st1 st2
      refine ⟨wd.up ρ2, env, S2, I2, (Out.at_ (wd := wd.up ρ1) h I1 st2).seq fun j S3 e3 h H3 ⟨ρ3, st3, I3⟩ => ?_⟩
      split at h
      · rename_i d d1
        obtain ⟨z, ew, h⟩ := h.lift
        obtain ⟨g, e4, rfl⟩ := Option.map_eq_some_iff.mp ew
        rw [o.K]
        exact ⟨_, d, g, I3.badOk, (RepB.keep (wd := wd.up ρ2) I2 st3 (RepB.keep (wd := wd.up ρ1) I1 st2 r)).deref I3 d1, e4, fun v' H' p' => h _ _ ((p'.post I3).after I (I.trans st12 st3))⟩
      · exact h.elim
    | _ => cases h
end
end Tr


namespace Tr
open PySem L2
open PySem.Spec PyProof.Rows
section
variable {G : Gam}
theorem blt_red {X : Cx} {c : Ctx} {W : WX} (o : XOk X G c W) (f : BF) (es : List Ex) : ∀ (σ : L2.St) (H : Hp) (Q : VK), tE G W (.blt f es) σ H Q → tCB (rF X.K (bltD f)) (tBs G W es) σ H Q := fun σ H Q ⟨wd, env, S, I, h⟩ => by
  simp only [evalE] at h
  refine ⟨wd, env, S, I, h.seq fun as S1 e1 h vs ρ1 H1 st I1 r1 => ?_⟩
  split at h
  · rename_i ds e2
    obtain ⟨z, ew, h⟩ := h.lift
    obtain ⟨g, e3, rfl⟩ := Option.map_eq_some_iff.mp ew
    rw [o.K]
    exact ⟨_, ds, g, I1.badOk, derefs_rep (wd := wd.up ρ1) I1 r1 e2, e3, fun v' H' p => h _ _ ((p.post I1).after I st)⟩
  · exact h.elim
def bfIn : BF → Bool
  | .isInst _ => false
  | _ => true
theorem Sound.blt (f : BF) (es : List Ex) (hs : ∀ e' ∈ es, Sound G e') : Sound G (.blt f es) := by
  refine .plain (fun c m e h => h) (fun c e h => ?_) fun X c W e o h => ?_
  · cases e <;> first | rfl | (cases h; done)
  · cases e with
    | Call fn args kws pos =>
      cases fn <;> first | (cases h; done) | skip
      rename_i x p
      rcases args with _ | ⟨a, as⟩ <;> first | (cases h; done) | skip
      rcases kws with _ | _ <;> first | (cases h; done) | skip
      obtain ⟨h1, ha⟩ := ba h
      obtain ⟨h2, hca⟩ := ba ha
      obtain ⟨hcm, hb⟩ := ba hca
      have calm := o.calm hcm
      have e1 := de h1
      subst e1
      clear h ha hca
      obtain ⟨g1, g2⟩ := o.gl h2
      have fr : X.mg (bfName f) = none := o.free _ (by cases f <;> first | decide | exact (by decide : ("isinstance" : Str) ∈ bltNames))
      have nn : bfName f ≠ "__name__" := by cases f <;> first | decide | exact (by decide : ("isinstance" : Str) ≠ "__name__")
      have u := o.un
      have fin : bfIn f = true → chkEs c true es (a :: as) = true → (a :: as).all noStar = true → PE X (.Call (.Name (bfName f) p) (a :: as) [] pos) (tE G W (.blt f es)) := fun nt k1 k2 => by
        have pa := bors_of hs o k1 k2
        rw [List.all_cons] at k2
        obtain ⟨s1, s2⟩ := ba k2
        cases f with
        | abs => exact PE.imp (pe_callB c_abs g1 fr PyProof.Rows.boot_abs pa nn g2 (star1 s1) (stars s2)) (blt_red o _ es)
        | int => exact PE.imp (pe_callTy c_int g1 fr PyProof.Rows.boot_int pa nn g2 (star1 s1) (stars s2)) (blt_red o _ es)
        | str => exact PE.imp (pe_callTy c_str g1 fr PyProof.Rows.boot_str pa nn g2 (star1 s1) (stars s2)) (blt_red o _ es)
        | max2 => exact PE.imp (pe_callB (c_max calm) g1 fr (by decide +kernel) pa nn g2 (star1 s1) (stars s2)) (blt_red o _ es)
        | min2 => exact PE.imp (pe_callB (c_min calm) g1 fr (by decide +kernel) pa nn g2 (star1 s1) (stars s2)) (blt_red o _ es)
        | tuple => exact PE.imp (pe_callTy c_tuple g1 fr PyProof.Rows.boot_tuple pa nn g2 (star1 s1) (stars s2)) (blt_red o _ es)
        | list => exact PE.imp (pe_callTy c_list g1 fr PyProof.Rows.boot_list pa nn g2 (star1 s1) (stars s2)) (blt_red o _ es)
        | all => exact PE.imp (pe_callB (c_all calm) g1 fr (by decide +kernel) pa nn g2 (star1 s1) (stars s2)) (blt_red o _ es)
        | any => exact PE.imp (pe_callB (c_any calm) g1 fr (by decide +kernel) pa nn g2 (star1 s1) (stars s2)) (blt_red o _ es)
        | repr => exact PE.imp (pe_callB (c_repr (o.gu hcm) u) g1 fr (by decide +kernel) pa nn g2 (star1 s1) (stars s2)) (blt_red o _ es)
        | sum => exact PE.imp (pe_callB (c_sum calm) g1 fr (by decide +kernel) pa nn g2 (star1 s1) (stars s2)) (blt_red o _ es)
        | sorted => exact PE.imp (pe_callB c_sorted g1 fr (by decide +kernel) pa nn g2 (star1 s1) (stars s2)) (blt_red o _ es)
        | maxL => exact PE.imp (pe_callB (c_maxL calm) g1 fr (by decide +kernel) pa nn g2 (star1 s1) (stars s2)) (blt_red o _ es)
        | minL => exact PE.imp (pe_callB (c_minL calm) g1 fr (by decide +kernel) pa nn g2 (star1 s1) (stars s2)) (blt_red o _ es)
        | isInst _ => cases nt
      by_cases hi : ∃ t, f = .isInst t
      · obtain ⟨t, rfl⟩ := hi
        rcases as with _ | ⟨b, _ | _⟩ <;> first | (simp at hb; done) | skip
        cases b <;> first | (simp at hb; done) | skip
        rename_i y py
        obtain ⟨k1, hc⟩ := ba hb
        obtain ⟨k2, hd⟩ := ba hc
        obtain ⟨k3, he⟩ := ba hd
        obtain ⟨k4, k5⟩ := ba he
        have e2 := de k1
        subst e2
        have kt : t ∈ kindNames := by simpa using k2
        obtain ⟨g3, g4⟩ := o.gl k3
        have boot : bootBuiltins (Str.ofString t) = some (.type t) := by
          have all : ∀ t ∈ kindNames, bootBuiltins (Str.ofString t) = some (.type t) := by decide +kernel
          exact all t kt
        have fr2 : X.mg (Str.ofString t) = none := o.free _ (by
          have all : ∀ t ∈ kindNames, Str.ofString t ∈ bltNames := by decide +kernel
          exact all t kt)
        have nn2 : Str.ofString t ≠ "__name__" := by
          have all : ∀ t ∈ kindNames, Str.ofString t ≠ "__name__" := by decide +kernel
          exact all t kt
        rcases es with _ | ⟨e', _ | _⟩
        · cases k4
        · obtain ⟨k4, _⟩ := ba k4
          have s1 := (hs e' List.mem_cons_self).bor X c W a o k4
          have s2 : PE X (.Name (Str.ofString t) py) (tC (.ty t)) := pe_bltn g3 fr2 boot rfl nn2 g4
          have pa := pa_cons s1 (pa_cons s2 pa_nil) (star1 k5)
          refine PE.imp (pe_callB (c_isi kt) g1 fr PyProof.Rows.boot_isinstance pa nn g2 (star1 k5) rfl) fun σ H Q ⟨wd, env, S, I, h⟩ => ?_
          have ee : ∀ env S, evalE G.C (.blt (.isInst t) [e']) env S = (evalE G.C e' env S).bind fun a S => match derefs S [a] with
              | some ds => R.lift ((bltD (.isInst t) ds).map .val) S
              | none => .err := fun env S => by
            simp only [evalE, evalEs]
            cases evalE G.C e' env S <;> rfl
          rw [ee] at h
          refine ⟨wd, env, S, I, h.seq fun a1 S1 e1 h v H1 ⟨ρ1, st, I1, r⟩ => ?_⟩
          split at h
          · rename_i ds e4
            obtain ⟨z, ew, h⟩ := h.lift
            obtain ⟨g, e5, rfl⟩ := Option.map_eq_some_iff.mp ew
            have r := derefs_rep (wd := wd.up ρ1) I1 (.cons r .nil) e4
            cases r with
            | cons r1 r2 =>
              cases r2
              cases e5
              exact ⟨_, _, v, rfl, by rw [o.K]; exact r1, h _ _ ((post_bool I1 _).after I st)⟩
          · exact h.elim
        · obtain ⟨_, k4⟩ := ba k4
          cases k4
      · have hb' : (chkEs c true es (a :: as) && (a :: as).all noStar) = true := by
          cases f with
          | isInst t => exact absurd ⟨t, rfl⟩ hi
          | _ => exact hb
        obtain ⟨k1, k2⟩ := ba hb'
        exact fin (by cases f <;> first | rfl | exact absurd ⟨_, rfl⟩ hi) k1 k2
    | _ => cases h
theorem base_of {o : Expr} {n : Str} {env : Env} (h : noCall0 o = true) : attributeBase o n env (eval o env) = eval o env := by
  cases o <;> first | rfl | skip
  rename_i f as kw p
  cases as with
  | nil => cases h
  | cons a as => cases f <;> rfl
theorem methR_str {f : MF} {d : PyData} (h : methR f d = true) (hf : f ≠ .index) (hg : f ≠ .get2) : ∃ z, d = .str z := by
  cases d with
  | str z => exact ⟨z, rfl⟩
  | _ => cases f <;> first | exact absurd rfl hf | exact absurd rfl hg | (cases h; done)
theorem methD_index {d g : PyData} {ds : List PyData} (h : methD .index d ds = some g) : ∃ es e, ds = [e] ∧ indexD es e = some g ∧ (d = .list es ∨ d = .tuple es) := by
  rcases ds with _ | ⟨e, _ | ⟨_, _⟩⟩
  · cases d <;> simp [methD] at h
  · cases d with
    | list es => exact ⟨es, e, rfl, h, .inl rfl⟩
    | tuple es => exact ⟨es, e, rfl, h, .inr rfl⟩
    | _ => simp [methD] at h
  · cases d <;> simp [methD] at h
theorem Sound.meth (f : MF) (a : Ex) (es : List Ex) (ha : Sound G a) (hs : ∀ e' ∈ es, Sound G e') : Sound G (.meth f a es) := by
  refine .plain (fun c m e h => h) (fun c e h => ?_) fun X c W e o h => ?_
  · cases e <;> first | rfl | (cases h; done)
  · cases e with
    | Call fn args kws pos =>
      cases fn <;> first | (cases h; done) | skip
      rename_i ob n ap
      rcases args with _ | ⟨t, ts⟩ <;> first | (cases h; done) | skip
      rcases kws with _ | _ <;> first | (cases h; done) | skip
      obtain ⟨h1, ha1⟩ := ba h
      obtain ⟨h2, ha2⟩ := ba ha1
      obtain ⟨h3, ha3⟩ := ba ha2
      obtain ⟨h4, ha4⟩ := ba ha3
      obtain ⟨h5, ha5⟩ := ba ha4
      obtain ⟨h6, h7⟩ := ba ha5
      obtain ⟨e1, ng⟩ := de h1
      clear h ha1 ha2 ha3 ha4 ha5
      subst e1
      have pa := bors_of hs o h3 h4
      have pob := ha.bor X c W ob o h2
      have st := h4
      rw [List.all_cons] at st
      obtain ⟨s1, s2⟩ := ba st
      have red : ∀ (R : V → List V → Hp → VK → Prop) (Ty : V → Hp → Prop), (∀ {wd : Wd} {σ : L2.St} {env : TEnv} {S : Store} {H : Hp} {v : V} {d0 : PyData}, SR G wd σ H env S → RepD G.K (BadOf wd σ env S) H v d0 → methR f d0 = true → Ty v H) →
          (∀ {v : V} {vs : List V} {H : Hp} {Q : VK}, rM G.K (methD f) v vs H Q → R v vs H Q) → ∀ (σ : L2.St) (H : Hp) (Q : VK), tE G W (.meth f a es) σ H Q → tB G W a σ H fun x H1 => Ty x H1 ∧ tBs G W es σ H1 fun xs H2 => R x xs H2 Q := fun R Ty hT hR σ H Q ⟨wd, env, S, I, h⟩ => by
        simp only [evalE] at h
        refine ⟨wd, env, S, I, h.seq fun x S1 e1 h v H1 ⟨ρ1, st1, I1, r1⟩ => ?_⟩
        split at h
        · rename_i d0 e0
          split at h
          · rename_i hm
            refine ⟨hT I1 (RepB.deref (wd := wd.up ρ1) I1 r1 e0) hm, wd.up ρ1, env, S1, I1, (h.at_ I st1).seq fun as S2 e2 h vs ρ2 H2 st2 I2 r2 => hR ?_⟩
            split at h
            · rename_i d ds e3 e4
              split at h
              rotate_left
              · exact h.elim
              obtain ⟨z, ew, h⟩ := h.lift
              obtain ⟨g, e5, rfl⟩ := Option.map_eq_some_iff.mp ew
              exact ⟨_, d, ds, g, SR.badOk (wd := wd.up ρ2) I2, RepB.deref (wd := wd.up ρ2) I2 (RepB.keep (wd := wd.up ρ1) I1 st2 r1) e3, derefs_rep (wd := wd.up ρ2) I2 r2 e4, e5, fun v' H' p' => h _ _ (((OpPost.post (wd := wd.up ρ2) I2 p').fr fun _ => rfl).after I (I.trans st1 st2))⟩
            · exact h.elim
          · exact h.elim
        · exact h.elim
      have go : f ≠ .index → f ≠ .get2 → ∀ {id : String} (slot : Slot "str" (mfName f) id) (hty : typeOf (.builtin id) = pure (.type "method_descriptor")) (hm : MtR X id (rM X.K (methD f))), PE X (.Call (.Attribute ob (mfName f) ap) (t :: ts) [] pos) (tE G W (.meth f a es)) :=
        fun hf hg _ slot hty hm => PE.imp (pe_bmF PySem.F.plainAttrs_str slot hty hm pob pa (base_of h5) (stars2 h4) (de h7) h6 (star1 s1) (stars s2)) (red (rM X.K (methD f)) (tyF X.K "str") (fun {wd σ env S H v d0} I r m => by
          obtain ⟨z, rfl⟩ := methR_str m hf hg
          rw [r.str]
          exact .inl rfl) fun {v vs H Q} q => by rw [o.K]; exact q)
      cases f with
      | removesuffix => exact go (fun z => nomatch z) (fun z => nomatch z) PySem.F.slot_str_removesuffix PySem.F.type_str_removesuffix m_removesuffix
      | endswith => exact go (fun z => nomatch z) (fun z => nomatch z) PySem.F.slot_str_endswith PySem.F.type_str_endswith m_endswith
      | startswith => exact go (fun z => nomatch z) (fun z => nomatch z) PySem.F.slot_str_startswith PySem.F.type_str_startswith m_startswith
      | join => exact go (fun z => nomatch z) (fun z => nomatch z) PySem.F.slot_str_join PySem.F.type_str_join m_join
      | split => exact go (fun z => nomatch z) (fun z => nomatch z) PySem.F.slot_str_split PySem.F.type_str_split m_split
      | get2 => exact absurd rfl ng
      | index =>
        refine PE.imp (pe_bm2 PySem.F.plainAttrs_list PySem.F.slot_list_index PySem.F.type_list_index m_lindex PySem.F.plainAttrs_tuple PySem.F.slot_tuple_index PySem.F.type_tuple_index m_tindex pob pa (base_of h5) (stars2 h4) (de h7) h6 (star1 s1) (stars s2)) fun σ H Q ⟨wd, env, S, I, h⟩ => ?_
        simp only [evalE] at h
        refine ⟨wd, env, S, I, h.seq fun x S1 e1 h v H1 ⟨ρ1, st1, I1, r1⟩ => ?_⟩
        split at h
        · rename_i d0 e0
          split at h
          · rename_i hm
            have r0 := RepB.deref (wd := wd.up ρ1) I1 r1 e0
            rw [o.K]
            have args : ∀ k : Bool, kindOf d0 = (if k then "list" else "tuple") → tBs G W es σ H1 fun xs H2 => rIdxM G.K k v xs H2 Q := fun k hk => by
              refine ⟨wd.up ρ1, env, S1, I1, (h.at_ I st1).seq fun as S2 e2 h vs ρ2 H2 st2 I2 r2 => ?_⟩
              split at h
              · rename_i d ds e3 e4
                split at h
                rotate_left
                · exact h.elim
                rename_i hkd
                obtain ⟨z, ew, hq⟩ := h.lift
                clear h
                obtain ⟨g, e5, rfl⟩ := Option.map_eq_some_iff.mp ew
                obtain ⟨es', e', rfl, e6, e7⟩ := methD_index e5
                have rd := RepB.deref (wd := wd.up ρ2) I2 (RepB.keep (wd := wd.up ρ1) I1 st2 r1) e3
                refine ⟨_, es', e', g, SR.badOk (wd := wd.up ρ2) I2, ?_, derefs_rep (wd := wd.up ρ2) I2 r2 e4, e6, fun v' H' p' => hq _ _ (((OpPost.post (wd := wd.up ρ2) I2 p').fr fun _ => rfl).after I (I.trans st1 st2))⟩
                rw [hk] at hkd
                have : d = if k = true then .list es' else .tuple es' := by
                  rcases e7 with rfl | rfl
                  · cases k with
                    | true => rfl
                    | false => exact absurd hkd (by simp [kindOf])
                  · cases k with
                    | true => exact absurd hkd (by simp [kindOf])
                    | false => rfl
                rw [← this]
                exact rd
              · exact h.elim
            cases d0 with
            | list es0 =>
              obtain ⟨b, xs, rfl, h8, _⟩ := r0.list
              exact .inl ⟨.inl (.inl ⟨rfl, xs, h8⟩), args true rfl⟩
            | tuple es0 =>
              obtain ⟨b, xs, rfl, h8, _⟩ := r0.tuple
              exact .inr ⟨.inr ⟨rfl, b, xs, rfl, h8⟩, args false rfl⟩
            | _ => cases hm
          · exact h.elim
        · exact h.elim
    | _ => cases h

theorem Sound.call (f : Nat) (es : List Ex) (hs : ∀ e' ∈ es, Sound G e') : Sound G (.call f es) := by
  refine .plain (fun c m e h => h) (fun c e h => ?_) fun X c W e o h => ?_
  · cases e <;> first | rfl | (cases h; done)
  · cases e with
    | Call fn args kws pos =>
      cases fn <;> first | (cases h; done) | skip
      rename_i x p
      rcases kws with _ | _ <;> first | (cases h; done) | skip
      obtain ⟨h1, h2⟩ := ba h
      obtain ⟨hc, h2⟩ := ba h2
      obtain ⟨h3, h4⟩ := ba h2
      obtain ⟨h5, h6⟩ := ba h4
      obtain ⟨g1, g2⟩ := o.gl h3
      cases e0 : c.fns.lookup f with
      | none => rw [e0] at h1; cases h1
      | some y =>
        obtain ⟨y, np⟩ := y
        rw [e0] at h1
        have e1 := de h1
        obtain ⟨ad, fd, ps, m1, m2, m3, m4⟩ := o.fns f y np e0
        rw [← e1] at m1
        have red : ∀ {σ : L2.St} {H : Hp} {Q : VK} {wd : Wd} {env : TEnv} {S S1 : Store} {as : List A} {vs : List V} {ρ1 : List Addr} {H1 : Hp}, SR G wd σ H env S → Step wd S H ρ1 S1 H1 → SR G (wd.up ρ1) σ H1 env S1 → RepAs G.K (BadOf (wd.up ρ1) σ env S1) H1 ρ1 vs as →
            Out G W wd σ env S H (G.C.call f as S1) (fun a S' => ∀ v H', Post G wd σ env S H (G.fr f) a S' v H' → Q v H') → spF G f vs H1 Q (WE W σ) := by
          intro σ H Q wd env S S1 as vs ρ1 H1 I st I1 r h
          refine ⟨wd.up ρ1, σ, env, S1, as, I1, r, ?_⟩
          have h := h.at_ I st
          cases er : G.C.call f as S1 with
          | ok a S' => rw [er] at h; exact fun v H' p => h v H' (p.after I st)
          | exc k d S' => rw [er] at h; exact h
          | err => rw [er] at h; exact h
        rcases args with _ | ⟨t, ts⟩
        · refine PE.imp (pe_callg0 m4 (o.room hc) (o.gu hc) g1 m1 m2 m3 o.tk g2) fun σ H Q ⟨wd, env, S, I, h⟩ => ?_
          have : es = [] := by
            cases es with
            | nil => rfl
            | cons _ _ => cases h5
          subst this
          simp only [evalE, evalEs, R.bind] at h
          exact red I I.refl I .nil h
        · refine PE.imp (pe_callg m4 (o.room hc) (o.gu hc) g1 m1 m2 m3 o.tk (vals_of hs o h5 h6) g2 h6) fun σ H Q ⟨wd, env, S, I, h⟩ => ?_
          simp only [evalE] at h
          exact ⟨wd, env, S, I, h.seq fun as S1 e1 h vs ρ1 H1 st I1 r1 => red I st I1 r1 h⟩
    | _ => cases h

/-- a new list becomes a cell -/
theorem post_newc {wd : Wd} {σ : L2.St} {env : TEnv} {S S1 : Store} {H H1 : Hp} {ds : List PyData} {v : V} (I : SR G wd σ H env S) (p : Post G wd σ env S H true (.val (.list ds)) S1 v H1) : Post G wd σ env S H false (.ref S1.length) (S1 ++ [.lst ds]) v H1 := by
  obtain ⟨ρ1, st, I1, r, f⟩ := p
  obtain ⟨q, xs, rfl, n0, nb, nr, h1, J, h2⟩ := f rfl ds rfl
  have K := SR.adopt (wd := wd.up ρ1) (c := .lst ds) J nb nr (I.noneHe n0) (.lst h1 h2) (fun z => nomatch z)
  refine ⟨ρ1 ++ [q], ⟨st.pre.trans (List.prefix_append _ _), K.nd, fun a m => ?_, st.ext, fun n e => ?_⟩, K, .ref ?_, fun z => nomatch z⟩
  · rcases List.mem_append.mp m with z | z
    · exact st.new a z
    · have e : a = q := by simpa using z
      exact .inr (e ▸ n0)
  · have e := st.dead n e
    rw [List.getElem?_append_left (List.getElem?_eq_some_iff.mp e).1]; exact e
  · have hl : ρ1.length = S1.length := I1.lenρ
    rw [← hl]; simp
theorem Sound.newc (a : Ex) (ha : Sound G a) : Sound G (.newc a) := by
  have val : ∀ (X : Cx) (c : Ctx) (W : WX) (e : Expr), XOk X G c W → chkE c false (.newc a) e = true → PE X e (tE G W (.newc a)) := fun X c W e o h => by
    obtain ⟨h1, h2⟩ := ba h
    rw [o.fr] at h2
    refine PE.imp (ha.val X c W e o h1) fun σ H Q ⟨wd, env, S, I, h⟩ => ?_
    simp only [evalE] at h
    refine ⟨wd, env, S, I, h.seq fun x S1 e1 h v H1 p => ?_⟩
    split at h
    · rename_i ds
      rw [h2] at p
      exact h _ _ (post_newc I p)
    · exact h.elim
  refine ⟨val, fun X c W e o h => bor_of (val X c W e o ?_), fun X c W e o h => ?_⟩
  · exact h
  · obtain ⟨h1, h2⟩ := ba h
    refine PT.imp (ha.tst X c W e o h1) fun σ H Q ⟨wd, env, S, I, h⟩ => ?_
    simp only [evalE] at h
    refine ⟨wd, env, S, I, h.seq fun x S1 e1 h => ?_⟩
    split at h
    · obtain ⟨b, eb, _⟩ := h
      cases eb
    · exact h.elim
theorem Sound.newr (es : List Ex) (hs : ∀ e' ∈ es, Sound G e') : Sound G (.newr es) := by
  refine .plain (fun c m e h => h) (fun c e h => ?_) fun X c W e o h => ?_
  · cases e <;> first | rfl | (cases h; done)
  · cases e with
    | List ts pos =>
      obtain ⟨h1, h2⟩ := ba h
      refine PE.imp (pe_lst (vals_of hs o h1 h2)) fun σ H Q ⟨wd, env, S, I, h⟩ => ?_
      simp only [evalE] at h
      refine ⟨wd, env, S, I, h.seq fun as S1 e1 h vs ρ1 H1 st I1 r1 => ?_⟩
      split at h
      · rename_i hz
        refine ⟨by rw [r1.length]; exact hz, fun p hp => h _ _ ?_⟩
        have e : Ext (fun _ => False) H1 (upd H1 p (.lst vs)) := .new hp
        have J := SR.more (wd := wd.up ρ1) (o := .lst vs) I1 hp trivial
        have np : p ∉ ρ1 := fun m => SR.ρsome (wd := wd.up ρ1) I1 m hp
        have K := SR.adopt (wd := wd.up ρ1) (c := .refs as) J (fun z => SR.notBad (wd := wd.up ρ1) I1 hp (.inl (.inl z))) np (I.noneHe (st.ext.none (fun _ => I.liveMut) hp)) (.refs upd_same (r1.ext (M := fun _ => False) (SR.badOk (wd := wd.up ρ1) I1) (fun _ z => z.elim) e (fun a z => ?_) (List.prefix_refl _))) (fun z => nomatch z)
        · refine ⟨ρ1 ++ [p], ⟨st.pre.trans (List.prefix_append _ _), K.nd, fun a m => ?_, st.ext.chain e fun a z => z.elim, fun n e => ?_⟩, K, .ref ?_, fun z => nomatch z⟩
          · rcases List.mem_append.mp m with z | z
            · exact st.new a z
            · have e : a = p := by simpa using z
              exact .inr (e ▸ st.ext.none (fun _ => I.liveMut) hp)
          · have e := st.dead n e
            rw [List.getElem?_append_left (List.getElem?_eq_some_iff.mp e).1]; exact e
          · have hl : ρ1.length = S1.length := I1.lenρ
            rw [← hl]; simp
        · rcases z with ((z | z) | z) | z
          · exact .inl (.inl (.inl z))
          · exact .inr (by rw [z]; exact hp)
          · exact .inl (.inl (.inr z))
          · exact .inl (.inr z)
      · exact h.elim
    | _ => cases h
end
end Tr


namespace Tr
open PySem L2
open PySem.Spec PyProof.Rows
section
variable {G : Gam} {X : Cx} {c : Ctx} {W : WX}
theorem Reps.rev {K : PySem.W.Frag} {Bad : Addr → Prop} {H : Hp} : ∀ {vs : List V} {ds : List PyData}, Reps K Bad H vs ds → Reps K Bad H vs.reverse ds.reverse
  | _, _, .nil => .nil
  | _, _, .cons h t => by
    rw [List.reverse_cons, List.reverse_cons]
    exact t.rev.append (.cons h .nil)
theorem Sound.rev (a : Ex) (ha : Sound G a) : Sound G (.rev a) := by
  refine .plain (fun c m e h => h) (fun c e h => ?_) fun X c W e o h => ?_
  · cases e <;> first | rfl | (cases h; done)
  · cases e with
    | Subscript v s pos =>
      cases s <;> first | (cases h; done) | skip
      rename_i l u st p2
      cases l <;> first | (cases h; done) | skip
      cases u <;> first | (cases h; done) | skip
      cases st <;> first | (cases h; done) | skip
      rename_i st
      cases st <;> first | (cases h; done) | skip
      rename_i op x p3
      cases op <;> first | (cases h; done) | skip
      cases x <;> first | (cases h; done) | skip
      rename_i k j p4
      cases k <;> first | (cases h; done) | skip
      rename_i n
      obtain ⟨h1, h2⟩ := ba h
      have e1 := de h1
      subst e1
      refine PE.imp (pe_revL (ha.bor X c W v o h2)) fun σ H Q ⟨wd, env, S, I, h⟩ => ?_
      simp only [evalE] at h
      refine ⟨wd, env, S, I, h.seq fun x S1 e1 h w H1 ⟨ρ1, st1, I1, r⟩ => ?_⟩
      split at h
      · rename_i d d1
        obtain ⟨z, ew, h⟩ := h.lift
        obtain ⟨g, e4, rfl⟩ := Option.map_eq_some_iff.mp ew
        rw [o.K]
        cases d <;> first | (cases e4; done) | skip
        rename_i ds
        cases e4
        obtain ⟨p, xs, rfl, hq, rs⟩ := (RepB.deref (wd := wd.up ρ1) I1 r d1).list
        exact ⟨p, xs, rfl, hq, fun q n0 => h _ _ (((OpPost.list (fr := true) I1.badOk n0 rs.rev).post I1).after I st1)⟩
      · exact h.elim
    | _ => cases h
theorem rg_reps {K : PySem.W.Frag} {Bad : Addr → Prop} {H : Hp} : ∀ (n : Nat) (a : Int), Reps K Bad H ((List.range n).map fun i => V.int (a + (i : Nat))) (rangeD a n)
  | 0, _ => .nil
  | n + 1, a => by
    rw [List.range_succ_eq_map, List.map_cons, List.map_map]
    refine .cons (by simpa using (.int a : Rep K Bad H (.int a) (.int a))) ?_
    have := rg_reps (K := K) (Bad := Bad) (H := H) n (a + 1)
    rwa [show ((fun i : Nat => V.int (a + (i : Nat))) ∘ Nat.succ) = fun i : Nat => V.int (a + 1 + (i : Nat)) from funext fun i => by
      show V.int (a + ((i + 1 : Nat) : Int)) = _
      congr 1
      omega]
theorem Sound.lrange (es : List Ex) (hs : ∀ e' ∈ es, Sound G e') : Sound G (.lrange es) := by
  refine .plain (fun c m e h => h) (fun c e h => ?_) fun X c W e o h => ?_
  · cases e <;> first | rfl | (cases h; done)
  · cases e with
    | Call fn args kws pos =>
      cases fn <;> first | (cases h; done) | skip
      rename_i x p
      rcases args with _ | ⟨t, _ | _⟩ <;> first | (cases h; done) | (simp [chkE] at h; done) | skip
      rcases kws with _ | _ <;> first | (cases h; done) | (simp [chkE] at h; done) | skip
      cases t <;> first | (cases h; done) | skip
      rename_i fn2 args2 kws2 pos2
      cases fn2 <;> first | (cases h; done) | skip
      rename_i y p2
      rcases args2 with _ | ⟨t, ts⟩ <;> first | (cases h; done) | skip
      rcases kws2 with _ | _ <;> first | (cases h; done) | skip
      obtain ⟨h0, h⟩ := ba h
      obtain ⟨h1, h⟩ := ba h
      obtain ⟨h2, h⟩ := ba h
      obtain ⟨h3, h⟩ := ba h
      obtain ⟨h4, h⟩ := ba h
      obtain ⟨h5, h⟩ := ba h
      obtain ⟨h6, h7⟩ := ba h
      have e1 := de h1
      have e2 := de h2
      subst e1 e2
      obtain ⟨g1, g2⟩ := o.gl h3
      obtain ⟨g3, g4⟩ := o.gl h4
      have fin : ∀ {wd : Wd} {σ : L2.St} {env : TEnv} {S S1 : Store} {H H1 : Hp} {Q : VK} {ρ1 : List Addr} {i j : Int}, SR G wd σ H env S → Step wd S H ρ1 S1 H1 → SR G (wd.up ρ1) σ H1 env S1 →
          (∀ v H', Post G wd σ env S H true (.val (.list (rangeD i (j - i).toNat))) S1 v H' → Q v H') → ∀ q, H1 q = none → Q (.ref q) (upd H1 q (.lst (rgV i j))) := fun {wd σ env S S1 H H1 Q ρ1 i j} I st I1 h q n0 =>
        h _ _ (((OpPost.list (fr := true) I1.badOk n0 (rg_reps _ _)).post I1).after I st)
      rcases es with _ | ⟨a, _ | ⟨b, _ | ⟨d, es⟩⟩⟩ <;> rcases ts with _ | ⟨t2, _ | ⟨t3, ts⟩⟩ <;> first | (cases h5; done) | (cases (ba h5).2; done) | (cases (ba (ba h5).2).2; done) | skip
      · have st : noStar t = true := by rw [List.all_cons] at h6; exact (ba h6).1
        refine PE.imp (pe_listRg (o.calm h0) g1 (o.free _ (by decide)) (prg_1 g3 (o.free _ (by decide)) ((hs a List.mem_cons_self).bor X c W t o (ba h5).1) (star1 st)) rfl) fun σ H Q ⟨wd, env, S, I, h⟩ => ?_
        simp only [evalE] at h
        have hA : evalEs G.C [a] env S = (evalE G.C a env S).bind fun x S => .ok [x] S := by
          rw [evalEs_cons]
          cases evalE G.C a env S with
          | ok a S1 => simp only [R.bind, evalEs]
          | exc k d S1 => rfl
          | err => rfl
        rw [hA] at h
        have h : Out G W wd σ env S H ((evalE G.C a env S).bind fun x S => match derefs S [x] with
          | some [.int j] => if j < 2 ^ 24 ∧ -(2 ^ 24) < j then .ok (.val (.list (rangeD 0 j.toNat))) S else .err
          | some [.int i, .int j] => if j < 2 ^ 23 ∧ -(2 ^ 23) < j ∧ i < 2 ^ 23 ∧ -(2 ^ 23) < i then .ok (.val (.list (rangeD i (j - i).toNat))) S else .err
          | _ => .err) fun z S' => ∀ v H', Post G wd σ env S H (freshE G.fr (.lrange [a])) z S' v H' → Q v H' := by
          cases ea : evalE G.C a env S with
          | ok x S1 => rw [ea] at h; exact h
          | exc k d S1 => rw [ea] at h; exact h
          | err => rw [ea] at h; exact h
        refine ⟨wd, env, S, I, h.seq fun x S1 e1 h v H1 ⟨ρ1, st, I1, r⟩ => ?_⟩
        split at h
        · rename_i j ej
          have ev : v = .int j := by
            cases derefs_rep (wd := wd.up ρ1) I1 (.cons r .nil) ej with
            | cons r _ => exact r.int
          split at h
          · rename_i hb
            refine ⟨j, ev, ⟨by omega, by omega, by omega, by omega, by omega⟩, fin (i := 0) I st I1 ?_⟩
            rw [Int.sub_zero]
            exact h
          · exact h.elim
        · rename_i i j ej
          cases derefs_rep (wd := wd.up ρ1) I1 (.cons r .nil) ej with
          | cons _ z => cases z
        · exact h.elim
      · rw [List.all_cons, List.all_cons] at h6
        have s1 := (ba h6).1
        have s2 := (ba (ba h6).2).1
        refine PE.imp (pe_listRg (o.calm h0) g1 (o.free _ (by decide)) (prg_2 g3 (o.free _ (by decide)) ((hs a List.mem_cons_self).bor X c W t o (ba h5).1) ((hs b (by simp)).bor X c W t2 o (ba (ba h5).2).1) (star1 s1) (star1 s2) (stars (by rw [List.all_cons, s2]; rfl))) rfl) fun σ H Q ⟨wd, env, S, I, h⟩ => ?_
        simp only [evalE] at h
        have h : Out G W wd σ env S H ((evalE G.C a env S).bind fun x S => (evalE G.C b env S).bind fun y S => match derefs S [x, y] with
          | some [.int j] => if j < 2 ^ 24 ∧ -(2 ^ 24) < j then .ok (.val (.list (rangeD 0 j.toNat))) S else .err
          | some [.int i, .int j] => if j < 2 ^ 23 ∧ -(2 ^ 23) < j ∧ i < 2 ^ 23 ∧ -(2 ^ 23) < i then .ok (.val (.list (rangeD i (j - i).toNat))) S else .err
          | _ => .err) fun a' S' => ∀ v H', Post G wd σ env S H (freshE G.fr (.lrange [a, b])) a' S' v H' → Q v H' := by
          rw [evalEs_cons] at h
          cases ea : evalE G.C a env S with
          | ok x S1 =>
            rw [ea] at h
            simp only [R.bind] at h ⊢
            rw [evalEs_cons] at h
            cases eb : evalE G.C b env S1 with
            | ok y S2 => rw [eb] at h; simp only [R.bind, evalEs] at h ⊢; exact h
            | exc k d S2 => rw [eb] at h; exact h
            | err => rw [eb] at h; exact h
          | exc k d S1 => rw [ea] at h; exact h
          | err => rw [ea] at h; exact h
        refine ⟨wd, env, S, I, h.seq fun x S1 e1 h v H1 ⟨ρ1, st, I1, r⟩ => ⟨wd.up ρ1, env, S1, I1, (h.at_ I st).seq fun y S2 e2 h u H2 ⟨ρ2, st2, I2, r2⟩ => ?_⟩⟩
        have rr := RepB.keep (wd := wd.up ρ1) I1 st2 r
        split at h
        · rename_i j ej
          cases derefs_rep (wd := wd.up ρ2) I2 (.cons rr (.cons r2 .nil)) ej with
          | cons _ z => cases z
        · rename_i i j ej
          have ev : v = .int i ∧ u = .int j := by
            cases derefs_rep (wd := wd.up ρ2) I2 (.cons rr (.cons r2 .nil)) ej with
            | cons r z =>
              cases z with
              | cons z _ => exact ⟨r.int, z.int⟩
          split at h
          · rename_i hb
            exact ⟨i, j, ev.1, ev.2, ⟨by omega, by omega, by omega, by omega, by omega⟩, fin I (I.trans st st2) I2 h⟩
          · exact h.elim
        · exact h.elim
      · have := de h7
        simp at this
    | _ => cases h
end
end Tr


namespace Tr
open PySem L2
open PySem.Spec PyProof.Rows

def setS (σ : L2.St) : List Nat → List V → L2.St
  | i :: is, v :: vs => setS (σ.set i (some v)) is vs
  | _, _ => σ
def wipeE (env : TEnv) : List Nat → TEnv
  | [] => env
  | v :: vs => (wipeE env vs).set v none
theorem setS_len : ∀ (is : List Nat) (vs : List V) (σ : L2.St), (setS σ is vs).length = σ.length
  | [], _, _ => rfl
  | _ :: _, [], _ => rfl
  | i :: is, v :: vs, σ => by
    show (setS (σ.set i (some v)) is vs).length = _
    rw [setS_len is vs, List.length_set]
theorem setE_len : ∀ (is : List Nat) (vs : List A) (σ : TEnv), (setE σ is vs).length = σ.length
  | [], _, _ => rfl
  | _ :: _, [], _ => rfl
  | i :: is, v :: vs, σ => by
    show (setE (σ.set i (some v)) is vs).length = _
    rw [setE_len is vs, List.length_set]
theorem setS_out : ∀ (is : List Nat) (vs : List V) (σ : L2.St) (j : Nat), j ∉ is → (setS σ is vs)[j]? = σ[j]?
  | [], _, _, _, _ => rfl
  | _ :: _, [], _, _, _ => rfl
  | i :: is, v :: vs, σ, j, h => by
    show (setS (σ.set i (some v)) is vs)[j]? = _
    rw [setS_out is vs _ j fun z => h (List.mem_cons_of_mem _ z), List.getElem?_set_ne fun (z : i = j) => h (z ▸ List.mem_cons_self)]
theorem setE_out : ∀ (is : List Nat) (vs : List A) (σ : TEnv) (j : Nat), j ∉ is → (setE σ is vs)[j]? = σ[j]?
  | [], _, _, _, _ => rfl
  | _ :: _, [], _, _, _ => rfl
  | i :: is, v :: vs, σ, j, h => by
    show (setE (σ.set i (some v)) is vs)[j]? = _
    rw [setE_out is vs _ j fun z => h (List.mem_cons_of_mem _ z), List.getElem?_set_ne fun (z : i = j) => h (z ▸ List.mem_cons_self)]
theorem setE_same : ∀ (is : List Nat) (ds : List A) (e1 e2 : TEnv), e1.length = e2.length → (∀ j, j ∉ is → e1[j]? = e2[j]?) → is.length = ds.length → setE e1 is ds = setE e2 is ds
  | [], [], e1, e2, _, h, _ => List.ext_getElem? fun j => h j (by simp)
  | [], _ :: _, _, _, _, _, h => by simp at h
  | _ :: _, [], _, _, _, _, h => by simp at h
  | i :: is, d :: ds, e1, e2, hl, h, hd => by
    refine setE_same is ds _ _ (by simp [hl]) (fun j hj => ?_) (by simpa using hd)
    by_cases e : i = j
    · subst e
      by_cases hi : i < e1.length
      · rw [List.getElem?_set_self hi, List.getElem?_set_self (by rw [← hl]; exact hi)]
      · rw [List.getElem?_eq_none (by simpa using hi), List.getElem?_eq_none (by simpa [← hl] using hi)]
    · rw [List.getElem?_set_ne e, List.getElem?_set_ne e]
      exact h j fun z => (List.mem_cons.mp z).elim (fun z => e z.symm) hj
theorem wipe_at : ∀ (is : List Nat) (σ : L2.St) (j : Nat), (wipe σ is)[j]? = if j ∈ is then (if j < σ.length then some none else none) else σ[j]?
  | [], σ, j => by simp [wipe]
  | i :: is, σ, j => by
    unfold wipe
    by_cases e : i = j
    · subst e
      rw [if_pos List.mem_cons_self]
      by_cases hi : i < σ.length
      · rw [if_pos hi, List.getElem?_set_self (by rw [wipe_length]; exact hi)]
      · rw [if_neg hi, List.getElem?_eq_none (by simpa [wipe_length] using hi)]
    · rw [List.getElem?_set_ne e, wipe_at is σ j]
      by_cases hj : j ∈ is
      · rw [if_pos hj, if_pos (List.mem_cons_of_mem _ hj)]
      · rw [if_neg hj, if_neg fun z => (List.mem_cons.mp z).elim (fun z => e z.symm) hj]
theorem wipe_same {is : List Nat} {σ τ : L2.St} (hl : σ.length = τ.length) (h : ∀ j, j ∉ is → σ[j]? = τ[j]?) : wipe σ is = wipe τ is := by
  refine List.ext_getElem? fun j => ?_
  rw [wipe_at, wipe_at, hl]
  split
  · rfl
  · rename_i hj
    exact h j hj
theorem wipeE_len : ∀ (is : List Nat) (σ : TEnv), (wipeE σ is).length = σ.length
  | [], _ => rfl
  | i :: is, σ => by
    show ((wipeE σ is).set i none).length = _
    rw [List.length_set, wipeE_len is σ]
theorem wipeE_at : ∀ (is : List Nat) (σ : TEnv) (j : Nat), (wipeE σ is)[j]? = if j ∈ is then (if j < σ.length then some none else none) else σ[j]?
  | [], σ, j => by simp [wipeE]
  | i :: is, σ, j => by
    unfold wipeE
    by_cases e : i = j
    · subst e
      rw [if_pos List.mem_cons_self]
      by_cases hi : i < σ.length
      · rw [if_pos hi, List.getElem?_set_self (by rw [wipeE_len]; exact hi)]
      · rw [if_neg hi, List.getElem?_eq_none (by simpa [wipeE_len] using hi)]
    · rw [List.getElem?_set_ne e, wipeE_at is σ j]
      by_cases hj : j ∈ is
      · rw [if_pos hj, if_pos (List.mem_cons_of_mem _ hj)]
      · rw [if_neg hj, if_neg fun z => (List.mem_cons.mp z).elim (fun z => e z.symm) hj]

theorem wipeE_out (is : List Nat) (σ : TEnv) (j : Nat) (h : j ∉ is) : (wipeE σ is)[j]? = σ[j]? := by rw [wipeE_at, if_neg h]
section
variable {G : Gam} {wd : Wd} {σ τ : L2.St} {H H1 : Hp} {env env' : TEnv} {S S1 : Store} {ρ1 : List Addr}
/-- within a block its names are others': what they had alone is of others -/
abbrev Wd.hide (wd : Wd) (σ : L2.St) (env : TEnv) (is : List Nat) : Wd := { wd with B0 := fun a => wd.B0 a ∨ ∃ i, i ∈ is ∧ OwnAt σ env i a }
theorem own_wipe {is : List Nat} {j : Nat} {p : Addr} : OwnAt (L2.wipe σ is) (wipeE env is) j p ↔ j ∉ is ∧ OwnAt σ env j p := by
  constructor
  · rintro ⟨⟨c, h1⟩, h2⟩
    rw [wipeE_at] at h1
    rw [wipe_at] at h2
    by_cases hj : j ∈ is
    · rw [if_pos hj] at h1
      split at h1 <;> cases h1
    · rw [if_neg hj] at h1 h2
      exact ⟨hj, ⟨c, h1⟩, h2⟩
  · rintro ⟨hj, ⟨c, h1⟩, h2⟩
    exact ⟨⟨c, by rw [wipeE_at, if_neg hj]; exact h1⟩, by rw [wipe_at, if_neg hj]; exact h2⟩
theorem bad_hide {is : List Nat} {a : Addr} : BadOf ((wd.hide σ env is).up ρ1) (L2.wipe σ is) (wipeE env is) S1 a ↔ BadOf (wd.up ρ1) σ env S1 a := by
  constructor
  · rintro (((z | ⟨i, hi, z⟩) | ⟨j, z⟩) | z)
    · exact .inl (.inl z)
    · exact .inl (.inr ⟨i, z⟩)
    · exact .inl (.inr ⟨j, (own_wipe.mp z).2⟩)
    · exact .inr z
  · rintro ((z | ⟨j, z⟩) | z)
    · exact .inl (.inl (.inl z))
    · by_cases hj : j ∈ is
      · exact .inl (.inl (.inr ⟨j, hj, z⟩))
      · exact .inl (.inr ⟨j, own_wipe.mpr ⟨hj, z⟩⟩)
    · exact .inr z
theorem SR.hide (I : SR G wd σ H env S) (is : List Nat) : SR G (wd.hide σ env is) (L2.wipe σ is) H (wipeE env is) S := by
  have hb : ∀ a, BadOf (wd.hide σ env is) (L2.wipe σ is) (wipeE env is) S a → BadOf wd σ env S a := fun a z => (bad_hide (ρ1 := wd.ρ)).mp z
  have oo : ∀ p, Own (L2.wipe σ is) (wipeE env is) p → Own σ env p := fun p ⟨j, z⟩ => ⟨j, (own_wipe.mp z).2⟩
  refine ⟨by rw [wipeE_len, wipe_length]; exact I.len, I.lenρ, fun i a h => ?_, fun n p c h1 h2 => (I.cel n p c h1 h2).anti I.badOk hb, I.nd, fun i j p h1 h2 => I.dist i j p (own_wipe.mp h1).2 (own_wipe.mp h2).2, fun p ⟨j, h⟩ z => ?_, fun p h => I.ownρ p (oo p h), fun p h z => ?_, fun p z => ?_, fun p h => I.ownM p (oo p h), I.ρM, I.mM, I.ext, I.cl, I.bsb, I.base⟩
  · rw [wipeE_at] at h
    by_cases hi : i ∈ is
    · rw [if_pos hi] at h
      split at h <;> cases h
    · rw [if_neg hi] at h
      obtain ⟨v, h1, h2⟩ := I.var i a h
      refine ⟨v, by rw [wipe_at, if_neg hi]; exact h1, ?_⟩
      cases h2 with
      | at_ h2 => exact .at_ (h2.anti I.badOk hb)
      | own e1 h3 h4 => exact .own e1 (h3.anti I.badOk hb) h4
      | exn e1 e2 h3 => exact .exn e1 e2 fun f ef => let ⟨dd, w, q1, q2, q3⟩ := h3 f ef; ⟨dd, w, q1, q2, q3.anti I.badOk hb⟩
  · obtain ⟨hj, h⟩ := own_wipe.mp h
    rcases z with z | ⟨i, hi, z⟩
    · exact I.ownB p ⟨j, h⟩ z
    · exact hj (I.dist i j p z h ▸ hi)
  · rcases z with z | ⟨i, hi, z⟩
    · exact I.liveB p h z
    · exact I.ownLive ⟨i, z⟩ h
  · rcases z with z | ⟨i, hi, z⟩
    · exact I.b0 p z
    · exact I.badOk p (.inl (.inr ⟨i, z⟩))
theorem atom_own {K : PySem.W.Frag} {Bad : Addr → Prop} {ρ : List Addr} {v : V} {a : A} (h : RepA K Bad H ρ v a) (c : Cell) : a ≠ .own c := by cases h <;> exact fun z => nomatch z
/-- names take values -/
theorem SR.bind : ∀ {is : List Nat} {vs : List V} {as : List A} {σ : L2.St} {env : TEnv}, SR G wd σ H env S → RepAs G.K (BadOf wd σ env S) H wd.ρ vs as → SR G wd (setS σ is vs) H (setE env is as) S
  | [], _, _, _, _, I, _ => I
  | _ :: _, _, _, _, _, I, .nil => I
  | i :: is, _, _, σ, env, I, .cons (v := v) (a := a) h t => by
    have I1 := I.setV (i := i) (.at_ h) (atom_own h)
    refine SR.bind (is := is) I1 (t.anti I.badOk fun q z => ?_)
    refine z.imp (fun z => z.imp id fun ⟨j, z⟩ => ?_) id
    rcases z.names with z | ⟨_, _, c, z⟩
    · exact ⟨j, z.2⟩
    · exact absurd z (atom_own h c)
/-- .. none of which had something alone: all else is as it was -/
theorem own_bind {K : PySem.W.Frag} {Bad : Addr → Prop} {ρ : List Addr} : ∀ {is : List Nat} {vs : List V} {as : List A} {σ : L2.St} {env : TEnv}, RepAs K Bad H ρ vs as → (∀ i ∈ is, ∀ c, env[i]? ≠ some (some (.own c))) → ∀ j p, OwnAt σ env j p → OwnAt (setS σ is vs) (setE env is as) j p
  | [], _, _, _, _, _, _, _, _, z => z
  | _ :: _, _, _, _, _, .nil, _, _, _, z => z
  | i :: is, _, _, σ, env, .cons (v := v) (a := a) h t, hn, j, p, ⟨⟨c, h1⟩, h2⟩ => by
    have ne : i ≠ j := fun e => hn i List.mem_cons_self c (e ▸ h1)
    refine own_bind (is := is) t (fun k hk d e => ?_) j p ⟨⟨c, by rw [List.getElem?_set_ne ne]; exact h1⟩, by rw [List.getElem?_set_ne ne]; exact h2⟩
    by_cases ek : i = k
    · subst ek
      by_cases hi : i < env.length
      · rw [List.getElem?_set_self hi] at e
        cases e
        exact atom_own h d rfl
      · rw [List.getElem?_eq_none (by simpa using hi)] at e; cases e
    · rw [List.getElem?_set_ne ek] at e
      exact hn k (List.mem_cons_of_mem _ hk) d e
/-- an object of others that stood not at the start is changed -/
theorem SR.poke (I : SR G wd σ H env S) {p : Addr} {o : HO} (ho : Mut (some o)) (hb : wd.B0 p) (he : wd.He p = none) : SR G wd σ (upd H p o) env S := by
  have e : Ext (fun a => a = p) H (upd H p o) := .put rfl ho
  have hM : ∀ a, a = p → BadOf wd σ env S a ∨ H a = none := fun a z => .inl (z ▸ .inl (.inl hb))
  have hbb : ∀ a, BadOf wd σ env S a → BadOf wd σ env S a ∨ H a = none := fun a z => .inl z
  refine ⟨I.len, I.lenρ, fun i a q => ?_, fun n q c h1 h2 => ?_, I.nd, I.dist, I.ownB, I.ownρ, I.liveB, fun q h => e.muts q (I.b0 q h), I.ownM, I.ρM, I.mM, I.ext.chain e fun a z => .inr (z ▸ he), I.cl, I.bsb, I.base⟩
  · obtain ⟨v, h1, h2⟩ := I.var i a q
    refine ⟨v, h1, ?_⟩
    cases h2 with
    | at_ h2 => exact .at_ (h2.ext I.badOk hM e hbb (List.prefix_refl _))
    | own e1 h3 h4 => exact .own e1 (h3.ext I.badOk hM e hbb (List.prefix_refl _) fun z => I.ownB p ⟨i, ⟨_, q⟩, by rw [← z, ← e1]; exact h1⟩ hb) h4
    | exn e1 e2 h3 =>
      refine .exn e1 e2 fun f ef => ?_
      obtain ⟨dd, w, q1, q2, q3⟩ := h3 f ef
      refine ⟨dd, w, q1, e.keep _ _ q2 fun z => ?_, q3.ext I.badOk hM e hbb⟩
      have := I.b0 p hb
      rw [← z, q2] at this
      exact this
  · by_cases hc : c = .dead
    · subst hc
      have := (I.cel n q _ h1 h2).thr
      refine .dead fun z => this ?_
      by_cases eq : q = p
      · subst eq; rw [upd_same] at z; cases z
      · rw [upd_ne eq] at z; exact z
    · exact (I.cel n q c h1 h2).ext I.badOk hM e hbb (List.prefix_refl _) fun z => I.liveB q ⟨n, c, h1, h2, hc⟩ (z ▸ hb)
end

section
variable {X : Cx} {G : Gam} {c : Ctx} {W : WX}
theorem PG.or {tg : Expr} {g g' : TG} (h : PG X tg g) (h' : PG X tg g') : PG X tg (fun v σ H Q => g v σ H Q ∨ g' v σ H Q) :=
  ⟨fun pins s σ H v u Q I r q => q.elim (h.run pins s σ H v u Q I r) (h'.run pins s σ H v u Q I r)⟩
theorem tg1 (o : XOk X G c W) {i : Nat} {x : Str} {pos : Pos} (h : tgB c i x = true) : PG X (.Name x pos) (gName i) := by
  obtain ⟨h1, h3⟩ := ba h
  have nd : X.N.Nodup := by rw [o.N]; exact o.nd
  have hi : X.N[i]? = some x := by rw [o.N]; exact de h1
  split at h3
  · rename_i e
    exact pg_name nd hi (.inl (by rw [o.sc]; exact e)) (.inr (by rw [o.sc]; exact e))
  · rename_i e
    exact pg_name nd hi (.inr (by rw [o.sc]; exact e)) (.inl (o.fn x h3))
  · cases h3
def gAll : List Nat → TGs
  | [] => gNil
  | i :: is => gCons (gName i) (gAll is)
theorem tgs_ok (o : XOk X G c W) : ∀ {is : List Nat} {es : List Expr}, tgsB c is es = true → PGs X es (gAll is) ∧ (assignEach es X.env).length = is.length ∧ (assignEach es X.env).findIdx? (·.1) = none
  | [], [], _ => ⟨pgs_nil, rfl, rfl⟩
  | [], _ :: _, h => by cases h
  | _ :: _, [], h => by cases h
  | i :: is, e :: es, h => by
    cases e <;> first | (cases h; done) | skip
    rename_i x pos
    obtain ⟨h1, h2⟩ := ba h
    have q1 := tg1 (pos := pos) o h1
    obtain ⟨r1, r3, r4⟩ := tgs_ok o h2
    refine ⟨pgs_cons q1 r1 rfl, ?_, ?_⟩
    · show (assignEach es X.env).length + 1 = _
      rw [r3]; rfl
    · show ((false, _) :: assignEach es X.env).findIdx? (·.1) = none
      rw [List.findIdx?_cons, r4]
      rfl
theorem gAll_ok {Q : L2.St → Hp → Prop} {H : Hp} : ∀ {is : List Nat} {vs : List V} {σ : L2.St}, is.length = vs.length → Q (setS σ is vs) H → gAll is vs σ H Q
  | [], [], _, _, q => ⟨rfl, q⟩
  | [], _ :: _, _, h, _ => by simp at h
  | _ :: _, [], _, h, _ => by simp at h
  | i :: is, v :: vs, σ, h, q => ⟨v, vs, rfl, gAll_ok (by simpa using h) q⟩
/-- the parts that the names of a target take -/
def takes (is : List Nat) (a : A) (as : List A) : Prop := match is with
  | [_] => as = [a]
  | _ => partsA a = some as ∧ is.length = as.length
/-- what a target asks: values for its names -/
def gT (K : PySem.W.Frag) (k : Bool) (is : List Nat) : TG := fun v σ H Q => ∃ Bad ρ a as, RepI K Bad H ρ v a ∧ (k = false → RepA K Bad H ρ v a) ∧ takes is a as ∧ ∀ vs, RepAs K Bad H ρ vs as → Q (setS σ is vs) H
theorem valsOf_map {as : List A} {ds : List PyData} (h : valsOf as = some ds) : as = ds.map .val := by
  induction as generalizing ds with
  | nil => cases h; rfl
  | cons a r ih =>
    cases a with
    | val d =>
      have h : (valsOf r).map (d :: ·) = some ds := h
      obtain ⟨es, e1, rfl⟩ := Option.map_eq_some_iff.mp h
      rw [ih e1]; rfl
    | _ => cases h
theorem parts_mkTup {as : List A} : partsA (mkTup as) = some as := by
  unfold mkTup
  split
  · rename_i ds e
    rw [valsOf_map e]; rfl
  · rfl
theorem pg_ok (o : XOk X G c W) {is : List Nat} {tg : Expr} (hc : isTuple tg = true → X.calm = true) (h : tgtB c is tg = true) : PG X tg (gT G.K (isTuple tg) is) := by
  match is, tg, h with
  | [i], .Name x pos, h =>
    have q1 := tg1 (pos := pos) o h
    refine ⟨fun pins s σ H v u Q I r ⟨Bad, ρ, a, as, _, q, t, w⟩ => q1.run pins s σ H v u Q I r (w [v] ?_)⟩
    have t : as = [a] := t
    rw [t]
    exact .cons (q rfl) .nil
  | i :: j :: r, .Tuple es k pos, h =>
    obtain ⟨h1, _⟩ := ba h
    obtain ⟨q1, q3, q4⟩ := tgs_ok o h1
    have pg := PG.or (pg_tup (k := k) (pos := pos) (hc rfl) q1 q3 q4) (pg_unl (k := k) (pos := pos) (hc rfl) q1 q3 q4)
    refine ⟨fun pins s σ H v u Q I rv ⟨Bad, ρ, a, as, q, _, ⟨e, hl⟩, w⟩ => pg.run pins s σ H v u Q I rv ?_⟩
    rw [o.K]
    cases q with
    | of q =>
      cases q with
      | val q =>
        cases q with
        | tup g1 g2 =>
          cases e
          rw [List.length_map] at hl
          exact .inl ⟨_, _, rfl, g1.sq, by rw [g2.length, ← hl], gAll_ok (by rw [g2.length, ← hl]) (w _ g2.as)⟩
        | lst g1 g2 =>
          cases e
          rw [List.length_map] at hl
          exact .inr ⟨_, _, rfl, g1.sq, by rw [g2.length, ← hl], gAll_ok (by rw [g2.length, ← hl]) (w _ g2.as)⟩
        | _ => cases e
      | ref _ => cases e
      | tup g1 g2 =>
        cases e
        exact .inl ⟨_, _, rfl, g1.sq, by rw [g2.length, ← hl], gAll_ok (by rw [g2.length, ← hl]) (w _ g2)⟩
    | tup e1 g1 _ g2 =>
      rw [parts_mkTup] at e
      cases e
      exact .inl ⟨_, _, e1, g1, by rw [g2.length, ← hl], gAll_ok (by rw [g2.length, ← hl]) (w _ g2)⟩
end
theorem if_some {α : Type} {p : Prop} [Decidable p] {x y : α} (h : (if p then some x else none) = some y) : p ∧ y = x := by
  split at h
  · cases h; exact ⟨by assumption, rfl⟩
  · cases h
theorem bindT_takes {is : List Nat} {a : A} {env env' : TEnv} (h : bindT is a env = some env') : ∃ as, takes is a as ∧ is.length = as.length ∧ env' = setE env is as := by
  match is, h with
  | [i], h =>
    obtain ⟨_, rfl⟩ := if_some h
    exact ⟨[a], rfl, rfl, rfl⟩
  | [], h =>
    have h : (match partsA a with
      | some as => if ([] : List Nat).length = as.length then some (setE env [] as) else none
      | none => none) = some env' := h
    split at h
    · rename_i as e
      obtain ⟨h1, rfl⟩ := if_some h
      exact ⟨as, ⟨e, h1⟩, h1, rfl⟩
    · cases h
  | i :: j :: r, h =>
    have h : (match partsA a with
      | some as => if (i :: j :: r).length = as.length then some (setE env (i :: j :: r) as) else none
      | none => none) = some env' := h
    split at h
    · rename_i as e
      obtain ⟨h1, rfl⟩ := if_some h
      exact ⟨as, ⟨e, h1⟩, h1, rfl⟩
    · cases h
end Tr


namespace Tr
open PySem L2
open PySem.Spec PyProof.Rows

/-- no exception is wished for -/
abbrev W0 : WX := fun _ _ _ _ => False
section
variable {X : Cx} {G : Gam} {c : Ctx} {W : WX}
/-- a clause's tests -/
def tCl (G : Gam) : Option Ex → TT
  | none => tYes
  | some a => tT G W0 a
theorem pts_ok (o : XOk X G c W0) {cd : Option Ex} {ifs : List Expr} (hc : ∀ a, cd = some a → Sound G a) (h : chkC c cd ifs = true) : PTs X ifs (tCl G cd) := by
  match cd, ifs, h with
  | none, [], _ => exact pts_nil
  | some a, [e], h => exact pts_one ((hc a rfl).tst X c W0 e o h)
theorem tCl_red {cd : Option Ex} {wd : Wd} {σ : L2.St} {H : Hp} {env : TEnv} {S S' : Store} {k : Bool} {Q : Bool → Hp → Prop} (I : SR G wd σ H env S) (e : evalC G.C cd env S = .ok k S')
    (q : ∀ H', PostN G wd σ env S H S' H' → Q k H') : tCl G cd σ H Q := by
  cases cd with
  | none =>
    simp only [evalC] at e
    cases e
    exact q H (.refl I)
  | some a =>
    simp only [evalC] at e
    refine ⟨wd, env, S, I, ?_⟩
    cases ea : evalE G.C a env S with
    | ok x S1 =>
      rw [ea] at e
      have e : R.lift (asBool x) S1 = .ok k S' := e
      cases eb : asBool x with
      | none => rw [eb] at e; cases e
      | some b =>
        rw [eb] at e
        have e : R.ok b S1 = .ok k S' := e
        cases e
        exact ⟨_, asBool_some eb, q⟩
    | exc k d S1 => rw [ea] at e; cases e
    | err => rw [ea] at e; cases e
theorem takesW0 {X : Cx} : Takes X W0 := fun _ _ ⟨_, _, _, _, _, _, _, _, _, _, _, _, _, _, _, _, w⟩ => w.elim
theorem XOk.blk (o : XOk X G c W) {s : Shared} {H : Hp} {scope : Scope} {C : Addr} {cl : List (Str × Addr)} {fp : List Addr} : XOk (X.blk s H scope (compEnvC scope cl C X.env) fp) G (ctxIn c scope) W0 :=
  ⟨o.N, o.nd, by show relS scope X.env.scope = relS scope c.sc; rw [o.sc], fun x h => h, o.calm, o.K, o.un, o.room, o.gu, o.fns, o.cons, o.free, o.fr, takesW0, PassesOwn.never⟩
theorem fold_no {i : Expr} (h : noSet i = true) {env : Env} (x : Value) : foldedSetIterable i env x = pure x := by
  cases i <;> first | rfl | (cases h; done)

/-- a turn's f -/
noncomputable def compF (C : Calls) (tg : List Nat) (cd : Option Ex) (el : Ex) (env : TEnv) : A → Store → R (Option A) := fun a S => match bindT tg a env with
  | some env' => (evalC C cd env' S).bind fun k S => if k = true then (evalE C el env' S).bind fun y S => .ok (some y) S
    else .ok none S
  | none => .err
theorem R.bind_ok {α β : Type} {r : R α} {f : α → Store → R β} {b : β} {S' : Store} (h : r.bind f = .ok b S') : ∃ a S, r = .ok a S ∧ f a S = .ok b S' := by
  cases r with
  | ok a S => exact ⟨a, S, rfl, h⟩
  | exc k d S => cases h
  | err => cases h
theorem compF_ok {C : Calls} {tg : List Nat} {cd : Option Ex} {el : Ex} {env : TEnv} {d : A} {S S' : Store} {r : Option A} (h : compF C tg cd el env d S = .ok r S') :
    ∃ ds k S1, takes tg d ds ∧ tg.length = ds.length ∧ evalC C cd (setE env tg ds) S = .ok k S1 ∧ ((k = true ∧ ∃ y, r = some y ∧ evalE C el (setE env tg ds) S1 = .ok y S') ∨ (k = false ∧ r = none ∧ S' = S1)) := by
  unfold compF at h
  split at h
  · rename_i env' e
    obtain ⟨ds, h1, hl, rfl⟩ := bindT_takes e
    obtain ⟨k, S1, h2, h3⟩ := R.bind_ok h
    refine ⟨ds, k, S1, h1, hl, h2, ?_⟩
    cases k with
    | true =>
      rw [if_pos rfl] at h3
      obtain ⟨y, S2, h4, h5⟩ := R.bind_ok h3
      cases h5
      exact .inl ⟨rfl, y, rfl, h4⟩
    | false =>
      rw [if_neg (by simp)] at h3
      cases h3
      exact .inr ⟨rfl, rfl, rfl⟩
  · cases h
theorem ownOf_snd {is : List Nat} : (ownOf c is).map (·.2) = is := by
  unfold ownOf
  rw [List.map_map]
  exact List.map_id _
/-- without the object at D -/
def del (H : Hp) (D : Addr) : Hp := fun a => if a = D then none else H a
theorem del_ne {H : Hp} {D a : Addr} (h : a ≠ D) : del H D a = H a := if_neg h
theorem del_same {H : Hp} {D : Addr} : del H D D = none := if_pos rfl
theorem del_some {H : Hp} {D a : Addr} {o : HO} (h : del H D a = some o) : a ≠ D ∧ H a = some o := by
  by_cases e : a = D
  · subst e; rw [del_same] at h; cases h
  · rw [del_ne e] at h; exact ⟨e, h⟩
theorem del_mut {H : Hp} {D a : Addr} (h : Mut (del H D a)) : a ≠ D ∧ Mut (H a) := by
  by_cases e : a = D
  · subst e; rw [del_same] at h; exact h.elim
  · rw [del_ne e] at h; exact ⟨e, h⟩
theorem Step.del {wd : Wd} {S S' : Store} {H H' : Hp} {ρ' : List Addr} {D : Addr} (st : Step wd S H ρ' S' H') : Step wd S (Tr.del H D) ρ' S' (Tr.del H' D) := by
  refine ⟨st.pre, st.nd, fun a m => (st.new a m).imp id fun z => ?_, ⟨fun a o e n => ?_, fun a e => ?_⟩, st.dead⟩
  · by_cases e : a = D
    · subst e; exact del_same
    · rw [del_ne e]; exact z
  · obtain ⟨ne, e⟩ := del_some e
    rw [del_ne ne]; exact st.ext.keep _ _ e n
  · obtain ⟨ne, e⟩ := del_mut e
    rw [del_ne ne]; exact st.ext.muts _ e
theorem Step.undel {wd : Wd} {S S' : Store} {H H' : Hp} {ρ' : List Addr} {D : Addr} (h : H D = none) (st : Step wd S H ρ' S' (Tr.del H' D)) : Step wd S H ρ' S' H' := by
  refine ⟨st.pre, st.nd, st.new, ⟨fun a o e n => (del_some (st.ext.keep a o e n)).2, fun a e => (del_mut (st.ext.muts a e)).2⟩, st.dead⟩
theorem New.un {H H' : Hp} (h : New H H') : Ext (fun _ => False) H H' := h.ext

theorem lc_red {tg : List Nat} {it : Wk} {cd : Option Ex} {el : Ex} {k : Bool} {F : List A → Store → R A} {P : A → Store → Prop} {σ : L2.St} {H : Hp} {Q : VK} {wd : Wd} {env : TEnv} {S : Store} (I : SR G wd σ H env S)
    (h : Out G W wd σ env S H ((evalW G.C it env S).bind fun w S => if w.1.length ≤ sizeLine then (collect w.2 (compF G.C tg cd el env) w.1 S).noX.bind F else .err) P)
    (q : ∀ ρ2 S2 H2 ys D acc, Step wd S H ρ2 S2 H2 → SR G ((wd.up ρ2).plus D) σ H2 env S2 → H D = none → D ∉ ρ2 → ¬ wd.B0 D → H2 D = some (.lst acc) → RepAs G.K (BadOf ((wd.up ρ2).plus D) σ env S2) H2 ρ2 acc ys →
      Out G W wd σ env S H (F ys S2) P → Q (.ref D) H2) : tLc (tI G W k true it) (gT G.K k tg) (tCl G cd) (tE G W0 el) tg σ H Q := by
  refine ⟨wd, env, S, I, h.seq fun w S1 e1 h J ρ1 H1 st1 I1 wl D hD => ?_⟩
  obtain ⟨as, g⟩ := w
  by_cases hlen : as.length ≤ sizeLine
  rotate_left
  · rw [if_neg hlen] at h
    exact h.elim
  rw [if_pos hlen] at h
  obtain ⟨ys, S', ec, h⟩ : ∃ ys S', collect g (compF G.C tg cd el env) as S1 = .ok ys S' ∧ Out G W wd σ env S H (F ys S') P := by
    cases ec : collect g (compF G.C tg cd el env) as S1 with
    | ok ys S' => rw [ec] at h; exact ⟨ys, S', rfl, h⟩
    | exc k d S' => rw [ec] at h; exact h.elim
    | err => rw [ec] at h; exact h.elim
  obtain ⟨Gd, Y, wk, hG, hY⟩ := wl
  have wl' : Walk J as.length Gd Y := wk
  have hH : H D = none := st1.ext.none (fun _ => I.liveMut) hD
  have nB : ¬ wd.B0 D := fun z => I.notBad hH (.inl (.inl z))
  have hHe : wd.He D = none := I.noneHe hH
  have I2 : SR G ((wd.up ρ1).plus D) σ (upd H1 D (.lst [])) env S1 := I1.more hD trivial
  have dl : del (upd H1 D (.lst [])) D = H1 := by
    funext a
    by_cases e : a = D
    · subst e; rw [del_same, hD]
    · rw [del_ne e, upd_ne e]
  have later : ∀ {H2 ρj Sj}, SR G ((wd.up ρj).plus D) σ H2 env Sj → Step (wd.up ρ1) S1 H1 ρj Sj (del H2 D) → (∀ p ∈ g, Sj[p.1]? = some p.2) → Later G true g (fun a => Live ρ1 S1 a ∨ a = D) (wd.up ρ1) σ env S1 H1 ((wd.up ρj).plus D) σ env Sj H2 := fun {H2 ρj Sj} Ij st hg => by
    refine ⟨Ij, st.pre, ⟨fun a o e n => (del_some (st.ext.keep a o e fun z => n (.inl z))).2, fun a e => (del_mut (st.ext.muts a e)).2⟩, fun a z => z.elim (fun z => .inl (.inl z)) fun z => .inr (by rw [z]; exact hD), fun a z => ?_, hg⟩
    rcases z with ((z | z) | z) | z
    · exact .inl (.inl (.inl z))
    · exact .inr (by rw [z]; exact hD)
    · exact .inl (.inl (.inr z))
    · exact (st.live I1.lenρ z).imp .inr id
  have guard : ∀ {d r Sj rest}, collect g (compF G.C tg cd el env) (d :: r) Sj = .ok rest S' → (∀ p ∈ g, Sj[p.1]? = some p.2) ∧ ∃ o S3 rest', compF G.C tg cd el env d Sj = .ok o S3 ∧ collect g (compF G.C tg cd el env) r S3 = .ok rest' S' ∧ rest = (match o with
      | some y => y :: rest'
      | none => rest') := fun {d r Sj rest} e => by
    rw [collect] at e
    split at e
    · rename_i hg
      obtain ⟨o, S3, f1, f2⟩ := R.bind_ok e
      obtain ⟨rest', S4, f3, f4⟩ := R.bind_ok f2
      cases f4
      exact ⟨hg, o, S3, rest', f1, f3, rfl⟩
    · cases e
  have nil : ∀ {Sj rest}, collect g (compF G.C tg cd el env) [] Sj = .ok rest S' → (∀ p ∈ g, Sj[p.1]? = some p.2) ∧ rest = [] ∧ Sj = S' := fun {Sj rest} e => by
    rw [collect] at e
    split at e
    · rename_i hg
      cases e
      exact ⟨hg, rfl, rfl⟩
    · cases e
  have grd : ∀ {j Sj rest}, collect g (compF G.C tg cd el env) (as.drop j) Sj = .ok rest S' → ∀ p ∈ g, Sj[p.1]? = some p.2 := fun {j Sj rest} e => by
    cases ed : as.drop j with
    | nil => rw [ed] at e; exact (nil e).1
    | cons d r => rw [ed] at e; exact (guard e).1
  refine lc_it wl' (fun j H2 => ∃ ρj Sj acc zs rest, SR G ((wd.up ρj).plus D) σ H2 env Sj ∧ Step (wd.up ρ1) S1 H1 ρj Sj (del H2 D) ∧ D ∉ ρj ∧ H2 D = some (.lst acc) ∧ RepAs G.K (BadOf ((wd.up ρj).plus D) σ env Sj) H2 ρj acc zs ∧ zs.length ≤ j ∧
    collect g (compF G.C tg cd el env) (as.drop j) Sj = .ok rest S' ∧ zs ++ rest = ys)
    ⟨ρ1, S1, [], [], ys, I2, by rw [dl]; exact I1.refl, fun m => I1.ρsome m hD, upd_same, .nil, Nat.le_refl _, ec, rfl⟩ (fun j H2 _ ⟨ρj, Sj, acc, zs, rest, p1, p2, p3, p4, p5, p6, p7, p8⟩ => hG _ _ _ _ _ _ (later p1 p2 (grd p7))) (fun j v H2 H3 hj ⟨ρj, Sj, acc, zs, rest, p1, p2, p3, p4, p5, p6, p7, p8⟩ y => ?_) fun H2 ⟨ρj, Sj, acc, zs, rest, p1, p2, p3, p4, p5, p6, p7, p8⟩ => ?_
  · obtain ⟨nw, d, y1, y2, y3⟩ := hY _ _ _ _ _ H2 j v H3 (later p1 p2 (grd p7)) hj y
    have st3 : Step ((wd.up ρj).plus D) Sj H2 ρj Sj H3 := .of_new p1.nd nw.un
    have I3 : SR G ((wd.up ρj).plus D) σ H3 env Sj := p1.news nw.un
    have hdr : as.drop j = d :: as.drop (j + 1) := by
      obtain ⟨hj', e⟩ := List.getElem?_eq_some_iff.mp y1
      rw [List.drop_eq_getElem_cons hj', e]
    rw [hdr] at p7
    obtain ⟨_, r, S3, rest', f1, f3, f4⟩ := guard p7
    obtain ⟨dsx, kk, S5, g1, gl, g2, g3⟩ := compF_ok f1
    refine ⟨_, ρj, d, dsx, y2, y3, g1, fun vs hvs => ⟨?_, ?_⟩⟩
    · refine wipe_same (by rw [setS_len, wipe_length]) fun j hj => ?_
      rw [setS_out _ _ _ _ hj, wipe_at, if_neg hj]
    have eq : setE (wipeE env tg) tg dsx = setE env tg dsx := setE_same _ _ _ _ (wipeE_len _ _) (fun j hj => wipeE_out tg env j hj) gl
    -- the block's state
    have noOwn : ∀ i ∈ tg, ∀ c, (wipeE env tg)[i]? ≠ some (some (.own c)) := fun i hi c z => by
      rw [wipeE_at, if_pos hi] at z
      split at z <;> cases z
    have bh : ∀ {ρx Sx a}, BadOf ((((wd.up ρj).plus D).hide σ env tg).up ρx) (L2.wipe σ tg) (wipeE env tg) Sx a ↔ BadOf (((wd.up ρj).plus D).up ρx) σ env Sx a := fun {ρx Sx a} => bad_hide
    have hvs' : RepAs G.K (BadOf (((wd.up ρj).plus D).hide σ env tg) (L2.wipe σ tg) (wipeE env tg) Sj) H3 ρj vs dsx := hvs.anti I3.badOk fun a z => (bh (ρx := ρj)).mp z
    have I4 : SR G (((wd.up ρj).plus D).hide σ env tg) (setS (L2.wipe σ tg) tg vs) H3 (setE env tg dsx) Sj := by
      rw [← eq]
      exact (I3.hide tg).bind hvs'
    -- back to the names of the def
    have back : ∀ {ρx Sx a}, BadOf (((wd.up ρj).plus D).up ρx) σ env Sx a → BadOf ((((wd.up ρj).plus D).hide σ env tg).up ρx) (setS (L2.wipe σ tg) tg vs) (setE env tg dsx) Sx a := fun {ρx Sx a} z => by
      rw [← eq]
      exact (bh.mpr z).imp (fun z => z.imp id fun ⟨i, z⟩ => ⟨i, own_bind hvs noOwn i a z⟩) id
    have out : ∀ {ρx Sx Hx}, Step (((wd.up ρj).plus D).hide σ env tg) Sj H3 ρx Sx Hx → SR G ((((wd.up ρj).plus D).hide σ env tg).up ρx) (setS (L2.wipe σ tg) tg vs) Hx (setE env tg dsx) Sx →
        SR G ((wd.up ρx).plus D) σ Hx env Sx ∧ Step (wd.up ρ1) S1 H1 ρx Sx (del Hx D) ∧ D ∉ ρx ∧ Hx D = some (.lst acc) ∧ RepAs G.K (BadOf ((wd.up ρx).plus D) σ env Sx) Hx ρx acc zs := fun {ρx Sx Hx} st J => by
      have st' : Step ((wd.up ρj).plus D) Sj H3 ρx Sx Hx := ⟨st.pre, st.nd, st.new, st.ext, st.dead⟩
      have J' : SR G ((wd.up ρx).plus D) σ Hx env Sx := I3.step st' J.lenρ (fun n p cc h1 h2 => (J.cel n p cc h1 h2).anti J.badOk fun a z => back z) J.cl
      have st23 := p1.trans st3 st'
      have nl : ¬ Live ρj Sj D := fun z => p3 z.mem
      refine ⟨J', I1.trans p2 (Step.del (D := D) (wd := wd.up ρj) ⟨st23.pre, st23.nd, st23.new, st23.ext, st23.dead⟩), fun m => ?_, st23.ext.keep _ _ p4 nl, ?_⟩
      · rcases st23.new D m with z | z
        · exact p3 z
        · rw [p4] at z; cases z
      · exact p5.ext p1.badOk p1.hM st23.ext (p1.hb st23) st23.pre
    refine tCl_red I4 g2 fun H4 ⟨ρ4, st4, I5⟩ => ?_
    rcases g3 with ⟨rfl, y, rfl, g4⟩ | ⟨rfl, rfl, rfl⟩
    · rw [if_pos rfl]
      refine ⟨_, _, S5, I5, ?_⟩
      rw [g4]
      refine fun v' H5 ⟨ρ5, st5, I6, rv, _⟩ => ?_
      obtain ⟨J, stx, q1, q2, q3⟩ := out (I4.trans st4 st5) I6
      have rv' : RepA G.K (BadOf ((wd.up ρ5).plus D) σ env S3) H5 ρ5 v' y := rv.anti I6.badOk fun a z => back z
      have ep : Ext (fun a => a = D) H5 (upd H5 D (.lst (acc ++ [v']))) := .put rfl trivial
      have bD : BadOf ((wd.up ρ5).plus D) σ env S3 D := .inl (.inl (.inr rfl))
      refine ⟨acc, q2, ?_, ρ5, S3, acc ++ [v'], zs ++ [y], rest', J.poke trivial (.inr rfl) hHe, ?_, q1, upd_same, ?_, ?_, f3, ?_⟩
      · have := q3.length
        omega
      · have : del (upd H5 D (.lst (acc ++ [v']))) D = del H5 D := by
          funext a
          by_cases e : a = D
          · subst e; rw [del_same, del_same]
          · rw [del_ne e, del_ne e, upd_ne e]
        rw [this]; exact stx
      · exact (q3.append (.cons rv' .nil)).ext (M := fun a => a = D) J.badOk (fun a (z : a = D) => .inl (by rw [z]; exact bD)) ep (fun a z => .inl z) (List.prefix_refl _)
      · simp; omega
      · rw [← p8, f4]; simp
    · rw [if_neg (by simp)]
      obtain ⟨J, stx, q1, q2, q3⟩ := out st4 I5
      exact ⟨ρ4, S3, acc, zs, rest', J, stx, q1, q2, q3, by omega, f3, by rw [← p8, f4]⟩
  · have ed : as.drop (as, g).1.length = [] := List.drop_length
    rw [ed] at p7
    obtain ⟨_, rfl, rfl⟩ := nil p7
    have e : zs = ys := by rw [← p8]; simp
    subst e
    exact q ρj Sj H2 zs D acc (I.trans st1 (Step.undel hD p2)) p1 hH p3 nB p4 p5 h
end
end Tr


namespace Tr
open PySem L2
open PySem.Spec PyProof.Rows

inductive Sk where
  | lst (a : Addr)
  | tup (a : Addr)
  | txt (z : Str) (t : Tok)
namespace Sk
def v : Sk → Value
  | .lst a => .ref a
  | .tup a => .ref a
  | .txt z t => .str z t
def ob : Sk → Obj
  | .lst a => { cls := .type "list_iterator", data := .fields #[.ref a, .int 0 0] }
  | .tup a => { cls := .type "tuple_iterator", data := .fields #[.ref a, .int 0 0] }
  | .txt z t => { cls := .type (strIterType z), data := .fields #[.str z t, .int 0 0] }
def fp : Sk → List Addr
  | .lst a => [a]
  | .tup a => [a]
  | .txt _ _ => []
def signs (z : Str) : List V := z.cps.toList.map fun c => .str ⟨#[c]⟩
/-- it holds the values xs -/
def At (K : PySem.W.Frag) (H : Hp) (xs : List V) : Sk → Prop
  | .lst a => SqL K H a xs
  | .tup a => SqT K H a xs
  | .txt z _ => xs = signs z
def It (h : Heap) (it : Addr) (i : Nat) : Sk → Prop
  | .lst a => h.IsListIter it a i
  | .tup a => h.IsTupleIter it a i
  | .txt z t => h.IsStrIter it (strIterType z) z t i
end Sk
section
variable {X : Cx} {pins : List (Addr × Obj)} {σ : L2.St} {H : Hp} {s : Shared}
theorem Sk.inj {k : Sk} {xs ys : List V} (I : Inv X pins σ H s) (h : k.At X.K H xs) (h' : k.At X.K H ys) : xs = ys := by
  cases k with
  | lst a => exact I.list_inj h h'
  | tup a => exact I.tuple_inj h h'
  | txt z t => exact Eq.trans h (Eq.symm h')
theorem Sk.it0 {k : Sk} {h : Heap} {it : Addr} (e : h.get? it = some k.ob) : k.It h it 0 := by
  cases k <;> exact ⟨_, e, rfl, rfl⟩
theorem Sk.itOb {k : Sk} {h : Heap} {it : Addr} {i : Nat} (e : k.It h it i) : ∃ o, h.get? it = some o ∧ ∀ v, o.data ≠ .cell v := by
  cases k <;> (obtain ⟨o, e, _, d⟩ := e; exact ⟨o, e, fun v q => by rw [d] at q; cases q⟩)
theorem Sk.itKeep {k : Sk} {h h' : Heap} {it : Addr} {i : Nat} (e : k.It h it i) (hk : ∀ o, h.get? it = some o → h'.get? it = some o) : k.It h' it i := by
  cases k <;> (obtain ⟨o, e, q⟩ := e; exact ⟨o, hk o e, q⟩)
theorem Sk.begins {k : Sk} {xs : List V} (I : Inv X pins σ H s) (h : k.At X.K H xs) : ∃ B : Heap → Prop, Begins k.v k.ob B ∧ B s.heap ∧ ∀ b ∈ k.fp, b < s.heap.objs.size := by
  cases k with
  | lst a =>
    obtain ⟨its, r, p, _⟩ := I.list h
    exact ⟨_, begins_list a its.toArray, p.isList, fun b hb => by rw [show b = a by simpa [Sk.fp] using hb]; exact p.lt⟩
  | tup a =>
    obtain ⟨its, r, p, _⟩ := I.tuple h
    exact ⟨_, begins_tuple a its.toArray, p, fun b hb => by rw [show b = a by simpa [Sk.fp] using hb]; exact p.lt⟩
  | txt z t => exact ⟨_, begins_text z t, trivial, fun b hb => nomatch hb⟩
theorem vals_back : ∀ {xs : List V} {its : List Value} {i : Nat} {v : Value}, Vals xs its → its[i]? = some v → ∃ x, xs[i]? = some x ∧ RelV x v
  | _, _, 0, _, .cons r _, e => by cases e; exact ⟨_, rfl, r⟩
  | _, _, i + 1, _, .cons _ t, e => vals_back (i := i) t (by simpa using e)
theorem Sk.draws {k : Sk} {xs : List V} {it : Addr} (I : Inv X pins σ H s) (hc : X.calm = true) (h : k.At X.K H xs) (hit : it ∉ k.fp) :
    ∃ (P : Nat → Value → Prop) (St : Nat → Heap → Prop), Draws X.prog X.w X.A.in1 it (it :: k.fp) xs.length P St ∧ (∀ i, k.It s.heap it i → St i s.heap) ∧ (∀ i h', St i h' → k.It h' it i) ∧ ∀ i v, P i v → ∃ x, xs[i]? = some x ∧ RelV x v := by
  have hd : X.A.in1.handled = none := I.ok.hd hc
  cases k with
  | lst a =>
    obtain ⟨its, r, p, _⟩ := I.list h
    have hl : its.toArray.size = xs.length := by rw [List.size_toArray, r.length]
    refine ⟨_, _, hl ▸ Draws.list hd it a (fun z => hit (by simp [Sk.fp, z])) its.toArray, fun i q => ⟨q, p.isList⟩, fun i h' q => q.1, fun i v q => ?_⟩
    exact vals_back r (by simpa using q)
  | tup a =>
    obtain ⟨its, r, p, _⟩ := I.tuple h
    have hl : its.toArray.size = xs.length := by rw [List.size_toArray, r.length]
    refine ⟨_, _, hl ▸ Draws.tuple hd it a (fun z => hit (by simp [Sk.fp, z])) its.toArray, fun i q => ⟨q, p⟩, fun i h' q => q.1, fun i v q => ?_⟩
    exact vals_back r (by simpa using q)
  | txt z t =>
    have e : xs = signs z := h
    subst e
    have hl : z.cps.size = (signs z).length := by simp [signs]
    refine ⟨_, _, hl ▸ Draws.text hd it z t, fun i q => q, fun i h' q => q, fun i v ⟨c, u, e, ev⟩ => ⟨.str ⟨#[c]⟩, ?_, ?_⟩⟩
    · simp [signs, e]
    · exact ⟨u, ev⟩
end
/-- the sources and their values -/
inductive Ats (K : PySem.W.Frag) (H : Hp) : List Sk → List (List V) → Prop
  | nil : Ats K H [] []
  | cons {k : Sk} {ks : List Sk} {xs : List V} {xss : List (List V)} : k.At K H xs → Ats K H ks xss → Ats K H (k :: ks) (xs :: xss)
def pre (c : Bool) (i : Nat) : List V := if c then [.int (i : Nat)] else []
/-- new tuples of the i-th of each, the count ahead -/
def ItG (K : PySem.W.Frag) (c : Bool) (ks : List Sk) : It :=
  ⟨fun i H => ∃ xss, Ats K H ks xss ∧ ∀ xs ∈ xss, i < xs.length,
    fun i H v H' => ∃ T ys, v = .ref T ∧ H T = none ∧ H' = upd H T (.tup (pre c i ++ ys)) ∧ ∀ xss, Ats K H ks xss → xss.map (·[i]?) = ys.map some,
    fun i H => ∃ xss, Ats K H ks xss ∧ (∀ xs ∈ xss, i ≤ xs.length) ∧ ∃ xs ∈ xss, xs.length = i⟩
theorem Ats.inj {X : Cx} {pins : List (Addr × Obj)} {σ : L2.St} {H : Hp} {s : Shared} (I : Inv X pins σ H s) : ∀ {ks : List Sk} {xss yss : List (List V)}, Ats X.K H ks xss → Ats X.K H ks yss → xss = yss
  | _, _, _, .nil, .nil => rfl
  | _, _, _, .cons h t, .cons h' t' => by rw [Sk.inj I h h', Ats.inj I t t']

theorem turn_walksT {P : Program} {w : World} {K : PySem.W.Frag} {elts : List Expr} {kk : Nat} {tpos : Pos} {J : It} {fp wr : List Addr} {it : Addr} {tn : Nat → Heap → Prop}
    (hmem : it ∈ fp) (hsub : ∀ b ∈ wr, b ∈ fp) (hobj : ∀ i h, tn i h → ∀ b ∈ fp, ∃ o, h.get? b = some o ∧ ∀ v, o.data ≠ .cell v)
    (hkeep : ∀ i h h', tn i h → (∀ b ∈ fp, ∀ o, h.get? b = some o → h'.get? b = some o) → tn i h')
    (hitem : ∀ (X : Cx), X.prog = P → X.w = w → X.K = K → X.calm = true → ∀ (i : Nat) (pins : List (Addr × Obj)) (s : Shared) (σ : L2.St) (H : Hp), Inv X pins σ H s → tn i s.heap → J.go i H →
      ∃ fp' n Pt St Mid, WalksT P w X.A it fp' wr n Pt St Mid ∧ i < n ∧ St i s.heap ∧ (∀ h', St (i + 1) h' → (∀ b o, b ∉ wr → s.heap.get? b = some o → h'.get? b = some o) → tn (i + 1) h') ∧
        ∀ vals T, Pt i vals → H T = none → ∃ xs, Vals xs vals.toList ∧ xs.length ≤ sizeLine ∧ J.yld i H (.ref T) (upd H T (.tup xs)))
    (hdone : ∀ (X : Cx), X.prog = P → X.w = w → X.K = K → X.calm = true → ∀ (i : Nat) (pins : List (Addr × Obj)) (s : Shared) (σ : L2.St) (H : Hp), Inv X pins σ H s → tn i s.heap → J.stop i H →
      ∃ fp' Pt St Mid, WalksT P w X.A it fp' wr i Pt St Mid ∧ St i s.heap)
    (hself : ∀ (A : Around) (i : Nat) (s : Shared) (Q : Value → Shared → Prop) (E : Value → Shared → Prop), tn i s.heap → Q (.ref it) s → wpAny (model P w) A (pyIter (.ref it)) Q E s) :
    Turn P w K (.Tuple elts kk tpos) J fp it tn where
  mem := hmem
  obj := hobj
  keep := hkeep
  item := by
    intro X hP hw hK hc i pins s σ H E I hf st hg
    obtain ⟨fp', n, Pt, St, Mid, W, hi, hst, hn, hy⟩ := hitem X hP hw hK hc i pins s σ H I st hg
    refine W.item i s _ _ hi hst fun T vals h' tk hPt hnew hT hm hk => ⟨_, rfl, W.go elts kk tpos i T _ _ _ hm fun h₂ st₂ hk₂ => ?_⟩
    obtain ⟨xs, r, hl, y⟩ := hy vals T hPt (I.hok.fresh hnew)
    have hkk : ∀ b o, b ∉ wr → s.heap.get? b = some o → h₂.get? b = some o := fun b o hb e => hk₂ b o hb (hk b o hb e)
    have hT2 : h₂.IsTuple T vals := hT.at fun o e => hk₂ T o (W.apart i T h' hm) e
    subst hP hw hK
    have new : ObjOk X.prog X.w (upd H T (.tup xs)) h₂ T (.tup xs) := ⟨hl, vals.toList, r, by rw [Array.toArray_toList]; exact hT2⟩
    refine ⟨.ref T, _, I.turnedNew (t' := tk) (ch := wr) hkk (fun b hb => hf b (hsub b hb)) hnew new, rfl, y, hn h₂ st₂ hkk, fun b hb => ?_⟩
    obtain ⟨o, eo, _⟩ := hobj i _ st b hb
    rw [upd_ne (Nat.ne_of_lt (Nat.lt_of_lt_of_le (Heap.lt_size eo) hnew))]
    exact (hf b hb).1
  done := by
    intro X hP hw hK hc i pins s σ H E I hf st hg
    obtain ⟨fp', Pt, St, Mid, W, hst⟩ := hdone X hP hw hK hc i pins s σ H I st hg
    subst hP hw hK
    exact W.done s _ _ hst fun h' tk hk => ⟨rfl, I.turnedL (t' := tk) (ch := wr) hk fun b hb => hf b (hsub b hb)⟩
  self := hself
theorem some_inj {α : Type} {a b : α} (h : some a = some b) : a = b := by injection h
section
variable {P : Program} {w : World} {K : PySem.W.Frag} {elts : List Expr} {kk : Nat} {tpos : Pos}
theorem Ats.one {H : Hp} {k : Sk} {xss : List (List V)} (h : Ats K H [k] xss) : ∃ xs, xss = [xs] ∧ k.At K H xs := by
  cases h with
  | cons h t => cases t; exact ⟨_, rfl, h⟩
theorem Ats.two {H : Hp} {k l : Sk} {xss : List (List V)} (h : Ats K H [k, l] xss) : ∃ xs ys, xss = [xs, ys] ∧ k.At K H xs ∧ l.At K H ys := by
  cases h with
  | cons h t => obtain ⟨ys, rfl, q⟩ := t.one; exact ⟨_, _, rfl, h, q⟩
theorem Ats.three {H : Hp} {k l m : Sk} {xss : List (List V)} (h : Ats K H [k, l, m] xss) : ∃ xs ys zs, xss = [xs, ys, zs] ∧ k.At K H xs ∧ l.At K H ys ∧ m.At K H zs := by
  cases h with
  | cons h t => obtain ⟨ys, zs, rfl, q⟩ := t.two; exact ⟨_, _, _, rfl, h, q⟩
theorem turn_enumG (k : Sk) (N : Addr) (hk : ∀ b ∈ k.fp, b < N) :
    Turn P w K (.Tuple elts kk tpos) (ItG K true [k]) [N + 1, N] (N + 1) (fun i h => (∃ old, IsEnum h (N + 1) N ((i : Nat) : Int) old) ∧ k.It h N i) := by
  have n1 : N ∉ k.fp := fun z => Nat.lt_irrefl _ (hk N z)
  have n2 : N + 1 ∉ N :: k.fp := fun z => by
    rcases List.mem_cons.mp z with z | z
    · exact Nat.succ_ne_self _ z
    · have := hk _ z
      exact absurd this (Nat.not_lt.mpr (Nat.le_succ N))
  refine turn_walksT (wr := [N + 1, N]) (by simp) (fun b hb => hb) (fun i h st b hb => ?_) (fun i h h' st q => ?_) ?_ ?_ fun A i s Q E st h => let ⟨⟨_, he⟩, _⟩ := st; wpAny_pyIter_enum he h
  · have e' : b = N + 1 ∨ b = N := by simpa using hb
    rcases e' with z | z
    · obtain ⟨⟨old, he⟩, _⟩ := st
      rw [z]; exact ⟨_, he, fun v q => nomatch q⟩
    · rw [z]; exact Sk.itOb st.2
  · obtain ⟨⟨old, he⟩, hi⟩ := st
    exact ⟨⟨old, q _ (by simp) _ he⟩, Sk.itKeep hi fun o e => q N (by simp) o e⟩
  · rintro X rfl rfl rfl hc i pins s σ H I ⟨⟨old, he⟩, hi⟩ ⟨xss, ha, hlt⟩
    obtain ⟨xs, rfl, hx⟩ := ha.one
    obtain ⟨P, St, D, d1, d2, d3⟩ := Sk.draws I hc hx n1
    refine ⟨_, _, _, _, _, WalksT.enumFrom 0 D (N + 1) (Nat.succ_ne_self N) n2 (List.mem_cons_self ..), hlt xs (by simp), ⟨⟨old, by simpa using he⟩, d1 i hi⟩, fun h' st _ => ⟨?_, d2 _ _ st.2⟩, ?_⟩
    · obtain ⟨⟨o, q⟩, _⟩ := st
      exact ⟨o, by simpa using q⟩
    · rintro vals T ⟨t, u, hu, rfl⟩ hT
      obtain ⟨x, ex, r⟩ := d3 i u hu
      refine ⟨[.int (i : Nat), x], .cons ⟨t, by simp⟩ (.cons r .nil), by show 2 ≤ sizeLine; decide, T, [x], rfl, hT, rfl, fun yss hy => ?_⟩
      rw [Ats.inj I hy (.cons hx .nil)]
      simp [ex]
  · rintro X rfl rfl rfl hc i pins s σ H I ⟨⟨old, he⟩, hi⟩ ⟨xss, ha, hle, xs', hm, hl⟩
    obtain ⟨xs, rfl, hx⟩ := ha.one
    have e : xs' = xs := by simpa using hm
    subst e
    subst hl
    obtain ⟨P, St, D, d1, d2, d3⟩ := Sk.draws I hc hx n1
    exact ⟨_, _, _, _, WalksT.enumFrom 0 D (N + 1) (Nat.succ_ne_self N) n2 (List.mem_cons_self ..), ⟨old, by simpa using he⟩, d1 _ hi⟩
theorem turn_zipG2 (k l : Sk) (N : Addr) (hk : ∀ b ∈ k.fp, b < N) (hl : ∀ b ∈ l.fp, b < N) :
    Turn P w K (.Tuple elts kk tpos) (ItG K false [k, l]) [N + 4, N + 2, N + 3, N, N + 1] (N + 4)
      (fun i h => IsZip h (N + 4) (N + 2) (N + 3) .none ∧ IsTupOf2 h (N + 2) (.ref N) (.ref (N + 1)) ∧ (∃ a1 a2, IsTupOf2 h (N + 3) a1 a2) ∧ k.It h N i ∧ l.It h (N + 1) i) := by
  have n1 : N ∉ k.fp := fun z => Nat.lt_irrefl _ (hk N z)
  have n2 : N + 1 ∉ l.fp := fun z => absurd (hl _ z) (Nat.not_lt.mpr (Nat.le_succ N))
  have S := zip_sep2 hk hl
  have m4 : ∀ {b : Addr}, b ∈ [N + 4, N + 3, N, N + 1] → b ∈ [N + 4, N + 2, N + 3, N, N + 1] := fun {b} h => by
    simp only [List.mem_cons, List.not_mem_nil, or_false] at h ⊢
    rcases h with h | h | h | h <;> simp [h]
  refine turn_walksT (wr := [N + 4, N + 3, N, N + 1]) (by simp) (fun b hb => m4 hb) (fun i h st b hb => ?_) (fun i h h' st q => ?_) ?_ ?_ fun A i s Q E st h => wpAny_pyIter_zip st.1 h
  · obtain ⟨hz, hTI, ⟨x, y, hTO⟩, h1, h2⟩ := st
    have e' : b = N + 4 ∨ b = N + 2 ∨ b = N + 3 ∨ b = N ∨ b = N + 1 := by simpa using hb
    rcases e' with z | z | z | z | z
    · rw [z]; exact ⟨_, hz, fun v q => nomatch q⟩
    · rw [z]; exact ⟨_, hTI, fun v q => nomatch q⟩
    · rw [z]; exact ⟨_, hTO, fun v q => nomatch q⟩
    · rw [z]; exact Sk.itOb h1
    · rw [z]; exact Sk.itOb h2
  · obtain ⟨hz, hTI, ⟨x, y, hTO⟩, h1, h2⟩ := st
    exact ⟨q _ (by simp) _ hz, q _ (by simp) _ hTI, ⟨x, y, q _ (by simp) _ hTO⟩, Sk.itKeep h1 fun o e => q _ (by simp) o e, Sk.itKeep h2 fun o e => q _ (by simp) o e⟩
  · rintro X rfl rfl rfl hc i pins s σ H I ⟨hz, hTI, hTO, h1, h2⟩ ⟨xss, ha, hlt⟩
    obtain ⟨xs, ys, rfl, hx, hy⟩ := ha.two
    obtain ⟨P1, St1, D1, d1, d2, d3⟩ := Sk.draws I hc hx n1
    obtain ⟨P2, St2, D2, e1, e2, e3⟩ := Sk.draws I hc hy n2
    refine ⟨_, _, _, _, _, WalksT.zipD2 S D1 D2, ?_, ⟨hz, hTI, hTO, d1 i h1, e1 i h2⟩, fun h' st _ => ⟨st.1, st.2.1, st.2.2.1, d2 _ _ st.2.2.2.1, e2 _ _ st.2.2.2.2⟩, ?_⟩
    · have := hlt xs (by simp); have := hlt ys (by simp); omega
    · rintro vals T ⟨u1, u2, q1, q2, rfl⟩ hT
      obtain ⟨x, ex, rx⟩ := d3 i u1 q1
      obtain ⟨y, ey, ry⟩ := e3 i u2 q2
      refine ⟨[x, y], .cons rx (.cons ry .nil), by show 2 ≤ sizeLine; decide, T, [x, y], rfl, hT, rfl, fun zss hz => ?_⟩
      rw [Ats.inj I hz (.cons hx (.cons hy .nil))]
      simp [ex, ey]
  · rintro X rfl rfl rfl hc i pins s σ H I ⟨hz, hTI, hTO, h1, h2⟩ ⟨xss, ha, hle, zs, hm, hl⟩
    obtain ⟨xs, ys, rfl, hx, hy⟩ := ha.two
    obtain ⟨P1, St1, D1, d1, d2, d3⟩ := Sk.draws I hc hx n1
    obtain ⟨P2, St2, D2, e1, e2, e3⟩ := Sk.draws I hc hy n2
    have hi : min xs.length ys.length = i := by
      have := hle xs (by simp); have := hle ys (by simp)
      have q : zs = xs ∨ zs = ys := by simpa using hm
      rcases q with rfl | rfl <;> omega
    exact ⟨_, _, _, _, hi ▸ WalksT.zipD2 S D1 D2, hz, hTI, hTO, d1 i h1, e1 i h2⟩
theorem turn_zipG3 (k l m : Sk) (N : Addr) (hk : ∀ b ∈ k.fp, b < N) (hl : ∀ b ∈ l.fp, b < N) (hm : ∀ b ∈ m.fp, b < N) :
    Turn P w K (.Tuple elts kk tpos) (ItG K false [k, l, m]) [N + 5, N + 3, N + 4, N, N + 1, N + 2] (N + 5)
      (fun i h => IsZip h (N + 5) (N + 3) (N + 4) .none ∧ IsTupOf3 h (N + 3) (.ref N) (.ref (N + 1)) (.ref (N + 2)) ∧ (∃ a1 a2 a3, IsTupOf3 h (N + 4) a1 a2 a3) ∧ k.It h N i ∧ l.It h (N + 1) i ∧ m.It h (N + 2) i) := by
  have n1 : N ∉ k.fp := fun z => Nat.lt_irrefl _ (hk N z)
  have n2 : N + 1 ∉ l.fp := fun z => absurd (hl _ z) (Nat.not_lt.mpr (Nat.le_succ N))
  have n3 : N + 2 ∉ m.fp := fun z => absurd (hm _ z) (Nat.not_lt.mpr (Nat.le_add_right N 2))
  have S := zip_sep3 hk hl hm
  have m4 : ∀ {b : Addr}, b ∈ [N + 5, N + 4, N, N + 1, N + 2] → b ∈ [N + 5, N + 3, N + 4, N, N + 1, N + 2] := fun {b} h => by
    simp only [List.mem_cons, List.not_mem_nil, or_false] at h ⊢
    rcases h with h | h | h | h | h <;> simp [h]
  refine turn_walksT (wr := [N + 5, N + 4, N, N + 1, N + 2]) (by simp) (fun b hb => m4 hb) (fun i h st b hb => ?_) (fun i h h' st q => ?_) ?_ ?_ fun A i s Q E st h => wpAny_pyIter_zip st.1 h
  · obtain ⟨hz, hTI, ⟨x, y, u, hTO⟩, h1, h2, h3⟩ := st
    have e' : b = N + 5 ∨ b = N + 3 ∨ b = N + 4 ∨ b = N ∨ b = N + 1 ∨ b = N + 2 := by simpa using hb
    rcases e' with z | z | z | z | z | z
    · rw [z]; exact ⟨_, hz, fun v q => nomatch q⟩
    · rw [z]; exact ⟨_, hTI, fun v q => nomatch q⟩
    · rw [z]; exact ⟨_, hTO, fun v q => nomatch q⟩
    · rw [z]; exact Sk.itOb h1
    · rw [z]; exact Sk.itOb h2
    · rw [z]; exact Sk.itOb h3
  · obtain ⟨hz, hTI, ⟨x, y, u, hTO⟩, h1, h2, h3⟩ := st
    exact ⟨q _ (by simp) _ hz, q _ (by simp) _ hTI, ⟨x, y, u, q _ (by simp) _ hTO⟩, Sk.itKeep h1 fun o e => q _ (by simp) o e, Sk.itKeep h2 fun o e => q _ (by simp) o e, Sk.itKeep h3 fun o e => q _ (by simp) o e⟩
  · rintro X rfl rfl rfl hc i pins s σ H I ⟨hz, hTI, hTO, h1, h2, h3⟩ ⟨xss, ha, hlt⟩
    obtain ⟨xs, ys, ws, rfl, hx, hy, hw⟩ := ha.three
    obtain ⟨P1, St1, D1, d1, d2, d3⟩ := Sk.draws I hc hx n1
    obtain ⟨P2, St2, D2, e1, e2, e3⟩ := Sk.draws I hc hy n2
    obtain ⟨P3, St3, D3, f1, f2, f3⟩ := Sk.draws I hc hw n3
    refine ⟨_, _, _, _, _, WalksT.zipD3 S D1 D2 D3, ?_, ⟨hz, hTI, hTO, d1 i h1, e1 i h2, f1 i h3⟩, fun h' st _ => ⟨st.1, st.2.1, st.2.2.1, d2 _ _ st.2.2.2.1, e2 _ _ st.2.2.2.2.1, f2 _ _ st.2.2.2.2.2⟩, ?_⟩
    · have := hlt xs (by simp); have := hlt ys (by simp); have := hlt ws (by simp); omega
    · rintro vals T ⟨u1, u2, u3, q1, q2, q3, rfl⟩ hT
      obtain ⟨x, ex, rx⟩ := d3 i u1 q1
      obtain ⟨y, ey, ry⟩ := e3 i u2 q2
      obtain ⟨u, eu, ru⟩ := f3 i u3 q3
      refine ⟨[x, y, u], .cons rx (.cons ry (.cons ru .nil)), by show 3 ≤ sizeLine; decide, T, [x, y, u], rfl, hT, rfl, fun zss hz => ?_⟩
      rw [Ats.inj I hz (.cons hx (.cons hy (.cons hw .nil)))]
      simp [ex, ey, eu]
  · rintro X rfl rfl rfl hc i pins s σ H I ⟨hz, hTI, hTO, h1, h2, h3⟩ ⟨xss, ha, hle, zs, hm, hl⟩
    obtain ⟨xs, ys, ws, rfl, hx, hy, hw⟩ := ha.three
    obtain ⟨P1, St1, D1, d1, d2, d3⟩ := Sk.draws I hc hx n1
    obtain ⟨P2, St2, D2, e1, e2, e3⟩ := Sk.draws I hc hy n2
    obtain ⟨P3, St3, D3, f1, f2, f3⟩ := Sk.draws I hc hw n3
    have hi : min (min xs.length ys.length) ws.length = i := by
      have := hle xs (by simp); have := hle ys (by simp); have := hle ws (by simp)
      have q : zs = xs ∨ zs = ys ∨ zs = ws := by simpa using hm
      rcases q with rfl | rfl | rfl <;> omega
    exact ⟨_, _, _, _, hi ▸ WalksT.zipD3 S D1 D2 D3, hz, hTI, hTO, d1 i h1, e1 i h2, f1 i h3⟩
end

theorem meets_enum1 {v : Value} {o : Obj} {B : Heap → Prop} (b : Begins v o B) :
    Meets (Builtin.«enumerate.__new__» ⟨[.type "enumerate", v], []⟩) (fun _ R s => B s.heap ∧
      R (.ok (.ret (.ref (s.heap.push o).objs.size))) { s with heap := (s.heap.push o).push { cls := .type "enumerate", data := .fields #[.none, .bool false, .ref s.heap.objs.size, rawInt 0, .none, .none] } }) :=
  .of_wp fun prog w A R s h => by
    obtain ⟨hp, g, d, tk, os⟩ := s; obtain ⟨h1, h⟩ := h
    have hsub := sub_enumerate
    have q1 : ∀ {A' : Around} {E : Value → Shared → Prop} {Q : Value → Shared → Prop}, Q (.ref hp.objs.size) ⟨hp.push o, g, d, tk, os⟩ → wpAny (model prog w) A' (pyIter v) Q E ⟨hp, g, d, tk, os⟩ :=
      fun q => b.iter prog w _ _ ⟨hp, g, d, tk, os⟩ _ h1 q
    wp_walk using q1
    refine wpAny_stack_any fun st => wpAny_pure ?_
    split
    · rename_i c _ _ _ _ _
      cases (c == Value.type "enumerate")
      · wp_walk using q1
        exact ⟨_, rfl, h⟩
      · wp_walk using q1
        exact ⟨_, rfl, h⟩
    · wp_walk using q1
      exact ⟨_, rfl, h⟩
theorem enum_begins1 {prog : Program} {w : World} {A : Around} {E : Value → Shared → Prop} {s : Shared} {v : Value} {o : Obj} {B : Heap → Prop} {Q : Value → Shared → Prop} (b : Begins v o B) (h1 : B s.heap)
    (h : ∀ h', IsEnum h' (s.heap.objs.size + 1) s.heap.objs.size 0 .none → h'.get? s.heap.objs.size = some o → (∀ b o, s.heap.get? b = some o → h'.get? b = some o) → Q (.ref (s.heap.objs.size + 1)) { s with heap := h' }) :
    wpAny (model prog w) A (call (.type "enumerate") [v]) Q E s := by
  refine callType_new F.called_enumerate (by decide) (F.typeCall_enumerate_1 _) (F.newCall_enumerate_1 _) (fun obj => F.args_object_init_2 obj _) F.entry_enumerate_new (meets_enum1 b) ⟨h1, ?_⟩
  have hz : (s.heap.push o).objs.size = s.heap.objs.size + 1 := Heap.size_push ..
  show _ ∧ _
  rw [hz]
  have he : IsEnum ((s.heap.push o).push { cls := .type "enumerate", data := .fields #[.none, .bool false, .ref s.heap.objs.size, rawInt 0, .none, .none] }) (s.heap.objs.size + 1) s.heap.objs.size 0 .none := by
    have := Heap.get?_push_size (s.heap.push o) (o := { cls := .type "enumerate", data := .fields #[.none, .bool false, .ref s.heap.objs.size, rawInt 0, .none, .none] }) rfl
    rw [hz] at this; exact this
  exact ⟨⟨_, he, rfl⟩, h _ he (Heap.get?_push_of_some _ (Heap.get?_push_size _ b.free)) fun b o x => Heap.get?_push_of_some _ (Heap.get?_push_of_some _ x)⟩
/-- what a value is as a source -/
inductive IsSk (K : PySem.W.Frag) (H : Hp) : V → List V → (Tok → Sk) → Prop
  | lst {a : Addr} {xs : List V} : SqL K H a xs → IsSk K H (.ref a) xs fun _ => .lst a
  | tup {a : Addr} {xs : List V} : SqT K H a xs → IsSk K H (.ref a) xs fun _ => .tup a
  | txt {z : Str} : IsSk K H (.str z) (Sk.signs z) fun t => .txt z t
theorem IsSk.at_ {K : PySem.W.Frag} {H : Hp} {v : V} {xs : List V} {f : Tok → Sk} (h : IsSk K H v xs f) (t : Tok) : (f t).At K H xs := by
  cases h with
  | lst h => exact h
  | tup h => exact h
  | txt => exact rfl
theorem IsSk.val {K : PySem.W.Frag} {H : Hp} {v : V} {xs : List V} {f : Tok → Sk} (h : IsSk K H v xs f) {u : Value} (r : RelV v u) : ∃ t, u = (f t).v := by
  cases h with
  | lst h => cases r; exact ⟨0, rfl⟩
  | tup h => cases r; exact ⟨0, rfl⟩
  | txt => obtain ⟨t, rfl⟩ := r; exact ⟨t, rfl⟩
def iEnumG (K : PySem.W.Frag) (ta : TA) : TI := fun σ H R => ta σ H fun vs H1 => ∃ v xs f, vs = [v] ∧ IsSk K H1 v xs f ∧ ∀ t, R (ItG K true [f t]) H1
def iZipG2 (K : PySem.W.Frag) (ta : TA) : TI := fun σ H R => ta σ H fun vs H1 => ∃ v xs f v' xs' f', vs = [v, v'] ∧ IsSk K H1 v xs f ∧ IsSk K H1 v' xs' f' ∧ ∀ t t', R (ItG K false [f t, f' t']) H1
def iZipG3 (K : PySem.W.Frag) (ta : TA) : TI := fun σ H R => ta σ H fun vs H1 => ∃ v xs f v' xs' f' v2 xs2 f2, vs = [v, v', v2] ∧ IsSk K H1 v xs f ∧ IsSk K H1 v' xs' f' ∧ IsSk K H1 v2 xs2 f2 ∧ ∀ t t' t2, R (ItG K false [f t, f' t', f2 t2]) H1
section
variable {X : Cx} {e e2 e3 : Expr} {ta : TA} {p pos tpos : Pos} {elts : List Expr} {kk : Nat}
theorem pi_enumG (hg : Gl X "enumerate") (hm : X.mg "enumerate" = none) (ha : PA X [e] ta) (hs : starEach [e] X.env = [(false, eval e X.env)] := by rfl) :
    PI X (.Tuple elts kk tpos) (.Call (.Name "enumerate" p) [e] [] pos) (iEnumG X.K ta) := by
  refine ⟨fun pins s σ H R I h => ?_⟩
  refine Call_ (ld_blt I hg hm boot_enumerate (PyProof.Rows.callWith_type1 (thn (ha.run pos pins s σ H _ I h) fun us s1 ⟨vs, H1, I1, r1, q1⟩ => ?_) hs rfl))
  obtain ⟨v, xs, f, rfl, hk, q⟩ := q1
  cases r1 with
  | cons r rr =>
    cases rr
    obtain ⟨t, rfl⟩ := hk.val r
    obtain ⟨B, b, hb, hlt⟩ := Sk.begins I1 (hk.at_ t)
    refine enum_begins1 b hb fun h' he hit hkp => wpAny_pyIter_enum he ?_
    have I2 : Inv X pins σ H1 { s1 with heap := h' } := I1.kept (t' := s1.toks) hkp
    refine ⟨s1.heap.objs.size + 1, [s1.heap.objs.size + 1, s1.heap.objs.size], _, _, H1, rfl, I2, turn_enumG (f t) s1.heap.objs.size hlt, ⟨⟨.none, he⟩, Sk.it0 hit⟩, fun c hc => ?_, q t⟩
    have hle : s1.heap.objs.size ≤ c := by
      have e' : c = s1.heap.objs.size + 1 ∨ c = s1.heap.objs.size := by simpa using hc
      rcases e' with z | z
      · rw [z]; exact Nat.le_add_right _ _
      · rw [z]; exact Nat.le_refl _
    exact I1.fpOk hle (I1.hok.fresh hle)
theorem pi_zipG2 (hg : Gl X "zip") (hm : X.mg "zip" = none) (ha : PA X [e, e2] ta)
    (hs : starEach [e, e2] X.env = (false, eval e X.env) :: starEach [e2] X.env := by rfl) (hpl : (backTo pos (starEach [e2] X.env)).any (·.1) = false := by rfl) :
    PI X (.Tuple elts kk tpos) (.Call (.Name "zip" p) [e, e2] [] pos) (iZipG2 X.K ta) := by
  refine ⟨fun pins s σ H R I h => ?_⟩
  refine Call_ (ld_blt I hg hm PyProof.Rows.boot_zip (PyProof.Rows.callWith_type1 (thn (ha.run pos pins s σ H _ I h) fun us s1 ⟨vs, H1, I1, r1, q1⟩ => ?_) hs hpl))
  obtain ⟨v, xs, f, v', xs', f', rfl, hk, hk', q⟩ := q1
  cases r1 with
  | cons r rr =>
    cases rr with
    | cons r' rr =>
      cases rr
      obtain ⟨t, rfl⟩ := hk.val r
      obtain ⟨t', rfl⟩ := hk'.val r'
      obtain ⟨B, b, hb, hlt⟩ := Sk.begins I1 (hk.at_ t)
      obtain ⟨B', b', hb', hlt'⟩ := Sk.begins I1 (hk'.at_ t')
      refine zip_begins2 b b' hb hb' fun h' hz hTI hTO h1 h2 hsz hkp => wpAny_pyIter_zip hz ?_
      have I2 : Inv X pins σ H1 { s1 with heap := h' } := I1.kept (t' := s1.toks) hkp
      refine ⟨_, _, _, _, H1, rfl, I2, turn_zipG2 (f t) (f' t') s1.heap.objs.size hlt hlt', ⟨hz, hTI, ⟨_, _, hTO⟩, Sk.it0 h1, Sk.it0 h2⟩, fun c hc => ?_, q t t'⟩
      have hle : s1.heap.objs.size ≤ c := by
        have e' : c = s1.heap.objs.size + 4 ∨ c = s1.heap.objs.size + 2 ∨ c = s1.heap.objs.size + 3 ∨ c = s1.heap.objs.size ∨ c = s1.heap.objs.size + 1 := by simpa using hc
        rcases e' with z | z | z | z | z
        · rw [z]; exact Nat.le_add_right _ _
        · rw [z]; exact Nat.le_add_right _ _
        · rw [z]; exact Nat.le_add_right _ _
        · rw [z]; exact Nat.le_refl _
        · rw [z]; exact Nat.le_add_right _ _
      exact I1.fpOk hle (I1.hok.fresh hle)
theorem pi_zipG3 (hg : Gl X "zip") (hm : X.mg "zip" = none) (ha : PA X [e, e2, e3] ta)
    (hs : starEach [e, e2, e3] X.env = (false, eval e X.env) :: starEach [e2, e3] X.env := by rfl) (hpl : (backTo pos (starEach [e2, e3] X.env)).any (·.1) = false := by rfl) :
    PI X (.Tuple elts kk tpos) (.Call (.Name "zip" p) [e, e2, e3] [] pos) (iZipG3 X.K ta) := by
  refine ⟨fun pins s σ H R I h => ?_⟩
  refine Call_ (ld_blt I hg hm PyProof.Rows.boot_zip (PyProof.Rows.callWith_type1 (thn (ha.run pos pins s σ H _ I h) fun us s1 ⟨vs, H1, I1, r1, q1⟩ => ?_) hs hpl))
  obtain ⟨v, xs, f, v', xs', f', v2, xs2, f2, rfl, hk, hk', hk2, q⟩ := q1
  cases r1 with
  | cons r rr =>
    cases rr with
    | cons r' rr =>
      cases rr with
      | cons r2 rr =>
        cases rr
        obtain ⟨t, rfl⟩ := hk.val r
        obtain ⟨t', rfl⟩ := hk'.val r'
        obtain ⟨t2, rfl⟩ := hk2.val r2
        obtain ⟨B, b, hb, hlt⟩ := Sk.begins I1 (hk.at_ t)
        obtain ⟨B', b', hb', hlt'⟩ := Sk.begins I1 (hk'.at_ t')
        obtain ⟨B2, b2, hb2, hlt2⟩ := Sk.begins I1 (hk2.at_ t2)
        refine zip_begins3 b b' b2 hb hb' hb2 fun h' hz hTI hTO h1 h2 h3 hsz hkp => wpAny_pyIter_zip hz ?_
        have I2 : Inv X pins σ H1 { s1 with heap := h' } := I1.kept (t' := s1.toks) hkp
        refine ⟨_, _, _, _, H1, rfl, I2, turn_zipG3 (f t) (f' t') (f2 t2) s1.heap.objs.size hlt hlt' hlt2, ⟨hz, hTI, ⟨_, _, _, hTO⟩, Sk.it0 h1, Sk.it0 h2, Sk.it0 h3⟩, fun c hc => ?_, q t t' t2⟩
        have hle : s1.heap.objs.size ≤ c := by
          have e' : c = s1.heap.objs.size + 5 ∨ c = s1.heap.objs.size + 3 ∨ c = s1.heap.objs.size + 4 ∨ c = s1.heap.objs.size ∨ c = s1.heap.objs.size + 1 ∨ c = s1.heap.objs.size + 2 := by simpa using hc
          rcases e' with z | z | z | z | z | z
          · rw [z]; exact Nat.le_add_right _ _
          · rw [z]; exact Nat.le_add_right _ _
          · rw [z]; exact Nat.le_add_right _ _
          · rw [z]; exact Nat.le_refl _
          · rw [z]; exact Nat.le_add_right _ _
          · rw [z]; exact Nat.le_add_right _ _
        exact I1.fpOk hle (I1.hok.fresh hle)
end
end Tr


namespace Tr
open PySem L2
open PySem.Spec PyProof.Rows
section
variable {X : Cx} {G : Gam} {c : Ctx} {W : WX}
structure LcOk (X : Cx) (G : Gam) (c : Ctx) (W : WX) (tg : List Nat) (it : Wk) (cd : Option Ex) (el : Ex) (t i : Expr) (ifs : List Expr) (el' : Expr) (scope : Scope) : Prop where
  calm : X.calm = true
  hN : X.N.Nodup
  hi : PI X t i (tI G W (isTuple t) true it)
  ok : BlkOk X.N X.env.scope scope (ownOf c tg)
  hg : ∀ (s : Shared) (H : Hp) (C : Addr) (cl : List (Str × Addr)) (fp : List Addr), PG (X.blk s H scope (compEnvC scope cl C X.env) fp) t (gT G.K (isTuple t) tg)
  ht : ∀ (s : Shared) (H : Hp) (C : Addr) (cl : List (Str × Addr)) (fp : List Addr), PTs (X.blk s H scope (compEnvC scope cl C X.env) fp) ifs (tCl G cd)
  he : ∀ (s : Shared) (H : Hp) (C : Addr) (cl : List (Str × Addr)) (fp : List Addr), PE (X.blk s H scope (compEnvC scope cl C X.env) fp) el' (tE G W0 el)
  hs : ∀ x, foldedSetIterable i X.env x = pure x
def chkLc (c : Ctx) (tg : List Nat) (it : Wk) (cd : Option Ex) (el : Ex) (t i : Expr) (ifs : List Expr) (el' : Expr) (scope : Scope) : Bool :=
  c.calm && (chkW c true it t i && (noSet i && (blkC c.N c.sc scope (ownOf c tg) && (tgtB (ctxIn c scope) tg t && (chkC (ctxIn c scope) cd ifs && chkE (ctxIn c scope) false el el')))))
theorem lcOk {tg : List Nat} {it : Wk} {cd : Option Ex} {el : Ex} (hi : SoundW G it) (hc : ∀ a, cd = some a → Sound G a) (he : Sound G el) (o : XOk X G c W) {t i : Expr} {ifs : List Expr} {el' : Expr} {scope : Scope}
    (h : chkLc c tg it cd el t i ifs el' scope = true) : LcOk X G c W tg it cd el t i ifs el' scope := by
  obtain ⟨h0, h⟩ := ba h
  obtain ⟨h1, h⟩ := ba h
  obtain ⟨h2, h⟩ := ba h
  obtain ⟨h3, h⟩ := ba h
  obtain ⟨h4, h⟩ := ba h
  obtain ⟨h5, h6⟩ := ba h
  exact ⟨o.calm h0, by rw [o.N]; exact o.nd, hi.wlk X c W true t i o h1, by rw [o.N, o.sc]; exact blkOk_by h3, fun s H C cl fp => pg_ok o.blk (fun _ => o.calm h0) h4, fun s H C cl fp => pts_ok o.blk hc h5, fun s H C cl fp => he.val _ _ _ _ o.blk h6, fun x => fold_no h2 x⟩
theorem comp_red {tg : List Nat} {it : Wk} {cd : Option Ex} {el : Ex} {k : Bool} (σ : L2.St) (H : Hp) (Q : VK) (h : tE G W (.comp tg it cd el) σ H Q) : tLc (tI G W k true it) (gT G.K k tg) (tCl G cd) (tE G W0 el) tg σ H Q := by
  obtain ⟨wd, env, S, I, h⟩ := h
  simp only [evalE] at h
  refine lc_red I h fun ρ2 S2 H2 ys D acc st J hD hρ hB h1 h2 h => ?_
  split at h
  · rename_i ds ev
    refine h _ _ ⟨ρ2, st, J.less, .val (.lst (.inl ⟨.inl h1, fun z => ?_⟩) ((h2.vals ev).anti J.badOk fun a z => z.imp (fun z => z.imp .inl id) id)), fun _ ds' e => ?_⟩
    · rcases z with (z | ⟨i, z⟩) | z
      · exact hB z
      · exact J.ownB D ⟨i, z⟩ (.inr rfl)
      · exact hρ z.mem
    · cases e
      exact ⟨D, acc, rfl, hD, hB, hρ, h1, J, h2.vals ev⟩
  · exact h.elim
theorem newm_red {tg : List Nat} {it : Wk} {cd : Option Ex} {el : Ex} {k : Bool} (σ : L2.St) (H : Hp) (Q : VK) (h : tE G W (.newm tg it cd el) σ H Q) : tLc (tI G W k true it) (gT G.K k tg) (tCl G cd) (tE G W0 el) tg σ H Q := by
  obtain ⟨wd, env, S, I, h⟩ := h
  simp only [evalE] at h
  refine lc_red I h fun ρ2 S2 H2 ys D acc st J hD hρ hB h1 h2 h => ?_
  have K := SR.adopt (wd := wd.up ρ2) (c := .refs ys) J hB hρ (I.noneHe hD) (.refs h1 h2) (fun z => nomatch z)
  have hl : ρ2.length = S2.length := J.lenρ
  refine h _ _ ⟨ρ2 ++ [D], ⟨st.pre.trans (List.prefix_append _ _), K.nd, fun a m => ?_, st.ext, fun n e => ?_⟩, K, .ref (by rw [← hl]; simp), fun z => nomatch z⟩
  · rcases List.mem_append.mp m with z | z
    · exact st.new a z
    · have e : a = D := by simpa using z
      exact .inr (e ▸ hD)
  · have e := st.dead n e
    rw [List.getElem?_append_left (List.getElem?_eq_some_iff.mp e).1]; exact e
theorem Sound.comp (tg : List Nat) (it : Wk) (cd : Option Ex) (el : Ex) (hi : SoundW G it) (hc : ∀ a, cd = some a → Sound G a) (he : Sound G el) : Sound G (.comp tg it cd el) := by
  refine .plain (fun c m e h => by cases e <;> exact h) (fun c e h => ?_) fun X c W e o h => ?_
  · cases e <;> first | rfl | (cases h; done)
  · cases e <;> first | (cases h; done) | skip
    rename_i el' gs scope pos
    rcases gs with _ | ⟨⟨t, i, ifs, (_ | n) | n⟩, _ | _⟩ <;> first | (cases h; done) | skip
    have L := lcOk hi hc he o h
    have p := pe_lc (pos := pos) L.calm L.hN L.hi L.ok L.hg L.ht L.he L.hs
    rw [ownOf_snd] at p
    exact PE.imp p comp_red
theorem Sound.newm (tg : List Nat) (it : Wk) (cd : Option Ex) (el : Ex) (hi : SoundW G it) (hc : ∀ a, cd = some a → Sound G a) (he : Sound G el) : Sound G (.newm tg it cd el) := by
  refine .plain (fun c m e h => by cases e <;> exact h) (fun c e h => ?_) fun X c W e o h => ?_
  · cases e <;> first | rfl | (cases h; done)
  · cases e <;> first | (cases h; done) | skip
    rename_i el' gs scope pos
    rcases gs with _ | ⟨⟨t, i, ifs, (_ | n) | n⟩, _ | _⟩ <;> first | (cases h; done) | skip
    have L := lcOk hi hc he o h
    have p := pe_lc (pos := pos) L.calm L.hN L.hi L.ok L.hg L.ht L.he L.hs
    rw [ownOf_snd] at p
    exact PE.imp p newm_red

theorem evalEs_len {C : Calls} {es : List Ex} {env : TEnv} : ∀ {S S' : Store} {as : List A}, evalEs C es env S = .ok as S' → as.length = es.length := by
  induction es with
  | nil => intro S S' as h; simp only [evalEs] at h; cases h; rfl
  | cons e es ih =>
    intro S S' as h
    rw [evalEs_cons] at h
    cases h1 : evalE C e env S with
    | ok a S1 =>
      rw [h1] at h
      cases h2 : evalEs C es env S1 with
      | ok bs S2 =>
        simp only [R.bind] at h
        rw [h2] at h
        cases h
        exact congrArg (· + 1) (ih h2)
      | exc k d S2 => simp only [R.bind] at h; rw [h2] at h; cases h
      | err => simp only [R.bind] at h; rw [h2] at h; cases h
    | exc k d S2 => rw [h1] at h; cases h
    | err => rw [h1] at h; cases h
theorem chkEs_len {b : Bool} : ∀ {es : List Ex} {ts : List Expr}, chkEs c b es ts = true → es.length = ts.length
  | [], [], _ => rfl
  | _ :: _, _ :: _, h => congrArg (· + 1) (chkEs_len (ba h).2)
  | [], _ :: _, h => by cases h
  | _ :: _, [], h => by cases h
theorem rangeC_len : ∀ (c lo : Int) (n : Nat), (rangeC c lo n).length = n
  | _, _, 0 => rfl
  | c, lo, n + 1 => congrArg (· + 1) (rangeC_len c (lo + c) n)
theorem rangeC_at : ∀ (c lo : Int) (n i : Nat), i < n → (rangeC c lo n)[i]? = some (.int (lo + i * c))
  | _, _, 0, _, h => absurd h (Nat.not_lt_zero _)
  | c, lo, n + 1, 0, _ => by simp [rangeC]
  | c, lo, n + 1, i + 1, h => by
    show (rangeC c (lo + c) n)[i]? = _
    rw [rangeC_at c (lo + c) n i (by omega)]
    congr 2
    have : ((i + 1 : Nat) : Int) * c = (i : Int) * c + c := by rw [Int.natCast_add, Int.add_mul]; simp
    rw [this]; omega
theorem wlk_rangeC {k o : Bool} {lo cc : Int} {n : Nat} {wd : Wd} {σ : L2.St} {env : TEnv} {S : Store} {H : Hp} : Wlk G k o (Itc lo cc n) ((rangeC cc lo n).map .val) [] wd σ env S H := by
  refine ⟨fun _ => True, _, by rw [List.length_map, rangeC_len]; exact walk_rangeC, fun _ _ _ _ _ _ _ => trivial, fun M wd2 σ2 env2 S2 H2 i x H' L hi y => ?_⟩
  obtain ⟨rfl, rfl⟩ := y
  rw [List.length_map, rangeC_len] at hi
  exact ⟨.inl rfl, _, by rw [List.getElem?_map, rangeC_at cc lo n i hi]; rfl, .of (.val (.int _)), fun _ => .val (.int _)⟩
theorem ints1 {K : PySem.W.Frag} {Bad : Addr → Prop} {H : Hp} {vs : List V} {i : Int} (h : RepDs K Bad H vs [.int i]) : vs = [.int i] := by
  cases h with
  | cons h t => cases t; rw [h.int]
theorem ints2 {K : PySem.W.Frag} {Bad : Addr → Prop} {H : Hp} {vs : List V} {i j : Int} (h : RepDs K Bad H vs [.int i, .int j]) : vs = [.int i, .int j] := by
  cases h with
  | cons h t => rw [h.int, ints1 t]
theorem ints3 {K : PySem.W.Frag} {Bad : Addr → Prop} {H : Hp} {vs : List V} {i j k : Int} (h : RepDs K Bad H vs [.int i, .int j, .int k]) : vs = [.int i, .int j, .int k] := by
  cases h with
  | cons h t => rw [h.int, ints2 t]
theorem derefs_len {S : Store} : ∀ {as : List A} {ds : List PyData}, derefs S as = some ds → ds.length = as.length
  | [], _, h => by cases h; rfl
  | a :: as, ds, h => by
    simp only [derefs] at h
    split at h
    · obtain ⟨es, e, rfl⟩ := Option.map_eq_some_iff.mp h
      exact congrArg (· + 1) (derefs_len e)
    · cases h
theorem range_go {wd : Wd} {σ : L2.St} {env : TEnv} {S S1 : Store} {H : Hp} {as : List A} {n : Nat} {R : It → Hp → Prop} {k o : Bool} (hn : as.length = n)
    (h : Out G W wd σ env S H (match derefs S1 as with
      | some [.int j] => if -(2 ^ 62) ≤ j ∧ j < 2 ^ 62 then Tr.R.ok ((rangeD 0 j.toNat).map A.val, ([] : List (Nat × Cell))) S1 else .err
      | some [.int i, .int j] => if -(2 ^ 62) ≤ i ∧ i < 2 ^ 62 ∧ -(2 ^ 62) ≤ j ∧ j < 2 ^ 62 then .ok ((rangeD i (j - i).toNat).map .val, []) S1 else .err
      | some [.int i, .int j, .int c] => if c ≠ 0 ∧ c.natAbs < 1073741824 ∧ Builtin.Range.small i j c = true ∧ 0 ≤ Builtin.Range.rangeSize i j c then .ok ((rangeC c i (Builtin.Range.rangeSize i j c).toNat).map .val, []) S1 else .err
      | _ => .err) fun p S' => ∀ J ρ' H', Step wd S H ρ' S' H' → SR G (wd.up ρ') σ H' env S' → Wlk G k o J p.1 p.2 (wd.up ρ') σ env S' H' → R J H')
    {vs : List V} {ρ1 : List Addr} {H1 : Hp} (st : Step wd S H ρ1 S1 H1) (I1 : SR G (wd.up ρ1) σ H1 env S1) (r : RepBs G (BadOf (wd.up ρ1) σ env S1) H1 ρ1 vs as) :
    (n = 1 → ∃ j : Int, vs = [.int j] ∧ -(2 ^ 62) ≤ j ∧ j < 2 ^ 62 ∧ R (Itr 0 j.toNat) H1) ∧
    (n = 2 → ∃ i j : Int, vs = [.int i, .int j] ∧ (-(2 ^ 62) ≤ i ∧ i < 2 ^ 62 ∧ -(2 ^ 62) ≤ j ∧ j < 2 ^ 62) ∧ R (Itr i (j - i).toNat) H1) ∧
    (n = 3 → ∃ (i j c : Int) (n : Nat), vs = [.int i, .int j, .int c] ∧ RgC i j c n ∧ R (Itc i c n) H1) := by
  subst hn
  split at h
  · rename_i j e
    have hl : 1 = as.length := derefs_len e
    have hv := ints1 (derefs_rep I1 r e)
    split at h
    · rename_i hb
      exact ⟨fun _ => ⟨j, hv, hb.1, hb.2, h _ ρ1 H1 st I1 wlk_range⟩, fun z => absurd z (by omega), fun z => absurd z (by omega)⟩
    · exact h.elim
  · rename_i i j e
    have hl : 2 = as.length := derefs_len e
    have hv := ints2 (derefs_rep I1 r e)
    split at h
    · rename_i hb
      exact ⟨fun z => absurd z (by omega), fun _ => ⟨i, j, hv, hb, h _ ρ1 H1 st I1 wlk_range⟩, fun z => absurd z (by omega)⟩
    · exact h.elim
  · rename_i i j c e
    have hl : 3 = as.length := derefs_len e
    have hv := ints3 (derefs_rep I1 r e)
    split at h
    · rename_i hb
      exact ⟨fun z => absurd z (by omega), fun z => absurd z (by omega), fun _ => ⟨i, j, c, _, hv, ⟨hb.1, hb.2.1, hb.2.2.1, by rw [Int.toNat_of_nonneg hb.2.2.2]⟩, h _ ρ1 H1 st I1 wlk_rangeC⟩⟩
    · exact h.elim
  · exact h.elim
theorem SoundW.range (es : List Ex) (hs : ∀ e ∈ es, Sound G e) : SoundW G (.range es) := by
  refine ⟨fun X c W o tg e oX h => ?_⟩
  cases e <;> first | (cases h; done) | skip
  rename_i fn args kws pos
  cases fn <;> first | (cases h; done) | skip
  rename_i x p
  rcases args with _ | ⟨t, ts⟩ <;> first | (cases h; done) | skip
  rcases kws with _ | _ <;> first | (cases h; done) | skip
  obtain ⟨h1, h⟩ := ba h
  obtain ⟨h2, h⟩ := ba h
  obtain ⟨h3, h⟩ := ba h
  obtain ⟨h4, h5⟩ := ba h
  have e1 := de h1
  obtain ⟨g1, g2⟩ := oX.gl h2
  rw [e1] at g1 ⊢
  have pa := bors_of hs oX h3 h4
  have hl := chkEs_len h3
  have st := h4
  rw [List.all_cons] at st
  obtain ⟨s1, s2⟩ := ba st
  rcases ts with _ | ⟨u, _ | ⟨w, _ | ⟨y, ts⟩⟩⟩
  · refine PI.imp (pi_range1 g1 (oX.free _ (by decide)) pa (star1 s1)) fun σ H RR ⟨wd, env, S, I, h⟩ => ?_
    simp only [evalW] at h
    exact ⟨wd, env, S, I, h.seq fun as S1 e1 h vs ρ1 H1 st I1 r => (range_go ((evalEs_len e1).trans hl) h st I1 r).1 rfl⟩
  · rw [List.all_cons] at s2
    refine PI.imp (pi_range2 g1 (oX.free _ (by decide)) pa (by rw [star1 s1, star1 (ba s2).1]; rfl) (star1 (ba s2).1)) fun σ H RR ⟨wd, env, S, I, h⟩ => ?_
    simp only [evalW] at h
    exact ⟨wd, env, S, I, h.seq fun as S1 e1 h vs ρ1 H1 st I1 r => (range_go ((evalEs_len e1).trans hl) h st I1 r).2.1 rfl⟩
  · refine PI.imp (pi_range3 g1 (oX.free _ (by decide)) pa (star1 s1) (stars s2)) fun σ H RR ⟨wd, env, S, I, h⟩ => ?_
    simp only [evalW] at h
    exact ⟨wd, env, S, I, h.seq fun as S1 e1 h vs ρ1 H1 st I1 r => (range_go ((evalEs_len e1).trans hl) h st I1 r).2.2 rfl⟩
  · have := de h5
    simp at this

/-- values that are read, walked by a walk of the kind o -/
inductive RepOs (G : Gam) (o : Bool) (Bad : Addr → Prop) (H : Hp) (ρ : List Addr) : List V → List A → Prop
  | nil : RepOs G o Bad H ρ [] []
  | cons {v : V} {vs : List V} {a : A} {as : List A} : RepB G Bad H ρ v a → (o = true ∨ RepA G.K Bad H ρ v a) → RepOs G o Bad H ρ vs as → RepOs G o Bad H ρ (v :: vs) (a :: as)
def tOs (G : Gam) (W : WX) (o : Bool) (es : List Ex) : TA := fun σ H Q => ∃ wd env S, SR G wd σ H env S ∧
  Out G W wd σ env S H (evalEs G.C es env S) fun as S' => ∀ vs ρ' H', Step wd S H ρ' S' H' → SR G (wd.up ρ') σ H' env S' → RepOs G o (BadOf (wd.up ρ') σ env S') H' ρ' vs as → Q vs H'
theorem RepOs.ofB {Bad : Addr → Prop} {H : Hp} {ρ : List Addr} : ∀ {vs : List V} {as : List A}, RepBs G Bad H ρ vs as → RepOs G true Bad H ρ vs as
  | _, _, .nil => .nil
  | _, _, .cons h t => .cons h (.inl rfl) (.ofB t)
theorem RepOs.ofA {Bad : Addr → Prop} {H : Hp} {ρ : List Addr} : ∀ {vs : List V} {as : List A}, RepAs G.K Bad H ρ vs as → RepOs G false Bad H ρ vs as
  | _, _, .nil => .nil
  | _, _, .cons h t => .cons (.at_ h) (.inr h) (.ofA t)
theorem walks_of {es' : List Ex} (hs : ∀ e' ∈ es', Sound G e') {o : Bool} {es : List Expr} (oX : XOk X G c W) (h : chkEs c o es' es = true) (st : es.all noStar = true) : PA X es (tOs G W o es') := by
  cases o with
  | true => exact PA.imp (bors_of hs oX h st) fun σ H Q ⟨wd, env, S, I, h⟩ => ⟨wd, env, S, I, h.mono fun as S1 _ q vs ρ1 H1 st I1 r => q vs ρ1 H1 st I1 (.ofB r)⟩
  | false => exact PA.imp (vals_of hs oX h st) fun σ H Q ⟨wd, env, S, I, h⟩ => ⟨wd, env, S, I, h.mono fun as S1 _ q vs ρ1 H1 st I1 r => q vs ρ1 H1 st I1 (.ofA r)⟩
/-- a source -/
structure Sr (G : Gam) (o : Bool) (f : Tok → Sk) (xs : List V) (as : List A) (g : List (Nat × Cell)) (wd : Wd) (σ : L2.St) (env : TEnv) (S : Store) (H : Hp) : Prop where
  len : xs.length = as.length
  at_ : ∀ M wd2 σ2 env2 S2 H2, Later G o g M wd σ env S H wd2 σ2 env2 S2 H2 → ∀ t, (f t).At G.K H2 xs
  rep : ∀ M wd2 σ2 env2 S2 H2, Later G o g M wd σ env S H wd2 σ2 env2 S2 H2 → RepAs G.K (BadOf wd2 σ2 env2 S2) H2 wd2.ρ xs as
section
variable {o : Bool} {wd : Wd} {σ : L2.St} {env : TEnv} {S : Store} {H : Hp}
theorem Later.less {g g' : List (Nat × Cell)} {M : Addr → Prop} {wd2 : Wd} {σ2 : L2.St} {env2 : TEnv} {S2 : Store} {H2 : Hp} (L : Later G o g M wd σ env S H wd2 σ2 env2 S2 H2) (hs : ∀ p ∈ g', p ∈ g) : Later G o g' M wd σ env S H wd2 σ2 env2 S2 H2 :=
  ⟨L.sr, L.pre, L.ext, L.hM, L.hb, fun p hp => L.g p (hs p hp)⟩
theorem Sr.more {f : Tok → Sk} {xs : List V} {as : List A} {g g' : List (Nat × Cell)} (s : Sr G o f xs as g wd σ env S H) (hs : ∀ p ∈ g, p ∈ g') : Sr G o f xs as g' wd σ env S H :=
  ⟨s.len, fun M wd2 σ2 env2 S2 H2 L => s.at_ M wd2 σ2 env2 S2 H2 (L.less hs), fun M wd2 σ2 env2 S2 H2 L => s.rep M wd2 σ2 env2 S2 H2 (L.less hs)⟩
theorem signs_rep {K : PySem.W.Frag} {Bad : Addr → Prop} {H : Hp} {ρ : List Addr} : ∀ (l : List Nat), RepAs K Bad H ρ (l.map fun c => .str ⟨#[c]⟩) (l.map fun c => .val (.str ⟨#[c]⟩))
  | [] => .nil
  | _ :: l => .cons (.val (.str _)) (signs_rep l)
theorem sr_of {v : V} {a : A} {as : List A} {g : List (Nat × Cell)} (I : SR G wd σ H env S) (r : RepB G (BadOf wd σ env S) H wd.ρ v a) (ho : o = true ∨ RepA G.K (BadOf wd σ env S) H wd.ρ v a) (e : itemsA S a = some (as, g)) :
    ∃ xs f, IsSk G.K H v xs f ∧ Sr G o f xs as g wd σ env S H := by
  rcases src_of I r ho e with ⟨p, xs, t, rfl, s⟩ | ⟨z, rfl, rfl, rfl⟩
  · have sq := s.sq _ _ _ _ _ _ (Later.self I (items_guard e))
    cases t with
    | true => exact ⟨xs, _, .tup ((if_pos rfl).mp sq), s.len, fun M wd2 σ2 env2 S2 H2 L t => (if_pos rfl).mp (s.sq _ _ _ _ _ _ L), s.rep⟩
    | false => exact ⟨xs, _, .lst ((if_neg (by simp)).mp sq), s.len, fun M wd2 σ2 env2 S2 H2 L t => (if_neg (by simp)).mp (s.sq _ _ _ _ _ _ L), s.rep⟩
  · exact ⟨_, _, .txt, by simp [Sk.signs], fun M wd2 σ2 env2 S2 H2 L t => rfl, fun M wd2 σ2 env2 S2 H2 L => signs_rep _⟩
/-- the tuples of a walk -/
theorem walkG {K : PySem.W.Frag} {cc : Bool} {ks : List Sk} {xss : List (List V)} {n : Nat} (h1 : ∀ xs ∈ xss, n ≤ xs.length) (h2 : ∃ xs ∈ xss, xs.length = n) :
    Walk (ItG K cc ks) n (fun H => Ats K H ks xss) (fun i H v H' => ∃ T ys, v = .ref T ∧ H T = none ∧ H' = upd H T (.tup (Tr.pre cc i ++ ys)) ∧ xss.map (·[i]?) = ys.map some) :=
  ⟨fun i H hi g => ⟨xss, g, fun xs hx => Nat.lt_of_lt_of_le hi (h1 xs hx)⟩, fun H g => ⟨xss, g, h1, h2⟩, fun i H v H' hi g ⟨T, ys, e1, e2, e3, e4⟩ => ⟨T, ys, e1, e2, e3, e4 xss g⟩⟩
inductive Srs (G : Gam) (o : Bool) (g : List (Nat × Cell)) (wd : Wd) (σ : L2.St) (env : TEnv) (S : Store) (H : Hp) : List (Tok → Sk) → List (List V) → List (List A) → Prop
  | nil : Srs G o g wd σ env S H [] [] []
  | cons {f : Tok → Sk} {fs : List (Tok → Sk)} {xs : List V} {xss : List (List V)} {as : List A} {ass : List (List A)} : Sr G o f xs as g wd σ env S H → Srs G o g wd σ env S H fs xss ass → Srs G o g wd σ env S H (f :: fs) (xs :: xss) (as :: ass)
theorem Srs.lens {g : List (Nat × Cell)} : ∀ {fs : List (Tok → Sk)} {xss : List (List V)} {ass : List (List A)}, Srs G o g wd σ env S H fs xss ass → xss.map List.length = ass.map List.length
  | _, _, _, .nil => rfl
  | _, _, _, .cons s t => by rw [List.map_cons, List.map_cons, s.len, t.lens]
theorem Srs.row {g : List (Nat × Cell)} {M : Addr → Prop} {wd2 : Wd} {σ2 : L2.St} {env2 : TEnv} {S2 : Store} {H2 : Hp} (L : Later G o g M wd σ env S H wd2 σ2 env2 S2 H2) {i : Nat} :
    ∀ {fs : List (Tok → Sk)} {xss : List (List V)} {ass : List (List A)} {ys : List V}, Srs G o g wd σ env S H fs xss ass → xss.map (·[i]?) = ys.map some → ∃ bs, ass.map (·[i]?) = bs.map some ∧ RepAs G.K (BadOf wd2 σ2 env2 S2) H2 wd2.ρ ys bs
  | _, _, _, ys, .nil, e => by
    have : ys = [] := by simpa using e.symm
    subst this
    exact ⟨[], rfl, .nil⟩
  | _, _, _, [], .cons s t, e => by cases e
  | _, _, _, y :: ys, .cons s t, e => by
    rw [List.map_cons, List.map_cons] at e
    injection e with e1 e2
    obtain ⟨b, h1, h2⟩ := (s.rep _ _ _ _ _ _ L).getV e1
    obtain ⟨bs, h3, h4⟩ := Srs.row L t e2
    exact ⟨b :: bs, by rw [List.map_cons, List.map_cons, h1, h3], .cons h2 h4⟩
theorem heads_of : ∀ {ls : List (List A)} {bs : List A}, ls.map (·[0]?) = bs.map some → heads ls = some bs
  | [], [], _ => rfl
  | [], _ :: _, e => by cases e
  | _ :: _, [], e => by cases e
  | [] :: _, _ :: _, e => by cases e
  | (a :: _) :: ls, b :: bs, e => by
    rw [List.map_cons, List.map_cons] at e
    injection e with e1 e2
    cases e1
    simp only [heads, heads_of e2, Option.map_some]
theorem heads_ex {i : Nat} : ∀ {ls : List (List A)} {bs : List A}, ls.map (·[i]?) = bs.map some → ∃ hs, heads ls = some hs
  | [], _, _ => ⟨[], rfl⟩
  | _ :: _, [], e => by cases e
  | [] :: _, _ :: _, e => by cases e
  | (a :: _) :: ls, b :: bs, e => by
    rw [List.map_cons, List.map_cons] at e
    injection e with e1 e2
    obtain ⟨hs, h⟩ := heads_ex e2
    exact ⟨a :: hs, by simp only [heads, h, Option.map_some]⟩
theorem zipA_at : ∀ {n i : Nat} {ls : List (List A)} {bs : List A}, i < n → ls.map (·[i]?) = bs.map some → (zipA ls n)[i]? = some (mkTup bs)
  | 0, _, _, _, h, _ => absurd h (Nat.not_lt_zero _)
  | n + 1, 0, ls, bs, _, e => by simp only [zipA, heads_of e, List.getElem?_cons_zero]
  | n + 1, i + 1, ls, bs, h, e => by
    obtain ⟨hs, e1⟩ := heads_ex e
    simp only [zipA, e1, List.getElem?_cons_succ]
    refine zipA_at (by omega) ?_
    rw [← e, List.map_map]
    exact List.map_congr_left fun l _ => by simp
theorem zipA_le : ∀ {n : Nat} {ls : List (List A)}, (zipA ls n).length ≤ n ∧ (∀ l ∈ ls, (zipA ls n).length ≤ l.length) ∧ ((zipA ls n).length = n ∨ ∃ l ∈ ls, l.length = (zipA ls n).length)
  | 0, ls => ⟨Nat.le_refl _, fun l _ => Nat.zero_le _, .inl rfl⟩
  | n + 1, ls => by
    have hn : ∀ {ls : List (List A)}, heads ls = none → ∃ l ∈ ls, l = [] := by
      intro ls
      induction ls with
      | nil => intro h; cases h
      | cons l ls ih =>
        intro h
        cases l with
        | nil => exact ⟨[], List.mem_cons_self, rfl⟩
        | cons a l =>
          simp only [heads, Option.map_eq_none_iff] at h
          obtain ⟨l', m, e⟩ := ih h
          exact ⟨l', List.mem_cons_of_mem _ m, e⟩
    have hp : ∀ {ls : List (List A)} {hs : List A}, heads ls = some hs → ∀ l ∈ ls, 0 < l.length := by
      intro ls
      induction ls with
      | nil => intro hs h l m; cases m
      | cons l ls ih =>
        intro hs h l' m
        cases l with
        | nil => cases h
        | cons a l =>
          simp only [heads, Option.map_eq_some_iff] at h
          obtain ⟨hs', h, _⟩ := h
          rcases List.mem_cons.mp m with rfl | m
          · exact Nat.succ_pos _
          · exact ih h l' m
    cases e : heads ls with
    | none =>
      simp only [zipA, e]
      obtain ⟨l, m, rfl⟩ := hn e
      exact ⟨Nat.zero_le _, fun l _ => Nat.zero_le _, .inr ⟨[], m, rfl⟩⟩
    | some hs =>
      simp only [zipA, e, List.length_cons]
      obtain ⟨h1, h2, h3⟩ := zipA_le (n := n) (ls := ls.map (·.tail))
      refine ⟨Nat.succ_le_succ h1, fun l m => ?_, ?_⟩
      · have q1 := h2 l.tail (List.mem_map_of_mem (f := (·.tail)) m)
        have q2 := hp e l m
        rw [List.length_tail] at q1
        omega
      · rcases h3 with h3 | ⟨l, m, h3⟩
        · exact .inl (congrArg (· + 1) h3)
        · obtain ⟨l', m', rfl⟩ := List.mem_map.mp m
          have q2 := hp e l' m'
          rw [List.length_tail] at h3
          exact .inr ⟨l', m', by omega⟩
theorem srs_of (I : SR G wd σ H env S) : ∀ {vs : List V} {as : List A} {ass : List (List A)} {g : List (Nat × Cell)}, RepOs G o (BadOf wd σ env S) H wd.ρ vs as → itemsAs S as = some (ass, g) →
    ∀ g', (∀ p ∈ g, p ∈ g') → ∃ fs xss, Srs G o g' wd σ env S H fs xss ass ∧ vs.length = fs.length ∧ (∀ p ∈ g, S[p.1]? = some p.2) ∧
      ∀ (i : Nat) (v : V) (f : Tok → Sk), vs[i]? = some v → fs[i]? = some f → ∃ xs, IsSk G.K H v xs f
  | _, _, _, _, .nil, e, g', _ => by cases e; exact ⟨[], [], .nil, rfl, fun _ z => (nomatch z), fun i v f z => by simp at z⟩
  | _, _, _, _, .cons (a := a) h ho t, e, g', hg => by
    simp only [itemsAs] at e
    split at e
    · rename_i p e0
      obtain ⟨q, e1, e2⟩ := Option.map_eq_some_iff.mp e
      cases e2
      obtain ⟨xs, f, k, s⟩ := sr_of I h ho (as := p.1) (g := p.2) e0
      obtain ⟨fs, xss, ss, hl, hq, hk⟩ := srs_of I t (ass := q.1) (g := q.2) e1 g' fun z m => hg z (List.mem_append_right _ m)
      refine ⟨f :: fs, xs :: xss, .cons (s.more fun z m => hg z (List.mem_append_left _ m)) ss, congrArg (· + 1) hl, fun z m => ?_, fun i v f' h1 h2 => ?_⟩
      · rcases List.mem_append.mp m with m | m
        · exact items_guard (g := p.2) (as := p.1) e0 z m
        · exact hq z m
      · cases i with
        | zero => cases h1; cases h2; exact ⟨xs, k⟩
        | succ i => exact hk i v f' h1 h2
    · cases e
theorem Srs.ats {g : List (Nat × Cell)} {M : Addr → Prop} {wd2 : Wd} {σ2 : L2.St} {env2 : TEnv} {S2 : Store} {H2 : Hp} (L : Later G o g M wd σ env S H wd2 σ2 env2 S2 H2) :
    ∀ {fs : List (Tok → Sk)} {xss : List (List V)} {ass : List (List A)} {ts : List Tok}, Srs G o g wd σ env S H fs xss ass → fs.length = ts.length → Ats G.K H2 (List.zipWith (fun f t => f t) fs ts) xss
  | _, _, _, [], .nil, _ => .nil
  | _, _, _, t :: ts, .cons s r, e => .cons (s.at_ _ _ _ _ _ _ L t) (Srs.ats L r (by simpa using e))
  | _, _, _, _ :: _, .nil, e => by cases e
  | _, _, _, [], .cons s r, e => by cases e
/-- a new tuple that a walk gives -/
theorem row_item {g : List (Nat × Cell)} {M : Addr → Prop} {wd2 : Wd} {σ2 : L2.St} {env2 : TEnv} {S2 : Store} {H2 : Hp} (L : Later G o g M wd σ env S H wd2 σ2 env2 S2 H2) {T : Addr} {zs : List V} {bs : List A} (hT : H2 T = none) (r : RepAs G.K (BadOf wd2 σ2 env2 S2) H2 wd2.ρ zs bs) (h2 : 2 ≤ bs.length) :
    New H2 (upd H2 T (.tup zs)) ∧ RepI G.K (BadOf wd2 σ2 env2 S2) (upd H2 T (.tup zs)) wd2.ρ (.ref T) (mkTup bs) :=
  ⟨.inr ⟨T, _, hT, rfl⟩, .tup rfl (.inl (.inl upd_same)) h2 (r.ext (M := fun _ => False) L.sr.badOk (fun _ z => z.elim) (.new hT) (fun a z => .inl z) (List.prefix_refl _))⟩
theorem wlk_zip {g : List (Nat × Cell)} {fs : List (Tok → Sk)} {xss : List (List V)} {l : List A} {ass : List (List A)} {ts : List Tok} (s : Srs G o g wd σ env S H fs xss (l :: ass)) (hl : fs.length = ts.length) (h2 : 1 ≤ ass.length) :
    Wlk G true o (ItG G.K false (List.zipWith (fun f t => f t) fs ts)) (zipA (l :: ass) l.length) g wd σ env S H := by
  obtain ⟨z1, z2, z3⟩ := zipA_le (n := l.length) (ls := l :: ass)
  have hls := s.lens
  have e3 : ∃ x ∈ l :: ass, x.length = (zipA (l :: ass) l.length).length := by
    rcases z3 with z | z
    · exact ⟨l, List.mem_cons_self, z.symm⟩
    · exact z
  refine ⟨_, _, walkG (xss := xss) (fun xs hx => ?_) ?_, fun M wd2 σ2 env2 S2 H2 L => s.ats L hl, fun M wd2 σ2 env2 S2 H2 i x H' L hi y => ?_⟩
  · have m : xs.length ∈ xss.map List.length := List.mem_map_of_mem hx
    rw [hls] at m
    obtain ⟨l', m', e⟩ := List.mem_map.mp m
    rw [← e]; exact z2 l' m'
  · obtain ⟨l', m', e⟩ := e3
    have m : l'.length ∈ (l :: ass).map List.length := List.mem_map_of_mem m'
    rw [← hls] at m
    obtain ⟨xs, m2, e2⟩ := List.mem_map.mp m
    exact ⟨xs, m2, e2.trans e⟩
  · obtain ⟨T, ys, rfl, hT, rfl, e⟩ := y
    obtain ⟨bs, e1, r⟩ := Srs.row L s e
    have hbl : 2 ≤ bs.length := by
      have := congrArg List.length e1
      simp at this
      omega
    obtain ⟨n1, n2⟩ := row_item L hT r hbl
    exact ⟨n1, _, zipA_at (Nat.lt_of_lt_of_le hi z1) e1, n2, fun z => nomatch z⟩
theorem pairs_len : ∀ {k : Nat} {as : List A}, (pairsFrom k as).length = as.length
  | _, [] => rfl
  | k, _ :: as => congrArg (· + 1) (pairs_len (k := k + 1) (as := as))
theorem pairs_at : ∀ {k i : Nat} {as : List A} {b : A}, as[i]? = some b → (pairsFrom k as)[i]? = some (mkTup [.val (.int ((k + i : Nat) : Int)), b])
  | _, _, [], _, e => by simp at e
  | k, 0, a :: as, b, e => by cases e; rfl
  | k, i + 1, a :: as, b, e => by
    show (pairsFrom (k + 1) as)[i]? = _
    rw [pairs_at (k := k + 1) (by simpa using e)]
    congr 5
    omega
theorem wlk_enum {g : List (Nat × Cell)} {f : Tok → Sk} {xs : List V} {as : List A} {t : Tok} (s : Sr G o f xs as g wd σ env S H) :
    Wlk G true o (ItG G.K true [f t]) (pairsFrom 0 as) g wd σ env S H := by
  refine ⟨_, _, walkG (xss := [xs]) (fun ys hy => ?_) ⟨xs, List.mem_cons_self, by rw [pairs_len, s.len]⟩, fun M wd2 σ2 env2 S2 H2 L => .cons (s.at_ _ _ _ _ _ _ L t) .nil, fun M wd2 σ2 env2 S2 H2 i x H' L hi y => ?_⟩
  · have e : ys = xs := by simpa using hy
    rw [e, pairs_len, s.len]; exact Nat.le_refl _
  · obtain ⟨T, ys, rfl, hT, rfl, e⟩ := y
    obtain ⟨bs, e1, r⟩ := Srs.row L (.cons s .nil) e
    obtain ⟨b, rfl⟩ : ∃ b, bs = [b] := by
      have := congrArg List.length e1
      rcases bs with _ | ⟨b, _ | ⟨b', bs⟩⟩
      · simp at this
      · exact ⟨b, rfl⟩
      · simp at this
    have e2 : as[i]? = some b := by simpa using e1
    obtain ⟨n1, n2⟩ := row_item L hT (.cons (.val (.int (i : Nat))) r) (Nat.le_refl 2)
    exact ⟨n1, _, pairs_at e2, by rw [Nat.zero_add]; exact n2, fun z => nomatch z⟩
end
theorem Out.pass {α β : Type} {wd : Wd} {σ : L2.St} {env : TEnv} {S : Store} {H : Hp} {r : R α} {f : α → Store → R β} {P : β → Store → Prop} (h : Out G W wd σ env S H (r.bind f) P) : Out G W wd σ env S H r fun a S1 => Out G W wd σ env S H (f a S1) P := h.seq fun _ _ _ q => q
theorem Out.one {wd : Wd} {σ : L2.St} {env : TEnv} {S : Store} {H : Hp} {a : Ex} {Q : List A → Store → Prop} {P : A → Store → Prop} (h : Out G W wd σ env S H (evalE G.C a env S) P) (q : ∀ x S1, P x S1 → Q [x] S1) : Out G W wd σ env S H (evalEs G.C [a] env S) Q := by
  rw [evalEs_cons]
  cases e : evalE G.C a env S with
  | ok x S1 => rw [e] at h; simp only [evalEs, R.bind]; exact q x S1 h
  | exc k d S1 => rw [e] at h; exact h
  | err => rw [e] at h; exact h.elim
theorem SoundW.enum (a : Ex) (ha : Sound G a) : SoundW G (.enum a) := by
  refine ⟨fun X c W o tg e oX h => ?_⟩
  cases e <;> first | (cases h; done) | skip
  rename_i fn args kws pos
  cases fn <;> first | (cases h; done) | skip
  rename_i x p
  rcases args with _ | ⟨t, _ | ⟨u, ts⟩⟩ <;> first | (cases h; done) | skip
  rcases kws with _ | _ <;> first | (cases h; done) | skip
  obtain ⟨h0, h⟩ := ba h
  obtain ⟨h1, h⟩ := ba h
  obtain ⟨h2, h⟩ := ba h
  obtain ⟨h3, h4⟩ := ba h
  cases tg <;> first | (cases h0; done) | skip
  have e1 := de h1
  obtain ⟨g1, g2⟩ := oX.gl h2
  rw [e1] at g1 ⊢
  have pa := walks_of (es' := [a]) (es := [t]) (o := o) (fun e m => by rw [show e = a by simpa using m]; exact ha) oX (by simp only [chkEs, h3, Bool.and_true]) (by simp only [List.all_cons, h4, List.all_nil, Bool.and_true])
  refine PI.imp (pi_enumG g1 (oX.free _ (by decide)) pa (star1 h4)) fun σ H RR ⟨wd, env, S, I, h⟩ => ?_
  simp only [evalW] at h
  refine ⟨wd, env, S, I, Out.one (P := _) h.pass fun x S1 h vs ρ1 H1 st I1 r => ?_⟩
  cases r with
  | cons r ho r' =>
    cases r'
    split at h
    · rename_i as g ei
      obtain ⟨xs, f, k, s⟩ := sr_of I1 r ho ei
      exact ⟨_, xs, f, rfl, by rw [oX.K]; exact k, fun t => h _ ρ1 H1 st I1 (by rw [oX.K]; exact wlk_enum s)⟩
    · exact h.elim
theorem SoundW.zip (es : List Ex) (hs : ∀ e ∈ es, Sound G e) : SoundW G (.zip es) := by
  refine ⟨fun X c W o tg e oX h => ?_⟩
  cases e <;> first | (cases h; done) | skip
  rename_i fn args kws pos
  cases fn <;> first | (cases h; done) | skip
  rename_i x p
  rcases args with _ | ⟨t, _ | ⟨u, ts⟩⟩ <;> first | (cases h; done) | skip
  rcases kws with _ | _ <;> first | (cases h; done) | skip
  obtain ⟨h0, h⟩ := ba h
  obtain ⟨h1, h⟩ := ba h
  obtain ⟨h2, h⟩ := ba h
  obtain ⟨h3, h⟩ := ba h
  obtain ⟨h4, h5⟩ := ba h
  cases tg <;> first | (cases h0; done) | skip
  have e1 := de h1
  obtain ⟨g1, g2⟩ := oX.gl h2
  rw [e1] at g1 ⊢
  have pa := walks_of hs oX h3 h4
  have st := h4
  rw [List.all_cons] at st
  obtain ⟨s1, s2⟩ := ba st
  have key : ∀ {σ : L2.St} {H : Hp} {RR : It → Hp → Prop} {wd : Wd} {env : TEnv} {S S1 : Store} {as : List A}, Out G W wd σ env S H (match itemsAs S1 as with
        | some (l :: ls, g) => Tr.R.ok (zipA (l :: ls) l.length, g) S1
        | _ => .err) (fun p S' => ∀ J ρ' H', Step wd S H ρ' S' H' → SR G (wd.up ρ') σ H' env S' → Wlk G true o J p.1 p.2 (wd.up ρ') σ env S' H' → RR J H') →
      ∀ {vs : List V} {ρ1 : List Addr} {H1 : Hp}, Step wd S H ρ1 S1 H1 → SR G (wd.up ρ1) σ H1 env S1 → RepOs G o (BadOf (wd.up ρ1) σ env S1) H1 ρ1 vs as → 2 ≤ vs.length →
      ∃ fs : List (Tok → Sk), vs.length = fs.length ∧ (∀ (i : Nat) (v : V) (f : Tok → Sk), vs[i]? = some v → fs[i]? = some f → ∃ xs, IsSk G.K H1 v xs f) ∧ ∀ ts : List Tok, fs.length = ts.length → RR (ItG G.K false (List.zipWith (fun f t => f t) fs ts)) H1 := by
    intro σ H RR wd env S S1 as h vs ρ1 H1 st I1 r hv
    split at h
    · rename_i l ls g ei
      obtain ⟨fs, xss, ss, hl, hq, hk⟩ := srs_of I1 r ei g fun p m => m
      refine ⟨fs, hl, hk, fun ts ht => h _ ρ1 H1 st I1 (wlk_zip ss ht ?_)⟩
      have q1 := ss.lens
      have q2 : fs.length = (l :: ls).length := by
        have aux : ∀ {fs : List (Tok → Sk)} {xss : List (List V)} {ass : List (List A)}, Srs G o g (wd.up ρ1) σ env S1 H1 fs xss ass → fs.length = ass.length := by
          intro fs xss ass s
          induction s with
          | nil => rfl
          | cons _ _ ih => exact congrArg (· + 1) ih
        exact aux ss
      rw [List.length_cons] at q2
      omega
    · exact h.elim
  have hlen : ∀ {G' : Gam} {Bad : Addr → Prop} {H : Hp} {ρ : List Addr} {vs : List V} {as : List A}, RepOs G' o Bad H ρ vs as → vs.length = as.length := by
    intro G' Bad H ρ vs as r
    induction r with
    | nil => rfl
    | cons _ _ _ ih => exact congrArg (· + 1) ih
  have hel := chkEs_len h3
  rcases ts with _ | ⟨w, _ | ⟨y, ts⟩⟩
  · refine PI.imp (pi_zipG2 g1 (oX.free _ (by decide)) pa (star1 s1) (stars s2)) fun σ H RR ⟨wd, env, S, I, h⟩ => ?_
    simp only [evalW] at h
    refine ⟨wd, env, S, I, h.seq fun as S1 e1 h vs ρ1 H1 st I1 r => ?_⟩
    have hv : vs.length = 2 := (hlen r).trans ((evalEs_len e1).trans hel)
    obtain ⟨fs, hl, hk, q⟩ := key h st I1 r (by omega)
    rcases vs with _ | ⟨v, _ | ⟨v', _ | ⟨v2, vs⟩⟩⟩ <;> first | (simp at hv; done) | skip
    rcases fs with _ | ⟨f, _ | ⟨f', _ | ⟨f2, fs⟩⟩⟩ <;> first | (simp at hl; done) | skip
    obtain ⟨xs, k⟩ := hk 0 v f rfl rfl
    obtain ⟨xs', k'⟩ := hk 1 v' f' rfl rfl
    rw [oX.K]
    exact ⟨v, xs, f, v', xs', f', rfl, k, k', fun t t' => q [t, t'] rfl⟩
  · refine PI.imp (pi_zipG3 g1 (oX.free _ (by decide)) pa (star1 s1) (stars s2)) fun σ H RR ⟨wd, env, S, I, h⟩ => ?_
    simp only [evalW] at h
    refine ⟨wd, env, S, I, h.seq fun as S1 e1 h vs ρ1 H1 st I1 r => ?_⟩
    have hv : vs.length = 3 := (hlen r).trans ((evalEs_len e1).trans hel)
    obtain ⟨fs, hl, hk, q⟩ := key h st I1 r (by omega)
    rcases vs with _ | ⟨v, _ | ⟨v', _ | ⟨v2, _ | ⟨v3, vs⟩⟩⟩⟩ <;> first | (simp at hv; done) | skip
    rcases fs with _ | ⟨f, _ | ⟨f', _ | ⟨f2, _ | ⟨f3, fs⟩⟩⟩⟩ <;> first | (simp at hl; done) | skip
    obtain ⟨xs, k⟩ := hk 0 v f rfl rfl
    obtain ⟨xs', k'⟩ := hk 1 v' f' rfl rfl
    obtain ⟨xs2, k2⟩ := hk 2 v2 f2 rfl rfl
    rw [oX.K]
    exact ⟨v, xs, f, v', xs', f', v2, xs2, f2, rfl, k, k', k2, fun t t' t2 => q [t, t', t2] rfl⟩
  · have := de h5
    simp at this
end
end Tr


namespace Tr
open PySem L2
open PySem.Spec PyProof.Rows
mutual
theorem sound {G : Gam} : ∀ e : Ex, Sound G e
  | .var i => .var i
  | .own i => .own i
  | .const d => .const d
  | .glob x d => .glob x d
  | .tup es => .tup es (sounds es)
  | .lst es => .lst es (sounds es)
  | .bin o a b => .bin o a b (sound a) (sound b)
  | .neg a => .neg a (sound a)
  | .cmp o a b => .cmp o a b (sound a) (sound b)
  | .isN n a => .isN n a (sound a)
  | .isB n a b => .no fun c b e => by simp only [chkE]
  | .chain o o' a b c => .chain o o' a b c (sound a) (sound b) (sound c)
  | .ands es => .ands es (sounds es)
  | .ors es => .ors es (sounds es)
  | .not a => .not a (sound a)
  | .ife c a b => .ife c a b (sound c) (sound a) (sound b)
  | .idx a i => .idx a i (sound a) (sound i)
  | .slice a lo hi => .slice a lo hi (sound a) (soundO lo) (soundO hi)
  | .rev a => .rev a (sound a)
  | .lrange es => .lrange es (sounds es)
  | .len a => .len a (sound a)
  | .blt f es => .blt f es (sounds es)
  | .meth f a es => .meth f a es (sound a) (sounds es)
  | .call f es => .call f es (sounds es)
  | .comp tg it c e => .comp tg it c e (soundW it) (soundO c) (sound e)
  | .newc e => .newc e (sound e)
  | .newr es => .newr es (sounds es)
  | .newm tg it c e => .newm tg it c e (soundW it) (soundO c) (sound e)
  | .star t es => .no fun c b e => by simp only [chkE]
  | .fstr es => .no fun c b e => by simp only [chkE]
  | .fld a x => .no fun c b e => by simp only [chkE]
  | .callm k f o es => .no fun c b e => by simp only [chkE]
  | .new k f es => .no fun c b e => by simp only [chkE]
  | .exf i x => .no fun c b e => by simp only [chkE]
theorem sounds {G : Gam} : ∀ es : List Ex, ∀ e ∈ es, Sound G e
  | [], _, h => nomatch h
  | a :: as, e, h => (List.mem_cons.mp h).elim (fun z => z ▸ sound a) fun z => sounds as e z
theorem soundO {G : Gam} : ∀ o : Option Ex, ∀ a, o = some a → Sound G a
  | none, _, h => nomatch h
  | some b, a, h => (Option.some.inj h) ▸ sound b
theorem soundW {G : Gam} : ∀ w : Wk, SoundW G w
  | .seq a => .seq a (sound a)
  | .range es => .range es (sounds es)
  | .enum a => .enum a (sound a)
  | .zip es => .zip es (sounds es)
end
end Tr


namespace Tr
open PySem L2
open PySem.Spec PyProof.Rows

def augOp : BOp → Bool
  | .add => true
  | .sub => true
  | _ => false
def asgB (c : Ctx) (x : Str) : Bool := match c.sc.names.lookup x with
  | some .local => true
  | some .cell => c.fn x
  | _ => false
def setB (c : Ctx) (i : Nat) (x : Str) : Bool := decide (c.N[i]? = some x) && asgB c x
def locB (c : Ctx) (i : Nat) (x : Str) : Bool := decide (c.N[i]? = some x) && decide (c.sc.names.lookup x = some .local)
def noComp : Expr → Bool
  | .ListComp _ _ _ _ => false
  | .SetComp _ _ _ _ => false
  | .DictComp _ _ _ _ _ => false
  | _ => true
def bkOf (sc : Scope) : ScopeKind := if sc.kind.isAnnotationScope then .function else sc.kind
/-- a comprehension that is stored ahead of its block's end -/
def swB (c : Ctx) (x : Str) (p : Pos) : Expr → Bool
  | .ListComp _ _ s pos => bkOf c.sc == .function && c.sc.names.lookup x == some .local && p.line == pos.line && !(s.names.any fun (n, k) => n == x && (k == .local || k == .cell))
  | _ => false
/-- .. one that is not, or none -/
def lcOnly (c : Ctx) (x : Str) (p : Pos) : Expr → Bool
  | .SetComp _ _ _ _ => false
  | .DictComp _ _ _ _ _ => false
  | _ => true
/-- the names of a target that are locals on its row -/
def lnm (sc : Scope) (ts : List Expr) : List Str := ts.filterMap fun
  | .Name id pos => if sc.names.lookup id == some .local && pos.line == (ts.head?.map (·.pos.line)).getD 0 then some id else none
  | _ => none
/-- no stores are swapped -/
def nsw (c : Ctx) : Expr → Expr → Bool
  | .Tuple ts _ _, .Tuple vs _ _ => !(ts.length == 2 || ts.length == 3) || (vs.length != ts.length || (vs.all (foldedForSure 8) || (lnm c.sc ts).length != ts.length))
  | .List _ _, .Tuple _ _ _ => false
  | _, _ => true
/-- the names of a target whose stores are swapped -/
def swp (c : Ctx) (ts vs : List Expr) : Bool :=
  (ts.length == 2 || ts.length == 3) && (vs.length == ts.length && (bkOf c.sc == .function && (vs.all noStar && (!(vs.all (foldedForSure 8)) && !(vs.all (constantsAlone 8))))))
/-- a method that changes a list: its name, what is asked of the arguments -/
def moName : MO → Str
  | .append => "append"
  | .extend => "extend"
  | .insert => "insert"
  | .remove => "remove"
def moFr (c : Ctx) : MO → List Ex → Bool
  | .extend, [e] => freshE c.fr e
  | .extend, _ => false
  | _, _ => true
/-- a receiver: a name, or what cannot be a call without arguments -/
def popArgs (c : Ctx) : Option Ex → List Expr → Bool
  | none, [] => true
  | some e, [t] => chkE c true e t && noStar t
  | _, _ => false
/-- not in the text -/
def Cmd.ghost : Cmd → Bool
  | .rel _ => true
  | _ => false
def popE (c : Ctx) (r : Ex) (k : Option Ex) : Expr → Bool
  | .Call (.Attribute o n ap) ts [] p => decide (n = ("pop" : Str)) && (chkE c true r o && (popArgs c k ts && (noCall0 o && ap.endLine == p.line)))
  | _ => false

mutual
def chkS (c : Ctx) (rf : Bool) : Cmd → Stmt → Bool
  | .set i e, st => match st with
    | .Assign [.Name x p] v _ => setB c i x && (chkE c false e v && lcOnly c x p v)
    | _ => false
  | .setO i e, st => match st with
    | .Assign [.Name x p] v _ => setB c i x && (chkE c false e v && (lcOnly c x p v && freshE c.fr e))
    | _ => false
  | .setT is e, st => match st with
    | .Assign [tg] v _ => isTuple tg && (c.calm && (tgtB c is tg && (chkE c false e v && nsw c tg v)))
    | _ => false
  | .par is es, st => match st with
    | .Assign [.Tuple [.Name x p, .Name y q] _ _] (.Tuple [ea, eb] _ _) _ => match is with
      | [i, j] => c.calm && (locB c i x && (locB c j y && (decide (x ≠ y) && (p.line == q.line && (chkEs c false es [ea, eb] && swp c [.Name x p, .Name y q] [ea, eb])))))
      | _ => false
    | .Assign [.Tuple [.Name x p, .Name y q, .Name z r] _ _] (.Tuple [ea, eb, ec] _ _) _ => match is with
      | [i, j, l] => c.calm && (locB c i x && (locB c j y && (locB c l z && (decide (x ≠ y ∧ x ≠ z ∧ y ≠ z) && (p.line == q.line && (p.line == r.line && (chkEs c false es [ea, eb, ec] && swp c [.Name x p, .Name y q, .Name z r] [ea, eb, ec])))))))
      | _ => false
    | _ => false
  | .aug i o e, st => match st with
    | .AugAssign (.Name x _) op v _ => setB c i x && (decide (op = opOf o) && (augOp o && chkE c true e v))
    | _ => false
  | .mth m r es, st => match st with
    | .Expr (.Call (.Attribute o n ap) (t :: ts) [] p) _ => decide (n = moName m) && (chkE c true r o && (chkEs c false es (t :: ts) && (moFr c m es && ((t :: ts).all noStar && (noCall0 o && (ap.endLine == p.line && decide ((t :: ts).length < 29)))))))
    | _ => false
  | .pop dst r k, st => match dst, st with
    | [], .Expr e _ => popE c r k e
    | [i], .Assign [.Name x p] e _ => setB c i x && popE c r k e
    | i :: j :: is, .Assign [tg] e _ => isTuple tg && (c.calm && (tgtB c (i :: j :: is) tg && popE c r k e))
    | _, _ => false
  | .put r k e, st => match st with
    | .Assign [.Subscript o ke _] v _ => chkE c true r o && (chkE c false e v && (chkE c true k ke && noSlice ke))
    | _ => false
  | .augPut r k o e, st => match st with
    | .AugAssign (.Subscript ob ke _) op v _ => chkE c true r ob && (decide (op = opOf o) && (augOp o && (chkE c true e v && (chkE c true k ke && noSlice ke))))
    | _ => false
  | .expr e, st => match st with
    | .Expr v _ => chkE c false e v && noComp v
    | _ => false
  | .ifs t a b, st => match st with
    | .If te sa sb _ => chkE c false t te && (chkSs c rf a sa && chkSs c rf b sb)
    | _ => false
  | .fors tg it body, st => match st with
    | .For t i sb [] _ => c.calm && (chkW c false it t i && (noSet i && (tgtB c tg t && chkSs c rf body sb)))
    | _ => false
  | .whil n t body, st => match st with
    | .While te sb [] _ => chkE c false t te && chkSs c rf body sb
    | _ => false
  | .ret e, st => match st with
    | .Return (some v) _ => chkE c false e v && (!rf || freshE c.fr e)
    | _ => false
  | .retO i, st => match st with
    | .Return (some (.Name x _)) _ => nmB c i x
    | _ => false
  | .retN, st => match st with
    | .Return none _ => true
    | _ => false
  | .pass, st => match st with
    | .Pass _ => true
    | _ => false
  | .brk, st => match st with
    | .Break _ => true
    | _ => false
  | .cnt, st => match st with
    | .Continue _ => true
    | _ => false
  | .doc, st => match st with
    | .Expr (.Constant (.str _) _ _) _ => true
    | _ => false
  | _, _ => false
def chkSs (c : Ctx) (rf : Bool) : List Cmd → List Stmt → Bool
  | [], ts => ts.isEmpty
  | s :: ss, ts => if s.ghost = true then chkSs c rf ss ts else match ts with
    | t :: ts => chkS c rf s t && chkSs c rf ss ts
    | [] => false
end

/-- what a walk has done -/
structure Run (wd : Wd) (S : Store) (ρ' : List Addr) (S' : Store) : Prop where
  pre : wd.ρ <+: ρ'
  new : ∀ a ∈ ρ', a ∈ wd.ρ ∨ wd.He a = none
  dead : ∀ n : Nat, S[n]? = some .dead → S'[n]? = some .dead
section
variable {G : Gam} {W : WX} {wd : Wd} {σ : L2.St} {H H' H1 : Hp} {env : TEnv} {S S' S1 S2 : Store} {ρ1 ρ2 : List Addr}
theorem Run.refl : Run wd S wd.ρ S := ⟨List.prefix_refl _, fun _ m => .inl m, fun _ e => e⟩
theorem SR.run (I : SR G wd σ H env S) (st : Step wd S H ρ1 S1 H1) : Run wd S ρ1 S1 := ⟨st.pre, fun a m => (st.new a m).imp id I.noneHe, st.dead⟩
theorem Run.trans (h : Run wd S ρ1 S1) (g : Run (wd.up ρ1) S1 ρ2 S2) : Run wd S ρ2 S2 :=
  ⟨h.pre.trans g.pre, fun a m => (g.new a m).elim (h.new a) .inr, fun n e => g.dead n (h.dead n e)⟩
end
structure RetP (G : Gam) (rf : Bool) (wd : Wd) (S' : Store) (a : A) (v : V) (H : Hp) : Prop where
  sr : SR G wd [] H [] S'
  rep : RepA G.K (BadOf wd [] [] S') H wd.ρ v a
  fresh : rf = true → ∀ ds, a = .val (.list ds) → ∃ p xs, v = .ref p ∧ (wd.M p ∨ wd.He p = none) ∧ ¬ wd.B0 p ∧ p ∉ wd.ρ ∧ H p = some (.lst xs) ∧ SR G (wd.plus p) [] H [] S' ∧ Reps G.K (BadOf (wd.plus p) [] [] S') H xs ds
def EndsOf (G : Gam) (W : WX) (rf : Bool) (wd : Wd) (S : Store) (r : RS) (D : Ends) : Prop := match r with
  | .nx env S' => ∀ σ H ρ, Run wd S ρ S' → SR G (wd.up ρ) σ H env S' → D.nx σ H
  | .bk env S' => ∀ σ H ρ, Run wd S ρ S' → SR G (wd.up ρ) σ H env S' → D.bk σ H
  | .ct env S' => ∀ σ H ρ, Run wd S ρ S' → SR G (wd.up ρ) σ H env S' → D.ct σ H
  | .rt a S' => ∀ v H ρ, Run wd S ρ S' → RetP G rf (wd.up ρ) S' a v H → D.rt v H
  | .exc k d env S' => ∀ σ H ρ cls x, Run wd S ρ S' → SR G (wd.up ρ) σ H env S' → XRep G (BadOf (wd.up ρ) σ env S') H k d cls x → W cls x σ H
  | .err => False
def tS (G : Gam) (W : WX) (rf : Bool) (s : Cmd) : TS := fun D σ H => ∃ wd env S, SR G wd σ H env S ∧ EndsOf G W rf wd S (exec G.C s env S) D
def tSs (G : Gam) (W : WX) (rf : Bool) (ss : List Cmd) : TS := fun D σ H => ∃ wd env S, SR G wd σ H env S ∧ EndsOf G W rf wd S (execs G.C ss env S) D
theorem PS.imp {X : Cx} {st : Stmt} {t t' : TS} (h : PS X st t) (i : ∀ D σ H, t' D σ H → t D σ H) : PS X st t' := ⟨fun pins s σ H D I q => h.run pins s σ H D I (i D σ H q)⟩
theorem PSs.imp {X : Cx} {st : List Stmt} {t t' : TS} (h : PSs X st t) (i : ∀ D σ H, t' D σ H → t D σ H) : PSs X st t' := ⟨fun pins s σ H D I q => h.run pins s σ H D I (i D σ H q)⟩
structure SoundS (G : Gam) (s : Cmd) : Prop where
  run : ∀ (X : Cx) (c : Ctx) (W : WX) (rf : Bool) (st : Stmt), XOk X G c W → chkS c rf s st = true → PS X st (tS G W rf s)
structure SoundSs (G : Gam) (s : List Cmd) : Prop where
  run : ∀ (X : Cx) (c : Ctx) (W : WX) (rf : Bool) (st : List Stmt), XOk X G c W → chkSs c rf s st = true → PSs X st (tSs G W rf s)
section
variable {G : Gam} {W : WX} {rf : Bool} {wd : Wd} {σ : L2.St} {H H' H1 : Hp} {env : TEnv} {S S' S1 S2 : Store} {ρ1 ρ2 : List Addr} {D : Ends}
theorem EndsOf.grow {r : RS} (h : EndsOf G W rf wd S r D) (g : Run wd S ρ1 S1) : EndsOf G W rf (wd.up ρ1) S1 r D := by
  cases r with
  | nx env S2 => exact fun σ H ρ p I => h σ H ρ (g.trans p) I
  | bk env S2 => exact fun σ H ρ p I => h σ H ρ (g.trans p) I
  | ct env S2 => exact fun σ H ρ p I => h σ H ρ (g.trans p) I
  | rt a S2 => exact fun v H ρ p R => h v H ρ (g.trans p) R
  | exc k d env S2 => exact fun σ H ρ cls x p I q => h σ H ρ cls x (g.trans p) I q
  | err => exact h
/-- behind an expression -/
theorem EndsOf.thn {α : Type} {r : R α} {f : α → Store → RS} (I : SR G wd σ H env S) (h : EndsOf G W rf wd S (r.thn env f) D) : Out G W wd σ env S H r fun a S1 => EndsOf G W rf wd S (f a S1) D := by
  cases r with
  | ok a S1 => exact h
  | exc k d S1 => exact fun cls x H' ⟨ρ1, st, I1, xr⟩ => h σ H' ρ1 cls x (I.run st) I1 xr
  | err => exact h
/-- what is stored at names -/
theorem Post.sr {fr : Bool} {a : A} {v : V} (p : Post G wd σ env S H fr a S1 v H1) : ∃ ρ1, Step wd S H ρ1 S1 H1 ∧ SR G (wd.up ρ1) σ H1 env S1 ∧ RepA G.K (BadOf (wd.up ρ1) σ env S1) H1 ρ1 v a := let ⟨ρ1, a, b, c, _⟩ := p; ⟨ρ1, a, b, c⟩
end
section
variable {G : Gam} {X : Cx} {c : Ctx} {W : WX}
theorem asg_loc {x : Str} (o : XOk X G c W) (h : asgB c x = true) : L2.Loc X.env.scope x ∧ (X.fn x = true ∨ X.env.scope.names.lookup x = some .local) := by
  unfold asgB at h
  unfold L2.Loc
  rw [o.sc]
  split at h
  · exact ⟨.inl (by assumption), .inr (by assumption)⟩
  · exact ⟨.inr (by assumption), .inl (o.fn x h)⟩
  · cases h
theorem setB_ok {i : Nat} {x : Str} (o : XOk X G c W) (h : setB c i x = true) : X.N.Nodup ∧ X.N[i]? = some x ∧ L2.Loc X.env.scope x ∧ (X.fn x = true ∨ X.env.scope.names.lookup x = some .local) := by
  obtain ⟨h1, h2⟩ := ba h
  obtain ⟨q1, q2⟩ := asg_loc o h2
  exact ⟨by rw [o.N]; exact o.nd, by rw [o.N]; exact de h1, q1, q2⟩
theorem locB_ok {i : Nat} {x : Str} (o : XOk X G c W) (h : locB c i x = true) : X.N[i]? = some x ∧ X.env.scope.names.lookup x = some .local := by
  obtain ⟨h1, h2⟩ := ba h
  exact ⟨by rw [o.N]; exact de h1, by rw [o.sc]; exact de h2⟩
theorem sw_comp (o : XOk X G c W) {x : Str} {p pos : Pos} {el : Expr} {gs : List Comprehension} {s : Scope} {l : Nat} : swapsWith (.ListComp el gs s pos) (some (.Name x p)) l X.env = pure (swB c x p (.ListComp el gs s pos)) := by
  unfold swapsWith swB Env.blockKind Env.kindOf bkOf
  rw [o.sc]
  rfl
theorem sw_no {e : Expr} (h : noComp e = true) {t : Option Expr} {l : Nat} {env : Env} : swapsWith e t l env = pure false := by
  cases e <;> first | rfl | (cases h; done)
theorem sw_sub {e o i : Expr} {p : Pos} {l : Nat} {env : Env} : swapsWith e (some (.Subscript o i p)) l env = pure false := by
  cases e <;> rfl
theorem sw_tup {e : Expr} {es : List Expr} {k : Nat} {p : Pos} {l : Nat} {env : Env} : swapsWith e (some (.Tuple es k p)) l env = pure false := by
  cases e <;> rfl
theorem ssw_sub {e o i : Expr} {p : Pos} {env : Env} : swappedStores [.Subscript o i p] e env = pure none := by
  cases e <;> rfl
theorem sole {t v : Expr} {l : Nat} {env : Env} : swapsWithSole [t] v l env = swapsWith v (some t) l env := rfl
/-- the readings of a list comprehension -/
inductive IsLc : Ex → List Nat → Wk → Option Ex → Ex → Prop
  | comp {tg : List Nat} {it : Wk} {cd : Option Ex} {el : Ex} : IsLc (.comp tg it cd el) tg it cd el
  | newm {tg : List Nat} {it : Wk} {cd : Option Ex} {el : Ex} : IsLc (.newm tg it cd el) tg it cd el
  | newc {e : Ex} {tg : List Nat} {it : Wk} {cd : Option Ex} {el : Ex} : IsLc e tg it cd el → IsLc (.newc e) tg it cd el
theorem newc_red {a : Ex} (hf : freshE G.fr a = true) (σ : L2.St) (H : Hp) (Q : VK) (h : tE G W (.newc a) σ H Q) : tE G W a σ H Q := by
  obtain ⟨wd, env, S, I, h⟩ := h
  simp only [evalE] at h
  refine ⟨wd, env, S, I, h.seq fun x S1 e1 h v H1 p => ?_⟩
  rw [hf] at p
  split at h
  · exact h _ _ (post_newc I p)
  · exact h.elim
/-- a list comprehension's text, by its parts -/
theorem lc_parts {e : Ex} (o : XOk X G c W) {el' : Expr} {gs : List Comprehension} {scope : Scope} {pos : Pos} (h : chkE c false e (.ListComp el' gs scope pos) = true) :
    ∃ tg it cd el t i ifs, gs = [⟨t, i, ifs, 0⟩] ∧ LcOk X G c W tg it cd el t i ifs el' scope ∧ ∀ (σ : L2.St) (H : Hp) (Q : VK), tE G W e σ H Q → tLc (tI G W (isTuple t) true it) (gT G.K (isTuple t) tg) (tCl G cd) (tE G W0 el) tg σ H Q := by
  generalize hn : sizeOf e = n
  induction n using Nat.strongRecOn generalizing e with
  | _ n ih =>
    cases e <;> first | (cases h; done) | skip
    · rename_i tg it cd el
      rcases gs with _ | ⟨⟨t, i, ifs, (_ | m) | m⟩, _ | _⟩ <;> first | (cases h; done) | skip
      exact ⟨tg, it, cd, el, t, i, ifs, rfl, lcOk (soundW it) (soundO cd) (sound el) o h, comp_red⟩
    · rename_i a
      obtain ⟨h1, h2⟩ := ba h
      rw [o.fr] at h2
      obtain ⟨tg, it, cd, el, t, i, ifs, e1, L, red⟩ := ih (sizeOf a) (by rw [← hn]; simp) h1 rfl
      exact ⟨tg, it, cd, el, t, i, ifs, e1, L, fun σ H Q q => red σ H Q (newc_red h2 σ H Q q)⟩
    · rename_i tg it cd el
      rcases gs with _ | ⟨⟨t, i, ifs, (_ | m) | m⟩, _ | _⟩ <;> first | (cases h; done) | skip
      exact ⟨tg, it, cd, el, t, i, ifs, rfl, lcOk (soundW it) (soundO cd) (sound el) o h, newm_red⟩
/-- a value is stored at a name -/
theorem ps_store {i : Nat} {x : Str} {e : Ex} {v : Expr} {p pos : Pos} (o : XOk X G c W) (h1 : setB c i x = true) (h2 : chkE c false e v = true) (h4 : lcOnly c x p v = true) : PS X (.Assign [.Name x p] v pos) (tAsg (tE G W e) (gName i)) := by
  obtain ⟨q1, q2, q3, q4⟩ := setB_ok o h1
  by_cases hn : noComp v = true
  · exact ps_set q1 q2 q3 ((sound e).val X c W v o h2) (sw_no hn) q4
  · cases v with
    | ListComp el gs s pos' =>
      by_cases hs : swB c x p (.ListComp el gs s pos') = true
      · obtain ⟨tg, it, cd, el2, t, i', ifs, rfl, L, red⟩ := lc_parts o h2
        have hl : X.env.scope.names.lookup x = some .local := by
          rw [o.sc]
          unfold swB at hs
          simp only [Bool.and_eq_true, beq_iff_eq] at hs
          exact hs.1.1.2
        have ps := ps_setLc (spos := pos) (pos := pos') (py := p) L.calm L.hN q2 hl ((sw_comp o).trans (congrArg pure hs)) L.hi L.ok L.hg L.ht L.he L.hs
        rw [ownOf_snd] at ps
        exact PS.imp ps fun D σ H q => red σ H _ q
      · have hs' : swB c x p (.ListComp el gs s pos') = false := by
          cases z : swB c x p (.ListComp el gs s pos') with
          | true => exact absurd z hs
          | false => rfl
        exact ps_set q1 q2 q3 ((sound e).val X c W _ o h2) (by rw [sw_comp o, hs']) q4
    | SetComp _ _ _ _ => cases h4
    | DictComp _ _ _ _ _ => cases h4
    | _ => exact absurd rfl hn
theorem SoundS.set (i : Nat) (e : Ex) : SoundS G (.set i e) := by
  refine ⟨fun X c W rf st o h => ?_⟩
  unfold chkS at h
  split at h
  · rename_i x p v pos
    obtain ⟨h1, h⟩ := ba h
    obtain ⟨h2, h4⟩ := ba h
    refine PS.imp (ps_store o h1 h2 h4) fun D σ H ⟨wd, env, S, I, h⟩ => ?_
    refine ⟨wd, env, S, I, (h.thn I).mono fun a S1 e1 h v H1 p => ?_⟩
    obtain ⟨ρ1, st, I1, r⟩ := p.sr
    exact h _ _ ρ1 (I.run st) (I1.setV (.at_ r) (atom_own r))
  · cases h
theorem SoundS.setO (i : Nat) (e : Ex) : SoundS G (.setO i e) := by
  refine ⟨fun X c W rf st o h => ?_⟩
  unfold chkS at h
  split at h
  · rename_i x p v pos
    obtain ⟨h1, h⟩ := ba h
    obtain ⟨h2, h⟩ := ba h
    obtain ⟨h4, h5⟩ := ba h
    rw [o.fr] at h5
    refine PS.imp (ps_store o h1 h2 h4) fun D σ H ⟨wd, env, S, I, h⟩ => ?_
    refine ⟨wd, env, S, I, (h.thn I).mono fun a S1 e1 h v H1 p => ?_⟩
    obtain ⟨ρ1, st, I1, r, f⟩ := p
    split at h
    · rename_i ds
      obtain ⟨q, xs, rfl, n0, nB, nρ, h1, J, rs⟩ := f h5 ds rfl
      exact h _ _ ρ1 (I.run st) (J.setO nB nρ (I.noneHe n0) (.lst h1 rs) fun z => nomatch z)
    · exact h.elim
  · cases h
theorem nsw_ok (o : XOk X G c W) {tg v : Expr} (h : nsw c tg v = true) : swappedStores [tg] v X.env = pure none := by
  cases tg with
  | Tuple ts k1 p1 =>
    cases v with
    | Tuple vs k2 p2 =>
      unfold nsw at h
      unfold swappedStores
      simp only [Bool.or_eq_true] at h
      dsimp only
      have key : ∀ m : Nat, (List.filterMap (fun e => match e with
          | .Name id pos => if X.env.kindOf id == some .local && pos.line == (ts.head?.map (·.pos.line)).getD 0 then some id else none
          | _ => none) ts).length = m → m = (lnm c.sc ts).length := fun m e => by
        rw [← e]
        unfold lnm Env.kindOf
        rw [o.sc]
        try rfl
      rcases h with h | h | h | h
      · simp [h]
      · simp [h]
      · simp only [h, if_true]
        split
        · rfl
        · split
          · rfl
          · split <;> rfl
      · split
        · rfl
        · split
          · rfl
          · rw [if_pos]
            rw [Bool.or_eq_true]
            left
            have e := key _ rfl
            have h : ((lnm c.sc ts).length != ts.length) = true := h
            rw [← e] at h
            exact h
    | _ => rfl
  | List ts p1 =>
    cases v <;> first | rfl | (cases h; done)
  | _ => cases v <;> rfl
/-- a value is taken apart -/
theorem ps_take {is : List Nat} {tg v : Expr} {te : TE} {pos : Pos} (o : XOk X G c W) (h1 : isTuple tg = true) (h2 : c.calm = true) (h3 : tgtB c is tg = true) (he : PE X v te) (h5 : swappedStores [tg] v X.env = pure none) :
    PS X (.Assign [tg] v pos) (tAsg te (gT G.K (isTuple tg) is)) := by
  have pg := pg_ok o (fun _ => o.calm h2) h3
  have hs : swapsWithSole [tg] v pos.line X.env = pure false := by
    cases tg <;> first | (cases h1; done) | (rw [sole]; exact sw_tup)
  have ha : (assignEach [tg] X.env).map (·.2) = [assign tg X.env] := by
    cases tg <;> first | (cases h1; done) | rfl
  exact ps_asg he pg hs h5 ha
theorem SoundS.setT (is : List Nat) (e : Ex) : SoundS G (.setT is e) := by
  refine ⟨fun X c W rf st o h => ?_⟩
  unfold chkS at h
  split at h
  · rename_i tg v pos
    obtain ⟨h1, h⟩ := ba h
    obtain ⟨h2, h⟩ := ba h
    obtain ⟨h3, h⟩ := ba h
    obtain ⟨h4, h5⟩ := ba h
    refine PS.imp (ps_take o h1 h2 h3 ((sound e).val X c W v o h4) (nsw_ok o h5)) fun D σ H ⟨wd, env, S, I, h⟩ => ?_
    refine ⟨wd, env, S, I, (h.thn I).mono fun a S1 e1 h w H1 p => ?_⟩
    obtain ⟨ρ1, st, I1, r⟩ := p.sr
    split at h
    · rename_i env' eb
      obtain ⟨ds, t1, hl, rfl⟩ := bindT_takes eb
      exact ⟨_, ρ1, a, ds, .of r, fun _ => r, t1, fun vs rs => h _ _ ρ1 (I.run st) (I1.bind rs)⟩
    · exact h.elim
  · cases h
end
end Tr


namespace Tr
open PySem L2
open PySem.Spec PyProof.Rows

section
variable {K : PySem.W.Frag} {Bad : Addr → Prop} {H : Hp} {ρ : List Addr}
theorem Reps.erase : ∀ {vs : List V} {ds : List PyData} (n : Nat), Reps K Bad H vs ds → Reps K Bad H (vs.eraseIdx n) (ds.eraseIdx n)
  | _, _, _, .nil => .nil
  | _, _, 0, .cons _ t => t
  | _, _, n + 1, .cons h t => .cons h (t.erase n)
theorem Reps.front : ∀ {vs : List V} {ds : List PyData}, Reps K Bad H vs ds → Reps K Bad H vs.dropLast ds.dropLast
  | _, _, .nil => .nil
  | _, _, .cons h .nil => .nil
  | _, _, .cons h (.cons h' t) => .cons h (Reps.front (.cons h' t))
theorem RepAs.take : ∀ {vs : List V} {ds : List A} (n : Nat), RepAs K Bad H ρ vs ds → RepAs K Bad H ρ (vs.take n) (ds.take n)
  | _, _, 0, _ => by rw [List.take_zero, List.take_zero]; exact .nil
  | _, _, n + 1, .nil => .nil
  | _, _, n + 1, .cons h t => .cons h (t.take n)
theorem RepAs.drop : ∀ {vs : List V} {ds : List A} (n : Nat), RepAs K Bad H ρ vs ds → RepAs K Bad H ρ (vs.drop n) (ds.drop n)
  | _, _, 0, h => by rw [List.drop_zero, List.drop_zero]; exact h
  | _, _, n + 1, .nil => by simpa using .nil
  | _, _, n + 1, .cons _ t => by rw [List.drop_succ_cons, List.drop_succ_cons]; exact t.drop n
theorem RepAs.erase : ∀ {vs : List V} {ds : List A} (n : Nat), RepAs K Bad H ρ vs ds → RepAs K Bad H ρ (vs.eraseIdx n) (ds.eraseIdx n)
  | _, _, _, .nil => .nil
  | _, _, 0, .cons _ t => t
  | _, _, n + 1, .cons h t => .cons h (t.erase n)
theorem RepAs.front : ∀ {vs : List V} {ds : List A}, RepAs K Bad H ρ vs ds → RepAs K Bad H ρ vs.dropLast ds.dropLast
  | _, _, .nil => .nil
  | _, _, .cons h .nil => .nil
  | _, _, .cons h (.cons h' t) => .cons h (RepAs.front (.cons h' t))
theorem RepAs.one {vs : List V} {a : A} (h : RepAs K Bad H ρ vs [a]) : ∃ v, vs = [v] ∧ RepA K Bad H ρ v a := by
  cases h with
  | cons h t => cases t; exact ⟨_, rfl, h⟩
theorem RepAs.two {vs : List V} {a b : A} (h : RepAs K Bad H ρ vs [a, b]) : ∃ v w, vs = [v, w] ∧ RepA K Bad H ρ v a ∧ RepA K Bad H ρ w b := by
  cases h with
  | cons h t => obtain ⟨w, rfl, r⟩ := t.one; exact ⟨_, w, rfl, h, r⟩
theorem RepAs.three {vs : List V} {a b c : A} (h : RepAs K Bad H ρ vs [a, b, c]) : ∃ v w u, vs = [v, w, u] ∧ RepA K Bad H ρ v a ∧ RepA K Bad H ρ w b ∧ RepA K Bad H ρ u c := by
  cases h with
  | cons h t => obtain ⟨w, u, rfl, r⟩ := t.two; exact ⟨_, w, u, rfl, h, r⟩
theorem RepA.d {v : V} {d : PyData} (h : RepA K Bad H ρ v (.val d)) : Rep K Bad H v d := by cases h; assumption
end

def tR (G : Gam) (W : WX) (r : Ex) : TE := fun σ H Q => ∃ wd env S, SR G wd σ H env S ∧ Out G W wd σ env S H (evalE G.C r env S) fun a S' => ∀ v H' ρ', Step wd S H ρ' S' H' → SR G (wd.up ρ') σ H' env S' → RepB G (BadOf (wd.up ρ') σ env S') H' ρ' v a →
  (∀ i c, r = .own i → a = .own c → env[i]? = some (some (.own c)) ∧ σ[i]? = some (some v)) → Q v H'
section
variable {G : Gam} {X : Cx} {c : Ctx} {W : WX} {rf : Bool} {wd : Wd} {σ : L2.St} {H H' H1 : Hp} {env : TEnv} {S S' S1 S2 : Store} {ρ1 ρ2 : List Addr} {D : Ends}
theorem pe_recv {r : Ex} {e : Expr} (o : XOk X G c W) (h : chkE c true r e = true) : PE X e (tR G W r) := by
  by_cases hr : ∃ i, r = .own i
  · obtain ⟨i, rfl⟩ := hr
    cases e with
    | Name x pos =>
      obtain ⟨q1, q2, q3, q4⟩ := o.look (ba h).1
      refine PE.imp (pe_var q1 q2 q3 q4) fun σ H Q ⟨wd, env, S, I, h⟩ => ?_
      simp only [evalE] at h
      split at h
      · rename_i cc e1
        have e1 := getV_some e1
        obtain ⟨v, w1, w2⟩ := I.var i _ e1
        refine ⟨v, w1, h v H wd.ρ I.refl I ?_ fun j c' z z' => by cases z; cases z'; exact ⟨e1, w1⟩⟩
        cases w2 with
        | at_ r => cases r
        | own e2 h1 h2 => exact .own e2 h1 h2 (I.ownρ _ ⟨i, ⟨_, e1⟩, e2 ▸ w1⟩)
      · exact h.elim
    | _ => cases h
  · exact PE.imp ((sound r).bor X c W e o h) fun σ H Q ⟨wd, env, S, I, h⟩ => ⟨wd, env, S, I, h.mono fun a S1 _ q v H1 ⟨ρ1, st, I1, rb⟩ => q v H1 ρ1 st I1 rb fun i c z => absurd ⟨i, z⟩ hr⟩
def adr : V → Addr
  | .ref p => p
  | _ => 0
/-- the object of a receiver, to be changed -/
structure Mu (G : Gam) (D : Ends) (wd : Wd) (σ : L2.St) (env : TEnv) (S : Store) (H : Hp) (p : Addr) (c : Cell) (n : Nat) (nx : Hp → Cell → Prop) : Prop where
  ob : ObjC G (BadOf wd σ env S) H wd.ρ p c
  nd : c ≠ .dead
  bad : BadOf wd σ env S p
  blw : ∀ b, wd.bs b → n < b → CBelow b c
  fin : ∀ c' o, Mut (some o) → c' ≠ .dead → ObjC G (BadOf wd σ env S) (upd H p o) wd.ρ p c' → (∀ b, wd.bs b → n < b → CBelow b c') → nx (upd H p o) c'
theorem mu_own {nx : Hp → Cell → Prop} {i : Nat} {cc : Cell} {v : V} (I : SR G wd σ H env S) (e1 : env[i]? = some (some (.own cc))) (e2 : σ[i]? = some (some v))
    (q : ∀ o c', SR G wd σ (upd H (adr v) o) (env.set i (some (.own c'))) S → nx (upd H (adr v) o) c') : ∃ p, v = .ref p ∧ Mu G D wd σ env S H p cc S.length nx := by
  obtain ⟨p, oa, h1, h2⟩ := I.ownAt e1
  have e3 := oa.2
  rw [e2] at e3
  cases e3
  exact ⟨p, rfl, h1, h2, .inl (.inr ⟨i, oa⟩), fun b hb hn => absurd hn (by have := I.bsb b hb; have := I.base; omega), fun c' o ho hc hr _ => q o c' (I.putO oa ho hc hr)⟩
theorem mu_ref {nx : Hp → Cell → Prop} {n : Nat} {cc : Cell} {v : V} (I : SR G wd σ H env S) (r : RepB G (BadOf wd σ env S) H wd.ρ v (.ref n)) (e : S[n]? = some cc) (hc : cc ≠ .dead)
    (q : ∀ o c', SR G wd σ (upd H (adr v) o) env (S.set n c') → Step wd S H wd.ρ (S.set n c') (upd H (adr v) o) → nx (upd H (adr v) o) c') : ∃ p, v = .ref p ∧ Mu G D wd σ env S H p cc n nx := by
  cases r with
  | at_ r =>
    cases r with
    | ref hp =>
      rename_i p
      exact ⟨p, rfl, I.cel n p cc hp e, hc, .inr ⟨n, cc, hp, e, hc⟩, fun b hb hn => I.cl b hb n cc hn e, fun c' o ho hc' hr hb => let ⟨J, st⟩ := I.putC hp e hc ho hr hb; q o c' J st⟩
/-- a cell is changed by f -/
theorem mutate_at {r : Ex} {a : A} {v : V} {f : Nat → Cell → Option Cell} {wd0 : Wd} {S0 : Store} (I : SR G (wd0.up ρ1) σ H env S) (g : Run wd0 S0 ρ1 S) (rb : RepB G (BadOf (wd0.up ρ1) σ env S) H ρ1 v a)
    (lk : ∀ i c, r = .own i → a = .own c → env[i]? = some (some (.own c)) ∧ σ[i]? = some (some v)) (hd : ∀ n, f n .dead = none) (h : EndsOf G W rf wd0 S0 (mutate r a env S f) D) :
    ∃ p cc c' n, v = .ref p ∧ f n cc = some c' ∧ Mu G D (wd0.up ρ1) σ env S H p cc n fun H' c2 => c2 = c' → D.nx σ H' := by
  cases a with
  | own cc =>
    by_cases hr : ∃ i, r = .own i
    · obtain ⟨i, rfl⟩ := hr
      obtain ⟨e1, e2⟩ := lk i cc rfl rfl
      simp only [mutate] at h
      split at h
      · rename_i c' ef
        obtain ⟨p, rfl, m⟩ := mu_own (D := D) (nx := fun H' c2 => c2 = c' → D.nx σ H') I e1 e2 fun o c2 J e => h _ _ ρ1 g (e ▸ J)
        exact ⟨p, cc, c', _, rfl, ef, m⟩
      · exact h.elim
    · have : mutate r (.own cc) env S f = .err := by cases r <;> first | rfl | exact absurd ⟨_, rfl⟩ hr
      rw [this] at h
      exact h.elim
  | ref n =>
    have : mutate r (.ref n) env S f = match S[n]? with
      | some c => match f n c with
        | some c' => .nx env (S.set n c')
        | none => .err
      | none => .err := by cases r <;> rfl
    rw [this] at h
    split at h
    · rename_i cc ec
      split at h
      · rename_i c' ef
        have nd : cc ≠ .dead := fun z => by rw [z, hd] at ef; cases ef
        obtain ⟨p, rfl, m⟩ := mu_ref (D := D) (nx := fun H' c2 => c2 = c' → D.nx σ H') I rb ec nd fun o c2 J st e => h _ _ ρ1 (g.trans (SR.run (wd := wd0.up ρ1) I (e ▸ st))) (e ▸ J)
        exact ⟨p, cc, c', n, rfl, ef, m⟩
      · exact h.elim
    · exact h.elim
  | val d =>
    have : mutate r (.val d) env S f = .err := by cases r <;> rfl
    rw [this] at h
    exact h.elim
  | tup as =>
    have : mutate r (.tup as) env S f = .err := by cases r <;> rfl
    rw [this] at h
    exact h.elim
  | exn k d =>
    have : mutate r (.exn k d) env S f = .err := by cases r <;> rfl
    rw [this] at h
    exact h.elim
theorem isLst_ty {a : A} {v : V} (I : SR G wd σ H env S) (rb : RepB G (BadOf wd σ env S) H wd.ρ v a) (h : isLst S a = true) : tyF G.K "list" v H ∧ tyV G.K "list" v H := by
  have key : ∀ {p : Addr} {xs : List V}, H p = some (.lst xs) → tyF G.K "list" (.ref p) H ∧ tyV G.K "list" (.ref p) H := fun {p xs} e => ⟨.inl (.inl ⟨rfl, xs, .inl (.inl e)⟩), .inl ⟨rfl, xs, .inl (.inl e)⟩⟩
  cases a with
  | own cc =>
    cases rb with
    | at_ r => cases r
    | own e1 h1 h2 h3 =>
      subst e1
      cases h1 with
      | lst g _ => exact key g
      | refs g _ => exact key g
      | _ => cases h
  | ref n =>
    cases rb with
    | at_ r =>
      cases r with
      | ref hp =>
        simp only [isLst] at h
        split at h
        · rename_i ds e
          cases I.cel n _ _ hp e with
          | lst g _ => exact key g
        · rename_i as e
          cases I.cel n _ _ hp e with
          | refs g _ => exact key g
        · cases h
  | _ => cases h
theorem put_ok {Bad : Addr → Prop} {p : Addr} {o : HO} (bad : Bad p) (ho : Mut (some o)) : Ext (fun a => a = p) H (upd H p o) ∧ (∀ a, a = p → Bad a ∨ H a = none) ∧ ∀ a, Bad a → Bad a ∨ H a = none :=
  ⟨.put rfl ho, fun a z => .inl (z ▸ bad), fun a z => .inl z⟩
theorem obj_lst {Bad : Addr → Prop} {p : Addr} {xs : List V} {ds : List PyData} {ρ : List Addr} (ok : BadOk Bad H) (bad : Bad p) (r : Reps G.K Bad H xs ds) : ObjC G Bad (upd H p (.lst xs)) ρ p (.lst ds) :=
  let ⟨e, h1, h2⟩ := put_ok (H := H) (o := .lst xs) bad trivial
  .lst upd_same (r.ext ok h1 e h2)
theorem obj_refs {Bad : Addr → Prop} {p : Addr} {xs : List V} {as : List A} {ρ : List Addr} (ok : BadOk Bad H) (bad : Bad p) (r : RepAs G.K Bad H ρ xs as) : ObjC G Bad (upd H p (.lst xs)) ρ p (.refs as) :=
  let ⟨e, h1, h2⟩ := put_ok (H := H) (o := .lst xs) bad trivial
  .refs upd_same (r.ext ok h1 e h2 (List.prefix_refl _))
theorem okIn_blw {b n b' : Nat} {a : A} (h : okIn b n a = true) (h1 : b' ≤ b) (h2 : n < b') : Below b' a := by
  cases a with
  | val d => exact .val
  | ref m => exact .ref (by have := de h; omega)
  | _ => cases h
/-- what a method does to a list -/
theorem mut_append {b n : Nat} {cc c' : Cell} {nx : Hp → Cell → Prop} {p : Addr} {as : List A} {vs : List V} {Q : VK} (I : SR G wd σ H env S) (hb : ∀ b', wd.bs b' → b' ≤ b) (m : Mu G D wd σ env S H p cc n nx) (rs : RepAs G.K (BadOf wd σ env S) H wd.ρ vs as)
    (e : mutC b n .append as cc = some c') (q : ∀ H', nx H' c' → Q .non H') : rAppend (.ref p) vs H Q := by
  rcases as with _ | ⟨a, _ | ⟨a2, as⟩⟩ <;> first | (cases e; done) | skip
  · obtain ⟨v, rfl, r⟩ := rs.one
    cases hob : m.ob with
    | lst h1 h2 =>
      cases a <;> first | (cases e; done) | skip
      obtain ⟨hz, rfl⟩ := if_some e
      exact ⟨p, _, v, rfl, rfl, h1, by rw [h2.length]; exact hz, q _ (m.fin _ _ trivial (fun z => nomatch z) (obj_lst I.badOk m.bad (h2.append (.cons r.d .nil))) fun _ _ _ => trivial)⟩
    | refs h1 h2 =>
      obtain ⟨⟨hz, ho⟩, rfl⟩ := if_some e
      refine ⟨p, _, v, rfl, rfl, h1, by rw [h2.length]; exact hz, q _ (m.fin _ _ trivial (fun z => nomatch z) (obj_refs I.badOk m.bad (h2.append (.cons r .nil))) fun b' g1 g2 x hx => ?_)⟩
      rcases List.mem_append.mp hx with z | z
      · exact m.blw b' g1 g2 x z
      · have : x = a := by simpa using z
        exact this ▸ okIn_blw ho (hb b' g1) g2
    | inst _ _ _ => cases e
    | dead _ => cases e
theorem mut_insert {b n : Nat} {cc c' : Cell} {nx : Hp → Cell → Prop} {p : Addr} {as : List A} {vs : List V} {Q : VK} (I : SR G wd σ H env S) (hb : ∀ b', wd.bs b' → b' ≤ b) (m : Mu G D wd σ env S H p cc n nx) (rs : RepAs G.K (BadOf wd σ env S) H wd.ρ vs as)
    (e : mutC b n .insert as cc = some c') (q : ∀ H', nx H' c' → Q .non H') : ∃ (l : Addr) (xs : List V) (i : Int) (y : V), V.ref p = .ref l ∧ vs = [.int i, y] ∧ H l = some (.lst xs) ∧ xs.length < sizeLine ∧ 0 ≤ i ∧ i < 2 ^ 63 ∧ Q .non (upd H l (.lst (xs.take i.toNat ++ [y] ++ xs.drop i.toNat))) := by
  rcases as with _ | ⟨a, _ | ⟨a2, _ | ⟨a3, as⟩⟩⟩ <;> first | (cases e; done) | (cases a <;> first | (cases e; done) | (rename_i d; cases d <;> cases e; done)) | skip
  · cases a <;> first | (cases e; done) | skip
    rename_i d
    cases d <;> first | (cases e; done) | skip
    rename_i i
    obtain ⟨v, w, rfl, r1, r2⟩ := rs.two
    have ev : v = .int i := by cases r1.d; rfl
    subst ev
    cases hob : m.ob with
    | lst h1 h2 =>
      cases a2 <;> first | (cases e; done) | skip
      obtain ⟨⟨hz, h0, h63⟩, rfl⟩ := if_some e
      exact ⟨p, _, i, w, rfl, rfl, h1, by rw [h2.length]; exact hz, h0, h63, q _ (m.fin _ _ trivial (fun z => nomatch z) (obj_lst I.badOk m.bad (((h2.take _).append (.cons r2.d .nil)).append (h2.drop _))) fun _ _ _ => trivial)⟩
    | refs h1 h2 =>
      obtain ⟨⟨hz, h0, h63, ho⟩, rfl⟩ := if_some e
      refine ⟨p, _, i, w, rfl, rfl, h1, by rw [h2.length]; exact hz, h0, h63, q _ (m.fin _ _ trivial (fun z => nomatch z) (obj_refs I.badOk m.bad (((h2.take _).append (.cons r2 .nil)).append (h2.drop _))) fun b' g1 g2 x hx => ?_)⟩
      rcases List.mem_append.mp hx with z | z
      · rcases List.mem_append.mp z with z | z
        · exact m.blw b' g1 g2 x (List.mem_of_mem_take z)
        · have : x = a2 := by simpa using z
          exact this ▸ okIn_blw ho (hb b' g1) g2
      · exact m.blw b' g1 g2 x (List.mem_of_mem_drop z)
    | inst _ _ _ => cases e
    | dead _ => cases e
theorem ints_reps {K : PySem.W.Frag} {Bad : Addr → Prop} {H : Hp} : ∀ {xs : List V} {ds : List PyData} {ns : List Int}, Reps K Bad H xs ds → intsD ds = some ns → xs = ns.map V.int ∧ ds = ns.map .int
  | _, [], ns, .nil, e => by cases e; exact ⟨rfl, rfl⟩
  | _, .int i :: ds, ns, .cons r t, e => by
    obtain ⟨ms, e1, rfl⟩ := Option.map_eq_some_iff.mp (show (intsD ds).map (i :: ·) = some ns from e)
    obtain ⟨h1, h2⟩ := ints_reps t e1
    cases r
    exact ⟨by rw [h1]; rfl, by rw [h2]; rfl⟩
  | _, .none :: _, _, _, e => by cases e
  | _, .bool _ :: _, _, _, e => by cases e
  | _, .str _ :: _, _, _, e => by cases e
  | _, .list _ :: _, _, _, e => by cases e
  | _, .tuple _ :: _, _, _, e => by cases e
  | _, .dict _ :: _, _, _, e => by cases e
theorem placeI_at {k : Int} : ∀ {ns : List Int} {j : Nat}, placeI k ns = some j → ns[j]? = some k ∧ ∀ m : Nat, m < j → ns[m]? ≠ some k
  | [], _, e => by cases e
  | x :: r, j, e => by
    simp only [placeI] at e
    split at e
    · rename_i h
      cases e
      exact ⟨by simp [h], fun m hm => absurd hm (Nat.not_lt_zero _)⟩
    · rename_i h
      obtain ⟨j', e1, rfl⟩ := Option.map_eq_some_iff.mp e
      obtain ⟨h1, h2⟩ := placeI_at e1
      refine ⟨by simpa using h1, fun m hm => ?_⟩
      cases m with
      | zero => simpa using h
      | succ m => simpa using h2 m (by omega)
theorem mut_remove {b n : Nat} {cc c' : Cell} {nx : Hp → Cell → Prop} {p : Addr} {as : List A} {vs : List V} {Q : VK} (I : SR G wd σ H env S) (m : Mu G D wd σ env S H p cc n nx) (rs : RepAs G.K (BadOf wd σ env S) H wd.ρ vs as)
    (e : mutC b n .remove as cc = some c') (q : ∀ H', nx H' c' → Q .non H') : rRemI (.ref p) vs H Q := by
  rcases as with _ | ⟨a, _ | ⟨a2, as⟩⟩ <;> first | (cases e; done) | (cases a <;> cases e; done) | skip
  cases a <;> first | (cases e; done) | skip
  rename_i d
  obtain ⟨v, rfl, r⟩ := rs.one
  cases hob : m.ob with
  | lst h1 h2 =>
    cases d <;> first | (cases e; done) | skip
    rename_i k
    have ev : v = .int k := by cases r.d; rfl
    subst ev
    obtain ⟨ns, e1, e⟩ := Option.bind_eq_some_iff.mp (show ((intsD _).bind fun ns => (placeI k ns).map fun j => Cell.lst ((ns.eraseIdx j).map .int)) = some c' from e)
    obtain ⟨j, e2, rfl⟩ := Option.map_eq_some_iff.mp e
    obtain ⟨rfl, rfl⟩ := ints_reps h2 e1
    obtain ⟨g1, g2⟩ := placeI_at e2
    exact ⟨p, ns, k, j, rfl, rfl, h1, g1, g2, q _ (m.fin _ _ trivial (fun z => nomatch z) (obj_lst I.badOk m.bad (reps_ints _)) fun _ _ _ => trivial)⟩
  | refs h1 h2 => cases e
  | inst _ _ _ => cases e
  | dead _ => cases e
theorem mut_extend {b n : Nat} {cc c' : Cell} {nx : Hp → Cell → Prop} {p q0 : Addr} {xs0 : List V} {ds0 : List PyData} {Q : VK} (I : SR G wd σ H env S) (m : Mu G D wd σ env S H p cc n nx) (g1 : H q0 = some (.lst xs0)) (g2 : Reps G.K (BadOf wd σ env S) H xs0 ds0)
    (e : mutC b n .extend [.val (.list ds0)] cc = some c') (q : ∀ H', nx H' c' → Q .non H') : rExtend (.ref p) [.ref q0] H Q := by
  cases hob : m.ob with
  | lst h1 h2 =>
    obtain ⟨hz, rfl⟩ := if_some (show (if _ then some (Cell.lst _) else none) = some c' from e)
    exact ⟨p, q0, _, _, rfl, rfl, h1, g1, by rw [h2.length, g2.length]; exact hz, q _ (m.fin _ _ trivial (fun z => nomatch z) (obj_lst I.badOk m.bad (h2.append g2)) fun _ _ _ => trivial)⟩
  | refs h1 h2 => cases e
  | inst _ _ _ => cases e
  | dead _ => cases e
end
end Tr


namespace Tr
open PySem L2
open PySem.Spec PyProof.Rows

section
variable {X : Cx}
theorem get_list : PGet X (rIxL X.K) := by
  intro pins s σ H x y v u Q I rx ry h
  obtain ⟨p, xs, i, z, rfl, rfl, hq, he, q⟩ := h
  cases rx
  obtain ⟨t, rfl⟩ := ry
  obtain ⟨its, r, pl, hz⟩ := I.list hq
  obtain ⟨j, h1, h2, h3, h4, h5⟩ := atI_get he
  obtain ⟨w, ew, rw'⟩ := r.get h2
  have hl := r.length
  have hn := line63
  by_cases h0 : 0 ≤ i
  · have hj : i.toNat = j := Option.some.inj ((seqIndex_of h0 h5).symm.trans h1)
    exact wpAny_getItem_list pl.isList h0 (by omega) (by rw [hj]; simpa using ew) ⟨z, H, I, rw', q⟩
  · have hj : (i + (its.toArray.size : Int)).toNat = j := by
      have e := Option.some.inj ((seqIndex_neg (by omega) h4).symm.trans h1)
      rw [List.size_toArray, ← hl]
      exact e
    exact wpAny_getItem_list_neg pl.isList (by omega) (by rw [List.size_toArray]; omega) (by omega) (by rw [hj]; simpa using ew) ⟨z, H, I, rw', q⟩
theorem ip_op (o : BOp) (ho : augOp o = true) : PIp X (opOf o) (fun x y H Q => ∃ (Bad : Addr → Prop) (d e g : PyData), RepD X.K Bad H x d ∧ RepD X.K Bad H y e ∧ augD o d e = some g ∧ ∀ v, Rep X.K Bad H v g → Q v H) := by
  intro pins s σ H x y v u Q I rx ry ⟨Bad, d, e, g, hx, hy, hf, q⟩
  cases o <;> first | (cases ho; done) | skip
  · cases d with
    | int i =>
      cases e <;> first | (cases hf; done) | skip
      cases hf
      exact ip_add pins s σ H x y v u Q I rx ry ⟨_, _, hx.int, hy.int, q _ (.int _)⟩
    | str a =>
      cases e <;> first | (cases hf; done) | skip
      rename_i b
      simp only [augD] at hf
      obtain ⟨hz, rfl⟩ := if_some hf
      exact iop_add_str pins s σ H x y v u Q I rx ry ⟨_, _, hx.str, hy.str, hz, q _ (.str _)⟩
    | _ => cases e <;> cases hf
  · cases d <;> first | (cases e <;> cases hf; done) | skip
    cases e <;> first | (cases hf; done) | skip
    cases hf
    exact ip_sub pins s σ H x y v u Q I rx ry ⟨_, _, hx.int, hy.int, q _ (.int _)⟩
end
section
variable {G : Gam} {X : Cx} {c : Ctx} {W : WX} {rf : Bool} {wd : Wd} {σ : L2.St} {H H' H1 : Hp} {env : TEnv} {S S' S1 S2 : Store} {ρ1 ρ2 : List Addr} {D : Ends}
theorem SoundS.aug (i : Nat) (op : BOp) (e : Ex) : SoundS G (.aug i op e) := by
  refine ⟨fun X c W rf st o h => ?_⟩
  unfold chkS at h
  split at h
  · rename_i x p op' v pos
    obtain ⟨h1, h⟩ := ba h
    obtain ⟨h2, h⟩ := ba h
    obtain ⟨h3, h4⟩ := ba h
    obtain ⟨q1, q2, q3, q4⟩ := setB_ok o h1
    have e1 := de h2
    subst e1
    refine PS.imp (ps_aug q1 q2 q3 ((sound e).bor X c W v o h4) (ip_op op h3) q4) fun D σ H ⟨wd, env, S, I, h⟩ => ?_
    simp only [exec] at h
    split at h
    · rename_i d eg
      obtain ⟨w, w1, w2⟩ := I.var i _ (getV_some eg)
      have r : Rep G.K (BadOf wd σ env S) H w d := by
        cases w2 with
        | at_ r => exact r.d
      refine ⟨w, w1, wd, env, S, I, (h.thn I).mono fun b S1 e1 h u H1 ⟨ρ1, st, I1, rb⟩ => ?_⟩
      split at h
      · rename_i y ed
        split at h
        · rename_i z ea
          rw [o.K]
          exact ⟨_, d, y, z, .of (I.keepD st r), RepB.deref (wd := wd.up ρ1) I1 rb ed, ea, fun u' r' => h _ _ ρ1 (I.run st) (I1.setV (a := .val z) (.at_ (.val r')) fun c z => nomatch z)⟩
        · exact h.elim
      · exact h.elim
    · exact h.elim
  · cases h
theorem SoundS.expr (e : Ex) : SoundS G (.expr e) := by
  refine ⟨fun X c W rf st o h => ?_⟩
  unfold chkS at h
  split at h
  · rename_i v pos
    obtain ⟨h1, h2⟩ := ba h
    refine PS.imp (ps_expr ((sound e).val X c W v o h1) (sw_no h2)) fun D σ H ⟨wd, env, S, I, h⟩ => ?_
    refine ⟨wd, env, S, I, (h.thn I).mono fun a S1 e1 h v H1 p => ?_⟩
    obtain ⟨ρ1, st, I1, r⟩ := p.sr
    exact h _ _ ρ1 (I.run st) I1
  · cases h

theorem noStar_any : ∀ {vs : List Expr}, vs.all noStar = true → (vs.any fun e => match e with | .Starred _ _ => true | _ => false) = false
  | [], _ => rfl
  | e :: es, h => by
    rw [List.all_cons, Bool.and_eq_true] at h
    rw [List.any_cons, noStar_any h.2, Bool.or_false]
    have h1 := h.1
    clear h
    cases e <;> first | rfl | (cases h1; done)
theorem swp2_ok (o : XOk X G c W) {x y : Str} {p q pt pt2 : Pos} {k k2 : Nat} {a b : Expr} (hx : X.env.scope.names.lookup x = some .local) (hy : X.env.scope.names.lookup y = some .local) (ne : x ≠ y) (hl : (p.line == q.line) = true)
    (h : swp c [.Name x p, .Name y q] [a, b] = true) : swappedStores [.Tuple [.Name x p, .Name y q] k pt] (.Tuple [a, b] k2 pt2) X.env = pure (some [x, y]) := by
  unfold swp at h
  simp only [Bool.and_eq_true, Bool.not_eq_true'] at h
  obtain ⟨_, _, h3, h4, h5, h6⟩ := h
  have hb : X.env.blockKind = .function := by
    unfold Env.blockKind
    unfold bkOf at h3
    rw [o.sc]
    exact eq_of_beq h3
  have kx : X.env.kindOf x = some .local := hx
  have ky : X.env.kindOf y = some .local := hy
  have hst := noStar_any h4
  have e2 : ([x, y] : List Str).eraseDups.length = 2 := by
    have : (x == y) = false := by simpa using ne
    have z : (y == x) = false := by simpa using fun e : y = x => ne e.symm
    simp [List.eraseDups_cons, List.filter, z]
  have hl' : (q.line == p.line) = true := by
    have := eq_of_beq hl
    rw [this]; exact beq_self_eq_true _
  have hst' : ([a, b].any fun | .Starred .. => true | _ => false) = false := hst
  unfold swappedStores
  dsimp only [List.filterMap]
  simp only [kx, ky, Expr.pos, List.head?, Option.map, Option.getD, hl', beq_self_eq_true, Bool.and_self, if_true, h5, h6, hb, Bool.and_true]
  refine (if_neg Bool.false_ne_true).trans ((if_neg fun z => Bool.false_ne_true (hst'.symm.trans z)).trans ((if_neg ?_).trans ((if_neg Bool.false_ne_true).trans (if_neg Bool.false_ne_true))))
  rw [e2]
  exact Bool.false_ne_true
theorem swp3_ok (o : XOk X G c W) {x y w : Str} {p q r pt pt2 : Pos} {k k2 : Nat} {a b d : Expr} (hx : X.env.scope.names.lookup x = some .local) (hy : X.env.scope.names.lookup y = some .local) (hw : X.env.scope.names.lookup w = some .local) (ne : x ≠ y ∧ x ≠ w ∧ y ≠ w) (hl : (p.line == q.line) = true) (hl2 : (p.line == r.line) = true)
    (h : swp c [.Name x p, .Name y q, .Name w r] [a, b, d] = true) : swappedStores [.Tuple [.Name x p, .Name y q, .Name w r] k pt] (.Tuple [a, b, d] k2 pt2) X.env = pure (some [x, y, w]) := by
  unfold swp at h
  simp only [Bool.and_eq_true, Bool.not_eq_true'] at h
  obtain ⟨_, _, h3, h4, h5, h6⟩ := h
  have hb : X.env.blockKind = .function := by
    unfold Env.blockKind
    unfold bkOf at h3
    rw [o.sc]
    exact eq_of_beq h3
  have kx : X.env.kindOf x = some .local := hx
  have ky : X.env.kindOf y = some .local := hy
  have kw : X.env.kindOf w = some .local := hw
  have hst := noStar_any h4
  have e2 : ([x, y, w] : List Str).eraseDups.length = 3 := by
    have z1 : (y == x) = false := by simpa using fun e : y = x => ne.1 e.symm
    have z2 : (w == x) = false := by simpa using fun e : w = x => ne.2.1 e.symm
    have z3 : (w == y) = false := by simpa using fun e : w = y => ne.2.2 e.symm
    simp [List.eraseDups_cons, List.filter, z1, z2, z3]
  have hl' : (q.line == p.line) = true := by
    have := eq_of_beq hl
    rw [this]; exact beq_self_eq_true _
  have hl2' : (r.line == p.line) = true := by
    have := eq_of_beq hl2
    rw [this]; exact beq_self_eq_true _
  have hst' : ([a, b, d].any fun | .Starred .. => true | _ => false) = false := hst
  unfold swappedStores
  dsimp only [List.filterMap]
  simp only [kx, ky, kw, Expr.pos, List.head?, Option.map, Option.getD, hl', hl2', beq_self_eq_true, Bool.and_self, if_true, h5, h6, hb, Bool.and_true]
  refine (if_neg Bool.false_ne_true).trans ((if_neg fun z => Bool.false_ne_true (hst'.symm.trans z)).trans ((if_neg ?_).trans ((if_neg Bool.false_ne_true).trans (if_neg Bool.false_ne_true))))
  rw [e2]
  exact Bool.false_ne_true
theorem SoundS.par (is : List Nat) (es : List Ex) : SoundS G (.par is es) := by
  refine ⟨fun X c W rf st o h => ?_⟩
  have hN : X.N.Nodup := by rw [o.N]; exact o.nd
  unfold chkS at h
  split at h
  · rename_i x p y q kt pt ea eb k2 pt2 pos
    split at h
    · rename_i i j
      obtain ⟨h0, h⟩ := ba h
      obtain ⟨h1, h⟩ := ba h
      obtain ⟨h2, h⟩ := ba h
      obtain ⟨h3, h⟩ := ba h
      obtain ⟨h4, h⟩ := ba h
      obtain ⟨h5, h6⟩ := ba h
      obtain ⟨n1, l1⟩ := locB_ok o h1
      obtain ⟨n2, l2⟩ := locB_ok o h2
      have ne : x ≠ y := de h3
      have nij : i ≠ j := fun e => ne (by subst e; rw [n1] at n2; exact Option.some.inj n2)
      have hst : [ea, eb].all noStar = true := by
        unfold swp at h6
        simp only [Bool.and_eq_true] at h6
        exact h6.2.2.2.1
      refine PS.imp (ps_par (o.calm h0) hN n1 n2 nij l1 l2 (vals_of (fun e _ => sound e) o h5 hst) (swp2_ok o l1 l2 ne h4 h6) (by rw [sole]; exact sw_tup)) fun D σ H ⟨wd, env, S, I, h⟩ => ?_
      refine ⟨wd, env, S, I, (h.thn I).mono fun as S1 e1 h vs ρ1 H1 st I1 rs => ?_⟩
      split at h
      · rename_i hl
        rcases as with _ | ⟨a, _ | ⟨b, _ | ⟨d, as⟩⟩⟩ <;> first | (simp at hl; done) | skip
        obtain ⟨v, w, rfl, _, _⟩ := rs.two
        exact ⟨v, w, rfl, h _ _ ρ1 (I.run st) (I1.bind (is := [i, j]) rs)⟩
      · exact h.elim
    · cases h
  · rename_i x p y q z r kt pt ea eb ec k2 pt2 pos
    split at h
    · rename_i i j l
      obtain ⟨h0, h⟩ := ba h
      obtain ⟨h1, h⟩ := ba h
      obtain ⟨h2, h⟩ := ba h
      obtain ⟨h7, h⟩ := ba h
      obtain ⟨h3, h⟩ := ba h
      obtain ⟨h4, h⟩ := ba h
      obtain ⟨h8, h⟩ := ba h
      obtain ⟨h5, h6⟩ := ba h
      obtain ⟨n1, l1⟩ := locB_ok o h1
      obtain ⟨n2, l2⟩ := locB_ok o h2
      obtain ⟨n3, l3⟩ := locB_ok o h7
      have ne : x ≠ y ∧ x ≠ z ∧ y ≠ z := de h3
      have nij : i ≠ j := fun e => ne.1 (by subst e; rw [n1] at n2; exact Option.some.inj n2)
      have nil' : i ≠ l := fun e => ne.2.1 (by subst e; rw [n1] at n3; exact Option.some.inj n3)
      have njl : j ≠ l := fun e => ne.2.2 (by subst e; rw [n2] at n3; exact Option.some.inj n3)
      have hst : [ea, eb, ec].all noStar = true := by
        unfold swp at h6
        simp only [Bool.and_eq_true] at h6
        exact h6.2.2.2.1
      refine PS.imp (ps_par3 (o.calm h0) hN n1 n2 n3 nij nil' njl l1 l2 l3 (vals_of (fun e _ => sound e) o h5 hst) (swp3_ok o l1 l2 l3 ne h4 h8 h6) (by rw [sole]; exact sw_tup)) fun D σ H ⟨wd, env, S, I, h⟩ => ?_
      refine ⟨wd, env, S, I, (h.thn I).mono fun as S1 e1 h vs ρ1 H1 st I1 rs => ?_⟩
      split at h
      · rename_i hl
        rcases as with _ | ⟨a, _ | ⟨b, _ | ⟨d, _ | ⟨d2, as⟩⟩⟩⟩ <;> first | (simp at hl; done) | skip
        obtain ⟨v, w, u, rfl, _, _, _⟩ := rs.three
        exact ⟨v, w, u, rfl, h _ _ ρ1 (I.run st) (I1.bind (is := [i, j, l]) rs)⟩
      · exact h.elim
    · cases h
  · cases h
end
end Tr


namespace Tr
open PySem L2
open PySem.Spec PyProof.Rows
section
variable {G : Gam} {X : Cx} {c : Ctx} {W : WX} {rf : Bool} {wd : Wd} {σ : L2.St} {H H' H1 : Hp} {env : TEnv} {S S' S1 S2 : Store} {ρ1 ρ2 : List Addr} {D : Ends}
theorem mutC_dead {b n : Nat} {m : MO} {as : List A} : mutC b n m as .dead = none := by
  unfold mutC
  split <;> first | rfl | (simp only [*]; rfl) | skip
  all_goals first | rfl | simp [appC, extC, insC, remC]
theorem putC_dead {b n : Nat} {k : PyData} {a : A} : putC b n k a .dead = none := rfl
theorem evalEs_one {C : Calls} {e : Ex} {env : TEnv} {S : Store} : evalEs C [e] env S = (evalE C e env S).bind fun a S => .ok [a] S := by
  rw [evalEs_cons]
  cases evalE C e env S with
  | ok a S1 => simp only [R.bind, evalEs]
  | exc k d S1 => rfl
  | err => rfl
theorem EndsOf.if_ {b : Bool} {r : RS} {S : Store} (h : EndsOf G W rf wd S (if b = true then r else .err) D) : b = true ∧ EndsOf G W rf wd S r D := by
  cases b with
  | true => exact ⟨rfl, h⟩
  | false => exact h.elim
/-- a method that changes a list -/
theorem mth_red {m : MO} {r : Ex} {es : List Ex} {K : PySem.W.Frag} (hK : K = G.K) {R : V → List V → Hp → VK → Prop}
    (hR : ∀ {wd : Wd} {σ : L2.St} {H : Hp} {env : TEnv} {S : Store} {cc c' : Cell} {n : Nat} {nx : Hp → Cell → Prop} {p : Addr} {as : List A} {vs : List V} {Q : VK}, SR G wd σ H env S → (∀ b', wd.bs b' → b' ≤ G.C.base) → Mu G D wd σ env S H p cc n nx → RepAs G.K (BadOf wd σ env S) H wd.ρ vs as →
      mutC G.C.base n m as cc = some c' → (∀ H', nx H' c' → Q .non H') → R (.ref p) vs H Q) {σ : L2.St} {H : Hp}
    (h : tS G W rf (.mth m r es) D σ H) : tDrop (tBMF K "list" R (tR G W r) (tEs G W es)) D σ H := by
  subst hK
  obtain ⟨wd, env, S, I, h⟩ := h
  refine ⟨wd, env, S, I, (h.thn I).mono fun a S1 e1 h v H1 ρ1 st1 I1 rb lk => ?_⟩
  obtain ⟨hl, h⟩ := h.if_
  refine ⟨(isLst_ty (wd := wd.up ρ1) I1 rb hl).1, wd.up ρ1, env, S1, I1, ((h.grow (I.run st1)).thn I1).mono fun as S2 e2 h vs ρ2 H2 st2 I2 rs => ?_⟩
  obtain ⟨p, cc, c', n, rfl, ef, mu⟩ := mutate_at (wd0 := wd.up ρ1) I2 (I1.run st2) (RepB.keep (wd := wd.up ρ1) I1 st2 rb) lk (fun n => mutC_dead) h
  exact hR I2 (fun b' hb => I2.bsb b' hb) mu rs ef fun H' q => q rfl
theorem SoundS.mth (m : MO) (r : Ex) (es : List Ex) : SoundS G (.mth m r es) := by
  refine ⟨fun X c W rf st o h => ?_⟩
  unfold chkS at h
  split at h
  · rename_i ob n ap t ts cp pos
    obtain ⟨h1, h⟩ := ba h
    obtain ⟨h2, h⟩ := ba h
    obtain ⟨h3, h⟩ := ba h
    obtain ⟨h4, h⟩ := ba h
    obtain ⟨h5, h⟩ := ba h
    obtain ⟨h6, h⟩ := ba h
    obtain ⟨h7, h8⟩ := ba h
    have e1 := de h1
    subst e1
    have st := h5
    rw [List.all_cons] at st
    obtain ⟨s1, s2⟩ := ba st
    have pr := pe_recv o h2
    have pa := vals_of (fun e _ => sound e) o h3 h5
    cases m with
    | append =>
      exact PS.imp (ps_expr (pe_bmF PySem.F.plainAttrs_list PySem.F.slot_list_append PySem.F.type_list_append mt_append pr pa (base_of h6) (stars2 h5) (de h8) h7 (star1 s1) (stars s2))) fun D σ H h => mth_red o.K (fun I hb mu rs e q => mut_append I hb mu rs e q) h
    | insert =>
      exact PS.imp (ps_expr (pe_bmF PySem.F.plainAttrs_list PySem.F.slot_list_insert PySem.F.type_list_insert mt_insert pr pa (base_of h6) (stars2 h5) (de h8) h7 (star1 s1) (stars s2))) fun D σ H h => mth_red o.K (fun I hb mu rs e q => mut_insert I hb mu rs e q) h
    | remove =>
      exact PS.imp (ps_expr (pe_bmF PySem.F.plainAttrs_list PySem.F.slot_list_remove PySem.F.type_list_remove mt_remove pr pa (base_of h6) (stars2 h5) (de h8) h7 (star1 s1) (stars s2))) fun D σ H h => mth_red o.K (fun I hb mu rs e q => mut_remove I mu rs e q) h
    | extend =>
      rcases es with _ | ⟨e', _ | ⟨e2, es⟩⟩ <;> rcases ts with _ | ⟨t2, ts⟩ <;> first | (cases h3; done) | (cases (ba h3).2; done) | skip
      · have hf : freshE G.fr e' = true := by
          have h4 : freshE c.fr e' = true := h4
          rw [o.fr] at h4
          exact h4
        refine PS.imp (ps_expr (pe_bmF PySem.F.plainAttrs_list PySem.F.slot_list_extend PySem.F.type_list_extend mt_extend pr (pa_cons ((sound e').val X c W t o (ba h3).1) pa_nil (star1 s1)) (base_of h6) (stars2 h5) (de h8) h7 (star1 s1) (stars s2))) fun D σ H ⟨wd, env, S, I, h⟩ => ?_
        refine ⟨wd, env, S, I, (h.thn I).mono fun a S1 e1 h v H1 ρ1 st1 I1 rb lk => ?_⟩
        obtain ⟨hl, h⟩ := h.if_
        rw [o.K]
        have g := (h.grow (I.run st1)).thn I1
        rw [evalEs_one] at g
        refine ⟨(isLst_ty (wd := wd.up ρ1) I1 rb hl).1, wd.up ρ1, env, S1, I1, g.pass.mono fun x S2 e2 h u H2 ⟨ρ2, st2, I2, r2, f⟩ => ?_⟩
        have h : EndsOf G W rf (wd.up ρ1) S1 (mutate r a env S2 fun n c => mutC G.C.base n .extend [x] c) D := h
        obtain ⟨p, cc, c', n, rfl, ef, mu⟩ := mutate_at (wd0 := wd.up ρ1) I2 (I1.run st2) (RepB.keep (wd := wd.up ρ1) I1 st2 rb) lk (fun n => mutC_dead) h
        obtain ⟨ds, rfl⟩ : ∃ ds, x = .val (.list ds) := by
          cases x with
          | val d =>
            cases d with
            | list ds => exact ⟨ds, rfl⟩
            | _ => cases ef
          | _ => cases ef
        obtain ⟨q, xs, rfl, n0, nB, nρ, k1, J, rs⟩ := f hf ds rfl
        have rs' : Reps G.K (BadOf (wd.up ρ2) σ env S2) H2 xs ds := rs.anti J.badOk fun a z => z.imp (fun z => z.imp .inl id) id
        exact mut_extend (Q := fun _ H' => D.nx σ H') I2 mu k1 rs' ef fun H' q => q rfl
      · cases h4
  · cases h

theorem put_red {v y : V} {j : PyData} {x : A} {p : Addr} {cc c' : Cell} {n : Nat} {nx : Hp → Cell → Prop} {Q : Hp → Prop} (I : SR G wd σ H env S) (mu : Mu G D wd σ env S H p cc n nx) (hj : RepD G.K (BadOf wd σ env S) H y j) (rv : RepA G.K (BadOf wd σ env S) H wd.ρ v x)
    (e : putC G.C.base n j x cc = some c') (q : ∀ H', nx H' c' → Q H') : rSetL (.ref p) y v H Q := by
  cases hob : mu.ob with
  | lst h1 h2 =>
    cases j <;> first | (cases e; done) | skip
    cases x <;> first | (cases e; done) | skip
    obtain ⟨m, hm, rfl⟩ := Option.map_eq_some_iff.mp (show (ixN _ _).map _ = some c' from e)
    exact ⟨p, _, _, m, rfl, hj.int, h1, by rw [h2.length]; exact hm, q _ (mu.fin _ _ trivial (fun z => nomatch z) (obj_lst I.badOk mu.bad (h2.set rv.d m)) fun _ _ _ => trivial)⟩
  | refs h1 h2 =>
    cases j <;> first | (cases e; done) | skip
    have e : (if okIn G.C.base n x = true then (ixN _ _).map _ else none) = some c' := e
    split at e
    · rename_i ho
      obtain ⟨m, hm, rfl⟩ := Option.map_eq_some_iff.mp e
      refine ⟨p, _, _, m, rfl, hj.int, h1, by rw [h2.length]; exact hm, q _ (mu.fin _ _ trivial (fun z => nomatch z) (obj_refs I.badOk mu.bad (h2.set rv m)) fun b' g1 g2 z hz => ?_)⟩
      rcases List.mem_or_eq_of_mem_set hz with z1 | z1
      · exact mu.blw b' g1 g2 z z1
      · exact z1 ▸ okIn_blw ho (I.bsb b' g1) g2
    · cases e
  | inst _ _ _ => cases e
  | dead _ => cases e
theorem SoundS.put (r k e : Ex) : SoundS G (.put r k e) := by
  refine ⟨fun X c W rf st o h => ?_⟩
  unfold chkS at h
  split at h
  · rename_i ob ke sp v pos
    obtain ⟨h1, h⟩ := ba h
    obtain ⟨h2, h⟩ := ba h
    obtain ⟨h3, h4⟩ := ba h
    have pg := pg_sub (pos := sp) (pe_recv o h1) ((sound k).bor X c W ke o h3) set_list (by intro u; cases ke <;> first | rfl | (cases h4; done))
    refine PS.imp (ps_asg ((sound e).val X c W v o h2) pg (by rw [sole]; exact sw_sub) ssw_sub rfl) fun D σ H ⟨wd, env, S, I, h⟩ => ?_
    refine ⟨wd, env, S, I, (h.thn I).mono fun x S1 e1 h v H1 p1 => ?_⟩
    obtain ⟨ρ1, st1, I1, rv⟩ := p1.sr
    refine ⟨wd.up ρ1, env, S1, I1, ((h.grow (I.run st1)).thn I1).mono fun a S2 e2 h u H2 ρ2 st2 I2 rb lk => ?_⟩
    refine ⟨wd.up ρ2, env, S2, I2, ((h.grow (I1.run st2)).thn I2).mono fun b S3 e3 h y H3 ⟨ρ3, st3, I3, ry⟩ => ?_⟩
    split at h
    · rename_i j ej
      obtain ⟨p, cc, c', n, rfl, ef, mu⟩ := mutate_at (wd0 := wd.up ρ2) I3 (I2.run st3) (RepB.keep (wd := wd.up ρ2) I2 st3 rb) lk (fun n => putC_dead) h
      exact put_red I3 mu (RepB.deref (wd := wd.up ρ3) I3 ry ej) (SR.keep (wd := wd.up ρ2) I2 st3 (SR.keep (wd := wd.up ρ1) I1 st2 rv)) ef fun H' q => q rfl
    · exact h.elim
  · cases h
theorem lst_idx {a x : A} {v : V} {j : PyData} (I : SR G wd σ H env S) (rb : RepB G (BadOf wd σ env S) H wd.ρ v a) (h : isLst S a = true) (e : idxA S a j = some x) :
    ∃ p xs i y, v = .ref p ∧ j = .int i ∧ H p = some (.lst xs) ∧ atI xs i = some y ∧ RepA G.K (BadOf wd σ env S) H wd.ρ y x := by
  have atA : ∀ {xs : List V} {as : List A} {i : Int} {x : A}, RepAs G.K (BadOf wd σ env S) H wd.ρ xs as → atI as i = some x → ∃ y, atI xs i = some y ∧ RepA G.K (BadOf wd σ env S) H wd.ρ y x := fun {xs as i x} r e => by
    unfold atI at e ⊢
    rw [r.length]
    obtain ⟨m, e1, e2⟩ := Option.bind_eq_some_iff.mp e
    rw [e1]
    exact r.get e2
  have key : ∀ {cc : Cell} {p : Addr}, ObjC G (BadOf wd σ env S) H wd.ρ p cc → cc.at_ j = some x → ∃ (xs : List V) (i : Int) (y : V), j = .int i ∧ H p = some (.lst xs) ∧ atI xs i = some y ∧ RepA G.K (BadOf wd σ env S) H wd.ρ y x := fun {cc p} ob e => by
    cases ob with
    | lst h1 h2 =>
      cases j <;> first | (cases e; done) | skip
      rename_i ds i _
      obtain ⟨d, e1, rfl⟩ := Option.map_eq_some_iff.mp (show (atI ds i).map A.val = some x from e)
      have e1' : atI (ds.map A.val) i = some (.val d) := by
        unfold atI at e1 ⊢
        rw [List.length_map]
        obtain ⟨m, g1, g2⟩ := Option.bind_eq_some_iff.mp e1
        rw [g1]
        show (List.map A.val ds)[m]? = _
        rw [List.getElem?_map, g2]; rfl
      obtain ⟨y, y1, y2⟩ := atA h2.as e1'
      exact ⟨_, _, y, rfl, h1, y1, y2⟩
    | refs h1 h2 =>
      cases j <;> first | (cases e; done) | skip
      obtain ⟨y, y1, y2⟩ := atA h2 (show atI _ _ = some x from e)
      exact ⟨_, _, y, rfl, h1, y1, y2⟩
    | inst _ _ _ => cases e
    | dead _ => cases e
  cases a with
  | own cc =>
    cases rb with
    | at_ r => cases r
    | own e1 h1 h2 h3 =>
      obtain ⟨xs, i, y, q1, q2, q3, q4⟩ := key h1 e
      exact ⟨_, xs, i, y, e1, q1, q2, q3, q4⟩
  | ref n =>
    cases rb with
    | at_ r =>
      cases r with
      | ref hp =>
        obtain ⟨cc, e1, e2⟩ := Option.bind_eq_some_iff.mp (show (S[n]?).bind (·.at_ j) = some x from e)
        obtain ⟨xs, i, y, q1, q2, q3, q4⟩ := key (I.cel n _ cc hp e1) e2
        exact ⟨_, xs, i, y, rfl, q1, q2, q3, q4⟩
  | _ => cases h
theorem SoundS.augPut (r k : Ex) (op : BOp) (e : Ex) : SoundS G (.augPut r k op e) := by
  refine ⟨fun X c W rf st o h => ?_⟩
  unfold chkS at h
  split at h
  · rename_i ob ke sp op' v pos
    obtain ⟨h1, h⟩ := ba h
    obtain ⟨h2, h⟩ := ba h
    obtain ⟨h3, h⟩ := ba h
    obtain ⟨h4, h⟩ := ba h
    obtain ⟨h5, h6⟩ := ba h
    have e1 := de h2
    subst e1
    refine PS.imp (ps_augS (tpos := sp) (pe_recv o h1) ((sound k).bor X c W ke o h5) get_list ((sound e).bor X c W v o h4) (ip_op op h3) set_list (by intros; cases ke <;> first | rfl | (cases h6; done))) fun D σ H ⟨wd, env, S, I, h⟩ => ?_
    refine ⟨wd, env, S, I, (h.thn I).mono fun a S1 e1 h u H1 ρ1 st1 I1 rb lk => ?_⟩
    refine ⟨wd.up ρ1, env, S1, I1, ((h.grow (I.run st1)).thn I1).mono fun b S2 e2 h y H2 ⟨ρ2, st2, I2, ry⟩ => ?_⟩
    obtain ⟨hl, h⟩ := h.if_
    split at h
    · rename_i j ej
      split at h
      · rename_i old eo
        have rb2 := RepB.keep (wd := wd.up ρ1) I1 st2 rb
        obtain ⟨p, xs, i, ov, rfl, rfl, k1, k2, k3⟩ := lst_idx (wd := wd.up ρ2) I2 rb2 hl eo
        have hy := (RepB.deref (wd := wd.up ρ2) I2 ry ej)
        rw [o.K]
        refine ⟨p, xs, i, ov, rfl, hy.int, .inl (.inl k1), k2, wd.up ρ2, env, S2, I2, ((h.grow (I1.run st2)).thn I2).mono fun w S3 e3 h t H3 ⟨ρ3, st3, I3, rt⟩ => ?_⟩
        split at h
        · rename_i d ed
          split at h
          · rename_i z ez
            refine ⟨_, old, d, z, .of (SR.keepD (wd := wd.up ρ2) I2 st3 k3.d), RepB.deref (wd := wd.up ρ3) I3 rt ed, ez, fun nv rn => ?_⟩
            obtain ⟨p', cc, c', n, ep, ef, mu⟩ := mutate_at (wd0 := wd.up ρ2) I3 (I2.run st3) (RepB.keep (wd := wd.up ρ2) I2 st3 rb2) lk (fun n => putC_dead) h
            cases ep
            exact put_red I3 mu (by rw [hy.int]; exact .of (.int i)) (.val rn) ef fun H' q => q rfl
          · exact h.elim
        · exact h.elim
      · exact h.elim
    · exact h.elim
  · cases h
end
end Tr


namespace Tr
open PySem L2
open PySem.Spec PyProof.Rows
section
variable {G : Gam} {X : Cx} {c : Ctx} {W : WX} {rf : Bool} {wd : Wd} {σ : L2.St} {H H' H1 : Hp} {env : TEnv} {S S' S1 S2 : Store} {ρ1 ρ2 : List Addr} {D : Ends}
def tPop (G : Gam) (W : WX) (rf : Bool) (r : Ex) (k : Option Ex) (g : A → TEnv → Store → RS) : TE := fun σ H Q => ∃ wd env S D, SR G wd σ H env S ∧
  EndsOf G W rf wd S ((evalE G.C r env S).thn env fun a S => if isLst S a = true then (evalO G.C k env S).thn env fun k S => popK r a env S k g else .err) D ∧
  ∀ x v env' S' ρ' H', Run wd S ρ' S' → SR G (wd.up ρ') σ H' env' S' → RepA G.K (BadOf (wd.up ρ') σ env' S') H' ρ' v x → EndsOf G W rf wd S (g x env' S') D → Q v H'
theorem popK_at {r : Ex} {a : A} {v : V} {k : Option Int} {g : A → TEnv → Store → RS} {wd0 : Wd} {S0 : Store} (I : SR G (wd0.up ρ1) σ H env S) (gr : Run wd0 S0 ρ1 S) (rb : RepB G (BadOf (wd0.up ρ1) σ env S) H ρ1 v a)
    (lk : ∀ i c, r = .own i → a = .own c → env[i]? = some (some (.own c)) ∧ σ[i]? = some (some v)) (h : EndsOf G W rf wd0 S0 (popK r a env S k g) D) :
    ∃ p cc q n, v = .ref p ∧ popC k cc = some q ∧ Mu G D (wd0.up ρ1) σ env S H p cc n fun H' c2 => c2 = q.2 → ∃ env' S', Run wd0 S0 ρ1 S' ∧ SR G (wd0.up ρ1) σ H' env' S' ∧ EndsOf G W rf wd0 S0 (g q.1 env' S') D ∧ ∀ a, BadOf (wd0.up ρ1) σ env' S' a → BadOf (wd0.up ρ1) σ env S a := by
  cases a with
  | own cc =>
    by_cases hr : ∃ i, r = .own i
    · obtain ⟨i, rfl⟩ := hr
      obtain ⟨e1, e2⟩ := lk i cc rfl rfl
      simp only [popK] at h
      split at h
      · rename_i q ef
        refine let ⟨p, ep, m⟩ := mu_own (D := D) (nx := fun H' c2 => c2 = q.2 → ∃ env' S', Run wd0 S0 ρ1 S' ∧ SR G (wd0.up ρ1) σ H' env' S' ∧ EndsOf G W rf wd0 S0 (g q.1 env' S') D ∧ ∀ a, BadOf (wd0.up ρ1) σ env' S' a → BadOf (wd0.up ρ1) σ env S a) I e1 e2 fun o c2 J e => ⟨_, S, gr, e ▸ J, h, fun a z => ?_⟩; ⟨p, cc, q, _, ep, ef, m⟩
        refine z.imp (fun z => z.imp id fun ⟨j, ⟨c', z1⟩, z2⟩ => ⟨j, ?_, z2⟩) id
        by_cases ej : i = j
        · subst ej; exact ⟨cc, e1⟩
        · rw [List.getElem?_set_ne ej] at z1; exact ⟨c', z1⟩
      · exact h.elim
    · have : popK r (.own cc) env S k g = .err := by cases r <;> first | rfl | exact absurd ⟨_, rfl⟩ hr
      rw [this] at h
      exact h.elim
  | ref n =>
    have : popK r (.ref n) env S k g = match S[n]? with
      | some c => match popC k c with
        | some q => g q.1 env (S.set n q.2)
        | none => .err
      | none => .err := by cases r <;> rfl
    rw [this] at h
    split at h
    · rename_i cc ec
      split at h
      · rename_i q ef
        have nd : cc ≠ .dead := fun z => by rw [z] at ef; cases k <;> cases ef
        obtain ⟨p, rfl, m⟩ := mu_ref (D := D) (nx := fun H' c2 => c2 = q.2 → ∃ env' S', Run wd0 S0 ρ1 S' ∧ SR G (wd0.up ρ1) σ H' env' S' ∧ EndsOf G W rf wd0 S0 (g q.1 env' S') D ∧ ∀ a, BadOf (wd0.up ρ1) σ env' S' a → BadOf (wd0.up ρ1) σ env S a) I rb ec nd
          fun o c2 J st e => ⟨env, _, gr.trans (SR.run (wd := wd0.up ρ1) I (e ▸ st)), e ▸ J, h, fun a z => z.imp id (live_set ec nd)⟩
        exact ⟨p, cc, q, n, rfl, ef, m⟩
      · exact h.elim
    · exact h.elim
  | val d =>
    have : popK r (.val d) env S k g = .err := by cases r <;> rfl
    rw [this] at h
    exact h.elim
  | tup as =>
    have : popK r (.tup as) env S k g = .err := by cases r <;> rfl
    rw [this] at h
    exact h.elim
  | exn j d =>
    have : popK r (.exn j d) env S k g = .err := by cases r <;> rfl
    rw [this] at h
    exact h.elim
/-- the item that is popped -/
theorem pop_item {p : Addr} {cc : Cell} {n : Nat} {q : A × Cell} {k : Option Int} {nx : Hp → Cell → Prop} {Q : VK} (I : SR G wd σ H env S) (mu : Mu G D wd σ env S H p cc n nx) (e : popC k cc = some q)
    (w : ∀ y o, Mut (some o) → RepA G.K (BadOf wd σ env S) (upd H p o) wd.ρ y q.1 → nx (upd H p o) q.2 → Q y (upd H p o)) :
    (k = none → rPop (.ref p) [] H Q) ∧ ∀ i, k = some i → rPopAt (.ref p) [.int i] H Q := by
  have ext : ∀ {xs : List V} {y : V}, RepA G.K (BadOf wd σ env S) H wd.ρ y q.1 → RepA G.K (BadOf wd σ env S) (upd H p (.lst xs)) wd.ρ y q.1 := fun {xs y} r => by
    obtain ⟨e, h1, h2⟩ := put_ok (H := H) (o := .lst xs) mu.bad trivial
    exact r.ext I.badOk h1 e h2 (List.prefix_refl _)
  have blw : ∀ {as as' : List A}, cc = .refs as → (∀ x ∈ as', x ∈ as) → ∀ b, wd.bs b → n < b → CBelow b (.refs as') := fun {as as'} ec hs b g1 g2 x hx => by
    have := mu.blw b g1 g2
    rw [ec] at this
    exact this x (hs x hx)
  refine ⟨fun ek => ?_, fun i ek => ?_⟩
  · subst ek
    cases hob : mu.ob with
    | lst h1 h2 =>
      obtain ⟨d, e1, rfl⟩ := Option.map_eq_some_iff.mp e
      obtain ⟨y, y1, y2⟩ := h2.get e1
      exact ⟨p, _, y, rfl, rfl, h1, by rw [h2.length]; exact y1, w y _ trivial (ext (.val y2)) (mu.fin _ _ trivial (fun z => nomatch z) (obj_lst I.badOk mu.bad h2.front) fun _ _ _ => trivial)⟩
    | refs h1 h2 =>
      obtain ⟨d, e1, rfl⟩ := Option.map_eq_some_iff.mp e
      obtain ⟨y, y1, y2⟩ := h2.get e1
      exact ⟨p, _, y, rfl, rfl, h1, by rw [h2.length]; exact y1, w y _ trivial (ext y2) (mu.fin _ _ trivial (fun z => nomatch z) (obj_refs I.badOk mu.bad h2.front) (blw rfl fun x hx => List.dropLast_subset _ hx))⟩
    | inst _ _ _ => cases e
    | dead _ => cases e
  · subst ek
    cases hob : mu.ob with
    | lst h1 h2 =>
      simp only [popC] at e
      split at e
      · rename_i hb
        obtain ⟨m, e0, e⟩ := Option.bind_eq_some_iff.mp e
        obtain ⟨d, e1, rfl⟩ := Option.map_eq_some_iff.mp e
        obtain ⟨y, y1, y2⟩ := h2.get e1
        exact ⟨p, _, i, m, y, rfl, rfl, h1, hb.1, hb.2, by rw [h2.length]; exact e0, y1, w y _ trivial (ext (.val y2)) (mu.fin _ _ trivial (fun z => nomatch z) (obj_lst I.badOk mu.bad (h2.erase m)) fun _ _ _ => trivial)⟩
      · cases e
    | refs h1 h2 =>
      simp only [popC] at e
      split at e
      · rename_i hb
        obtain ⟨m, e0, e⟩ := Option.bind_eq_some_iff.mp e
        obtain ⟨d, e1, rfl⟩ := Option.map_eq_some_iff.mp e
        obtain ⟨y, y1, y2⟩ := h2.get e1
        exact ⟨p, _, i, m, y, rfl, rfl, h1, hb.1, hb.2, by rw [h2.length]; exact e0, y1, w y _ trivial (ext y2) (mu.fin _ _ trivial (fun z => nomatch z) (obj_refs I.badOk mu.bad (h2.erase m)) (blw rfl fun x hx => List.mem_of_mem_eraseIdx hx))⟩
      · cases e
    | inst _ _ _ => cases e
    | dead _ => cases e
theorem pe_popE {r : Ex} {k : Option Ex} {e : Expr} {g : A → TEnv → Store → RS} (o : XOk X G c W) (h : popE c r k e = true) : PE X e (tPop G W rf r k g) := by
  unfold popE at h
  split at h
  · rename_i ob n ap ts cp
    obtain ⟨h1, h⟩ := ba h
    obtain ⟨h2, h⟩ := ba h
    obtain ⟨h3, h⟩ := ba h
    obtain ⟨h6, h7⟩ := ba h
    have e1 := de h1
    subst e1
    have pr := pe_recv o h2
    cases k with
    | none =>
      have e2 : ts = [] := by cases ts with | nil => rfl | cons _ _ => cases h3
      subst e2
      refine PE.imp (pe_bm0 PySem.F.plainAttrs_list PySem.F.slot_list_pop PySem.F.type_list_pop mt_pop pr (base_of h6) h7) fun σ H Q ⟨wd, env, S, D, I, h, q⟩ => ?_
      refine ⟨wd, env, S, I, (h.thn I).mono fun a S1 e1 h v H1 ρ1 st1 I1 rb lk => ?_⟩
      obtain ⟨hl, h⟩ := h.if_
      rw [o.K]
      refine ⟨(isLst_ty (wd := wd.up ρ1) I1 rb hl).2, ?_⟩
      have h : EndsOf G W rf wd S (popK r a env S1 none g) D := by
        rw [show evalO G.C none env S1 = .ok none S1 by simp only [evalO]] at h
        exact h
      obtain ⟨p, cc, qq, n, rfl, ef, mu⟩ := popK_at I1 (I.run st1) rb lk h
      exact (pop_item I1 mu ef fun y oo ho ry nx => let ⟨env', S', gr, J, hh, hb⟩ := nx rfl; q qq.1 y env' S' ρ1 _ gr J (ry.anti (I1.badOk.ext (put_ok (H := H1) (o := oo) mu.bad ho).1) hb) hh).1 rfl
    | some e' =>
      obtain ⟨t, rfl, h3⟩ : ∃ t, ts = [t] ∧ (chkE c true e' t && noStar t) = true := by
        rcases ts with _ | ⟨t, _ | ⟨t2, ts⟩⟩
        · cases h3
        · exact ⟨t, rfl, h3⟩
        · cases h3
      obtain ⟨h4, h5⟩ := ba h3
      have st : [t].all noStar = true := by simp [h5]
      refine PE.imp (pe_bmF PySem.F.plainAttrs_list PySem.F.slot_list_pop PySem.F.type_list_pop mt_popAt pr (pa_cons ((sound e').bor X c W t o h4) pa_nil (star1 h5)) (base_of h6) (stars2 st) (by simp) h7 (star1 h5) rfl) fun σ H Q ⟨wd, env, S, D, I, h, q⟩ => ?_
      refine ⟨wd, env, S, I, (h.thn I).mono fun a S1 e1 h v H1 ρ1 st1 I1 rb lk => ?_⟩
      obtain ⟨hl, h⟩ := h.if_
      rw [o.K]
      have eO : ∀ S, evalO G.C (some e') env S = (evalE G.C e' env S).bind fun a S => match asInt S a with
        | some i => .ok (some i) S
        | none => .err := fun S => by simp only [evalO] <;> rfl
      have g' := (h.grow (I.run st1)).thn I1
      rw [eO] at g'
      refine ⟨(isLst_ty (wd := wd.up ρ1) I1 rb hl).1, wd.up ρ1, env, S1, I1, g'.pass.mono fun b S2 e2 _ u H2 ⟨ρ2, st2, I2, rb2⟩ => ?_⟩
      rw [eO, e2] at h
      have h : EndsOf G W rf wd S ((match asInt S2 b with
        | some i => Tr.R.ok (some i) S2
        | none => .err).thn env fun k S => popK r a env S k g) D := h
      cases ei : asInt S2 b with
      | none => rw [ei] at h; exact h.elim
      | some i =>
        rw [ei] at h
        have h : EndsOf G W rf wd S (popK r a env S2 (some i) g) D := h
        have eu : u = .int i := by
          unfold asInt at ei
          split at ei
          · rename_i j ej
            cases ei
            exact (RepB.deref (wd := wd.up ρ2) I2 rb2 ej).int
          · cases ei
        subst eu
        obtain ⟨p, cc, qq, n, rfl, ef, mu⟩ := popK_at (wd0 := wd) I2 ((I.run st1).trans (I1.run st2)) (RepB.keep (wd := wd.up ρ1) I1 st2 rb) lk h
        exact (pop_item I2 mu ef fun y oo ho ry nx => let ⟨env', S', gr, J, hh, hb⟩ := nx rfl; q qq.1 y env' S' ρ2 _ gr J (ry.anti (I2.badOk.ext (put_ok (H := H2) (o := oo) mu.bad ho).1) hb) hh).2 i rfl
  · cases h
end
end Tr


namespace Tr
open PySem L2
open PySem.Spec PyProof.Rows
section
variable {G : Gam} {X : Cx} {c : Ctx} {W : WX} {rf : Bool} {wd : Wd} {σ : L2.St} {H H' H1 : Hp} {env : TEnv} {S S' S1 S2 : Store} {ρ1 ρ2 : List Addr} {D : Ends}
theorem SoundS.pop (dst : List Nat) (r : Ex) (k : Option Ex) : SoundS G (.pop dst r k) := by
  refine ⟨fun X c W rf st o h => ?_⟩
  unfold chkS at h
  have noc : ∀ {e : Expr}, popE c r k e = true → noComp e = true := fun {e} h => by cases e <;> first | rfl | (cases h; done)
  have red : ∀ {D σ H}, tS G W rf (.pop dst r k) D σ H → ∀ Q : VK, (∀ wd env S x v env' S' ρ' H', SR G wd σ H env S → Run wd S ρ' S' → SR G (wd.up ρ') σ H' env' S' → RepA G.K (BadOf (wd.up ρ') σ env' S') H' ρ' v x → EndsOf G W rf wd S (popT dst x env' S') D → Q v H') → tPop G W rf r k (popT dst) σ H Q := fun {D σ H} ⟨wd, env, S, I, h⟩ Q q =>
    ⟨wd, env, S, D, I, h, fun x v env' S' ρ' H' g J rx hh => q wd env S x v env' S' ρ' H' I g J rx hh⟩
  split at h
  · rename_i e pos
    refine PS.imp (ps_expr (pe_popE (rf := rf) (g := popT []) o h) (sw_no (noc h))) fun D σ H hh => red hh _ fun wd env S x v env' S' ρ' H' I g J rx hh => hh _ _ ρ' g J
  · rename_i i x p e pos
    obtain ⟨h1, h2⟩ := ba h
    obtain ⟨q1, q2, q3, q4⟩ := setB_ok o h1
    refine PS.imp (ps_set q1 q2 q3 (pe_popE (rf := rf) (g := popT [i]) o h2) (sw_no (noc h2)) q4) fun D σ H hh => red hh _ fun wd env S x v env' S' ρ' H' I g J rx hh => ?_
    have hh : EndsOf G W rf wd S (match bindT [i] x env' with
      | some env' => .nx env' S'
      | none => .err) D := hh
    split at hh
    · rename_i env2 eb
      obtain ⟨ds, t1, hl, rfl⟩ := bindT_takes eb
      have t1 : ds = [x] := t1
      subst t1
      exact hh _ _ ρ' g (J.bind (is := [i]) (.cons rx .nil))
    · exact hh.elim
  · rename_i i j is tg e pos
    obtain ⟨h1, h⟩ := ba h
    obtain ⟨h2, h⟩ := ba h
    obtain ⟨h3, h4⟩ := ba h
    have nsw : swappedStores [tg] e X.env = pure none := by
      cases e <;> first | (cases h4; done) | skip
      cases tg <;> rfl
    refine PS.imp (ps_take o h1 h2 h3 (pe_popE (rf := rf) (g := popT (i :: j :: is)) o h4) nsw) fun D σ H hh => red hh _ fun wd env S x v env' S' ρ' H' I g J rx hh => ?_
    have hh : EndsOf G W rf wd S (match bindT (i :: j :: is) x env' with
      | some env' => .nx env' S'
      | none => .err) D := hh
    split at hh
    · rename_i env2 eb
      obtain ⟨ds, t1, hl, rfl⟩ := bindT_takes eb
      exact ⟨_, ρ', x, ds, .of rx, fun _ => rx, t1, fun vs rs => hh _ _ ρ' g (J.bind rs)⟩
    · exact hh.elim
  · cases h

theorem bad_drop {a : Addr} (z : BadOf wd [] [] S a) : BadOf wd σ env S a := by
  rcases z with (z | ⟨i, ⟨c, z⟩, _⟩) | z
  · exact .inl (.inl z)
  · simp at z
  · exact .inr z
theorem SR.drop (I : SR G wd σ H env S) : SR G wd [] H [] S := by
  have no : ∀ {i p}, ¬ OwnAt [] [] i p := fun {i p} ⟨⟨c, z⟩, _⟩ => by simp at z
  exact ⟨rfl, I.lenρ, fun i a z => by simp at z, fun n p c h1 h2 => (I.cel n p c h1 h2).anti I.badOk fun a z => bad_drop z, I.nd, fun i j p z => (no z).elim, fun p ⟨i, z⟩ => (no z).elim, fun p ⟨i, z⟩ => (no z).elim, I.liveB, I.b0, fun p ⟨i, z⟩ => (no z).elim, I.ρM, I.mM, I.ext, I.cl, I.bsb, I.base⟩
theorem SoundS.ret (e : Ex) : SoundS G (.ret e) := by
  refine ⟨fun X c W rf st o h => ?_⟩
  unfold chkS at h
  split at h
  · rename_i v pos
    obtain ⟨h1, h2⟩ := ba h
    rw [o.fr] at h2
    refine PS.imp (ps_ret ((sound e).val X c W v o h1)) fun D σ H ⟨wd, env, S, I, h⟩ => ?_
    refine ⟨wd, env, S, I, (h.thn I).mono fun a S1 e1 h u H1 ⟨ρ1, st, I1, r, f⟩ => h u H1 ρ1 (I.run st) ⟨I1.drop, r.anti I1.badOk fun a z => bad_drop z, fun hr ds ed => ?_⟩⟩
    rw [hr] at h2
    obtain ⟨q, xs, e1, n0, nB, nρ, k1, J, rs⟩ := f h2 ds ed
    exact ⟨q, xs, e1, .inr (I.noneHe n0), nB, nρ, k1, J.drop, rs.anti J.badOk fun a z => bad_drop z⟩
  · cases h
/-- what a name has alone goes to others -/
theorem SR.give (I : SR G wd σ H env S) {i : Nat} {p : Addr} (oa : OwnAt σ env i p) : SR G (wd.plus p) [] H [] S ∧ ∀ a, BadOf (wd.plus p) [] [] S a → BadOf wd σ env S a := by
  have no : ∀ {i p}, ¬ OwnAt [] [] i p := fun {i p} ⟨⟨c, z⟩, _⟩ => by simp at z
  have hb : ∀ a, BadOf (wd.plus p) [] [] S a → BadOf wd σ env S a := fun a z => by
    rcases z with ((z | z) | ⟨j, z⟩) | z
    · exact .inl (.inl z)
    · exact .inl (.inr ⟨i, z ▸ oa⟩)
    · exact (no z).elim
    · exact .inr z
  refine ⟨⟨rfl, I.lenρ, fun i a z => by simp at z, fun n q c h1 h2 => (I.cel n q c h1 h2).anti I.badOk hb, I.nd, fun i j p z => (no z).elim, fun p ⟨i, z⟩ => (no z).elim, fun p ⟨i, z⟩ => (no z).elim, fun q z b => ?_, fun q z => ?_, fun p ⟨i, z⟩ => (no z).elim, I.ρM, I.mM, I.ext, I.cl, I.bsb, I.base⟩, hb⟩
  · rcases b with b | b
    · exact I.liveB q z b
    · exact I.ownLive ⟨i, oa⟩ (b ▸ z)
  · rcases z with z | z
    · exact I.b0 q z
    · exact I.badOk q (.inl (.inr ⟨i, z ▸ oa⟩))
theorem SoundS.retO (i : Nat) : SoundS G (.retO i) := by
  refine ⟨fun X c W rf st o h => ?_⟩
  unfold chkS at h
  split at h
  · rename_i x np pos
    obtain ⟨q1, q2, q3, q4⟩ := o.look h
    refine PS.imp (ps_ret (pe_var (pos := np) q1 q2 q3 q4)) fun D σ H ⟨wd, env, S, I, h⟩ => ?_
    simp only [exec] at h
    split at h
    · rename_i ds eg
      obtain ⟨p, oa, ho, _⟩ := I.ownAt (getV_some eg)
      obtain ⟨J, hb⟩ := I.give oa
      cases ho with
      | lst g1 g2 =>
        have nb : ¬ BadOf wd [] [] S p := fun z => by
          rcases z with (z | ⟨j, ⟨c, z⟩, _⟩) | z
          · exact I.ownB p ⟨i, oa⟩ z
          · simp at z
          · exact I.ownLive ⟨i, oa⟩ z
        refine ⟨.ref p, oa.2, h _ H wd.ρ .refl ⟨I.drop, .val (.lst (.inl ⟨.inl g1, nb⟩) (g2.anti I.badOk fun a z => bad_drop z)), fun _ ds' z => ?_⟩⟩
        cases z
        exact ⟨p, _, rfl, I.ownM p ⟨i, oa⟩, I.ownB p ⟨i, oa⟩, I.ownρ p ⟨i, oa⟩, g1, J, g2.anti I.badOk hb⟩
    · exact h.elim
  · cases h
theorem SoundS.retN : SoundS G .retN := by
  refine ⟨fun X c W rf st o h => ?_⟩
  unfold chkS at h
  split at h
  · exact PS.imp ps_retN fun D σ H ⟨wd, env, S, I, h⟩ => h _ H wd.ρ .refl ⟨I.drop, .val .non, fun _ ds z => nomatch z⟩
  · cases h
theorem SoundS.pass : SoundS G .pass := by
  refine ⟨fun X c W rf st o h => ?_⟩
  unfold chkS at h
  split at h
  · exact PS.imp ps_pass fun D σ H ⟨wd, env, S, I, h⟩ => h _ H wd.ρ .refl I
  · cases h
theorem SoundS.brk : SoundS G .brk := by
  refine ⟨fun X c W rf st o h => ?_⟩
  unfold chkS at h
  split at h
  · exact PS.imp ps_break fun D σ H ⟨wd, env, S, I, h⟩ => h _ H wd.ρ .refl I
  · cases h
theorem SoundS.cnt : SoundS G .cnt := by
  refine ⟨fun X c W rf st o h => ?_⟩
  unfold chkS at h
  split at h
  · exact PS.imp ps_continue fun D σ H ⟨wd, env, S, I, h⟩ => h _ H wd.ρ .refl I
  · cases h
theorem SoundS.doc : SoundS G .doc := by
  refine ⟨fun X c W rf st o h => ?_⟩
  unfold chkS at h
  split at h
  · exact PS.imp ps_doc fun D σ H ⟨wd, env, S, I, h⟩ => h _ H wd.ρ .refl I
  · cases h

theorem frz_ok : ∀ (k : Nat) {wd : Wd} {σ : L2.St} {H : Hp} {env : TEnv} {S S' : Store} {a : A} {v : V} {d : PyData}, SR G wd σ H env S → RepA G.K (BadOf wd σ env S) H wd.ρ v a → frz k S a = some (d, S') →
    SR G wd σ H env S' ∧ Step wd S H wd.ρ S' H ∧ (∀ a, BadOf wd σ env S' a → BadOf wd σ env S a) ∧ Rep G.K (BadOf wd σ env S') H v d := by
  intro k
  induction k with
  | zero =>
    intro wd σ H env S S' a v d I r e
    cases a with
    | val d' => cases e; exact ⟨I, I.refl, fun _ z => z, r.d⟩
    | _ => cases e
  | succ k ih =>
    have list : ∀ {as : List A} {wd : Wd} {σ : L2.St} {H : Hp} {env : TEnv} {S S' : Store} {vs : List V} {ds : List PyData}, SR G wd σ H env S → RepAs G.K (BadOf wd σ env S) H wd.ρ vs as → frzL (frz k) S as = some (ds, S') →
        SR G wd σ H env S' ∧ Step wd S H wd.ρ S' H ∧ (∀ a, BadOf wd σ env S' a → BadOf wd σ env S a) ∧ Reps G.K (BadOf wd σ env S') H vs ds := by
      intro as
      induction as with
      | nil =>
        intro wd σ H env S S' vs ds I r e
        cases r
        cases e
        exact ⟨I, I.refl, fun _ z => z, .nil⟩
      | cons a as ih2 =>
        intro wd σ H env S S' vs ds I r e
        cases r with
        | cons r rs =>
          simp only [frzL] at e
          split at e
          · rename_i p ep
            obtain ⟨q, eq, e⟩ := Option.map_eq_some_iff.mp e
            cases e
            obtain ⟨d1, S1⟩ := p
            obtain ⟨I1, st1, b1, r1⟩ := ih I r ep
            obtain ⟨I2, st2, b2, r2⟩ := ih2 I1 (rs.anti I.badOk b1) (ds := q.1) (S' := q.2) eq
            exact ⟨I2, I.trans st1 st2, fun a z => b1 a (b2 a z), .cons (r1.anti I1.badOk b2) r2⟩
          · cases e
    intro wd σ H env S S' a v d I r e
    cases a with
    | val d' => cases e; exact ⟨I, I.refl, fun _ z => z, r.d⟩
    | ref n =>
      simp only [frz] at e
      cases r with
      | ref hp =>
        rename_i p
        split at e
        · rename_i ds ec
          cases e
          obtain ⟨J, st, hb, nb⟩ := I.kill hp ec (fun z => nomatch z)
          cases I.cel n p _ hp ec with
          | lst h1 h2 => exact ⟨J, st, hb, .lst (.inl ⟨.inl h1, nb⟩) (h2.anti I.badOk hb)⟩
        · rename_i as ec
          obtain ⟨q, eq, e⟩ := Option.map_eq_some_iff.mp e
          cases e
          obtain ⟨J, st, hb, nb⟩ := I.kill hp ec (fun z => nomatch z)
          cases I.cel n p _ hp ec with
          | refs h1 h2 =>
            obtain ⟨I2, st2, b2, r2⟩ := list J (h2.anti I.badOk hb) (ds := q.1) (S' := q.2) eq
            exact ⟨I2, I.trans st st2, fun a z => hb a (b2 a z), .lst (.inl ⟨.inl h1, fun z => nb (b2 p z)⟩) r2⟩
        · cases e
    | tup as =>
      simp only [frz] at e
      obtain ⟨q, eq, e⟩ := Option.map_eq_some_iff.mp e
      cases e
      cases r with
      | tup h1 h2 =>
        obtain ⟨I2, st2, b2, r2⟩ := list I h2 (ds := q.1) (S' := q.2) eq
        exact ⟨I2, st2, b2, .tup h1 r2⟩
    | own cc => cases e
    | exn j d' => cases e
theorem rel_red {i : Nat} (I : SR G wd σ H env S) {ss : List Cmd} (h : EndsOf G W rf wd S (execs G.C (.rel i :: ss) env S) D) : tSs G W rf ss D σ H := by
  have h : EndsOf G W rf wd S ((exec G.C (.rel i) env S).bind fun env S => execs G.C ss env S) D := by simpa only [execs] using h
  simp only [exec] at h
  split at h
  · rename_i ds eg
    exact ⟨wd, _, S, I.relO (getV_some eg), h⟩
  · rename_i a ha eg
    split at h
    · rename_i p ep
      obtain ⟨d, S'⟩ := p
      obtain ⟨v, w1, w2⟩ := I.var i _ (getV_some eg)
      cases w2 with
      | at_ r =>
        obtain ⟨J, st, hb, rd⟩ := frz_ok 3 I r ep
        have h : EndsOf G W rf wd S (execs G.C ss (env.set i (some (.val d))) S') D := h
        have J2 := J.setV (i := i) (.at_ (.val rd)) (fun c z => nomatch z)
        have es : σ.set i (some v) = σ := by
          refine List.ext_getElem? fun j => ?_
          by_cases e : i = j
          · subst e
            rw [List.getElem?_set_self (List.getElem?_eq_some_iff.mp w1).1, w1]
          · rw [List.getElem?_set_ne e]
        rw [es] at J2
        exact ⟨wd, _, S', J2, h.grow (I.run st)⟩
      | own e1 h1 h2 =>
        cases ep
      | exn _ _ _ => cases ep
    · exact h.elim
  · exact h.elim
end
end Tr


namespace Tr
open PySem L2
open PySem.Spec PyProof.Rows
section
variable {G : Gam} {X : Cx} {c : Ctx} {W : WX} {rf : Bool} {wd : Wd} {σ : L2.St} {H H' H1 : Hp} {env : TEnv} {S S' S1 S2 : Store} {ρ1 ρ2 : List Addr} {D : Ends}
theorem SoundS.ifs (t : Ex) (a b : List Cmd) (ha : SoundSs G a) (hb : SoundSs G b) : SoundS G (.ifs t a b) := by
  refine ⟨fun X c W rf st o h => ?_⟩
  unfold chkS at h
  split at h
  · rename_i te sa sb pos
    obtain ⟨h1, h⟩ := ba h
    obtain ⟨h2, h3⟩ := ba h
    refine PS.imp (ps_if ((sound t).tst X c W te o h1) (ha.run X c W rf sa o h2) (hb.run X c W rf sb o h3)) fun D σ H ⟨wd, env, S, I, h⟩ => ?_
    refine ⟨wd, env, S, I, (h.thn I).mono fun x S1 e1 h => ?_⟩
    split at h
    · rename_i k ek
      refine ⟨k, asBool_some ek, fun H1 ⟨ρ1, st, I1⟩ => ?_⟩
      have h := h.grow (I.run st)
      cases k with
      | true => exact ⟨_, env, S1, I1, h⟩
      | false => exact ⟨_, env, S1, I1, h⟩
    · exact h.elim
  · cases h
/-- from a walk's start back to the outer one -/
theorem SR.since2 {wd0 wd2 : Wd} (I0 : SR G wd0 σ H1 env S) {τ : L2.St} {env' : TEnv} (J : SR G wd2 τ H' env' S') (eH : wd2.He = H1) (eM : wd2.M = fun a => Own σ env a ∨ Live wd0.ρ S a) :
    SR G { wd2 with He := wd0.He, M := wd0.M } τ H' env' S' := by
  have hN : ∀ a, (wd2.M a ∨ wd2.He a = none) → wd0.M a ∨ wd0.He a = none := fun a z => by
    rw [eM, eH] at z
    rcases z with (z | z) | z
    · exact I0.ownM a z
    · exact I0.ρM a z
    · exact .inr (I0.noneHe z)
  have hx : Ext wd2.M H1 H' := eH ▸ J.ext
  exact ⟨J.len, J.lenρ, J.var, J.cel, J.nd, J.dist, J.ownB, J.ownρ, J.liveB, J.b0, fun p h => hN p (J.ownM p h), fun p h => hN p (J.ρM p h), I0.mM, I0.ext.chain hx fun a z => hN a (.inl z), J.cl, J.bsb, J.base⟩
theorem SoundS.fors (tg : List Nat) (it : Wk) (body : List Cmd) (hb : SoundSs G body) : SoundS G (.fors tg it body) := by
  refine ⟨fun X c W rf st o h => ?_⟩
  unfold chkS at h
  split at h
  · rename_i t i sb pos
    obtain ⟨h0, h⟩ := ba h
    obtain ⟨h1, h⟩ := ba h
    obtain ⟨h2, h⟩ := ba h
    obtain ⟨h3, h4⟩ := ba h
    have calm := o.calm h0
    refine PS.imp (ps_for o.po calm ((soundW it).wlk X c W false t i o h1) (pg_ok o (fun _ => calm) h3) (hb.run X c W rf sb o h4) fun x => fold_no h2 x) fun D σ H ⟨wd, env, S, I, h⟩ => ?_
    refine ⟨wd, env, S, I, (h.thn I).mono fun w S1 e1 h J ρ1 H1 st1 I1 wl => ?_⟩
    obtain ⟨as, g⟩ := w
    obtain ⟨Gd, Y, wk, hG, hY⟩ := wl
    have wk : Walk J as.length Gd Y := wk
    have run1 := I.run st1
    -- the walk's own start
    have In : SR G ((wd.up ρ1).now σ env S1 H1) σ H1 env S1 := SR.now (wd := wd.up ρ1) I1
    generalize hwn : (wd.up ρ1).now σ env S1 H1 = wn at In
    have nHe : wn.He = H1 := by rw [← hwn]; rfl
    have nM : wn.M = fun a => Own σ env a ∨ Live ρ1 S1 a := by rw [← hwn]; rfl
    have nB : wn.B0 = wd.B0 := by rw [← hwn]; rfl
    have nρ : wn.ρ = ρ1 := by rw [← hwn]; rfl
    have nxa : wn.xa = wd.xa := by rw [← hwn]; rfl
    have nbs : wn.bs = wd.bs := by rw [← hwn]; rfl
    have back : ∀ ρ, { wn.up ρ with He := wd.He, M := wd.M } = wd.up ρ := fun ρ => by rw [← hwn]; rfl
    have since : ∀ {ρ' : List Addr} {τ : L2.St} {H' : Hp} {env' : TEnv} {S' : Store}, SR G (wn.up ρ') τ H' env' S' → SR G (wd.up ρ') τ H' env' S' := fun {ρ' τ H' env' S'} J' => by
      have := I1.since2 (wd2 := wn.up ρ') J' nHe nM
      rw [show ({ wn.up ρ' with He := (wd.up ρ1).He, M := (wd.up ρ1).M } : Wd) = wd.up ρ' from back ρ'] at this
      exact this
    have sinceP : ∀ {ρ' : List Addr} {p : Addr} {τ : L2.St} {H' : Hp} {env' : TEnv} {S' : Store}, SR G ((wn.up ρ').plus p) τ H' env' S' → SR G ((wd.up ρ').plus p) τ H' env' S' := fun {ρ' p τ H' env' S'} J' => by
      have := I1.since2 (wd2 := (wn.up ρ').plus p) J' nHe nM
      rw [show ({ (wn.up ρ').plus p with He := (wd.up ρ1).He, M := (wd.up ρ1).M } : Wd) = (wd.up ρ').plus p by rw [← hwn]; rfl] at this
      exact this
    have toM : ∀ {a : Addr}, wn.M a ∨ wn.He a = none → wd.M a ∨ wd.He a = none := fun {a} z => by
      rw [nM, nHe] at z
      rcases z with (z | z) | z
      · exact I1.ownM a z
      · exact I1.ρM a z
      · exact .inr (I1.noneHe z)
    have badEq : ∀ {ρ' : List Addr} {τ : L2.St} {env' : TEnv} {S' : Store}, BadOf (wn.up ρ') τ env' S' = BadOf (wd.up ρ') τ env' S' := fun {ρ' τ env' S'} => by rw [← hwn]; rfl
    have runW : ∀ {ρ' : List Addr} {S' : Store}, Run wn S1 ρ' S' → Run wd S ρ' S' := fun {ρ' S'} r =>
      run1.trans (wd := wd) ⟨nρ ▸ r.pre, fun a m => (r.new a m).imp (fun z => nρ ▸ z) fun z => I1.noneHe (nHe ▸ z), r.dead⟩
    have later : ∀ {σ2 H2 env2 S2 ρ2}, Run wn S1 ρ2 S2 → SR G (wn.up ρ2) σ2 H2 env2 S2 → (∀ p ∈ g, S2[p.1]? = some p.2) → Later G false g (fun a => Own σ env a ∨ Live ρ1 S1 a) (wd.up ρ1) σ env S1 H1 (wn.up ρ2) σ2 env2 S2 H2 := fun {σ2 H2 env2 S2 ρ2} r J2 hg => by
      have fin : ∀ a, (wn.M a ∨ wn.He a = none) → BadOf (wd.up ρ1) σ env S1 a ∨ H1 a = none := fun a z => by
        rw [nM, nHe] at z
        rcases z with (z | z) | z
        · exact .inl (.inl (.inr z))
        · exact .inl (.inr z)
        · exact .inr z
      refine ⟨J2, nρ ▸ r.pre, ?_, fun a z => .inl (z.elim (fun z => .inr ⟨rfl, z⟩) .inl), fun a z => ?_, hg⟩
      · have := J2.ext
        rw [show (wn.up ρ2).He = H1 from nHe, show (wn.up ρ2).M = _ from nM] at this
        exact this
      · rcases z with (z | z) | z
        · exact .inl (.inl (.inl (nB ▸ z)))
        · exact fin a (J2.ownM a z)
        · exact fin a (J2.ρM a z)
    generalize hfn : (fun d env S => match bindT tg d env with
      | some env' => execs G.C body env' S
      | none => .err : A → TEnv → Store → RS) = f at h
    have nil : ∀ {env2 S2}, EndsOf G W rf wd S (loop g f [] env2 S2) D → (∀ p ∈ g, S2[p.1]? = some p.2) ∧ EndsOf G W rf wd S (.nx env2 S2) D := fun {env2 S2} h => by
      rw [loop] at h
      split at h
      · exact ⟨by assumption, h⟩
      · exact h.elim
    have cons : ∀ {d r env2 S2}, EndsOf G W rf wd S (loop g f (d :: r) env2 S2) D → (∀ p ∈ g, S2[p.1]? = some p.2) ∧ EndsOf G W rf wd S (match f d env2 S2 with
        | .nx env S => loop g f r env S
        | .ct env S => loop g f r env S
        | .bk env S => .nx env S
        | x => x) D := fun {d r env2 S2} h => by
      rw [loop] at h
      split at h
      · exact ⟨by assumption, h⟩
      · exact h.elim
    have grd : ∀ {j env2 S2}, EndsOf G W rf wd S (loop g f (as.drop j) env2 S2) D → ∀ p ∈ g, S2[p.1]? = some p.2 := fun {j env2 S2} h => by
      cases ed : as.drop j with
      | nil => rw [ed] at h; exact (nil h).1
      | cons d r => rw [ed] at h; exact (cons h).1
    refine for_it wk (fun j σ2 H2 => ∃ env2 S2 ρ2, Run wn S1 ρ2 S2 ∧ SR G (wn.up ρ2) σ2 H2 env2 S2 ∧ EndsOf G W rf wd S (loop g f (as.drop j) env2 S2) D)
      ⟨env, S1, ρ1, ⟨by rw [nρ]; exact List.prefix_refl _, fun a m => .inl (nρ ▸ m), fun _ e => e⟩, by rw [← nρ]; exact In, h⟩ (fun j σ2 H2 _ ⟨env2, S2, ρ2, r2, J2, hl⟩ => hG _ _ _ _ _ _ (later r2 J2 (grd hl))) (fun j v σ2 H2 H3 hj ⟨env2, S2, ρ2, r2, J2, hl⟩ y => ?_) fun σ2 H2 ⟨env2, S2, ρ2, r2, J2, hl⟩ => ?_
    · obtain ⟨nw, d, y1, y2, y3⟩ := hY _ _ _ _ _ H2 j v H3 (later r2 J2 (grd hl)) hj y
      have J3 : SR G (wn.up ρ2) σ2 H3 env2 S2 := J2.news nw.un
      have hdr : as.drop j = d :: as.drop (j + 1) := by
        obtain ⟨hj', e⟩ := List.getElem?_eq_some_iff.mp y1
        rw [List.drop_eq_getElem_cons hj', e]
      rw [hdr] at hl
      have hl := (cons hl).2
      cases eb : bindT tg d env2 with
      | none =>
        have : f d env2 S2 = .err := by rw [← hfn]; simp only [eb]
        rw [this] at hl
        exact hl.elim
      | some env3 =>
        have ef : f d env2 S2 = execs G.C body env3 S2 := by rw [← hfn]; simp only [eb]
        rw [ef] at hl
        obtain ⟨dsx, t1, tl, rfl⟩ := bindT_takes eb
        refine ⟨_, ρ2, d, dsx, y2, y3, t1, fun vs hvs => ⟨wn.up ρ2, _, S2, J3.bind hvs, ?_⟩⟩
        cases er : execs G.C body (setE env2 tg dsx) S2 with
        | nx e3 S3 =>
          rw [er] at hl
          exact fun σ4 H4 ρ4 r4 J4 => ⟨e3, S3, ρ4, r2.trans r4, J4, hl⟩
        | ct e3 S3 =>
          rw [er] at hl
          exact fun σ4 H4 ρ4 r4 J4 => ⟨e3, S3, ρ4, r2.trans r4, J4, hl⟩
        | bk e3 S3 =>
          rw [er] at hl
          exact fun σ4 H4 ρ4 r4 J4 => hl σ4 H4 ρ4 (runW (r2.trans r4)) (since J4)
        | rt a S3 =>
          rw [er] at hl
          refine fun v4 H4 ρ4 r4 R => hl v4 H4 ρ4 (runW (r2.trans r4)) ⟨since R.sr, ?_, fun hr ds' ed => ?_⟩
          · have := R.rep
            rw [show BadOf ((wn.up ρ2).up ρ4) [] [] S3 = BadOf (wd.up ρ4) [] [] S3 from badEq] at this
            exact this
          · obtain ⟨p, xs, g1, g2, g3, g4, g5, g6, g7⟩ := R.fresh hr ds' ed
            refine ⟨p, xs, g1, toM g2, by rw [← nB]; exact g3, g4, g5, sinceP g6, ?_⟩
            rw [show BadOf (((wn.up ρ2).up ρ4).plus p) [] [] S3 = BadOf ((wd.up ρ4).plus p) [] [] S3 by rw [← hwn]; rfl] at g7
            exact g7
        | exc k d' e3 S3 =>
          rw [er] at hl
          refine fun σ4 H4 ρ4 cls x r4 J4 xr => hl σ4 H4 ρ4 cls x (runW (r2.trans r4)) (since J4) ?_
          rw [show BadOf ((wn.up ρ2).up ρ4) σ4 e3 S3 = BadOf (wd.up ρ4) σ4 e3 S3 from badEq] at xr
          exact xr
        | err =>
          rw [er] at hl
          exact hl.elim
    · have ed : as.drop (as, g).1.length = [] := List.drop_length
      rw [ed] at hl
      exact (nil hl).2 σ2 H2 ρ2 (runW r2) (since J2)
  · cases h
theorem SoundS.whil (n : Nat) (t : Ex) (body : List Cmd) (hb : SoundSs G body) : SoundS G (.whil n t body) := by
  refine ⟨fun X c W rf st o h => ?_⟩
  unfold chkS at h
  split at h
  · rename_i te sb pos
    obtain ⟨h1, h2⟩ := ba h
    refine PS.imp (ps_while o.po ((sound t).tst X c W te o h1) (hb.run X c W rf sb o h2)) fun D σ H ⟨wd, env, S, I, h⟩ => ?_
    simp only [exec] at h
    refine ⟨fun m σ2 H2 => ∃ env2 S2 ρ2, Run wd S ρ2 S2 ∧ SR G (wd.up ρ2) σ2 H2 env2 S2 ∧ EndsOf G W rf wd S (wloop (evalE G.C t) (execs G.C body) m env2 S2) D, ⟨n, env, S, wd.ρ, .refl, I, h⟩, fun m σ2 H2 ⟨env2, S2, ρ2, r2, J2, hl⟩ => ?_⟩
    cases m with
    | zero => exact hl.elim
    | succ m =>
      rw [wloop] at hl
      have hg := (hl.grow r2).thn J2
      refine ⟨wd.up ρ2, env2, S2, J2, hg.mono fun x S3 e3 _ => ?_⟩
      rw [e3] at hl
      have hl : EndsOf G W rf wd S (match asBool x with
        | some true => match execs G.C body env2 S3 with
          | .nx env S => wloop (evalE G.C t) (execs G.C body) m env S
          | .ct env S => wloop (evalE G.C t) (execs G.C body) m env S
          | .bk env S => .nx env S
          | x => x
        | some false => .nx env2 S3
        | none => .err) D := hl
      cases eb : asBool x with
      | none => rw [eb] at hl; exact hl.elim
      | some b =>
        rw [eb] at hl
        refine ⟨b, asBool_some eb, fun H3 ⟨ρ3, st3, J3⟩ => ?_⟩
        have r3 : Run wd S ρ3 S3 := r2.trans (J2.run st3)
        cases b with
        | false => exact hl σ2 H3 ρ3 r3 J3
        | true =>
          refine ⟨fun σ4 H4 => ∃ env2 S2 ρ2, Run wd S ρ2 S2 ∧ SR G (wd.up ρ2) σ4 H4 env2 S2 ∧ EndsOf G W rf wd S (wloop (evalE G.C t) (execs G.C body) m env2 S2) D, fun σ4 H4 w => ⟨m, Nat.lt_succ_self m, w⟩, wd.up ρ3, env2, S3, J3, ?_⟩
          cases er : execs G.C body env2 S3 with
          | nx e3 S4 =>
            rw [er] at hl
            exact fun σ4 H4 ρ4 r4 J4 => ⟨e3, S4, ρ4, r3.trans r4, J4, hl⟩
          | ct e3 S4 =>
            rw [er] at hl
            exact fun σ4 H4 ρ4 r4 J4 => ⟨e3, S4, ρ4, r3.trans r4, J4, hl⟩
          | bk e3 S4 =>
            rw [er] at hl
            exact fun σ4 H4 ρ4 r4 J4 => hl σ4 H4 ρ4 (r3.trans r4) J4
          | rt a S4 =>
            rw [er] at hl
            exact fun v4 H4 ρ4 r4 R => hl v4 H4 ρ4 (r3.trans r4) R
          | exc k d' e3 S4 =>
            rw [er] at hl
            exact fun σ4 H4 ρ4 cls x r4 J4 xr => hl σ4 H4 ρ4 cls x (r3.trans r4) J4 xr
          | err =>
            rw [er] at hl
            exact hl.elim
  · cases h
theorem SoundSs.nil : SoundSs G [] := by
  refine ⟨fun X c W rf st o h => ?_⟩
  cases st with
  | nil =>
    refine PSs.imp pss_nil fun D σ H ⟨wd, env, S, I, h⟩ => ?_
    simp only [execs] at h
    exact h σ H wd.ρ .refl I
  | cons _ _ => cases h
theorem SoundSs.cons {s : Cmd} {ss : List Cmd} (h1 : SoundS G s) (h2 : SoundSs G ss) : SoundSs G (s :: ss) := by
  refine ⟨fun X c W rf st o h => ?_⟩
  unfold chkSs at h
  split at h
  · rename_i hg
    cases s <;> first | (cases hg; done) | skip
    exact PSs.imp (h2.run X c W rf st o h) fun D σ H ⟨wd, env, S, I, h⟩ => rel_red I h
  · split at h
    · rename_i t ts
      obtain ⟨g1, g2⟩ := ba h
      refine PSs.imp (pss_cons (h1.run X c W rf t o g1) (h2.run X c W rf ts o g2)) fun D σ H ⟨wd, env, S, I, h⟩ => ⟨wd, env, S, I, ?_⟩
      have h : EndsOf G W rf wd S ((exec G.C s env S).bind fun env S => execs G.C ss env S) D := by simpa only [execs] using h
      cases er : exec G.C s env S with
      | nx e S1 =>
        rw [er] at h
        exact fun σ1 H1 ρ r J => ⟨wd.up ρ, e, S1, J, EndsOf.grow h r⟩
      | bk e S1 => rw [er] at h; exact h
      | ct e S1 => rw [er] at h; exact h
      | rt a S1 => rw [er] at h; exact h
      | exc k d e S1 => rw [er] at h; exact h
      | err => rw [er] at h; exact h
    · cases h
theorem SoundS.no {s : Cmd} (h : ∀ c rf st, chkS c rf s st = false) : SoundS G s := ⟨fun X c W rf st o z => by rw [h] at z; cases z⟩
mutual
theorem soundS : ∀ s : Cmd, SoundS G s
  | .set i e => .set i e
  | .setO i e => .setO i e
  | .setD i => .no fun c rf st => by simp only [chkS]
  | .setT is e => .setT is e
  | .par is es => .par is es
  | .aug i o e => .aug i o e
  | .mth m r es => .mth m r es
  | .pop dst r k => .pop dst r k
  | .put r k e => .put r k e
  | .augPut r k o e => .augPut r k o e
  | .setF o x e => .no fun c rf st => by simp only [chkS]
  | .augF r x o e => .no fun c rf st => by simp only [chkS]
  | .rel i => .no fun c rf st => by simp only [chkS]
  | .expr e => .expr e
  | .ifs c a b => .ifs c a b (soundSs a) (soundSs b)
  | .fors tg it body => .fors tg it body (soundSs body)
  | .whil n c body => .whil n c body (soundSs body)
  | .ret e => .ret e
  | .retO i => .retO i
  | .retN => .retN
  | .raise k e => .no fun c rf st => by simp only [chkS]
  | .tryc body hs => .no fun c rf st => by simp only [chkS]
  | .pass => .pass
  | .brk => .brk
  | .cnt => .cnt
  | .doc => .doc
theorem soundSs : ∀ ss : List Cmd, SoundSs G ss
  | [] => .nil
  | s :: ss => .cons (soundS s) (soundSs ss)
end
end
end Tr


namespace Tr
open PySem L2
open PySem.Spec PyProof.Rows

theorem fnG_of {P : Program} {w : World} {K : PySem.W.Frag} {mg : Str → Option Value} {base : Heap} {k : Nat} {f : Addr} {fd : FuncData} {x qual : Str} {params : Arguments} {body : List Stmt} {scope : Scope} {dvs : List V} {kws : List (Str × V)} {N ps : List Str} {sp : Sp}
    (F : FunD K x qual params body scope dvs kws f fd) (Sc : FnScope N ps scope) (len : ∀ vs H Q E, sp vs H Q E → vs.length = ps.length)
    (go : ∀ (cdv : Value) (A : Around) (outer : List Env) (s : Shared) (H : Hp) (vs : List V) (Q : VK) (E : XK), Room k (A.deeper (envOfC qual scope s.heap.objs.size f cdv)) → A.guards = some [] → sp vs H Q E →
      ∃ t, PSs (cxOf (L2.CX P w) P w K mg base N qual scope f cdv A outer s H E) body t ∧ t { nx := fun _ H' => Q .non H', rt := Q } (start N vs) H) : FnG P w K mg base (k + 1) f fd ps sp := by
  obtain ⟨oc, od, dV, kV, doc, pm, an, cdv, ct, osl, rfl, lk, hcd, _, _⟩ := F.ex
  refine ⟨len, fun A outer s H args us vs Q E room hg e0 hbind hv hs => ?_⟩
  have hlen := len vs H Q E hs
  have Kin : K.In s.heap := e0.mod.kin.keeps (fun b o z => (e0.bs b o z).1)
  have kinds : ∀ q ∈ ps.zip us, scope.names.lookup q.1 = some .local ∨ (scope.names.lookup q.1 = some .cell ∧ ((cellsFrom (s.heap.objs.size + 1) scope.names []).lookup q.1).isSome = true) := by
    rintro ⟨n, v⟩ hq
    exact (Sc.par n (List.of_mem_zip hq).1).imp id fun z => ⟨z, PySem.W.cellsFrom_some _ _ _ (.inl z)⟩
  refine codeAny_call_function room.depth (Kin _ _ lk) rfl Sc.co Sc.gen rfl (PySem.W.codeRec_of Kin hcd) (hbind _ _ _ _ (wpAny_newFunctionEnv_cells Sc.kind kinds fun env he s1 x => ?_))
  subst he
  have limit : s.heap.NoLimit := e0.mod.nolimit.keeps (fun b o z => (e0.bs b o z).1)
  refine ⟨limit.keeps x.toInCall.keep, codeAny_func ?_⟩
  obtain ⟨t, body_ok, hq⟩ := go cdv A outer s H vs Q E (room.deeper _) hg hs
  have I0 : Inv (cxOf (L2.CX P w) P w K mg base N qual scope f cdv A outer s H E) [] (start N vs) H s1 := inv_start Sc room.hd e0 hlen hv x
  refine wpAny_mono (body_ok.run [] s1 (start N vs) H _ I0 hq) (fun fl s' r => ?_) fun _ _ r => r
  match fl, r with
  | .ret u, ⟨v, σ', H', J, rv, q⟩ => exact ⟨v, H', J.os, J.bare, J.base, J.hok, rv, q⟩
  | .next, ⟨σ', H', J, q⟩ => exact ⟨V.non, H', J.os, J.bare, J.base, J.hok, (rfl : RelV V.non Value.none), q⟩
  | .brk, ⟨_, _, _, q⟩ => exact q.elim
  | .cont, ⟨_, _, _, q⟩ => exact q.elim

/-- a def's text: its name, parameters, body, scope; the names of the parameters, of all slots -/
structure DefT where
  x : Str
  params : Arguments
  body : List Stmt
  scope : Scope
  ps : List Str
  N : List Str
def frOf (P : Prg) (i : Nat) : Bool := match P i with
  | some f => f.fresh
  | none => false
def ctxOf (ds : List (Nat × DefT)) (cons : List (Str × PyData)) (P : Prg) (d : DefT) : Ctx := ⟨d.N, d.scope, fun _ => true, ds.map fun d => (d.1, d.2.x, d.2.ps.length), cons, true, frOf P⟩
def chkFn (ds : List (Nat × DefT)) (cons : List (Str × PyData)) (P : Prg) (d : DefT) (f : Fn) : Bool :=
  C8.scC d.N d.ps d.scope && (d.N.length == f.ns && (d.ps.length == f.np && chkSs (ctxOf ds cons P d) f.fresh f.body d.body))
structure ModOk (K : PySem.W.Frag) (mg : Str → Option Value) (ds : List (Nat × DefT)) (cons : List (Str × PyData)) : Prop where
  defs : ∀ (i : Nat) (d : DefT), (i, d) ∈ ds → ∃ f fd, FunD K d.x d.x d.params d.body d.scope [] [] f fd ∧ mg d.x = some (.ref f) ∧ Binds K fd d.ps []
  cons : ∀ (x : Str) (d : PyData), cons.lookup x = some d → ∃ u v, mg x = some u ∧ RelV v u ∧ ∀ Bad H, Rep K Bad H v d
  free : ∀ x ∈ bltNames, mg x = none
/-- the classes of a module, the one attribute of their exceptions -/
structure Cls where
  cl : Nat → Option Addr
  xf : Nat → Option Str
noncomputable def gamOf (K : PySem.W.Frag) (L : Cls) (P : Prg) (n b : Nat) : Gam := ⟨K, L.cl, L.xf, ⟨callP P n b, b⟩, frOf P, n⟩
theorem start_some {N : List Str} {vs : List V} {i : Nat} {v : V} (h : vs[i]? = some v) : (start N vs)[i]? = some (some v) := by
  have hi := (List.getElem?_eq_some_iff.mp h).1
  unfold L2.start
  rw [List.getElem?_append_left (by simpa using hi), List.getElem?_map, h]
  rfl
theorem env0_some {as : List A} {n i : Nat} {a : A} (h : (as.map some ++ List.replicate n none : TEnv)[i]? = some (some a)) : as[i]? = some a := by
  by_cases hi : i < as.length
  · rw [List.getElem?_append_left (by simpa using hi), List.getElem?_map] at h
    cases e : as[i]? with
    | none => rw [e] at h; cases h
    | some b => rw [e] at h; cases h; rfl
  · rw [List.getElem?_append_right (by simpa using hi), List.getElem?_replicate] at h
    split at h <;> cases h

section
variable {G : Gam} {wd : Wd} {σ : L2.St} {H H' : Hp} {env : TEnv} {S S' : Store} {ρ' : List Addr}
theorem SR.closed (I : SR G wd σ H env S) : Closed S.length S := fun n c hn e => by
  have hl : n < wd.ρ.length := by rw [I.lenρ]; exact hn
  have := (I.cel n wd.ρ[n] c (List.getElem?_eq_getElem hl) e).blw
  rw [I.lenρ] at this
  exact this
/-- a step, and one new object of others -/
theorem SR.stepP (I : SR G wd σ H env S) (st : Step wd S H ρ' S' H') {p : Addr} (n0 : H p = none) (hp : Mut (H' p)) (np : p ∉ ρ') (J : SR G (wd.up ρ') σ H' env S')
    (hc : ∀ (n : Nat) (q : Addr) (c : Cell), ρ'[n]? = some q → S'[n]? = some c → ObjC G (BadOf ((wd.up ρ').plus p) σ env S') H' ρ' q c) : SR G ((wd.up ρ').plus p) σ H' env S' := by
  have hb : ∀ a, BadOf ((wd.up ρ').plus p) σ env S' a → BadOf wd σ env S a ∨ H a = none := fun a z => by
    rcases z with ((z | z) | z) | z
    · exact .inl (.inl (.inl z))
    · exact .inr (z ▸ n0)
    · exact .inl (.inl (.inr z))
    · exact I.hb st a (.inr z)
  refine ⟨J.len, J.lenρ, fun i a h => ?_, hc, J.nd, J.dist, fun q h b => b.elim (J.ownB q h) fun z => I.ownSome h (z ▸ n0), J.ownρ, fun q h b => b.elim (J.liveB q h) fun z => np (z ▸ h.mem), fun q h => h.elim (J.b0 q) fun z => z ▸ hp, J.ownM, J.ρM, J.mM, J.ext, J.cl, J.bsb, J.base⟩
  obtain ⟨v, h1, h2⟩ := I.var i a h
  refine ⟨v, h1, ?_⟩
  cases h2 with
  | at_ h2 => exact .at_ (h2.ext I.badOk I.hM st.ext hb st.pre)
  | own e1 h3 h4 => exact .own e1 (h3.ext I.badOk I.hM st.ext hb st.pre (I.ownLive ⟨i, ⟨_, h⟩, e1 ▸ h1⟩)) h4
  | exn e1 e2 h3 =>
    refine .exn e1 e2 fun f ef => ?_
    obtain ⟨dd, w, q1, q2, q3⟩ := h3 f ef
    refine ⟨dd, w, q1, st.ext.keep _ _ q2 fun z => ?_, q3.ext I.badOk I.hM st.ext hb⟩
    have := I.liveMut z
    rw [q2] at this
    exact this
end

section
variable {Pg : Program} {w : World} {K : PySem.W.Frag} {L : Cls} {mg : Str → Option Value} {base : Heap} {ds : List (Nat × DefT)} {cons : List (Str × PyData)} {P : Prg}
theorem live_take {ρ ρ1 : List Addr} {S1 : Store} {n : Nat} (hρ : ρ <+: ρ1) {a : Addr} (h : Live ρ (S1.take n) a) : Live ρ1 S1 a := by
  obtain ⟨m, c, h1, h2, h3⟩ := h
  obtain ⟨t, rfl⟩ := hρ
  rw [List.getElem?_take] at h2
  split at h2
  · exact ⟨m, c, by rw [List.getElem?_append_left (List.getElem?_eq_some_iff.mp h1).1]; exact h1, h2, h3⟩
  · cases h2
/-- behind a call: the caller's state -/
structure Aft (G : Gam) (wd : Wd) (σ : L2.St) (env : TEnv) (S : Store) (H : Hp) (ρ1 : List Addr) (S1 : Store) (H1 : Hp) (ρ' : List Addr) (S' : Store) : Prop where
  st : Step wd S H ρ' S' H1
  sr : SR G (wd.up ρ') σ H1 env S'
  bad : ∀ a, BadOf (wd.up ρ') σ env S' a → (wd.B0 a ∨ Own σ env a) ∨ Live ρ1 S1 a
  pre : ρ' <+: ρ1
  bplus : ∀ p, H p = none → Mut (H1 p) → p ∉ ρ1 → (∀ (n : Nat) (q : Addr) (c : Cell), ρ1[n]? = some q → S1[n]? = some c → ObjC G (fun a => ((wd.B0 a ∨ Own σ env a) ∨ a = p) ∨ Live ρ1 S1 a) H1 ρ1 q c) → SR G ((wd.up ρ').plus p) σ H1 env S'
theorem aft_keep {G : Gam} {wd wd0 : Wd} {σ : L2.St} {env : TEnv} {S S1 : Store} {H H1 : Hp} {ρ1 : List Addr} {C : Calls} {m : Nat} (I : SR G wd σ H env S) (eB : wd0.B0 = fun a => wd.B0 a ∨ Own σ env a) (eρ : wd0.ρ = wd.ρ) (eH : wd0.He = H) (eM : wd0.M = Live wd.ρ S) (hbs : ∀ b, wd.bs b → wd0.bs b)
    (r : Run wd0 S ρ1 S1) (J : SR { G with C := C, n := m } (wd0.up ρ1) [] H1 [] S1) : Aft G wd σ env S H ρ1 S1 H1 ρ1 S1 := by
  have jx : Ext (Live wd.ρ S) H H1 := by have := J.ext; rw [show (wd0.up ρ1).M = Live wd.ρ S from eM, show (wd0.up ρ1).He = H from eH] at this; exact this
  have st : Step wd S H ρ1 S1 H1 := ⟨eρ ▸ r.pre, J.nd, fun a m => (r.new a m).imp (fun z => eρ ▸ z) fun z => eH ▸ z, jx, r.dead⟩
  have hb : ∀ a, BadOf (wd.up ρ1) σ env S1 a → (wd.B0 a ∨ Own σ env a) ∨ Live ρ1 S1 a := fun a z => z
  have hb' : ∀ a, (wd.B0 a ∨ Own σ env a) ∨ Live ρ1 S1 a → BadOf (wd0.up ρ1) [] [] S1 a := fun a z => z.imp (fun z => .inl (by show wd0.B0 a; rw [eB]; exact z)) id
  have X : ∀ {q c}, ObjC { G with C := C, n := m } (BadOf (wd0.up ρ1) [] [] S1) H1 ρ1 q c → ObjC G (BadOf (wd.up ρ1) σ env S1) H1 ρ1 q c := fun {q c} h => by
    have := h.anti J.badOk fun a z => hb' a (hb a z)
    cases this with
    | lst a b => exact .lst a b
    | refs a b => exact .refs a b
    | inst a b c => exact .inst a b c
    | dead a => exact .dead a
  have J1 := I.step st J.lenρ (fun n p c h1 h2 => X (J.cel n p c h1 h2)) fun b h => J.cl b (hbs b h)
  exact ⟨st, J1, hb, List.prefix_refl _, fun p n0 hp np hc => I.stepP st n0 hp np J1 fun n q c h1 h2 => (hc n q c h1 h2).anti (fun a z => by
      rcases z with ((z | z) | z) | z
      · exact J1.badOk a (.inl (.inl z))
      · exact J1.badOk a (.inl (.inr z))
      · exact z ▸ hp
      · exact J1.badOk a (.inr z)) fun a z => by
    rcases z with ((z | z) | z) | z
    · exact .inl (.inl (.inl z))
    · exact .inl (.inr z)
    · exact .inl (.inl (.inr z))
    · exact .inr z⟩
theorem aft_take {G : Gam} {wd wd0 : Wd} {σ : L2.St} {env : TEnv} {S S1 : Store} {H H1 : Hp} {ρ1 : List Addr} {C : Calls} {m : Nat} (I : SR G wd σ H env S) (eB : wd0.B0 = fun a => wd.B0 a ∨ Own σ env a) (eρ : wd0.ρ = wd.ρ) (eH : wd0.He = H) (eM : wd0.M = Live wd.ρ S) (hbs : ∀ b, (wd.bs b ∨ b = S.length) → wd0.bs b)
    (r : Run wd0 S ρ1 S1) (J : SR { G with C := C, n := m } (wd0.up ρ1) [] H1 [] S1) : Aft G wd σ env S H ρ1 S1 H1 wd.ρ (S1.take S.length) := by
  have jx : Ext (Live wd.ρ S) H H1 := by have := J.ext; rw [show (wd0.up ρ1).M = Live wd.ρ S from eM, show (wd0.up ρ1).He = H from eH] at this; exact this
  have pre : wd.ρ <+: ρ1 := eρ ▸ r.pre
  have hl1 : ρ1.length = S1.length := J.lenρ
  have le : S.length ≤ S1.length := by
    rw [← hl1, ← I.lenρ]
    obtain ⟨t, rfl⟩ := pre
    simp
  have st : Step wd S H wd.ρ (S1.take S.length) H1 := ⟨List.prefix_refl _, I.nd, fun a m => .inl m, jx, fun n e => by
    have hn := (List.getElem?_eq_some_iff.mp e).1
    rw [List.getElem?_take_of_lt hn]; exact r.dead n e⟩
  have at1 : ∀ {n : Nat} {q : Addr} {c : Cell}, wd.ρ[n]? = some q → (S1.take S.length)[n]? = some c → ρ1[n]? = some q ∧ S1[n]? = some c ∧ n < S.length := fun {n q c} h1 h2 => by
    have hn := (List.getElem?_eq_some_iff.mp h1).1
    rw [I.lenρ] at hn
    rw [List.getElem?_take_of_lt hn] at h2
    obtain ⟨t, rfl⟩ := pre
    exact ⟨by rw [List.getElem?_append_left (List.getElem?_eq_some_iff.mp h1).1]; exact h1, h2, hn⟩
  have hb : ∀ a, BadOf (wd.up wd.ρ) σ env (S1.take S.length) a → (wd.B0 a ∨ Own σ env a) ∨ Live ρ1 S1 a := fun a z => z.imp id (live_take pre)
  have hb' : ∀ a, (wd.B0 a ∨ Own σ env a) ∨ Live ρ1 S1 a → BadOf (wd0.up ρ1) [] [] S1 a := fun a z => z.imp (fun z => .inl (by show wd0.B0 a; rw [eB]; exact z)) id
  have cb : ∀ {n : Nat} {c : Cell}, n < S.length → S1[n]? = some c → CBelow wd.ρ.length c := fun {n c} hn e => by
    rw [I.lenρ]
    exact J.cl S.length (hbs _ (.inr rfl)) n c hn e
  have X : ∀ {n : Nat} {q : Addr} {c : Cell}, wd.ρ[n]? = some q → (S1.take S.length)[n]? = some c → ObjC G (BadOf (wd.up wd.ρ) σ env (S1.take S.length)) H1 wd.ρ q c := fun {n q c} h1 h2 => by
    obtain ⟨g1, g2, g3⟩ := at1 h1 h2
    have h := J.cel n q c g1 g2
    have := (ObjC.trunc pre h (cb g3 g2)).anti J.badOk fun a z => hb' a (hb a z)
    cases this with
    | lst a b => exact .lst a b
    | refs a b => exact .refs a b
    | inst a b c => exact .inst a b c
    | dead a => exact .dead a
  have hl : wd.ρ.length = (S1.take S.length).length := by rw [List.length_take, I.lenρ]; omega
  have J1 : SR G (wd.up wd.ρ) σ H1 env (S1.take S.length) := I.step st hl (fun n p c h1 h2 => X h1 h2) fun b h n c hn e => by
    rw [List.getElem?_take] at e
    split at e
    · exact J.cl b (hbs b (.inl h)) n c hn e
    · cases e
  refine ⟨st, J1, hb, pre, fun p n0 hp np hc => ?_⟩
  have np' : p ∉ wd.ρ := fun z => np (pre.subset z)
  refine I.stepP st n0 hp np' J1 fun n q c h1 h2 => ?_
  obtain ⟨g1, g2, g3⟩ := at1 h1 h2
  refine (ObjC.trunc pre (hc n q c g1 g2) (cb g3 g2)).anti (fun a z => ?_) fun a z => ?_
  · rcases z with ((z | z) | z) | z
    · exact J1.badOk a (.inl (.inl z))
    · exact J1.badOk a (.inl (.inr z))
    · exact z ▸ hp
    · exact J.badOk a (.inr z)
  · rcases z with ((z | z) | z) | z
    · exact .inl (.inl (.inl z))
    · exact .inl (.inr z)
    · exact .inl (.inl (.inr z))
    · exact .inr (live_take pre z)
end
end Tr


namespace Tr
open PySem L2
open PySem.Spec PyProof.Rows
section
variable {Pg : Program} {w : World} {K : PySem.W.Frag} {L : Cls} {mg : Str → Option Value} {base : Heap} {ds : List (Nat × DefT)} {cons : List (Str × PyData)} {P : Prg}
theorem ObjC.gam {G G' : Gam} {Bad : Addr → Prop} {H : Hp} {ρ : List Addr} {p : Addr} {c : Cell} (eK : G'.K = G.K) (ec : G'.cl = G.cl) (h : ObjC G Bad H ρ p c) : ObjC G' Bad H ρ p c := by
  cases h with
  | lst a b => exact .lst a (eK ▸ b)
  | refs a b => exact .refs a (eK ▸ b)
  | inst a b c => exact .inst (ec ▸ a) b (eK ▸ c)
  | dead a => exact .dead a
theorem call_eq {n b i : Nat} {f : Fn} {as : List A} {S : Store} (hP : P i = some f) :
    callP P (n + 1) b i as S = runFn ⟨callP P n (if f.keep = true then b else S.length), if f.keep = true then b else S.length⟩ f as S := by
  show (match P i with
    | some fn => runFn ⟨callP P n (if fn.keep = true then b else S.length), if fn.keep = true then b else S.length⟩ fn as S
    | none => .err) = _
  rw [hP]
/-- a body's run keeps the def's promise -/
theorem body_ok {f : Fn} {i n b : Nat} {N : List Str} {vs : List V} {H : Hp} {Q : VK} {E : XK} (hP : P i = some f) (hN : N.length = f.ns) (h : spF (gamOf K L P (n + 1) b) i vs H Q E) :
    ∃ b', tSs (gamOf K L P n b') (fun cls x _ H => E cls x H) f.fresh f.body { nx := fun _ H' => Q .non H', rt := Q } (start N vs) H := by
  obtain ⟨wd, σ, env, S, as, I, ra, ev⟩ := h
  have ev : match runFn ⟨callP P n (if f.keep = true then b else S.length), if f.keep = true then b else S.length⟩ f as S with
    | .ok a S' => ∀ v H', Post (gamOf K L P (n + 1) b) wd σ env S H (frOf P i) a S' v H' → Q v H'
    | .exc k d S' => ∀ cls x H', PostX (gamOf K L P (n + 1) b) wd σ env S H k d S' cls x H' → E cls x H'
    | .err => False := by
    rw [← call_eq (n := n) (b := b) hP]
    exact ev
  have frI : frOf P i = f.fresh := by unfold frOf; rw [hP]
  rw [frI] at ev
  generalize hb' : (if f.keep = true then b else S.length) = b' at ev
  refine ⟨b', ?_⟩
  unfold runFn at ev
  by_cases hnp : as.length = f.np ∧ f.np ≤ f.ns ∧ as.all A.atom = true
  rotate_left
  · rw [if_neg hnp] at ev
    exact ev.elim
  rw [if_pos hnp] at ev
  obtain ⟨hl, hle, hat⟩ := hnp
  have hlen : vs.length = f.np := by rw [ra.length]; exact hl
  let wd0 : Wd := ⟨fun a => wd.B0 a ∨ Own σ env a, wd.ρ, H, Live wd.ρ S, fun x => wd.bs x ∨ (f.keep = false ∧ x = S.length), none⟩
  have noOwn : ∀ {j p}, ¬ OwnAt (start N vs) (as.map some ++ List.replicate (f.ns - f.np) none) j p := fun {j p} ⟨⟨c, e⟩, _⟩ => by
    have e := env0_some e
    have := List.all_eq_true.mp hat _ (List.mem_of_getElem? e)
    cases this
  have hb0 : ∀ a, BadOf wd0 (start N vs) (as.map some ++ List.replicate (f.ns - f.np) none) S a → BadOf wd σ env S a := fun a z => by
    rcases z with (z | ⟨j, z⟩) | z
    · exact .inl z
    · exact (noOwn z).elim
    · exact .inr z
  have hbase : b' ≤ S.length := by
    rw [← hb']
    split
    · exact I.base
    · exact Nat.le_refl _
  have I0 : SR (gamOf K L P n b') wd0 (start N vs) H (as.map some ++ List.replicate (f.ns - f.np) none) S := by
    refine ⟨?_, I.lenρ, fun j a e => ?_, fun m p c h1 h2 => ObjC.gam (G := gamOf K L P (n + 1) b) (G' := gamOf K L P n b') rfl rfl ((I.cel m p c h1 h2).anti I.badOk hb0), I.nd, fun i j p z => (noOwn z).elim, fun p ⟨j, z⟩ => (noOwn z).elim, fun p ⟨j, z⟩ => (noOwn z).elim, fun p h z => z.elim (I.liveB p h) fun z => I.ownLive z h, fun p z => I.badOk p (.inl z), fun p ⟨j, z⟩ => (noOwn z).elim, fun p h => .inl h, fun p h => I.liveMut h, .refl, fun x hx => ?_, fun x hx => ?_, hbase⟩
    · unfold L2.start
      simp only [List.length_append, List.length_map, List.length_replicate]
      omega
    · obtain ⟨v, v1, v2⟩ := ra.get (env0_some e)
      exact ⟨v, start_some v1, .at_ (v2.anti I.badOk hb0)⟩
    · rcases hx with hx | ⟨_, rfl⟩
      · exact I.cl x hx
      · exact I.closed
    · show x ≤ b'
      rw [← hb']
      rcases hx with hx | ⟨hk, rfl⟩
      · have h1 := I.bsb x hx
        have h2 := I.base
        split
        · exact h1
        · exact Nat.le_trans h1 h2
      · rw [hk]; exact Nat.le_refl _
  refine ⟨wd0, _, S, I0, ?_⟩
  have aft : ∀ {ρ1 : List Addr} {S1 : Store} {H1 : Hp}, Run wd0 S ρ1 S1 → SR (gamOf K L P n b') (wd0.up ρ1) [] H1 [] S1 →
      ∃ ρ', Aft (gamOf K L P (n + 1) b) wd σ env S H ρ1 S1 H1 ρ' (if f.keep = true then S1 else S1.take S.length) ∧ (f.keep = true → ρ' = ρ1) ∧ (f.keep = false → ρ' = wd.ρ) := fun {ρ1 S1 H1} r J => by
    cases hk : f.keep with
    | true => exact ⟨ρ1, aft_keep (wd0 := wd0) (C := ⟨callP P n b', b'⟩) (m := n) I rfl rfl rfl rfl (fun x hx => .inl hx) r J, fun _ => rfl, fun z => nomatch z⟩
    | false => exact ⟨wd.ρ, aft_take (wd0 := wd0) (C := ⟨callP P n b', b'⟩) (m := n) I rfl rfl rfl rfl (fun x hx => hx.imp id fun z => ⟨hk, z⟩) r J, (fun z => nomatch z), fun _ => rfl⟩
  have hb2 : ∀ {ρ1 ρ' : List Addr} {S1 S' : Store} {H1 : Hp}, Aft (gamOf K L P (n + 1) b) wd σ env S H ρ1 S1 H1 ρ' S' → ∀ a, BadOf (wd.up ρ') σ env S' a → BadOf (wd0.up ρ1) [] [] S1 a := fun Af a z => (Af.bad a z).imp .inl id
  show EndsOf _ _ _ _ _ (execs ⟨callP P n b', b'⟩ f.body (as.map some ++ List.replicate (f.ns - f.np) none) S) _
  cases er : execs ⟨callP P n b', b'⟩ f.body (as.map some ++ List.replicate (f.ns - f.np) none) S with
  | nx e1 S1 =>
    rw [er] at ev
    intro σ1 H1 ρ1 r J
    obtain ⟨ρ', Af, _, _⟩ := aft r J.drop
    have ev : match (if f.keep = true then Tr.R.ok (A.val .none) S1 else .ok (.val .none) (S1.take S.length)) with
      | .ok a S' => ∀ v H', Post (gamOf K L P (n + 1) b) wd σ env S H f.fresh a S' v H' → Q v H'
      | .exc k d S' => ∀ cls x H', PostX (gamOf K L P (n + 1) b) wd σ env S H k d S' cls x H' → E cls x H'
      | .err => False := ev
    have ev2 : ∀ v H', Post (gamOf K L P (n + 1) b) wd σ env S H f.fresh (.val .none) (if f.keep = true then S1 else S1.take S.length) v H' → Q v H' := by
      cases hk : f.keep <;> (rw [hk] at ev; exact ev)
    exact ev2 _ _ ⟨ρ', Af.st, Af.sr, .val .non, fun _ ds z => nomatch z⟩
  | exc k d e1 S1 =>
    rw [er] at ev
    intro σ1 H1 ρ1 cls x r J xr
    obtain ⟨ρ', Af, _, _⟩ := aft r J.drop
    have ev : match (if f.keep = true then (Tr.R.exc k d S1 : R A) else .exc k d (S1.take S.length)) with
      | .ok a S' => ∀ v H', Post (gamOf K L P (n + 1) b) wd σ env S H f.fresh a S' v H' → Q v H'
      | .exc k d S' => ∀ cls x H', PostX (gamOf K L P (n + 1) b) wd σ env S H k d S' cls x H' → E cls x H'
      | .err => False := ev
    have ev2 : ∀ cls x H', PostX (gamOf K L P (n + 1) b) wd σ env S H k d (if f.keep = true then S1 else S1.take S.length) cls x H' → E cls x H' := by
      cases hk : f.keep <;> (rw [hk] at ev; exact ev)
    refine ev2 cls x H1 ⟨ρ', Af.st, Af.sr, ?_⟩
    obtain ⟨C, c1, c2, c3⟩ := xr
    refine ⟨C, c1, c2, fun fx ef => ?_⟩
    obtain ⟨dd, u, q1, q2, q3⟩ := c3 fx ef
    exact ⟨dd, u, q1, q2, q3.anti J.badOk fun a z => bad_drop (hb2 Af a z)⟩
  | rt a S1 =>
    rw [er] at ev
    intro v H1 ρ1 r R
    obtain ⟨ρ', Af, k1, k2⟩ := aft r R.sr
    have fin : (∀ v H', Post (gamOf K L P (n + 1) b) wd σ env S H f.fresh a (if f.keep = true then S1 else S1.take S.length) v H' → Q v H') → RepA K (BadOf (wd0.up ρ1) [] [] S1) H1 ρ' v a → Q v H1 := fun ev2 rep => by
      refine ev2 v H1 ⟨ρ', Af.st, Af.sr, rep.anti R.sr.badOk (hb2 Af), fun hf ds ed => ?_⟩
      obtain ⟨p, xs, g1, g2, g3, g4, g5, g6, g7⟩ := R.fresh hf ds ed
      have n0 : H p = none := by
        rcases g2 with z | z
        · have m : p ∈ wd.ρ := Live.mem z
          exact absurd (Af.pre.subset (Af.st.pre.subset m)) g4
        · exact z
      have hbp : ∀ a, BadOf ((wd.up ρ').plus p) σ env (if f.keep = true then S1 else S1.take S.length) a → BadOf ((wd0.up ρ1).plus p) [] [] S1 a := fun a z => by
        rcases z with ((z | z) | z) | z
        · exact .inl (.inl (.inl (.inl z)))
        · exact .inl (.inl (.inr z))
        · exact .inl (.inl (.inl (.inr z)))
        · rcases Af.bad a (.inr z) with z | z
          · exact .inl (.inl (.inl z))
          · exact .inr z
      refine ⟨p, xs, g1, n0, fun z => g3 (.inl z), fun m => g4 (Af.pre.subset m), g5, Af.bplus p n0 (by rw [g5]; trivial) g4 fun m q c h1 h2 => ?_, g7.anti g6.badOk hbp⟩
      refine ObjC.gam (G := gamOf K L P n b') (G' := gamOf K L P (n + 1) b) rfl rfl ((g6.cel m q c h1 h2).anti g6.badOk fun a z => ?_)
      rcases z with (z | z) | z
      · exact .inl (.inl (.inl z))
      · exact .inl (.inl (.inr z))
      · exact .inr z
    cases hk : f.keep with
    | true =>
      rw [hk] at fin ev
      have ev : match (if a.atom = true then Tr.R.ok a S1 else .err) with
        | .ok a S' => ∀ v H', Post (gamOf K L P (n + 1) b) wd σ env S H f.fresh a S' v H' → Q v H'
        | .exc k d S' => ∀ cls x H', PostX (gamOf K L P (n + 1) b) wd σ env S H k d S' cls x H' → E cls x H'
        | .err => False := ev
      rw [if_pos R.rep.atom] at ev
      exact fin ev (by rw [k1 hk]; exact R.rep)
    | false =>
      rw [hk] at fin ev
      have e1 := k2 hk
      subst e1
      cases a with
      | val d =>
        refine fin ev ?_
        exact .val R.rep.d
      | ref m =>
        have ev : match (if m < S.length then Tr.R.ok (A.ref m) (S1.take S.length) else .err) with
          | .ok a S' => ∀ v H', Post (gamOf K L P (n + 1) b) wd σ env S H f.fresh a S' v H' → Q v H'
          | .exc k d S' => ∀ cls x H', PostX (gamOf K L P (n + 1) b) wd σ env S H k d S' cls x H' → E cls x H'
          | .err => False := ev
        by_cases hm : m < S.length
        · rw [if_pos hm] at ev
          refine fin ev ?_
          have rep := R.rep
          cases rep with
          | ref e1 =>
            refine .ref ?_
            obtain ⟨t, et⟩ := Af.pre
            have e1 : ρ1[m]? = some _ := e1
            rw [← et, List.getElem?_append_left (by rw [I.lenρ]; exact hm)] at e1
            exact e1
        · rw [if_neg hm] at ev
          exact ev.elim
      | tup as => exact ev.elim
      | own c => exact ev.elim
      | exn k d => exact ev.elim
  | bk _ _ => rw [er] at ev; exact ev.elim
  | ct _ _ => rw [er] at ev; exact ev.elim
  | err => rw [er] at ev; exact ev.elim
theorem lookup_mem {α β : Type} [BEq α] [LawfulBEq α] {x : α} {d : β} : ∀ {l : List (α × β)}, l.lookup x = some d → (x, d) ∈ l
  | [], h => nomatch h
  | (y, e) :: r, h => by
    rw [List.lookup_cons] at h
    split at h
    · rename_i q
      cases h
      rw [eq_of_beq q]
      exact List.mem_cons_self
    · exact List.mem_cons_of_mem _ (lookup_mem h)
theorem spF_len {n b i : Nat} {f : Fn} {vs : List V} {H : Hp} {Q : VK} {E : XK} (hP : P i = some f) (h : spF (gamOf K L P (n + 1) b) i vs H Q E) : vs.length = f.np := by
  obtain ⟨wd, σ, env, S, as, I, ra, ev⟩ := h
  have ev : match runFn ⟨callP P n (if f.keep = true then b else S.length), if f.keep = true then b else S.length⟩ f as S with
    | .ok a S' => ∀ v H', Post (gamOf K L P (n + 1) b) wd σ env S H (frOf P i) a S' v H' → Q v H'
    | .exc k d S' => ∀ cls x H', PostX (gamOf K L P (n + 1) b) wd σ env S H k d S' cls x H' → E cls x H'
    | .err => False := by
    rw [← call_eq (n := n) (b := b) hP]
    exact ev
  unfold runFn at ev
  by_cases hnp : as.length = f.np ∧ f.np ≤ f.ns ∧ as.all A.atom = true
  · rw [ra.length]
    exact hnp.1
  · rw [if_neg hnp] at ev
    exact ev.elim
/-- every def keeps its promise, to every depth -/
theorem defs_ok (M : ModOk K mg ds cons) (hc : ∀ (i : Nat) (d : DefT), (i, d) ∈ ds → ∃ f, P i = some f ∧ chkFn ds cons P d f = true) :
    ∀ (n b : Nat) (i : Nat) (d : DefT), (i, d) ∈ ds → ∀ f fd, FunD K d.x d.x d.params d.body d.scope [] [] f fd → FnG Pg w K mg base n f fd d.ps (spF (gamOf K L P n b) i)
  | 0, b, i, d, hd, f, fd, F => ⟨fun vs H Q E ⟨_, _, _, _, _, _, _, ev⟩ => ev.elim, fun A outer s H args us vs Q E _ _ _ _ _ ⟨_, _, _, _, _, _, _, ev⟩ => ev.elim⟩
  | n + 1, b, i, d, hd, f, fd, F => by
    obtain ⟨fn, hP, c0⟩ := hc i d hd
    obtain ⟨c1, c2⟩ := ba c0
    obtain ⟨c2, c3⟩ := ba c2
    obtain ⟨c3, c5⟩ := ba c3
    have Sc := C8.fnScope_by c1
    refine fnG_of F Sc (fun vs H Q E h => by rw [spF_len hP h]; exact (eq_of_beq c3).symm) fun cdv A outer s H vs Q E room hg hs => ?_
    obtain ⟨b', hq⟩ := body_ok (N := d.N) hP (eq_of_beq c2) hs
    refine ⟨_, (soundSs (G := gamOf K L P n b') fn.body).run _ (ctxOf ds cons P d) (fun cls x _ H => E cls x H) fn.fresh d.body ?_ c5, hq⟩
    refine ⟨rfl, Sc.nd, rfl, fun _ _ => rfl, fun _ => rfl, rfl, ?_, fun _ => room, fun _ => hg, fun j x np e => ?_, M.cons, M.free, rfl, takes_of rfl rfl rfl rfl, passes_of rfl⟩
    · have := room.un
      show (A.deeper _).units + 64 < cLine
      omega
    · have e : (j, x, np) ∈ ds.map fun d => (d.1, d.2.x, d.2.ps.length) := lookup_mem e
      obtain ⟨⟨j', d'⟩, e1, e2⟩ := List.mem_map.mp e
      cases e2
      obtain ⟨f', fd', F', g1, g2⟩ := M.defs j' d' e1
      exact ⟨f', fd', d'.ps, g1, F'.kp, g2, defs_ok M hc n b' j' d' e1 f' fd' F'⟩
end
end Tr


namespace Tr
open PySem L2
open PySem.Spec PyProof.Rows

mutual
def repB (K : PySem.W.Frag) : PyData → Value → Bool
  | .none, .none => true
  | .bool b, .bool c => b == c
  | .int i, .int j _ => decide (i = j)
  | .str x, .str y _ => decide (x = y)
  | .list ds, .ref a => match K.lookup a with
    | some ⟨.type c, none, .seq its _, _⟩ => decide (c = "list") && (decide (its.size ≤ sizeLine) && repBs K ds its.toList)
    | _ => false
  | .tuple ds, .ref a => match K.lookup a with
    | some ⟨.type c, none, .seq its _, _⟩ => decide (c = "tuple") && (decide (its.size ≤ sizeLine) && repBs K ds its.toList)
    | _ => false
  | _, _ => false
def repBs (K : PySem.W.Frag) : List PyData → List Value → Bool
  | [], [] => true
  | d :: ds, u :: us => repB K d u && repBs K ds us
  | _, _ => false
end
mutual
theorem repB_ok {K : PySem.W.Frag} : ∀ {d : PyData} {u : Value}, repB K d u = true → ∃ v, RelV v u ∧ ∀ Bad H, Rep K Bad H v d
  | .none, u, h => by
    cases u <;> first | (cases h; done) | exact ⟨.non, rfl, fun _ _ => .non⟩
  | .bool b, u, h => by
    cases u <;> first | (cases h; done) | skip
    rename_i c
    have e : b = c := eq_of_beq (show (b == c) = true from h)
    subst e
    exact ⟨.bl b, rfl, fun _ _ => .bl _⟩
  | .int i, u, h => by
    cases u <;> first | (cases h; done) | skip
    rename_i j t
    have e : i = j := of_decide_eq_true h
    subst e
    exact ⟨.int i, ⟨t, rfl⟩, fun _ _ => .int _⟩
  | .str x, u, h => by
    cases u <;> first | (cases h; done) | skip
    rename_i y t
    have e : x = y := of_decide_eq_true h
    subst e
    exact ⟨.str x, ⟨t, rfl⟩, fun _ _ => .str _⟩
  | .dict es, u, h => by cases u <;> cases h
  | .list ds, u, h => by
    cases u <;> first | (cases h; done) | skip
    rename_i a
    unfold repB at h
    split at h
    · rename_i c its n sl e
      obtain ⟨h1, h2⟩ := He.ba h
      obtain ⟨h2, h3⟩ := He.ba h2
      obtain ⟨vs, r1, r2⟩ := repBs_ok h3
      exact ⟨.ref a, rfl, fun Bad H => .lst (.inr ⟨_, its, n, e, congrArg Value.type (of_decide_eq_true h1), rfl, rfl, of_decide_eq_true h2, r1⟩) (r2 Bad H)⟩
    · cases h
  | .tuple ds, u, h => by
    cases u <;> first | (cases h; done) | skip
    rename_i a
    unfold repB at h
    split at h
    · rename_i c its n sl e
      obtain ⟨h1, h2⟩ := He.ba h
      obtain ⟨h2, h3⟩ := He.ba h2
      obtain ⟨vs, r1, r2⟩ := repBs_ok h3
      exact ⟨.ref a, rfl, fun Bad H => .tup (.inr ⟨_, its, n, e, congrArg Value.type (of_decide_eq_true h1), rfl, rfl, of_decide_eq_true h2, r1⟩) (r2 Bad H)⟩
    · cases h
theorem repBs_ok {K : PySem.W.Frag} : ∀ {ds : List PyData} {us : List Value}, repBs K ds us = true → ∃ vs, Vals vs us ∧ ∀ Bad H, Reps K Bad H vs ds
  | [], [], _ => ⟨[], .nil, fun _ _ => .nil⟩
  | [], _ :: _, h => by cases h
  | _ :: _, [], h => by cases h
  | d :: ds, u :: us, h => by
    have h : (repB K d u && repBs K ds us) = true := h
    obtain ⟨h1, h2⟩ := He.ba h
    obtain ⟨v, r1, r2⟩ := repB_ok h1
    obtain ⟨vs, s1, s2⟩ := repBs_ok h2
    exact ⟨v :: vs, .cons r1 s1, fun Bad H => .cons (r2 Bad H) (s2 Bad H)⟩
end
/-- what the head tells of the constants -/
def consB (cons : List (Str × PyData)) (K : PySem.W.Frag) : Bool := cons.all fun p => match PySem.W.nsIn K mainGlobals p.1 with
  | some (some u) => repB K p.2 u
  | _ => false
theorem consB_ok {cons : List (Str × PyData)} {K : PySem.W.Frag} {h : Heap} {mg : Str → Option Value} (X : K.In h) (G : h.Ns mainGlobals mg) (c : consB cons K = true) (x : Str) (d : PyData) (e : cons.lookup x = some d) :
    ∃ u v, mg x = some u ∧ RelV v u ∧ ∀ Bad H, Rep K Bad H v d := by
  have q := List.all_eq_true.mp c _ (lookup_mem e)
  dsimp only at q
  split at q
  · rename_i u eu
    obtain ⟨v, r1, r2⟩ := repB_ok q
    exact ⟨u, v, PySem.W.mg_of X G eu, r1, r2⟩
  · cases q

section
variable {Pg : Program} {w : World} {K : PySem.W.Frag} {mg mb : Str → Option Value} {k : Nat} {fa a : Addr} {fd : FuncData} {x : Str} {sp : Sp} {s0 : Shared} {us : List Value} {ns : List Int}
theorem call_core {H : Hp} (KX : K.In s0.heap) (hm : s0.heap.Ns mainGlobals mg) (hb : s0.heap.Ns builtinsNs mb) (hbb : ∀ y : Str, y ≠ "__name__" → mb y = bootBuiltins y) (lim : s0.heap.NoLimit) (gens : s0.gens = #[])
    (obj : s0.heap.get? a = some { cls := .type "list", data := .seq us.toArray }) (room : Room k callerA) (F : ∀ base : Heap, K.In base → base.Ns mainGlobals mg → FnG Pg w K mg base k fa fd [x] sp) (bind : ∀ (s : Shared) (u : Value), BindsTo s fd ⟨[u], []⟩ [(x, u)])
    (only : ∀ b, H b = none ∨ (b = a ∧ ∃ o, H b = some (.frz o (.lst (ns.map V.int))))) (hok : HOk Pg w H s0.heap) (apart : H a ≠ none → K.lookup a = none) (hsp : sp [.ref a] H (fun v _ => v = .bl true) fun _ _ _ => False) :
    codeAny (model Pg w) callerA (.call (.ref fa) ⟨[.ref a], []⟩) (fun r s' => r = .ok (.ret (.bool true)) ∧ OldK s0.heap s'.heap ∧ s'.os = s0.os ∧ AllBare s'.gens) s0 := by
  have none_at : ∀ {b : Addr}, b ≠ a → H b = none := fun {b} ne => (only b).elim id fun z => absurd z.1 ne
  have at_a : ∀ {b : Addr} {o : Obj}, s0.heap.get? b = some o → b = a → o = { cls := .type "list", data := .seq us.toArray } := fun {b o} e q => by
    rw [q, obj] at e
    exact (Option.some.inj e).symm
  have dict_ok : ∀ {b : Addr} {o : Obj} {es : Array DictEntry} {n : Nat}, s0.heap.get? b = some o → o.data = .dict es n → H b = none := fun {b o es n} e d => by
    by_cases q : b = a
    · rw [at_a e q] at d
      cases d
    · exact none_at q
  have ns_ok : ∀ {b : Addr} {m : Str → Option Value}, s0.heap.Ns b m → (hidT s0.heap H).Ns b m := by
    rintro b m ⟨o, es, n, e, d, r⟩
    exact ⟨o, es, n, hidT_get e (dict_ok e d), d, r⟩
  have Kb : K.In (hidT s0.heap H) := fun b o e => by
    refine hidT_get (KX b o e) ?_
    by_cases q : b = a
    · subst q
      cases z : H b with
      | none => rfl
      | some u =>
        rw [apart (by rw [z]; simp)] at e
        cases e
    · exact none_at q
  obtain ⟨mc, l1, l2⟩ := lim
  have hMod : Mod K mg (hidT s0.heap H) := ⟨Kb, ns_ok hm, ⟨mb, ns_ok hb, hbb⟩, ⟨mc, ns_ok l1, l2⟩⟩
  have en : Env0 Pg w K mg (hidT s0.heap H) callerA [] s0 H := ⟨rfl, hMod, fun b o z => of_hidT z, Nat.le_of_eq (hidT_size _ _), trivial, fun b z => (by cases z), hok, .of_eq gens⟩
  have run := (F _ Kb (ns_ok hm)).run callerA [] s0 H ⟨[.ref a], []⟩ [.ref a] [.ref a] (fun v _ => v = .bl true) (fun _ _ _ => False) room rfl en (bind s0 (.ref a)) (.cons rfl .nil) hsp
  refine codeAny_mono run fun r s' h => ?_
  match r, h with
  | .error e, ⟨_, _, _, _, _, _, _, _, _, _, _, _, h⟩ => exact h.elim
  | .ok .next, h => exact h.elim
  | .ok .brk, h => exact h.elim
  | .ok .cont, h => exact h.elim
  | .ok (.ret u), ⟨v, H', os, bare, un, hok', rv, q⟩ =>
    have q : v = .bl true := q
    subst q
    have eu : u = Value.bool true := rv
    subst eu
    refine ⟨rfl, OldK.of_keep fun b o e => ?_, os, bare⟩
    rcases only b with z | ⟨_, ob, z⟩
    · exact un.keep b o e z (by intro m; cases m) (by simp)
    · have z2 := un.frzs b ob _ z
      obtain ⟨e1, _⟩ := hok b _ z
      obtain ⟨e2, _⟩ := hok' b _ z2
      rw [e1] at e
      cases e
      exact e2
theorem law_callG (KX : K.In s0.heap) (hm : s0.heap.Ns mainGlobals mg) (hb : s0.heap.Ns builtinsNs mb) (hbb : ∀ y : Str, y ≠ "__name__" → mb y = bootBuiltins y) (lim : s0.heap.NoLimit) (gens : s0.gens = #[])
    (obj : s0.heap.get? a = some { cls := .type "list", data := .seq us.toArray }) (hints : IntsAre us ns) (size : ns.length ≤ sizeLine) (room : Room k callerA) (F : ∀ base : Heap, K.In base → base.Ns mainGlobals mg → FnG Pg w K mg base k fa fd [x] sp)
    (bind : ∀ (s : Shared) (u : Value), BindsTo s fd ⟨[u], []⟩ [(x, u)]) (hsp : ∀ H : Hp, SqL K H a (ns.map V.int) → sp [.ref a] H (fun v _ => v = .bl true) fun _ _ _ => False) :
    codeAny (model Pg w) callerA (.call (.ref fa) ⟨[.ref a], []⟩) (fun r s' => r = .ok (.ret (.bool true)) ∧ OldK s0.heap s'.heap ∧ s'.os = s0.os ∧ AllBare s'.gens) s0 := by
  have rv := vals_ints hints
  have hl := hints.length
  cases hk : K.lookup a with
  | some o =>
    have e : o = { cls := .type "list", data := .seq us.toArray } := by
      have z := KX a o hk
      rw [obj] at z
      exact (Option.some.inj z).symm
    subst e
    have S : SqL K (fun _ => none) a (ns.map V.int) := .inr ⟨_, us.toArray, _, hk, rfl, rfl, rfl, by rw [List.size_toArray, hl]; exact size, by simpa using rv⟩
    exact call_core (H := fun _ => none) (ns := ns) KX hm hb hbb lim gens obj room F bind (fun _ => .inl rfl) (fun b u z => by cases z) (fun z => absurd rfl z) (hsp _ S)
  | none =>
    have eq : ∀ b, (fun b => if b = a then some (HO.frz { cls := .type "list", data := .seq us.toArray } (.lst (ns.map V.int))) else none : Hp) b = if b = a then some (HO.frz { cls := .type "list", data := .seq us.toArray } (.lst (ns.map V.int))) else none := fun _ => rfl
    generalize (fun b => if b = a then some (HO.frz { cls := .type "list", data := .seq us.toArray } (.lst (ns.map V.int))) else none : Hp) = H at eq
    have ea : H a = some (HO.frz { cls := .type "list", data := .seq us.toArray } (.lst (ns.map V.int))) := by rw [eq, if_pos rfl]
    have en : ∀ b, b ≠ a → H b = none := fun b ne => by rw [eq, if_neg ne]
    refine call_core (H := H) (ns := ns) KX hm hb hbb lim gens obj room F bind (fun b => ?_) (fun b u z => ?_) (fun _ => hk) (hsp _ (.inl (.inr ⟨_, ea⟩)))
    · by_cases q : b = a
      · exact .inr ⟨q, _, q ▸ ea⟩
      · exact .inl (en b q)
    · by_cases q : b = a
      · subst q
        rw [ea] at z
        cases z
        exact ⟨obj, by rw [List.length_map]; exact size, us, _, rv, obj⟩
      · rw [en b q] at z
        cases z
end
/-- a law, by what the evaluator gives -/
theorem walk_G {l : PySem.W.OpenLaw} {n k : Nat} {q : Program} {loose : List Str} {XP : (Str → Option Value) → Heap → Prop} {YP : World → Heap → Prop} {d : DefRec} {x : Str}
    (hn : l.most = some n) (hn2 : n ≤ sizeLine) (hdf : d.params.defaults = []) (room : Room k callerA)
    (F : ∀ (w : World) (mg : Str → Option Value) (fa : Addr) (h : Heap), YP w h → h.Ns mainGlobals mg → mg d.name = some (.ref fa) →
      ∃ (K : PySem.W.Frag) (fd : FuncData) (sp : Sp), K.In h ∧ (∀ (s : Shared) (u : Value), BindsTo s fd ⟨[u], []⟩ [(x, u)]) ∧
        (∀ (H : Hp) (a : Addr) (ns : List Int), ns.length ≤ n → SqL K H a (ns.map V.int) → sp [.ref a] H (fun v _ => v = .bl true) fun _ _ _ => False) ∧
        ∀ base : Heap, K.In base → base.Ns mainGlobals mg → FnG l.prog w K mg base k fa fd [x] sp) :
    PySem.W.WalkO q loose XP YP l.row.toRowW d [] (fun f vs => PySem.call f vs) := by
  refine Att.attach_call hn hdf fun w s₀ s₁ mg mb fa o pm cd doc a vs ns G Y _ _ _ hmg hobj hints hlen hg => ?_
  obtain ⟨K, fd, sp, KX, bind, hsp, hF⟩ := F w mg fa _ Y G.T.g hmg
  exact law_callG KX G.T.g G.T.b G.T.builtins G.T.nolimit hg hobj hints (Nat.le_trans hlen hn2) room hF bind fun H S => hsp H a ns hlen S

structure FactsOk (fa : List He.Fa) (fn : List He.DefD) (ds : List (Nat × DefT)) : Prop where
  glo : ∀ d ∈ ds, He.Fa.glo d.2.x ∈ fa
  free : ∀ x ∈ bltNames, He.Fa.free x ∈ fa
  defs : ∀ d ∈ ds, (⟨(d.2.x, none), d.2.x, d.2.x, d.2.params, d.2.body, d.2.scope, [], []⟩ : He.DefD) ∈ fn
  bind : ∀ d ∈ ds, ∀ (kV doc pm : Value) (an : Option Addr) (cdv ct : Value) (us : List Value), us.length = d.2.ps.length → bindArgs (PySem.W.fnOf d.2.x d.2.x d.2.params d.2.body d.2.scope .none kV doc pm an cdv ct) ⟨us, []⟩ = pure (d.2.ps.zip us)
theorem modOk {fa : List He.Fa} {fn : List He.DefD} {ds : List (Nat × DefT)} {cons : List (Str × PyData)} {K : PySem.W.Frag} {h : Heap} {mg : Str → Option Value} {w : World} {tf : List He.Defn} (X : K.In h) (G : h.Ns mainGlobals mg) (f : FactsOk fa fn ds) (c : He.SaysX fa fn [] tf (consB cons) w h K) :
    ModOk K mg ds cons := by
  refine ⟨fun i d e => ?_, fun x d e => consB_ok X G c.more x d e, fun x hx => He.free_ok X G (c.t.d.facts (f.free x hx))⟩
  have hd := e
  obtain ⟨fd, F⟩ := c.t.d.defs (f.defs _ hd)
  have e1 := He.glo_ok X G (c.t.d.facts (f.glo _ hd))
  exact ⟨_, fd, F, e1, F.bindsN (f.bind _ hd)⟩
/-- the law's promise, from its value by the evaluator -/
theorem law_F {fa : List He.Fa} {fn : List He.DefD} {ds : List (Nat × DefT)} {cons : List (Str × PyData)} {P : Prg} {tf : List He.Defn} {Pg : Program} {il n m : Nat} {d : DefT} {x : Str} (f : FactsOk fa fn ds)
    (hc : ∀ (i : Nat) (d : DefT), (i, d) ∈ ds → ∃ f, P i = some f ∧ chkFn ds cons P d f = true) (hd : (il, d) ∈ ds) (hx : d.ps = [x])
    (val : ∀ ns : List Int, ns.length ≤ m → callP P n 0 il [.val (.list (ns.map .int))] [] = .ok (.val (.bool true)) []) (w : World) (mg : Str → Option Value) (at_ : Addr) (h : Heap)
    (Y : ∃ K : PySem.W.Frag, K.In h ∧ He.SaysX fa fn [] tf (consB cons) w h K) (G : h.Ns mainGlobals mg) (hm : mg d.x = some (.ref at_)) :
    ∃ (K : PySem.W.Frag) (fd : FuncData) (sp : Sp), K.In h ∧ (∀ (s : Shared) (u : Value), BindsTo s fd ⟨[u], []⟩ [(x, u)]) ∧
      (∀ (H : Hp) (a : Addr) (ns : List Int), ns.length ≤ m → SqL K H a (ns.map V.int) → sp [.ref a] H (fun v _ => v = .bl true) fun _ _ _ => False) ∧
      ∀ base : Heap, K.In base → base.Ns mainGlobals mg → FnG Pg w K mg base n at_ fd [x] sp := by
  obtain ⟨K, X, c⟩ := Y
  have M := modOk X G f c
  obtain ⟨f', fd, F, g1, g2⟩ := M.defs il d hd
  rw [hm] at g1
  cases g1
  refine ⟨K, fd, spF (gamOf K ⟨fun _ => none, fun _ => none⟩ P n 0) il, X, fun s u => ?_, fun H a ns hn S => ?_, fun base _ _ => ?_⟩
  · have b := FunD.bindsA (ps := d.ps) F (f.bind _ hd) s [u] (by rw [hx]; rfl)
    rw [hx] at b
    exact b
  · have rs : ∀ ns : List Int, Reps K (BadOf ⟨fun _ => False, [], H, fun _ => False, fun _ => False, none⟩ [] [] []) H (ns.map V.int) (ns.map PyData.int) := fun ns => by
      induction ns with
      | nil => exact .nil
      | cons i r ih => exact .cons (.int i) ih
    have nb : ∀ a, ¬ BadOf ⟨fun _ => False, [], H, fun _ => False, fun _ => False, none⟩ [] [] [] a := fun a z => by
      rcases z with (z | ⟨i, ⟨c, z⟩, _⟩) | ⟨i, c, z, _⟩
      · exact z
      · simp at z
      · simp at z
    have rl : Rep K (BadOf ⟨fun _ => False, [], H, fun _ => False, fun _ => False, none⟩ [] [] []) H (.ref a) (.list (ns.map PyData.int)) := .lst (S.imp (fun z => ⟨z, nb a⟩) id) (rs ns)
    refine ⟨⟨fun _ => False, [], H, fun _ => False, fun _ => False, none⟩, [], [], [], [.val (.list (ns.map .int))], ⟨rfl, rfl, fun i a z => by simp at z, fun n p c z => by simp at z, .nil, fun i j p ⟨⟨c, z⟩, _⟩ => by simp at z, fun p ⟨i, ⟨c, z⟩, _⟩ => by simp at z, fun p ⟨i, ⟨c, z⟩, _⟩ => by simp at z, fun p z => (nb p (.inr z)).elim, fun p z => z.elim, fun p ⟨i, ⟨c, z⟩, _⟩ => by simp at z, fun p z => (nb p (.inr z)).elim, fun p z => z.elim, .refl, fun b z => z.elim, fun b z => z.elim, Nat.le_refl 0⟩, .cons (.val rl) .nil, ?_⟩
    show match callP P n 0 il [.val (.list (ns.map .int))] [] with
      | .ok a S' => _
      | .exc k d S' => _
      | .err => False
    rw [val ns hn]
    intro v H' p
    obtain ⟨ρ', _, _, r, _⟩ := p
    cases r.d
    rfl
  · have q := defs_ok (Pg := Pg) (w := w) (base := base) (L := ⟨fun _ => none, fun _ => none⟩) M hc n 0 il d hd at_ fd F
    rw [hx] at q
    exact q
end Tr


namespace Tr
open PySem L2
open PySem.Spec PyProof.Rows

abbrev XQ := Nat → PyData → Store → Prop
abbrev noE : XQ := fun _ _ _ => False
def wpR {α : Type} (r : R α) (Q : α → Store → Prop) (E : XQ) : Prop := match r with
  | .ok a S => Q a S
  | .exc k d S => E k d S
  | .err => False
def wpS (r : RS) (N : TEnv → Store → Prop) (B : RS → Prop) : Prop := match r with
  | .nx env S => N env S
  | .err => False
  | r => B r
theorem wpR_mono {α : Type} {r : R α} {Q Q' : α → Store → Prop} {E E' : XQ} (h : wpR r Q E) (q : ∀ a S, Q a S → Q' a S) (e : ∀ k d S, E k d S → E' k d S) : wpR r Q' E' := by
  cases r with
  | ok a S => exact q a S h
  | exc k d S => exact e k d S h
  | err => exact h
theorem wpS_mono {r : RS} {N N' : TEnv → Store → Prop} {B B' : RS → Prop} (h : wpS r N B) (n : ∀ env S, N env S → N' env S) (b : ∀ r, B r → B' r) : wpS r N' B' := by
  cases r with
  | nx env S => exact n env S h
  | err => exact h
  | bk env S => exact b _ h
  | ct env S => exact b _ h
  | rt a S => exact b _ h
  | exc k d env S => exact b _ h
theorem wpR_ok {α : Type} {r : R α} {Q : α → Store → Prop} (h : wpR r Q noE) : ∃ a S, r = .ok a S ∧ Q a S := by
  cases r with
  | ok a S => exact ⟨a, S, rfl, h⟩
  | exc k d S => exact h.elim
  | err => exact h.elim
def isO {α : Type} (o : Option α) (Q : α → Prop) : Prop := ∃ a, o = some a ∧ Q a
/-- the content -/
def isD (S : Store) (a : A) (Q : PyData → Prop) : Prop := isO (deref S a) Q
def isB (a : A) (Q : Bool → Prop) : Prop := isO (asBool a) Q
def isI (S : Store) (a : A) (Q : Int → Prop) : Prop := isO (asInt S a) Q
def isOwn (a : A) (Q : Cell → Prop) : Prop := match a with
  | .own c => Q c
  | _ => False
def isL (a : A) (Q : List PyData → Prop) : Prop := match a with
  | .val (.list ds) => Q ds
  | _ => False
def isLstO : Option Cell → Bool
  | some (.lst _) => true
  | some (.refs _) => true
  | _ => false
section
variable {C : Calls} {env : TEnv} {S : Store} {Q : A → Store → Prop} {E : XQ}
@[simp ↓, simp] theorem isO_some {α : Type} {a : α} {Q : α → Prop} : isO (some a) Q ↔ Q a := ⟨fun ⟨b, e, q⟩ => (by cases e; exact q), fun q => ⟨a, rfl, q⟩⟩
@[simp ↓, simp] theorem isO_none {α : Type} {Q : α → Prop} : isO none Q ↔ False := ⟨fun ⟨_, e, _⟩ => (nomatch e), False.elim⟩
@[simp] theorem isO_ite {α : Type} {p : Prop} [Decidable p] {o : Option α} {Q : α → Prop} : isO (if p then o else none) Q ↔ p ∧ isO o Q := by
  by_cases h : p
  · rw [if_pos h]; exact ⟨fun q => ⟨h, q⟩, fun q => q.2⟩
  · rw [if_neg h, isO_none]; exact ⟨False.elim, fun q => h q.1⟩
@[simp] theorem isO_eti {α : Type} {p : Prop} [Decidable p] {a : α} {Q : α → Prop} : isO (if p then none else some a) Q ↔ ¬ p ∧ Q a := by
  by_cases h : p
  · rw [if_pos h, isO_none]; exact ⟨False.elim, fun q => q.1 h⟩
  · rw [if_neg h, isO_some]; exact ⟨fun q => ⟨h, q⟩, fun q => q.2⟩
@[simp] theorem isO_map {α β : Type} {o : Option α} {f : α → β} {Q : β → Prop} : isO (o.map f) Q ↔ isO o fun a => Q (f a) := by
  cases o <;> simp
@[simp] theorem isO_bind {α β : Type} {o : Option α} {f : α → Option β} {Q : β → Prop} : isO (o.bind f) Q ↔ isO o fun a => isO (f a) Q := by
  cases o <;> simp
@[simp ↓, simp] theorem isD_val {d : PyData} {S : Store} {Q : PyData → Prop} : isD S (.val d) Q ↔ Q d := isO_some
@[simp] theorem isD_own {c : Cell} {S : Store} {Q : PyData → Prop} : isD S (.own c) Q ↔ isO c.data Q := Iff.rfl
@[simp] theorem isD_ref {n : Nat} {S : Store} {Q : PyData → Prop} : isD S (.ref n) Q ↔ isO S[n]? fun c => isO c.data Q := isO_bind
@[simp ↓, simp] theorem isB_val {b : Bool} {Q : Bool → Prop} : isB (.val (.bool b)) Q ↔ Q b := isO_some
@[simp ↓, simp] theorem isI_val {i : Int} {S : Store} {Q : Int → Prop} : isI S (.val (.int i)) Q ↔ Q i := isO_some
@[simp ↓, simp] theorem isOwn_own {c : Cell} {Q : Cell → Prop} : isOwn (.own c) Q ↔ Q c := Iff.rfl
@[simp ↓, simp] theorem isL_val {ds : List PyData} {Q : List PyData → Prop} : isL (.val (.list ds)) Q ↔ Q ds := Iff.rfl
@[simp] theorem data_lst {ds : List PyData} : (Cell.lst ds).data = some (.list ds) := rfl
@[simp] theorem at_lst {ds : List PyData} {i : Int} : (Cell.lst ds).at_ (.int i) = (atI ds i).map .val := rfl
@[simp] theorem at_refs {as : List A} {i : Int} : (Cell.refs as).at_ (.int i) = atI as i := rfl
@[simp] theorem len_lst {ds : List PyData} : (Cell.lst ds).len = some ds.length := rfl
@[simp] theorem len_refs {as : List A} : (Cell.refs as).len = some as.length := rfl
@[simp] theorem items_lst {ds : List PyData} : (Cell.lst ds).items = some (ds.map .val) := rfl
@[simp] theorem items_refs {as : List A} : (Cell.refs as).items = some as := rfl
@[simp] theorem lenA_ref {n : Nat} : lenA S (.ref n) = (S[n]?).bind Cell.len := rfl
@[simp] theorem lenA_own {c : Cell} : lenA S (.own c) = c.len := rfl
@[simp] theorem lenA_list {ds : List PyData} : lenA S (.val (.list ds)) = some ds.length := rfl
@[simp] theorem lenA_tup {ds : List PyData} : lenA S (.val (.tuple ds)) = some ds.length := rfl
@[simp] theorem lenA_str {x : Str} : lenA S (.val (.str x)) = if x.length ≤ sizeLine then some x.length else none := rfl
@[simp] theorem lenA_tupA {as : List A} : lenA S (.tup as) = some as.length := rfl
@[simp] theorem idxA_ref {n : Nat} {k : PyData} : idxA S (.ref n) k = (S[n]?).bind (·.at_ k) := rfl
@[simp] theorem idxA_own {c : Cell} {k : PyData} : idxA S (.own c) k = c.at_ k := rfl
@[simp] theorem idxA_val {d k : PyData} : idxA S (.val d) k = (idxD d k).map .val := rfl
@[simp] theorem idxA_tup {as : List A} {i : Int} : idxA S (.tup as) (.int i) = atI as i := rfl
@[simp] theorem itemsA_list {xs : List PyData} : itemsA S (.val (.list xs)) = some (xs.map .val, []) := rfl
@[simp] theorem itemsA_tup {xs : List PyData} : itemsA S (.val (.tuple xs)) = some (xs.map .val, []) := rfl
@[simp] theorem itemsA_str {z : Str} : itemsA S (.val (.str z)) = some (z.cps.toList.map fun c => .val (.str ⟨#[c]⟩), []) := rfl
@[simp] theorem itemsA_own {c : Cell} : itemsA S (.own c) = c.items.map fun as => (as, []) := rfl
@[simp] theorem itemsA_tupA {as : List A} : itemsA S (.tup as) = some (as, []) := rfl
theorem itemsA_ref {n : Nat} {c : Cell} {as : List A} (h : S[n]? = some c) (hi : c.items = some as) (hr : as.all A.rigid = true) : itemsA S (.ref n) = some (as, [(n, c)]) := by
  simp only [itemsA, h, hi, hr, if_true]
@[simp] theorem isLst_own {ds : List PyData} : isLst S (.own (.lst ds)) = true := rfl
@[simp] theorem isLst_ownr {as : List A} : isLst S (.own (.refs as)) = true := rfl
@[simp] theorem isLst_ref {n : Nat} : isLst S (.ref n) = isLstO S[n]? := by
  first
    | (simp only [isLst, isLstO]; done)
    | (simp only [isLst, isLstO]; cases S[n]? <;> first | rfl | (rename_i c; cases c <;> rfl))
@[simp] theorem isLstO_lst {ds : List PyData} : isLstO (some (.lst ds)) = true := rfl
@[simp] theorem isLstO_refs {as : List A} : isLstO (some (.refs as)) = true := rfl
@[simp] theorem atom_val {d : PyData} : (A.val d).atom = true := rfl
@[simp] theorem atom_ref {n : Nat} : (A.ref n).atom = true := rfl
@[simp] theorem atom_tup {as : List A} : (A.tup as).atom = true := rfl
@[simp] theorem rigid_ref {n : Nat} : (A.ref n).rigid = true := rfl
@[simp] theorem rigid_val {d : PyData} : (A.val d).rigid = flatD d := rfl
@[simp] theorem okIn_val {b n : Nat} {d : PyData} : okIn b n (.val d) = true := rfl
@[simp] theorem okIn_ref {b n m : Nat} : okIn b n (.ref m) = decide (b ≤ n ∨ m ≤ n) := rfl
@[simp] theorem flat_none : flatD .none = true := rfl
@[simp] theorem flat_bool {b : Bool} : flatD (.bool b) = true := rfl
@[simp] theorem flat_int {i : Int} : flatD (.int i) = true := rfl
@[simp] theorem flat_str {x : Str} : flatD (.str x) = true := rfl
@[simp] theorem valsOf_nil : valsOf [] = some [] := rfl
@[simp] theorem valsOf_val {d : PyData} {r : List A} : valsOf (.val d :: r) = (valsOf r).map (d :: ·) := rfl
@[simp] theorem valsOf_map' : ∀ {ds : List PyData}, valsOf (ds.map .val) = some ds
  | [] => rfl
  | d :: r => by rw [List.map_cons, valsOf_val, valsOf_map']; rfl
@[simp] theorem mkTup_nil : mkTup [] = .val (.tuple []) := rfl
@[simp] theorem mkTup_map {ds : List PyData} : mkTup (ds.map .val) = .val (.tuple ds) := by unfold mkTup; rw [valsOf_map']
@[simp] theorem mkTup_1 {a : PyData} : mkTup [.val a] = .val (.tuple [a]) := rfl
@[simp] theorem mkTup_2 {a b : PyData} : mkTup [.val a, .val b] = .val (.tuple [a, b]) := rfl
@[simp] theorem mkTup_3 {a b c : PyData} : mkTup [.val a, .val b, .val c] = .val (.tuple [a, b, c]) := rfl
@[simp] theorem mkTup_4 {a b c d : PyData} : mkTup [.val a, .val b, .val c, .val d] = .val (.tuple [a, b, c, d]) := rfl
@[simp] theorem mkTup_5 {a b c d e : PyData} : mkTup [.val a, .val b, .val c, .val d, .val e] = .val (.tuple [a, b, c, d, e]) := rfl
@[simp] theorem mkTup_6 {a b c d e f : PyData} : mkTup [.val a, .val b, .val c, .val d, .val e, .val f] = .val (.tuple [a, b, c, d, e, f]) := rfl
@[simp] theorem mkTup_7 {a b c d e f g : PyData} : mkTup [.val a, .val b, .val c, .val d, .val e, .val f, .val g] = .val (.tuple [a, b, c, d, e, f, g]) := rfl
@[simp] theorem mkTup_8 {a b c d e f g h : PyData} : mkTup [.val a, .val b, .val c, .val d, .val e, .val f, .val g, .val h] = .val (.tuple [a, b, c, d, e, f, g, h]) := rfl

theorem wpR_bind {α β : Type} {r : R α} {f : α → Store → R β} {Q : β → Store → Prop} : wpR (r.bind f) Q E ↔ wpR r (fun a S => wpR (f a S) Q E) E := by cases r <;> exact Iff.rfl
theorem wpR_lift {α : Type} {o : Option α} {Q : α → Store → Prop} : wpR (R.lift o S) Q E ↔ isO o fun a => Q a S := by
  cases o with
  | none => exact ⟨False.elim, fun ⟨_, e, _⟩ => nomatch e⟩
  | some a => exact ⟨fun h => ⟨a, rfl, h⟩, fun ⟨b, e, q⟩ => by cases e; exact q⟩
theorem wpR_noX {α : Type} {r : R α} {Q : α → Store → Prop} : wpR r.noX Q E ↔ wpR r Q noE := by cases r <;> exact Iff.rfl
theorem wpR_if {α : Type} {p : Prop} [Decidable p] {r : R α} {Q : α → Store → Prop} : wpR (if p then r else .err) Q E ↔ p ∧ wpR r Q E := by
  by_cases h : p
  · rw [if_pos h]; exact ⟨fun q => ⟨h, q⟩, fun q => q.2⟩
  · rw [if_neg h]; exact ⟨False.elim, fun q => h q.1⟩
theorem optR {α β : Type} {o : Option α} {r : R β} {Q : β → Store → Prop} {P : α → Prop} (h1 : ∀ a, o = some a → (wpR r Q E ↔ P a)) (h0 : o = none → r = .err) : wpR r Q E ↔ isO o P := by
  cases e : o with
  | none => rw [h0 e]; exact ⟨False.elim, fun ⟨_, e, _⟩ => nomatch e⟩
  | some a => rw [h1 a e]; exact isO_some.symm
theorem wp_ite {α : Type} {p : Bool} {x y : R α} {Q : α → Store → Prop} : wpR (if p = true then x else y) Q E ↔ (p = true → wpR x Q E) ∧ (p = false → wpR y Q E) := by cases p <;> simp
theorem wpR_cg {α : Type} {r : R α} {Q Q' : α → Store → Prop} (h : ∀ a S, Q a S ↔ Q' a S) : wpR r Q E ↔ wpR r Q' E := by
  rw [show Q = Q' from funext fun a => funext fun S => propext (h a S)]
theorem isO_cg {α : Type} {o : Option α} {Q Q' : α → Prop} (h : ∀ a, Q a ↔ Q' a) : isO o Q ↔ isO o Q' := by
  rw [show Q = Q' from funext fun a => propext (h a)]
theorem wpR_okk {α : Type} {a : α} {Q : α → Store → Prop} : wpR (.ok a S) Q E ↔ Q a S := Iff.rfl

@[simp ↓] theorem wp_var {i : Nat} : wpR (evalE C (.var i) env S) Q E ↔ isO (getV env i) fun a => a.atom = true ∧ Q a S := by
  simp only [evalE]
  exact (optR (fun a e => by rw [e]; exact wpR_if) fun e => by rw [e])
@[simp ↓] theorem wp_own {i : Nat} : wpR (evalE C (.own i) env S) Q E ↔ isO (getV env i) fun a => isOwn a fun c => Q (.own c) S := by
  simp only [evalE]
  cases getV env i with
  | none => simp [wpR]
  | some a => cases a <;> simp [wpR, isOwn]
@[simp ↓] theorem wp_const {d : PyData} : wpR (evalE C (.const d) env S) Q E ↔ Q (.val d) S := by simp only [evalE]; exact Iff.rfl
@[simp ↓] theorem wp_glob {x : Str} {d : PyData} : wpR (evalE C (.glob x d) env S) Q E ↔ Q (.val d) S := by simp only [evalE]; exact Iff.rfl
@[simp ↓] theorem wp_nil {Q : List A → Store → Prop} : wpR (evalEs C [] env S) Q E ↔ Q [] S := by simp only [evalEs]; exact Iff.rfl
@[simp ↓] theorem wp_cons {e : Ex} {es : List Ex} {Q : List A → Store → Prop} : wpR (evalEs C (e :: es) env S) Q E ↔ wpR (evalE C e env S) (fun a S => wpR (evalEs C es env S) (fun as S => Q (a :: as) S) E) E := by
  rw [evalEs_cons, wpR_bind]
  exact wpR_cg fun a S => wpR_bind
@[simp ↓] theorem wp_tup {es : List Ex} : wpR (evalE C (.tup es) env S) Q E ↔ wpR (evalEs C es env S) (fun as S => as.length ≤ sizeLine ∧ Q (mkTup as) S) E := by
  simp only [evalE, wpR_bind]
  exact wpR_cg fun a S => wpR_if
@[simp ↓] theorem wp_lst {es : List Ex} : wpR (evalE C (.lst es) env S) Q E ↔ wpR (evalEs C es env S) (fun as S => isO (valsOf as) fun ds => ds.length ≤ sizeLine ∧ Q (.val (.list ds)) S) E := by
  simp only [evalE, wpR_bind]
  exact wpR_cg fun a S => (optR (fun a e => by rw [e]; exact wpR_if) fun e => by rw [e])
@[simp ↓] theorem wp_bin {o : BOp} {a b : Ex} : wpR (evalE C (.bin o a b) env S) Q E ↔ wpR (evalE C a env S) (fun x S => wpR (evalE C b env S) (fun y S => isD S x fun d => isD S y fun e => isO (binD o d e) fun g => Q (.val g) S) E) E := by
  simp only [evalE, wpR_bind]
  exact wpR_cg fun x S => wpR_cg fun y S => (optR (fun d e => by rw [e]; exact optR (fun d2 e2 => by rw [e2]; exact (wpR_lift.trans isO_map)) fun e2 => by rw [e2]) fun e => by rw [e] <;> (split <;> simp_all))
@[simp ↓] theorem wp_cmp {o : COp} {a b : Ex} : wpR (evalE C (.cmp o a b) env S) Q E ↔ wpR (evalE C a env S) (fun x S => wpR (evalE C b env S) (fun y S => isD S x fun d => isD S y fun e => isO (cmpD o d e) fun g => Q (.val (.bool g)) S) E) E := by
  simp only [evalE, wpR_bind]
  exact wpR_cg fun x S => wpR_cg fun y S => (optR (fun d e => by rw [e]; exact optR (fun d2 e2 => by rw [e2]; exact (wpR_lift.trans isO_map)) fun e2 => by rw [e2]) fun e => by rw [e] <;> (split <;> simp_all))
@[simp ↓] theorem wp_neg {a : Ex} : wpR (evalE C (.neg a) env S) Q E ↔ wpR (evalE C a env S) (fun x S => isI S x fun i => Q (.val (.int (-i))) S) E := by
  simp only [evalE, wpR_bind]
  exact wpR_cg fun x S => (optR (fun a e => by rw [e]; try exact Iff.rfl) fun e => by rw [e])
@[simp ↓] theorem wp_isN {ng : Bool} {a : Ex} : wpR (evalE C (.isN ng a) env S) Q E ↔ wpR (evalE C a env S) (fun x S => Q (.val (.bool (match x with
    | .val .none => !ng
    | _ => ng))) S) E := by
  simp only [evalE, wpR_bind]
  refine wpR_cg fun x S => ?_
  cases x with
  | val d => cases d <;> exact Iff.rfl
  | _ => exact Iff.rfl
@[simp ↓] theorem wp_chain {o o' : COp} {a b c : Ex} : wpR (evalE C (.chain o o' a b c) env S) Q E ↔ wpR (evalE C a env S) (fun x S => wpR (evalE C b env S) (fun y S => isD S x fun d => isD S y fun e => isO (cmpD o d e) fun k =>
    (k = true → wpR (evalE C c env S) (fun z S => isD S y fun e => isD S z fun g => isO (cmpD o' e g) fun b => Q (.val (.bool b)) S) E) ∧ (k = false → Q (.val (.bool false)) S)) E) E := by
  simp only [evalE, wpR_bind]
  refine wpR_cg fun x S => wpR_cg fun y S => ?_
  have h : ∀ d e, wpR ((R.lift (cmpD o d e) S).bind fun k S => if k = true then (evalE C c env S).bind fun z S => match deref S y, deref S z with
        | some e, some g => .lift ((cmpD o' e g).map fun b => .val (.bool b)) S
        | _, _ => .err
      else .ok (.val (.bool false)) S) Q E ↔ isO (cmpD o d e) fun k => (k = true → wpR (evalE C c env S) (fun z S => isD S y fun e => isD S z fun g => isO (cmpD o' e g) fun b => Q (.val (.bool b)) S) E) ∧ (k = false → Q (.val (.bool false)) S) := fun d e => by
    rw [wpR_bind, wpR_lift]
    refine isO_cg fun k => wp_ite.trans ?_
    rw [wpR_bind]
    exact and_congr (imp_congr_right fun _ => wpR_cg fun z S => (optR (fun d e => by rw [e]; exact optR (fun d2 e2 => by rw [e2]; exact (wpR_lift.trans isO_map)) fun e2 => by rw [e2]) fun e => by rw [e] <;> (split <;> simp_all))) Iff.rfl
  exact (optR (fun d e => by rw [e]; exact optR (fun d2 e2 => by rw [e2]; exact (h _ _)) fun e2 => by rw [e2]) fun e => by rw [e] <;> (split <;> simp_all))
@[simp ↓] theorem wp_not {a : Ex} : wpR (evalE C (.not a) env S) Q E ↔ wpR (evalE C a env S) (fun x S => isB x fun b => Q (.val (.bool (!b))) S) E := by
  simp only [evalE, wpR_bind]
  exact wpR_cg fun x S => wpR_lift
@[simp ↓] theorem wp_ife {t a b : Ex} : wpR (evalE C (.ife t a b) env S) Q E ↔ wpR (evalE C t env S) (fun x S => isB x fun k => (k = true → wpR (evalE C a env S) Q E) ∧ (k = false → wpR (evalE C b env S) Q E)) E := by
  simp only [evalE, wpR_bind]
  exact wpR_cg fun x S => wpR_lift.trans (isO_cg fun k => wp_ite)
@[simp ↓] theorem wp_ands1 {e : Ex} : wpR (evalAnd C [e] env S) Q E ↔ wpR (evalE C e env S) Q E := by simp only [evalAnd]
@[simp ↓] theorem wp_ands2 {e e' : Ex} {es : List Ex} : wpR (evalAnd C (e :: e' :: es) env S) Q E ↔ wpR (evalE C e env S) (fun x S => isB x fun k => (k = true → wpR (evalAnd C (e' :: es) env S) Q E) ∧ (k = false → Q (.val (.bool false)) S)) E := by
  rw [evalAnd]
  simp only [wpR_bind]
  exact wpR_cg fun x S => wpR_lift.trans (isO_cg fun k => wp_ite)
@[simp ↓] theorem wp_ands {es : List Ex} : wpR (evalE C (.ands es) env S) Q E ↔ wpR (evalAnd C es env S) Q E := by simp only [evalE]
@[simp ↓] theorem wp_ors1 {e : Ex} : wpR (evalOr C [e] env S) Q E ↔ wpR (evalE C e env S) Q E := by simp only [evalOr]
@[simp ↓] theorem wp_ors2 {e e' : Ex} {es : List Ex} : wpR (evalOr C (e :: e' :: es) env S) Q E ↔ wpR (evalE C e env S) (fun x S => isB x fun k => (k = true → Q (.val (.bool true)) S) ∧ (k = false → wpR (evalOr C (e' :: es) env S) Q E)) E := by
  rw [evalOr]
  simp only [wpR_bind]
  exact wpR_cg fun x S => wpR_lift.trans (isO_cg fun k => wp_ite)
@[simp ↓] theorem wp_ors {es : List Ex} : wpR (evalE C (.ors es) env S) Q E ↔ wpR (evalOr C es env S) Q E := by simp only [evalE]
@[simp ↓] theorem wp_idx {a b : Ex} : wpR (evalE C (.idx a b) env S) Q E ↔ wpR (evalE C a env S) (fun x S => wpR (evalE C b env S) (fun y S => isD S y fun k => isO (idxA S x k) fun g => Q g S) E) E := by
  simp only [evalE, wpR_bind]
  exact wpR_cg fun x S => wpR_cg fun y S => (optR (fun a e => by rw [e]; exact wpR_lift) fun e => by rw [e])
@[simp ↓] theorem wp_o0 {Q : Option Int → Store → Prop} : wpR (evalO C none env S) Q E ↔ Q none S := by simp only [evalO]; exact Iff.rfl
@[simp ↓] theorem wp_o1 {e : Ex} {Q : Option Int → Store → Prop} : wpR (evalO C (some e) env S) Q E ↔ wpR (evalE C e env S) (fun x S => isI S x fun i => Q (some i) S) E := by
  simp only [evalO, wpR_bind]
  exact wpR_cg fun x S => (optR (fun a e => by rw [e]; try exact Iff.rfl) fun e => by rw [e])
@[simp ↓] theorem wp_slice {a : Ex} {lo hi : Option Ex} : wpR (evalE C (.slice a lo hi) env S) Q E ↔ wpR (evalE C a env S) (fun x S => wpR (evalO C lo env S) (fun l S => wpR (evalO C hi env S) (fun h S => isD S x fun d => isO (sliceD d l h) fun g => Q (.val g) S) E) E) E := by
  simp only [evalE, wpR_bind]
  exact wpR_cg fun x S => wpR_cg fun l S => wpR_cg fun h S => (optR (fun a e => by rw [e]; exact (wpR_lift.trans isO_map)) fun e => by rw [e])
@[simp ↓] theorem wp_rev {a : Ex} : wpR (evalE C (.rev a) env S) Q E ↔ wpR (evalE C a env S) (fun x S => isD S x fun d => isO (revD d) fun g => Q (.val g) S) E := by
  simp only [evalE, wpR_bind]
  exact wpR_cg fun x S => (optR (fun a e => by rw [e]; exact (wpR_lift.trans isO_map)) fun e => by rw [e])
@[simp ↓] theorem wp_len {a : Ex} : wpR (evalE C (.len a) env S) Q E ↔ wpR (evalE C a env S) (fun x S => isO (lenA S x) fun n => Q (.val (.int (n : Nat))) S) E := by
  simp only [evalE, wpR_bind]
  exact wpR_cg fun x S => (optR (fun a e => by rw [e]; try exact Iff.rfl) fun e => by rw [e])
@[simp ↓] theorem wp_blt {f : BF} {es : List Ex} : wpR (evalE C (.blt f es) env S) Q E ↔ wpR (evalEs C es env S) (fun as S => isO (derefs S as) fun ds => isO (bltD f ds) fun g => Q (.val g) S) E := by
  simp only [evalE, wpR_bind]
  exact wpR_cg fun x S => (optR (fun a e => by rw [e]; exact (wpR_lift.trans isO_map)) fun e => by rw [e])
@[simp ↓] theorem wp_meth {f : MF} {a : Ex} {es : List Ex} : wpR (evalE C (.meth f a es) env S) Q E ↔ wpR (evalE C a env S) (fun x S => isD S x fun d0 => methR f d0 = true ∧ wpR (evalEs C es env S) (fun as S => isD S x fun d => isO (derefs S as) fun ds => kindOf d = kindOf d0 ∧ isO (methD f d ds) fun g => Q (.val g) S) E) E := by
  simp only [evalE, wpR_bind]
  refine wpR_cg fun x S => optR (fun d0 e => ?_) fun e => by rw [e]
  rw [e]
  refine wpR_if.trans (and_congr_right fun _ => ?_)
  rw [wpR_bind]
  refine wpR_cg fun as S => ?_
  unfold isD
  cases deref S x with
  | none => exact ⟨False.elim, fun ⟨_, e, _⟩ => nomatch e⟩
  | some d =>
    cases derefs S as with
    | none => exact ⟨False.elim, fun ⟨_, _, _, e, _⟩ => nomatch e⟩
    | some ds =>
      rw [isO_some, isO_some]
      exact wpR_if.trans (and_congr_right fun _ => wpR_lift.trans isO_map)
@[simp ↓] theorem wp_call {f : Nat} {es : List Ex} : wpR (evalE C (.call f es) env S) Q E ↔ wpR (evalEs C es env S) (fun as S => wpR (C.call f as S) Q E) E := by
  simp only [evalE, wpR_bind]
@[simp ↓] theorem wp_comp {tg : List Nat} {it : Wk} {cd : Option Ex} {el : Ex} : wpR (evalE C (.comp tg it cd el) env S) Q E ↔ wpR (evalW C it env S) (fun w S => w.1.length ≤ sizeLine ∧ wpR (collect w.2 (compF C tg cd el env) w.1 S) (fun ys S => isO (valsOf ys) fun ds => Q (.val (.list ds)) S) noE) E := by
  simp only [evalE, wpR_bind]
  refine wpR_cg fun w S => wpR_if.trans (and_congr_right fun _ => ?_)
  rw [wpR_bind, wpR_noX]
  show wpR (collect w.2 (compF C tg cd el env) w.1 S) _ noE ↔ _
  exact wpR_cg fun ys S => (optR (fun a e => by rw [e]; try exact Iff.rfl) fun e => by rw [e])
@[simp ↓] theorem wp_newm {tg : List Nat} {it : Wk} {cd : Option Ex} {el : Ex} : wpR (evalE C (.newm tg it cd el) env S) Q E ↔ wpR (evalW C it env S) (fun w S => w.1.length ≤ sizeLine ∧ wpR (collect w.2 (compF C tg cd el env) w.1 S) (fun ys S => Q (.ref S.length) (S ++ [.refs ys])) noE) E := by
  simp only [evalE, wpR_bind]
  refine wpR_cg fun w S => wpR_if.trans (and_congr_right fun _ => ?_)
  rw [wpR_bind, wpR_noX]
  exact Iff.rfl
@[simp ↓] theorem wp_newc {e : Ex} : wpR (evalE C (.newc e) env S) Q E ↔ wpR (evalE C e env S) (fun x S => isL x fun ds => Q (.ref S.length) (S ++ [.lst ds])) E := by
  simp only [evalE, wpR_bind]
  refine wpR_cg fun x S => ?_
  cases x with
  | val d => cases d <;> exact Iff.rfl
  | _ => exact Iff.rfl
@[simp ↓] theorem wp_newr {es : List Ex} : wpR (evalE C (.newr es) env S) Q E ↔ wpR (evalEs C es env S) (fun as S => as.length ≤ sizeLine ∧ Q (.ref S.length) (S ++ [.refs as])) E := by
  simp only [evalE, wpR_bind]
  exact wpR_cg fun x S => wpR_if
@[simp ↓] theorem wp_seq {e : Ex} {Q : List A × List (Nat × Cell) → Store → Prop} : wpR (evalW C (.seq e) env S) Q E ↔ wpR (evalE C e env S) (fun a S => isO (itemsA S a) fun w => Q w S) E := by
  simp only [evalW, wpR_bind]
  exact wpR_cg fun x S => wpR_lift
def rangeQ (ds : List PyData) (Q : List PyData → Prop) : Prop := match ds with
  | [.int j] => (-(2 ^ 62) ≤ j ∧ j < 2 ^ 62) ∧ Q (rangeD 0 j.toNat)
  | [.int i, .int j] => (-(2 ^ 62) ≤ i ∧ i < 2 ^ 62 ∧ -(2 ^ 62) ≤ j ∧ j < 2 ^ 62) ∧ Q (rangeD i (j - i).toNat)
  | [.int i, .int j, .int c] => (c ≠ 0 ∧ c.natAbs < 1073741824 ∧ Builtin.Range.small i j c = true ∧ 0 ≤ Builtin.Range.rangeSize i j c) ∧ Q (rangeC c i (Builtin.Range.rangeSize i j c).toNat)
  | _ => False
@[simp] theorem rangeQ_1 {j : Int} {Q : List PyData → Prop} : rangeQ [.int j] Q ↔ (-(2 ^ 62) ≤ j ∧ j < 2 ^ 62) ∧ Q (rangeD 0 j.toNat) := Iff.rfl
@[simp] theorem rangeQ_2 {i j : Int} {Q : List PyData → Prop} : rangeQ [.int i, .int j] Q ↔ (-(2 ^ 62) ≤ i ∧ i < 2 ^ 62 ∧ -(2 ^ 62) ≤ j ∧ j < 2 ^ 62) ∧ Q (rangeD i (j - i).toNat) := Iff.rfl
@[simp ↓] theorem wp_range {es : List Ex} {Q : List A × List (Nat × Cell) → Store → Prop} : wpR (evalW C (.range es) env S) Q E ↔ wpR (evalEs C es env S) (fun as S => isO (derefs S as) fun ds => rangeQ ds fun xs => Q (xs.map .val, []) S) E := by
  simp only [evalW, wpR_bind]
  refine wpR_cg fun as S => ?_
  split
  · rename_i j e
    rw [e, isO_some]
    exact wpR_if
  · rename_i i j e
    rw [e, isO_some]
    exact wpR_if
  · rename_i i j c e
    rw [e, isO_some]
    exact wpR_if
  · rename_i h1 h2 h3
    refine ⟨False.elim, fun ⟨ds, e, q⟩ => ?_⟩
    unfold rangeQ at q
    dsimp only at q
    split at q
    · exact h1 _ e
    · exact h2 _ _ e
    · exact h3 _ _ _ e
    · exact q
@[simp ↓] theorem wp_enum {e : Ex} {Q : List A × List (Nat × Cell) → Store → Prop} : wpR (evalW C (.enum e) env S) Q E ↔ wpR (evalE C e env S) (fun a S => isO (itemsA S a) fun w => Q (pairsFrom 0 w.1, w.2) S) E := by
  simp only [evalW, wpR_bind]
  refine wpR_cg fun a S => ?_
  cases itemsA S a with
  | none => simp [wpR]
  | some w => simp [wpR]
@[simp ↓] theorem wp_zip {es : List Ex} {Q : List A × List (Nat × Cell) → Store → Prop} : wpR (evalW C (.zip es) env S) Q E ↔ wpR (evalEs C es env S) (fun as S => isO (itemsAs S as) fun w => ∃ l ls, w.1 = l :: ls ∧ Q (zipA (l :: ls) l.length, w.2) S) E := by
  simp only [evalW, wpR_bind]
  refine wpR_cg fun as S => ?_
  cases itemsAs S as with
  | none => simp [wpR]
  | some w =>
    obtain ⟨ls, g⟩ := w
    cases ls with
    | nil => simp [wpR]
    | cons l ls =>
      rw [isO_some]
      exact ⟨fun q => ⟨_, _, rfl, q⟩, fun ⟨_, _, e, q⟩ => by cases e; exact q⟩
@[simp ↓] theorem wp_c0 {Q : Bool → Store → Prop} : wpR (evalC C none env S) Q E ↔ Q true S := by simp only [evalC]; exact Iff.rfl
@[simp ↓] theorem wp_c1 {e : Ex} {Q : Bool → Store → Prop} : wpR (evalC C (some e) env S) Q E ↔ wpR (evalE C e env S) (fun x S => isB x fun b => Q b S) E := by
  simp only [evalC, wpR_bind]
  exact wpR_cg fun x S => wpR_lift
def lrangeQ (ds : List PyData) (Q : List PyData → Prop) : Prop := match ds with
  | [.int j] => (j < 2 ^ 24 ∧ -(2 ^ 24) < j) ∧ Q (rangeD 0 j.toNat)
  | [.int i, .int j] => (j < 2 ^ 23 ∧ -(2 ^ 23) < j ∧ i < 2 ^ 23 ∧ -(2 ^ 23) < i) ∧ Q (rangeD i (j - i).toNat)
  | _ => False
@[simp] theorem lrangeQ_1 {j : Int} {Q : List PyData → Prop} : lrangeQ [.int j] Q ↔ (j < 2 ^ 24 ∧ -(2 ^ 24) < j) ∧ Q (rangeD 0 j.toNat) := Iff.rfl
@[simp] theorem lrangeQ_2 {i j : Int} {Q : List PyData → Prop} : lrangeQ [.int i, .int j] Q ↔ (j < 2 ^ 23 ∧ -(2 ^ 23) < j ∧ i < 2 ^ 23 ∧ -(2 ^ 23) < i) ∧ Q (rangeD i (j - i).toNat) := Iff.rfl
@[simp ↓] theorem wp_lrange {es : List Ex} : wpR (evalE C (.lrange es) env S) Q E ↔ wpR (evalEs C es env S) (fun as S => isO (derefs S as) fun ds => lrangeQ ds fun xs => Q (.val (.list xs)) S) E := by
  simp only [evalE, wpR_bind]
  refine wpR_cg fun as S => ?_
  split
  · rename_i j e
    rw [e, isO_some]
    exact wpR_if
  · rename_i i j e
    rw [e, isO_some]
    exact wpR_if
  · rename_i h1 h2
    refine ⟨False.elim, fun ⟨ds, e, q⟩ => ?_⟩
    unfold lrangeQ at q
    dsimp only at q
    split at q
    · exact h1 _ e
    · exact h2 _ _ e
    · exact q
/-- a turn of a comprehension -/
theorem wp_compF {tg : List Nat} {cd : Option Ex} {el : Ex} {d : A} {Q : Option A → Store → Prop} : wpR (compF C tg cd el env d S) Q E ↔ isO (bindT tg d env) fun env' => wpR (evalC C cd env' S) (fun k S => (k = true → wpR (evalE C el env' S) (fun y S => Q (some y) S) E) ∧ (k = false → Q none S)) E := by
  unfold compF
  refine optR (fun env' e => ?_) fun e => by rw [e]
  rw [e]
  show wpR ((evalC C cd env' S).bind _) Q E ↔ _
  rw [wpR_bind]
  refine wpR_cg fun k S => wp_ite.trans (and_congr (imp_congr_right fun _ => ?_) Iff.rfl)
  rw [wpR_bind]
  exact Iff.rfl

variable {N : TEnv → Store → Prop} {B : RS → Prop}
theorem wpS_thn {α : Type} {r : R α} {f : α → Store → RS} : wpS (r.thn env f) N B ↔ wpR r (fun a S => wpS (f a S) N B) fun k d S => B (.exc k d env S) := by cases r <;> exact Iff.rfl
theorem optS {α : Type} {o : Option α} {r : RS} {P : α → Prop} (h1 : ∀ a, o = some a → (wpS r N B ↔ P a)) (h0 : o = none → r = .err) : wpS r N B ↔ isO o P := by
  cases e : o with
  | none => rw [h0 e]; exact ⟨False.elim, fun ⟨_, e, _⟩ => nomatch e⟩
  | some a => rw [h1 a e]; exact isO_some.symm
theorem wpS_if {p : Prop} [Decidable p] {r : RS} : wpS (if p then r else .err) N B ↔ p ∧ wpS r N B := by
  by_cases h : p
  · rw [if_pos h]; exact ⟨fun q => ⟨h, q⟩, fun q => q.2⟩
  · rw [if_neg h]; exact ⟨False.elim, fun q => h q.1⟩
theorem wpS_nx : wpS (.nx env S) N B ↔ N env S := Iff.rfl
@[simp ↓] theorem ws_nil : wpS (execs C [] env S) N B ↔ N env S := by simp only [execs]; exact Iff.rfl
@[simp ↓] theorem ws_cons {s : Cmd} {ss : List Cmd} : wpS (execs C (s :: ss) env S) N B ↔ wpS (exec C s env S) (fun env S => wpS (execs C ss env S) N B) B := by
  rw [execs]
  cases exec C s env S <;> exact Iff.rfl
@[simp ↓] theorem ws_set {i : Nat} {e : Ex} : wpS (exec C (.set i e) env S) N B ↔ wpR (evalE C e env S) (fun a S => N (env.set i (some a)) S) fun k d S => B (.exc k d env S) := by
  simp only [exec]
  rw [wpS_thn]
  exact Iff.rfl
@[simp ↓] theorem ws_setO {i : Nat} {e : Ex} : wpS (exec C (.setO i e) env S) N B ↔ wpR (evalE C e env S) (fun a S => isL a fun ds => N (env.set i (some (.own (.lst ds)))) S) fun k d S => B (.exc k d env S) := by
  simp only [exec]
  rw [wpS_thn]
  refine wpR_cg fun x S => ?_
  cases x with
  | val d => cases d <;> exact Iff.rfl
  | _ => exact Iff.rfl
@[simp ↓] theorem ws_setT {is : List Nat} {e : Ex} : wpS (exec C (.setT is e) env S) N B ↔ wpR (evalE C e env S) (fun a S => isO (bindT is a env) fun env' => N env' S) fun k d S => B (.exc k d env S) := by
  simp only [exec]
  rw [wpS_thn]
  exact wpR_cg fun x S => (optS (fun a e => by rw [e]; try exact Iff.rfl) fun e => by rw [e])
@[simp ↓] theorem ws_par {is : List Nat} {es : List Ex} : wpS (exec C (.par is es) env S) N B ↔ wpR (evalEs C es env S) (fun as S => is.length = as.length ∧ N (setE env is as) S) fun k d S => B (.exc k d env S) := by
  simp only [exec]
  rw [wpS_thn]
  exact wpR_cg fun x S => wpS_if
@[simp ↓] theorem ws_aug {i : Nat} {o : BOp} {e : Ex} : wpS (exec C (.aug i o e) env S) N B ↔ ∃ d, getV env i = some (.val d) ∧ wpR (evalE C e env S) (fun b S => isD S b fun y => isO (augD o d y) fun z => N (env.set i (some (.val z))) S) fun k d S => B (.exc k d env S) := by
  simp only [exec]
  cases getV env i with
  | none => simp [wpS]
  | some x =>
    cases x with
    | val d =>
      simp only [Option.some.injEq, A.val.injEq, exists_eq_left']
      rw [wpS_thn]
      exact wpR_cg fun b S => (optS (fun a e => by rw [e]; (try dsimp only); exact ((optS (fun a e => by rw [e]; try exact Iff.rfl) fun e => by rw [e]))) fun e => by rw [e])
    | _ => simp [wpS]
@[simp ↓] theorem mutate_own {i : Nat} {c : Cell} {f : Nat → Cell → Option Cell} : wpS (mutate (.own i) (.own c) env S f) N B ↔ isO (f S.length c) fun c' => N (env.set i (some (.own c'))) S := by simp only [mutate]; exact (optS (fun a e => by rw [e]; try exact Iff.rfl) fun e => by rw [e])
@[simp ↓] theorem mutate_ref {r : Ex} {n : Nat} {f : Nat → Cell → Option Cell} : wpS (mutate r (.ref n) env S f) N B ↔ isO S[n]? fun c => isO (f n c) fun c' => N env (S.set n c') := by
  have : mutate r (.ref n) env S f = match S[n]? with
      | some c => match f n c with
        | some c' => .nx env (S.set n c')
        | none => .err
      | none => .err := by cases r <;> rfl
  rw [this]
  exact (optS (fun a e => by rw [e]; (try dsimp only); exact ((optS (fun a e => by rw [e]; try exact Iff.rfl) fun e => by rw [e]))) fun e => by rw [e])
@[simp ↓] theorem ws_mth {m : MO} {r : Ex} {es : List Ex} : wpS (exec C (.mth m r es) env S) N B ↔ wpR (evalE C r env S) (fun a S => isLst S a = true ∧ wpR (evalEs C es env S) (fun as S => wpS (mutate r a env S fun n c => mutC C.base n m as c) N B) fun k d S => B (.exc k d env S)) fun k d S => B (.exc k d env S) := by
  simp only [exec]
  rw [wpS_thn]
  exact wpR_cg fun a S => wpS_if.trans (and_congr_right fun _ => wpS_thn)
@[simp ↓] theorem popK_own {i : Nat} {c : Cell} {k : Option Int} {g : A → TEnv → Store → RS} : wpS (popK (.own i) (.own c) env S k g) N B ↔ isO (popC k c) fun q => wpS (g q.1 (env.set i (some (.own q.2))) S) N B := by simp only [popK]; exact (optS (fun a e => by rw [e]; try exact Iff.rfl) fun e => by rw [e])
@[simp ↓] theorem popK_ref {r : Ex} {n : Nat} {k : Option Int} {g : A → TEnv → Store → RS} : wpS (popK r (.ref n) env S k g) N B ↔ isO S[n]? fun c => isO (popC k c) fun q => wpS (g q.1 env (S.set n q.2)) N B := by
  have : popK r (.ref n) env S k g = match S[n]? with
      | some c => match popC k c with
        | some q => g q.1 env (S.set n q.2)
        | none => .err
      | none => .err := by cases r <;> rfl
  rw [this]
  exact (optS (fun a e => by rw [e]; (try dsimp only); exact ((optS (fun a e => by rw [e]; try exact Iff.rfl) fun e => by rw [e]))) fun e => by rw [e])
@[simp ↓] theorem popT_nil {x : A} : wpS (popT [] x env S) N B ↔ N env S := Iff.rfl
@[simp ↓] theorem popT_cons {i : Nat} {is : List Nat} {x : A} : wpS (popT (i :: is) x env S) N B ↔ isO (bindT (i :: is) x env) fun env' => N env' S := by simp only [popT]; exact (optS (fun a e => by rw [e]; try exact Iff.rfl) fun e => by rw [e])
@[simp ↓] theorem ws_pop {dst : List Nat} {r : Ex} {k : Option Ex} : wpS (exec C (.pop dst r k) env S) N B ↔ wpR (evalE C r env S) (fun a S => isLst S a = true ∧ wpR (evalO C k env S) (fun k S => wpS (popK r a env S k (popT dst)) N B) fun k d S => B (.exc k d env S)) fun k d S => B (.exc k d env S) := by
  simp only [exec]
  rw [wpS_thn]
  exact wpR_cg fun a S => wpS_if.trans (and_congr_right fun _ => wpS_thn)
@[simp ↓] theorem ws_put {r k e : Ex} : wpS (exec C (.put r k e) env S) N B ↔ wpR (evalE C e env S) (fun a S => wpR (evalE C r env S) (fun p S => wpR (evalE C k env S) (fun b S => isD S b fun j => wpS (mutate r p env S fun n c => putC C.base n j a c) N B) fun k d S => B (.exc k d env S)) fun k d S => B (.exc k d env S)) fun k d S => B (.exc k d env S) := by
  simp only [exec]
  rw [wpS_thn]
  exact wpR_cg fun a S => wpS_thn.trans (wpR_cg fun p S => wpS_thn.trans (wpR_cg fun b S => (optS (fun a e => by rw [e]; try exact Iff.rfl) fun e => by rw [e])))
def isVal (a : A) (Q : PyData → Prop) : Prop := match a with
  | .val d => Q d
  | _ => False
@[simp ↓, simp] theorem isVal_val {d : PyData} {Q : PyData → Prop} : isVal (.val d) Q ↔ Q d := Iff.rfl
@[simp ↓] theorem ws_augPut {r k : Ex} {o : BOp} {e : Ex} : wpS (exec C (.augPut r k o e) env S) N B ↔ wpR (evalE C r env S) (fun p S => wpR (evalE C k env S) (fun b S => isLst S p = true ∧ isD S b fun j => isO (idxA S p j) fun x => isVal x fun old =>
    wpR (evalE C e env S) (fun y S => isD S y fun d => isO (augD o old d) fun z => wpS (mutate r p env S fun n c => putC C.base n j (.val z) c) N B) fun k d S => B (.exc k d env S)) fun k d S => B (.exc k d env S)) fun k d S => B (.exc k d env S) := by
  simp only [exec]
  rw [wpS_thn]
  refine wpR_cg fun p S => wpS_thn.trans (wpR_cg fun b S => wpS_if.trans (and_congr_right fun _ => optS (fun j e => ?_) fun e => by rw [e]))
  rw [e]
  dsimp only
  cases idxA S p j with
  | none => simp [wpS]
  | some x =>
    rw [isO_some]
    cases x with
    | val old =>
      rw [isVal_val]
      exact wpS_thn.trans (wpR_cg fun y S => (optS (fun a e => by rw [e]; (try dsimp only); exact ((optS (fun a e => by rw [e]; try exact Iff.rfl) fun e => by rw [e]))) fun e => by rw [e]))
    | _ => exact Iff.rfl
@[simp ↓] theorem ws_expr {e : Ex} : wpS (exec C (.expr e) env S) N B ↔ wpR (evalE C e env S) (fun a S => N env S) fun k d S => B (.exc k d env S) := by
  simp only [exec]
  rw [wpS_thn]
  exact Iff.rfl
/-- what is given up -/
def relQ (env : TEnv) (S : Store) (i : Nat) (N : TEnv → Store → Prop) (a : A) : Prop := match a with
  | .own (.lst ds) => N (env.set i (some (.val (.list ds)))) S
  | a => isO (frz 3 S a) fun p => N (env.set i (some (.val p.1))) p.2
@[simp ↓, simp] theorem relQ_own {i : Nat} {ds : List PyData} : relQ env S i N (.own (.lst ds)) ↔ N (env.set i (some (.val (.list ds)))) S := Iff.rfl
@[simp ↓, simp] theorem relQ_ref {i n : Nat} : relQ env S i N (.ref n) ↔ isO (frz 3 S (.ref n)) fun p => N (env.set i (some (.val p.1))) p.2 := Iff.rfl
@[simp ↓, simp] theorem relQ_tup {i : Nat} {as : List A} : relQ env S i N (.tup as) ↔ isO (frz 3 S (.tup as)) fun p => N (env.set i (some (.val p.1))) p.2 := Iff.rfl
@[simp ↓, simp] theorem relQ_val {i : Nat} {d : PyData} : relQ env S i N (.val d) ↔ N (env.set i (some (.val d))) S := by
  show isO (some (d, S)) _ ↔ _
  rw [isO_some]
@[simp ↓] theorem ws_rel {i : Nat} : wpS (exec C (.rel i) env S) N B ↔ isO (getV env i) (relQ env S i N) := by
  simp only [exec]
  cases getV env i with
  | none => simp [wpS]
  | some a =>
    rw [isO_some]
    cases a with
    | own c =>
      cases c with
      | lst ds => exact Iff.rfl
      | _ => dsimp only; exact (optS (fun a e => by rw [e]; try exact Iff.rfl) fun e => by rw [e])
    | _ => dsimp only; exact (optS (fun a e => by rw [e]; try exact Iff.rfl) fun e => by rw [e])
@[simp ↓] theorem ws_ifs {c : Ex} {a b : List Cmd} : wpS (exec C (.ifs c a b) env S) N B ↔ wpR (evalE C c env S) (fun x S => isB x fun k => (k = true → wpS (execs C a env S) N B) ∧ (k = false → wpS (execs C b env S) N B)) fun k d S => B (.exc k d env S) := by
  simp only [exec]
  rw [wpS_thn]
  refine wpR_cg fun x S => optS (fun k e => ?_) fun e => by rw [e]
  rw [e]
  cases k <;> simp
/-- a turn of a for -/
noncomputable def forF (C : Calls) (tg : List Nat) (body : List Cmd) : A → TEnv → Store → RS := fun d env S => match bindT tg d env with
  | some env' => execs C body env' S
  | none => .err
theorem ws_forF {tg : List Nat} {body : List Cmd} {d : A} : wpS (forF C tg body d env S) N B ↔ isO (bindT tg d env) fun env' => wpS (execs C body env' S) N B := by simp only [forF]; exact (optS (fun a e => by rw [e]; try exact Iff.rfl) fun e => by rw [e])
@[simp ↓] theorem ws_fors {tg : List Nat} {it : Wk} {body : List Cmd} : wpS (exec C (.fors tg it body) env S) N B ↔ wpR (evalW C it env S) (fun w S => wpS (loop w.2 (forF C tg body) w.1 env S) N B) fun k d S => B (.exc k d env S) := by
  simp only [exec]
  rw [wpS_thn]
  exact Iff.rfl
@[simp ↓] theorem ws_whil {n : Nat} {t : Ex} {body : List Cmd} : wpS (exec C (.whil n t body) env S) N B ↔ wpS (wloop (evalE C t) (execs C body) n env S) N B := by simp only [exec]
@[simp ↓] theorem ws_ret {e : Ex} : wpS (exec C (.ret e) env S) N B ↔ wpR (evalE C e env S) (fun a S => B (.rt a S)) fun k d S => B (.exc k d env S) := by
  simp only [exec]
  rw [wpS_thn]
  exact Iff.rfl
@[simp ↓] theorem ws_retO {i : Nat} : wpS (exec C (.retO i) env S) N B ↔ isO (getV env i) fun x => isOwn x fun c => ∃ ds, c = .lst ds ∧ B (.rt (.val (.list ds)) S) := by
  simp only [exec]
  cases getV env i with
  | none => simp [wpS]
  | some x =>
    rw [isO_some]
    cases x with
    | own c => cases c <;> simp [wpS]
    | _ => exact Iff.rfl
@[simp ↓] theorem ws_retN : wpS (exec C .retN env S) N B ↔ B (.rt (.val .none) S) := by simp only [exec]; exact Iff.rfl
@[simp ↓] theorem ws_pass : wpS (exec C .pass env S) N B ↔ N env S := by simp only [exec]; exact Iff.rfl
@[simp ↓] theorem ws_doc : wpS (exec C .doc env S) N B ↔ N env S := by simp only [exec]; exact Iff.rfl
@[simp ↓] theorem ws_brk : wpS (exec C .brk env S) N B ↔ B (.bk env S) := by simp only [exec]; exact Iff.rfl
@[simp ↓] theorem ws_cnt : wpS (exec C .cnt env S) N B ↔ B (.ct env S) := by simp only [exec]; exact Iff.rfl

/-- what a call hands back where its cells are forgotten -/
def retQ (S : Store) (Q : A → Store → Prop) (E : XQ) : RS → Prop
  | .rt (.val v) S' => Q (.val v) (S'.take S.length)
  | .rt (.ref n) S' => n < S.length ∧ Q (.ref n) (S'.take S.length)
  | .exc k d _ S' => E k d (S'.take S.length)
  | _ => False
@[simp ↓, simp] theorem retQ_val {v : PyData} {S' : Store} : retQ S Q E (.rt (.val v) S') ↔ Q (.val v) (S'.take S.length) := Iff.rfl
@[simp ↓, simp] theorem retQ_ref {n : Nat} {S' : Store} : retQ S Q E (.rt (.ref n) S') ↔ n < S.length ∧ Q (.ref n) (S'.take S.length) := Iff.rfl
@[simp ↓, simp] theorem retQ_exc {k : Nat} {d : PyData} {S' : Store} : retQ S Q E (.exc k d env S') ↔ E k d (S'.take S.length) := Iff.rfl
/-- .. and where they live on -/
def retK (Q : A → Store → Prop) (E : XQ) : RS → Prop
  | .rt a S' => a.atom = true ∧ Q a S'
  | .exc k d _ S' => E k d S'
  | _ => False
@[simp ↓, simp] theorem retK_rt {a : A} {S' : Store} : retK Q E (.rt a S') ↔ a.atom = true ∧ Q a S' := Iff.rfl
@[simp ↓, simp] theorem retK_exc {k : Nat} {d : PyData} {S' : Store} : retK Q E (.exc k d env S') ↔ E k d S' := Iff.rfl
theorem wp_callF {P : Prg} {d b f : Nat} {fn : Fn} {as : List A} (h : P f = some fn) (hk : fn.keep = false) (hn : as.length = fn.np ∧ fn.np ≤ fn.ns ∧ as.all A.atom = true)
    (q : wpS (execs ⟨callP P d S.length, S.length⟩ fn.body (as.map some ++ List.replicate (fn.ns - fn.np) none) S) (fun _ S' => Q (.val .none) (S'.take S.length)) (retQ S Q E)) : wpR (callP P (d + 1) b f as S) Q E := by
  rw [call_eq h, hk]
  unfold runFn
  rw [if_pos hn]
  simp only [Bool.false_eq_true, if_false, hk]
  cases e : execs ⟨callP P d S.length, S.length⟩ fn.body (as.map some ++ List.replicate (fn.ns - fn.np) none) S with
  | nx env S' => rw [e] at q; exact q
  | bk env S' => rw [e] at q; exact q
  | ct env S' => rw [e] at q; exact q
  | err => rw [e] at q; exact q
  | exc k d env S' => rw [e] at q; exact q
  | rt a S' =>
    rw [e] at q
    cases a with
    | val v => exact q
    | ref n => exact wpR_if.mpr q
    | _ => exact q
theorem wp_callK {P : Prg} {d b f : Nat} {fn : Fn} {as : List A} (h : P f = some fn) (hk : fn.keep = true) (hn : as.length = fn.np ∧ fn.np ≤ fn.ns ∧ as.all A.atom = true)
    (q : wpS (execs ⟨callP P d b, b⟩ fn.body (as.map some ++ List.replicate (fn.ns - fn.np) none) S) (fun _ S' => Q (.val .none) S') (retK Q E)) : wpR (callP P (d + 1) b f as S) Q E := by
  rw [call_eq h, hk]
  unfold runFn
  rw [if_pos hn]
  simp only [if_true, hk]
  cases e : execs ⟨callP P d b, b⟩ fn.body (as.map some ++ List.replicate (fn.ns - fn.np) none) S with
  | nx env S' => rw [e] at q; exact q
  | bk env S' => rw [e] at q; exact q
  | ct env S' => rw [e] at q; exact q
  | err => rw [e] at q; exact q
  | exc k d env S' => rw [e] at q; exact q
  | rt a S' =>
    rw [e] at q
    exact wpR_if.mpr q

theorem ws_loop0 {f : A → TEnv → Store → RS} : wpS (loop [] f [] env S) N B ↔ N env S := by
  rw [loop, if_pos (by simp)]
  exact Iff.rfl
theorem ws_loop1 {f : A → TEnv → Store → RS} {d : A} {r : List A} : wpS (loop [] f (d :: r) env S) N B ↔ wpS (f d env S) (fun env S => wpS (loop [] f r env S) N B) fun x => match x with
    | .ct env S => wpS (loop [] f r env S) N B
    | .bk env S => N env S
    | x => B x := by
  rw [loop, if_pos (by simp)]
  cases f d env S <;> exact Iff.rfl
theorem wp_coll0 {f : A → Store → R (Option A)} {Q : List A → Store → Prop} : wpR (collect [] f [] S) Q E ↔ Q [] S := by
  rw [collect, if_pos (by simp)]
  exact Iff.rfl
theorem wp_coll1 {f : A → Store → R (Option A)} {d : A} {r : List A} {Q : List A → Store → Prop} : wpR (collect [] f (d :: r) S) Q E ↔ wpR (f d S) (fun o S => wpR (collect [] f r S) (fun ys S => Q (match o with
    | some y => y :: ys
    | none => ys) S) E) E := by
  rw [collect, if_pos (by simp), wpR_bind]
  refine wpR_cg fun o S => ?_
  rw [wpR_bind]
  exact Iff.rfl
theorem ws_cut {s : Cmd} {ss : List Cmd} (M : TEnv → Store → Prop) (h : wpS (exec C s env S) M B) (q : ∀ env S, M env S → wpS (execs C ss env S) N B) : wpS (execs C (s :: ss) env S) N B := by
  rw [ws_cons]
  exact wpS_mono h q fun _ b => b
/-- what else may end a turn -/
def turnB (I : TEnv → Store → Prop) (N : TEnv → Store → Prop) (B : RS → Prop) : RS → Prop
  | .ct env S => I env S
  | .bk env S => N env S
  | x => B x
@[simp ↓, simp] theorem turnB_ct {I : TEnv → Store → Prop} : turnB I N B (.ct env S) ↔ I env S := Iff.rfl
@[simp ↓, simp] theorem turnB_bk {I : TEnv → Store → Prop} : turnB I N B (.bk env S) ↔ N env S := Iff.rfl
@[simp ↓, simp] theorem turnB_rt {I : TEnv → Store → Prop} {a : A} : turnB I N B (.rt a S) ↔ B (.rt a S) := Iff.rfl
@[simp ↓, simp] theorem turnB_exc {I : TEnv → Store → Prop} {k : Nat} {d : PyData} : turnB I N B (.exc k d env S) ↔ B (.exc k d env S) := Iff.rfl
/-- loops: an invariant by the turn -/
theorem ws_loopG {g : List (Nat × Cell)} {f : A → TEnv → Store → RS} {ds : List A} (I : Nat → TEnv → Store → Prop) (h0 : I 0 env S) (hg : ∀ i env S, i ≤ ds.length → I i env S → ∀ p ∈ g, S[p.1]? = some p.2)
    (step : ∀ i d env S, ds[i]? = some d → I i env S → wpS (f d env S) (I (i + 1)) (turnB (I (i + 1)) N B)) (hd : ∀ env S, I ds.length env S → N env S) : wpS (loop g f ds env S) N B := by
  have key : ∀ (k : Nat) (es : List A) (env : TEnv) (S : Store), ds.drop k = es → k ≤ ds.length → I k env S → wpS (loop g f es env S) N B := by
    intro k es
    induction es generalizing k with
    | nil =>
      intro env S e hk hI
      have : ds.length ≤ k := by
        have := congrArg List.length e
        simp at this
        omega
      have ek : k = ds.length := by omega
      rw [loop, if_pos (hg k env S hk hI)]
      subst ek
      exact hd env S hI
    | cons d r ih =>
      intro env S e hk hI
      have hd' : ds[k]? = some d := by
        have := congrArg (·[0]?) e
        simpa using this
      have hr : ds.drop (k + 1) = r := by
        rw [← List.drop_drop, e]
        rfl
      have hlt : k + 1 ≤ ds.length := (List.getElem?_eq_some_iff.mp hd').1
      have st := step k d env S hd' hI
      rw [loop, if_pos (hg k env S hk hI)]
      cases ef : f d env S with
      | nx e1 S1 => rw [ef] at st; exact ih (k + 1) e1 S1 hr hlt st
      | ct e1 S1 => rw [ef] at st; exact ih (k + 1) e1 S1 hr hlt st
      | bk e1 S1 => rw [ef] at st; exact st
      | rt a S1 => rw [ef] at st; exact st
      | exc k d e1 S1 => rw [ef] at st; exact st
      | err => rw [ef] at st; exact st
  exact key 0 ds env S rfl (Nat.zero_le _) h0
theorem ws_loopA {f : A → TEnv → Store → RS} {ds : List A} (I : Nat → TEnv → Store → Prop) (h0 : I 0 env S)
    (step : ∀ i d env S, ds[i]? = some d → I i env S → wpS (f d env S) (I (i + 1)) (turnB (I (i + 1)) N B)) (hd : ∀ env S, I ds.length env S → N env S) : wpS (loop [] f ds env S) N B :=
  ws_loopG I h0 (fun _ _ _ _ _ p hp => nomatch hp) step hd
theorem ws_loop {f : A → TEnv → Store → RS} {ds : List PyData} (I : Nat → TEnv → Store → Prop) (h0 : I 0 env S)
    (step : ∀ i d env S, ds[i]? = some d → I i env S → wpS (f (.val d) env S) (I (i + 1)) (turnB (I (i + 1)) N B)) (hd : ∀ env S, I ds.length env S → N env S) : wpS (loop [] f (ds.map .val) env S) N B := by
  refine ws_loopA I h0 (fun i d env S e h => ?_) fun env S h => hd env S (by simpa using h)
  rw [List.getElem?_map] at e
  obtain ⟨x, e1, rfl⟩ := Option.map_eq_some_iff.mp e
  exact step i x env S e1 h
/-- a while: an invariant by what may still go -/
theorem ws_while {t : TEnv → Store → R A} {f : TEnv → Store → RS} (I : Nat → TEnv → Store → Prop) : ∀ {n : Nat} {env : TEnv} {S : Store}, I n env S → (∀ env S, ¬ I 0 env S) →
    (∀ m env S, I (m + 1) env S → wpR (t env S) (fun x S => isB x fun k => (k = true → wpS (f env S) (I m) (turnB (I m) N B)) ∧ (k = false → N env S)) fun k d S => B (.exc k d env S)) → wpS (wloop t f n env S) N B
  | 0, env, S, h0, hz, _ => (hz env S h0).elim
  | n + 1, env, S, h0, hz, st => by
    have h := st n env S h0
    rw [wloop, wpS_thn]
    refine wpR_mono h (fun x S1 ⟨k, ek, h1, h2⟩ => ?_) fun k d S q => q
    rw [ek]
    cases k with
    | false => exact h2 rfl
    | true =>
      have h1 := h1 rfl
      dsimp only
      cases ef : f env S1 with
      | nx e1 S2 => rw [ef] at h1; exact ws_while I (n := n) h1 hz st
      | ct e1 S2 => rw [ef] at h1; exact ws_while I (n := n) h1 hz st
      | bk e1 S2 => rw [ef] at h1; exact h1
      | rt a S2 => rw [ef] at h1; exact h1
      | exc k d e1 S2 => rw [ef] at h1; exact h1
      | err => rw [ef] at h1; exact h1
/-- comprehensions: an invariant by the turn and what has been gathered -/
theorem wp_collectG {g : List (Nat × Cell)} {f : A → Store → R (Option A)} {ds : List A} {Q : List A → Store → Prop} (I : Nat → List A → Store → Prop) (h0 : I 0 [] S) (hg : ∀ i ys S, i ≤ ds.length → I i ys S → ∀ p ∈ g, S[p.1]? = some p.2)
    (step : ∀ i d ys S, ds[i]? = some d → I i ys S → wpR (f d S) (fun o S => I (i + 1) (ys ++ o.toList) S) E) (hd : ∀ ys S, I ds.length ys S → Q ys S) : wpR (collect g f ds S) Q E := by
  have key : ∀ (es : List A) (k : Nat) (ys : List A) (S : Store), ds.drop k = es → k ≤ ds.length → I k ys S → wpR (collect g f es S) (fun zs S => Q (ys ++ zs) S) E := by
    intro es
    induction es with
    | nil =>
      intro k ys S e hk hI
      have : ds.length ≤ k := by
        have := congrArg List.length e
        simp at this
        omega
      have ek : k = ds.length := by omega
      rw [collect, if_pos (hg k ys S hk hI)]
      subst ek
      show Q (ys ++ []) S
      rw [List.append_nil]
      exact hd ys S hI
    | cons d r ih =>
      intro k ys S e hk hI
      have hd' : ds[k]? = some d := by
        have := congrArg (·[0]?) e
        simpa using this
      have hr : ds.drop (k + 1) = r := by
        rw [← List.drop_drop, e]
        rfl
      have hlt : k + 1 ≤ ds.length := (List.getElem?_eq_some_iff.mp hd').1
      rw [collect, if_pos (hg k ys S hk hI), wpR_bind]
      refine wpR_mono (step k d ys S hd' hI) (fun o S1 h1 => ?_) fun _ _ _ q => q
      rw [wpR_bind]
      refine wpR_mono (ih (k + 1) _ S1 hr hlt h1) (fun zs S2 h2 => ?_) fun _ _ _ q => q
      cases o with
      | none => simpa [wpR] using h2
      | some y => simpa [wpR] using h2
  exact wpR_mono (key ds 0 [] S rfl (Nat.zero_le _) h0) (fun ys S h => h) fun _ _ _ q => q
theorem wp_collectA {f : A → Store → R (Option A)} {ds : List A} {Q : List A → Store → Prop} (I : Nat → List A → Store → Prop) (h0 : I 0 [] S)
    (step : ∀ i d ys S, ds[i]? = some d → I i ys S → wpR (f d S) (fun o S => I (i + 1) (ys ++ o.toList) S) E) (hd : ∀ ys S, I ds.length ys S → Q ys S) : wpR (collect [] f ds S) Q E :=
  wp_collectG I h0 (fun _ _ _ _ _ p hp => nomatch hp) step hd
/-- .. of data -/
theorem wp_collect {f : A → Store → R (Option A)} {ds : List PyData} {Q : List A → Store → Prop} (I : Nat → List PyData → Store → Prop) (h0 : I 0 [] S)
    (step : ∀ i d ys S, ds[i]? = some d → I i ys S → wpR (f (.val d) S) (fun o S => match o with
      | none => I (i + 1) ys S
      | some y => isVal y fun y => I (i + 1) (ys ++ [y]) S) E) (hd : ∀ ys S, I ds.length ys S → Q (ys.map .val) S) : wpR (collect [] f (ds.map .val) S) Q E := by
  refine wp_collectA (fun i zs S => ∃ ys, zs = ys.map .val ∧ I i ys S) ⟨[], rfl, h0⟩ (fun i d zs S e ⟨ys, ez, h⟩ => ?_) fun zs S ⟨ys, ez, h⟩ => by
    subst ez; exact hd ys S (by simpa using h)
  subst ez
  rw [List.getElem?_map] at e
  obtain ⟨x, e1, rfl⟩ := Option.map_eq_some_iff.mp e
  refine wpR_mono (step i x ys S e1 h) (fun o S1 h1 => ?_) fun _ _ _ q => q
  cases o with
  | none => exact ⟨ys, by simp, h1⟩
  | some y =>
    cases y with
    | val y => exact ⟨ys ++ [y], by simp, h1⟩
    | _ => exact h1.elim
end
section
variable {b n : Nat} {ds xs : List PyData} {as : List A} {d : PyData} {a : A} {i : Int}
@[simp] theorem mutC_app : mutC b n .append [.val d] (.lst ds) = if ds.length < sizeLine then some (.lst (ds ++ [d])) else none := rfl
@[simp] theorem mutC_appr : mutC b n .append [a] (.refs as) = if as.length < sizeLine ∧ okIn b n a = true then some (.refs (as ++ [a])) else none := rfl
@[simp] theorem mutC_ext : mutC b n .extend [.val (.list xs)] (.lst ds) = if ds.length + xs.length ≤ sizeLine then some (.lst (ds ++ xs)) else none := rfl
@[simp] theorem mutC_ins : mutC b n .insert [.val (.int i), .val d] (.lst ds) = if ds.length < sizeLine ∧ 0 ≤ i ∧ i < 2 ^ 63 then some (.lst (ds.take i.toNat ++ [d] ++ ds.drop i.toNat)) else none := rfl
@[simp] theorem mutC_insr : mutC b n .insert [.val (.int i), a] (.refs as) = if as.length < sizeLine ∧ 0 ≤ i ∧ i < 2 ^ 63 ∧ okIn b n a = true then some (.refs (as.take i.toNat ++ [a] ++ as.drop i.toNat)) else none := rfl
@[simp] theorem mutC_rem {k : Int} : mutC b n .remove [.val (.int k)] (.lst ds) = (intsD ds).bind fun ns => (placeI k ns).map fun j => .lst ((ns.eraseIdx j).map .int) := rfl
@[simp] theorem putC_lst : putC b n (.int i) (.val d) (.lst ds) = (ixN ds.length i).map fun m => .lst (ds.set m d) := rfl
@[simp] theorem putC_refs : putC b n (.int i) a (.refs as) = if okIn b n a = true then (ixN as.length i).map fun m => .refs (as.set m a) else none := rfl
@[simp] theorem popC_lst : popC none (.lst ds) = ds[ds.length - 1]?.map fun d => (.val d, .lst ds.dropLast) := rfl
@[simp] theorem popC_refs : popC none (.refs as) = as[as.length - 1]?.map fun d => (d, .refs as.dropLast) := rfl
end
section
variable {i j : Int} {x y : Str} {xs ys : List PyData} {S : Store} {d e : PyData}
@[simp] theorem derefs_nil : derefs S [] = some [] := rfl
@[simp] theorem derefs_val {r : List A} : derefs S (.val d :: r) = (derefs S r).map (d :: ·) := rfl
theorem derefs_ref {n : Nat} {r : List A} {d : PyData} (h : (S[n]?).bind Cell.data = some d) : derefs S (.ref n :: r) = (derefs S r).map (d :: ·) := by
  show (match (S[n]?).bind Cell.data with
    | some d => (derefs S r).map (d :: ·)
    | none => none) = _
  rw [h]
@[simp] theorem derefs_own {ds : List PyData} {r : List A} : derefs S (.own (.lst ds) :: r) = (derefs S r).map (.list ds :: ·) := rfl
@[simp] theorem derefs_refl {n : Nat} {r : List A} {ds : List PyData} (h : S[n]? = some (.lst ds)) : derefs S (.ref n :: r) = (derefs S r).map (.list ds :: ·) := derefs_ref (by rw [h]; rfl)
@[simp] theorem getV_0 {a : Option A} {r : TEnv} : getV (a :: r) 0 = a := by cases a <;> rfl
@[simp] theorem getV_s {a : Option A} {r : TEnv} {n : Nat} : getV (a :: r) (n + 1) = getV r n := rfl
@[simp] theorem bindT_1 {n : Nat} {a : A} {env : TEnv} : bindT [n] a env = if a.atom = true then some (env.set n (some a)) else none := rfl
@[simp] theorem bindT_2 {i0 i1 : Nat} {v0 v1 : PyData} {env : TEnv} : bindT [i0, i1] (.val (.tuple [v0, v1])) env = some ((env.set i0 (some (.val v0))).set i1 (some (.val v1))) := rfl
@[simp] theorem bindT_2l {i0 i1 : Nat} {v0 v1 : PyData} {env : TEnv} : bindT [i0, i1] (.val (.list [v0, v1])) env = some ((env.set i0 (some (.val v0))).set i1 (some (.val v1))) := rfl
@[simp] theorem bindT_2t {i0 i1 : Nat} {v0 v1 : A} {env : TEnv} : bindT [i0, i1] (.tup [v0, v1]) env = some ((env.set i0 (some v0)).set i1 (some v1)) := rfl
@[simp] theorem setE_2 {i0 i1 : Nat} {v0 v1 : A} {env : TEnv} : setE env [i0, i1] [v0, v1] = ((env.set i0 (some v0)).set i1 (some v1)) := rfl
@[simp] theorem bindT_3 {i0 i1 i2 : Nat} {v0 v1 v2 : PyData} {env : TEnv} : bindT [i0, i1, i2] (.val (.tuple [v0, v1, v2])) env = some (((env.set i0 (some (.val v0))).set i1 (some (.val v1))).set i2 (some (.val v2))) := rfl
@[simp] theorem bindT_3l {i0 i1 i2 : Nat} {v0 v1 v2 : PyData} {env : TEnv} : bindT [i0, i1, i2] (.val (.list [v0, v1, v2])) env = some (((env.set i0 (some (.val v0))).set i1 (some (.val v1))).set i2 (some (.val v2))) := rfl
@[simp] theorem bindT_3t {i0 i1 i2 : Nat} {v0 v1 v2 : A} {env : TEnv} : bindT [i0, i1, i2] (.tup [v0, v1, v2]) env = some (((env.set i0 (some v0)).set i1 (some v1)).set i2 (some v2)) := rfl
@[simp] theorem setE_3 {i0 i1 i2 : Nat} {v0 v1 v2 : A} {env : TEnv} : setE env [i0, i1, i2] [v0, v1, v2] = (((env.set i0 (some v0)).set i1 (some v1)).set i2 (some v2)) := rfl
@[simp] theorem bindT_4 {i0 i1 i2 i3 : Nat} {v0 v1 v2 v3 : PyData} {env : TEnv} : bindT [i0, i1, i2, i3] (.val (.tuple [v0, v1, v2, v3])) env = some ((((env.set i0 (some (.val v0))).set i1 (some (.val v1))).set i2 (some (.val v2))).set i3 (some (.val v3))) := rfl
@[simp] theorem bindT_4l {i0 i1 i2 i3 : Nat} {v0 v1 v2 v3 : PyData} {env : TEnv} : bindT [i0, i1, i2, i3] (.val (.list [v0, v1, v2, v3])) env = some ((((env.set i0 (some (.val v0))).set i1 (some (.val v1))).set i2 (some (.val v2))).set i3 (some (.val v3))) := rfl
@[simp] theorem bindT_4t {i0 i1 i2 i3 : Nat} {v0 v1 v2 v3 : A} {env : TEnv} : bindT [i0, i1, i2, i3] (.tup [v0, v1, v2, v3]) env = some ((((env.set i0 (some v0)).set i1 (some v1)).set i2 (some v2)).set i3 (some v3)) := rfl
@[simp] theorem setE_4 {i0 i1 i2 i3 : Nat} {v0 v1 v2 v3 : A} {env : TEnv} : setE env [i0, i1, i2, i3] [v0, v1, v2, v3] = ((((env.set i0 (some v0)).set i1 (some v1)).set i2 (some v2)).set i3 (some v3)) := rfl
@[simp] theorem bindT_5 {i0 i1 i2 i3 i4 : Nat} {v0 v1 v2 v3 v4 : PyData} {env : TEnv} : bindT [i0, i1, i2, i3, i4] (.val (.tuple [v0, v1, v2, v3, v4])) env = some (((((env.set i0 (some (.val v0))).set i1 (some (.val v1))).set i2 (some (.val v2))).set i3 (some (.val v3))).set i4 (some (.val v4))) := rfl
@[simp] theorem bindT_5l {i0 i1 i2 i3 i4 : Nat} {v0 v1 v2 v3 v4 : PyData} {env : TEnv} : bindT [i0, i1, i2, i3, i4] (.val (.list [v0, v1, v2, v3, v4])) env = some (((((env.set i0 (some (.val v0))).set i1 (some (.val v1))).set i2 (some (.val v2))).set i3 (some (.val v3))).set i4 (some (.val v4))) := rfl
@[simp] theorem bindT_5t {i0 i1 i2 i3 i4 : Nat} {v0 v1 v2 v3 v4 : A} {env : TEnv} : bindT [i0, i1, i2, i3, i4] (.tup [v0, v1, v2, v3, v4]) env = some (((((env.set i0 (some v0)).set i1 (some v1)).set i2 (some v2)).set i3 (some v3)).set i4 (some v4)) := rfl
@[simp] theorem setE_5 {i0 i1 i2 i3 i4 : Nat} {v0 v1 v2 v3 v4 : A} {env : TEnv} : setE env [i0, i1, i2, i3, i4] [v0, v1, v2, v3, v4] = (((((env.set i0 (some v0)).set i1 (some v1)).set i2 (some v2)).set i3 (some v3)).set i4 (some v4)) := rfl
@[simp] theorem bindT_6 {i0 i1 i2 i3 i4 i5 : Nat} {v0 v1 v2 v3 v4 v5 : PyData} {env : TEnv} : bindT [i0, i1, i2, i3, i4, i5] (.val (.tuple [v0, v1, v2, v3, v4, v5])) env = some ((((((env.set i0 (some (.val v0))).set i1 (some (.val v1))).set i2 (some (.val v2))).set i3 (some (.val v3))).set i4 (some (.val v4))).set i5 (some (.val v5))) := rfl
@[simp] theorem bindT_6l {i0 i1 i2 i3 i4 i5 : Nat} {v0 v1 v2 v3 v4 v5 : PyData} {env : TEnv} : bindT [i0, i1, i2, i3, i4, i5] (.val (.list [v0, v1, v2, v3, v4, v5])) env = some ((((((env.set i0 (some (.val v0))).set i1 (some (.val v1))).set i2 (some (.val v2))).set i3 (some (.val v3))).set i4 (some (.val v4))).set i5 (some (.val v5))) := rfl
@[simp] theorem bindT_6t {i0 i1 i2 i3 i4 i5 : Nat} {v0 v1 v2 v3 v4 v5 : A} {env : TEnv} : bindT [i0, i1, i2, i3, i4, i5] (.tup [v0, v1, v2, v3, v4, v5]) env = some ((((((env.set i0 (some v0)).set i1 (some v1)).set i2 (some v2)).set i3 (some v3)).set i4 (some v4)).set i5 (some v5)) := rfl
@[simp] theorem setE_6 {i0 i1 i2 i3 i4 i5 : Nat} {v0 v1 v2 v3 v4 v5 : A} {env : TEnv} : setE env [i0, i1, i2, i3, i4, i5] [v0, v1, v2, v3, v4, v5] = ((((((env.set i0 (some v0)).set i1 (some v1)).set i2 (some v2)).set i3 (some v3)).set i4 (some v4)).set i5 (some v5)) := rfl
@[simp] theorem binD_addI : binD .add (.int i) (.int j) = some (.int (i + j)) := rfl
@[simp] theorem binD_addS : binD .add (.str x) (.str y) = if x.length + y.length ≤ sizeLine then some (.str (x ++ y)) else none := rfl
@[simp] theorem binD_addL : binD .add (.list xs) (.list ys) = if xs.length + ys.length ≤ sizeLine then some (.list (xs ++ ys)) else none := rfl
@[simp] theorem binD_addT : binD .add (.tuple xs) (.tuple ys) = if xs.length + ys.length ≤ sizeLine then some (.tuple (xs ++ ys)) else none := rfl
@[simp] theorem binD_sub : binD .sub (.int i) (.int j) = some (.int (i - j)) := rfl
@[simp] theorem binD_mul : binD .mul (.int i) (.int j) = if (-(2 ^ 64) < i ∧ i < 2 ^ 64) ∨ (-(2 ^ 64) < j ∧ j < 2 ^ 64) then some (.int (i * j)) else none := rfl
@[simp] theorem binD_fdiv : binD .fdiv (.int i) (.int j) = if j ≠ 0 ∧ j.natAbs < 1073741824 then some (.int (i.fdiv j)) else none := rfl
@[simp] theorem binD_mod : binD .mod (.int i) (.int j) = if j ≠ 0 then some (.int (i.fmod j)) else none := rfl
@[simp] theorem binD_pow : binD .pow (.int i) (.int j) = if 0 ≤ j ∧ j ≤ 1000000 ∧ i.natAbs < 2 ^ 64 then some (.int (i ^ j.toNat)) else none := rfl
@[simp] theorem augD_addI : augD .add (.int i) (.int j) = some (.int (i + j)) := rfl
@[simp] theorem augD_addS : augD .add (.str x) (.str y) = if x.length + y.length ≤ sizeLine then some (.str (x ++ y)) else none := rfl
@[simp] theorem augD_sub : augD .sub (.int i) (.int j) = some (.int (i - j)) := rfl
@[simp] theorem cmpD_eqS : cmpD .eq (.str x) (.str y) = some (decide (x = y)) := rfl
@[simp] theorem cmpD_neS : cmpD .ne (.str x) (.str y) = some (!decide (x = y)) := rfl
theorem cmpD_same (h : SeqAt.shaped d = true) : cmpD .eq d d = some true := by
  by_cases hs : ∃ s t, d = .str s ∧ d = .str t
  · obtain ⟨s, t, rfl, e⟩ := hs
    exact congrArg some (decide_eq_true rfl)
  · rw [cmpD_gen hs, if_pos ⟨h, h⟩, PySem.SeqAt.eqv_refl d (SeqAt.canLay_of_shaped h)]
theorem cmpD_same' (h : SeqAt.shaped d = true) : cmpD .ne d d = some false := by
  by_cases hs : ∃ s t, d = .str s ∧ d = .str t
  · obtain ⟨s, t, rfl, e⟩ := hs
    show some (!decide (s = s)) = _
    rw [decide_eq_true rfl]
    rfl
  · rw [cmpD_gen' hs, if_pos ⟨h, h⟩, PySem.SeqAt.eqv_refl d (SeqAt.canLay_of_shaped h)]
    rfl
theorem eqv_int : PyData.eqv (.int i) (.int j) = decide (i = j) := by
  rw [PyData.eqv]
  exact Bool.eq_iff_iff.mpr (by simp)
@[simp] theorem cmpD_eqI : cmpD .eq (.int i) (.int j) = some (decide (i = j)) := by
  rw [cmpD_gen (by rintro ⟨_, _, h, _⟩; cases h), if_pos ⟨by rfl, by rfl⟩, eqv_int]
@[simp] theorem cmpD_neI : cmpD .ne (.int i) (.int j) = some (!decide (i = j)) := by
  rw [cmpD_gen' (by rintro ⟨_, _, h, _⟩; cases h), if_pos ⟨by rfl, by rfl⟩, eqv_int]
theorem cut_from {a : Int} (h : 0 ≤ a) : cutD xs (some a) none = xs.drop a.toNat := by
  obtain ⟨n, rfl⟩ := Int.eq_ofNat_of_zero_le h
  unfold cutD
  rw [HT.sIx_nat, HT.sIx_none]
  simp only [Int.toNat_natCast]
  by_cases hn : n ≤ xs.length
  · rw [Nat.min_eq_left hn, List.take_of_length_le (by simp)]
  · rw [Nat.min_eq_right (by omega), List.drop_length, List.drop_of_length_le (by omega)]
    simp
theorem cut_to {a : Int} (h : 0 ≤ a) : cutD xs none (some a) = xs.take a.toNat := by
  obtain ⟨n, rfl⟩ := Int.eq_ofNat_of_zero_le h
  unfold cutD
  rw [HT.sIx_nat, HT.sIx_none]
  simp only [Int.toNat_natCast, List.drop_zero, Nat.sub_zero]
  by_cases hn : n ≤ xs.length
  · rw [Nat.min_eq_left hn]
  · rw [Nat.min_eq_right (by omega), List.take_of_length_le (Nat.le_refl _), List.take_of_length_le (by omega)]
theorem cut_mem {lo hi : Option Int} {z : PyData} (h : z ∈ cutD xs lo hi) : z ∈ xs := List.mem_of_mem_drop (List.mem_of_mem_take h)
theorem cut_len {lo hi : Option Int} : (cutD xs lo hi).length ≤ xs.length := by
  unfold cutD
  rw [List.length_take, List.length_drop]
  omega
theorem inD_str {x : Str} {Q : Bool → Prop} (h : ys.all flatD = true) (q : ∀ b, Q b) : isO (inD (.str x) ys) Q := ⟨ys.any fun y => PyData.eqv y (.str x), if_pos ⟨rfl, h⟩, q _⟩
@[simp] theorem cmpD_lt : cmpD .lt (.int i) (.int j) = some (decide (i < j)) := rfl
@[simp] theorem cmpD_le : cmpD .le (.int i) (.int j) = some (decide (i ≤ j)) := rfl
@[simp] theorem cmpD_gt : cmpD .gt (.int i) (.int j) = some (decide (j < i)) := rfl
@[simp] theorem cmpD_ge : cmpD .ge (.int i) (.int j) = some (decide (j ≤ i)) := rfl
@[simp] theorem cmpD_inL : cmpD .inn d (.list ys) = inD d ys := rfl
@[simp] theorem cmpD_inT : cmpD .inn d (.tuple ys) = inD d ys := rfl
@[simp] theorem cmpD_ninL : cmpD .nin d (.list ys) = (inD d ys).map (!·) := rfl
@[simp] theorem cmpD_ninT : cmpD .nin d (.tuple ys) = (inD d ys).map (!·) := rfl
@[simp] theorem idxD_list : idxD (.list xs) (.int i) = atI xs i := rfl
@[simp] theorem idxD_tup : idxD (.tuple xs) (.int i) = atI xs i := rfl
@[simp] theorem idxD_str : idxD (.str x) (.int i) = if x.length ≤ sizeLine then (atI x.cps.toList i).map fun c => .str ⟨#[c]⟩ else none := rfl
@[simp] theorem atI_nn {α : Type} {l : List α} (h : 0 ≤ i) : atI l i = l[i.toNat]? := by
  unfold atI ixN
  rw [if_pos h]
  split
  · rfl
  · rename_i h'
    rw [List.getElem?_eq_none (by omega)]
    rfl
@[simp] theorem atI_nat {α : Type} {l : List α} {n : Nat} : atI l (n : Int) = l[n]? := by rw [atI_nn (Int.natCast_nonneg n)]; rfl
@[simp] theorem ixN_nn {n : Nat} (h : 0 ≤ i) (h' : i < n) : ixN n i = some i.toNat := by
  unfold ixN
  rw [if_pos h, if_pos h']
@[simp] theorem sliceD_list {lo hi : Option Int} : sliceD (.list xs) lo hi = some (.list (cutD xs lo hi)) := rfl
@[simp] theorem sliceD_tup {lo hi : Option Int} : sliceD (.tuple xs) lo hi = some (.tuple (cutD xs lo hi)) := rfl
@[simp] theorem sliceD_str {lo hi : Option Int} : sliceD (.str x) lo hi = if x.length ≤ sizeLine then some (.str (cutS x lo hi)) else none := rfl
@[simp] theorem blt_abs : bltD .abs [.int i] = some (.int (if i < 0 then -i else i)) := rfl
@[simp] theorem blt_int : bltD .int [.int i] = some (.int i) := rfl
@[simp] theorem blt_max : bltD .max2 [.int i, .int j] = some (.int (if j > i then j else i)) := rfl
@[simp] theorem blt_min : bltD .min2 [.int i, .int j] = some (.int (if j < i then j else i)) := rfl
@[simp] theorem blt_tupL : bltD .tuple [.list xs] = some (.tuple xs) := rfl
@[simp] theorem blt_tupT : bltD .tuple [.tuple xs] = some (.tuple xs) := rfl
@[simp] theorem blt_lstL : bltD .list [.list xs] = some (.list xs) := rfl
@[simp] theorem blt_lstT : bltD .list [.tuple xs] = some (.list xs) := rfl
@[simp] theorem blt_inst {t : String} : bltD (.isInst t) [d] = some (.bool (isKind t d)) := rfl
@[simp] theorem isKind_str : isKind "str" (.str x) = true := by rfl
@[simp] theorem isKind_bool {b : Bool} : isKind "bool" (.bool b) = true := by rfl
@[simp] theorem cmpD_neB {b : Bool} : cmpD .ne (.bool b) (.bool b) = some false := by cases b <;> rfl
@[simp] theorem cmpD_eqB {b : Bool} : cmpD .eq (.bool b) (.bool b) = some true := by cases b <;> rfl
@[simp] theorem sl_eq : sizeLine = 16777216 := sizeLine_eq
@[simp] theorem rangeD_length {n : Nat} : (rangeD i n).length = n := rangeD_len i n
@[simp] theorem rep0 {α : Type} {a : α} : List.replicate 0 a = [] := rfl
end
end Tr


namespace Tr
open PySem L2
open PySem.Spec PyProof.Rows
theorem atI_of {α : Type} {xs : List α} {i : Int} {x : α} (h0 : 0 ≤ i) (e : xs[i.toNat]? = some x) : atI xs i = some x := by
  unfold atI ixN
  have := (List.getElem?_eq_some_iff.mp e).1
  rw [if_pos h0, if_pos (by omega)]
  exact e
theorem ixN_of {n : Nat} {i : Int} (h0 : 0 ≤ i) (h : i < n) : ixN n i = some i.toNat := by
  unfold ixN
  rw [if_pos h0, if_pos h]
theorem isO_at {α : Type} {l : List α} {n : Nat} {Q : α → Prop} (h : n < l.length) (q : ∀ x, x ∈ l → l[n]? = some x → Q x) : isO l[n]? Q :=
  ⟨l[n], List.getElem?_eq_getElem h, q _ (List.getElem_mem h) (List.getElem?_eq_getElem h)⟩
theorem isO_atA {α : Type} {l : Array α} {n : Nat} {Q : α → Prop} (h : n < l.size) (q : ∀ x, l[n]? = some x → Q x) : isO l[n]? Q :=
  ⟨l[n], Array.getElem?_eq_getElem h, q _ (Array.getElem?_eq_getElem h)⟩
def F4_law_pool : Fn := ⟨1, 4, false, true, [
    .set 1 (.comp [3] (.seq (.slice (.var 0) none (some (.const (.int 63))))) none (.blt .abs [(.blt .int [(.var 3)])])),
    .set 2 (.const (.int 0)),
    .fors [3] (.seq (.var 1)) [.set 2 (.bin .mod (.blt .int [(.bin .add (.bin .mul (.var 2) (.const (.int 31))) (.var 3))]) (.const (.int 1000003)))],
    .ret (.lst [(.var 1), (.const (.int 0)), (.const (.int 0)), (.const (.int 0)), (.var 2)])]⟩
def F5_law_take : Fn := ⟨2, 6, false, false, [
    .ifs (.cmp .le (.var 1) (.const (.int 1))) [.ret (.const (.int 0))] [],
    .ifs (.cmp .gt (.idx (.var 0) (.const (.int 2))) (.const (.int 0))) [.set 3 (.bin .mod (.blt .int [(.idx (.var 0) (.const (.int 2)))]) (.var 1)), .put (.var 0) (.const (.int 2)) (.bin .fdiv (.idx (.var 0) (.const (.int 2))) (.var 1)), .ret (.var 3)] [],
    .augPut (.var 0) (.const (.int 3)) .add (.const (.int 1)),
    .ifs (.cmp .lt (.idx (.var 0) (.const (.int 1))) (.len (.idx (.var 0) (.const (.int 0))))) [.set 4 (.idx (.idx (.var 0) (.const (.int 0))) (.idx (.var 0) (.const (.int 1)))), .augPut (.var 0) (.const (.int 1)) .add (.const (.int 1)), .ifs (.cmp .ge (.var 4) (.bin .pow (.const (.int 10)) (.const (.int 18)))) [.put (.var 0) (.const (.int 2)) (.bin .fdiv (.var 4) (.var 1)), .ret (.bin .mod (.blt .int [(.var 4)]) (.var 1))] [], .set 5 (.bin .add (.bin .add (.bin .mul (.var 4) (.const (.int 48271))) (.bin .mul (.idx (.var 0) (.const (.int 3))) (.const (.int 69621)))) (.const (.int 7)))] [.set 5 (.bin .add (.bin .add (.bin .add (.bin .mul (.idx (.var 0) (.const (.int 4))) (.const (.int 40692))) (.bin .mul (.bin .mul (.idx (.var 0) (.const (.int 3))) (.idx (.var 0) (.const (.int 3)))) (.const (.int 7919)))) (.bin .mul (.idx (.var 0) (.const (.int 3))) (.const (.int 104729)))) (.const (.int 11)))],
    .set 2 (.bin .mod (.blt .int [(.var 5)]) (.const (.int 2147483647))),
    .ret (.bin .mod (.blt .int [(.bin .fdiv (.bin .mod (.blt .int [(.bin .add (.bin .mul (.var 2) (.var 2)) (.var 5))]) (.const (.int 2147483629))) (.const (.int 7)))]) (.var 1))]⟩
/-- a pool of numbers, good for K more draws -/
def PoolOk (K : Nat) (p : List PyData) : Prop := ∃ (cells : List Int) (b a c t : Int), p = [.list (cells.map .int), .int b, .int a, .int c, .int t] ∧ 0 ≤ b ∧ 0 ≤ c ∧ c + K ≤ 2 ^ 62 ∧ cells.length ≤ 63
theorem PoolOk.mono {K K' : Nat} {p : List PyData} (h : PoolOk K p) (hk : K' ≤ K) : PoolOk K' p := by
  obtain ⟨cells, b, a, c, t, rfl, hb, hc, hK, hl⟩ := h
  exact ⟨cells, b, a, c, t, rfl, hb, hc, by omega, hl⟩
theorem take_wp {P : Prg} (h5 : P 5 = some F5_law_take) {d b0 K : Nat} {T : Store} {p : List PyData} {many : Int} {Q : A → Store → Prop} {E : XQ} (ok : PoolOk (K + 1) p) (hm : many < 2 ^ 30)
    (q : ∀ r p', PoolOk K p' → 0 ≤ r → (r < many ∨ r = 0) → Q (.val (.int r)) (.lst p' :: T)) : wpR (callP P (d + 1) b0 5 [.ref 0, .val (.int many)] (.lst p :: T)) Q E := by
  obtain ⟨cells, b, a, c, t, rfl, hb, hc, hK, hl⟩ := ok
  refine wp_callF h5 rfl ⟨rfl, by decide, rfl⟩ ?_
  have hm0 : ∀ x : Int, 1 < many → 0 ≤ x.fmod many ∧ x.fmod many < many := fun x h => ⟨Int.fmod_nonneg_of_pos _ (by omega), Int.fmod_lt_of_pos _ (by omega)⟩
  have hf : ∀ x : Int, 0 ≤ x.fmod 2147483647 ∧ x.fmod 2147483647 < 2147483647 := fun x => ⟨Int.fmod_nonneg_of_pos _ (by omega), Int.fmod_lt_of_pos _ (by omega)⟩
  simp [F5_law_take, hb, List.replicate]
  refine ⟨fun h => q _ _ ⟨cells, b, a, c, t, rfl, hb, hc, by omega, hl⟩ (by omega) (by omega), fun h => ⟨fun ha => ?_, fun ha => ⟨fun hbl => ?_, fun hbl => ?_⟩⟩⟩
  · exact ⟨by omega, ⟨by omega, by omega⟩, q _ _ ⟨cells, b, _, c, t, rfl, hb, hc, by omega, hl⟩ (hm0 _ h).1 (.inl (hm0 _ h).2)⟩
  · refine isO_at (by omega) fun x _ _ => ⟨fun _ => ⟨⟨by omega, by omega⟩, by omega, q _ _ ⟨cells, _, _, _, t, rfl, by omega, by omega, by omega, hl⟩ (hm0 _ h).1 (.inl (hm0 _ h).2)⟩, fun _ => ⟨⟨?_, ?_⟩, by omega, q _ _ ⟨cells, _, _, _, t, rfl, by omega, by omega, by omega, hl⟩ (hm0 _ h).1 (.inl (hm0 _ h).2)⟩⟩
    · exact Int.lt_of_lt_of_le (by decide) (hf _).1
    · exact Int.lt_trans (hf _).2 (by decide)
  · refine ⟨⟨by omega, by omega⟩, ⟨?_, ?_⟩, by omega, q _ _ ⟨cells, _, _, _, t, rfl, by omega, by omega, by omega, hl⟩ (hm0 _ h).1 (.inl (hm0 _ h).2)⟩
    · exact Int.lt_of_lt_of_le (by decide) (hf _).1
    · exact Int.lt_trans (hf _).2 (by decide)
theorem pool_wp {P : Prg} (h4 : P 4 = some F4_law_pool) {d b0 : Nat} {S : Store} {ns : List Int} {Q : A → Store → Prop} {E : XQ} (q : ∀ p, PoolOk (2 ^ 61) p → Q (.val (.list p)) S) : wpR (callP P (d + 1) b0 4 [.val (.list (ns.map .int))] S) Q E := by
  refine wp_callF h4 rfl ⟨rfl, by decide, rfl⟩ ?_
  obtain ⟨xs, c, hl0, hx⟩ : ∃ xs, cutD (ns.map PyData.int) none (some 63) = xs ∧ xs.length ≤ 63 ∧ ∀ i x, xs[i]? = some x → ∃ n : Int, x = PyData.int n := by
    refine ⟨_, rfl, ?_, fun i x hx => ?_⟩
    · rw [cut_to (by omega), List.length_take]; exact Nat.min_le_left _ _
    · obtain ⟨n, _, rfl⟩ := List.mem_map.mp (cut_mem (List.mem_of_getElem? hx)); exact ⟨n, rfl⟩
  simp [F4_law_pool, List.replicate, c]
  refine ⟨by omega, ?_⟩
  refine wp_collect (fun i ys S' => S' = S ∧ ∃ cs : List Int, ys = cs.map .int ∧ cs.length = i) ⟨rfl, [], rfl, rfl⟩ ?_ ?_
  · rintro i e ys S' he ⟨rfl, cs, rfl, hl⟩
    obtain ⟨n, rfl⟩ := hx i e he
    simp [wp_compF]
    exact ⟨cs ++ [if n < 0 then -n else n], by simp, by simp [hl]⟩
  · rintro ys S' ⟨rfl, cs, hc, hl⟩
    simp
    refine ws_loop (fun i env S'' => S'' = S' ∧ ∃ t o, env = [some (.val (.list (ns.map .int))), some (.val (.list ys)), some (.val (.int t)), o]) ⟨rfl, _, _, rfl⟩ ?_ ?_
    · rintro i e env S'' he ⟨rfl, t, o, rfl⟩
      rw [hc, List.getElem?_map] at he
      obtain ⟨n, _, rfl⟩ := Option.map_eq_some_iff.mp he
      simp [ws_forF]
    · rintro env S'' ⟨rfl, t, o, rfl⟩
      simp
      exact q _ ⟨cs, 0, 0, 0, t, by rw [hc], by omega, by omega, by decide, by omega⟩
def F6_law_pick : Fn := ⟨2, 2, false, false, [
    .ret (.idx (.var 1) (.call 5 [(.var 0), (.len (.var 1))]))]⟩
theorem pick_wp {P : Prg} (h5 : P 5 = some F5_law_take) (h6 : P 6 = some F6_law_pick) {d b0 K : Nat} {T : Store} {p : List PyData} {menu : List PyData} {Q : A → Store → Prop} {E : XQ} (ok : PoolOk (K + 1) p) (hn : menu ≠ []) (hm : menu.length < 2 ^ 30)
    (q : ∀ x p', PoolOk K p' → x ∈ menu → Q (.val x) (.lst p' :: T)) : wpR (callP P (d + 2) b0 6 [.ref 0, .val (.list menu)] (.lst p :: T)) Q E := by
  refine wp_callF h6 rfl ⟨rfl, by decide, rfl⟩ ?_
  simp [F6_law_pick, List.replicate]
  refine take_wp h5 ok (by omega) fun r p' ok' h0 h1 => ?_
  have hl : 0 < menu.length := List.length_pos_iff.mpr hn
  simp [h0]
  exact isO_at (by omega) fun x hx _ => q _ _ ok' hx
def F7_law_name : Fn := ⟨1, 4, false, false, [
    .set 1 (.const (.str "abcdefghijklmnopqrstuvwxyz0123456789")),
    .set 2 (.idx (.var 1) (.call 5 [(.var 0), (.const (.int 26))])),
    .fors [3] (.range [(.call 5 [(.var 0), (.const (.int 12))])]) [.aug 2 .add (.idx (.var 1) (.call 5 [(.var 0), (.const (.int 36))]))],
    .ret (.var 2)]⟩
theorem name_wp {P : Prg} (h5 : P 5 = some F5_law_take) (h7 : P 7 = some F7_law_name) {d b0 K : Nat} {T : Store} {p : List PyData} {Q : A → Store → Prop} {E : XQ} (ok : PoolOk (K + 20) p)
    (q : ∀ x p', PoolOk K p' → x.length ≤ 12 → Q (.val (.str x)) (.lst p' :: T)) : wpR (callP P (d + 2) b0 7 [.ref 0] (.lst p :: T)) Q E := by
  refine wp_callF h7 rfl ⟨rfl, by decide, rfl⟩ ?_
  have hz : (Str.ofString "abcdefghijklmnopqrstuvwxyz0123456789").length ≤ 16777216 := by decide
  have hs : (Str.ofString "abcdefghijklmnopqrstuvwxyz0123456789").cps.size = 36 := by decide
  simp [F7_law_name, List.replicate]
  refine take_wp h5 ok (by omega) fun r p1 ok1 h0 h1 => ?_
  simp [h0, hz]
  refine isO_atA (by omega) fun c _ => ?_
  refine take_wp h5 ok1 (by omega) fun j p2 ok2 j0 j1 => ?_
  simp
  refine ⟨⟨by omega, by omega⟩, ?_⟩
  refine ws_loop (fun i env S => ∃ x o p', env = [some (.ref 0), some (.val (.str (Str.ofString "abcdefghijklmnopqrstuvwxyz0123456789"))), some (.val (.str x)), o] ∧ S = .lst p' :: T ∧ PoolOk (K + (18 - i)) p' ∧ x.length ≤ i + 1) ⟨_, _, _, rfl, rfl, ok2, Nat.le_refl 1⟩ ?_ ?_
  · rintro i e env S he ⟨x, o, p', rfl, rfl, ok', hx⟩
    have hi : i < j.toNat := by have := (List.getElem?_eq_some_iff.mp he).1; rw [rangeD_len] at this; exact this
    simp [ws_forF]
    refine take_wp (K := K + (18 - (i + 1))) h5 (ok'.mono (by omega)) (by omega) fun r p3 ok3 h0 h1 => ?_
    simp [h0, hz]
    refine isO_atA (by omega) fun c _ => ?_
    have e1 : (⟨#[c]⟩ : Str).length = 1 := rfl
    simp [e1]
    refine ⟨by omega, ok3.mono (by omega), ?_⟩
    rw [strLen_append, e1]
    omega
  · rintro env S ⟨x, o, p', rfl, rfl, ok', hx⟩
    rw [rangeD_len] at ok' hx
    simp
    exact q _ _ (ok'.mono (by omega)) (by omega)
def F8_law_puts : Fn := ⟨0, 2, false, false, [
    .set 0 (.lst []),
    .fors [1] (.seq (.tup [(.const (.str "plain")), (.const (.str "with always")), (.const (.str "with done")), (.const (.str "with looked")), (.const (.str "ahead")), (.const (.str "behind"))])) [.set 0 (.bin .add (.var 0) (.lst [(.var 1), (.bin .add (.var 1) (.const (.str " again")))]))],
    .ret (.var 0)]⟩
def F9_law_menus : Fn := ⟨0, 1, false, true, [
    .set 0 (.lst [(.const (.str "plain")), (.const (.str "with always")), (.const (.str "with undone")), (.const (.str "with unlooked")), (.const (.str "ahead"))]),
    .ret (.lst [(.lst [(.const (.str "bare")), (.const (.str "due")), (.const (.str "done"))]), (.lst [(.const (.str "plain")), (.const (.str "shade"))]), (.call 8 []), (.var 0), (.lst [(.const (.str "plain")), (.const (.str "kept"))])])]⟩
def strsL (l : List String) : List PyData := l.map fun x => .str (Str.ofString x)
def PUTS : List PyData := strsL ["plain", "plain again", "with always", "with always again", "with done", "with done again", "with looked", "with looked again", "ahead", "ahead again", "behind", "behind again"]
def MENUS : List PyData := [.list (strsL ["bare", "due", "done"]), .list (strsL ["plain", "shade"]), .list PUTS, .list (strsL ["plain", "with always", "with undone", "with unlooked", "ahead"]), .list (strsL ["plain", "kept"])]
theorem puts_wp {P : Prg} (h8 : P 8 = some F8_law_puts) {d b0 : Nat} {S : Store} {Q : A → Store → Prop} {E : XQ} (q : Q (.val (.list PUTS)) S) : wpR (callP P (d + 1) b0 8 [] S) Q E := by
  refine wp_callF h8 rfl ⟨rfl, by decide, rfl⟩ ?_
  simp [F8_law_puts, List.replicate, ws_loop1, ws_loop0, ws_forF]
  repeat (refine ⟨by decide, ?_⟩)
  have e : [PyData.str (Str.ofString "plain"), .str (Str.ofString "plain" ++ Str.ofString " again"), .str (Str.ofString "with always"), .str (Str.ofString "with always" ++ Str.ofString " again"),
    .str (Str.ofString "with done"), .str (Str.ofString "with done" ++ Str.ofString " again"), .str (Str.ofString "with looked"), .str (Str.ofString "with looked" ++ Str.ofString " again"),
    .str (Str.ofString "ahead"), .str (Str.ofString "ahead" ++ Str.ofString " again"), .str (Str.ofString "behind"), .str (Str.ofString "behind" ++ Str.ofString " again")] = PUTS := by rfl
  rw [e]
  exact q
theorem menus_wp {P : Prg} (h8 : P 8 = some F8_law_puts) (h9 : P 9 = some F9_law_menus) {d b0 : Nat} {S : Store} {Q : A → Store → Prop} {E : XQ} (q : Q (.val (.list MENUS)) S) : wpR (callP P (d + 2) b0 9 [] S) Q E := by
  refine wp_callF h9 rfl ⟨rfl, by decide, rfl⟩ ?_
  simp [F9_law_menus, List.replicate]
  repeat (refine ⟨by decide, ?_⟩)
  refine puts_wp h8 ?_
  simp
  repeat (refine ⟨by decide, ?_⟩)
  exact q
def F10_law_some : Fn := ⟨2, 5, false, true, [
    .setT [2, 3] (.tup [(.call 5 [(.var 0), (.len (.var 1))]), (.bin .add (.const (.int 2)) (.call 5 [(.var 0), (.const (.int 5))]))]),
    .ret (.blt .tuple [(.comp [4] (.range [(.len (.var 1))]) (some (.ors [(.cmp .eq (.var 4) (.var 2)), (.cmp .eq (.call 5 [(.var 0), (.var 3)]) (.const (.int 0)))])) (.idx (.var 1) (.var 4)))])]⟩
/-- some items of a menu -/
theorem some_wp {P : Prg} (h5 : P 5 = some F5_law_take) (h10 : P 10 = some F10_law_some) {d b0 K : Nat} {T : Store} {p : List PyData} {menu : List PyData} {Q : A → Store → Prop} {E : XQ} (ok : PoolOk (K + 102) p) (hm : menu.length ≤ 100)
    (q : ∀ ys p', PoolOk K p' → (∀ y ∈ ys, y ∈ menu) → ys.length ≤ menu.length → Q (.val (.tuple ys)) (.lst p' :: T)) : wpR (callP P (d + 2) b0 10 [.ref 0, .val (.list menu)] (.lst p :: T)) Q E := by
  refine wp_callF h10 rfl ⟨rfl, by decide, rfl⟩ ?_
  simp [F10_law_some, List.replicate]
  refine take_wp h5 ok (by omega) fun r p1 ok1 h0 h1 => ?_
  simp
  refine take_wp h5 ok1 (by omega) fun j p2 ok2 j0 j1 => ?_
  simp
  refine ⟨by omega, by omega, ?_⟩
  refine wp_collect (fun i ys S => ∃ p', S = .lst p' :: T ∧ PoolOk (K + (100 - i)) p' ∧ (∀ y ∈ ys, y ∈ menu) ∧ ys.length ≤ i) ⟨_, rfl, ok2, by simp, by simp⟩ ?_ ?_
  · rintro i e ys S he ⟨p', rfl, ok', hy, hl⟩
    have hi : i < menu.length := by have := (List.getElem?_eq_some_iff.mp he).1; rw [rangeD_len] at this; exact this
    rw [rangeD_at _ _ _ hi] at he
    cases he
    simp [wp_compF]
    refine ⟨fun _ => ?_, fun _ => ?_⟩
    · exact isO_at hi fun x hx _ => ⟨ok'.mono (by omega), fun y hy' => hy'.elim (hy y) fun z => z ▸ hx, hl⟩
    · refine take_wp (K := K + (99 - i)) h5 (ok'.mono (by omega)) (by omega) fun r p3 ok3 h0 h1 => ?_
      simp
      refine ⟨fun _ => ?_, fun _ => ⟨ok3, hy, by omega⟩⟩
      exact isO_at hi fun x hx _ => ⟨ok3, fun y hy' => hy'.elim (hy y) fun z => z ▸ hx, hl⟩
  · rintro ys S ⟨p', rfl, ok', hy, hl⟩
    simp
    exact q _ _ (ok'.mono (by omega)) hy (by simpa using hl)
def F13_law_effects : Fn := ⟨2, 4, false, true, [
    .set 2 (.bin .add (.lst [(.const (.str "turn")), (.const (.str "wake")), (.const (.str "clear"))]) (.ife (.cmp .inn (.var 1) (.tup [(.const (.str "meet")), (.const (.str "stop"))])) (.lst [(.const (.str "hands"))]) (.lst []))),
    .ret (.blt .tuple [(.comp [3] (.seq (.var 2)) (some (.cmp .eq (.call 5 [(.var 0), (.const (.int 3))]) (.const (.int 0)))) (.var 3))])]⟩
def EFFS : List PyData := strsL ["turn", "wake", "clear", "hands"]
theorem effects_wp {P : Prg} (h5 : P 5 = some F5_law_take) (h13 : P 13 = some F13_law_effects) {d b0 K : Nat} {T : Store} {p : List PyData} {gate : Str} {Q : A → Store → Prop} {E : XQ} (ok : PoolOk (K + 102) p)
    (q : ∀ ys p', PoolOk K p' → (∀ y ∈ ys, y ∈ EFFS) → ys.length ≤ 4 → Q (.val (.tuple ys)) (.lst p' :: T)) : wpR (callP P (d + 2) b0 13 [.ref 0, .val (.str gate)] (.lst p :: T)) Q E := by
  refine wp_callF h13 rfl ⟨rfl, by decide, rfl⟩ ?_
  simp [F13_law_effects, List.replicate]
  refine inD_str (by decide) fun b => ?_
  have go : ∀ ws : List PyData, ws.length ≤ 4 → (∀ y ∈ ws, y ∈ EFFS) → wpR (collect [] (compF ⟨callP P (d + 1) (T.length + 1), T.length + 1⟩ [3] (some (.cmp .eq (.call 5 [.var 0, .const (.int 3)]) (.const (.int 0)))) (.var 3) [some (.ref 0), some (.val (.str gate)), some (.val (.list ws)), none]) (ws.map .val) (.lst p :: T))
      (fun ys S => isO (valsOf ys) fun ds => Q (.val (.tuple ds)) (S.take (T.length + 1))) noE := fun ws hl hm => by
    refine wp_collect (fun i ys S => ∃ p', S = .lst p' :: T ∧ PoolOk (K + (100 - i)) p' ∧ (∀ y ∈ ys, y ∈ EFFS) ∧ ys.length ≤ i) ⟨_, rfl, ok.mono (by omega), by simp, by simp⟩ ?_ ?_
    · rintro i e ys S he ⟨p', rfl, ok', hy, hl2⟩
      have hi := (List.getElem?_eq_some_iff.mp he).1
      have hmem := hm _ (List.mem_of_getElem? he)
      simp [wp_compF]
      refine take_wp (K := K + (99 - i)) h5 (ok'.mono (by omega)) (by omega) fun r p3 ok3 h0 h1 => ?_
      simp
      exact ⟨fun _ => ⟨ok3, fun y hy' => hy'.elim (hy y) fun z => z ▸ hmem, hl2⟩, fun _ => ⟨ok3, hy, by omega⟩⟩
    · rintro ys S ⟨p', rfl, ok', hy, hl2⟩
      simp
      exact q _ _ (ok'.mono (by omega)) hy (by omega)
  refine ⟨fun _ => ?_, fun _ => ?_⟩
  · exact go (strsL ["turn", "wake", "clear", "hands"]) (by decide) fun y h => h
  · exact go (strsL ["turn", "wake", "clear"]) (by decide) fun y h => List.mem_of_mem_take (i := 3) (l := EFFS) h
def F11_law_many : Fn := ⟨1, 2, false, true, [
    .ret (.blt .max2 [(.const (.int 1)), (.len (.comp [1] (.seq (.var 0)) (some (.cmp .inn (.idx (.var 1) (.const (.int 0))) (.tup [(.const (.str "meet")), (.const (.str "stop"))]))) (.const (.int 1))))])]⟩
/-- a stage: its gate, its effects -/
def StageOk (d : PyData) : Prop := ∃ (g : Str) (es : List PyData), d = .tuple [.str g, .tuple es] ∧ (∀ y ∈ es, y ∈ EFFS) ∧ es.length ≤ 4
theorem many_wp {P : Prg} (h11 : P 11 = some F11_law_many) {d b0 : Nat} {S : Store} {ss : List PyData} (hs : ∀ s ∈ ss, StageOk s) (hl : ss.length ≤ 100) {Q : A → Store → Prop} {E : XQ} (q : ∀ n : Int, 1 ≤ n → n ≤ 100 → Q (.val (.int n)) S) :
    wpR (callP P (d + 1) b0 11 [.val (.tuple ss)] S) Q E := by
  refine wp_callF h11 rfl ⟨rfl, by decide, rfl⟩ ?_
  simp [F11_law_many, List.replicate]
  refine ⟨by omega, ?_⟩
  refine wp_collect (fun i ys S' => S' = S ∧ ys.length ≤ i) ⟨rfl, by simp⟩ ?_ ?_
  · rintro i e ys S' he ⟨rfl, hy⟩
    obtain ⟨g, es, rfl, _⟩ := hs _ (List.mem_of_getElem? he)
    simp [wp_compF]
    refine inD_str (by decide) fun b => ?_
    exact ⟨fun _ => by omega, fun _ => by omega⟩
  · rintro ys S' ⟨rfl, hy⟩
    simp
    refine q _ ?_ ?_ <;> split <;> omega
def F12_law_row : Fn := ⟨2, 8, false, true, [
    .ifs (.cmp .eq (.var 1) (.const (.int 0))) [.ret (.blt .tuple [(.comp [7] (.seq (.call 9 [])) none (.call 10 [(.var 0), (.var 7)]))])] [],
    .set 2 (.call 6 [(.var 0), (.lst [(.tup [(.const (.str "done"))]), (.tup [(.const (.str "due"))]), (.tup [(.const (.str "due")), (.const (.str "done"))]), (.tup [(.const (.str "done"))])])]),
    .set 3 (.call 6 [(.var 0), (.lst [(.tup [(.const (.str "shade"))]), (.tup [(.const (.str "plain"))]), (.tup [(.const (.str "plain")), (.const (.str "shade"))]), (.tup [(.const (.str "shade"))])])]),
    .set 4 (.call 6 [(.var 0), (.lst [(.tup [(.const (.str "with always"))]), (.tup [(.const (.str "with done"))]), (.tup [(.const (.str "with looked"))]), (.tup [(.const (.str "behind"))]), (.tup [(.const (.str "with done again"))]), (.tup [(.const (.str "plain again"))]), (.tup [(.const (.str "with always")), (.const (.str "with done"))]), (.tup [(.const (.str "with looked")), (.const (.str "behind"))]), (.tup [(.const (.str "ahead"))]), (.tup [(.const (.str "with always again")), (.const (.str "behind again"))])])]),
    .set 5 (.call 6 [(.var 0), (.lst [(.tup [(.const (.str "with always"))]), (.tup [(.const (.str "with undone"))]), (.tup [(.const (.str "with unlooked"))]), (.tup [(.const (.str "plain"))]), (.tup [(.const (.str "with always")), (.const (.str "with undone"))]), (.tup [(.const (.str "ahead"))]), (.tup [(.const (.str "plain")), (.const (.str "with always"))])])]),
    .set 6 (.call 6 [(.var 0), (.lst [(.tup [(.const (.str "kept"))]), (.tup [(.const (.str "kept"))]), (.tup [(.const (.str "plain"))]), (.tup [(.const (.str "plain")), (.const (.str "kept"))])])]),
    .ifs (.cmp .gt (.var 1) (.const (.int 1))) [.set 6 (.tup [(.const (.str "kept"))]), .ifs (.ands [(.cmp .inn (.const (.str "plain")) (.var 3)), (.ors [(.cmp .inn (.const (.str "plain")) (.var 5)), (.cmp .inn (.const (.str "ahead")) (.var 5))])]) [.set 3 (.tup [(.const (.str "shade"))])] []] [],
    .ret (.tup [(.var 2), (.var 3), (.var 4), (.var 5), (.var 6)])]⟩
theorem row0_wp {P : Prg} (h5 : P 5 = some F5_law_take) (h8 : P 8 = some F8_law_puts) (h9 : P 9 = some F9_law_menus) (h10 : P 10 = some F10_law_some) (h12 : P 12 = some F12_law_row) {d b0 K : Nat} {T : Store} {p : List PyData} {Q : A → Store → Prop} {E : XQ} (ok : PoolOk (K + 600) p)
    (q : ∀ r p', PoolOk K p' → Q (.val (.tuple r)) (.lst p' :: T)) : wpR (callP P (d + 3) b0 12 [.ref 0, .val (.int 0)] (.lst p :: T)) Q E := by
  refine wp_callF h12 rfl ⟨rfl, by decide, rfl⟩ ?_
  simp [F12_law_row, List.replicate]
  refine menus_wp h8 h9 ?_
  simp
  refine ⟨by decide, ?_⟩
  refine wp_collect (fun i ys S => ∃ p', S = .lst p' :: T ∧ PoolOk (K + (600 - 110 * i)) p') ⟨_, rfl, ok⟩ ?_ ?_
  · rintro i e ys S he ⟨p', rfl, ok'⟩
    have hi : i < 5 := (List.getElem?_eq_some_iff.mp he).1
    obtain ⟨m, rfl, hm⟩ : ∃ m, e = .list m ∧ m.length ≤ 100 := by
      have := List.mem_of_getElem? he
      simp [MENUS] at this
      rcases this with rfl | rfl | rfl | rfl | rfl <;> exact ⟨_, rfl, by decide⟩
    simp [wp_compF]
    refine some_wp (K := K + (600 - 110 * (i + 1))) h5 h10 (ok'.mono (by omega)) hm fun ys p3 ok3 _ _ => ?_
    simp
    exact ok3
  · rintro ys S ⟨p', rfl, ok'⟩
    simp
    exact q _ _ (ok'.mono (by omega))
end Tr


namespace Tr
open PySem L2
open PySem.Spec PyProof.Rows
def pairsD (k : Nat) : List PyData → List PyData
  | [] => []
  | d :: r => .tuple [.int (k : Nat), d] :: pairsD (k + 1) r
@[simp] theorem pairs_map : ∀ {k : Nat} {xs : List PyData}, pairsFrom k (xs.map .val) = (pairsD k xs).map .val
  | _, [] => rfl
  | k, d :: r => by
    rw [List.map_cons, pairsFrom, pairsD, List.map_cons, pairs_map]
    rfl
@[simp] theorem pairsD_len : ∀ {k : Nat} {xs : List PyData}, (pairsD k xs).length = xs.length
  | _, [] => rfl
  | k, _ :: r => congrArg (· + 1) (pairsD_len (k := k + 1) (xs := r))
theorem pairsD_at : ∀ {k i : Nat} {xs : List PyData} {e : PyData}, (pairsD k xs)[i]? = some e → ∃ d, xs[i]? = some d ∧ e = .tuple [.int ((k + i : Nat) : Int), d]
  | _, _, [], _, h => by simp [pairsD] at h
  | k, 0, d :: r, e, h => by simp [pairsD] at h; exact ⟨d, rfl, h.symm⟩
  | k, i + 1, d :: r, e, h => by
    simp only [pairsD, List.getElem?_cons_succ] at h
    obtain ⟨d', h1, h2⟩ := pairsD_at h
    refine ⟨d', by simpa using h1, ?_⟩
    rw [h2]
    congr 4
    omega
def F1_free_stages : Fn := ⟨1, 3, false, true, [
    .ret (.comp [1, 2] (.enum (.idx (.var 0) (.const (.int 3)))) (some (.cmp .eq (.idx (.var 2) (.const (.int 0))) (.const (.str "free")))) (.var 1))]⟩
/-- a stage: its gate is free (or not) -/
def gateB (d : PyData) : Bool := match d with
  | .tuple (.str g :: _) => decide (g = Str.ofString "free")
  | _ => false
def isGate (d : PyData) : Prop := ∃ (g : Str) (es : List PyData), d = .tuple (.str g :: es)
/-- the places of the free gates -/
def freesTo (m : List Bool) (i : Nat) : List Nat := (List.range i).filter fun j => m.getD j false
def freesF (m : List Bool) : List Nat := freesTo m m.length
def intsN (l : List Nat) : List PyData := l.map fun j => .int (j : Nat)
theorem freesTo_succ {m : List Bool} {i : Nat} : freesTo m (i + 1) = freesTo m i ++ if m.getD i false = true then [i] else [] := by
  unfold freesTo
  rw [List.range_succ, List.filter_append]
  simp only [List.filter_cons, List.filter_nil]
theorem free_stages_wp {P : Prg} (h1 : P 1 = some F1_free_stages) {d b0 : Nat} {S : Store} {a0 a1 a2 : PyData} {ss rest : List PyData} (hs : ∀ s ∈ ss, isGate s) (hl : ss.length ≤ 1000) {Q : A → Store → Prop} {E : XQ}
    (q : Q (.val (.list (intsN (freesF (ss.map gateB))))) S) : wpR (callP P (d + 1) b0 1 [.val (.tuple (a0 :: a1 :: a2 :: .tuple ss :: rest))] S) Q E := by
  refine wp_callF h1 rfl ⟨rfl, by decide, rfl⟩ ?_
  simp [F1_free_stages, List.replicate]
  refine ⟨by omega, ?_⟩
  have hm : ∀ i s, ss[i]? = some s → (ss.map gateB).getD i false = gateB s := fun i s h => by rw [List.getD_eq_getElem?_getD, List.getElem?_map, h]; rfl
  have hml : (ss.map gateB).length = ss.length := List.length_map _
  generalize ss.map gateB = m at hm hml q
  refine wp_collect (fun i ys S' => S' = S ∧ ys = intsN (freesTo m i)) ⟨rfl, rfl⟩ ?_ ?_
  · rintro i e ys S' he ⟨rfl, rfl⟩
    obtain ⟨x, hx, rfl⟩ := pairsD_at he
    obtain ⟨g, es, rfl⟩ := hs _ (List.mem_of_getElem? hx)
    have hg : freesTo m (i + 1) = freesTo m i ++ if g = Str.ofString "free" then [i] else [] := by rw [freesTo_succ, hm _ _ hx]; simp [gateB]
    simp [wp_compF, hg, intsN]
    exact fun h => by simp [h]
  · rintro ys S' ⟨rfl, rfl⟩
    simp
    unfold freesF at q
    rw [hml] at q
    exact q
def F2_passes : Fn := ⟨1, 9, false, true, [
    .set 1 (.call 1 [(.var 0)]),
    .set 2 (.len (.idx (.var 0) (.const (.int 3)))),
    .setO 3 (.lst []),
    .fors [4, 5] (.enum (.var 1)) [.set 6 (.bin .add (.idx (.var 1) (.bin .sub (.var 4) (.const (.int 1)))) (.const (.int 1))), .set 7 (.bin .add (.bin .mod (.bin .sub (.var 5) (.var 6)) (.var 2)) (.const (.int 1))), .mth .append (.own 3) [(.blt .tuple [(.comp [8] (.range [(.var 7)]) none (.bin .mod (.bin .add (.var 6) (.var 8)) (.var 2)))])]],
    .ret (.blt .tuple [(.own 3)])]⟩
/-- one pass: from behind the last free gate to the k-th -/
def passRow (fs : List Int) (n : Int) (k : Nat) : List Int :=
  let b := ((atI fs ((k : Int) - 1)).getD 0) + 1
  (List.range ((fs.getD k 0 - b).fmod n + 1).toNat).map fun j => (b + (j : Nat)).fmod n
def passF (m : List Bool) : List (List Int) := let fs := (freesF m).map Int.ofNat; (List.range fs.length).map (passRow fs m.length)
def tupI (l : List Int) : PyData := .tuple (l.map .int)
def passD (m : List Bool) : PyData := .tuple ((passF m).map tupI)
theorem passes_wp {P : Prg} (h1 : P 1 = some F1_free_stages) (h2 : P 2 = some F2_passes) {d b0 : Nat} {S : Store} {a0 a1 a2 : PyData} {ss rest : List PyData} (hs : ∀ s ∈ ss, isGate s) (hl : ss.length ≤ 1000) {Q : A → Store → Prop} {E : XQ}
    (q : Q (.val (passD (ss.map gateB))) S) : wpR (callP P (d + 2) b0 2 [.val (.tuple (a0 :: a1 :: a2 :: .tuple ss :: rest))] S) Q E := by
  refine wp_callF h2 rfl ⟨rfl, by decide, rfl⟩ ?_
  simp [F2_passes, List.replicate]
  refine free_stages_wp h1 hs hl ?_
  have hml : (ss.map gateB).length = ss.length := List.length_map _
  generalize ss.map gateB = m at hml q
  have hz : intsN (freesF m) = ((freesF m).map Int.ofNat).map .int := by unfold intsN; rw [List.map_map]; rfl
  have q : Q (.val (.tuple ((List.range ((freesF m).map Int.ofNat).length).map fun k => tupI (passRow ((freesF m).map Int.ofNat) ss.length k)))) S := by
    have e : passD m = .tuple ((List.range ((freesF m).map Int.ofNat).length).map fun k => tupI (passRow ((freesF m).map Int.ofNat) ss.length k)) := by
      unfold passD passF
      rw [hml]
      simp only [List.map_map]
      rfl
    rw [← e]; exact q
  rw [hz]
  have hzl : ((freesF m).map Int.ofNat).length ≤ 1000 := by
    rw [List.length_map]
    have : (freesF m).length ≤ m.length := by unfold freesF freesTo; exact Nat.le_trans (List.length_filter_le _ _) (by simp)
    omega
  have hpos : (freesF m).map Int.ofNat ≠ [] → 0 < ss.length := fun h => by
    rw [← hml]
    cases m with
    | nil => exact absurd rfl h
    | cons _ _ => exact Nat.succ_pos _
  generalize (freesF m).map Int.ofNat = zs at q hzl hpos
  generalize hn : ss.length = n at hl q hpos
  generalize hx : zs.map PyData.int = xs
  have hxl : xs.length = zs.length := by rw [← hx, List.length_map]
  simp [hn]
  refine ws_loop (fun i env S' => S' = S ∧ ∃ o4 o5 o6 o7 o8, env = [some (.val (.tuple (a0 :: a1 :: a2 :: .tuple ss :: rest))), some (.val (.list xs)), some (.val (.int (n : Nat))), some (.own (.lst ((List.range i).map fun k => tupI (passRow zs n k)))), o4, o5, o6, o7, o8]) ⟨rfl, _, _, _, _, _, rfl⟩ ?_ ?_
  · rintro i e env S' he ⟨rfl, o4, o5, o6, o7, o8, rfl⟩
    obtain ⟨x, hxi, rfl⟩ := pairsD_at he
    have hi : i < zs.length := by rw [← hxl]; exact (List.getElem?_eq_some_iff.mp hxi).1
    have hp : 0 < n := hpos fun z => by rw [z] at hi; exact absurd hi (Nat.not_lt_zero _)
    rw [← hx, List.getElem?_map, List.getElem?_eq_getElem hi] at hxi
    cases hxi
    obtain ⟨v, hv⟩ : ∃ v, atI zs ((i : Int) - 1) = some v := by
      unfold atI ixN
      by_cases h0 : i = 0
      · subst h0
        rw [if_neg (by omega), if_pos (by omega)]
        exact ⟨_, List.getElem?_eq_getElem (by omega)⟩
      · rw [if_pos (by omega), if_pos (by omega)]
        exact ⟨_, List.getElem?_eq_getElem (by omega)⟩
    have hv2 : atI xs ((i : Int) - 1) = some (.int v) := by
      rw [← hx]
      unfold atI at hv ⊢
      rw [List.length_map]
      obtain ⟨k, h1, h2⟩ := Option.bind_eq_some_iff.mp hv
      rw [h1]
      show (zs.map PyData.int)[k]? = _
      rw [List.getElem?_map, h2]; rfl
    have hr : passRow zs n i = (List.range ((zs[i] - (v + 1)).fmod n + 1).toNat).map fun j => (v + 1 + (j : Nat)).fmod n := by
      unfold passRow
      rw [hv, List.getD_eq_getElem?_getD, List.getElem?_eq_getElem hi]
      rfl
    have f0 : 0 ≤ (zs[i] - (v + 1)).fmod n := Int.fmod_nonneg_of_pos _ (by omega)
    have f1 : (zs[i] - (v + 1)).fmod n < n := Int.fmod_lt_of_pos _ (by omega)
    simp [ws_forF, hv2]
    refine ⟨by omega, ⟨by omega, by omega⟩, by omega, ?_⟩
    generalize hd : ((zs[i] - (v + 1)).fmod n + 1).toNat = D at hr
    refine wp_collect (fun j ys S2 => S2 = S' ∧ ys = (List.range j).map fun j => .int ((v + 1 + (j : Nat)).fmod n)) ⟨rfl, rfl⟩ ?_ ?_
    · rintro j e ys S2 he ⟨rfl, rfl⟩
      have hj : j < D := by have := (List.getElem?_eq_some_iff.mp he).1; rw [rangeD_len] at this; exact this
      rw [rangeD_at _ _ _ hj] at he
      cases he
      simp [wp_compF, List.range_succ]
      omega
    · rintro ys S2 ⟨rfl, rfl⟩
      rw [rangeD_len]
      rw [show (List.range (i + 1)).map (fun k => tupI (passRow zs n k)) = (List.range i).map (fun k => tupI (passRow zs n k)) ++ [tupI (passRow zs n i)] by rw [List.range_succ, List.map_append]; rfl, hr]
      rw [valsOf_map', isO_some]
      refine ⟨by omega, rfl, ?_⟩
      unfold tupI
      rw [List.map_map]
      rfl
  · rintro env S' ⟨rfl, o4, o5, o6, o7, o8, rfl⟩
    simp [hxl]
    exact q
def F3_level_of : Fn := ⟨2, 4, false, true, [
    .fors [2, 3] (.enum (.call 2 [(.var 0)])) [.ifs (.cmp .inn (.var 1) (.var 3)) [.ret (.tup [(.var 2), (.meth .index (.var 3) [(.var 1)])])] []],
    .ret (.const .none)]⟩
def idxI (s : Int) : List Int → Nat
  | [] => 0
  | x :: r => if x = s then 0 else idxI s r + 1
def levelGo (s : Int) : Nat → List (List Int) → PyData
  | _, [] => .none
  | k, row :: r => if s ∈ row then .tuple [.int (k : Nat), .int (idxI s row : Nat)] else levelGo s (k + 1) r
theorem all_flatI : ∀ l : List Int, (l.map PyData.int).all flatD = true
  | [] => rfl
  | _ :: r => by rw [List.map_cons, List.all_cons, all_flatI r]; rfl
theorem any_eqvI {s : Int} : ∀ l : List Int, (l.map PyData.int).any (fun y => PyData.eqv y (.int s)) = decide (s ∈ l)
  | [] => rfl
  | x :: r => by
    rw [List.map_cons, List.any_cons, any_eqvI r, eqv_int]
    by_cases h : x = s
    · simp [h]
    · have : s ≠ x := fun z => h z.symm
      simp [h, this]
theorem inD_I {s : Int} {l : List Int} : inD (.int s) (l.map .int) = some (decide (s ∈ l)) := by
  unfold inD
  rw [if_pos ⟨rfl, all_flatI l⟩, any_eqvI]
theorem placeD_I {s : Int} : ∀ {l : List Int}, s ∈ l → placeD (.int s) (l.map .int) = some (idxI s l)
  | [], h => nomatch h
  | x :: r, h => by
    rw [List.map_cons, placeD, eqv_int, idxI]
    by_cases e : x = s
    · simp [e]
    · have hr : s ∈ r := by
        rcases List.mem_cons.mp h with z | z
        · exact absurd z.symm e
        · exact z
      simp [e, placeD_I hr]
theorem indexD_I {s : Int} {l : List Int} (h : s ∈ l) : indexD (l.map .int) (.int s) = some (.int (idxI s l : Nat)) := by
  unfold indexD
  rw [if_pos ⟨rfl, all_flatI l⟩, placeD_I h]
  rfl
def levelD (m : List Bool) (s : Int) : PyData := levelGo s 0 (passF m)
theorem level_wp {P : Prg} (h1 : P 1 = some F1_free_stages) (h2 : P 2 = some F2_passes) (h3 : P 3 = some F3_level_of) {d b0 : Nat} {S : Store} {a0 a1 a2 : PyData} {ss rest : List PyData} (hs : ∀ s ∈ ss, isGate s) (hl : ss.length ≤ 1000) {s : Int} {Q : A → Store → Prop} {E : XQ}
    (q : Q (.val (levelD (ss.map gateB) s)) S) : wpR (callP P (d + 3) b0 3 [.val (.tuple (a0 :: a1 :: a2 :: .tuple ss :: rest)), .val (.int s)] S) Q E := by
  refine wp_callF h3 rfl ⟨rfl, by decide, rfl⟩ ?_
  simp [F3_level_of, List.replicate]
  refine passes_wp h1 h2 hs hl ?_
  unfold levelD at q
  unfold passD
  generalize passF (ss.map gateB) = rows at q
  generalize hx : rows.map tupI = xs
  simp
  subst hx
  have key : ∀ (k : Nat) (rows : List (List Int)) (o2 o3 : Option A), Q (.val (levelGo s k rows)) S → wpS (loop [] (forF ⟨callP P (d + 2) S.length, S.length⟩ [2, 3] [.ifs (.cmp .inn (.var 1) (.var 3)) [.ret (.tup [.var 2, .meth .index (.var 3) [.var 1]])] []]) ((pairsD k (rows.map tupI)).map .val)
      [some (.val (.tuple (a0 :: a1 :: a2 :: .tuple ss :: rest))), some (.val (.int s)), o2, o3] S) (fun env S' => Q (.val .none) (S'.take S.length)) (retQ S Q E) := by
    intro k rows
    induction rows generalizing k with
    | nil =>
      intro o2 o3 q
      rw [List.map_nil, pairsD, List.map_nil, ws_loop0]
      simpa [levelGo] using q
    | cons row r ih =>
      intro o2 o3 q
      rw [List.map_cons, pairsD, List.map_cons, ws_loop1]
      unfold levelGo at q
      simp [ws_forF, tupI, inD_I]
      by_cases h : s ∈ row
      · rw [if_pos h] at q
        simp [h, methD, methR, kindOf, indexD_I h]
        exact q
      · rw [if_neg h] at q
        simp [h]
        exact ih (k + 1) _ _ q
  exact key 0 rows none none q
end Tr


namespace Tr
open PySem L2
open PySem.Spec PyProof.Rows
def F16_law_same : Fn := ⟨2, 2, false, false, [
    .ret (.ands [(.cmp .eq (.var 0) (.var 1)), (.cmp .eq (.blt .repr [(.var 0)]) (.blt .repr [(.var 1)]))])]⟩
def okSame (d : PyData) : Bool := SeqAt.shaped d && (d.showable && (!d.hasDict && (decide (d.depth ≤ 60) && decide (d.shown.length ≤ 16777216))))
theorem same_wp {P : Prg} (h16 : P 16 = some F16_law_same) {d b0 : Nat} {S : Store} {x : PyData} (h : okSame x = true) {Q : A → Store → Prop} {E : XQ} (q : Q (.val (.bool true)) S) : wpR (callP P (d + 1) b0 16 [.val x, .val x] S) Q E := by
  unfold okSame at h
  simp only [Bool.and_eq_true, Bool.not_eq_true', decide_eq_true_eq] at h
  obtain ⟨h1, h2, h3, h4, h5⟩ := h
  refine wp_callF h16 rfl ⟨rfl, by decide, rfl⟩ ?_
  simp [F16_law_same, List.replicate, cmpD_same h1, bltD, h2, h3, h4, h5]
  exact q
/-- small data: depth k, at most 20 in a row -/
def sm : Nat → PyData → Bool
  | _, .none => true
  | _, .bool _ => true
  | _, .int i => decide (-999999999999 ≤ i ∧ i ≤ 999999999999)
  | _, .str x => PyData.canLay0 (.str x) && decide (x.cps.size ≤ 40)
  | k + 1, .tuple xs => decide (xs.length ≤ 20) && xs.all (sm k)
  | k + 1, .list xs => decide (xs.length ≤ 20) && xs.all (sm k)
  | _, _ => false
def smW : Nat → Nat
  | 0 => 41
  | k + 1 => 20 * (smW k + 1)
structure SmOk (k : Nat) (d : PyData) : Prop where
  lay : d.canLay0 = true
  dep : d.depth ≤ k
  wt : d.weight ≤ smW k
  sh : d.showable = true
  hd : d.hasDict = false
  it : d.intsShort 13 = true
theorem smW_le : ∀ k, 41 ≤ smW k
  | 0 => Nat.le_refl _
  | k + 1 => by have := smW_le k; show 41 ≤ 20 * (smW k + 1); omega
theorem log_small {n : Nat} (h : n ≤ 999999999999) : n.log2 ≤ 39 := by
  by_cases h0 : n = 0
  · subst h0; decide
  · have : n.log2 < 40 := (Nat.log2_lt h0).mpr (by omega)
    omega
theorem sm_ok : ∀ (k : Nat) (d : PyData), sm k d = true → SmOk k d := by
  have leafI : ∀ (k : Nat) (i : Int), (-999999999999 ≤ i ∧ i ≤ 999999999999) → SmOk k (.int i) := fun k i h => by
    have hn : i.natAbs ≤ 999999999999 := by omega
    have hl := log_small hn
    have := smW_le k
    refine ⟨rfl, Nat.zero_le _, ?_, ?_, rfl, ?_⟩
    · simp only [PyData.weight]; split <;> omega
    · simp only [PyData.showable]; exact decide_eq_true (by omega)
    · simp only [PyData.intsShort]; exact decide_eq_true (PyData.shown_int_le2 h.1 h.2)
  have leafS : ∀ (k : Nat) (x : Str), PyData.canLay0 (.str x) = true → x.cps.size ≤ 40 → SmOk k (.str x) := fun k x h1 h2 => by
    have := smW_le k
    exact ⟨h1, Nat.zero_le _, by simp only [PyData.weight]; omega, rfl, rfl, rfl⟩
  have all : ∀ (k : Nat), (∀ d, sm k d = true → SmOk k d) → ∀ xs : List PyData, xs.all (sm k) = true → PyData.canLayAll0 xs = true ∧ PyData.depthAll xs ≤ k ∧ PyData.weightAll xs ≤ xs.length * (smW k + 1) ∧ PyData.showableAll xs = true ∧ PyData.hasDictAll xs = false ∧ PyData.intsShortAll 13 xs = true := by
    intro k ih xs
    induction xs with
    | nil => intro _; exact ⟨rfl, Nat.zero_le _, Nat.zero_le _, rfl, rfl, rfl⟩
    | cons x r ihr =>
      intro h
      rw [List.all_cons, Bool.and_eq_true] at h
      obtain ⟨a1, a2, a3, a4, a5, a6⟩ := ihr h.2
      have b := ih x h.1
      refine ⟨?_, ?_, ?_, ?_, ?_, ?_⟩
      · simp only [PyData.canLayAll0, b.lay, a1, Bool.and_self]
      · simp only [PyData.depthAll]; exact Nat.max_le.mpr ⟨b.dep, a2⟩
      · simp only [PyData.weightAll, List.length_cons, Nat.add_mul, Nat.one_mul]
        have := b.wt
        omega
      · simp only [PyData.showableAll, b.sh, a4, Bool.and_self]
      · simp only [PyData.hasDictAll, b.hd, a5, Bool.or_self]
      · simp only [PyData.intsShortAll, b.it, a6, Bool.and_self]
  intro k
  induction k with
  | zero =>
    intro d h
    cases d with
    | none => exact ⟨rfl, Nat.le_refl _, Nat.zero_le _, rfl, rfl, rfl⟩
    | bool b => exact ⟨rfl, Nat.le_refl _, Nat.zero_le _, rfl, rfl, rfl⟩
    | int i => exact leafI 0 i (of_decide_eq_true h)
    | str x => exact leafS 0 x (ba h).1 (of_decide_eq_true (ba h).2)
    | _ => cases h
  | succ k ih =>
    intro d h
    have seq : ∀ xs : List PyData, (decide (xs.length ≤ 20) && xs.all (sm k)) = true → PyData.canLayAll0 xs = true ∧ PyData.depthAll xs ≤ k ∧ PyData.weightAll xs ≤ smW (k + 1) ∧ PyData.showableAll xs = true ∧ PyData.hasDictAll xs = false ∧ PyData.intsShortAll 13 xs = true := fun xs h => by
      obtain ⟨h1, h2⟩ := ba h
      obtain ⟨a1, a2, a3, a4, a5, a6⟩ := all k ih xs h2
      refine ⟨a1, a2, Nat.le_trans a3 ?_, a4, a5, a6⟩
      exact Nat.mul_le_mul_right _ (of_decide_eq_true h1)
    cases d with
    | none => exact ⟨rfl, Nat.zero_le _, Nat.zero_le _, rfl, rfl, rfl⟩
    | bool b => exact ⟨rfl, Nat.zero_le _, Nat.zero_le _, rfl, rfl, rfl⟩
    | int i => exact leafI _ i (of_decide_eq_true h)
    | str x => exact leafS _ x (ba h).1 (of_decide_eq_true (ba h).2)
    | tuple xs =>
      obtain ⟨a1, a2, a3, a4, a5, a6⟩ := seq xs h
      exact ⟨by simp only [PyData.canLay0]; exact a1, by simp only [PyData.depth]; omega, by simp only [PyData.weight]; exact a3, by simp only [PyData.showable]; exact a4, by simp only [PyData.hasDict]; exact a5, by simp only [PyData.intsShort]; exact a6⟩
    | list xs =>
      obtain ⟨a1, a2, a3, a4, a5, a6⟩ := seq xs h
      exact ⟨by simp only [PyData.canLay0]; exact a1, by simp only [PyData.depth]; omega, by simp only [PyData.weight]; exact a3, by simp only [PyData.showable]; exact a4, by simp only [PyData.hasDict]; exact a5, by simp only [PyData.intsShort]; exact a6⟩
    | dict _ => cases h
theorem sm_same {d : PyData} (h : sm 3 d = true) : okSame d = true := by
  have s := sm_ok 3 d h
  have hd := s.dep
  have hw := s.wt
  have e : smW 3 = 336420 := rfl
  rw [e] at hw
  have lay : PyData.layable0 d = true := by
    unfold PyData.layable0
    rw [s.lay, decide_eq_true (show d.depth ≤ 64 by omega), decide_eq_true (show d.weight ≤ 2 ^ 20 by omega)]
    rfl
  have h5 := PyProof.Rows.shown_le13 lay s.it
  unfold okSame
  rw [SeqAt.shaped_of_layable lay, s.sh, s.hd, decide_eq_true (show d.depth ≤ 60 by omega), decide_eq_true (show d.shown.length ≤ 16777216 by omega)]
  rfl
abbrev Sh := List (Bool × Nat × Nat)
def shR (sh : Sh) (a : Nat) : Nat := (sh.getD a (false, 0, 0)).2.1
def shL (sh : Sh) (a : Nat) : Nat := (sh.getD a (false, 0, 0)).2.2
def shF (sh : Sh) (a : Nat) : Bool := (sh.getD a (false, 0, 0)).1
def mineF (sh : Sh) (e : Nat) (i : Nat) : List Nat := (List.range i).filter fun a => decide (shR sh a = shR sh e)
def dueIn (sh : Sh) (t : Nat) : List Nat → List PyData → List PyData → List PyData × List PyData
  | [], lv, pr => (lv, pr)
  | a :: r, lv, pr => dueIn sh t r (lv.set (shL sh a) (.int (a : Nat))) (pr.set a (.tuple [.int (t : Nat), .int (shL sh a : Nat)]))
def dueGo (sh : Sh) : List Nat → List PyData → List PyData → List PyData × List PyData
  | [], told, pr => (told, pr)
  | e :: r, told, pr => if shF sh e = true then
      dueGo sh r (told ++ [.tuple (dueIn sh told.length (mineF sh e sh.length) (List.replicate (mineF sh e sh.length).length .none) pr).1]) (dueIn sh told.length (mineF sh e sh.length) (List.replicate (mineF sh e sh.length).length .none) pr).2
    else dueGo sh r told pr
def dueF (sh : Sh) : List PyData × List PyData := dueGo sh (List.range sh.length) [] (List.replicate sh.length .none)
def rangeOk (sh : Sh) : Bool := (List.range sh.length).all fun e => !shF sh e || (mineF sh e sh.length).all fun a => decide (shL sh a < (mineF sh e sh.length).length)
/-- a stage of a ring: its gate, its effects, its row, its level -/
def ItemOk (d : PyData) (s : Bool × Nat × Nat) : Prop := ∃ (g : Str) (es : List PyData), d = .tuple [.str g, .tuple es, .int (s.2.1 : Nat), .int (s.2.2 : Nat)] ∧ s.1 = decide (g = Str.ofString "free") ∧ (∀ y ∈ es, y ∈ EFFS) ∧ es.length ≤ 4
def RingOk (ring : List PyData) (sh : Sh) : Prop := ring.length = sh.length ∧ ∀ i, i < sh.length → ∃ d, ring[i]? = some d ∧ ItemOk d (sh.getD i (false, 0, 0))
def F17_law_due : Fn := ⟨1, 8, false, true, [
    .par [2, 3] [(.newc (.lst [])), (.newc (.comp [7] (.seq (.var 0)) none (.const .none)))],
    .fors [1] (.range [(.len (.var 0))]) [.ifs (.cmp .eq (.idx (.idx (.var 0) (.var 1)) (.const (.int 0))) (.const (.str "free"))) [.set 4 (.comp [6] (.range [(.len (.var 0))]) (some (.cmp .eq (.idx (.idx (.var 0) (.var 6)) (.const (.int 2))) (.idx (.idx (.var 0) (.var 1)) (.const (.int 2))))) (.var 6)), .setO 5 (.comp [6] (.seq (.var 4)) none (.const .none)), .fors [6] (.seq (.var 4)) [.put (.own 5) (.idx (.idx (.var 0) (.var 6)) (.const (.int 3))) (.var 6), .put (.var 3) (.var 6) (.tup [(.len (.var 2)), (.idx (.idx (.var 0) (.var 6)) (.const (.int 3)))])], .mth .append (.var 2) [(.blt .tuple [(.own 5)])]] []],
    .rel 3,
    .ret (.tup [(.blt .tuple [(.var 2)]), (.var 3)])]⟩
theorem mineF_succ {sh : Sh} {e i : Nat} : mineF sh e (i + 1) = mineF sh e i ++ if shR sh i = shR sh e then [i] else [] := by
  unfold mineF
  rw [List.range_succ, List.filter_append]
  by_cases h : shR sh i = shR sh e <;> simp [h]
theorem mineF_lt {sh : Sh} {e i a : Nat} (h : a ∈ mineF sh e i) : a < i := by
  unfold mineF at h
  exact List.mem_range.mp (List.mem_filter.mp h).1
theorem intsN_nil : intsN [] = [] := rfl
theorem intsN_cons {a : Nat} {r : List Nat} : intsN (a :: r) = .int (a : Nat) :: intsN r := rfl
theorem intsN_app {l r : List Nat} : intsN (l ++ r) = intsN l ++ intsN r := List.map_append
theorem dueIn_len {sh : Sh} {t : Nat} : ∀ {l : List Nat} {lv pr : List PyData}, (dueIn sh t l lv pr).1.length = lv.length ∧ (dueIn sh t l lv pr).2.length = pr.length
  | [], _, _ => ⟨rfl, rfl⟩
  | a :: r, lv, pr => by
    unfold dueIn
    obtain ⟨h1, h2⟩ := dueIn_len (sh := sh) (t := t) (l := r) (lv := lv.set (shL sh a) (.int (a : Nat))) (pr := pr.set a (.tuple [.int (t : Nat), .int (shL sh a : Nat)]))
    exact ⟨by rw [h1, List.length_set], by rw [h2, List.length_set]⟩
theorem due_wp {P : Prg} (h17 : P 17 = some F17_law_due) {d b0 : Nat} {c0 : Cell} {ring : List PyData} {sh : Sh} (hr : RingOk ring sh) (hl : sh.length ≤ 1000) (ok : rangeOk sh = true) {Q : A → Store → Prop} {E : XQ}
    (q : Q (.val (.tuple [.tuple (dueF sh).1, .list (dueF sh).2])) [c0]) : wpR (callP P (d + 1) b0 17 [.val (.list ring)] [c0]) Q E := by
  obtain ⟨hrl, hit⟩ := hr
  have row : ∀ i, i < sh.length → ∃ (g : Str) (es : List PyData), ring[i]? = some (.tuple [.str g, .tuple es, .int (shR sh i : Nat), .int (shL sh i : Nat)]) ∧ shF sh i = decide (g = Str.ofString "free") := fun i hi => by
    obtain ⟨x, h1, g, es, rfl, h2, _⟩ := hit i hi
    exact ⟨g, es, h1, h2⟩
  refine wp_callF h17 rfl ⟨rfl, by decide, rfl⟩ ?_
  simp [F17_law_due, List.replicate]
  refine ⟨by omega, ?_⟩
  refine wp_collect (fun i ys S => S = [c0, .lst []] ∧ ys = List.replicate i .none) ⟨rfl, rfl⟩ ?_ ?_
  · rintro i e ys S he ⟨rfl, rfl⟩
    simp [wp_compF, List.replicate_succ']
  · rintro ys S ⟨rfl, rfl⟩
    rw [hrl, valsOf_map', isO_some]
    have hpl : (List.replicate sh.length PyData.none).length = sh.length := List.length_replicate
    generalize hpr : List.replicate sh.length PyData.none = pr0 at hpl
    simp [hrl]
    refine ⟨by omega, ?_⟩
    have hrd : rangeD 0 sh.length = intsN (List.range sh.length) := by
      refine List.ext_getElem? fun i => ?_
      unfold intsN
      by_cases hi : i < sh.length
      · rw [rangeD_at _ _ _ hi, List.getElem?_map, List.getElem?_range hi]; simp
      · rw [List.getElem?_eq_none (by rw [rangeD_len]; omega), List.getElem?_eq_none (by simp; omega)]
    rw [hrd]
    unfold dueF at q
    rw [hpr] at q
    have okE : ∀ e, e < sh.length → shF sh e = true → ∀ a ∈ mineF sh e sh.length, shL sh a < (mineF sh e sh.length).length := fun e he hf a ha => by
      have := List.all_eq_true.mp ok e (List.mem_range.mpr he)
      rw [hf] at this
      have this : (mineF sh e sh.length).all (fun a => decide (shL sh a < (mineF sh e sh.length).length)) = true := by simpa only [Bool.not_true, Bool.false_or] using this
      simpa using List.all_eq_true.mp this a ha
    -- the loop over a row's stages
    have inner : ∀ (t : List PyData) (l : List Nat) (lv pr : List PyData) (o1 o4 o6 o7 : Option A) (N : TEnv → Store → Prop) (B : RS → Prop), (∀ a ∈ l, a < sh.length ∧ shL sh a < lv.length) → pr.length = sh.length →
        (∀ o6, N [some (.val (.list ring)), o1, some (.ref 1), some (.ref 2), o4, some (.own (.lst (dueIn sh t.length l lv pr).1)), o6, o7] [c0, .lst t, .lst (dueIn sh t.length l lv pr).2]) →
        wpS (loop [] (forF ⟨callP P d 1, 1⟩ [6] [.put (.own 5) (.idx (.idx (.var 0) (.var 6)) (.const (.int 3))) (.var 6), .put (.var 3) (.var 6) (.tup [.len (.var 2), .idx (.idx (.var 0) (.var 6)) (.const (.int 3))])]) ((intsN l).map .val)
          [some (.val (.list ring)), o1, some (.ref 1), some (.ref 2), o4, some (.own (.lst lv)), o6, o7] [c0, .lst t, .lst pr]) N B := by
      intro t l
      induction l with
      | nil =>
        intro lv pr o1 o4 o6 o7 N B h hp q
        rw [intsN_nil, List.map_nil, ws_loop0]
        exact q o6
      | cons a r ih =>
        intro lv pr o1 o4 o6 o7 N B h hp q
        rw [intsN_cons, List.map_cons, ws_loop1]
        obtain ⟨ha1, ha2⟩ := h a List.mem_cons_self
        obtain ⟨g, es, hrow, _⟩ := row a ha1
        have i1 : ixN lv.length ((shL sh a : Nat) : Int) = some (shL sh a) := ixN_of (by omega) (by omega)
        have i2 : ixN pr.length ((a : Nat) : Int) = some a := ixN_of (by omega) (by omega)
        simp [ws_forF, hrow, i1, i2]
        exact ih _ _ _ _ _ _ _ _ (fun b hb => by rw [List.length_set]; exact h b (List.mem_cons_of_mem _ hb)) (by rw [List.length_set]; exact hp) q
    have outer : ∀ (l : List Nat) (told pr : List PyData) (o1 o4 o5 o6 o7 : Option A), (∀ e ∈ l, e < sh.length) → pr.length = sh.length → told.length + l.length ≤ 1000 → Q (.val (.tuple [.tuple (dueGo sh l told pr).1, .list (dueGo sh l told pr).2])) [c0] →
        wpS (loop [] (forF ⟨callP P d 1, 1⟩ [1] [.ifs (.cmp .eq (.idx (.idx (.var 0) (.var 1)) (.const (.int 0))) (.const (.str "free"))) [.set 4 (.comp [6] (.range [.len (.var 0)]) (some (.cmp .eq (.idx (.idx (.var 0) (.var 6)) (.const (.int 2))) (.idx (.idx (.var 0) (.var 1)) (.const (.int 2))))) (.var 6)), .setO 5 (.comp [6] (.seq (.var 4)) none (.const .none)), .fors [6] (.seq (.var 4)) [.put (.own 5) (.idx (.idx (.var 0) (.var 6)) (.const (.int 3))) (.var 6), .put (.var 3) (.var 6) (.tup [.len (.var 2), .idx (.idx (.var 0) (.var 6)) (.const (.int 3))])], .mth .append (.var 2) [.blt .tuple [.own 5]]] []]) ((intsN l).map .val)
          [some (.val (.list ring)), o1, some (.ref 1), some (.ref 2), o4, o5, o6, o7] [c0, .lst told, .lst pr])
          (fun env S => isO (getV env 3) (relQ env S 3 fun env S => isO (getV env 2) fun a => a.atom = true ∧ isO (derefs S [a]) fun ds => isO (bltD .tuple ds) fun g => isO (getV env 3) fun a => a.atom = true ∧ retQ [c0] Q E (.rt (mkTup [.val g, a]) S))) (retQ [c0] Q E) := by
      intro l
      induction l with
      | nil =>
        intro told pr o1 o4 o5 o6 o7 h hp ht q
        rw [intsN_nil, List.map_nil, ws_loop0]
        simp [frz]
        exact q
      | cons e r ih =>
        intro told pr o1 o4 o5 o6 o7 h hp ht q
        rw [intsN_cons, List.map_cons, ws_loop1]
        have he := h e List.mem_cons_self
        obtain ⟨g, es, hrow, hg⟩ := row e he
        have hr' : ∀ b ∈ r, b < sh.length := fun b hb => h b (List.mem_cons_of_mem _ hb)
        simp at ht
        unfold dueGo at q
        by_cases hf : g = Str.ofString "free"
        · rw [if_pos (by rw [hg, hf]; simp)] at q
          have hfe : shF sh e = true := by rw [hg, hf]; simp
          have hml : (mineF sh e sh.length).length ≤ sh.length := Nat.le_trans (List.length_filter_le _ _) (by simp)
          simp [ws_forF, hrow, hf, hrl]
          refine ⟨by omega, by omega, ?_⟩
          refine wp_collect (fun i ys S' => S' = [c0, .lst told, .lst pr] ∧ ys = intsN (mineF sh e i)) ⟨rfl, rfl⟩ ?_ ?_
          · rintro i x ys S' hx ⟨rfl, rfl⟩
            have hi : i < sh.length := by have := (List.getElem?_eq_some_iff.mp hx).1; rw [rangeD_len] at this; exact this
            rw [rangeD_at _ _ _ hi] at hx
            cases hx
            obtain ⟨g2, es2, hrow2, _⟩ := row i hi
            simp [wp_compF, hrow, hrow2, mineF_succ, intsN_app]
            exact ⟨fun h => by rw [if_pos (by omega)]; rfl, fun h => by rw [if_neg (by omega)]; rfl⟩
          · rintro ys S' ⟨rfl, rfl⟩
            rw [rangeD_len, valsOf_map', isO_some]
            have hil : (intsN (mineF sh e sh.length)).length = (mineF sh e sh.length).length := by unfold intsN; rw [List.length_map]
            refine ⟨by omega, ?_⟩
            refine wp_collect (fun i ys S' => S' = [c0, .lst told, .lst pr] ∧ ys = List.replicate i .none) ⟨rfl, rfl⟩ ?_ ?_
            · rintro i x ys S' hx ⟨rfl, rfl⟩
              simp [wp_compF, List.replicate_succ']
            · rintro ys S' ⟨rfl, rfl⟩
              rw [hil, valsOf_map', isO_some]
              refine inner told _ _ _ _ _ _ _ _ _ (fun a ha => ⟨mineF_lt ha, by rw [List.length_replicate]; exact okE e he hfe a ha⟩) hp fun o6 => ?_
              simp
              refine ⟨by omega, ?_⟩
              exact ih _ _ _ _ _ _ _ hr' (by rw [dueIn_len.2]; exact hp) (by simp; omega) q
        · rw [if_neg (by rw [hg]; simp [hf])] at q
          simp [ws_forF, hrow, hf]
          exact ih _ _ _ _ _ _ _ hr' hp (by omega) q
    exact outer _ _ _ _ _ _ _ _ (fun e he => List.mem_range.mp he) hpl (by simp; omega) q
end Tr


namespace Tr
open PySem L2
open PySem.Spec PyProof.Rows
def rowSh (n r : Nat) : Sh := (List.range n).map fun l => (decide (l + 1 = n), r, l)
def rowsSh : List Nat → Nat → Sh
  | [], _ => []
  | n :: ns, r => rowSh n r ++ rowsSh ns (r + 1)
def rot (b : Nat) (sh : Sh) : Sh := sh.drop b ++ sh.take b
def agreeB (sh : Sh) : Bool :=
  rangeOk sh && (sameD (passD (sh.map (·.1))) (.tuple (dueF sh).1) && (sm 3 (.tuple (dueF sh).1) && (List.range sh.length).all fun s => match (dueF sh).2[s]? with
    | some d => sameD (levelD (sh.map (·.1)) (s : Nat)) d && sm 3 d
    | none => false))
def gens : Nat → Nat → List (List Nat)
  | 0, _ => [[]]
  | k + 1, rest => [] :: (List.range (rest - 1)).flatMap fun i => (gens k (rest - (i + 2))).map ((i + 2) :: ·)
theorem gens_mem : ∀ {k rest : Nat} {l : List Nat}, l.length ≤ k → (∀ n ∈ l, 2 ≤ n) → l.sum ≤ rest → l ∈ gens k rest
  | 0, _, [], _, _, _ => List.mem_singleton.mpr rfl
  | 0, _, _ :: _, h, _, _ => by simp at h
  | k + 1, _, [], _, _, _ => List.mem_cons_self
  | k + 1, rest, n :: l, h1, h2, h3 => by
    have hn := h2 n List.mem_cons_self
    simp only [List.sum_cons] at h3
    refine List.mem_cons_of_mem _ (List.mem_flatMap.mpr ⟨n - 2, List.mem_range.mpr (by omega), List.mem_map.mpr ⟨l, gens_mem (by simpa using h1) (fun m hm => h2 m (List.mem_cons_of_mem _ hm)) (by omega), ?_⟩⟩)
    rw [show n - 2 + 2 = n by omega]
def allB : Bool := (gens 5 10).all fun lens => (List.range lens.sum).all fun b => agreeB (rot b (rowsSh lens 0))
theorem all_ok : allB = true := by decide +kernel
end Tr


namespace Tr
open PySem L2
open PySem.Spec PyProof.Rows
def stopB (d : PyData) : Bool := match d with
  | .tuple (.str g :: _) => decide (g = Str.ofString "stop")
  | _ => false
def meetB (d : PyData) : Bool := match d with
  | .tuple (.str g :: _) => decide (g = Str.ofString "meet")
  | _ => false
def mB (d : PyData) : Bool := meetB d || stopB d
theorem eqv_str {x y : Str} : PyData.eqv (.str x) (.str y) = decide (x = y) := by
  unfold PyData.eqv
  by_cases h : x = y
  · subst h; simp
  · simp [h]
theorem inMS {g : Str} : inD (.str g) [.str (Str.ofString "meet"), .str (Str.ofString "stop")] = some (decide (g = Str.ofString "meet") || decide (g = Str.ofString "stop")) := by
  unfold inD
  rw [if_pos ⟨rfl, by decide⟩]
  simp only [List.any_cons, List.any_nil, eqv_str, Bool.or_false, eq_comm]
def cntM (ss : List PyData) : Nat := ss.countP mB
def manyM (ss : List PyData) : Int := if (cntM ss : Int) > 1 then (cntM ss : Int) else 1
theorem cntM_take {ss : List PyData} {i : Nat} {s : PyData} (e : ss[i]? = some s) : cntM (ss.take (i + 1)) = cntM (ss.take i) + if mB s = true then 1 else 0 := by
  unfold cntM
  rw [List.take_add_one, e, List.countP_append]
  by_cases h : mB s = true <;> simp [h]
theorem cntM_le {ss : List PyData} : cntM ss ≤ ss.length := List.countP_le_length
theorem manyM_pos {ss : List PyData} : 1 ≤ manyM ss := by unfold manyM; split <;> omega
theorem manyM_le {ss : List PyData} {n : Nat} (h : ss.length ≤ n) (h1 : 1 ≤ n) : manyM ss ≤ n := by
  have := cntM_le (ss := ss)
  unfold manyM; split <;> omega
theorem manyT_wp {P : Prg} (h11 : P 11 = some F11_law_many) {d b0 : Nat} {S : Store} {ss : List PyData} (hs : ∀ s ∈ ss, isGate s) (hl : ss.length ≤ 1000) {Q : A → Store → Prop} {E : XQ} (q : Q (.val (.int (manyM ss))) S) :
    wpR (callP P (d + 1) b0 11 [.val (.tuple ss)] S) Q E := by
  refine wp_callF h11 rfl ⟨rfl, by decide, rfl⟩ ?_
  simp [F11_law_many, List.replicate]
  refine ⟨by omega, ?_⟩
  refine wp_collect (fun i ys S' => S' = S ∧ ys.length = cntM (ss.take i)) ⟨rfl, by simp [cntM]⟩ ?_ ?_
  · rintro i e ys S' he ⟨rfl, hy⟩
    obtain ⟨g, es, rfl⟩ := hs _ (List.mem_of_getElem? he)
    rw [cntM_take he]
    simp [wp_compF, inMS, mB, stopB, meetB, hy]
    by_cases h1 : g = Str.ofString "meet"
    · simp [h1]
    · by_cases h2 : g = Str.ofString "stop"
      · simp [h2]
      · simp [h1, h2]
  · rintro ys S' ⟨rfl, hy⟩
    rw [List.take_length] at hy
    simp [hy]
    exact q
theorem manyL_wp {P : Prg} (h11 : P 11 = some F11_law_many) {d b0 : Nat} {S : Store} {ss : List PyData} (hs : ∀ s ∈ ss, isGate s) (hl : ss.length ≤ 1000) {Q : A → Store → Prop} {E : XQ} (q : Q (.val (.int (manyM ss))) S) :
    wpR (callP P (d + 1) b0 11 [.val (.list ss)] S) Q E := by
  refine wp_callF h11 rfl ⟨rfl, by decide, rfl⟩ ?_
  simp [F11_law_many, List.replicate]
  refine ⟨by omega, ?_⟩
  refine wp_collect (fun i ys S' => S' = S ∧ ys.length = cntM (ss.take i)) ⟨rfl, by simp [cntM]⟩ ?_ ?_
  · rintro i e ys S' he ⟨rfl, hy⟩
    obtain ⟨g, es, rfl⟩ := hs _ (List.mem_of_getElem? he)
    rw [cntM_take he]
    simp [wp_compF, inMS, mB, stopB, meetB, hy]
    by_cases h1 : g = Str.ofString "meet"
    · simp [h1]
    · by_cases h2 : g = Str.ofString "stop"
      · simp [h2]
      · simp [h1, h2]
  · rintro ys S' ⟨rfl, hy⟩
    rw [List.take_length] at hy
    simp [hy]
    exact q
/-- a tuple of few short words -/
def OptOk (d : PyData) : Prop := ∃ ys : List PyData, d = .tuple ys ∧ ys.length ≤ 12 ∧ ∀ y ∈ ys, sm 0 y = true
def RowOk (d : PyData) : Prop := ∃ a b c e f, d = .tuple [a, b, c, e, f] ∧ OptOk a ∧ OptOk b ∧ OptOk c ∧ OptOk e ∧ OptOk f
theorem OptOk.sm {d : PyData} (h : OptOk d) : Tr.sm 1 d = true := by
  obtain ⟨ys, rfl, h1, h2⟩ := h
  unfold Tr.sm
  rw [decide_eq_true (show ys.length ≤ 20 by omega), List.all_eq_true.mpr h2]
  rfl
theorem sm_up0 {d : PyData} (h : sm 1 d = true) : sm 2 d = true := by
  cases d with
  | tuple xs =>
    unfold sm at h ⊢
    obtain ⟨h1, h2⟩ := ba h
    rw [h1, Bool.true_and]
    refine List.all_eq_true.mpr fun y hy => ?_
    have := List.all_eq_true.mp h2 y hy
    cases y <;> first | exact this | (unfold sm at this; cases this)
  | list xs =>
    unfold sm at h ⊢
    obtain ⟨h1, h2⟩ := ba h
    rw [h1, Bool.true_and]
    refine List.all_eq_true.mpr fun y hy => ?_
    have := List.all_eq_true.mp h2 y hy
    cases y <;> first | exact this | (unfold sm at this; cases this)
  | _ => first | exact h | (unfold sm at h; cases h)
theorem RowOk.sm {d : PyData} (h : RowOk d) : Tr.sm 3 d = true := by
  obtain ⟨a, b, c, e, f, rfl, h1, h2, h3, h4, h5⟩ := h
  unfold Tr.sm
  simp only [List.all_cons, List.all_nil, sm_up0 h1.sm, sm_up0 h2.sm, sm_up0 h3.sm, sm_up0 h4.sm, sm_up0 h5.sm]
  rfl
theorem menus_short : ∀ m ∈ MENUS, ∃ l, m = .list l ∧ l.length ≤ 12 ∧ ∀ y ∈ l, sm 0 y = true := by
  intro m hm
  simp only [MENUS, List.mem_cons, List.not_mem_nil, or_false] at hm
  rcases hm with rfl | rfl | rfl | rfl | rfl <;> exact ⟨_, rfl, by decide, List.all_eq_true.mp (by decide +kernel)⟩
theorem row0S_wp {P : Prg} (h5 : P 5 = some F5_law_take) (h8 : P 8 = some F8_law_puts) (h9 : P 9 = some F9_law_menus) (h10 : P 10 = some F10_law_some) (h12 : P 12 = some F12_law_row) {d b0 K : Nat} {T : Store} {p : List PyData} {Q : A → Store → Prop} {E : XQ} (ok : PoolOk (K + 600) p)
    (q : ∀ r p', PoolOk K p' → RowOk r → Q (.val r) (.lst p' :: T)) : wpR (callP P (d + 3) b0 12 [.ref 0, .val (.int 0)] (.lst p :: T)) Q E := by
  refine wp_callF h12 rfl ⟨rfl, by decide, rfl⟩ ?_
  simp [F12_law_row, List.replicate]
  refine menus_wp h8 h9 ?_
  simp
  refine ⟨by decide, ?_⟩
  refine wp_collect (fun i ys S => ∃ p', S = .lst p' :: T ∧ PoolOk (K + (600 - 110 * i)) p' ∧ ys.length = i ∧ ∀ y ∈ ys, OptOk y) ⟨_, rfl, ok, rfl, by simp⟩ ?_ ?_
  · rintro i e ys S he ⟨p', rfl, ok', hyl, hy⟩
    have hi : i < 5 := (List.getElem?_eq_some_iff.mp he).1
    obtain ⟨m, rfl, hm, hms⟩ := menus_short e (List.mem_of_getElem? he)
    simp [wp_compF]
    refine some_wp (K := K + (600 - 110 * (i + 1))) h5 h10 (ok'.mono (by omega)) (by omega) fun ys2 p3 ok3 m1 m2 => ?_
    simp
    refine ⟨ok3, hyl, fun y h => h.elim (hy y) fun z => ?_⟩
    subst z
    exact ⟨ys2, rfl, by omega, fun y hy => hms y (m1 y hy)⟩
  · rintro ys S ⟨p', rfl, ok', hyl, hy⟩
    simp
    refine q _ _ (ok'.mono (by omega)) ?_
    match ys, hyl, hy with
    | [a, b, c, e, f], _, hy => exact ⟨a, b, c, e, f, rfl, hy a (by simp), hy b (by simp), hy c (by simp), hy e (by simp), hy f (by simp)⟩
end Tr


namespace Tr
open PySem L2
open PySem.Spec PyProof.Rows
def F14_law_ring : Fn := ⟨1, 12, false, true, [
    .set 1 (.call 5 [(.var 0), (.const (.int 5))]),
    .set 2 (.bin .add (.const (.int 1)) (.call 5 [(.var 0), (.bin .sub (.const (.int 5)) (.bin .fdiv (.blt .int [(.bin .add (.var 1) (.const (.int 1)))]) (.const (.int 2))))])),
    .par [6, 7, 8] [(.newm [11] (.range [(.var 2)]) none (.newc (.lst []))), (.newc (.comp [11] (.range [(.var 2)]) none (.const (.int 0)))), (.newc (.lst []))],
    .fors [3] (.range [(.var 1)]) [.set 4 (.call 5 [(.var 0), (.var 2)]), .mth .append (.idx (.var 6) (.var 4)) [(.call 6 [(.var 0), (.lst [(.const (.str "stop")), (.const (.str "meet"))])])]],
    .fors [3] (.range [(.call 5 [(.var 0), (.bin .sub (.bin .sub (.const (.int 11)) (.bin .mul (.const (.int 2)) (.var 2))) (.var 1))])]) [.set 4 (.call 5 [(.var 0), (.bin .mul (.const (.int 2)) (.var 2))]), .ifs (.cmp .lt (.var 4) (.var 2)) [.mth .insert (.idx (.var 6) (.var 4)) [(.call 5 [(.var 0), (.bin .add (.len (.idx (.var 6) (.var 4))) (.const (.int 1)))]), (.const (.str "now"))]] [.augPut (.var 7) (.bin .sub (.var 4) (.var 2)) .add (.const (.int 1))]],
    .fors [4] (.range [(.var 2)]) [.set 9 (.bin .add (.bin .add (.bin .add (.idx (.var 6) (.var 4)) (.lst [(.call 6 [(.var 0), (.lst [(.const (.str "look")), (.const (.str "gather"))])])])) (.comp [3] (.range [(.idx (.var 7) (.var 4))]) none (.const (.str "now")))) (.lst [(.const (.str "free"))])), .fors [10] (.range [(.len (.var 9))]) [.mth .append (.var 8) [(.tup [(.idx (.var 9) (.var 10)), (.call 13 [(.var 0), (.idx (.var 9) (.var 10))]), (.var 4), (.var 10)])]]],
    .set 5 (.call 5 [(.var 0), (.len (.var 8))]),
    .ret (.bin .add (.slice (.var 8) (some (.var 5)) none) (.slice (.var 8) none (some (.var 5))))]⟩
def F15_law_worded : Fn := ⟨3, 7, false, true, [
    .set 3 (.blt .tuple [(.comp [5] (.seq (.var 2)) none (.tup [(.idx (.var 5) (.const (.int 0))), (.idx (.var 5) (.const (.int 1)))]))]),
    .set 4 (.blt .tuple [(.comp [6] (.range [(.call 11 [(.var 3)])]) none (.call 12 [(.var 0), (.const (.int 0))]))]),
    .ret (.tup [(.const (.str "sweeper")), (.var 1), (.bin .add (.const (.int 1)) (.call 5 [(.var 0), (.const (.int 2))])), (.var 3), (.var 4)])]⟩
theorem RingOk.app {a b : List PyData} {s t : Sh} (h : RingOk a s) (g : RingOk b t) : RingOk (a ++ b) (s ++ t) := by
  refine ⟨by rw [List.length_append, List.length_append, h.1, g.1], fun i hi => ?_⟩
  rw [List.length_append] at hi
  by_cases hl : i < s.length
  · obtain ⟨d, h1, h2⟩ := h.2 i hl
    exact ⟨d, by rw [List.getElem?_append_left (by rw [h.1]; exact hl)]; exact h1, by
      rw [List.getD_eq_getElem?_getD, List.getElem?_append_left hl, ← List.getD_eq_getElem?_getD]; exact h2⟩
  · obtain ⟨d, h1, h2⟩ := g.2 (i - s.length) (by omega)
    exact ⟨d, by rw [List.getElem?_append_right (by rw [h.1]; omega), h.1]; exact h1, by
      rw [List.getD_eq_getElem?_getD, List.getElem?_append_right (by omega), ← List.getD_eq_getElem?_getD]; exact h2⟩
theorem RingOk.one {d : PyData} {s : Bool × Nat × Nat} (h : ItemOk d s) : RingOk [d] [s] := ⟨rfl, fun i hi => by
  have : i = 0 := by simp at hi; omega
  subst this
  exact ⟨d, rfl, h⟩⟩
theorem RingOk.nil : RingOk [] [] := ⟨rfl, fun i hi => absurd hi (Nat.not_lt_zero _)⟩
theorem RingOk.drop {a : List PyData} {s : Sh} (h : RingOk a s) (n : Nat) : RingOk (a.drop n) (s.drop n) := by
  refine ⟨by rw [List.length_drop, List.length_drop, h.1], fun i hi => ?_⟩
  rw [List.length_drop] at hi
  obtain ⟨d, h1, h2⟩ := h.2 (n + i) (by omega)
  exact ⟨d, by rw [List.getElem?_drop]; exact h1, by rw [List.getD_eq_getElem?_getD, List.getElem?_drop, ← List.getD_eq_getElem?_getD]; exact h2⟩
theorem RingOk.take {a : List PyData} {s : Sh} (h : RingOk a s) (n : Nat) : RingOk (a.take n) (s.take n) := by
  refine ⟨by rw [List.length_take, List.length_take, h.1], fun i hi => ?_⟩
  rw [List.length_take] at hi
  obtain ⟨d, h1, h2⟩ := h.2 i (by omega)
  exact ⟨d, by rw [List.getElem?_take_of_lt (by omega)]; exact h1, by rw [List.getD_eq_getElem?_getD, List.getElem?_take_of_lt (by omega), ← List.getD_eq_getElem?_getD]; exact h2⟩
theorem rowsSh_app : ∀ {l : List Nat} {n r : Nat}, rowsSh (l ++ [n]) r = rowsSh l r ++ rowSh n (r + l.length)
  | [], n, r => by simp [rowsSh]
  | a :: l, n, r => by
    rw [List.cons_append, rowsSh, rowsSh_app, rowsSh, List.append_assoc, List.length_cons]
    congr 3
    omega
theorem rowsSh_len : ∀ {l : List Nat} {r : Nat}, (rowsSh l r).length = l.sum
  | [], _ => rfl
  | a :: l, r => by rw [rowsSh, List.length_append, rowsSh_len, List.sum_cons]; simp [rowSh]
/-- a ring's stages -/
def stageOf (d : PyData) : PyData := match d with
  | .tuple (a :: b :: _) => .tuple [a, b]
  | d => d
theorem stages_of {ring : List PyData} {sh : Sh} (h : RingOk ring sh) : (ring.map stageOf).map gateB = sh.map (·.1) ∧ (∀ s ∈ ring.map stageOf, isGate s) ∧ ∀ s ∈ ring.map stageOf, StageOk s := by
  have at_ : ∀ i d, ring[i]? = some d → i < sh.length ∧ ItemOk d (sh.getD i (false, 0, 0)) := fun i d e => by
    have hi : i < sh.length := by rw [← h.1]; exact (List.getElem?_eq_some_iff.mp e).1
    obtain ⟨d', h1, h2⟩ := h.2 i hi
    rw [e] at h1
    cases h1
    exact ⟨hi, h2⟩
  refine ⟨List.ext_getElem? fun i => ?_, fun s hs => ?_, fun s hs => ?_⟩
  · rw [List.map_map, List.getElem?_map, List.getElem?_map]
    cases e : ring[i]? with
    | none =>
      have : sh.length ≤ i := by rw [← h.1]; exact List.getElem?_eq_none_iff.mp e
      rw [List.getElem?_eq_none this]
      rfl
    | some d =>
      obtain ⟨hi, g, es, rfl, hf, _⟩ := at_ i d e
      rw [List.getElem?_eq_getElem hi]
      rw [List.getD_eq_getElem?_getD, List.getElem?_eq_getElem hi] at hf
      exact congrArg some hf.symm
  · obtain ⟨d, hd, rfl⟩ := List.mem_map.mp hs
    obtain ⟨i, e⟩ := List.mem_iff_getElem?.mp hd
    obtain ⟨hi, g, es, rfl, hf, _⟩ := at_ i d e
    exact ⟨g, _, rfl⟩
  · obtain ⟨d, hd, rfl⟩ := List.mem_map.mp hs
    obtain ⟨i, e⟩ := List.mem_iff_getElem?.mp hd
    obtain ⟨hi, g, es, rfl, hf, h1, h2⟩ := at_ i d e
    exact ⟨g, es, rfl, h1, h2⟩
def refsL (M : Nat) : List A := (List.range M).map fun i => .ref (i + 1)
def Tl (hs : List (List PyData)) (M : Nat) (tl : List Nat) (rg : List PyData) : Store := hs.map Cell.lst ++ [.refs (refsL M), .lst (intsN tl), .lst rg]
section
variable {p : Cell} {hs : List (List PyData)} {M : Nat} {tl : List Nat} {rg : List PyData}
theorem g_head {i : Nat} {h : List PyData} (e : hs[i]? = some h) : (Tl hs M tl rg)[i]? = some (.lst h) := by
  unfold Tl
  rw [List.getElem?_append_left (by rw [List.length_map]; exact (List.getElem?_eq_some_iff.mp e).1), List.getElem?_map, e]
  rfl
theorem g_refs (e : hs.length = M) : (Tl hs M tl rg)[M]? = some (.refs (refsL M)) := by
  unfold Tl
  rw [List.getElem?_append_right (by rw [List.length_map]; omega), List.length_map, e, Nat.sub_self]
  rfl
theorem g_tl (e : hs.length = M) : (Tl hs M tl rg)[M + 1]? = some (.lst (intsN tl)) := by
  unfold Tl
  rw [List.getElem?_append_right (by rw [List.length_map]; omega), List.length_map, e, show M + 1 - M = 1 by omega]
  rfl
theorem g_rg (e : hs.length = M) : (Tl hs M tl rg)[M + 2]? = some (.lst rg) := by
  unfold Tl
  rw [List.getElem?_append_right (by rw [List.length_map]; omega), List.length_map, e, show M + 2 - M = 2 by omega]
  rfl
theorem s_head {i : Nat} {x : List PyData} (h : i < hs.length) : (Tl hs M tl rg).set i (.lst x) = Tl (hs.set i x) M tl rg := by
  unfold Tl
  rw [List.set_append_left _ _ (by rw [List.length_map]; exact h), List.map_set]
theorem s_tl {x : List Nat} (e : hs.length = M) : (Tl hs M tl rg).set (M + 1) (.lst (intsN x)) = Tl hs M x rg := by
  unfold Tl
  rw [List.set_append_right _ _ (by rw [List.length_map]; omega), List.length_map, e, show M + 1 - M = 1 by omega]
  rfl
theorem s_rg {x : List PyData} (e : hs.length = M) : (Tl hs M tl rg).set (M + 2) (.lst x) = Tl hs M tl x := by
  unfold Tl
  rw [List.set_append_right _ _ (by rw [List.length_map]; omega), List.length_map, e, show M + 2 - M = 2 by omega]
  rfl
theorem at_refsL {r : Int} (h0 : 0 ≤ r) (h1 : r < M) : atI (refsL M) r = some (.ref (r.toNat + 1)) := by
  refine atI_of h0 ?_
  unfold refsL
  rw [List.getElem?_map, List.getElem?_range (by omega)]
  rfl
end
/-- no free gate -/
def GateS (x : PyData) : Prop := ∃ g : Str, x = .str g ∧ g ≠ Str.ofString "free"
def HeadsOk (hs : List (List PyData)) : Prop := ∀ h ∈ hs, ∀ x ∈ h, GateS x
def total (hs : List (List PyData)) : Nat := (hs.map List.length).sum
theorem sum_set : ∀ {l : List Nat} {i : Nat} {x y : Nat}, l[i]? = some x → (l.set i y).sum + x = l.sum + y
  | [], _, _, _, h => by simp at h
  | a :: l, 0, x, y, h => by
    simp at h
    subst h
    simp only [List.set_cons_zero, List.sum_cons]
    omega
  | a :: l, i + 1, x, y, h => by
    have := sum_set (l := l) (i := i) (x := x) (y := y) (by simpa using h)
    simp only [List.set_cons_succ, List.sum_cons]
    omega
theorem total_set {hs : List (List PyData)} {i : Nat} {h h' : List PyData} (e : hs[i]? = some h) : total (hs.set i h') + h.length = total hs + h'.length := by
  unfold total
  rw [List.map_set]
  exact sum_set (by rw [List.getElem?_map, e]; rfl)
theorem heads_set {hs : List (List PyData)} {i : Nat} {h' : List PyData} (h : HeadsOk hs) (g : ∀ x ∈ h', GateS x) : HeadsOk (hs.set i h') := fun y hy => by
  rcases List.mem_or_eq_of_mem_set hy with z | z
  · exact h y z
  · exact z ▸ g
def KEYS : List PyData := [.str (Str.ofString "stop"), .str (Str.ofString "meet")]
theorem gate_in {l : List String} {x : PyData} (h : x ∈ strsL l) (hl : l.all fun s => decide (Str.ofString s ≠ Str.ofString "free")) : GateS x := by
  obtain ⟨s, hs, rfl⟩ := List.mem_map.mp h
  exact ⟨_, rfl, of_decide_eq_true (List.all_eq_true.mp hl s hs)⟩
theorem len_total {hs : List (List PyData)} {i : Nat} {h : List PyData} (e : hs[i]? = some h) : h.length ≤ total hs := by
  have := total_set (h' := []) e
  simp at this
  omega
theorem ints_set : ∀ {l : List Nat} {i x : Nat}, (intsN l).set i (.int (x : Nat)) = intsN (l.set i x)
  | [], _, _ => rfl
  | a :: l, 0, x => rfl
  | a :: l, i + 1, x => by
    rw [intsN_cons, List.set_cons_succ, ints_set, List.set_cons_succ, intsN_cons]
theorem ints_at {l : List Nat} {i x : Nat} (h : l[i]? = some x) : (intsN l)[i]? = some (.int (x : Nat)) := by
  unfold intsN
  rw [List.getElem?_map, h]; rfl
theorem ints_len {l : List Nat} : (intsN l).length = l.length := by unfold intsN; rw [List.length_map]
/-- the gates of a row -/
def gatesOf (h : List PyData) (mid : PyData) (t : Nat) : List PyData := h ++ [mid] ++ List.replicate t (.str (Str.ofString "now")) ++ [.str (Str.ofString "free")]
theorem gates_len {h : List PyData} {mid : PyData} {t : Nat} : (gatesOf h mid t).length = h.length + t + 2 := by
  unfold gatesOf
  simp
  omega
theorem gates_at {h : List PyData} {mid : PyData} {t : Nat} (ho : ∀ x ∈ h, GateS x) (hm : GateS mid) {j : Nat} (hj : j < h.length + t + 2) : ∃ g, (gatesOf h mid t)[j]? = some (.str g) ∧ decide (j + 1 = h.length + t + 2) = decide (g = Str.ofString "free") := by
  unfold gatesOf
  by_cases hl : j + 1 = h.length + t + 2
  · refine ⟨Str.ofString "free", ?_, by simp [hl]⟩
    rw [List.getElem?_append_right (by simp; omega)]
    rw [show j - (h ++ [mid] ++ List.replicate t (PyData.str (Str.ofString "now"))).length = 0 by simp; omega]
    rfl
  · have hlt : j < (h ++ [mid] ++ List.replicate t (PyData.str (Str.ofString "now"))).length := by simp; omega
    rw [List.getElem?_append_left hlt]
    have key : ∀ x ∈ h ++ [mid] ++ List.replicate t (PyData.str (Str.ofString "now")), GateS x := fun x hx => by
      rcases List.mem_append.mp hx with z | z
      · rcases List.mem_append.mp z with z | z
        · exact ho x z
        · have e : x = mid := by simpa using z
          exact e ▸ hm
      · rw [List.eq_of_mem_replicate z]
        exact ⟨_, rfl, by decide⟩
    obtain ⟨g, e, ng⟩ := key _ (List.getElem_mem hlt)
    refine ⟨g, by rw [List.getElem?_eq_getElem hlt, e], ?_⟩
    rw [decide_eq_false hl, decide_eq_false ng]
theorem take_sum : ∀ (l : List Nat) (i : Nat), (l.take i).sum ≤ l.sum
  | [], i => by simp
  | a :: l, 0 => by simp
  | a :: l, i + 1 => by
    have := take_sum l i
    simp only [List.take_succ_cons, List.sum_cons]
    omega
def rowUp (n r j : Nat) : Sh := (List.range j).map fun l => (decide (l + 1 = n), r, l)
theorem rowUp_succ {n r j : Nat} : rowUp n r (j + 1) = rowUp n r j ++ [(decide (j + 1 = n), r, j)] := by
  unfold rowUp
  rw [List.range_succ, List.map_append]
  rfl
theorem rowUp_all {n r : Nat} : rowUp n r n = rowSh n r := rfl
theorem ring_wp {P : Prg} (h5 : P 5 = some F5_law_take) (h6 : P 6 = some F6_law_pick) (h13 : P 13 = some F13_law_effects) (h14 : P 14 = some F14_law_ring) {d b0 K : Nat} {p : List PyData} {Q : A → Store → Prop} {E : XQ} (ok : PoolOk (K + 100000) p)
    (q : ∀ ring p' lens b, PoolOk K p' → RingOk ring (rot b (rowsSh lens 0)) → lens ∈ gens 5 10 → b < lens.sum → Q (.val (.list ring)) [.lst p']) : wpR (callP P (d + 3) b0 14 [.ref 0] [.lst p]) Q E := by
  refine wp_callF h14 rfl ⟨rfl, by decide, rfl⟩ ?_
  simp [F14_law_ring, List.replicate]
  refine take_wp (K := K + 99000) h5 (ok.mono (by omega)) (by omega) fun w p1 ok1 w0 w1 => ?_
  have hf : (w + 1).fdiv 2 = (w + 1) / 2 := Int.fdiv_eq_ediv_of_nonneg _ (by omega)
  simp [hf]
  refine take_wp (K := K + 98000) h5 (ok1.mono (by omega)) (by omega) fun r p2 ok2 r0 r1 => ?_
  obtain ⟨M, hM⟩ : ∃ M : Nat, 1 + r = (M : Int) := ⟨(1 + r).toNat, by omega⟩
  obtain ⟨Wt, hW⟩ : ∃ Wt : Nat, w = (Wt : Int) := ⟨w.toNat, by omega⟩
  subst hW
  have hM1 : 1 ≤ M := by omega
  have hM5 : M ≤ 5 := by omega
  have hMW : Wt + 2 * M ≤ 10 := by omega
  have hW5 : Wt ≤ 4 := by omega
  simp [hM]
  refine ⟨by omega, by omega, ?_⟩
  refine wp_collectA (fun i ys S => S = .lst p2 :: List.replicate i (.lst []) ∧ ys = refsL i) ⟨rfl, rfl⟩ ?_ ?_
  · rintro i e ys S he ⟨rfl, rfl⟩
    rw [List.getElem?_map] at he
    obtain ⟨x, _, rfl⟩ := Option.map_eq_some_iff.mp he
    simp [wp_compF, List.replicate_succ', refsL, List.range_succ]
  · rintro ys S ⟨rfl, rfl⟩
    rw [List.length_map, rangeD_len]
    refine ⟨by omega, by omega, ?_⟩
    refine wp_collect (fun i ys S => S = (.lst p2 :: List.replicate M (.lst [])) ++ [.refs (refsL M)] ∧ ys = intsN (List.replicate i 0)) ⟨rfl, rfl⟩ ?_ ?_
    · rintro i e ys S he ⟨rfl, rfl⟩
      simp [wp_compF, List.replicate_succ', intsN_app]
      rfl
    · rintro ys S ⟨rfl, rfl⟩
      rw [rangeD_len, valsOf_map', isO_some]
      refine ⟨by omega, ?_⟩
      have eS : ((Cell.lst p2 :: List.replicate M (.lst [])) ++ [.refs (refsL M)]) ++ [.lst (intsN (List.replicate M 0)), .lst []] = .lst p2 :: Tl (List.replicate M []) M (List.replicate M 0) [] := by
        unfold Tl
        rw [List.map_replicate]
        simp
      have l1 : ((Cell.lst p2 :: List.replicate M (.lst []) : Store)).length = M + 1 := by simp
      have l2 : ((Cell.lst p2 :: List.replicate M (.lst [])) ++ [.refs (refsL M)] : Store).length = M + 2 := by simp
      rw [eS, l1, l2]
      -- keys
      refine ws_loop (fun i env S => ∃ p hs o3 o4, env = [some (.ref 0), some (.val (.int (Wt : Int))), some (.val (.int (M : Int))), o3, o4, none, some (.ref (M + 1)), some (.ref (M + 2)), some (.ref (M + 3)), none, none, none] ∧
        S = .lst p :: Tl hs M (List.replicate M 0) [] ∧ PoolOk (K + (97000 - 10 * i)) p ∧ hs.length = M ∧ HeadsOk hs ∧ total hs = i) ⟨p2, _, none, none, rfl, rfl, ok2.mono (by omega), by simp, (fun h hh x hx => by rw [List.eq_of_mem_replicate hh] at hx; cases hx), by simp [total]⟩ ?_ ?_
      · rintro i e env S he ⟨p, hs, o3, o4, rfl, rfl, okp, hl, ho, ht⟩
        have hi : i < Wt := by have := (List.getElem?_eq_some_iff.mp he).1; rw [rangeD_len] at this; exact this
        simp [ws_forF]
        refine take_wp (K := K + (97000 - 10 * i - 1)) h5 (okp.mono (by omega)) (by omega) fun at_ p3 ok3 a0 a1 => ?_
        have ha : at_.toNat < hs.length := by omega
        have hg : hs[at_.toNat]? = some hs[at_.toNat] := List.getElem?_eq_getElem ha
        simp [g_refs hl, at_refsL a0 (show at_ < M by omega), g_head hg]
        refine pick_wp (K := K + (97000 - 10 * (i + 1))) h5 h6 (ok3.mono (by omega)) (by simp) (by simp) fun x p4 ok4 hx => ?_
        have tot := total_set (h' := hs[at_.toNat] ++ [x]) hg
        simp [g_head hg, s_head ha]
        have lt := len_total hg
        refine ⟨by omega, p4, _, ⟨rfl, rfl⟩, ok4, by rw [List.length_set]; exact hl, heads_set ho fun y hy => ?_, ?_⟩
        · rcases List.mem_append.mp hy with z | z
          · exact ho _ (List.getElem_mem ha) y z
          · have e : y = x := by simpa using z
            subst e
            exact gate_in (l := ["stop", "meet"]) hx (by decide)
        · simp only [List.length_append, List.length_singleton] at tot
          omega
      · rintro env S ⟨p, hs, o3, o4, rfl, rfl, okp, hl, ho, ht⟩
        rw [rangeD_len] at okp ht
        simp
        refine take_wp (K := K + 95000) h5 (okp.mono (by omega)) (by omega) fun x pB okB x0 x1 => ?_
        obtain ⟨Xn, hX⟩ : ∃ Xn : Nat, x = (Xn : Int) := ⟨x.toNat, by omega⟩
        subst hX
        simp
        refine ⟨by omega, ?_⟩
        -- more stages
        refine ws_loop (fun i env S => ∃ p hs tl o3 o4, env = [some (.ref 0), some (.val (.int (Wt : Int))), some (.val (.int (M : Int))), o3, o4, none, some (.ref (M + 1)), some (.ref (M + 2)), some (.ref (M + 3)), none, none, none] ∧
          S = .lst p :: Tl hs M tl [] ∧ PoolOk (K + (94000 - 10 * i)) p ∧ hs.length = M ∧ tl.length = M ∧ HeadsOk hs ∧ total hs + tl.sum = Wt + i) ⟨pB, hs, List.replicate M 0, o3, o4, rfl, rfl, okB.mono (by omega), hl, by simp, ho, by simp [ht]⟩ ?_ ?_
        · rintro i e env S he ⟨p, hs, tl, o3, o4, rfl, rfl, okp, hl, htl, ho, ht⟩
          have hi : i < Xn := by have := (List.getElem?_eq_some_iff.mp he).1; rw [rangeD_len] at this; exact this
          simp [ws_forF]
          refine take_wp (K := K + (94000 - 10 * i - 1)) h5 (okp.mono (by omega)) (by omega) fun at_ p3 ok3 a0 a1 => ?_
          simp
          refine ⟨fun hlt => ?_, fun hge => ?_⟩
          · have ha : at_.toNat < hs.length := by omega
            have hg : hs[at_.toNat]? = some hs[at_.toNat] := List.getElem?_eq_getElem ha
            have lt := len_total hg
            simp [g_refs hl, at_refsL a0 (show at_ < M by omega), g_head hg]
            refine take_wp (K := K + (94000 - 10 * (i + 1))) h5 (ok3.mono (by omega)) (by omega) fun y p4 ok4 y0 y1 => ?_
            simp [g_head hg, s_head ha]
            have tot := total_set (h' := hs[at_.toNat].take y.toNat ++ PyData.str (Str.ofString "now") :: hs[at_.toNat].drop y.toNat) hg
            refine ⟨⟨by omega, y0, by omega⟩, p4, _, tl, ⟨rfl, rfl⟩, ok4, by rw [List.length_set]; exact hl, htl, heads_set ho fun z hz => ?_, ?_⟩
            · rcases List.mem_append.mp hz with z1 | z1
              · exact ho _ (List.getElem_mem ha) z (List.mem_of_mem_take z1)
              · rcases List.mem_cons.mp z1 with z1 | z1
                · exact ⟨_, z1, by decide⟩
                · exact ho _ (List.getElem_mem ha) z (List.mem_of_mem_drop z1)
            · simp only [List.length_append, List.length_cons, List.length_take, List.length_drop] at tot
              omega
          · obtain ⟨kk, hkk⟩ : ∃ kk : Nat, at_ - M = (kk : Int) := ⟨(at_ - M).toNat, by omega⟩
            have ha : kk < tl.length := by omega
            obtain ⟨v, hg⟩ : ∃ v, tl[kk]? = some v := ⟨_, List.getElem?_eq_getElem ha⟩
            have e1 : (intsN tl)[kk]? = some (.int (v : Int)) := ints_at hg
            have e2 : ixN (intsN tl).length (kk : Int) = some kk := by rw [ints_len]; exact ixN_of (by omega) (by omega)
            have sm := sum_set (y := v + 1) hg
            have e3 : (intsN tl).set kk (PyData.int ((v : Int) + 1)) = intsN (tl.set kk (v + 1)) := ints_set (x := v + 1)
            simp [g_tl hl, hkk, e1, e2, e3, s_tl hl]
            exact ⟨p3, hs, tl.set kk (v + 1), ⟨rfl, rfl⟩, ok3.mono (by omega), hl, by rw [List.length_set]; exact htl, ho, by omega⟩
        · rintro env S ⟨p, hs, tl, o3, o4, rfl, rfl, okp, hl, htl, ho, ht⟩
          rw [rangeD_len] at okp ht
          simp
          refine ⟨by omega, ?_⟩
          have hT : Wt + Xn + 2 * M ≤ 10 := by omega
          generalize hls : List.zipWith (fun (h : List PyData) (t : Nat) => h.length + t + 2) hs tl = lens
          have hll : lens.length = M := by rw [← hls, List.length_zipWith, hl, htl, Nat.min_self]
          have lat : ∀ (i : Nat) (hh : List PyData) (tt : Nat), hs[i]? = some hh → tl[i]? = some tt → lens[i]? = some (hh.length + tt + 2) := fun i hh tt e1 e2 => by
            rw [← hls, List.getElem?_zipWith, e1, e2]
          have lsum : lens.sum = total hs + tl.sum + 2 * M := by
            have : ∀ (hs : List (List PyData)) (tl : List Nat), hs.length = tl.length → (List.zipWith (fun (h : List PyData) (t : Nat) => h.length + t + 2) hs tl).sum = total hs + tl.sum + 2 * hs.length := by
              intro hs
              induction hs with
              | nil => intro tl h; cases tl with | nil => rfl | cons _ _ => cases h
              | cons h hs ih =>
                intro tl e
                cases tl with
                | nil => cases e
                | cons t tl =>
                  have := ih tl (by simpa using e)
                  simp only [List.zipWith_cons_cons, List.sum_cons, List.length_cons, total, List.map_cons] at this ⊢
                  omega
            rw [← hls, this hs tl (by omega), hl]
          have lge : ∀ n ∈ lens, 2 ≤ n := fun n hn => by
            obtain ⟨i, e⟩ := List.mem_iff_getElem?.mp hn
            have hi : i < M := by rw [← hll]; exact (List.getElem?_eq_some_iff.mp e).1
            have := lat i _ _ (List.getElem?_eq_getElem (by omega : i < hs.length)) (List.getElem?_eq_getElem (by omega : i < tl.length))
            rw [e] at this
            have := Option.some.inj this
            omega
          have lle : ∀ i n, lens[i]? = some n → n ≤ 10 := fun i n e => by
            have : ∀ (l : List Nat) (i n : Nat), l[i]? = some n → n ≤ l.sum := by
              intro l
              induction l with
              | nil => intro i n e; simp at e
              | cons a l ih =>
                intro i n e
                cases i with
                | zero => simp at e; simp; omega
                | succ i => have := ih i n (by simpa using e); simp; omega
            have := this lens i n e
            omega
          -- the ring
          refine ws_loop (fun i env S => ∃ p rg o3 o4 o9 o10, env = [some (.ref 0), some (.val (.int (Wt : Int))), some (.val (.int (M : Int))), o3, o4, none, some (.ref (M + 1)), some (.ref (M + 2)), some (.ref (M + 3)), o9, o10, none] ∧
            S = .lst p :: Tl hs M tl rg ∧ PoolOk (K + (90000 - 3000 * i)) p ∧ RingOk rg (rowsSh (lens.take i) 0)) ⟨p, [], o3, o4, none, none, rfl, rfl, okp.mono (by omega), RingOk.nil⟩ ?_ ?_
          · rintro i e env S he ⟨p, rg, o3, o4, o9, o10, rfl, rfl, okp, hr⟩
            have hi : i < M := by have := (List.getElem?_eq_some_iff.mp he).1; rw [rangeD_len] at this; exact this
            rw [rangeD_at _ _ _ hi] at he
            cases he
            obtain ⟨hh, hg⟩ : ∃ hh, hs[i]? = some hh := ⟨_, List.getElem?_eq_getElem (by omega : i < hs.length)⟩
            obtain ⟨tt, htg⟩ : ∃ tt, tl[i]? = some tt := ⟨_, List.getElem?_eq_getElem (by omega : i < tl.length)⟩
            have hlt := lat i hh tt hg htg
            have hn := lle i _ hlt
            have e1 : (refsL M)[i]? = some (.ref (i + 1)) := by unfold refsL; rw [List.getElem?_map, List.getElem?_range hi]; rfl
            simp [ws_forF, g_refs hl, e1, g_head hg]
            refine pick_wp (K := K + (90000 - 3000 * i - 1)) h5 h6 (okp.mono (by omega)) (by simp) (by simp) fun mid p4 ok4 hmid => ?_
            have hmg : GateS mid := gate_in (l := ["look", "gather"]) hmid (by decide)
            simp [g_head hg, g_tl hl, ints_at htg]
            refine ⟨by omega, by omega, by omega, ?_⟩
            refine wp_collect (fun i ys S => S = .lst p4 :: Tl hs M tl rg ∧ ys = List.replicate i (.str (Str.ofString "now"))) ⟨rfl, rfl⟩ ?_ ?_
            · rintro i e ys S he ⟨rfl, rfl⟩
              simp [wp_compF, List.replicate_succ']
            · rintro ys S ⟨rfl, rfl⟩
              rw [rangeD_len, valsOf_map', isO_some]
              have eg : hh ++ mid :: (List.replicate tt (PyData.str (Str.ofString "now")) ++ [.str (Str.ofString "free")]) = gatesOf hh mid tt := by unfold gatesOf; simp
              have egl : (gatesOf hh mid tt).length = hh.length + tt + 2 := gates_len
              have ho' : ∀ x ∈ hh, GateS x := ho hh (List.mem_of_getElem? hg)
              rw [List.length_replicate, eg, show hh.length + (1 + (tt + 1)) = hh.length + tt + 2 by omega]
              refine ⟨by omega, by omega, by omega, ?_⟩
              refine ws_loop (fun j env S => ∃ p rg o10, env = [some (.ref 0), some (.val (.int (Wt : Int))), some (.val (.int (M : Int))), o3, some (.val (.int (i : Int))), none, some (.ref (M + 1)), some (.ref (M + 2)), some (.ref (M + 3)), some (.val (.list (gatesOf hh mid tt))), o10, none] ∧
                S = .lst p :: Tl hs M tl rg ∧ PoolOk (K + (90000 - 3000 * i - 1 - 200 * j)) p ∧ RingOk rg (rowsSh (lens.take i) 0 ++ rowUp (hh.length + tt + 2) i j)) ⟨p4, rg, o10, rfl, rfl, ok4, by simpa [rowUp] using hr⟩ ?_ ?_
              · rintro j e env S he ⟨p, rg, o10, rfl, rfl, okp, hr⟩
                have hj : j < hh.length + tt + 2 := by have := (List.getElem?_eq_some_iff.mp he).1; rw [rangeD_len] at this; exact this
                rw [rangeD_at _ _ _ hj] at he
                cases he
                obtain ⟨g, hgat, hgd⟩ := gates_at (mid := mid) ho' hmg hj
                simp [ws_forF, hgat, g_rg hl]
                refine effects_wp (K := K + (90000 - 3000 * i - 1 - 200 * (j + 1))) h5 h13 (okp.mono (by omega)) fun ys p5 ok5 hys hyl => ?_
                simp [g_rg hl, s_rg hl]
                have hlen : rg.length ≤ 100 := by
                  rw [hr.1, List.length_append, rowsSh_len]
                  have := take_sum lens i
                  unfold rowUp
                  rw [List.length_map, List.length_range]
                  omega
                refine ⟨by omega, p5, _, ⟨rfl, rfl⟩, ok5, ?_⟩
                rw [rowUp_succ, ← List.append_assoc]
                exact RingOk.app hr (RingOk.one ⟨g, ys, rfl, hgd, hys, hyl⟩)
              · rintro env S ⟨p, rg, o10, rfl, rfl, okp, hr⟩
                rw [rangeD_len] at okp hr
                refine ⟨⟨_, _, _, _, rfl⟩, p, rg, rfl, okp.mono (by omega), ?_⟩
                rw [List.take_add_one, hlt]
                show RingOk rg (rowsSh (List.take i lens ++ [hh.length + tt + 2]) 0)
                rw [rowsSh_app, List.length_take, Nat.min_eq_left (by omega), Nat.zero_add]
                exact hr
          · rintro env S ⟨p, rg, o3, o4, o9, o10, rfl, rfl, okp, hr⟩
            rw [rangeD_len, List.take_of_length_le (by omega)] at hr
            rw [rangeD_len] at okp
            have hsum : lens.sum = Wt + Xn + 2 * M := by omega
            have hsl : rg.length = lens.sum := by rw [hr.1, rowsSh_len]
            simp [g_rg hl]
            refine take_wp (K := K) h5 (okp.mono (by omega)) (by omega) fun by_ pZ okZ b0 b1 => ?_
            simp [g_rg hl, cut_from b0, cut_to b0]
            refine ⟨by omega, ?_⟩
            have hgen : lens ∈ gens 5 10 := gens_mem (by omega) lge (by omega)
            exact q _ _ lens by_.toNat okZ (RingOk.app (RingOk.drop hr _) (RingOk.take hr _)) hgen (by omega)
theorem rot_len {lens : List Nat} {b : Nat} (h : b < lens.sum) : (rot b (rowsSh lens 0)).length = lens.sum := by
  unfold rot
  rw [List.length_append, List.length_drop, List.length_take, rowsSh_len]
  omega
theorem gens_sum : ∀ {k rest : Nat} {l : List Nat}, l ∈ gens k rest → l.sum ≤ rest
  | 0, _, l, h => by
    rw [List.mem_singleton.mp h]
    exact Nat.zero_le _
  | k + 1, rest, l, h => by
    rcases List.mem_cons.mp h with rfl | h
    · exact Nat.zero_le _
    · obtain ⟨i, hi, h⟩ := List.mem_flatMap.mp h
      obtain ⟨m, hm, rfl⟩ := List.mem_map.mp h
      have := gens_sum hm
      have := List.mem_range.mp hi
      simp only [List.sum_cons]
      omega
/-- a ring that all agree on -/
def GoodR (ring : List PyData) : Prop := ∃ sh : Sh, RingOk ring sh ∧ sh.length ≤ 10 ∧ agreeB sh = true
theorem good_of {ring : List PyData} {lens : List Nat} {b : Nat} (h : RingOk ring (rot b (rowsSh lens 0))) (hg : lens ∈ gens 5 10) (hb : b < lens.sum) : GoodR ring := by
  refine ⟨_, h, by rw [rot_len hb]; exact gens_sum hg, ?_⟩
  have := List.all_eq_true.mp all_ok lens hg
  exact List.all_eq_true.mp this b (List.mem_range.mpr hb)
theorem worded_wp {P : Prg} (h5 : P 5 = some F5_law_take) (h8 : P 8 = some F8_law_puts) (h9 : P 9 = some F9_law_menus) (h10 : P 10 = some F10_law_some) (h11 : P 11 = some F11_law_many) (h12 : P 12 = some F12_law_row) (h15 : P 15 = some F15_law_worded) {d b0 K : Nat} {p : List PyData} {name : PyData} {ring : List PyData} {Q : A → Store → Prop} {E : XQ} (ok : PoolOk (K + 100000) p) (hr : GoodR ring)
    (q : ∀ a0 a1 a2 rest p', PoolOk K p' → Q (.val (.tuple (a0 :: a1 :: a2 :: .tuple (ring.map stageOf) :: rest))) [.lst p']) : wpR (callP P (d + 4) b0 15 [.ref 0, .val name, .val (.list ring)] [.lst p]) Q E := by
  obtain ⟨sh, hr, hl, _⟩ := hr
  obtain ⟨g1, g2, g3⟩ := stages_of hr
  refine wp_callF h15 rfl ⟨rfl, by decide, rfl⟩ ?_
  simp [F15_law_worded, List.replicate]
  have hrl : ring.length ≤ 10 := by rw [hr.1]; exact hl
  refine ⟨by omega, ?_⟩
  refine wp_collect (fun i ys S => S = [.lst p] ∧ ys = (ring.take i).map stageOf) ⟨rfl, rfl⟩ ?_ ?_
  · rintro i e ys S he ⟨rfl, rfl⟩
    obtain ⟨hi, e1⟩ := List.getElem?_eq_some_iff.mp he
    obtain ⟨dd, h1, g, es, rfl, _⟩ := hr.2 i (by rw [← hr.1]; exact hi)
    rw [he] at h1
    cases h1
    simp [wp_compF, List.take_add_one, he, stageOf]
  · rintro ys S ⟨rfl, rfl⟩
    rw [List.take_length]
    generalize hss : ring.map stageOf = ss at g1 g2 g3 q
    have hsl : ss.length ≤ 10 := by rw [← hss, List.length_map]; exact hrl
    simp
    refine many_wp h11 g3 (by omega) fun n n0 n1 => ?_
    simp
    refine ⟨by omega, by omega, ?_⟩
    refine wp_collect (fun i ys S => ∃ p', S = [.lst p'] ∧ PoolOk (K + (90000 - 600 * i)) p') ⟨_, rfl, ok.mono (by omega)⟩ ?_ ?_
    · rintro i e ys S he ⟨p', rfl, okp⟩
      have hi := (List.getElem?_eq_some_iff.mp he).1
      rw [rangeD_len] at hi
      simp [wp_compF]
      refine row0_wp (K := K + (90000 - 600 * (i + 1))) h5 h8 h9 h10 h12 (okp.mono (by omega)) fun r p2 ok2 => ?_
      simp
      exact ok2
    · rintro ys S ⟨p', rfl, okp⟩
      rw [rangeD_len] at okp
      simp
      refine take_wp (K := K) h5 (okp.mono (by omega)) (by omega) fun r p3 ok3 r0 r1 => ?_
      simp

      exact q _ _ _ _ _ ok3
end Tr


namespace Tr
open PySem L2
open PySem.Spec PyProof.Rows
def F26_law_ring : Fn := ⟨1, 12, false, true, [
    .set 1 (.call 5 [(.var 0), (.const (.int 5))]),
    .set 2 (.bin .add (.const (.int 1)) (.call 5 [(.var 0), (.bin .sub (.const (.int 5)) (.bin .fdiv (.blt .int [(.bin .add (.var 1) (.const (.int 1)))]) (.const (.int 2))))])),
    .par [6, 7, 8] [(.newm [11] (.range [(.var 2)]) none (.newc (.lst []))), (.newc (.comp [11] (.range [(.var 2)]) none (.const (.int 0)))), (.newc (.lst []))],
    .fors [3] (.range [(.var 1)]) [.set 4 (.call 5 [(.var 0), (.var 2)]), .mth .append (.idx (.var 6) (.var 4)) [(.call 6 [(.var 0), (.lst [(.const (.str "stop")), (.const (.str "meet"))])])]],
    .fors [3] (.range [(.call 5 [(.var 0), (.bin .sub (.bin .sub (.const (.int 11)) (.bin .mul (.const (.int 2)) (.var 2))) (.var 1))])]) [.set 4 (.call 5 [(.var 0), (.bin .mul (.const (.int 2)) (.var 2))]), .ifs (.cmp .lt (.var 4) (.var 2)) [.mth .insert (.idx (.var 6) (.var 4)) [(.call 5 [(.var 0), (.bin .add (.len (.idx (.var 6) (.var 4))) (.const (.int 1)))]), (.const (.str "now"))]] [.augPut (.var 7) (.bin .sub (.var 4) (.var 2)) .add (.const (.int 1))]],
    .fors [4] (.range [(.var 2)]) [.set 9 (.bin .add (.bin .add (.bin .add (.idx (.var 6) (.var 4)) (.lst [(.call 6 [(.var 0), (.lst [(.const (.str "look")), (.const (.str "gather"))])])])) (.comp [3] (.range [(.idx (.var 7) (.var 4))]) none (.const (.str "now")))) (.lst [(.const (.str "free"))])), .fors [10] (.seq (.var 9)) [.mth .append (.var 8) [(.tup [(.var 10), (.call 13 [(.var 0), (.var 10)])])]]],
    .set 5 (.call 5 [(.var 0), (.len (.var 8))]),
    .ret (.bin .add (.slice (.var 8) (some (.var 5)) none) (.slice (.var 8) none (some (.var 5))))]⟩
theorem ring26_wp {P : Prg} (h5 : P 5 = some F5_law_take) (h6 : P 6 = some F6_law_pick) (h13 : P 13 = some F13_law_effects) (h26 : P 26 = some F26_law_ring) {d b0 K : Nat} {p : List PyData} {Q : A → Store → Prop} {E : XQ} (ok : PoolOk (K + 100000) p)
    (q : ∀ ring p', PoolOk K p' → (∀ s ∈ ring, StageOk s) → 2 ≤ ring.length → ring.length ≤ 10 → Q (.val (.list ring)) [.lst p']) : wpR (callP P (d + 3) b0 26 [.ref 0] [.lst p]) Q E := by
  refine wp_callF h26 rfl ⟨rfl, by decide, rfl⟩ ?_
  simp [F26_law_ring, List.replicate]
  refine take_wp (K := K + 99000) h5 (ok.mono (by omega)) (by omega) fun w p1 ok1 w0 w1 => ?_
  have hf : (w + 1).fdiv 2 = (w + 1) / 2 := Int.fdiv_eq_ediv_of_nonneg _ (by omega)
  simp [hf]
  refine take_wp (K := K + 98000) h5 (ok1.mono (by omega)) (by omega) fun r p2 ok2 r0 r1 => ?_
  obtain ⟨M, hM⟩ : ∃ M : Nat, 1 + r = (M : Int) := ⟨(1 + r).toNat, by omega⟩
  obtain ⟨Wt, hW⟩ : ∃ Wt : Nat, w = (Wt : Int) := ⟨w.toNat, by omega⟩
  subst hW
  have hM1 : 1 ≤ M := by omega
  have hM5 : M ≤ 5 := by omega
  have hMW : Wt + 2 * M ≤ 10 := by omega
  have hW5 : Wt ≤ 4 := by omega
  simp [hM]
  refine ⟨by omega, by omega, ?_⟩
  refine wp_collectA (fun i ys S => S = .lst p2 :: List.replicate i (.lst []) ∧ ys = refsL i) ⟨rfl, rfl⟩ ?_ ?_
  · rintro i e ys S he ⟨rfl, rfl⟩
    rw [List.getElem?_map] at he
    obtain ⟨x, _, rfl⟩ := Option.map_eq_some_iff.mp he
    simp [wp_compF, List.replicate_succ', refsL, List.range_succ]
  · rintro ys S ⟨rfl, rfl⟩
    rw [List.length_map, rangeD_len]
    refine ⟨by omega, by omega, ?_⟩
    refine wp_collect (fun i ys S => S = (.lst p2 :: List.replicate M (.lst [])) ++ [.refs (refsL M)] ∧ ys = intsN (List.replicate i 0)) ⟨rfl, rfl⟩ ?_ ?_
    · rintro i e ys S he ⟨rfl, rfl⟩
      simp [wp_compF, List.replicate_succ', intsN_app]
      rfl
    · rintro ys S ⟨rfl, rfl⟩
      rw [rangeD_len, valsOf_map', isO_some]
      refine ⟨by omega, ?_⟩
      have eS : ((Cell.lst p2 :: List.replicate M (.lst [])) ++ [.refs (refsL M)]) ++ [.lst (intsN (List.replicate M 0)), .lst []] = .lst p2 :: Tl (List.replicate M []) M (List.replicate M 0) [] := by
        unfold Tl
        rw [List.map_replicate]
        simp
      have l1 : ((Cell.lst p2 :: List.replicate M (.lst []) : Store)).length = M + 1 := by simp
      have l2 : ((Cell.lst p2 :: List.replicate M (.lst [])) ++ [.refs (refsL M)] : Store).length = M + 2 := by simp
      rw [eS, l1, l2]
      -- keys
      refine ws_loop (fun i env S => ∃ p hs o3 o4, env = [some (.ref 0), some (.val (.int (Wt : Int))), some (.val (.int (M : Int))), o3, o4, none, some (.ref (M + 1)), some (.ref (M + 2)), some (.ref (M + 3)), none, none, none] ∧
        S = .lst p :: Tl hs M (List.replicate M 0) [] ∧ PoolOk (K + (97000 - 10 * i)) p ∧ hs.length = M ∧ HeadsOk hs ∧ total hs = i) ⟨p2, _, none, none, rfl, rfl, ok2.mono (by omega), by simp, (fun h hh x hx => by rw [List.eq_of_mem_replicate hh] at hx; cases hx), by simp [total]⟩ ?_ ?_
      · rintro i e env S he ⟨p, hs, o3, o4, rfl, rfl, okp, hl, ho, ht⟩
        have hi : i < Wt := by have := (List.getElem?_eq_some_iff.mp he).1; rw [rangeD_len] at this; exact this
        simp [ws_forF]
        refine take_wp (K := K + (97000 - 10 * i - 1)) h5 (okp.mono (by omega)) (by omega) fun at_ p3 ok3 a0 a1 => ?_
        have ha : at_.toNat < hs.length := by omega
        have hg : hs[at_.toNat]? = some hs[at_.toNat] := List.getElem?_eq_getElem ha
        simp [g_refs hl, at_refsL a0 (show at_ < M by omega), g_head hg]
        refine pick_wp (K := K + (97000 - 10 * (i + 1))) h5 h6 (ok3.mono (by omega)) (by simp) (by simp) fun x p4 ok4 hx => ?_
        have tot := total_set (h' := hs[at_.toNat] ++ [x]) hg
        simp [g_head hg, s_head ha]
        have lt := len_total hg
        refine ⟨by omega, p4, _, ⟨rfl, rfl⟩, ok4, by rw [List.length_set]; exact hl, heads_set ho fun y hy => ?_, ?_⟩
        · rcases List.mem_append.mp hy with z | z
          · exact ho _ (List.getElem_mem ha) y z
          · have e : y = x := by simpa using z
            subst e
            exact gate_in (l := ["stop", "meet"]) hx (by decide)
        · simp only [List.length_append, List.length_singleton] at tot
          omega
      · rintro env S ⟨p, hs, o3, o4, rfl, rfl, okp, hl, ho, ht⟩
        rw [rangeD_len] at okp ht
        simp
        refine take_wp (K := K + 95000) h5 (okp.mono (by omega)) (by omega) fun x pB okB x0 x1 => ?_
        obtain ⟨Xn, hX⟩ : ∃ Xn : Nat, x = (Xn : Int) := ⟨x.toNat, by omega⟩
        subst hX
        simp
        refine ⟨by omega, ?_⟩
        -- more stages
        refine ws_loop (fun i env S => ∃ p hs tl o3 o4, env = [some (.ref 0), some (.val (.int (Wt : Int))), some (.val (.int (M : Int))), o3, o4, none, some (.ref (M + 1)), some (.ref (M + 2)), some (.ref (M + 3)), none, none, none] ∧
          S = .lst p :: Tl hs M tl [] ∧ PoolOk (K + (94000 - 10 * i)) p ∧ hs.length = M ∧ tl.length = M ∧ HeadsOk hs ∧ total hs + tl.sum = Wt + i) ⟨pB, hs, List.replicate M 0, o3, o4, rfl, rfl, okB.mono (by omega), hl, by simp, ho, by simp [ht]⟩ ?_ ?_
        · rintro i e env S he ⟨p, hs, tl, o3, o4, rfl, rfl, okp, hl, htl, ho, ht⟩
          have hi : i < Xn := by have := (List.getElem?_eq_some_iff.mp he).1; rw [rangeD_len] at this; exact this
          simp [ws_forF]
          refine take_wp (K := K + (94000 - 10 * i - 1)) h5 (okp.mono (by omega)) (by omega) fun at_ p3 ok3 a0 a1 => ?_
          simp
          refine ⟨fun hlt => ?_, fun hge => ?_⟩
          · have ha : at_.toNat < hs.length := by omega
            have hg : hs[at_.toNat]? = some hs[at_.toNat] := List.getElem?_eq_getElem ha
            have lt := len_total hg
            simp [g_refs hl, at_refsL a0 (show at_ < M by omega), g_head hg]
            refine take_wp (K := K + (94000 - 10 * (i + 1))) h5 (ok3.mono (by omega)) (by omega) fun y p4 ok4 y0 y1 => ?_
            simp [g_head hg, s_head ha]
            have tot := total_set (h' := hs[at_.toNat].take y.toNat ++ PyData.str (Str.ofString "now") :: hs[at_.toNat].drop y.toNat) hg
            refine ⟨⟨by omega, y0, by omega⟩, p4, _, tl, ⟨rfl, rfl⟩, ok4, by rw [List.length_set]; exact hl, htl, heads_set ho fun z hz => ?_, ?_⟩
            · rcases List.mem_append.mp hz with z1 | z1
              · exact ho _ (List.getElem_mem ha) z (List.mem_of_mem_take z1)
              · rcases List.mem_cons.mp z1 with z1 | z1
                · exact ⟨_, z1, by decide⟩
                · exact ho _ (List.getElem_mem ha) z (List.mem_of_mem_drop z1)
            · simp only [List.length_append, List.length_cons, List.length_take, List.length_drop] at tot
              omega
          · obtain ⟨kk, hkk⟩ : ∃ kk : Nat, at_ - M = (kk : Int) := ⟨(at_ - M).toNat, by omega⟩
            have ha : kk < tl.length := by omega
            obtain ⟨v, hg⟩ : ∃ v, tl[kk]? = some v := ⟨_, List.getElem?_eq_getElem ha⟩
            have e1 : (intsN tl)[kk]? = some (.int (v : Int)) := ints_at hg
            have e2 : ixN (intsN tl).length (kk : Int) = some kk := by rw [ints_len]; exact ixN_of (by omega) (by omega)
            have sm := sum_set (y := v + 1) hg
            have e3 : (intsN tl).set kk (PyData.int ((v : Int) + 1)) = intsN (tl.set kk (v + 1)) := ints_set (x := v + 1)
            simp [g_tl hl, hkk, e1, e2, e3, s_tl hl]
            exact ⟨p3, hs, tl.set kk (v + 1), ⟨rfl, rfl⟩, ok3.mono (by omega), hl, by rw [List.length_set]; exact htl, ho, by omega⟩
        · rintro env S ⟨p, hs, tl, o3, o4, rfl, rfl, okp, hl, htl, ho, ht⟩
          rw [rangeD_len] at okp ht
          simp
          refine ⟨by omega, ?_⟩
          have hT : Wt + Xn + 2 * M ≤ 10 := by omega
          generalize hls : List.zipWith (fun (h : List PyData) (t : Nat) => h.length + t + 2) hs tl = lens
          have hll : lens.length = M := by rw [← hls, List.length_zipWith, hl, htl, Nat.min_self]
          have lat : ∀ (i : Nat) (hh : List PyData) (tt : Nat), hs[i]? = some hh → tl[i]? = some tt → lens[i]? = some (hh.length + tt + 2) := fun i hh tt e1 e2 => by
            rw [← hls, List.getElem?_zipWith, e1, e2]
          have lsum : lens.sum = total hs + tl.sum + 2 * M := by
            have : ∀ (hs : List (List PyData)) (tl : List Nat), hs.length = tl.length → (List.zipWith (fun (h : List PyData) (t : Nat) => h.length + t + 2) hs tl).sum = total hs + tl.sum + 2 * hs.length := by
              intro hs
              induction hs with
              | nil => intro tl h; cases tl with | nil => rfl | cons _ _ => cases h
              | cons h hs ih =>
                intro tl e
                cases tl with
                | nil => cases e
                | cons t tl =>
                  have := ih tl (by simpa using e)
                  simp only [List.zipWith_cons_cons, List.sum_cons, List.length_cons, total, List.map_cons] at this ⊢
                  omega
            rw [← hls, this hs tl (by omega), hl]
          have lge : ∀ n ∈ lens, 2 ≤ n := fun n hn => by
            obtain ⟨i, e⟩ := List.mem_iff_getElem?.mp hn
            have hi : i < M := by rw [← hll]; exact (List.getElem?_eq_some_iff.mp e).1
            have := lat i _ _ (List.getElem?_eq_getElem (by omega : i < hs.length)) (List.getElem?_eq_getElem (by omega : i < tl.length))
            rw [e] at this
            have := Option.some.inj this
            omega
          have lle : ∀ i n, lens[i]? = some n → n ≤ 10 := fun i n e => by
            have : ∀ (l : List Nat) (i n : Nat), l[i]? = some n → n ≤ l.sum := by
              intro l
              induction l with
              | nil => intro i n e; simp at e
              | cons a l ih =>
                intro i n e
                cases i with
                | zero => simp at e; simp; omega
                | succ i => have := ih i n (by simpa using e); simp; omega
            have := this lens i n e
            omega
          -- the ring
          refine ws_loop (fun i env S => ∃ p rg o3 o4 o9 o10, env = [some (.ref 0), some (.val (.int (Wt : Int))), some (.val (.int (M : Int))), o3, o4, none, some (.ref (M + 1)), some (.ref (M + 2)), some (.ref (M + 3)), o9, o10, none] ∧
            S = .lst p :: Tl hs M tl rg ∧ PoolOk (K + (90000 - 3000 * i)) p ∧ rg.length = (lens.take i).sum ∧ ∀ s ∈ rg, StageOk s) ⟨p, [], o3, o4, none, none, rfl, rfl, okp.mono (by omega), rfl, by simp⟩ ?_ ?_
          · rintro i e env S he ⟨p, rg, o3, o4, o9, o10, rfl, rfl, okp, hr, hso⟩
            have hi : i < M := by have := (List.getElem?_eq_some_iff.mp he).1; rw [rangeD_len] at this; exact this
            rw [rangeD_at _ _ _ hi] at he
            cases he
            obtain ⟨hh, hg⟩ : ∃ hh, hs[i]? = some hh := ⟨_, List.getElem?_eq_getElem (by omega : i < hs.length)⟩
            obtain ⟨tt, htg⟩ : ∃ tt, tl[i]? = some tt := ⟨_, List.getElem?_eq_getElem (by omega : i < tl.length)⟩
            have hlt := lat i hh tt hg htg
            have hn := lle i _ hlt
            have e1 : (refsL M)[i]? = some (.ref (i + 1)) := by unfold refsL; rw [List.getElem?_map, List.getElem?_range hi]; rfl
            simp [ws_forF, g_refs hl, e1, g_head hg]
            refine pick_wp (K := K + (90000 - 3000 * i - 1)) h5 h6 (okp.mono (by omega)) (by simp) (by simp) fun mid p4 ok4 hmid => ?_
            have hmg : GateS mid := gate_in (l := ["look", "gather"]) hmid (by decide)
            simp [g_head hg, g_tl hl, ints_at htg]
            refine ⟨by omega, by omega, by omega, ?_⟩
            refine wp_collect (fun i ys S => S = .lst p4 :: Tl hs M tl rg ∧ ys = List.replicate i (.str (Str.ofString "now"))) ⟨rfl, rfl⟩ ?_ ?_
            · rintro i e ys S he ⟨rfl, rfl⟩
              simp [wp_compF, List.replicate_succ']
            · rintro ys S ⟨rfl, rfl⟩
              rw [rangeD_len, valsOf_map', isO_some]
              have eg : hh ++ mid :: (List.replicate tt (PyData.str (Str.ofString "now")) ++ [.str (Str.ofString "free")]) = gatesOf hh mid tt := by unfold gatesOf; simp
              have egl : (gatesOf hh mid tt).length = hh.length + tt + 2 := gates_len
              have ho' : ∀ x ∈ hh, GateS x := ho hh (List.mem_of_getElem? hg)
              have eg2 : List.map A.val hh ++ A.val mid :: (List.map A.val (List.replicate tt (PyData.str (Str.ofString "now"))) ++ [A.val (.str (Str.ofString "free"))]) = (gatesOf hh mid tt).map .val := by unfold gatesOf; simp
              rw [List.length_replicate, eg, eg2]
              refine ⟨by omega, by omega, ?_⟩
              refine ws_loop (fun j env S => ∃ p rg o10, env = [some (.ref 0), some (.val (.int (Wt : Int))), some (.val (.int (M : Int))), o3, some (.val (.int (i : Int))), none, some (.ref (M + 1)), some (.ref (M + 2)), some (.ref (M + 3)), some (.val (.list (gatesOf hh mid tt))), o10, none] ∧
                S = .lst p :: Tl hs M tl rg ∧ PoolOk (K + (90000 - 3000 * i - 1 - 200 * j)) p ∧ rg.length = (lens.take i).sum + j ∧ ∀ s ∈ rg, StageOk s) ⟨p4, rg, o10, rfl, rfl, ok4, hr, hso⟩ ?_ ?_
              · rintro j e env S he ⟨p, rg, o10, rfl, rfl, okp, hr, hso⟩
                have hj : j < hh.length + tt + 2 := by have := (List.getElem?_eq_some_iff.mp he).1; rw [egl] at this; exact this
                obtain ⟨g, hgat, hgd⟩ := gates_at (mid := mid) ho' hmg hj
                rw [he] at hgat
                cases hgat
                have hlen : rg.length ≤ 100 := by have := take_sum lens i; omega
                simp [ws_forF, g_rg hl]
                refine effects_wp (K := K + (90000 - 3000 * i - 1 - 200 * (j + 1))) h5 h13 (okp.mono (by omega)) fun ys p5 ok5 hys hyl => ?_
                simp [g_rg hl, s_rg hl]
                refine ⟨by omega, p5, _, ⟨rfl, rfl⟩, ok5, by simp; omega, fun s hs => ?_⟩
                rcases List.mem_append.mp hs with z | z
                · exact hso s z
                · have e : s = .tuple [.str g, .tuple ys] := by simpa using z
                  subst e
                  exact ⟨g, ys, rfl, hys, hyl⟩
              · rintro env S ⟨p, rg, o10, rfl, rfl, okp, hr, hso⟩
                rw [egl] at okp hr
                refine ⟨⟨_, _, _, _, rfl⟩, p, rg, rfl, okp.mono (by omega), ?_, hso⟩
                rw [List.take_add_one, hlt, hr, List.sum_append]
                simp
          · rintro env S ⟨p, rg, o3, o4, o9, o10, rfl, rfl, okp, hr, hso⟩
            rw [rangeD_len, List.take_of_length_le (by omega)] at hr
            rw [rangeD_len] at okp
            have hsum : lens.sum = Wt + Xn + 2 * M := by omega
            simp [g_rg hl]
            refine take_wp (K := K) h5 (okp.mono (by omega)) (by omega) fun by_ pZ okZ b0 b1 => ?_
            simp [g_rg hl, cut_from b0, cut_to b0]
            refine ⟨by omega, ?_⟩
            refine q _ _ okZ (fun s hs => ?_) (by simp; omega) (by simp; omega)
            rcases List.mem_append.mp hs with z | z
            · exact hso s (List.mem_of_mem_drop z)
            · exact hso s (List.mem_of_mem_take z)
end Tr




namespace K08
open PySem L2 Tr
open PySem.Spec PyProof.Rows
def topAt (i : Nat) : Stmt := (PySem.Challenge.pw_sweepwarrant_k08_statuses_groups).main.body.getD i (.Pass ⟨0, 0, 0, 0⟩)
def F20_meetings : Fn := ⟨1, 2, false, true, [
    .ret (.len (.comp [1] (.seq (.var 0)) (some (.cmp .inn (.idx (.var 1) (.const (.int 0))) (.glob "MEETINGS" (.tuple [(.str "meet"), (.str "stop")])))) (.var 1)))]⟩
def F21_status_count : Fn := ⟨1, 1, false, true, [
    .ret (.blt .max2 [(.const (.int 1)), (.call 20 [(.var 0)])])]⟩
def F22_statuses : Fn := ⟨1, 1, false, true, [
    .ret (.call 21 [(.idx (.var 0) (.const (.int 3)))])]⟩
def F23_groups_at : Fn := ⟨2, 2, false, true, [
    .ret (.ife (.cmp .eq (.idx (.idx (.idx (.var 0) (.const (.int 3))) (.var 1)) (.const (.int 0))) (.const (.str "meet"))) (.tup [(.const (.str "early")), (.const (.str "late"))]) (.tup [(.const (.str "early"))]))]⟩
def F24_status_of : Fn := ⟨3, 6, false, true, [
    .set 3 (.idx (.var 0) (.const (.int 3))),
    .set 4 (.len (.comp [5] (.seq (.slice (.var 3) none (some (.var 1)))) (some (.cmp .inn (.idx (.var 5) (.const (.int 0))) (.glob "MEETINGS" (.tuple [(.str "meet"), (.str "stop")])))) (.const (.int 1)))),
    .ifs (.cmp .eq (.idx (.idx (.var 3) (.var 1)) (.const (.int 0))) (.const (.str "stop"))) [.aug 4 .add (.const (.int 1))] [],
    .ifs (.cmp .eq (.var 2) (.const (.str "late"))) [.aug 4 .add (.const (.int 1))] [],
    .ret (.bin .mod (.var 4) (.call 21 [(.var 3)]))]⟩
def F25_row_of : Fn := ⟨3, 3, false, false, [
    .ret (.idx (.idx (.var 0) (.const (.int 4))) (.call 24 [(.var 0), (.var 1), (.var 2)]))]⟩
def F27_law_rows : Fn := ⟨2, 8, false, true, [
    .par [3, 4, 5] [(.call 8 []), (.newc (.comp [7] (.range [(.var 1)]) none (.call 12 [(.var 0), (.const (.int 0))]))), (.call 5 [(.var 0), (.const (.int 4))])],
    .set 2 (.call 5 [(.var 0), (.const (.int 12))]),
    .ifs (.cmp .lt (.var 5) (.const (.int 2))) [.fors [6] (.range [(.var 1)]) [.put (.var 4) (.var 6) (.tup [(.idx (.idx (.var 4) (.var 6)) (.const (.int 0))), (.idx (.idx (.var 4) (.var 6)) (.const (.int 1))), (.tup [(.idx (.var 3) (.bin .mod (.blt .int [(.bin .add (.var 2) (.var 6))]) (.const (.int 12))))]), (.idx (.idx (.var 4) (.var 6)) (.const (.int 3))), (.idx (.idx (.var 4) (.var 6)) (.const (.int 4)))])]] [],
    .ifs (.cmp .eq (.var 5) (.const (.int 2))) [.set 6 (.call 5 [(.var 0), (.var 1)]), .put (.var 4) (.var 6) (.idx (.var 4) (.call 5 [(.var 0), (.var 1)]))] [],
    .ret (.blt .tuple [(.var 4)])]⟩
def F28_law_worded : Fn := ⟨3, 3, false, true, [
    .ret (.tup [(.const (.str "sweeper")), (.var 1), (.bin .add (.const (.int 1)) (.call 5 [(.var 0), (.const (.int 2))])), (.blt .tuple [(.var 2)]), (.call 27 [(.var 0), (.call 11 [(.var 2)])])])]⟩
def F29_law_walked : Fn := ⟨1, 6, false, false, [
    .par [2, 3, 4] [(.call 11 [(.var 0)]), (.const (.int 0)), (.newc (.lst []))],
    .fors [1] (.seq (.var 0)) [.ifs (.cmp .eq (.idx (.var 1) (.const (.int 0))) (.const (.str "stop"))) [.aug 3 .add (.const (.int 1))] [], .setO 5 (.lst [(.tup [(.const (.str "early")), (.bin .mod (.blt .int [(.var 3)]) (.var 2))])]), .ifs (.cmp .eq (.idx (.var 1) (.const (.int 0))) (.const (.str "meet"))) [.aug 3 .add (.const (.int 1)), .mth .append (.own 5) [(.tup [(.const (.str "late")), (.bin .mod (.blt .int [(.var 3)]) (.var 2))])]] [], .rel 5, .mth .append (.var 4) [(.var 5)]],
    .rel 4,
    .ret (.var 4)]⟩
def F30_law_agrees : Fn := ⟨2, 8, false, false, [
    .set 2 (.call 29 [(.idx (.var 0) (.const (.int 3)))]),
    .set 3 (.lrange [(.len (.var 2))]),
    .ifs (.var 1) [.set 3 (.rev (.var 3))] [.ifs (.not (.call 16 [(.call 22 [(.var 0)]), (.call 11 [(.idx (.var 0) (.const (.int 3)))])])) [.ret (.const (.bool false))] []],
    .fors [4] (.seq (.var 3)) [.set 5 (.ife (.var 1) (.rev (.idx (.var 2) (.var 4))) (.idx (.var 2) (.var 4))), .fors [6] (.seq (.var 5)) [.set 7 (.idx (.idx (.var 0) (.const (.int 4))) (.idx (.var 6) (.const (.int 1)))), .ifs (.ands [(.var 1), (.not (.call 16 [(.call 25 [(.var 0), (.var 4), (.idx (.var 6) (.const (.int 0)))]), (.var 7)]))]) [.ret (.const (.bool false))] [], .ifs (.not (.call 16 [(.call 24 [(.var 0), (.var 4), (.idx (.var 6) (.const (.int 0)))]), (.idx (.var 6) (.const (.int 1)))])) [.ret (.const (.bool false))] [], .ifs (.not (.call 16 [(.call 25 [(.var 0), (.var 4), (.idx (.var 6) (.const (.int 0)))]), (.var 7)])) [.ret (.const (.bool false))] []], .ifs (.not (.call 16 [(.call 23 [(.var 0), (.var 4)]), (.blt .tuple [(.comp [6] (.seq (.idx (.var 2) (.var 4))) none (.idx (.var 6) (.const (.int 0))))])])) [.ret (.const (.bool false))] []],
    .ret (.call 16 [(.call 22 [(.var 0)]), (.call 11 [(.idx (.var 0) (.const (.int 3)))])])]⟩
def F31_law : Fn := ⟨1, 8, false, false, [
    .set 1 (.newc (.call 4 [(.var 0)])),
    .par [3, 4, 5] [(.call 26 [(.var 1)]), (.call 26 [(.var 1)]), (.call 7 [(.var 1)])],
    .par [6, 7] [(.call 28 [(.var 1), (.var 5), (.var 3)]), (.call 28 [(.var 1), (.var 5), (.var 4)])],
    .set 2 (.call 28 [(.var 1), (.call 7 [(.var 1)]), (.var 3)]),
    .ifs (.ors [(.not (.call 30 [(.var 6), (.const (.bool false))])), (.not (.call 30 [(.var 7), (.const (.bool true))]))]) [.ret (.const (.bool false))] [],
    .ret (.ands [(.call 30 [(.var 2), (.const (.bool false))]), (.call 30 [(.var 6), (.const (.bool true))])])]⟩
def fl : List (Nat × Fn) := [(20, F20_meetings), (21, F21_status_count), (22, F22_statuses), (23, F23_groups_at), (24, F24_status_of), (25, F25_row_of), (4, F4_law_pool), (5, F5_law_take), (6, F6_law_pick), (7, F7_law_name), (8, F8_law_puts), (9, F9_law_menus), (10, F10_law_some), (11, F11_law_many), (12, F12_law_row), (13, F13_law_effects), (26, F26_law_ring), (27, F27_law_rows), (28, F28_law_worded), (29, F29_law_walked), (16, F16_law_same), (30, F30_law_agrees), (31, F31_law)]
def P : Prg := fun i => fl.lookup i
def ds : List (Nat × DefT) := [
  (20, ⟨"meetings", defArgs (topAt 2), defBody (topAt 2), defScope (topAt 2), ["stages"], ["stages", "stage"]⟩),
  (21, ⟨"status_count", defArgs (topAt 3), defBody (topAt 3), defScope (topAt 3), ["stages"], ["stages"]⟩),
  (22, ⟨"statuses", defArgs (topAt 5), defBody (topAt 5), defScope (topAt 5), ["text"], ["text"]⟩),
  (23, ⟨"groups_at", defArgs (topAt 6), defBody (topAt 6), defScope (topAt 6), ["text", "stage"], ["text", "stage"]⟩),
  (24, ⟨"status_of", defArgs (topAt 7), defBody (topAt 7), defScope (topAt 7), ["text", "stage", "group"], ["text", "stage", "group", "stages", "many", "one"]⟩),
  (25, ⟨"row_of", defArgs (topAt 8), defBody (topAt 8), defScope (topAt 8), ["text", "stage", "group"], ["text", "stage", "group"]⟩),
  (4, ⟨"_law_pool", defArgs (topAt 10), defBody (topAt 10), defScope (topAt 10), ["script"], ["script", "cells", "total", "cell"]⟩),
  (5, ⟨"_law_take", defArgs (topAt 11), defBody (topAt 11), defScope (topAt 11), ["pool", "many"], ["pool", "many", "first", "digit", "cell", "number"]⟩),
  (6, ⟨"_law_pick", defArgs (topAt 12), defBody (topAt 12), defScope (topAt 12), ["pool", "menu"], ["pool", "menu"]⟩),
  (7, ⟨"_law_name", defArgs (topAt 13), defBody (topAt 13), defScope (topAt 13), ["pool"], ["pool", "signs", "name", "turn"]⟩),
  (8, ⟨"_law_puts", defArgs (topAt 14), defBody (topAt 14), defScope (topAt 14), [], ["menu", "order"]⟩),
  (9, ⟨"_law_menus", defArgs (topAt 15), defBody (topAt 15), defScope (topAt 15), [], ["cuts"]⟩),
  (10, ⟨"_law_some", defArgs (topAt 16), defBody (topAt 16), defScope (topAt 16), ["pool", "menu"], ["pool", "menu", "first", "share", "at"]⟩),
  (11, ⟨"_law_many", defArgs (topAt 17), defBody (topAt 17), defScope (topAt 17), ["stages"], ["stages", "stage"]⟩),
  (12, ⟨"_law_row", defArgs (topAt 18), defBody (topAt 18), defScope (topAt 18), ["pool", "care"], ["pool", "care", "make", "read", "put", "cut", "take", "menu"]⟩),
  (13, ⟨"_law_effects", defArgs (topAt 19), defBody (topAt 19), defScope (topAt 19), ["pool", "gate"], ["pool", "gate", "words", "word"]⟩),
  (26, ⟨"_law_ring", defArgs (topAt 20), defBody (topAt 20), defScope (topAt 20), ["pool"], ["pool", "want", "many", "turn", "at", "by", "heads", "tails", "ring", "gates", "gate", "one"]⟩),
  (27, ⟨"_law_rows", defArgs (topAt 21), defBody (topAt 21), defScope (topAt 21), ["pool", "many"], ["pool", "many", "first", "puts", "rows", "way", "at", "status"]⟩),
  (28, ⟨"_law_worded", defArgs (topAt 22), defBody (topAt 22), defScope (topAt 22), ["pool", "name", "stages"], ["pool", "name", "stages"]⟩),
  (29, ⟨"_law_walked", defArgs (topAt 23), defBody (topAt 23), defScope (topAt 23), ["stages"], ["stages", "stage", "many", "status", "told", "pairs"]⟩),
  (16, ⟨"_law_same", defArgs (topAt 24), defBody (topAt 24), defScope (topAt 24), ["told", "due"], ["told", "due"]⟩),
  (30, ⟨"_law_agrees", defArgs (topAt 25), defBody (topAt 25), defScope (topAt 25), ["text", "back"], ["text", "back", "walked", "order", "stage", "pairs", "pair", "row"]⟩),
  (31, ⟨"law", defArgs (topAt 26), defBody (topAt 26), defScope (topAt 26), ["script"], ["script", "pool", "three", "first", "second", "name", "one", "two"]⟩)]
def cons : List (Str × PyData) := [("MEETINGS", (.tuple [(.str "meet"), (.str "stop")]))]
def chk1 (p : Nat × DefT) : Bool := match P p.1 with
  | some f => chkFn ds cons P p.2 f
  | none => false
theorem chk_0 : (ds[0]?.map chk1) = some true := by decide +kernel
theorem chk_1 : (ds[1]?.map chk1) = some true := by decide +kernel
theorem chk_2 : (ds[2]?.map chk1) = some true := by decide +kernel
theorem chk_3 : (ds[3]?.map chk1) = some true := by decide +kernel
theorem chk_4 : (ds[4]?.map chk1) = some true := by decide +kernel
theorem chk_5 : (ds[5]?.map chk1) = some true := by decide +kernel
theorem chk_6 : (ds[6]?.map chk1) = some true := by decide +kernel
theorem chk_7 : (ds[7]?.map chk1) = some true := by decide +kernel
theorem chk_8 : (ds[8]?.map chk1) = some true := by decide +kernel
theorem chk_9 : (ds[9]?.map chk1) = some true := by decide +kernel
theorem chk_10 : (ds[10]?.map chk1) = some true := by decide +kernel
theorem chk_11 : (ds[11]?.map chk1) = some true := by decide +kernel
theorem chk_12 : (ds[12]?.map chk1) = some true := by decide +kernel
theorem chk_13 : (ds[13]?.map chk1) = some true := by decide +kernel
theorem chk_14 : (ds[14]?.map chk1) = some true := by decide +kernel
theorem chk_15 : (ds[15]?.map chk1) = some true := by decide +kernel
theorem chk_16 : (ds[16]?.map chk1) = some true := by decide +kernel
theorem chk_17 : (ds[17]?.map chk1) = some true := by decide +kernel
theorem chk_18 : (ds[18]?.map chk1) = some true := by decide +kernel
theorem chk_19 : (ds[19]?.map chk1) = some true := by decide +kernel
theorem chk_20 : (ds[20]?.map chk1) = some true := by decide +kernel
theorem chk_21 : (ds[21]?.map chk1) = some true := by decide +kernel
theorem chk_22 : (ds[22]?.map chk1) = some true := by decide +kernel
theorem ds_len : ds.length = 23 := rfl
theorem chk_at : ∀ j, j < 23 → (ds[j]?.map chk1) = some true
  | 0, _ => chk_0
  | 1, _ => chk_1
  | 2, _ => chk_2
  | 3, _ => chk_3
  | 4, _ => chk_4
  | 5, _ => chk_5
  | 6, _ => chk_6
  | 7, _ => chk_7
  | 8, _ => chk_8
  | 9, _ => chk_9
  | 10, _ => chk_10
  | 11, _ => chk_11
  | 12, _ => chk_12
  | 13, _ => chk_13
  | 14, _ => chk_14
  | 15, _ => chk_15
  | 16, _ => chk_16
  | 17, _ => chk_17
  | 18, _ => chk_18
  | 19, _ => chk_19
  | 20, _ => chk_20
  | 21, _ => chk_21
  | 22, _ => chk_22
  | j + 23, h => absurd h (by omega)
theorem hc : ∀ (i : Nat) (d : DefT), (i, d) ∈ ds → ∃ f, P i = some f ∧ chkFn ds cons P d f = true := by
  intro i d h
  obtain ⟨j, hj, e⟩ := List.mem_iff_getElem.mp h
  have c := chk_at j (by rw [ds_len] at hj; exact hj)
  rw [List.getElem?_eq_getElem hj, e] at c
  have c : chk1 (i, d) = true := Option.some.inj c
  unfold chk1 at c
  split at c
  · rename_i f ef
    exact ⟨f, ef, c⟩
  · cases c
end K08


namespace K08
open PySem L2 Tr
open PySem.Spec PyProof.Rows
def dd (x : Str) (i : Nat) : He.DefD := ⟨(x, none), x, x, defArgs (topAt i), defBody (topAt i), defScope (topAt i), [], []⟩
def fns : List He.DefD := [dd "meetings" 2, dd "status_count" 3, dd "statuses" 5, dd "groups_at" 6, dd "status_of" 7, dd "row_of" 8, dd "_law_pool" 10, dd "_law_take" 11, dd "_law_pick" 12, dd "_law_name" 13, dd "_law_puts" 14, dd "_law_menus" 15, dd "_law_some" 16, dd "_law_many" 17, dd "_law_row" 18, dd "_law_effects" 19, dd "_law_ring" 20, dd "_law_rows" 21, dd "_law_worded" 22, dd "_law_walked" 23, dd "_law_same" 24, dd "_law_agrees" 25, dd "law" 26]
def facts : List He.Fa := [.glo "meetings", .glo "status_count", .glo "statuses", .glo "groups_at", .glo "status_of", .glo "row_of", .glo "_law_pool", .glo "_law_take", .glo "_law_pick", .glo "_law_name", .glo "_law_puts", .glo "_law_menus", .glo "_law_some", .glo "_law_many", .glo "_law_row", .glo "_law_effects", .glo "_law_ring", .glo "_law_rows", .glo "_law_worded", .glo "_law_walked", .glo "_law_same", .glo "_law_agrees", .glo "law"] ++ bltNames.map .free
abbrev R : PySem.W.OpenRow := PySem.W.OpenLaw.row PySem.Challenge.rw_sweepwarrant_k08_statuses_groups
abbrev hk : PySem.W.Hook := He.hookX 4 facts fns [] [] (consB cons)
def ob (s : PySem.W.SharedT) : He.AlX := He.obsX 4 facts fns [] [] (consB cons) (HandSHeadRun.getT s)
theorem ob_eq (s : PySem.W.SharedT) : ob s = hk.obs s.abs := He.obsX_eq (HandSHeadRun.getT_eq s)
def names : List Str := ["meetings", "status_count", "statuses", "groups_at", "status_of", "row_of", "_law_pool", "_law_take", "_law_pick", "_law_name", "_law_puts", "_law_menus", "_law_some", "_law_many", "_law_row", "_law_effects", "_law_ring", "_law_rows", "_law_worded", "_law_walked", "_law_same", "_law_agrees", "MEETINGS"]
theorem run (w : World) : HandSHeadRun.RunEq R (PySem.W.view R.prog [26]) hk ob 4000 names w := by
  intro os
  kernel_rfl
theorem fok : FactsOk facts fns ds := by
  refine ⟨fun d h => ?_, fun x h => List.mem_append_right _ (List.mem_map_of_mem h), fun d h => ?_, ?_⟩
  · refine List.mem_append_left _ ?_
    have e : (ds.map fun d => He.Fa.glo d.2.x) = [He.Fa.glo "meetings", He.Fa.glo "status_count", He.Fa.glo "statuses", He.Fa.glo "groups_at", He.Fa.glo "status_of", He.Fa.glo "row_of", He.Fa.glo "_law_pool", He.Fa.glo "_law_take", He.Fa.glo "_law_pick", He.Fa.glo "_law_name", He.Fa.glo "_law_puts", He.Fa.glo "_law_menus", He.Fa.glo "_law_some", He.Fa.glo "_law_many", He.Fa.glo "_law_row", He.Fa.glo "_law_effects", He.Fa.glo "_law_ring", He.Fa.glo "_law_rows", He.Fa.glo "_law_worded", He.Fa.glo "_law_walked", He.Fa.glo "_law_same", He.Fa.glo "_law_agrees", He.Fa.glo "law"] := rfl
    exact e ▸ List.mem_map_of_mem (f := fun d : Nat × DefT => He.Fa.glo d.2.x) h
  · have e : (ds.map fun d => (⟨(d.2.x, none), d.2.x, d.2.x, d.2.params, d.2.body, d.2.scope, [], []⟩ : He.DefD)) = fns := rfl
    exact e ▸ List.mem_map_of_mem (f := fun d : Nat × DefT => (⟨(d.2.x, none), d.2.x, d.2.x, d.2.params, d.2.body, d.2.scope, [], []⟩ : He.DefD)) h
  · have all : ∀ (Q : Nat × DefT → Prop), Q (ds[0]'(by decide)) → Q (ds[1]'(by decide)) → Q (ds[2]'(by decide)) → Q (ds[3]'(by decide)) → Q (ds[4]'(by decide)) → Q (ds[5]'(by decide)) → Q (ds[6]'(by decide)) → Q (ds[7]'(by decide)) → Q (ds[8]'(by decide)) → Q (ds[9]'(by decide)) → Q (ds[10]'(by decide)) → Q (ds[11]'(by decide)) → Q (ds[12]'(by decide)) → Q (ds[13]'(by decide)) → Q (ds[14]'(by decide)) → Q (ds[15]'(by decide)) → Q (ds[16]'(by decide)) → Q (ds[17]'(by decide)) → Q (ds[18]'(by decide)) → Q (ds[19]'(by decide)) → Q (ds[20]'(by decide)) → Q (ds[21]'(by decide)) → Q (ds[22]'(by decide)) → ∀ d ∈ ds, Q d := by
      intro Q h0 h1 h2 h3 h4 h5 h6 h7 h8 h9 h10 h11 h12 h13 h14 h15 h16 h17 h18 h19 h20 h21 h22 d h
      obtain ⟨j, hj, e⟩ := List.mem_iff_getElem.mp h
      rw [← e]
      match j, hj with
      | 0, _ => exact h0
      | 1, _ => exact h1
      | 2, _ => exact h2
      | 3, _ => exact h3
      | 4, _ => exact h4
      | 5, _ => exact h5
      | 6, _ => exact h6
      | 7, _ => exact h7
      | 8, _ => exact h8
      | 9, _ => exact h9
      | 10, _ => exact h10
      | 11, _ => exact h11
      | 12, _ => exact h12
      | 13, _ => exact h13
      | 14, _ => exact h14
      | 15, _ => exact h15
      | 16, _ => exact h16
      | 17, _ => exact h17
      | 18, _ => exact h18
      | 19, _ => exact h19
      | 20, _ => exact h20
      | 21, _ => exact h21
      | 22, _ => exact h22
      | j + 23, hj => exact absurd (show j + 23 < 23 from hj) (by omega)
    refine all _ ?_ ?_ ?_ ?_ ?_ ?_ ?_ ?_ ?_ ?_ ?_ ?_ ?_ ?_ ?_ ?_ ?_ ?_ ?_ ?_ ?_ ?_ ?_
    · exact fun _ _ _ _ _ _ us hl => match us, hl with
      | [v0], _ => rfl
    · exact fun _ _ _ _ _ _ us hl => match us, hl with
      | [v0], _ => rfl
    · exact fun _ _ _ _ _ _ us hl => match us, hl with
      | [v0], _ => rfl
    · exact fun _ _ _ _ _ _ us hl => match us, hl with
      | [v0, v1], _ => rfl
    · exact fun _ _ _ _ _ _ us hl => match us, hl with
      | [v0, v1, v2], _ => rfl
    · exact fun _ _ _ _ _ _ us hl => match us, hl with
      | [v0, v1, v2], _ => rfl
    · exact fun _ _ _ _ _ _ us hl => match us, hl with
      | [v0], _ => rfl
    · exact fun _ _ _ _ _ _ us hl => match us, hl with
      | [v0, v1], _ => rfl
    · exact fun _ _ _ _ _ _ us hl => match us, hl with
      | [v0, v1], _ => rfl
    · exact fun _ _ _ _ _ _ us hl => match us, hl with
      | [v0], _ => rfl
    · exact fun _ _ _ _ _ _ us hl => match us, hl with
      | [], _ => rfl
    · exact fun _ _ _ _ _ _ us hl => match us, hl with
      | [], _ => rfl
    · exact fun _ _ _ _ _ _ us hl => match us, hl with
      | [v0, v1], _ => rfl
    · exact fun _ _ _ _ _ _ us hl => match us, hl with
      | [v0], _ => rfl
    · exact fun _ _ _ _ _ _ us hl => match us, hl with
      | [v0, v1], _ => rfl
    · exact fun _ _ _ _ _ _ us hl => match us, hl with
      | [v0, v1], _ => rfl
    · exact fun _ _ _ _ _ _ us hl => match us, hl with
      | [v0], _ => rfl
    · exact fun _ _ _ _ _ _ us hl => match us, hl with
      | [v0, v1], _ => rfl
    · exact fun _ _ _ _ _ _ us hl => match us, hl with
      | [v0, v1, v2], _ => rfl
    · exact fun _ _ _ _ _ _ us hl => match us, hl with
      | [v0], _ => rfl
    · exact fun _ _ _ _ _ _ us hl => match us, hl with
      | [v0, v1], _ => rfl
    · exact fun _ _ _ _ _ _ us hl => match us, hl with
      | [v0, v1], _ => rfl
    · exact fun _ _ _ _ _ _ us hl => match us, hl with
      | [v0], _ => rfl
end K08
open PySem PySem.W
open PySem.Calls PyProof.Rows
theorem K08.lawHolds (val : ∀ ns : List Int, ns.length ≤ 63 → Tr.callP K08.P 8 0 31 [.val (.list (ns.map .int))] [] = .ok (.val (.bool true)) []) : PySem.Challenge.rw_sweepwarrant_k08_statuses_groups.Holds := by
  w_on; o_law
  refine HandSHeadRun.head_any (r := OpenLaw.row PySem.Challenge.rw_sweepwarrant_k08_statuses_groups) (q := view (OpenLaw.row PySem.Challenge.rw_sweepwarrant_k08_statuses_groups).prog [26]) (H := K08.hk) (ob := K08.ob) (M := 4000) (loose := K08.names) (d := HandSHeadRun.topDef (OpenLaw.row PySem.Challenge.rw_sweepwarrant_k08_statuses_groups).prog 26) (kwd := []) K08.ob_eq
    (by kernel_rfl) (fun s => by kernel_rfl) K08.run (by kernel_rfl) (by kernel_rfl) (by kernel_rfl) (by rfl) (by first | assumption | decide +kernel) (by decide +kernel) ⟨rfl, rfl, rfl, rfl, rfl, by decide +kernel⟩ ?hw ?hc
  case hw => w_witness2
  case hc =>
    refine Tr.walk_G (l := PySem.Challenge.rw_sweepwarrant_k08_statuses_groups) (n := 63) (k := 8) (x := "script") rfl (by decide) (by kernel_rfl) ⟨rfl, by decide, by decide⟩ ?F
    intro w mg fa h Y G hmg0
    have hmg : mg ("law" : PySem.Str) = some (.ref fa) := by
      have e : (HandSHeadRun.topDef (OpenLaw.row PySem.Challenge.rw_sweepwarrant_k08_statuses_groups).prog 26).name = ("law" : PySem.Str) := by kernel_rfl
      rw [← e]
      exact hmg0
    exact Tr.law_F (il := 31) (d := (K08.ds[22]'(by decide)).2) K08.fok K08.hc (List.mem_of_getElem? (i := 22) rfl) rfl val w mg fa h Y G hmg


namespace K08
open PySem L2 Tr
open PySem.Spec PyProof.Rows
theorem meetings_wp {d b0 : Nat} {S : Store} {ss : List PyData} (hs : ∀ s ∈ ss, isGate s) (hl : ss.length ≤ 1000) {Q : A → Store → Prop} {E : XQ} (q : Q (.val (.int (cntM ss : Nat))) S) :
    wpR (callP P (d + 1) b0 20 [.val (.tuple ss)] S) Q E := by
  have h20 : P 20 = some F20_meetings := rfl
  refine wp_callF h20 rfl ⟨rfl, by decide, rfl⟩ ?_
  simp [F20_meetings, List.replicate]
  refine ⟨by omega, ?_⟩
  refine wp_collect (fun i ys S' => S' = S ∧ ys.length = cntM (ss.take i)) ⟨rfl, by simp [cntM]⟩ ?_ ?_
  · rintro i e ys S' he ⟨rfl, hy⟩
    obtain ⟨g, es, rfl⟩ := hs _ (List.mem_of_getElem? he)
    rw [cntM_take he]
    simp [wp_compF, inMS, mB, stopB, meetB, hy]
    by_cases h1 : g = Str.ofString "meet"
    · simp [h1]
    · by_cases h2 : g = Str.ofString "stop"
      · simp [h2]
      · simp [h1, h2]
  · rintro ys S' ⟨rfl, hy⟩
    rw [List.take_length] at hy
    simp [hy]
    exact q
theorem count_wp {d b0 : Nat} {S : Store} {ss : List PyData} (hs : ∀ s ∈ ss, isGate s) (hl : ss.length ≤ 1000) {Q : A → Store → Prop} {E : XQ} (q : Q (.val (.int (manyM ss))) S) :
    wpR (callP P (d + 2) b0 21 [.val (.tuple ss)] S) Q E := by
  have h21 : P 21 = some F21_status_count := rfl
  refine wp_callF h21 rfl ⟨rfl, by decide, rfl⟩ ?_
  simp [F21_status_count, List.replicate]
  refine meetings_wp hs hl ?_
  simp
  exact q
theorem statuses_wp {d b0 : Nat} {S : Store} {a0 a1 a2 : PyData} {ss rest : List PyData} (hs : ∀ s ∈ ss, isGate s) (hl : ss.length ≤ 1000) {Q : A → Store → Prop} {E : XQ} (q : Q (.val (.int (manyM ss))) S) :
    wpR (callP P (d + 3) b0 22 [.val (.tuple (a0 :: a1 :: a2 :: .tuple ss :: rest))] S) Q E := by
  have h22 : P 22 = some F22_statuses := rfl
  refine wp_callF h22 rfl ⟨rfl, by decide, rfl⟩ ?_
  simp [F22_statuses, List.replicate]
  refine count_wp hs hl ?_
  simp
  exact q
def early : PyData := .str (Str.ofString "early")
def late : PyData := .str (Str.ofString "late")
theorem groups_wp {d b0 : Nat} {S : Store} {a0 a1 a2 s : PyData} {ss rest : List PyData} {i : Nat} (hg : isGate s) (e : ss[i]? = some s) {Q : A → Store → Prop} {E : XQ} (q : Q (.val (.tuple (early :: if meetB s = true then [late] else []))) S) :
    wpR (callP P (d + 1) b0 23 [.val (.tuple (a0 :: a1 :: a2 :: .tuple ss :: rest)), .val (.int (i : Nat))] S) Q E := by
  have h23 : P 23 = some F23_groups_at := rfl
  obtain ⟨g, es, rfl⟩ := hg
  refine wp_callF h23 rfl ⟨rfl, by decide, rfl⟩ ?_
  simp [F23_groups_at, List.replicate, e]
  simp [meetB, early, late] at q
  by_cases h : g = Str.ofString "meet"
  · simp [h] at q ⊢; exact q
  · simp [h] at q ⊢; exact q
/-- the status at a stage -/
def statusF (ss : List PyData) (i : Nat) (s : PyData) (lt : Bool) : Int := ((cntM (ss.take i) : Nat) + (if stopB s = true then 1 else 0) + (if lt = true then 1 else 0) : Int).fmod (manyM ss)
theorem statusF_lt {ss : List PyData} {i : Nat} {s : PyData} {lt : Bool} : 0 ≤ statusF ss i s lt ∧ statusF ss i s lt < manyM ss := by
  have := manyM_pos (ss := ss)
  exact ⟨Int.fmod_nonneg_of_pos _ (by omega), Int.fmod_lt_of_pos _ (by omega)⟩
def grp (lt : Bool) : PyData := if lt = true then late else early
theorem status_wp {d b0 : Nat} {S : Store} {a0 a1 a2 s : PyData} {ss rest : List PyData} {i : Nat} (hs : ∀ s ∈ ss, isGate s) (hl : ss.length ≤ 1000) (e : ss[i]? = some s) (lt : Bool) {Q : A → Store → Prop} {E : XQ} (q : Q (.val (.int (statusF ss i s lt))) S) :
    wpR (callP P (d + 3) b0 24 [.val (.tuple (a0 :: a1 :: a2 :: .tuple ss :: rest)), .val (.int (i : Nat)), .val (grp lt)] S) Q E := by
  have h24 : P 24 = some F24_status_of := rfl
  refine wp_callF h24 rfl ⟨rfl, by decide, rfl⟩ ?_
  have hi := (List.getElem?_eq_some_iff.mp e).1
  have hm := manyM_pos (ss := ss)
  simp [F24_status_of, List.replicate, cut_to (show (0 : Int) ≤ (i : Nat) by omega)]
  rw [← List.map_take]
  refine ⟨by omega, ?_⟩
  refine wp_collect (fun j ys S' => S' = S ∧ ys.length = cntM (ss.take j)) ⟨rfl, by simp [cntM]⟩ ?_ ?_
  · rintro j x ys S' he ⟨rfl, hy⟩
    have hj : j < i := by have := (List.getElem?_eq_some_iff.mp he).1; rw [List.length_take] at this; omega
    rw [List.getElem?_take_of_lt hj] at he
    obtain ⟨g, es, rfl⟩ := hs _ (List.mem_of_getElem? he)
    rw [cntM_take he]
    simp [wp_compF, inMS, mB, stopB, meetB, hy]
    by_cases h1 : g = Str.ofString "meet"
    · simp [h1]
    · by_cases h2 : g = Str.ofString "stop"
      · simp [h2]
      · simp [h1, h2]
  · rintro ys S' ⟨rfl, hy⟩
    rw [List.length_take, Nat.min_eq_left (by omega)] at hy
    obtain ⟨g, es, rfl⟩ := hs _ (List.mem_of_getElem? e)
    have hc := cntM_le (ss := ss.take i)
    rw [List.length_take] at hc
    unfold statusF at q
    simp [hy, e, stopB] at q ⊢
    by_cases h1 : g = Str.ofString "stop"
    · cases lt with
      | true =>
        simp [h1, grp, late] at q ⊢
        refine count_wp hs hl ?_
        simp
        exact ⟨by omega, by simpa [Int.add_assoc] using q⟩
      | false =>
        simp [h1, grp, early, show ¬ Str.ofString "early" = Str.ofString "late" by decide] at q ⊢
        refine count_wp hs hl ?_
        simp
        exact ⟨by omega, by simpa [Int.add_assoc] using q⟩
    · cases lt with
      | true =>
        simp [h1, grp, late] at q ⊢
        refine count_wp hs hl ?_
        simp
        exact ⟨by omega, by simpa [Int.add_assoc] using q⟩
      | false =>
        simp [h1, grp, early, show ¬ Str.ofString "early" = Str.ofString "late" by decide] at q ⊢
        refine count_wp hs hl ?_
        simp
        exact ⟨by omega, by simpa [Int.add_assoc] using q⟩
theorem rowof_wp {d b0 : Nat} {S : Store} {a0 a1 a2 s r : PyData} {ss rows rest : List PyData} {i : Nat} (hs : ∀ s ∈ ss, isGate s) (hl : ss.length ≤ 1000) (e : ss[i]? = some s) (lt : Bool) (er : rows[(statusF ss i s lt).toNat]? = some r) {Q : A → Store → Prop} {E : XQ} (q : Q (.val r) S) :
    wpR (callP P (d + 4) b0 25 [.val (.tuple (a0 :: a1 :: a2 :: .tuple ss :: .tuple rows :: rest)), .val (.int (i : Nat)), .val (grp lt)] S) Q E := by
  have h25 : P 25 = some F25_row_of := rfl
  refine wp_callF h25 rfl ⟨rfl, by decide, rfl⟩ ?_
  simp [F25_row_of, List.replicate]
  refine status_wp hs hl e lt ?_
  simp [statusF_lt.1, er]
  exact q
end K08


namespace K08
open PySem L2 Tr
open PySem.Spec PyProof.Rows
/-- the rows of a text -/
def RowsOk (rows : List PyData) (n : Int) : Prop := (rows.length : Int) = n ∧ ∀ r ∈ rows, RowOk r
theorem RowsOk.set {rows : List PyData} {n : Int} (h : RowsOk rows n) {i : Nat} {r : PyData} (hr : RowOk r) : RowsOk (rows.set i r) n := by
  refine ⟨by rw [List.length_set]; exact h.1, fun x hx => ?_⟩
  rcases List.mem_or_eq_of_mem_set hx with z | z
  · exact h.2 x z
  · exact z ▸ hr
theorem puts_len : PUTS.length = 12 := by decide
theorem puts_sm : ∀ y ∈ PUTS, sm 0 y = true := List.all_eq_true.mp (by decide +kernel)
theorem rows_wp {d b0 K : Nat} {p : List PyData} {n : Int} (h1 : 1 ≤ n) (hn : n ≤ 10) {Q : A → Store → Prop} {E : XQ} (ok : PoolOk (K + 10000) p) (q : ∀ rows p', PoolOk K p' → RowsOk rows n → Q (.val (.tuple rows)) [.lst p']) :
    wpR (callP P (d + 4) b0 27 [.ref 0, .val (.int n)] [.lst p]) Q E := by
  have h5 : P 5 = some F5_law_take := rfl
  have h8 : P 8 = some F8_law_puts := rfl
  have h9 : P 9 = some F9_law_menus := rfl
  have h10 : P 10 = some F10_law_some := rfl
  have h12 : P 12 = some F12_law_row := rfl
  have h27 : P 27 = some F27_law_rows := rfl
  refine wp_callF h27 rfl ⟨rfl, by decide, rfl⟩ ?_
  simp [F27_law_rows, List.replicate]
  refine puts_wp h8 ?_
  refine ⟨by omega, by omega, ?_⟩
  refine wp_collect (fun i ys S => ∃ p', S = [.lst p'] ∧ PoolOk (K + (9900 - 610 * i)) p' ∧ ys.length = i ∧ ∀ y ∈ ys, RowOk y) ⟨_, rfl, ok.mono (by omega), rfl, by simp⟩ ?_ ?_
  · rintro i e ys S he ⟨p', rfl, okp, hyl, hy⟩
    have hi := (List.getElem?_eq_some_iff.mp he).1
    rw [rangeD_len] at hi
    simp [wp_compF]
    refine row0S_wp (K := K + (9900 - 610 * (i + 1))) h5 h8 h9 h10 h12 (okp.mono (by omega)) fun r p2 ok2 hr => ?_
    simp
    exact ⟨ok2, hyl, fun y h => h.elim (hy y) fun z => z ▸ hr⟩
  · rintro ys S ⟨p1, rfl, ok1, hyl, hy⟩
    rw [rangeD_len] at ok1 hyl
    have R0 : RowsOk ys n := ⟨by omega, hy⟩
    simp
    refine take_wp (K := K + 3000) h5 (ok1.mono (by omega)) (by omega) fun way p2 ok2 w0 w1 => ?_
    simp
    refine take_wp (K := K + 2000) h5 (ok2.mono (by omega)) (by omega) fun first p3 ok3 f0 f1 => ?_
    simp
    refine ⟨fun hw => ⟨by omega, ?_⟩, fun hw => ⟨fun h2 => ?_, fun h2 => q _ _ (ok3.mono (by omega)) R0⟩⟩
    · refine ws_loop (fun i env S => ∃ rows o6, env = [some (.ref 0), some (.val (.int n)), some (.val (.int first)), some (.val (.list PUTS)), some (.ref 1), some (.val (.int way)), o6, none] ∧ S = [.lst p3, .lst rows] ∧ RowsOk rows n) ⟨ys, none, rfl, rfl, R0⟩ ?_ ?_
      · rintro i e env S he ⟨rows, o6, rfl, rfl, R⟩
        have hi := (List.getElem?_eq_some_iff.mp he).1
        rw [rangeD_len] at hi
        rw [rangeD_at _ _ _ hi] at he
        cases he
        have hil : i < rows.length := by have := R.1; omega
        obtain ⟨r, hr⟩ : ∃ r, rows[i]? = some r := ⟨_, List.getElem?_eq_getElem hil⟩
        obtain ⟨a, b, c, e, f, rfl, ra, rb, rc, re, rf⟩ := R.2 r (List.mem_of_getElem? hr)
        have hm : 0 ≤ (first + (i : Int)).fmod 12 ∧ (first + (i : Int)).fmod 12 < 12 := ⟨Int.fmod_nonneg_of_pos _ (by omega), Int.fmod_lt_of_pos _ (by omega)⟩
        obtain ⟨w, hwd⟩ : ∃ w, PUTS[((first + (i : Int)).fmod 12).toNat]? = some w := ⟨_, List.getElem?_eq_getElem (by rw [puts_len]; omega)⟩
        have hix : ixN rows.length (i : Int) = some i := ixN_of (by omega) (by omega)
        simp [ws_forF, hr, hm.1, hwd, hix]
        exact R.set ⟨a, b, _, e, f, rfl, ra, rb, ⟨_, rfl, by simp, fun y hy => by rw [List.mem_singleton.mp hy]; exact puts_sm w (List.mem_of_getElem? hwd)⟩, re, rf⟩
      · rintro env S ⟨rows, o6, rfl, rfl, R⟩
        simp [show ¬ way = 2 by omega]
        exact q _ _ (ok3.mono (by omega)) R
    · refine take_wp (K := K + 1000) h5 (ok3.mono (by omega)) (by omega) fun at_ p4 ok4 a0 a1 => ?_
      refine take_wp (K := K) h5 (ok4.mono (by omega)) (by omega) fun b p5 ok5 b0 b1 => ?_
      obtain ⟨r, hr⟩ : ∃ r, ys[b.toNat]? = some r := ⟨_, List.getElem?_eq_getElem (by omega)⟩
      have hix : ixN ys.length at_ = some at_.toNat := ixN_of (by omega) (by omega)
      simp [b0, hr, hix]
      exact q _ _ ok5 (R0.set (hy r (List.mem_of_getElem? hr)))
def pairD (lt : Bool) (n : Int) : PyData := .tuple [grp lt, .int n]
/-- a stage's groups and their statuses -/
def pairsF (ss : List PyData) (i : Nat) (s : PyData) : List PyData := pairD false (statusF ss i s false) :: if meetB s = true then [pairD true (statusF ss i s true)] else []
def walkTo (ss : List PyData) (i : Nat) : List PyData := (List.range i).map fun j => .list (pairsF ss j (ss.getD j .none))
theorem walk_at {ss : List PyData} {n i : Nat} {s : PyData} (hi : i < n) (e : ss[i]? = some s) : (walkTo ss n)[i]? = some (.list (pairsF ss i s)) := by
  unfold walkTo
  rw [List.getElem?_map, List.getElem?_range hi]
  simp [e]
theorem walk_succ {ss : List PyData} {i : Nat} {s : PyData} (e : ss[i]? = some s) : walkTo ss (i + 1) = walkTo ss i ++ [.list (pairsF ss i s)] := by
  unfold walkTo
  rw [List.range_succ, List.map_append]
  simp [e]
theorem walk_len {ss : List PyData} {i : Nat} : (walkTo ss i).length = i := by unfold walkTo; simp
theorem walked_wp {d b0 : Nat} {S : Store} {ss : List PyData} (hs : ∀ s ∈ ss, isGate s) (hl : ss.length ≤ 1000) {Q : A → Store → Prop} {E : XQ} (q : Q (.val (.list (walkTo ss ss.length))) S) :
    wpR (callP P (d + 2) b0 29 [.val (.tuple ss)] S) Q E := by
  have h11 : P 11 = some F11_law_many := rfl
  have h29 : P 29 = some F29_law_walked := rfl
  have hm := manyM_pos (ss := ss)
  refine wp_callF h29 rfl ⟨rfl, by decide, rfl⟩ ?_
  simp [F29_law_walked, List.replicate]
  refine manyT_wp h11 hs hl ?_
  refine ws_loop (fun i env S' => ∃ o1 o5, env = [some (.val (.tuple ss)), o1, some (.val (.int (manyM ss))), some (.val (.int (cntM (ss.take i) : Nat))), some (.ref S.length), o5] ∧ S' = S ++ [.lst (walkTo ss i)]) ⟨none, none, by simp [cntM], by simp [walkTo]⟩ ?_ ?_
  · rintro i e env S' he ⟨o1, o5, rfl, rfl⟩
    have hi := (List.getElem?_eq_some_iff.mp he).1
    have hc := cntM_le (ss := ss.take i)
    rw [List.length_take] at hc
    obtain ⟨g, es, rfl⟩ := hs _ (List.mem_of_getElem? he)
    rw [cntM_take he, walk_succ he]
    simp [ws_forF, mB, stopB, meetB, pairsF, statusF, pairD, grp, early, late]
    have hw : (walkTo ss i).length < 16777216 := by rw [walk_len]; omega
    refine ⟨fun h1 => ⟨by omega, fun h2 => absurd (h1.symm.trans h2) (by decide), fun h2 => ⟨hw, ?_⟩⟩, fun h1 => ⟨by omega, fun h2 => ⟨by omega, hw, ?_⟩, fun h2 => ⟨hw, ?_⟩⟩⟩
    · simp [h1, show ¬ Str.ofString "stop" = Str.ofString "meet" by decide]
    · simp [h2, show ¬ Str.ofString "meet" = Str.ofString "stop" by decide]
    · simp [h1, h2]
  · rintro env S' ⟨o1, o5, rfl, rfl⟩
    rw [List.take_length]
    simp [frz]
    exact q
end K08


namespace K08
open PySem L2 Tr
open PySem.Spec PyProof.Rows
/-- a text that all agree on -/
def TextOk (t : PyData) : Prop := ∃ a0 a1 a2 ss rows, t = .tuple [a0, a1, a2, .tuple ss, .tuple rows] ∧ (∀ s ∈ ss, isGate s) ∧ ss.length ≤ 100 ∧ RowsOk rows (manyM ss)
theorem worded_wp {d b0 K : Nat} {p : List PyData} {name : PyData} {ring : List PyData} {Q : A → Store → Prop} {E : XQ} (ok : PoolOk (K + 100000) p) (hg : ∀ s ∈ ring, isGate s) (hl1 : 1 ≤ ring.length) (hl : ring.length ≤ 10)
    (q : ∀ t p', PoolOk K p' → TextOk t → Q (.val t) [.lst p']) : wpR (callP P (d + 5) b0 28 [.ref 0, .val name, .val (.list ring)] [.lst p]) Q E := by
  have h5 : P 5 = some F5_law_take := rfl
  have h11 : P 11 = some F11_law_many := rfl
  have h28 : P 28 = some F28_law_worded := rfl
  refine wp_callF h28 rfl ⟨rfl, by decide, rfl⟩ ?_
  simp [F28_law_worded, List.replicate]
  refine take_wp (K := K + 50000) h5 (ok.mono (by omega)) (by omega) fun r p1 ok1 r0 r1 => ?_
  simp
  refine manyL_wp h11 hg (by omega) ?_
  refine rows_wp (K := K) manyM_pos (manyM_le (n := 10) hl (by omega)) (ok1.mono (by omega)) fun rows p2 ok2 R => ?_
  simp
  exact q _ _ ok2 ⟨_, _, _, ring, rows, rfl, hg, by omega, R⟩
def inB : List Cmd := [.set 7 (.idx (.idx (.var 0) (.const (.int 4))) (.idx (.var 6) (.const (.int 1)))), .ifs (.ands [(.var 1), (.not (.call 16 [(.call 25 [(.var 0), (.var 4), (.idx (.var 6) (.const (.int 0)))]), (.var 7)]))]) [.ret (.const (.bool false))] [], .ifs (.not (.call 16 [(.call 24 [(.var 0), (.var 4), (.idx (.var 6) (.const (.int 0)))]), (.idx (.var 6) (.const (.int 1)))])) [.ret (.const (.bool false))] [], .ifs (.not (.call 16 [(.call 25 [(.var 0), (.var 4), (.idx (.var 6) (.const (.int 0)))]), (.var 7)])) [.ret (.const (.bool false))] []]
def outB : List Cmd := [.set 5 (.ife (.var 1) (.rev (.idx (.var 2) (.var 4))) (.idx (.var 2) (.var 4))), .fors [6] (.seq (.var 5)) [.set 7 (.idx (.idx (.var 0) (.const (.int 4))) (.idx (.var 6) (.const (.int 1)))), .ifs (.ands [(.var 1), (.not (.call 16 [(.call 25 [(.var 0), (.var 4), (.idx (.var 6) (.const (.int 0)))]), (.var 7)]))]) [.ret (.const (.bool false))] [], .ifs (.not (.call 16 [(.call 24 [(.var 0), (.var 4), (.idx (.var 6) (.const (.int 0)))]), (.idx (.var 6) (.const (.int 1)))])) [.ret (.const (.bool false))] [], .ifs (.not (.call 16 [(.call 25 [(.var 0), (.var 4), (.idx (.var 6) (.const (.int 0)))]), (.var 7)])) [.ret (.const (.bool false))] []], .ifs (.not (.call 16 [(.call 23 [(.var 0), (.var 4)]), (.blt .tuple [(.comp [6] (.seq (.idx (.var 2) (.var 4))) none (.idx (.var 6) (.const (.int 0))))])])) [.ret (.const (.bool false))] []]
theorem sm_int {n : Int} (h : -999999999999 ≤ n ∧ n ≤ 999999999999) : sm 3 (.int n) = true := by unfold sm; exact decide_eq_true h
section
variable {d : Nat} {S : Store} {a0 a1 a2 : PyData} {ss rows : List PyData} {back : Bool}
theorem in_wp (hs : ∀ s ∈ ss, isGate s) (hl : ss.length ≤ 100) (R : RowsOk rows (manyM ss)) {i : Nat} {s : PyData} (e : ss[i]? = some s) {ps : List PyData} (hp : ∀ x ∈ ps, ∃ lt, x = pairD lt (statusF ss i s lt)) {w g ls o6 o7 : Option A} {N : TEnv → Store → Prop} {B : RS → Prop}
    (q : ∀ o6 o7, N [some (.val (.tuple [a0, a1, a2, .tuple ss, .tuple rows])), some (.val (.bool back)), w, g, some (.val (.int (i : Nat))), ls, o6, o7] S) :
    wpS (loop [] (forF ⟨callP P (d + 4) S.length, S.length⟩ [6] inB) (ps.map .val) [some (.val (.tuple [a0, a1, a2, .tuple ss, .tuple rows])), some (.val (.bool back)), w, g, some (.val (.int (i : Nat))), ls, o6, o7] S) N B := by
  have h16 : P 16 = some F16_law_same := rfl
  refine ws_loop (fun j env S' => S' = S ∧ ∃ o6 o7, env = [some (.val (.tuple [a0, a1, a2, .tuple ss, .tuple rows])), some (.val (.bool back)), w, g, some (.val (.int (i : Nat))), ls, o6, o7]) ⟨rfl, _, _, rfl⟩ ?_ ?_
  · rintro j x env S' hx ⟨rfl, o6, o7, rfl⟩
    obtain ⟨lt, rfl⟩ := hp x (List.mem_of_getElem? hx)
    have hb := statusF_lt (ss := ss) (i := i) (s := s) (lt := lt)
    have hr1 := R.1
    have hm := manyM_le (n := 100) hl (by omega)
    have hrl : (statusF ss i s lt).toNat < rows.length := by omega
    obtain ⟨r, hr⟩ : ∃ r, rows[(statusF ss i s lt).toNat]? = some r := ⟨_, List.getElem?_eq_getElem hrl⟩
    have hro := sm_same (R.2 r (List.mem_of_getElem? hr)).sm
    have hin := sm_same (sm_int (n := statusF ss i s lt) (by omega))
    simp [ws_forF, inB, pairD, hb.1, hr]
    refine ⟨fun hb => ?_, fun hb => ?_⟩
    · refine rowof_wp hs (by omega) e lt hr ?_
      refine same_wp h16 hro ?_
      simp
      refine status_wp (d := d + 1) hs (by omega) e lt ?_
      refine same_wp h16 hin ?_
      simp
      refine rowof_wp hs (by omega) e lt hr ?_
      refine same_wp h16 hro ?_
      simp
    · refine status_wp (d := d + 1) hs (by omega) e lt ?_
      refine same_wp h16 hin ?_
      simp
      refine rowof_wp hs (by omega) e lt hr ?_
      refine same_wp h16 hro ?_
      simp
  · rintro env S' ⟨rfl, o6, o7, rfl⟩
    exact q _ _
theorem pairs_ok {ss : List PyData} {i : Nat} {s : PyData} : ∀ x ∈ pairsF ss i s, ∃ lt, x = pairD lt (statusF ss i s lt) := fun x hx => by
  unfold pairsF at hx
  rcases List.mem_cons.mp hx with z | z
  · exact ⟨false, z⟩
  · split at z
    · exact ⟨true, List.mem_singleton.mp z⟩
    · cases z
def fstD (d : PyData) : PyData := match d with
  | .tuple (a :: _) => a
  | d => d
theorem firsts {ss : List PyData} {i : Nat} {s : PyData} : (pairsF ss i s).map fstD = early :: if meetB s = true then [late] else [] := by
  unfold pairsF
  by_cases h : meetB s = true
  · rw [if_pos h, if_pos h]; rfl
  · rw [if_neg h, if_neg h]; rfl
theorem groups_sm {s : PyData} : okSame (.tuple (early :: if meetB s = true then [late] else [])) = true := by
  by_cases h : meetB s = true
  · rw [if_pos h]; exact sm_same (by decide +kernel)
  · rw [if_neg h]; exact sm_same (by decide +kernel)
theorem out_wp (hs : ∀ s ∈ ss, isGate s) (hl : ss.length ≤ 100) (R : RowsOk rows (manyM ss)) {xs : List PyData} (hx : ∀ x ∈ xs, ∃ a : Nat, a < ss.length ∧ x = .int (a : Int)) {g o4 o5 o6 o7 : Option A} {N : TEnv → Store → Prop} {B : RS → Prop}
    (q : ∀ o4 o5 o6 o7, N [some (.val (.tuple [a0, a1, a2, .tuple ss, .tuple rows])), some (.val (.bool back)), some (.val (.list (walkTo ss ss.length))), g, o4, o5, o6, o7] S) :
    wpS (loop [] (forF ⟨callP P (d + 4) S.length, S.length⟩ [4] outB) (xs.map .val) [some (.val (.tuple [a0, a1, a2, .tuple ss, .tuple rows])), some (.val (.bool back)), some (.val (.list (walkTo ss ss.length))), g, o4, o5, o6, o7] S) N B := by
  have h16 : P 16 = some F16_law_same := rfl
  refine ws_loop (fun j env S' => S' = S ∧ ∃ o4 o5 o6 o7, env = [some (.val (.tuple [a0, a1, a2, .tuple ss, .tuple rows])), some (.val (.bool back)), some (.val (.list (walkTo ss ss.length))), g, o4, o5, o6, o7]) ⟨rfl, _, _, _, _, rfl⟩ ?_ ?_
  · rintro j x env S' hj ⟨rfl, o4, o5, o6, o7, rfl⟩
    obtain ⟨i, hi, rfl⟩ := hx x (List.mem_of_getElem? hj)
    obtain ⟨s, e⟩ : ∃ s, ss[i]? = some s := ⟨_, List.getElem?_eq_getElem hi⟩
    have hw := walk_at hi e
    have pl : (pairsF ss i s).length ≤ 2 := by unfold pairsF; split <;> simp
    cases back with
    | true =>
      simp [ws_forF, outB, hw, revD]
      rw [← List.map_reverse]
      refine in_wp hs hl R e (fun x hx => pairs_ok x (List.mem_reverse.mp hx)) ?_
      intro o6 o7
      simp
      refine groups_wp (d := d + 3) (hs s (List.mem_of_getElem? e)) e ?_
      simp [hw]
      refine ⟨by omega, ?_⟩
      refine wp_collect (fun j ys S2 => S2 = S' ∧ ys = ((pairsF ss i s).take j).map fstD) ⟨rfl, rfl⟩ ?_ ?_
      · rintro j x ys S2 hj2 ⟨rfl, rfl⟩
        obtain ⟨lt, rfl⟩ := pairs_ok x (List.mem_of_getElem? hj2)
        simp [wp_compF, List.take_add_one, hj2, pairD, fstD]
      · rintro ys S2 ⟨rfl, rfl⟩
        rw [List.take_length, firsts, valsOf_map', isO_some]
        refine same_wp h16 groups_sm ?_
        simp
    | false =>
      simp [ws_forF, outB, hw, revD]
      refine in_wp hs hl R e pairs_ok ?_
      intro o6 o7
      simp
      refine groups_wp (d := d + 3) (hs s (List.mem_of_getElem? e)) e ?_
      simp [hw]
      refine ⟨by omega, ?_⟩
      refine wp_collect (fun j ys S2 => S2 = S' ∧ ys = ((pairsF ss i s).take j).map fstD) ⟨rfl, rfl⟩ ?_ ?_
      · rintro j x ys S2 hj2 ⟨rfl, rfl⟩
        obtain ⟨lt, rfl⟩ := pairs_ok x (List.mem_of_getElem? hj2)
        simp [wp_compF, List.take_add_one, hj2, pairD, fstD]
      · rintro ys S2 ⟨rfl, rfl⟩
        rw [List.take_length, firsts, valsOf_map', isO_some]
        refine same_wp h16 groups_sm ?_
        simp
  · rintro env S' ⟨rfl, o4, o5, o6, o7, rfl⟩
    exact q _ _ _ _
end
theorem agrees_wp {d b0 : Nat} {S : Store} {t : PyData} (ht : TextOk t) (back : Bool) {Q : A → Store → Prop} {E : XQ} (q : Q (.val (.bool true)) S) :
    wpR (callP P (d + 5) b0 30 [.val t, .val (.bool back)] S) Q E := by
  have h11 : P 11 = some F11_law_many := rfl
  have h16 : P 16 = some F16_law_same := rfl
  have h30 : P 30 = some F30_law_agrees := rfl
  obtain ⟨a0, a1, a2, ss, rows, rfl, hs, hl, R⟩ := ht
  have hm1 := manyM_pos (ss := ss)
  have hm2 := manyM_le (n := 100) hl (by omega)
  have hms := sm_same (sm_int (n := manyM ss) (by omega))
  refine wp_callF h30 rfl ⟨rfl, by decide, rfl⟩ ?_
  simp [F30_law_agrees, List.replicate]
  refine walked_wp hs (by omega) ?_
  simp [walk_len]
  refine ⟨by omega, ?_⟩
  have ho : ∀ x ∈ rangeD 0 ss.length, ∃ a : Nat, a < ss.length ∧ x = .int (a : Int) := fun x hx => by
    obtain ⟨j, hj⟩ := List.mem_iff_getElem?.mp hx
    have hjl : j < ss.length := by have := (List.getElem?_eq_some_iff.mp hj).1; rw [rangeD_len] at this; exact this
    rw [rangeD_at _ _ _ hjl] at hj
    cases hj
    exact ⟨j, hjl, by simp⟩
  cases back with
  | true =>
    simp [revD]
    rw [← List.map_reverse]
    refine out_wp hs hl R (fun x hx => ho x (List.mem_reverse.mp hx)) ?_
    intro o4 o5 o6 o7
    simp
    refine statuses_wp (d := d + 1) hs (by omega) ?_
    refine manyT_wp h11 hs (by omega) ?_
    refine same_wp h16 hms ?_
    simp
    exact q
  | false =>
    simp
    refine statuses_wp (d := d + 1) hs (by omega) ?_
    refine manyT_wp h11 hs (by omega) ?_
    refine same_wp h16 hms ?_
    simp
    refine out_wp hs hl R ho ?_
    intro o4 o5 o6 o7
    simp
    refine statuses_wp (d := d + 1) hs (by omega) ?_
    refine manyT_wp h11 hs (by omega) ?_
    refine same_wp h16 hms ?_
    simp
    exact q
theorem law_wp {b0 : Nat} {ns : List Int} : wpR (callP P 8 b0 31 [.val (.list (ns.map .int))] []) (fun a S => a = .val (.bool true) ∧ S = []) noE := by
  have h4 : P 4 = some F4_law_pool := rfl
  have h5 : P 5 = some F5_law_take := rfl
  have h6 : P 6 = some F6_law_pick := rfl
  have h7 : P 7 = some F7_law_name := rfl
  have h13 : P 13 = some F13_law_effects := rfl
  have h26 : P 26 = some F26_law_ring := rfl
  have h31 : P 31 = some F31_law := rfl
  have gate : ∀ s, StageOk s → isGate s := fun s ⟨g, es, e, _⟩ => ⟨g, _, e⟩
  refine wp_callF h31 rfl ⟨rfl, by decide, rfl⟩ ?_
  simp [F31_law, List.replicate]
  refine pool_wp h4 fun p0 ok0 => ?_
  simp
  refine ring26_wp (K := 1000000) h5 h6 h13 h26 (ok0.mono (by decide)) fun r1 p1 ok1 G1 k1 l1 => ?_
  simp
  refine ring26_wp (K := 900000) h5 h6 h13 h26 (ok1.mono (by decide)) fun r2 p2 ok2 G2 k2 l2 => ?_
  simp
  refine name_wp (K := 800000) h5 h7 (ok2.mono (by decide)) fun nm p3 ok3 hnm => ?_
  simp
  refine worded_wp (K := 600000) (ok3.mono (by decide)) (fun s h => gate s (G1 s h)) (by omega) l1 fun t1 p4 ok4 T1 => ?_
  simp
  refine worded_wp (K := 400000) (ok4.mono (by decide)) (fun s h => gate s (G2 s h)) (by omega) l2 fun t2 p5 ok5 T2 => ?_
  simp
  refine name_wp (K := 300000) h5 h7 (ok5.mono (by decide)) fun nm2 p6 ok6 hnm2 => ?_
  refine worded_wp (K := 100000) (ok6.mono (by decide)) (fun s h => gate s (G1 s h)) (by omega) l1 fun t3 p7 ok7 T3 => ?_
  simp
  refine agrees_wp T1 false ?_
  simp
  refine agrees_wp T2 true ?_
  simp
  refine agrees_wp T3 false ?_
  simp
  refine agrees_wp T1 true ?_
  simp
theorem val (ns : List Int) : callP P 8 0 31 [.val (.list (ns.map .int))] [] = .ok (.val (.bool true)) [] := by
  obtain ⟨a, S, e, rfl, rfl⟩ := wpR_ok (law_wp (b0 := 0) (ns := ns))
  exact e
end K08


theorem PySem.Challenge.cw_sweepwarrant_k08_statuses_groups_holds : PySem.Challenge.rw_sweepwarrant_k08_statuses_groups.Holds :=
  K08.lawHolds fun ns h => K08.val ns
