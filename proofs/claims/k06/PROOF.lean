import PyProof.Rows.All
import HandS.ForMost
import HandS.Walk
import HandS.TupAny
import HandS.Strs
import HandS.StrMore
import HandS.Flow
import HandS.Defaults
import HandS.NoneIn
import HandS.IsInst
import HandS.FStr
import HandS.Head0
import HandS.Head1
import HandS.Head2
import HandS.HeadEnd
import HandS.HeadHook1
import HandS.HeadHook2
import HandS.HeadHook3
import HandS.HeadHook4
import HandS.Ends
import HandS.Codes
import PySem.Challenge.RW_sweepwarrant_k06_options_told
set_option Elab.async false
set_option maxRecDepth 100000
set_option maxHeartbeats 0
set_option linter.all false

/-! A tree evaluator for a part of Python, and its tie to the hand layer: values are trees (PyData), lists that
are changed stand in cells or belong to one name. -/
namespace Tr
open PySem L2
open PySem.Spec PyProof.Rows

/-- what a name can hold: a datum, or a cell of the store -/
inductive A where
  | val (d : PyData)
  | ref (n : Nat)

/-- the cells: lists that several names may change -/
abbrev Store := List (List PyData)

inductive R (α : Type) where
  | ok (a : α) (S : Store)
  | err

namespace R
def bind {α β : Type} (r : R α) (f : α → Store → R β) : R β := match r with
  | .ok a S => f a S
  | .err => .err
def lift {α : Type} (o : Option α) (S : Store) : R α := match o with
  | some a => .ok a S
  | none => .err
theorem bind_ok {α β : Type} {r : R α} {f : α → Store → R β} {b : β} {S' : Store} (h : r.bind f = .ok b S') : ∃ a S, r = .ok a S ∧ f a S = .ok b S' := by
  cases r with
  | ok a S => exact ⟨a, S, rfl, h⟩
  | err => cases h
theorem lift_ok {α : Type} {o : Option α} {S S' : Store} {a : α} (h : lift o S = .ok a S') : o = some a ∧ S' = S := by
  cases o with
  | some b => cases h; exact ⟨rfl, rfl⟩
  | none => cases h
end R

/-- a cell's content in the place of its number -/
def deref (S : Store) : A → Option PyData
  | .val d => some d
  | .ref n => (S[n]?).map .list

inductive BOp where
  | add | sub | mul | fdiv | mod | pow
  deriving DecidableEq
inductive COp where
  | eq | ne | lt | le | gt | ge | inn | nin
  deriving DecidableEq
/-- built-in functions of values -/
inductive BF where
  | len | abs | int | str | max2 | min2 | tuple | list | all | any | repr
  | isInst (t : String)
  deriving DecidableEq
/-- methods of texts and tuples -/
inductive MF where
  | removesuffix | endswith | startswith | join | split | index
  deriving DecidableEq

inductive Ex where
  | var (i : Nat)
  | own (i : Nat)
  | cell (i : Nat)
  | const (d : PyData)
  | glob (x : Str) (d : PyData)
  | tup (es : List Ex)
  | lst (es : List Ex)
  | bin (o : BOp) (a b : Ex)
  | neg (a : Ex)
  | cmp (o : COp) (a b : Ex)
  | isN (neg : Bool) (a : Ex)
  | chain (o o' : COp) (a b c : Ex)
  | ands (es : List Ex)
  | ors (es : List Ex)
  | not (a : Ex)
  | ife (c a b : Ex)
  | idx (a i : Ex)
  | slice (a : Ex) (lo hi : Option Ex)
  | blt (f : BF) (es : List Ex)
  | meth (f : MF) (a : Ex) (es : List Ex)
  | call (f : Nat) (es : List Ex)
  | range1 (a : Ex)
  | range2 (a b : Ex)
  | enum (a : Ex)
  | zip (a b : Ex)
  | comp (tg : List Nat) (it : Ex) (c : Option Ex) (e : Ex)

inductive Cmd where
  | set (i : Nat) (e : Ex)
  | setT (is : List Nat) (e : Ex)
  | par (i j : Nat) (a b : Ex)
  | par3 (i j k : Nat) (a b c : Ex)
  | box (i : Nat) (e : Ex)
  | aug (i : Nat) (o : BOp) (e : Ex)
  | app (w : Bool) (i : Nat) (e : Ex)
  | extd (w : Bool) (i : Nat) (e : Ex)
  | put (w : Bool) (i : Nat) (k e : Ex)
  | augPut (w : Bool) (i : Nat) (k : Ex) (o : BOp) (e : Ex)
  | ifs (c : Ex) (a b : List Cmd)
  | fors (tg : List Nat) (it : Ex) (body : List Cmd)
  | ret (e : Ex)
  | retO (i : Nat)
  | retN
  | pass
  | brk
  | cnt
  | doc

/-- a def: its parameters' number, the number of its names, its changed own lists, whether it hands back a new list -/
structure Fn where
  np : Nat
  ns : Nat
  W : List Nat
  fresh : Bool
  body : List Cmd

def flatD : PyData → Bool
  | .none => true
  | .bool _ => true
  | .int _ => true
  | .str _ => true
  | _ => false

def binD : BOp → PyData → PyData → Option PyData
  | .add, .int i, .int j => some (.int (i + j))
  | .add, .str x, .str y => if x.length + y.length ≤ sizeLine then some (.str (x ++ y)) else none
  | .add, .list x, .list y => if x.length + y.length ≤ sizeLine then some (.list (x ++ y)) else none
  | .add, .tuple x, .tuple y => if x.length + y.length ≤ sizeLine then some (.tuple (x ++ y)) else none
  | .sub, .int i, .int j => some (.int (i - j))
  | .mul, .int i, .int j => if (-(2 ^ 64) < i ∧ i < 2 ^ 64) ∨ (-(2 ^ 64) < j ∧ j < 2 ^ 64) then some (.int (i * j)) else none
  | .fdiv, .int i, .int j => if j ≠ 0 ∧ j.natAbs < 1073741824 then some (.int (i.fdiv j)) else none
  | .mod, .int i, .int j => if j ≠ 0 then some (.int (i.fmod j)) else none
  | .pow, .int i, .int j => if 0 ≤ j ∧ j ≤ 1000000 ∧ i.natAbs < 2 ^ 64 then some (.int (i ^ j.toNat)) else none
  | _, _, _ => none

def inD (x : PyData) (ys : List PyData) : Option Bool :=
  if flatD x = true ∧ ys.all flatD = true then some (ys.any fun y => PyData.eqv y x) else none

def cmpD : COp → PyData → PyData → Option Bool
  | .eq, .str x, .str y => some (decide (x = y))
  | .ne, .str x, .str y => some (!decide (x = y))
  | .eq, a, b => if SeqAt.shaped a = true ∧ SeqAt.shaped b = true then some (PyData.eqv a b) else none
  | .ne, a, b => if SeqAt.shaped a = true ∧ SeqAt.shaped b = true then some (!PyData.eqv a b) else none
  | .lt, .int i, .int j => some (decide (i < j))
  | .le, .int i, .int j => some (decide (i ≤ j))
  | .gt, .int i, .int j => some (decide (j < i))
  | .ge, .int i, .int j => some (decide (j ≤ i))
  | .inn, x, .list ys => inD x ys
  | .inn, x, .tuple ys => inD x ys
  | .inn, .str x, .str y => some (!(Builtin.Str.occurrences y x 0 y.length 1).isEmpty)
  | .nin, x, .list ys => (inD x ys).map (!·)
  | .nin, x, .tuple ys => (inD x ys).map (!·)
  | .nin, .str x, .str y => some (!(!(Builtin.Str.occurrences y x 0 y.length 1).isEmpty))
  | _, _, _ => none

def idxD : PyData → PyData → Option PyData
  | .list xs, .int i => atI xs i
  | .tuple xs, .int i => atI xs i
  | .str z, .int i => if z.length ≤ sizeLine then (atI z.cps.toList i).map fun c => .str ⟨#[c]⟩ else none
  | _, _ => none

/-- in place, upon ints and texts -/
def augD : BOp → PyData → PyData → Option PyData
  | .add, .int i, .int j => some (.int (i + j))
  | .add, .str x, .str y => if x.length + y.length ≤ sizeLine then some (.str (x ++ y)) else none
  | .sub, .int i, .int j => some (.int (i - j))
  | _, _, _ => none

/-- a part of a list -/
def cutD (xs : List PyData) (lo hi : Option Int) : List PyData :=
  (xs.drop (HT.sIx xs.length 0 lo)).take (HT.sIx xs.length xs.length hi - HT.sIx xs.length 0 lo)

def sliceD : PyData → Option Int → Option Int → Option PyData
  | .list xs, lo, hi => some (.list (cutD xs lo hi))
  | .tuple xs, lo, hi => some (.tuple (cutD xs lo hi))
  | .str z, lo, hi => if z.length ≤ sizeLine then some (.str (cutS z lo hi)) else none
  | _, _, _ => none

def boolsD : List PyData → Option (List Bool)
  | [] => some []
  | .bool b :: r => (boolsD r).map (b :: ·)
  | _ :: _ => none
def strsD : List PyData → Option (List Str)
  | [] => some []
  | .str b :: r => (strsD r).map (b :: ·)
  | _ :: _ => none

/-- the kinds of isinstance -/
def kindOf : PyData → String
  | .none => "NoneType"
  | .bool _ => "bool"
  | .int _ => "int"
  | .str _ => "str"
  | .list _ => "list"
  | .tuple _ => "tuple"
  | .dict _ => "dict"
def isK (a k : String) : Bool := a == k || (a == "bool" && k == "int")
def isKind (k : String) (d : PyData) : Bool := isK (kindOf d) k

def bltD : BF → List PyData → Option PyData
  | .len, [.list xs] => some (.int xs.length)
  | .len, [.tuple xs] => some (.int xs.length)
  | .len, [.str x] => if x.length ≤ sizeLine then some (.int x.length) else none
  | .abs, [.int i] => some (.int (if i < 0 then -i else i))
  | .int, [.int i] => some (.int i)
  | .int, [.bool b] => some (.int (if b then 1 else 0))
  | .str, [.int i] => if i.natAbs.log2 < 1920 then some (.str (toString i)) else none
  | .max2, [.int i, .int j] => some (.int (if j > i then j else i))
  | .min2, [.int i, .int j] => some (.int (if j < i then j else i))
  | .tuple, [.list xs] => some (.tuple xs)
  | .tuple, [.tuple xs] => some (.tuple xs)
  | .list, [.list xs] => some (.list xs)
  | .list, [.tuple xs] => some (.list xs)
  | .all, [.list xs] => (boolsD xs).map fun bs => .bool (bs.all id)
  | .any, [.list xs] => (boolsD xs).map fun bs => .bool (bs.any id)
  | .repr, [d] => if d.showable = true ∧ d.hasDict = false ∧ d.depth ≤ 60 ∧ d.shown.length ≤ sizeLine then some (.str d.shown) else none
  | .isInst t, [d] => some (.bool (isKind t d))
  | _, _ => none

/-- the first place of an equal item -/
def placeD (d : PyData) : List PyData → Option Nat
  | [] => none
  | x :: r => if PyData.eqv x d = true then some 0 else (placeD d r).map (· + 1)
def indexD (ds : List PyData) (d : PyData) : Option PyData := if flatD d = true ∧ ds.all flatD = true then (placeD d ds).map fun n => .int (n : Nat) else none

def methD : MF → PyData → List PyData → Option PyData
  | .removesuffix, .str a, [.str b] => if a.length ≤ sizeLine then some (.str (Txt.removesuffix a b)) else none
  | .endswith, .str a, [.str b] => some (.bool (Txt.endswith a b))
  | .startswith, .str a, [.str b] => some (.bool (Txt.startswith a b))
  | .join, .str a, [.list ds] => (strsD ds).bind fun ys => if (ys.map (·.length)).sum + ys.length * a.length ≤ 16777216 then some (.str (Txt.join a ys)) else none
  | .join, .str a, [.tuple ds] => (strsD ds).bind fun ys => if (ys.map (·.length)).sum + ys.length * a.length ≤ 16777216 then some (.str (Txt.join a ys)) else none
  | .split, .str a, [.str b] => if (b.length == 0) = false ∧ a.length + 2 ≤ sizeLine then some (.list ((Txt.split a b).map .str)) else none
  | .index, .list ds, [d] => indexD ds d
  | .index, .tuple ds, [d] => indexD ds d
  | _, _, _ => none

def pairsFrom (k : Nat) : List PyData → List PyData
  | [] => []
  | d :: r => .tuple [.int (k : Nat), d] :: pairsFrom (k + 1) r
def zipD : List PyData → List PyData → List PyData
  | a :: r, b :: s => .tuple [a, b] :: zipD r s
  | _, _ => []
def rangeD (lo : Int) : Nat → List PyData
  | 0 => []
  | n + 1 => .int lo :: rangeD (lo + 1) n
/-- what a walk over it gives -/
def itemsD : PyData → Option (List PyData)
  | .list xs => some xs
  | .tuple xs => some xs
  | .str z => some (z.cps.toList.map fun c => .str ⟨#[c]⟩)
  | _ => none

abbrev TEnv := List (Option A)
/-- what a call of the f-th def gives -/
abbrev Calls := Nat → List A → Store → R A

def valsOf : List A → Option (List PyData)
  | [] => some []
  | .val d :: r => (valsOf r).map (d :: ·)
  | .ref _ :: _ => none
def derefs (S : Store) : List A → Option (List PyData)
  | [] => some []
  | a :: r => match deref S a with
    | some d => (derefs S r).map (d :: ·)
    | none => none
def getV (env : TEnv) (i : Nat) : Option A := match env[i]? with
  | some (some a) => some a
  | _ => none
def asBool : A → Option Bool
  | .val (.bool b) => some b
  | _ => none
def asInt (S : Store) (a : A) : Option Int := match deref S a with
  | some (.int i) => some i
  | _ => none
/-- a target takes a datum -/
def bindT : List Nat → PyData → TEnv → Option TEnv
  | [i], d, env => some (env.set i (some (.val d)))
  | is, .tuple ds, env => if is.length = ds.length then some ((is.zip ds).foldl (fun e p => e.set p.1 (some (.val p.2))) env) else none
  | is, .list ds, env => if is.length = ds.length then some ((is.zip ds).foldl (fun e p => e.set p.1 (some (.val p.2))) env) else none
  | _, _, _ => none

/-- what a walk over it gives; no cell is walked -/
def itemsA : A → Option (List PyData)
  | .val d => itemsD d
  | .ref _ => none

def collect (f : PyData → Store → R (Option PyData)) : List PyData → Store → R (List PyData)
  | [], S => .ok [] S
  | d :: r, S => (f d S).bind fun o S => (collect f r S).bind fun ys S => .ok (match o with
    | some y => y :: ys
    | none => ys) S

mutual
def evalE (C : Calls) : Ex → TEnv → Store → R A
  | .var i, env, S => .lift (getV env i) S
  | .own i, env, S => .lift (getV env i) S
  | .cell i, env, S => match getV env i with
    | some (.ref n) => .ok (.ref n) S
    | _ => .err
  | .const d, _, S => .ok (.val d) S
  | .glob _ d, _, S => .ok (.val d) S
  | .tup es, env, S => (evalEs C es env S).bind fun as S => match valsOf as with
    | some ds => if ds.length ≤ sizeLine then .ok (.val (.tuple ds)) S else .err
    | none => .err
  | .lst es, env, S => (evalEs C es env S).bind fun as S => match valsOf as with
    | some ds => if ds.length ≤ sizeLine then .ok (.val (.list ds)) S else .err
    | none => .err
  | .bin o a b, env, S => (evalE C a env S).bind fun x S => (evalE C b env S).bind fun y S => match deref S x, deref S y with
    | some d, some e => .lift ((binD o d e).map .val) S
    | _, _ => .err
  | .neg a, env, S => (evalE C a env S).bind fun x S => match asInt S x with
    | some i => .ok (.val (.int (-i))) S
    | none => .err
  | .cmp o a b, env, S => (evalE C a env S).bind fun x S => (evalE C b env S).bind fun y S => match deref S x, deref S y with
    | some d, some e => .lift ((cmpD o d e).map fun b => .val (.bool b)) S
    | _, _ => .err
  | .isN ng a, env, S => (evalE C a env S).bind fun x S => match x with
    | .val .none => .ok (.val (.bool (!ng))) S
    | _ => .ok (.val (.bool ng)) S
  | .chain o o' a b c, env, S => (evalE C a env S).bind fun x S => (evalE C b env S).bind fun y S => match deref S x, deref S y with
    | some d, some e => (R.lift (cmpD o d e) S).bind fun k S => if k = true then (evalE C c env S).bind fun z S => match deref S y, deref S z with
        | some e, some g => .lift ((cmpD o' e g).map fun b => .val (.bool b)) S
        | _, _ => .err
      else .ok (.val (.bool false)) S
    | _, _ => .err
  | .ands es, env, S => evalAnd C es env S
  | .ors es, env, S => evalOr C es env S
  | .not a, env, S => (evalE C a env S).bind fun x S => (R.lift (asBool x) S).bind fun k S => .ok (.val (.bool (!k))) S
  | .ife c a b, env, S => (evalE C c env S).bind fun x S => (R.lift (asBool x) S).bind fun k S => if k = true then evalE C a env S else evalE C b env S
  | .idx a i, env, S => (evalE C a env S).bind fun x S => (evalE C i env S).bind fun y S => match deref S x, deref S y with
    | some d, some e => .lift ((idxD d e).map .val) S
    | _, _ => .err
  | .slice a lo hi, env, S => (evalE C a env S).bind fun x S => (evalO C lo env S).bind fun l S => (evalO C hi env S).bind fun h S => match deref S x with
    | some d => .lift ((sliceD d l h).map .val) S
    | none => .err
  | .blt f es, env, S => (evalEs C es env S).bind fun as S => match derefs S as with
    | some ds => .lift ((bltD f ds).map .val) S
    | none => .err
  | .meth f a es, env, S => (evalE C a env S).bind fun x S => (evalEs C es env S).bind fun as S => match deref S x, derefs S as with
    | some d, some ds => .lift ((methD f d ds).map .val) S
    | _, _ => .err
  | .call f es, env, S => (evalEs C es env S).bind fun as S => C f as S
  | .range1 a, env, S => (evalE C a env S).bind fun x S => match asInt S x with
    | some j => if -(2 ^ 62) ≤ j ∧ j < 2 ^ 62 then .ok (.val (.list (rangeD 0 j.toNat))) S else .err
    | none => .err
  | .range2 a b, env, S => (evalE C a env S).bind fun x S => (evalE C b env S).bind fun y S => match asInt S x, asInt S y with
    | some i, some j => if -(2 ^ 62) ≤ i ∧ i < 2 ^ 62 ∧ -(2 ^ 62) ≤ j ∧ j < 2 ^ 62 then .ok (.val (.list (rangeD i (j - i).toNat))) S else .err
    | _, _ => .err
  | .enum a, env, S => (evalE C a env S).bind fun x S => match x with
    | .val (.list xs) => .ok (.val (.list (pairsFrom 0 xs))) S
    | _ => .err
  | .zip a b, env, S => (evalE C a env S).bind fun x S => (evalE C b env S).bind fun y S => match x, y with
    | .val (.list xs), .val (.list ys) => .ok (.val (.list (zipD xs ys))) S
    | _, _ => .err
  | .comp tg it c e, env, S => (evalE C it env S).bind fun x S => (R.lift (itemsA x) S).bind fun ds S => if ds.length ≤ sizeLine then
      (collect (fun d S => match bindT tg d env with
        | some env' => (evalC C c env' S).bind fun k S => if k = true then (evalE C e env' S).bind fun y S => match y with
            | .val d => .ok (some d) S
            | .ref _ => .err
          else .ok none S
        | none => .err) ds S).bind fun ys S => .ok (.val (.list ys)) S
    else .err
def evalEs (C : Calls) : List Ex → TEnv → Store → R (List A)
  | [], _, S => .ok [] S
  | e :: es, env, S => (evalE C e env S).bind fun a S => (evalEs C es env S).bind fun as S => .ok (a :: as) S
def evalAnd (C : Calls) : List Ex → TEnv → Store → R A
  | [], _, _ => .err
  | e :: es, env, S => match es with
    | [] => evalE C e env S
    | _ :: _ => (evalE C e env S).bind fun x S => (R.lift (asBool x) S).bind fun k S => if k = true then evalAnd C es env S else .ok (.val (.bool false)) S
def evalOr (C : Calls) : List Ex → TEnv → Store → R A
  | [], _, _ => .err
  | e :: es, env, S => match es with
    | [] => evalE C e env S
    | _ :: _ => (evalE C e env S).bind fun x S => (R.lift (asBool x) S).bind fun k S => if k = true then .ok (.val (.bool true)) S else evalOr C es env S
def evalO (C : Calls) : Option Ex → TEnv → Store → R (Option Int)
  | none, _, S => .ok none S
  | some e, env, S => (evalE C e env S).bind fun a S => match asInt S a with
    | some i => .ok (some i) S
    | none => .err
/-- a clause's test -/
def evalC (C : Calls) : Option Ex → TEnv → Store → R Bool
  | none, _, S => .ok true S
  | some e, env, S => (evalE C e env S).bind fun a S => .lift (asBool a) S
end

inductive RS where
  | nx (env : TEnv) (S : Store)
  | bk (env : TEnv) (S : Store)
  | ct (env : TEnv) (S : Store)
  | rt (a : A) (S : Store)
  | err

def RS.bind (r : RS) (f : TEnv → Store → RS) : RS := match r with
  | .nx env S => f env S
  | r => r
/-- behind an expression -/
def R.thn {α : Type} (r : R α) (f : α → Store → RS) : RS := match r with
  | .ok a S => f a S
  | .err => .err
def loop (f : PyData → TEnv → Store → RS) : List PyData → TEnv → Store → RS
  | [], env, S => .nx env S
  | d :: r, env, S => match f d env S with
    | .nx env S => loop f r env S
    | .ct env S => loop f r env S
    | .bk env S => .nx env S
    | .rt a S => .rt a S
    | .err => .err

/-- a list is changed: a name's own, or a cell's -/
def change (w : Bool) (env : TEnv) (S : Store) (i : Nat) (f : List PyData → Option (List PyData)) : RS := match getV env i with
  | some (.val (.list ds)) => if w = true then (match f ds with
    | some ds' => .nx (env.set i (some (.val (.list ds')))) S
    | none => .err) else .err
  | some (.ref n) => match S[n]? with
    | some ds => match f ds with
      | some ds' => .nx env (S.set n ds')
      | none => .err
    | none => .err
  | _ => .err

mutual
def exec (C : Calls) : Cmd → TEnv → Store → RS
  | .set i e, env, S => (evalE C e env S).thn fun a S => .nx (env.set i (some a)) S
  | .setT is e, env, S => (evalE C e env S).thn fun a S => match a with
    | .val d => match bindT is d env with
      | some env' => .nx env' S
      | none => .err
    | .ref _ => .err
  | .par i j a b, env, S => (evalE C a env S).thn fun x S => (evalE C b env S).thn fun y S => .nx ((env.set i (some x)).set j (some y)) S
  | .par3 i j k a b c, env, S => (evalE C a env S).thn fun x S => (evalE C b env S).thn fun y S => (evalE C c env S).thn fun z S => .nx (((env.set i (some x)).set j (some y)).set k (some z)) S
  | .box i e, env, S => (evalE C e env S).thn fun a S => match a with
    | .val (.list ds) => .nx (env.set i (some (.ref S.length))) (S ++ [ds])
    | _ => .err
  | .aug i o e, env, S => match getV env i with
    | some (.val d) => (evalE C e env S).thn fun b S => match deref S b with
      | some y => match augD o d y with
        | some z => .nx (env.set i (some (.val z))) S
        | none => .err
      | none => .err
    | _ => .err
  | .app w i e, env, S => (evalE C e env S).thn fun a S => match a with
    | .val d => change w env S i fun ds => if ds.length < sizeLine then some (ds ++ [d]) else none
    | .ref _ => .err
  | .extd w i e, env, S => (evalE C e env S).thn fun a S => match a with
    | .val (.list xs) => change w env S i fun ds => if ds.length + xs.length ≤ sizeLine then some (ds ++ xs) else none
    | _ => .err
  | .put w i k e, env, S => (evalE C e env S).thn fun a S => (evalE C k env S).thn fun b S => match a, asInt S b with
    | .val d, some j => change w env S i fun ds => (ixN ds.length j).map fun m => ds.set m d
    | _, _ => .err
  | .augPut w i k o e, env, S => (evalE C k env S).thn fun b S => match asInt S b, (getV env i).bind (deref S) with
    | some j, some (.list ds) => match atI ds j with
      | some old => (evalE C e env S).thn fun y S => match deref S y with
        | some d => match augD o old d with
          | some z => change w env S i fun ds => (ixN ds.length j).map fun m => ds.set m z
          | none => .err
        | none => .err
      | none => .err
    | _, _ => .err
  | .ifs c a b, env, S => (evalE C c env S).thn fun x S => match asBool x with
    | some k => if k = true then execs C a env S else execs C b env S
    | none => .err
  | .fors tg it body, env, S => (evalE C it env S).thn fun x S => match itemsA x with
    | some ds => loop (fun d env S => match bindT tg d env with
      | some env' => execs C body env' S
      | none => .err) ds env S
    | none => .err
  | .ret e, env, S => (evalE C e env S).thn fun a S => .rt a S
  | .retO i, env, S => match getV env i with
    | some (.val d) => .rt (.val d) S
    | _ => .err
  | .retN, _, S => .rt (.val .none) S
  | .pass, env, S => .nx env S
  | .brk, env, S => .bk env S
  | .cnt, env, S => .ct env S
  | .doc, env, S => .nx env S
def execs (C : Calls) : List Cmd → TEnv → Store → RS
  | [], env, S => .nx env S
  | s :: ss, env, S => (exec C s env S).bind fun env S => execs C ss env S
end

/-- a def's call -/
def runFn (C : Calls) (f : Fn) (as : List A) (S : Store) : R A :=
  if as.length = f.np ∧ f.np ≤ f.ns then
    match execs C f.body (as.map some ++ List.replicate (f.ns - f.np) none) S with
    | .rt (.val d) S' => .ok (.val d) (S'.take S.length)
    | .rt (.ref n) S' => if n < S.length then .ok (.ref n) (S'.take S.length) else .err
    | .nx _ S' => .ok (.val .none) (S'.take S.length)
    | _ => .err
  else .err
/-- the defs, by their numbers -/
abbrev Prg := Nat → Option Fn
/-- calls, n deep -/
def callP (P : Prg) : Nat → Calls
  | 0 => fun _ _ _ => .err
  | n + 1 => fun f as S => match P f with
    | some fn => runFn (callP P n) fn as S
    | none => .err
end Tr


namespace Tr
open PySem L2
open PySem.Spec PyProof.Rows

/-- a tuple of the written part -/
def KT (K : PySem.W.Frag) (a : Addr) (xs : List V) : Prop :=
  ∃ (o : Obj) (its : Array Value) (n : Nat), K.lookup a = some o ∧ o.cls = .type "tuple" ∧ o.dict = none ∧ o.data = .seq its n ∧ its.size ≤ sizeLine ∧ Vals xs its.toList
def SqF (K : PySem.W.Frag) (H : Hp) (a : Addr) (xs : List V) : Prop := (∃ o, H a = some (.frz o (.tup xs)) ∧ o.dict = none) ∨ KT K a xs
theorem SqF.sq {K : PySem.W.Frag} {H : Hp} {a : Addr} {xs : List V} (h : SqF K H a xs) : SqT K H a xs := by
  rcases h with ⟨o, h, _⟩ | ⟨o, its, n, h1, h2, _, h3⟩
  · exact .inl (.inr ⟨o, h⟩)
  · exact .inr ⟨o, its, n, h1, h2, h3⟩
/-- a new tuple -/
def NewT (H : Hp) (xs : List V) (Q : VK) : Prop := ∀ p o, H p = none → o.dict = none → Q (.ref p) (upd H p (.frz o (.tup xs)))
section
variable {X : Cx} {pins : List (Addr × Obj)} {σ : L2.St} {H : Hp} {s : Shared} {xs : List V} {its : List Value} {Q : VK}
theorem tup_end {h' : Heap} {t' : Nat} (I : Inv X pins σ H { s with heap := h', toks := t' }) (r : Vals xs its) (hz : xs.length ≤ sizeLine) (q : NewT H xs Q) :
    EP X pins σ Q (.ref h'.objs.size) { s with heap := h'.push { cls := .type "tuple", data := .seq its.toArray }, toks := t' } := by
  have e : (h'.push { cls := .type "tuple", data := .seq its.toArray }).get? h'.objs.size = some { cls := .type "tuple", data := .seq its.toArray } := Heap.get?_push_size _ rfl
  have hn : H h'.objs.size = none := I.hok.fresh (Nat.le_refl _)
  refine ⟨.ref h'.objs.size, _, I.laid (t' := t') (fun b o e => Heap.get?_push_of_some _ e) (Nat.le_refl _) ?_, rfl, q h'.objs.size { cls := .type "tuple", data := .seq its.toArray } hn rfl⟩
  exact ⟨e, hz, its, r, ⟨_, e, rfl, _, rfl⟩⟩
def tTupF (t : TA) : TE := fun σ H Q => t σ H fun xs H1 => xs.length ≤ sizeLine ∧ NewT H1 xs Q
theorem pe_tupF {es : List Expr} {t : TA} {k : Nat} {pos : Pos} (h : PA X es t) : PE X (.Tuple es k pos) (tTupF t) := by
  refine ⟨fun pins s σ H Q I hq => wpAny_Tuple_spliced (thn (h.run pos pins s σ H _ I hq) fun us s1 ⟨xs, H1, I1, r, z, q⟩ => ⟨by rw [← r.length]; exact z, ?_⟩)⟩
  exact tup_end (s := s1) (h' := s1.heap) (t' := s1.toks) I1 r z q
def rCatF (K : PySem.W.Frag) : R2 := fun x y H Q => ∃ a b xs ys, x = .ref a ∧ y = .ref b ∧ SqT K H a xs ∧ SqT K H b ys ∧ xs.length + ys.length ≤ sizeLine ∧
  (xs = [] → Q (.ref b) H) ∧ (xs ≠ [] → ys = [] → Q (.ref a) H) ∧ (xs ≠ [] → ys ≠ [] → NewT H (xs ++ ys) Q)
theorem op_catF : OpR X (binaryOp .Add) (rCatF X.K) := by
  intro pins s σ H x y v u Q I rx ry h
  obtain ⟨a, b, xs, ys, rfl, rfl, ha, hb, hz, q0, q1, q2⟩ := h
  cases rx
  cases ry
  obtain ⟨its, r1, p1, _⟩ := I.tuple ha
  obtain ⟨its2, r2, p2, _⟩ := I.tuple hb
  by_cases hx : xs = []
  · subst hx
    cases r1
    exact cat_tup0 p1 p2 ⟨.ref b, H, I, rfl, q0 rfl⟩
  · refine HT.cat_tup p1 p2 (fun z => hx (r1.nil_iff.mp z)) (fun z => ⟨.ref a, H, I, rfl, q1 hx (r2.nil_iff.mp z)⟩) (fun z => ?_) (by rw [← r1.length, ← r2.length]; exact hz)
    exact tup_end (s := s) (t' := s.toks) I (r1.append r2) (by rw [List.length_append]; exact hz) (q2 hx fun w => z (r2.nil_iff.mpr w))
def rSlF (K : PySem.W.Frag) : V → Option Int → Option Int → Hp → VK → Prop := fun x lo hi H Q => ∃ a xs, x = .ref a ∧ SqT K H a xs ∧
  (HT.sIx xs.length 0 lo = 0 ∧ HT.sIx xs.length xs.length hi = xs.length → Q (.ref a) H) ∧ (¬ (HT.sIx xs.length 0 lo = 0 ∧ HT.sIx xs.length xs.length hi = xs.length) → NewT H (cutV xs lo hi) Q)
theorem sl_tupF : SlR X (rSlF X.K) := by
  intro pins s σ H x v vl vu lo hi sl Q I rx hs pl pu h
  obtain ⟨a, xs, rfl, hx, q1, q2⟩ := h
  cases rx
  obtain ⟨its, r, ht, hz⟩ := I.tuple hx
  have hlen : its.toArray.size = xs.length := by rw [List.size_toArray]; exact r.length.symm
  refine ⟨"tuple", _, PyProof.Rows.slot_tuple_getitem.lookup, ht.typeIs, ?_⟩
  by_cases hw : HT.sIx xs.length 0 lo = 0 ∧ HT.sIx xs.length xs.length hi = xs.length
  · exact getItem_tuple_whole ht hs pl pu (by rw [hlen]; exact hw) ⟨.ref a, H, I, rfl, q1 hw⟩
  · refine HT.getItem_tuple_cut ht hs pl pu (by rw [hlen]; exact hw) ?_ (by rw [hlen]; exact hz)
    rw [hlen]
    exact tup_end (s := s) (t' := s.toks) I ((r.drop (HT.sIx xs.length 0 lo)).take (HT.sIx xs.length xs.length hi - HT.sIx xs.length 0 lo)) (Nat.le_trans (cutV_length xs lo hi) hz) (q2 hw)
theorem call_tupleF : CallR X (.type "tuple") (fun xs H Q => ∃ p ys, xs = [.ref p] ∧ ((SqL X.K H p ys ∧ NewT H ys Q) ∨ (SqT X.K H p ys ∧ Q (.ref p) H))) := by
  intro pins s σ H xs us Q I r h
  obtain ⟨p, ys, rfl, h⟩ := h
  obtain ⟨u, rfl, rx⟩ : ∃ u, us = [u] ∧ RelV (.ref p) u := by
    cases r with
    | cons r t => cases t; exact ⟨_, rfl, r⟩
  cases rx
  rcases h with ⟨hq, q⟩ | ⟨hq, q⟩
  · obtain ⟨its, r', pl, hz⟩ := I.list hq
    have hlen := r'.length
    refine call_tuple_list pl.isList (fun h' kp => ?_) (by simp only [List.size_toArray] <;> omega)
    exact tup_end (s := s) (t' := s.toks) (I.kept (t' := s.toks) kp) r' hz q
  · obtain ⟨its, r', pl, hz⟩ := I.tuple hq
    exact call_tuple_same pl ⟨.ref p, H, I, rfl, q⟩
/-- the method of a built-in type, by what the object is -/
def tyF (K : PySem.W.Frag) (T : String) (x : V) (H : Hp) : Prop := tyV K T x H ∨ (T = "tuple" ∧ ∃ a xs, x = .ref a ∧ SqF K H a xs)
theorem tyF_is {T : String} {x : V} {v : Value} (I : Inv X pins σ H s) (r : RelV x v) (ty : tyF X.K T x H) : s.TypeIs v T ∧ ∀ a, v = .ref a → ∃ o, s.heap.get? a = some o ∧ o.dict = none := by
  rcases ty with ty | ⟨rfl, a, xs, rfl, h⟩
  · exact tyV_is I r ty
  · cases r
    rcases h with ⟨o, h, hd⟩ | ⟨o, its, n, hk, hc, hd, _⟩
    · obtain ⟨e, _, _, _, ob, e2, hc, _⟩ := I.hok a _ h
      rw [e] at e2
      cases e2
      exact ⟨⟨o, e, hc⟩, fun b z => by cases z; exact ⟨o, e, hd⟩⟩
    · exact ⟨⟨o, I.kIn a o hk, hc⟩, fun b z => by cases z; exact ⟨o, I.kIn a o hk, hd⟩⟩
def tBMF (K : PySem.W.Frag) (T : String) (r : V → List V → Hp → VK → Prop) (to : TE) (t : TA) : TE := fun σ H Q => to σ H fun x H1 => tyF K T x H1 ∧ t σ H1 fun xs H2 => r x xs H2 Q
theorem pe_bmF {o e : Expr} {es : List Expr} {to : TE} {t : TA} {name : Str} {apos cpos : Pos} {T id : String} {r : V → List V → Hp → VK → Prop} (pa : PlainAttrs T) (slot : Slot T name id)
    (hty : typeOf (.builtin id) = pure (.type "method_descriptor")) (hm : MtR X id r) (ho : PE X o to) (ha : PA X (e :: es) t) (hbase : attributeBase o name X.env (eval o X.env) = eval o X.env)
    (h1 : (backTo cpos (starEach (e :: es) X.env)).all (fun x => !x.1) = true) (h2 : (e :: es).length < 29) (hline : (apos.endLine == cpos.line) = true)
    (hs : starEach (e :: es) X.env = (false, eval e X.env) :: starEach es X.env) (hplain : (backTo cpos (starEach es X.env)).any (·.1) = false) :
    PE X (.Call (.Attribute o name apos) (e :: es) [] cpos) (tBMF X.K T r to t) := by
  refine ⟨fun pins s σ H Q I h => wpAny_Call_method_late hbase ?_ hline rfl (thn (ho.run pins s σ H _ I h) fun v s1 ⟨x, H1, I1, r1, ty, q1⟩ => ?_)⟩
  · rw [h1]
    have z : (e :: es).length + ([] : List Keyword).length + (if ([] : List Keyword).isEmpty then 0 else 1) < 30 := by
      show (e :: es).length + 0 + 0 < 30
      omega
    rw [decide_eq_true z]
    rfl
  · obtain ⟨q2, q3⟩ := tyF_is I1 r1 ty
    refine ⟨T, id, pa, slot, hty, q2, q3, ?_⟩
    have hA := ha.run cpos pins s1 σ H1 _ I1 q1
    rw [hs] at hA ⊢
    refine Calls.callWith_builtin (by show (false || (backTo cpos (starEach es X.env)).any (·.1)) = false; rw [Bool.false_or]; exact hplain) (Calls.evalArgs_plain ?_)
    exact thn hA fun us s2 ⟨vs, H2, I2, r2, q2⟩ => hm pins s2 σ H2 x vs v us Q I2 r1 r2 q2
/-- one of two types has the method -/
def tBM2 (K : PySem.W.Frag) (T T' : String) (r r' : V → List V → Hp → VK → Prop) (to : TE) (t : TA) : TE := fun σ H Q => to σ H fun x H1 => (tyF K T x H1 ∧ t σ H1 fun xs H2 => r x xs H2 Q) ∨ (tyF K T' x H1 ∧ t σ H1 fun xs H2 => r' x xs H2 Q)
theorem pe_bm2 {o e : Expr} {es : List Expr} {to : TE} {t : TA} {name : Str} {apos cpos : Pos} {T id T' id' : String} {r r' : V → List V → Hp → VK → Prop} (pa : PlainAttrs T) (slot : Slot T name id)
    (hty : typeOf (.builtin id) = pure (.type "method_descriptor")) (hm : MtR X id r) (pa' : PlainAttrs T') (slot' : Slot T' name id')
    (hty' : typeOf (.builtin id') = pure (.type "method_descriptor")) (hm' : MtR X id' r') (ho : PE X o to) (ha : PA X (e :: es) t) (hbase : attributeBase o name X.env (eval o X.env) = eval o X.env)
    (h1 : (backTo cpos (starEach (e :: es) X.env)).all (fun x => !x.1) = true) (h2 : (e :: es).length < 29) (hline : (apos.endLine == cpos.line) = true)
    (hs : starEach (e :: es) X.env = (false, eval e X.env) :: starEach es X.env) (hplain : (backTo cpos (starEach es X.env)).any (·.1) = false) :
    PE X (.Call (.Attribute o name apos) (e :: es) [] cpos) (tBM2 X.K T T' r r' to t) := by
  refine ⟨fun pins s σ H Q I h => wpAny_Call_method_late hbase ?_ hline rfl (thn (ho.run pins s σ H _ I h) fun v s1 ⟨x, H1, I1, r1, q⟩ => ?_)⟩
  · rw [h1]
    have z : (e :: es).length + ([] : List Keyword).length + (if ([] : List Keyword).isEmpty then 0 else 1) < 30 := by
      show (e :: es).length + 0 + 0 < 30
      omega
    rw [decide_eq_true z]
    rfl
  · have pl : ((false, eval e X.env) :: backTo cpos (starEach es X.env)).any (·.1) = false := by
      show (false || (backTo cpos (starEach es X.env)).any (·.1)) = false
      rw [Bool.false_or]
      exact hplain
    rcases q with ⟨ty, q1⟩ | ⟨ty, q1⟩
    · obtain ⟨q2, q3⟩ := tyF_is I1 r1 ty
      refine ⟨T, id, pa, slot, hty, q2, q3, ?_⟩
      have hA := ha.run cpos pins s1 σ H1 _ I1 q1
      rw [hs] at hA ⊢
      exact Calls.callWith_builtin pl (Calls.evalArgs_plain (thn hA fun us s2 ⟨vs, H2, I2, r2, q2⟩ => hm pins s2 σ H2 x vs v us Q I2 r1 r2 q2))
    · obtain ⟨q2, q3⟩ := tyF_is I1 r1 ty
      refine ⟨T', id', pa', slot', hty', q2, q3, ?_⟩
      have hA := ha.run cpos pins s1 σ H1 _ I1 q1
      rw [hs] at hA ⊢
      exact Calls.callWith_builtin pl (Calls.evalArgs_plain (thn hA fun us s2 ⟨vs, H2, I2, r2, q2⟩ => hm' pins s2 σ H2 x vs v us Q I2 r1 r2 q2))
/-- the first place in a tuple of plain things -/
theorem mt_tindex : MtR X "tuple.index" (fun x xs H Q => ∃ (a : Addr) (ys : List V) (y : V) (j : Nat) (z : V), x = V.ref a ∧ xs = [y] ∧ SqT X.K H a ys ∧ flatV y = true ∧ ys.all flatV = true ∧ ys[j]? = some z ∧ eqV z y = true ∧
    (∀ (m : Nat) (z' : V), m < j → ys[m]? = some z' → eqV z' y = false) ∧ Q (.int (j : Nat)) H) := by
  intro pins s σ H x xs v us Q I rx rxs h
  obtain ⟨a, ys, y, j, z, rfl, rfl, hs, fy, fys, hz, hzj, hno, q⟩ := h
  cases rx
  cases rxs with
  | cons ry rt =>
    rename_i uy ut
    cases rt
    obtain ⟨its, rv, ⟨⟨oc, od, ot, os⟩, ho, hc, n, hd⟩, _⟩ := I.tuple hs
    dsimp only at hc hd
    subst hc hd
    have hvl := rv.length
    have at' : ∀ (m : Nat) (w : V), ys[m]? = some w → ∃ (hm : m < its.toArray.size), eqU y its.toArray[m] = eqV w y := fun m w hw => by
      obtain ⟨u, hu, ru⟩ := rv.get hw
      obtain ⟨h1, h2⟩ := List.getElem?_eq_some_iff.mp hu
      refine ⟨by simpa using h1, ?_⟩
      rw [show its.toArray[m]'(by simpa using h1) = u by simpa using h2, eqU_of ru (flat_at fys hw)]
    obtain ⟨hj, ej⟩ := at' j z hz
    refine call_meets PySem.F.slot_tuple_index ⟨_, ho, rfl⟩ PySem.F.entry_tuple_index (PySem.F.args_tuple_index_2 _ _) (TI.tuple_indexAt a its.toArray n od os uy (eqU y) j hj (by rw [ej]; exact hzj) ?_)
      ⟨ho, fun u' hu' => mem_eqAt ry fy rv fys u' (by simpa using hu'), ⟨.int (j : Nat), H, I.tok _, ⟨_, rfl⟩, q⟩⟩
    intro m hm hmj
    have hmy : m < ys.length := by
      rw [hvl]
      simpa using hm
    obtain ⟨_, em⟩ := at' m ys[m] (List.getElem?_eq_getElem hmy)
    rw [em]
    exact hno m _ hmj (List.getElem?_eq_getElem hmy)
end
end Tr


namespace Tr
open PySem L2
open PySem.Spec PyProof.Rows

/-- a list of the written part -/
def KL (K : PySem.W.Frag) (a : Addr) (xs : List V) : Prop :=
  ∃ (o : Obj) (its : Array Value) (n : Nat), K.lookup a = some o ∧ o.cls = .type "list" ∧ o.dict = none ∧ o.data = .seq its n ∧ its.size ≤ sizeLine ∧ Vals xs its.toList
/-- a list that nobody changes -/
def SqB (K : PySem.W.Frag) (Bad : Addr → Prop) (H : Hp) (a : Addr) (xs : List V) : Prop := (Rd H a (.lst xs) ∧ ¬ Bad a) ∨ KL K a xs
theorem SqB.sq {K : PySem.W.Frag} {Bad : Addr → Prop} {H : Hp} {a : Addr} {xs : List V} (h : SqB K Bad H a xs) : SqL K H a xs := h.elim (fun q => .inl q.1) .inr

mutual
inductive Rep (K : PySem.W.Frag) (Bad : Addr → Prop) (H : Hp) : V → PyData → Prop
  | non : Rep K Bad H .non .none
  | bl (b : Bool) : Rep K Bad H (.bl b) (.bool b)
  | int (i : Int) : Rep K Bad H (.int i) (.int i)
  | str (x : Str) : Rep K Bad H (.str x) (.str x)
  | lst {a : Addr} {xs : List V} {ds : List PyData} : SqB K Bad H a xs → Reps K Bad H xs ds → Rep K Bad H (.ref a) (.list ds)
  | tup {a : Addr} {xs : List V} {ds : List PyData} : SqF K H a xs → Reps K Bad H xs ds → Rep K Bad H (.ref a) (.tuple ds)
inductive Reps (K : PySem.W.Frag) (Bad : Addr → Prop) (H : Hp) : List V → List PyData → Prop
  | nil : Reps K Bad H [] []
  | cons {v : V} {vs : List V} {d : PyData} {ds : List PyData} : Rep K Bad H v d → Reps K Bad H vs ds → Reps K Bad H (v :: vs) (d :: ds)
end

/-- what stood stands, but the lists in M may have changed -/
structure Ext (M : Addr → Prop) (H H' : Hp) : Prop where
  keep : ∀ a o, H a = some o → ¬ M a → H' a = some o
  lsts : ∀ a xs, H a = some (.lst xs) → ∃ ys, H' a = some (.lst ys)
theorem Ext.refl {M : Addr → Prop} {H : Hp} : Ext M H H := ⟨fun _ _ h _ => h, fun _ xs h => ⟨xs, h⟩⟩
theorem Ext.trans {M : Addr → Prop} {H H1 H2 : Hp} (h : Ext M H H1) (g : Ext M H1 H2) : Ext M H H2 :=
  ⟨fun a o e n => g.keep a o (h.keep a o e n) n, fun a xs e => let ⟨ys, e1⟩ := h.lsts a xs e; g.lsts a ys e1⟩
theorem Ext.mono {M M' : Addr → Prop} {H H' : Hp} (h : Ext M H H') (hm : ∀ a, M a → M' a) : Ext M' H H' := ⟨fun a o e n => h.keep a o e fun q => n (hm a q), h.lsts⟩
theorem Ext.new {M : Addr → Prop} {H : Hp} {p : Addr} {o : HO} (h : H p = none) : Ext M H (upd H p o) :=
  ⟨fun a u e _ => by rw [upd_ne (ne_of_none e h)]; exact e, fun a xs e => ⟨xs, by rw [upd_ne (ne_of_none e h)]; exact e⟩⟩
theorem Ext.put {M : Addr → Prop} {H : Hp} {p : Addr} {xs ys : List V} (h : H p = some (.lst xs)) (hm : M p) : Ext M H (upd H p (.lst ys)) := by
  refine ⟨fun a u e n => ?_, fun a zs e => ?_⟩
  · rw [upd_ne (fun (q : a = p) => n (q ▸ hm))]; exact e
  · by_cases q : a = p
    · subst q; exact ⟨ys, upd_same⟩
    · exact ⟨zs, by rw [upd_ne q]; exact e⟩
/-- what is not there was not there -/
theorem Ext.none {M : Addr → Prop} {H H' : Hp} (h : Ext M H H') (hl : ∀ a, M a → ∃ xs, H a = some (.lst xs)) {p : Addr} (e : H' p = none) : H p = none := by
  cases q : H p with
  | none => rfl
  | some o =>
    by_cases m : M p
    · obtain ⟨xs, e1⟩ := hl p m
      obtain ⟨ys, e2⟩ := h.lsts p xs e1
      rw [e] at e2; cases e2
    · have := h.keep p o q m
      rw [e] at this; cases this

/-- the lists in Bad are lists -/
def BadOk (Bad : Addr → Prop) (H : Hp) : Prop := ∀ a, Bad a → ∃ xs, H a = some (.lst xs)
theorem BadOk.ext {Bad M : Addr → Prop} {H H' : Hp} (h : BadOk Bad H) (e : Ext M H H') : BadOk Bad H' := fun a b => let ⟨_, q⟩ := h a b; e.lsts a _ q

section
variable {K : PySem.W.Frag} {Bad Bad' M : Addr → Prop} {H H' : Hp}
theorem SqF.ext {a : Addr} {xs : List V} (ok : BadOk Bad H) (hM : ∀ a, M a → Bad a ∨ H a = none) (e : Ext M H H') (h : SqF K H a xs) : SqF K H' a xs := by
  rcases h with ⟨o, h, hd⟩ | h
  · refine .inl ⟨o, e.keep _ _ h fun m => ?_, hd⟩
    rcases hM a m with z | z
    · obtain ⟨ys, z⟩ := ok a z
      rw [h] at z; cases z
    · rw [h] at z; cases z
  · exact .inr h
theorem SqB.ext {a : Addr} {xs : List V} (hM : ∀ a, M a → Bad a ∨ H a = none) (e : Ext M H H') (hb : ∀ a, Bad' a → Bad a ∨ H a = none) (h : SqB K Bad H a xs) : SqB K Bad' H' a xs := by
  rcases h with ⟨h, n⟩ | h
  · have hn : H a ≠ none := fun q => by rcases h with h | ⟨o, h⟩ <;> (rw [q] at h; cases h)
    have nm : ¬ M a := fun m => (hM a m).elim n hn
    refine .inl ⟨?_, fun b => (hb a b).elim n hn⟩
    rcases h with h | ⟨o, h⟩
    · exact .inl (e.keep _ _ h nm)
    · exact .inr ⟨o, e.keep _ _ h nm⟩
  · exact .inr h
mutual
theorem Rep.ext (ok : BadOk Bad H) (hM : ∀ a, M a → Bad a ∨ H a = none) (e : Ext M H H') (hb : ∀ a, Bad' a → Bad a ∨ H a = none) : ∀ {v : V} {d : PyData}, Rep K Bad H v d → Rep K Bad' H' v d
  | _, _, .non => .non
  | _, _, .bl b => .bl b
  | _, _, .int i => .int i
  | _, _, .str x => .str x
  | _, _, .lst h1 h2 => .lst (h1.ext hM e hb) (h2.ext ok hM e hb)
  | _, _, .tup h1 h2 => .tup (SqF.ext ok hM e h1) (h2.ext ok hM e hb)
theorem Reps.ext (ok : BadOk Bad H) (hM : ∀ a, M a → Bad a ∨ H a = none) (e : Ext M H H') (hb : ∀ a, Bad' a → Bad a ∨ H a = none) : ∀ {v : List V} {d : List PyData}, Reps K Bad H v d → Reps K Bad' H' v d
  | _, _, .nil => .nil
  | _, _, .cons h1 h2 => .cons (h1.ext ok hM e hb) (h2.ext ok hM e hb)
end
/-- fewer that may change -/
theorem Rep.anti (ok : BadOk Bad H) (hb : ∀ a, Bad' a → Bad a) {v : V} {d : PyData} (h : Rep K Bad H v d) : Rep K Bad' H v d := h.ext (M := fun _ => False) ok (fun _ q => q.elim) .refl fun a q => .inl (hb a q)
theorem Reps.anti (ok : BadOk Bad H) (hb : ∀ a, Bad' a → Bad a) {v : List V} {d : List PyData} (h : Reps K Bad H v d) : Reps K Bad' H v d := h.ext (M := fun _ => False) ok (fun _ q => q.elim) .refl fun a q => .inl (hb a q)
mutual
theorem Rep.dp : ∀ {v : V} {d : PyData}, Rep K Bad H v d → Dp K H v d
  | _, _, .non => .non
  | _, _, .bl b => .bl b
  | _, _, .int i => .int i
  | _, _, .str x => .str x
  | _, _, .lst h1 h2 => .lst h1.sq h2.dps
  | _, _, .tup h1 h2 => .tup h1.sq h2.dps
theorem Reps.dps : ∀ {v : List V} {d : List PyData}, Reps K Bad H v d → DpAll K H v d
  | _, _, .nil => .nil
  | _, _, .cons h1 h2 => .cons h1.dp h2.dps
end
theorem Reps.length : ∀ {vs : List V} {ds : List PyData}, Reps K Bad H vs ds → vs.length = ds.length
  | _, _, .nil => rfl
  | _, _, .cons _ h => congrArg (· + 1) h.length
theorem Reps.get : ∀ {vs : List V} {ds : List PyData} {i : Nat} {d : PyData}, Reps K Bad H vs ds → ds[i]? = some d → ∃ v, vs[i]? = some v ∧ Rep K Bad H v d
  | _, _, _, _, .nil, e => by simp at e
  | _, _, 0, _, .cons r _, e => by
    simp at e; subst e
    exact ⟨_, by simp, r⟩
  | _, _, i + 1, d, .cons _ t, e => by
    obtain ⟨v, h1, h2⟩ := Reps.get (i := i) (d := d) t (by simpa using e)
    exact ⟨v, by simpa using h1, h2⟩
theorem Reps.getV : ∀ {vs : List V} {ds : List PyData} {i : Nat} {v : V}, Reps K Bad H vs ds → vs[i]? = some v → ∃ d, ds[i]? = some d ∧ Rep K Bad H v d := fun {vs ds i v} h e => by
  have hi := (List.getElem?_eq_some_iff.mp e).1
  rw [h.length] at hi
  obtain ⟨w, e1, r⟩ := h.get (List.getElem?_eq_getElem hi)
  rw [e] at e1; cases e1
  exact ⟨_, List.getElem?_eq_getElem hi, r⟩
theorem Reps.append : ∀ {vs ws : List V} {ds es : List PyData}, Reps K Bad H vs ds → Reps K Bad H ws es → Reps K Bad H (vs ++ ws) (ds ++ es)
  | _, _, _, _, .nil, g => g
  | _, _, _, _, .cons h t, g => .cons h (t.append g)
theorem Reps.take : ∀ {vs : List V} {ds : List PyData} (n : Nat), Reps K Bad H vs ds → Reps K Bad H (vs.take n) (ds.take n)
  | _, _, 0, _ => .nil
  | _, _, _ + 1, .nil => .nil
  | _, _, n + 1, .cons h t => .cons h (t.take n)
theorem Reps.drop : ∀ {vs : List V} {ds : List PyData} (n : Nat), Reps K Bad H vs ds → Reps K Bad H (vs.drop n) (ds.drop n)
  | _, _, 0, r => r
  | _, _, _ + 1, .nil => .nil
  | _, _, n + 1, .cons _ t => t.drop n
theorem Reps.set {v : V} {d : PyData} (r : Rep K Bad H v d) : ∀ {vs : List V} {ds : List PyData} (i : Nat), Reps K Bad H vs ds → Reps K Bad H (vs.set i v) (ds.set i d)
  | _, _, _, .nil => .nil
  | _, _, 0, .cons _ t => .cons r t
  | _, _, i + 1, .cons q t => .cons q (Reps.set r i t)
end

/-- the cells -/
structure Cells (K : PySem.W.Frag) (Bad : Addr → Prop) (H : Hp) (ρ : List Addr) (S : Store) : Prop where
  len : ρ.length = S.length
  at_ : ∀ (n : Nat) (a : Addr) (ds : List PyData), ρ[n]? = some a → S[n]? = some ds → ∃ xs, H a = some (.lst xs) ∧ Reps K Bad H xs ds
theorem Cells.ext {K : PySem.W.Frag} {Bad Bad' M : Addr → Prop} {H H' : Hp} {ρ : List Addr} {S : Store} (h : Cells K Bad H ρ S) (ok : BadOk Bad H) (hM : ∀ a, M a → Bad a ∨ H a = none) (e : Ext M H H') (hb : ∀ a, Bad' a → Bad a ∨ H a = none) (hρ : ∀ a ∈ ρ, ¬ M a) : Cells K Bad' H' ρ S :=
  ⟨h.len, fun n a ds e1 e2 => let ⟨xs, h1, h2⟩ := h.at_ n a ds e1 e2; ⟨xs, e.keep _ _ h1 (hρ a (List.mem_of_getElem? e1)), h2.ext ok hM e hb⟩⟩

/-- an atom: a datum, or a cell's address -/
def RepA (K : PySem.W.Frag) (Bad : Addr → Prop) (H : Hp) (ρ : List Addr) (v : V) : A → Prop
  | .val d => Rep K Bad H v d
  | .ref n => ∃ a, ρ[n]? = some a ∧ v = .ref a
/-- as RepA, but the list itself may be a name's own -/
def RepB (K : PySem.W.Frag) (Bad : Addr → Prop) (H : Hp) (ρ : List Addr) (v : V) (a : A) : Prop :=
  RepA K Bad H ρ v a ∨ ∃ p xs ds, a = .val (.list ds) ∧ v = .ref p ∧ H p = some (.lst xs) ∧ p ∉ ρ ∧ Reps K Bad H xs ds
/-- a datum for an operation: the list itself may be any -/
inductive RepD (K : PySem.W.Frag) (Bad : Addr → Prop) (H : Hp) (v : V) : PyData → Prop
  | of {d : PyData} : Rep K Bad H v d → RepD K Bad H v d
  | lst {p : Addr} {xs : List V} {ds : List PyData} : v = .ref p → H p = some (.lst xs) → Reps K Bad H xs ds → RepD K Bad H v (.list ds)
section
variable {K : PySem.W.Frag} {Bad : Addr → Prop} {H : Hp} {ρ : List Addr} {S : Store} {v : V} {a : A} {d : PyData}
theorem RepD.list {ds : List PyData} (h : RepD K Bad H v (.list ds)) : ∃ p xs, v = .ref p ∧ SqL K H p xs ∧ Reps K Bad H xs ds := by
  cases h with
  | of h =>
    cases h with
    | lst h1 h2 => exact ⟨_, _, rfl, h1.sq, h2⟩
  | lst h1 h2 h3 => exact ⟨_, _, h1, .inl (.inl h2), h3⟩
theorem RepD.tuple {ds : List PyData} (h : RepD K Bad H v (.tuple ds)) : ∃ p xs, v = .ref p ∧ SqF K H p xs ∧ Reps K Bad H xs ds := by
  cases h with
  | of h =>
    cases h with
    | tup h1 h2 => exact ⟨_, _, rfl, h1, h2⟩
theorem RepD.int {i : Int} (h : RepD K Bad H v (.int i)) : v = .int i := by
  cases h with
  | of h => cases h; rfl
theorem RepD.str {x : Str} (h : RepD K Bad H v (.str x)) : v = .str x := by
  cases h with
  | of h => cases h; rfl
theorem RepD.bool {b : Bool} (h : RepD K Bad H v (.bool b)) : v = .bl b := by
  cases h with
  | of h => cases h; rfl
theorem RepD.dp (h : RepD K Bad H v d) : Dp K H v d := by
  cases h with
  | of h => exact h.dp
  | lst h1 h2 h3 =>
    subst h1
    exact .lst (.inl (.inl h2)) h3.dps
theorem RepB.deref (h : RepB K Bad H ρ v a) (c : Cells K Bad H ρ S) (e : deref S a = some d) : RepD K Bad H v d := by
  rcases h with h | ⟨p, xs, ds, rfl, h2, h3, _, h4⟩
  · cases a with
    | val d' => cases e; exact .of h
    | ref n =>
      obtain ⟨p, h1, h2⟩ := h
      have e' : (S[n]?).map PyData.list = some d := e
      obtain ⟨ds, e1, e2⟩ := Option.map_eq_some_iff.mp e'
      subst e2
      obtain ⟨xs, q1, q2⟩ := c.at_ n p ds h1 e1
      exact .lst h2 q1 q2
  · cases e
    exact .lst h2 h3 h4
end
end Tr


namespace Tr
open PySem L2
open PySem.Spec PyProof.Rows

/-- B0: lists of the callers'; ρ: the cells' addresses; He: the heap at the start; M: what may have been changed since; Fz: own lists that are being walked -/
structure Wd where
  B0 : Addr → Prop
  ρ : List Addr
  He : Hp
  M : Addr → Prop
  Fz : Nat → Addr → Prop
/-- the name i, one of W, has a list of its own at p -/
def OwnAt (W : List Nat) (σ : L2.St) (env : TEnv) (i : Nat) (p : Addr) : Prop := i ∈ W ∧ (∃ ds, env[i]? = some (some (.val (.list ds)))) ∧ σ[i]? = some (some (.ref p))
def Own (W : List Nat) (σ : L2.St) (env : TEnv) (p : Addr) : Prop := ∃ i, OwnAt W σ env i p
def BadOf (W : List Nat) (wd : Wd) (σ : L2.St) (env : TEnv) (a : Addr) : Prop := wd.B0 a ∨ a ∈ wd.ρ ∨ Own W σ env a

/-- no list of a name that has lists of its own -/
def NL (W : List Nat) (i : Nat) (a : A) : Prop := i ∈ W → ∀ ds, a ≠ .val (.list ds)
structure SR (K : PySem.W.Frag) (W : List Nat) (wd : Wd) (σ : L2.St) (H : Hp) (env : TEnv) (S : Store) : Prop where
  len : env.length = σ.length
  /-- a name's value; a list of a name in W is its own -/
  var : ∀ (i : Nat) (a : A), env[i]? = some (some a) → ∃ v, σ[i]? = some (some v) ∧ ((RepA K (BadOf W wd σ env) H wd.ρ v a ∧ NL W i a) ∨ (i ∈ W ∧ ∃ ds p xs, a = .val (.list ds) ∧ v = .ref p ∧ H p = some (.lst xs) ∧ Reps K (BadOf W wd σ env) H xs ds))
  dist : ∀ i j p, OwnAt W σ env i p → OwnAt W σ env j p → i = j
  ownL : ∀ p, Own W σ env p → ∃ xs, H p = some (.lst xs)
  ownM : ∀ i p, OwnAt W σ env i p → (wd.M p ∨ wd.He p = none) ∨ wd.Fz i p
  ownB : ∀ p, Own W σ env p → ¬ wd.B0 p
  ownρ : ∀ p, Own W σ env p → p ∉ wd.ρ
  b0 : ∀ p, wd.B0 p → ∃ xs, H p = some (.lst xs)
  cells : Cells K (BadOf W wd σ env) H wd.ρ S
  nd : wd.ρ.Nodup
  ρM : ∀ p ∈ wd.ρ, wd.M p ∨ wd.He p = none
  mL : ∀ p, wd.M p → ∃ xs, wd.He p = some (.lst xs)
  ext : Ext wd.M wd.He H

section
variable {K : PySem.W.Frag} {W : List Nat} {wd : Wd} {σ : L2.St} {H H' : Hp} {env : TEnv} {S S' : Store}
theorem SR.ρL (I : SR K W wd σ H env S) {a : Addr} (h : a ∈ wd.ρ) : ∃ xs, H a = some (.lst xs) := by
  obtain ⟨n, hn, e⟩ := List.mem_iff_getElem.mp h
  have hs : n < S.length := by rw [← I.cells.len]; exact hn
  obtain ⟨xs, q, _⟩ := I.cells.at_ n a S[n] (by rw [List.getElem?_eq_getElem hn, e]) (List.getElem?_eq_getElem hs)
  exact ⟨xs, q⟩
theorem SR.badOk (I : SR K W wd σ H env S) : BadOk (BadOf W wd σ env) H := fun a h => by
  rcases h with h | h | h
  · exact I.b0 a h
  · exact I.ρL h
  · exact I.ownL a h
/-- the cells have changed, and new objects stand -/
theorem SR.step (I : SR K W wd σ H env S) (e : Ext (· ∈ wd.ρ) H H') (c : Cells K (BadOf W wd σ env) H' wd.ρ S') : SR K W wd σ H' env S' := by
  have hM : ∀ a, a ∈ wd.ρ → BadOf W wd σ env a ∨ H a = none := fun a h => .inl (.inr (.inl h))
  refine ⟨I.len, fun i a h => ?_, I.dist, fun p h => ?_, I.ownM, I.ownB, I.ownρ, fun p h => ?_, c, I.nd, I.ρM, I.mL, ⟨fun a o q n => ?_, fun a xs q => ?_⟩⟩
  · obtain ⟨v, h1, h2⟩ := I.var i a h
    refine ⟨v, h1, ?_⟩
    rcases h2 with ⟨h2, hn⟩ | ⟨hw, ds, p, xs, rfl, rfl, h3, h4⟩
    · refine .inl ⟨?_, hn⟩
      cases a with
      | val d => exact Rep.ext I.badOk hM e (fun a q => .inl q) h2
      | ref n => exact h2
    · right
      exact ⟨hw, ds, p, xs, rfl, rfl, e.keep _ _ h3 (I.ownρ p ⟨i, hw, ⟨ds, h⟩, h1⟩), Reps.ext I.badOk hM e (fun a q => .inl q) h4⟩
  · obtain ⟨xs, q⟩ := I.ownL p h
    exact e.lsts p xs q
  · obtain ⟨xs, q⟩ := I.b0 p h
    exact e.lsts p xs q
  · have h1 := I.ext.keep a o q n
    refine e.keep a o h1 fun m => ?_
    rcases I.ρM a m with z | z
    · exact n z
    · rw [q] at z; cases z
  · obtain ⟨ys, q⟩ := I.ext.lsts a xs q
    exact e.lsts a ys q
end
end Tr


namespace Tr
open PySem L2
open PySem.Spec PyProof.Rows

def New (H H' : Hp) : Prop := H' = H ∨ ∃ p o, H p = none ∧ H' = upd H p o
theorem New.ext {M : Addr → Prop} {H H' : Hp} (h : New H H') : Ext M H H' := by
  rcases h with rfl | ⟨p, o, h, rfl⟩
  · exact .refl
  · exact .new h
structure OpPost (K : PySem.W.Frag) (Bad : Addr → Prop) (H : Hp) (fr : Bool) (g : PyData) (v : V) (H' : Hp) : Prop where
  new : New H H'
  rep : Rep K Bad H' v g
  fresh : fr = true → ∀ gs, g = .list gs → ∃ p xs, v = .ref p ∧ H p = none ∧ H' = upd H p (.lst xs) ∧ Reps K Bad H xs gs
section
variable {K : PySem.W.Frag} {Bad : Addr → Prop} {H : Hp} {fr : Bool} {g : PyData} {v : V} {Q : VK}
theorem OpPost.same (r : Rep K Bad H v g) (h : fr = true → ∀ gs, g ≠ .list gs) : OpPost K Bad H fr g v H := ⟨.inl rfl, r, fun f gs e => absurd e (h f gs)⟩
theorem OpPost.int (i : Int) : OpPost K Bad H fr (.int i) (.int i) H := .same (.int i) fun _ _ e => nomatch e
theorem OpPost.bool (b : Bool) : OpPost K Bad H fr (.bool b) (.bl b) H := .same (.bl b) fun _ _ e => nomatch e
theorem OpPost.str (b : Str) : OpPost K Bad H fr (.str b) (.str b) H := .same (.str b) fun _ _ e => nomatch e
theorem notBad (ok : BadOk Bad H) {p : Addr} (h : H p = none) : ¬ Bad p := fun b => by
  obtain ⟨xs, q⟩ := ok p b
  rw [h] at q; cases q
theorem OpPost.list (ok : BadOk Bad H) {p : Addr} (h : H p = none) {xs : List V} {gs : List PyData} (r : Reps K Bad H xs gs) : OpPost K Bad H fr (.list gs) (.ref p) (upd H p (.lst xs)) := by
  refine ⟨.inr ⟨p, _, h, rfl⟩, .lst (.inl ⟨.inl upd_same, notBad ok h⟩) (r.ext (M := fun _ => False) ok (fun _ q => q.elim) (.new h) fun a q => .inl q), fun _ gs' e => ?_⟩
  cases e
  exact ⟨p, xs, rfl, h, rfl, r⟩
theorem OpPost.tuple (ok : BadOk Bad H) {p : Addr} (h : H p = none) {o : Obj} (hd : o.dict = none) {xs : List V} {gs : List PyData} (r : Reps K Bad H xs gs) : OpPost K Bad H fr (.tuple gs) (.ref p) (upd H p (.frz o (.tup xs))) :=
  ⟨.inr ⟨p, _, h, rfl⟩, .tup (.inl ⟨o, upd_same, hd⟩) (r.ext (M := fun _ => False) ok (fun _ q => q.elim) (.new h) fun a q => .inl q), fun _ gs' e => nomatch e⟩
end

/-- a reading by data of a two-place operation -/
def rD (K : PySem.W.Frag) (f : PyData → PyData → Option PyData) : R2 := fun x y H Q => ∃ Bad d e g, BadOk Bad H ∧ RepD K Bad H x d ∧ RepD K Bad H y e ∧ f d e = some g ∧ ∀ v H', OpPost K Bad H true g v H' → Q v H'
/-- not new -/
def rD0 (K : PySem.W.Frag) (f : PyData → PyData → Option PyData) : R2 := fun x y H Q => ∃ Bad d e g, BadOk Bad H ∧ RepD K Bad H x d ∧ RepD K Bad H y e ∧ f d e = some g ∧ ∀ v H', OpPost K Bad H false g v H' → Q v H'

theorem RepD.lst_at {K : PySem.W.Frag} {Bad : Addr → Prop} {H : Hp} {v : V} {ds : List PyData} (h : RepD K Bad H v (.list ds)) : ∃ p xs, v = .ref p ∧ SqL K H p xs ∧ Reps K Bad H xs ds := h.list

section
variable {X : Cx}
/-- list + list, whatever they are -/
theorem op_cat_sq : OpR X (binaryOp .Add) (fun x y H Q => ∃ a b xs ys, x = .ref a ∧ y = .ref b ∧ SqL X.K H a xs ∧ SqL X.K H b ys ∧ xs.length + ys.length ≤ sizeLine ∧ ∀ p, H p = none → Q (.ref p) (upd H p (.lst (xs ++ ys)))) := by
  intro pins s σ H x y v u Q I rx ry h
  obtain ⟨a, b, xs, ys, rfl, rfl, ha, hb, hz, q⟩ := h
  cases rx
  cases ry
  obtain ⟨its, r1, ⟨⟨c1, d1, t1, sl1⟩, n1, e1, hc1, hd1, ht1⟩, _⟩ := I.list ha
  obtain ⟨its2, r2, ⟨⟨c2, d2, t2, sl2⟩, n2, e2, hc2, hd2, ht2⟩, _⟩ := I.list hb
  dsimp only at hc1 hd1 ht1 hc2 hd2 ht2
  subst hc1 hd1 ht1 hc2 hd2 ht2
  have l1 := r1.length
  have l2 := r2.length
  refine concat_meets ⟨_, e1, rfl⟩ ⟨_, e2, rfl⟩ noFill_list_add seq_list_add PySem.F.slot_list_add PySem.F.entry_list_add
    (PySem.F.args_list_add_2 _ _) (list_addW a b _ _ n1 n2 none none sl1 sl2 (by rw [List.size_toArray, List.size_toArray]; omega)) ⟨e1, e2, ?_⟩
  have ea : its.toArray ++ its2.toArray = (its ++ its2).toArray := by simp
  rw [ea]
  exact ⟨.ref _, _, I.lnew (t' := s.toks) (r1.append r2) (by rw [List.length_append]; omega), rfl, q _ I.fresh⟩
theorem or2 {f : Value → Value → Sem Value} {r r' : R2} (h : OpR X f r) (h' : OpR X f r') : OpR X f (fun x y H Q => r x y H Q ∨ r' x y H Q) := by
  intro pins s σ H x y v u Q I rx ry q
  rcases q with q | q
  · exact h pins s σ H x y v u Q I rx ry q
  · exact h' pins s σ H x y v u Q I rx ry q
theorem imp2 {f : Value → Value → Sem Value} {r r' : R2} (h : OpR X f r) (i : ∀ x y H Q, r' x y H Q → r x y H Q) : OpR X f r' :=
  fun pins s σ H x y v u Q I rx ry q => h pins s σ H x y v u Q I rx ry (i x y H Q q)
def opOf : BOp → Operator
  | .add => .Add
  | .sub => .Sub
  | .mul => .Mult
  | .fdiv => .FloorDiv
  | .mod => .Mod
  | .pow => .Pow
theorem op_bin (o : BOp) : OpR X (binaryOp (opOf o)) (rD X.K (binD o)) := by
  cases o with
  | add =>
    refine imp2 (or2 (op_add (X := X)) (or2 op_add_str (or2 op_cat_sq op_catF))) fun x y H Q h => ?_
    obtain ⟨Bad, d, e, g, ok, hx, hy, hf, q⟩ := h
    cases d <;> cases e <;> simp only [binD, reduceCtorEq] at hf <;> try cases hf
    · rename_i i j
      exact .inl ⟨i, j, hx.int, hy.int, q _ _ (.int _)⟩
    · rename_i a b
      split at hf
      · cases hf
        rename_i hz
        exact .inr (.inl ⟨a, b, hx.str, hy.str, hz, q _ _ (.str _)⟩)
      · cases hf
    · split at hf
      · cases hf
        rename_i hz
        obtain ⟨p, xs, rfl, h1, h2⟩ := hx.list
        obtain ⟨p', ys, rfl, h1', h2'⟩ := hy.list
        exact .inr (.inr (.inl ⟨p, p', xs, ys, rfl, rfl, h1, h1', by rw [h2.length, h2'.length]; exact hz, fun r hr => q _ _ (.list ok hr (h2.append h2'))⟩))
      · cases hf
    · split at hf
      · cases hf
        rename_i hz
        obtain ⟨p, xs, rfl, h1, h2⟩ := hx.tuple
        obtain ⟨p', ys, rfl, h1', h2'⟩ := hy.tuple
        refine .inr (.inr (.inr ⟨p, p', xs, ys, rfl, rfl, h1.sq, h1'.sq, by rw [h2.length, h2'.length]; exact hz, fun e => ?_, fun _ e => ?_, fun _ _ r o hr hd => q _ _ (.tuple ok hr hd (h2.append h2'))⟩))
        · subst e
          cases h2
          exact q _ _ (.same (.tup h1' h2') fun _ _ e => nomatch e)
        · subst e
          cases h2'
          rw [List.append_nil] at q
          exact q _ _ (.same (.tup h1 h2) fun _ _ e => nomatch e)
      · cases hf
  | sub =>
    refine imp2 (op_sub (X := X)) fun x y H Q h => ?_
    obtain ⟨Bad, d, e, g, ok, hx, hy, hf, q⟩ := h
    cases d <;> cases e <;> simp only [binD, reduceCtorEq] at hf <;> cases hf
    exact ⟨_, _, hx.int, hy.int, q _ _ (.int _)⟩
  | mul =>
    refine imp2 (op_mul (X := X)) fun x y H Q h => ?_
    obtain ⟨Bad, d, e, g, ok, hx, hy, hf, q⟩ := h
    cases d <;> cases e <;> simp only [binD, reduceCtorEq] at hf <;> try cases hf
    split at hf
    · cases hf
      rename_i hz
      exact ⟨_, _, hx.int, hy.int, hz, q _ _ (.int _)⟩
    · cases hf
  | fdiv =>
    refine imp2 (op_fdivN (X := X)) fun x y H Q h => ?_
    obtain ⟨Bad, d, e, g, ok, hx, hy, hf, q⟩ := h
    cases d <;> cases e <;> simp only [binD, reduceCtorEq] at hf <;> try cases hf
    split at hf
    · cases hf
      rename_i hz
      exact ⟨_, _, hx.int, hy.int, hz, q _ _ (.int _)⟩
    · cases hf
  | mod =>
    refine imp2 (op_modN (X := X)) fun x y H Q h => ?_
    obtain ⟨Bad, d, e, g, ok, hx, hy, hf, q⟩ := h
    cases d <;> cases e <;> simp only [binD, reduceCtorEq] at hf <;> try cases hf
    split at hf
    · cases hf
      rename_i hz
      exact ⟨_, _, hx.int, hy.int, hz, q _ _ (.int _)⟩
    · cases hf
  | pow =>
    refine imp2 (op_pow (X := X)) fun x y H Q h => ?_
    obtain ⟨Bad, d, e, g, ok, hx, hy, hf, q⟩ := h
    cases d <;> cases e <;> simp only [binD, reduceCtorEq] at hf <;> try cases hf
    split at hf
    · cases hf
      rename_i hz
      exact ⟨_, _, hx.int, hy.int, hz, q _ _ (.int _)⟩
    · cases hf

def copOf : COp → CmpOp
  | .eq => .Eq
  | .ne => .NotEq
  | .lt => .Lt
  | .le => .LtE
  | .gt => .Gt
  | .ge => .GtE
  | .inn => .In
  | .nin => .NotIn
/-- a comparison by data: a bool, the heap as it was -/
def rC (K : PySem.W.Frag) (o : COp) : R2 := fun x y H Q => ∃ Bad d e b, BadOk Bad H ∧ RepD K Bad H x d ∧ RepD K Bad H y e ∧ cmpD o d e = some b ∧ Q (.bl b) H
theorem flat_rep {K : PySem.W.Frag} {Bad : Addr → Prop} {H : Hp} {v : V} {d : PyData} (h : Rep K Bad H v d) (f : flatD d = true) : flatV v = true := by
  cases h <;> first | rfl | (cases f; done)
theorem eqV_rep {K : PySem.W.Frag} {Bad : Addr → Prop} {H : Hp} {v w : V} {d e : PyData} (h : Rep K Bad H v d) (g : Rep K Bad H w e) (f : flatD d = true) (f' : flatD e = true) : eqV v w = PyData.eqv d e := by
  cases h <;> cases g <;> first | rfl | (cases f; done) | (cases f'; done)
theorem flats_rep {K : PySem.W.Frag} {Bad : Addr → Prop} {H : Hp} : ∀ {vs : List V} {ds : List PyData}, Reps K Bad H vs ds → ds.all flatD = true → vs.all flatV = true
  | _, _, .nil, _ => rfl
  | _, _, .cons h t, f => by
    rw [List.all_cons, Bool.and_eq_true] at f ⊢
    exact ⟨flat_rep h f.1, flats_rep t f.2⟩
theorem inV_rep {K : PySem.W.Frag} {Bad : Addr → Prop} {H : Hp} {v : V} {d : PyData} (h : Rep K Bad H v d) (fd : flatD d = true) : ∀ {vs : List V} {ds : List PyData}, Reps K Bad H vs ds → ds.all flatD = true → inV v vs = ds.any fun y => PyData.eqv y d
  | _, _, .nil, _ => rfl
  | _, _, .cons g t, f => by
    rw [List.all_cons, Bool.and_eq_true] at f
    have ih := inV_rep h fd t f.2
    unfold inV at ih ⊢
    rw [List.any_cons, List.any_cons, ih, eqV_rep g h f.1 fd]
theorem RepD.flat {K : PySem.W.Frag} {Bad : Addr → Prop} {H : Hp} {v : V} {d : PyData} (h : RepD K Bad H v d) (f : flatD d = true) : Rep K Bad H v d := by
  cases h with
  | of h => exact h
  | lst _ _ _ => cases f
theorem inD_ok {x : PyData} {ys : List PyData} {b : Bool} (h : inD x ys = some b) : flatD x = true ∧ ys.all flatD = true ∧ b = ys.any fun y => PyData.eqv y x := by
  unfold inD at h
  split at h
  · rename_i hc
    cases h
    exact ⟨hc.1, hc.2, rfl⟩
  · cases h
theorem in_rep {K : PySem.W.Frag} {Bad : Addr → Prop} {H : Hp} {x y : V} {d : PyData} {ys : List PyData} {xs : List V} {b : Bool} (hx : RepD K Bad H x d) (h2 : Reps K Bad H xs ys) (h : inD d ys = some b) :
    flatV x = true ∧ xs.all flatV = true ∧ inV x xs = b := by
  obtain ⟨f1, f2, rfl⟩ := inD_ok h
  exact ⟨flat_rep (hx.flat f1) f1, flats_rep h2 f2, inV_rep (hx.flat f1) f1 h2 f2⟩
theorem cmpD_gen {d e : PyData} (h : ¬ ∃ s t, d = .str s ∧ e = .str t) : cmpD .eq d e = if SeqAt.shaped d = true ∧ SeqAt.shaped e = true then some (PyData.eqv d e) else none := by
  cases d <;> first | (cases e <;> first | rfl | exact absurd ⟨_, _, rfl, rfl⟩ h) | rfl
theorem cmpD_gen' {d e : PyData} (h : ¬ ∃ s t, d = .str s ∧ e = .str t) : cmpD .ne d e = if SeqAt.shaped d = true ∧ SeqAt.shaped e = true then some (!PyData.eqv d e) else none := by
  cases d <;> first | (cases e <;> first | rfl | exact absurd ⟨_, _, rfl, rfl⟩ h) | rfl
theorem op_cmp (o : COp) (hu : X.A.units + 64 < cLine) : OpR X (compareOp (copOf o)) (rC X.K o) := by
  cases o with
  | eq =>
    refine imp2 (or2 (op_eqD hu) (op_eq (X := X))) fun x y H Q h => ?_
    obtain ⟨Bad, d, e, b, ok, hx, hy, hf, q⟩ := h
    by_cases hs : ∃ s t, d = .str s ∧ e = .str t
    · obtain ⟨s, t, rfl, rfl⟩ := hs
      cases hf
      rw [hx.str, hy.str]
      exact .inr ⟨rfl, by rw [show decide (V.str s = V.str t) = decide (s = t) from decide_eq_decide.mpr ⟨fun z => by cases z; rfl, fun z => by rw [z]⟩]; exact q⟩
    · rw [cmpD_gen hs] at hf
      split at hf
      · rename_i hc
        cases hf
        exact .inl ⟨d, e, hx.dp, hy.dp, hc.1, hc.2, q⟩
      · cases hf
  | ne =>
    refine imp2 (or2 (op_neD hu) (op_ne (X := X))) fun x y H Q h => ?_
    obtain ⟨Bad, d, e, b, ok, hx, hy, hf, q⟩ := h
    by_cases hs : ∃ s t, d = .str s ∧ e = .str t
    · obtain ⟨s, t, rfl, rfl⟩ := hs
      cases hf
      rw [hx.str, hy.str]
      exact .inr ⟨rfl, by rw [show decide (V.str s = V.str t) = decide (s = t) from decide_eq_decide.mpr ⟨fun z => by cases z; rfl, fun z => by rw [z]⟩]; exact q⟩
    · rw [cmpD_gen' hs] at hf
      split at hf
      · rename_i hc
        cases hf
        exact .inl ⟨d, e, hx.dp, hy.dp, hc.1, hc.2, q⟩
      · cases hf
  | lt =>
    refine imp2 (op_lt (X := X)) fun x y H Q h => ?_
    obtain ⟨Bad, d, e, b, ok, hx, hy, hf, q⟩ := h
    cases d <;> cases e <;> simp only [cmpD, reduceCtorEq] at hf <;> cases hf
    exact ⟨_, _, hx.int, hy.int, q⟩
  | le =>
    refine imp2 (op_le (X := X)) fun x y H Q h => ?_
    obtain ⟨Bad, d, e, b, ok, hx, hy, hf, q⟩ := h
    cases d <;> cases e <;> simp only [cmpD, reduceCtorEq] at hf <;> cases hf
    exact ⟨_, _, hx.int, hy.int, q⟩
  | gt =>
    refine imp2 (op_gt (X := X)) fun x y H Q h => ?_
    obtain ⟨Bad, d, e, b, ok, hx, hy, hf, q⟩ := h
    cases d <;> cases e <;> simp only [cmpD, reduceCtorEq] at hf <;> cases hf
    exact ⟨_, _, hx.int, hy.int, q⟩
  | ge =>
    refine imp2 (op_ge (X := X)) fun x y H Q h => ?_
    obtain ⟨Bad, d, e, b, ok, hx, hy, hf, q⟩ := h
    cases d <;> cases e <;> simp only [cmpD, reduceCtorEq] at hf <;> cases hf
    exact ⟨_, _, hx.int, hy.int, q⟩
  | inn =>
    refine imp2 (or2 (op_in_seq (X := X)) op_in_str) fun x y H Q h => ?_
    obtain ⟨Bad, d, e, b, ok, hx, hy, hf, q⟩ := h
    cases e with
    | list ys =>
      obtain ⟨p, xs, rfl, h1, h2⟩ := hy.list
      have hf' : inD d ys = some b := by cases d <;> exact hf
      obtain ⟨f1, f2, f3⟩ := in_rep (y := .ref p) hx h2 hf'
      exact .inl ⟨p, xs, rfl, .inl h1, f1, f2, by rw [f3]; exact q⟩
    | tuple ys =>
      obtain ⟨p, xs, rfl, h1, h2⟩ := hy.tuple
      have hf' : inD d ys = some b := by cases d <;> exact hf
      obtain ⟨f1, f2, f3⟩ := in_rep (y := .ref p) hx h2 hf'
      exact .inl ⟨p, xs, rfl, .inr h1.sq, f1, f2, by rw [f3]; exact q⟩
    | str z =>
      cases d <;> simp only [cmpD, reduceCtorEq] at hf <;> cases hf
      exact .inr ⟨_, _, hx.str, hy.str, q⟩
    | _ => cases d <;> simp only [cmpD, reduceCtorEq] at hf
  | nin =>
    refine imp2 (or2 (op_notIn_seq (X := X)) op_notin_str) fun x y H Q h => ?_
    obtain ⟨Bad, d, e, b, ok, hx, hy, hf, q⟩ := h
    cases e with
    | list ys =>
      obtain ⟨p, xs, rfl, h1, h2⟩ := hy.list
      have hf' : (inD d ys).map (!·) = some b := by cases d <;> exact hf
      obtain ⟨c, hc, rfl⟩ := Option.map_eq_some_iff.mp hf'
      obtain ⟨f1, f2, f3⟩ := in_rep (y := .ref p) hx h2 hc
      exact .inl ⟨p, xs, rfl, .inl h1, f1, f2, by rw [f3]; exact q⟩
    | tuple ys =>
      obtain ⟨p, xs, rfl, h1, h2⟩ := hy.tuple
      have hf' : (inD d ys).map (!·) = some b := by cases d <;> exact hf
      obtain ⟨c, hc, rfl⟩ := Option.map_eq_some_iff.mp hf'
      obtain ⟨f1, f2, f3⟩ := in_rep (y := .ref p) hx h2 hc
      exact .inl ⟨p, xs, rfl, .inr h1.sq, f1, f2, by rw [f3]; exact q⟩
    | str z =>
      cases d <;> simp only [cmpD, reduceCtorEq] at hf <;> cases hf
      exact .inr ⟨_, _, hx.str, hy.str, q⟩
    | _ => cases d <;> simp only [cmpD, reduceCtorEq] at hf

theorem atI_rep {K : PySem.W.Frag} {Bad : Addr → Prop} {H : Hp} {vs : List V} {ds : List PyData} {i : Int} {g : PyData} (h : Reps K Bad H vs ds) (e : atI ds i = some g) : ∃ v, atI vs i = some v ∧ Rep K Bad H v g := by
  unfold atI at e ⊢
  rw [h.length]
  cases q : ixN ds.length i with
  | none => rw [q] at e; cases e
  | some j =>
    rw [q] at e
    exact h.get e
theorem op_idx : IxR X (rD0 X.K idxD) := by
  intro value slice pins s σ H x y v u Q I rx ry h hs
  refine ix_seq value slice pins s σ H x y v u Q I rx ry ?_ hs
  obtain ⟨Bad, d, e, g, ok, hx, hy, hf, q⟩ := h
  cases e with
  | int i =>
    cases d with
    | list ds =>
      obtain ⟨p, xs, rfl, h1, h2⟩ := hx.list
      obtain ⟨w, e1, r⟩ := atI_rep h2 hf
      exact .inl ⟨p, xs, i, w, rfl, hy.int, h1, e1, q _ _ ⟨.inl rfl, r, fun f => nomatch f⟩⟩
    | tuple ds =>
      obtain ⟨p, xs, rfl, h1, h2⟩ := hx.tuple
      obtain ⟨w, e1, r⟩ := atI_rep h2 hf
      exact .inr (.inl ⟨p, xs, i, w, rfl, hy.int, h1.sq, e1, q _ _ ⟨.inl rfl, r, fun f => nomatch f⟩⟩)
    | str z =>
      simp only [idxD] at hf
      split at hf
      · rename_i hz
        obtain ⟨c, e1, rfl⟩ := Option.map_eq_some_iff.mp hf
        exact .inr (.inr ⟨z, i, c, hx.str, hy.int, hz, e1, q _ _ (.str _)⟩)
      · cases hf
    | _ => cases hf
  | _ => cases d <;> cases hf
theorem cut_rep {K : PySem.W.Frag} {Bad : Addr → Prop} {H : Hp} {vs : List V} {ds : List PyData} (h : Reps K Bad H vs ds) (lo hi : Option Int) : Reps K Bad H (cutV vs lo hi) (cutD ds lo hi) := by
  unfold cutV cutD
  rw [h.length]
  exact (h.drop _).take _
theorem cut_whole {ds : List PyData} {lo hi : Option Int} (h : HT.sIx ds.length 0 lo = 0 ∧ HT.sIx ds.length ds.length hi = ds.length) : cutD ds lo hi = ds := by
  unfold cutD
  rw [h.1, h.2, Nat.sub_zero, List.drop_zero, List.take_length]
def rSlD (K : PySem.W.Frag) : V → Option Int → Option Int → Hp → VK → Prop := fun x lo hi H Q => ∃ Bad d g, BadOk Bad H ∧ RepD K Bad H x d ∧ sliceD d lo hi = some g ∧ ∀ v H', OpPost K Bad H true g v H' → Q v H'
theorem op_slice : SlR X (rSlD X.K) := by
  intro pins s σ H x v vl vu lo hi sl Q I rx hs pl pu h
  obtain ⟨Bad, d, g, ok, hx, hf, q⟩ := h
  cases d with
  | list ds =>
    cases hf
    obtain ⟨p, xs, rfl, h1, h2⟩ := hx.list
    exact sl_list pins s σ H _ v vl vu lo hi sl Q I rx hs pl pu ⟨p, xs, rfl, h1, fun r hr => q _ _ (.list ok hr (cut_rep h2 lo hi))⟩
  | tuple ds =>
    cases hf
    obtain ⟨p, xs, rfl, h1, h2⟩ := hx.tuple
    refine sl_tupF pins s σ H _ v vl vu lo hi sl Q I rx hs pl pu ⟨p, xs, rfl, h1.sq, fun e => ?_, fun _ r o hr hd => q _ _ (.tuple ok hr hd (cut_rep h2 lo hi))⟩
    rw [h2.length] at e
    rw [cut_whole e] at q
    exact q _ _ (.same (.tup h1 h2) fun _ _ e => nomatch e)
  | str z =>
    simp only [sliceD] at hf
    split at hf
    · cases hf
      rename_i hz
      exact sl_str pins s σ H _ v vl vu lo hi sl Q I rx hs pl pu ⟨z, hx.str, hz, q _ _ (.str _)⟩
    · cases hf
  | _ => cases hf
end
end Tr


namespace Tr
open PySem L2
open PySem.Spec PyProof.Rows

structure FnG (P : Program) (w : World) (K : PySem.W.Frag) (mg : Str → Option Value) (base : Heap) (k : Nat) (f : Addr) (fd : FuncData) (ps : List Str) (sp : Sp) : Prop where
  len : ∀ vs H Q E, sp vs H Q E → vs.length = ps.length
  run : ∀ (A : Around) (outer : List Env) (s : Shared) (H : Hp) (args : Args) (us : List Value) (vs : List V) (Q : VK) (E : XK),
    Room k A → A.guards = some [] → Env0 P w K mg base A outer s H → BindsTo s fd args (ps.zip us) → Vals vs us → sp vs H Q E →
    codeAny (model P w) A (.call (.ref f) args) (CR CX0 outer P w H s Q E) s

section
variable {X : Cx} {k : Nat} {f : Addr} {fd : FuncData} {ps : List Str} {sp : Sp} {x : Str} {p pos : Pos}
theorem run_g {pins : List (Addr × Obj)} {σ : L2.St} {H : Hp} {s : Shared} {Q : VK} {us : List Value} {vs : List V}
    (F : FnG X.prog X.w X.K X.mg X.base k f fd ps sp) (hr : Room k X.A) (hg : X.A.guards = some []) (hb : Binds X.K fd ps [])
    (I : Inv X pins σ H s) (r : Vals vs us) (h : sp vs H Q E0) : wpAny (model X.prog X.w) X.A (call (.ref f) us) (EP X pins σ Q) X.xe s := by
  have hl : us.length = ps.length := by
    have q := F.len _ _ _ _ h
    rw [← r.length]
    exact q
  have hb' := hb s us I.kIn (by rw [List.append_nil]; exact hl)
  rw [List.append_nil] at hb'
  refine wpAny_call (codeAny_mono (F.run X.A X.stack s H ⟨us, []⟩ us vs Q E0 hr hg I.env0 hb' r h) fun r s' hq => ?_)
  cases r with
  | error e => exact False.elim hq
  | ok fl =>
    cases fl with
    | ret u => exact I.after hq
    | _ => exact False.elim hq

def tCallG (sp : Sp) (t : TA) : TE := fun σ H Q => t σ H fun vs H1 => sp vs H1 Q E0
/-- all of a list of arguments, none with a star -/
def noStar : Expr → Bool
  | .Starred _ _ => false
  | _ => true
theorem star1 {e : Expr} {es : List Expr} {env : Env} (h : noStar e = true) : starEach (e :: es) env = (false, eval e env) :: starEach es env := by
  cases e <;> first | rfl | (cases h; done)
theorem stars {env : Env} {pos : Pos} : ∀ {es : List Expr}, es.all noStar = true → (backTo pos (starEach es env)).any (·.1) = false
  | [], _ => rfl
  | e :: es, h => by
    rw [List.all_cons, Bool.and_eq_true] at h
    have ih := stars (env := env) (pos := pos) h.2
    rw [star1 h.1]
    unfold backTo at ih ⊢
    rw [List.map_cons, List.any_cons, ih]
    rfl
theorem stars2 {env : Env} {pos : Pos} : ∀ {es : List Expr}, es.all noStar = true → (backTo pos (starEach es env)).all (fun x => !x.1) = true
  | [], _ => rfl
  | e :: es, h => by
    rw [List.all_cons, Bool.and_eq_true] at h
    have ih := stars2 (env := env) (pos := pos) h.2
    rw [star1 h.1]
    unfold backTo at ih ⊢
    rw [List.map_cons, List.all_cons, ih]
    rfl
theorem pe_callg {e : Expr} {es : List Expr} {t : TA} (F : FnG X.prog X.w X.K X.mg X.base k f fd ps sp) (hr : Room k X.A) (hgu : X.A.guards = some []) (hg : Gl X x)
    (hm : X.mg x = some (.ref f)) (hk : PySem.W.keepIn X.K (.ref f) = true) (hb : Binds X.K fd ps []) (ha : PA X (e :: es) t)
    (hdb : (x == ("__debug__" : Str)) = false) (hs : (e :: es).all noStar = true) : PE X (.Call (.Name x p) (e :: es) [] pos) (tCallG sp t) := by
  rw [List.all_cons, Bool.and_eq_true] at hs
  refine ⟨fun pins s σ H Q I h => wpAny_Call_Name_kw (ld_glob I hg hm ?_ hdb)⟩
  refine PySem.W.callWith_K (h₀ := X.base) I.ok.mod.kin hk (thn (ha.run pos pins s σ H _ I h) fun us s1 ⟨vs, H1, I1, r, q⟩ => ⟨I1.kIn, ?_⟩) (star1 hs.1) (stars hs.2)
  exact run_g F hr hgu hb I1 r q
theorem pe_callg0 (F : FnG X.prog X.w X.K X.mg X.base k f fd ps sp) (hr : Room k X.A) (hgu : X.A.guards = some []) (hg : Gl X x)
    (hm : X.mg x = some (.ref f)) (hk : PySem.W.keepIn X.K (.ref f) = true) (hb : Binds X.K fd ps []) (hdb : (x == ("__debug__" : Str)) = false) :
    PE X (.Call (.Name x p) [] [] pos) (tCallG sp tNil) :=
  ⟨fun pins s σ H Q I h => wpAny_Call_Name_kw (ld_glob I hg hm (PySem.W.callWith_K0 I.kIn hk (run_g (us := []) F hr hgu hb I .nil h)) hdb)⟩
end

/-- the surroundings: the written part, what calls give, which names have lists of their own, which defs hand back new lists -/
structure Gam where
  K : PySem.W.Frag
  C : Calls
  W : List Nat
  fr : Nat → Bool
  n : Nat

mutual
/-- the value, if it is a list, is a new one -/
def freshE (fr : Nat → Bool) : Ex → Bool
  | .const _ => true
  | .tup _ => true
  | .lst _ => true
  | .bin _ _ _ => true
  | .neg _ => true
  | .cmp _ _ _ => true
  | .isN _ _ => true
  | .chain _ _ _ _ _ => true
  | .not _ => true
  | .slice _ _ _ => true
  | .blt _ _ => true
  | .meth _ _ _ => true
  | .comp _ _ _ _ => true
  | .ife _ a b => freshE fr a && freshE fr b
  | .call f _ => fr f
  | _ => false
end

/-- the list at p is new, nobody else has it -/
def NewAt (K : PySem.W.Frag) (Bad : Addr → Prop) (H0 H : Hp) (ρ : List Addr) (S : Store) (v : V) (ds : List PyData) : Prop :=
  ∃ p xs, v = .ref p ∧ H0 p = none ∧ H p = some (.lst xs) ∧ Reps K (fun q => Bad q ∨ q = p) H xs ds ∧ Cells K (fun q => Bad q ∨ q = p) H ρ S
structure Post (G : Gam) (wd : Wd) (σ : L2.St) (env : TEnv) (fr : Bool) (H0 : Hp) (a : A) (S : Store) (v : V) (H : Hp) : Prop where
  ext : Ext (· ∈ wd.ρ) H0 H
  cells : Cells G.K (BadOf G.W wd σ env) H wd.ρ S
  rep : RepA G.K (BadOf G.W wd σ env) H wd.ρ v a
  fresh : fr = true → ∀ ds, a = .val (.list ds) → NewAt G.K (BadOf G.W wd σ env) H0 H wd.ρ S v ds
structure PostB (G : Gam) (wd : Wd) (σ : L2.St) (env : TEnv) (H0 : Hp) (a : A) (S : Store) (v : V) (H : Hp) : Prop where
  ext : Ext (· ∈ wd.ρ) H0 H
  cells : Cells G.K (BadOf G.W wd σ env) H wd.ρ S
  rep : RepB G.K (BadOf G.W wd σ env) H wd.ρ v a

def tE (G : Gam) (e : Ex) : TE := fun σ H Q => ∃ wd env S a S', SR G.K G.W wd σ H env S ∧ evalE G.C e env S = .ok a S' ∧ ∀ v H', Post G wd σ env (freshE G.fr e) H a S' v H' → Q v H'
def tB (G : Gam) (e : Ex) : TE := fun σ H Q => ∃ wd env S a S', SR G.K G.W wd σ H env S ∧ evalE G.C e env S = .ok a S' ∧ ∀ v H', PostB G wd σ env H a S' v H' → Q v H'
def tT (G : Gam) (e : Ex) : TT := fun σ H Q => ∃ wd env S b S', SR G.K G.W wd σ H env S ∧ evalE G.C e env S = .ok (.val (.bool b)) S' ∧
  ∀ H', Ext (· ∈ wd.ρ) H H' → Cells G.K (BadOf G.W wd σ env) H' wd.ρ S' → Q b H'

theorem PE.imp {X : Cx} {e : Expr} {t t' : TE} (h : PE X e t) (i : ∀ σ H Q, t' σ H Q → t σ H Q) : PE X e t' := ⟨fun pins s σ H Q I q => h.run pins s σ H Q I (i σ H Q q)⟩
theorem PT.imp {X : Cx} {e : Expr} {t t' : TT} (h : PT X e t) (i : ∀ σ H Q, t' σ H Q → t σ H Q) : PT X e t' := ⟨fun pins s σ H Q I q => h.run pins s σ H Q I (i σ H Q q)⟩
theorem PW.imp {X : Cx} {e : Expr} {t t' : TT} (h : PW X e t) (i : ∀ σ H Q, t' σ H Q → t σ H Q) : PW X e t' := ⟨fun wh pins s σ H Q I q => h.run wh pins s σ H Q I (i σ H Q q)⟩

section
variable {G : Gam} {wd : Wd} {σ : L2.St} {env : TEnv} {H H1 H2 : Hp} {a : A} {S S1 S2 : Store} {v : V} {fr : Bool}
theorem SR.next (I : SR G.K G.W wd σ H env S) (e : Ext (· ∈ wd.ρ) H H1) (c : Cells G.K (BadOf G.W wd σ env) H1 wd.ρ S1) : SR G.K G.W wd σ H1 env S1 := I.step e c
/-- what was told stands behind the next -/
theorem RepA.next (I : SR G.K G.W wd σ H env S) (e : Ext (· ∈ wd.ρ) H H1) (h : RepA G.K (BadOf G.W wd σ env) H wd.ρ v a) : RepA G.K (BadOf G.W wd σ env) H1 wd.ρ v a := by
  cases a with
  | val d => exact Rep.ext I.badOk (fun a q => .inl (.inr (.inl q))) e (fun a q => .inl q) h
  | ref n => exact h
theorem RepB.next (I : SR G.K G.W wd σ H env S) (e : Ext (· ∈ wd.ρ) H H1) (h : RepB G.K (BadOf G.W wd σ env) H wd.ρ v a) : RepB G.K (BadOf G.W wd σ env) H1 wd.ρ v a := by
  rcases h with h | ⟨p, xs, ds, h1, h2, h3, h4, h5⟩
  · exact .inl (h.next I e)
  · exact .inr ⟨p, xs, ds, h1, h2, e.keep _ _ h3 h4, h4, h5.ext I.badOk (fun a q => .inl (.inr (.inl q))) e fun a q => .inl q⟩
theorem Post.b (h : Post G wd σ env fr H a S v H1) : PostB G wd σ env H a S v H1 := ⟨h.ext, h.cells, .inl h.rep⟩
/-- an operation's end is an expression's end -/
theorem OpPost.post {d : PyData} (I : SR G.K G.W wd σ H1 env S1) (e : Ext (· ∈ wd.ρ) H H1) (q : OpPost G.K (BadOf G.W wd σ env) H1 fr d v H2) : Post G wd σ env fr H (.val d) S1 v H2 := by
  have hl : ∀ a, a ∈ wd.ρ → ∃ xs, H1 a = some (.lst xs) := fun a h => I.ρL h
  refine ⟨e.trans q.new.ext, I.cells.ext (M := fun _ => False) I.badOk (fun _ z => z.elim) q.new.ext (fun a z => .inl z) fun _ _ z => z, q.rep, fun f ds z => ?_⟩
  cases z
  obtain ⟨p, xs, rfl, h1, rfl, h2⟩ := q.fresh f ds rfl
  have hb : ∀ a, (BadOf G.W wd σ env a ∨ a = p) → BadOf G.W wd σ env a ∨ H1 a = none := fun a z => z.elim .inl fun z => .inr (by rw [z]; exact h1)
  refine ⟨p, xs, rfl, ?_, upd_same, h2.ext (M := fun _ => False) I.badOk (fun _ z => z.elim) (.new h1) hb, I.cells.ext (M := fun _ => False) I.badOk (fun _ z => z.elim) (.new h1) hb fun _ _ z => z⟩
  cases z : H p with
  | none => rfl
  | some o =>
    by_cases m : p ∈ wd.ρ
    · obtain ⟨ys, w⟩ := hl p m
      rw [h1] at w; cases w
    · have w := e.keep p o z m
      rw [h1] at w; cases w
end
end Tr


namespace Tr
open PySem L2
open PySem.Spec PyProof.Rows

mutual
def sameD : PyData → PyData → Bool
  | .none, .none => true
  | .bool a, .bool b => a == b
  | .int a, .int b => a == b
  | .str a, .str b => a == b
  | .list a, .list b => sameDs a b
  | .tuple a, .tuple b => sameDs a b
  | _, _ => false
def sameDs : List PyData → List PyData → Bool
  | [], [] => true
  | a :: r, b :: s => sameD a b && sameDs r s
  | _, _ => false
end
mutual
theorem sameD_eq : ∀ {a b : PyData}, sameD a b = true → a = b
  | .none, .none, _ => rfl
  | .bool a, .bool b, h => by rw [eq_of_beq (show (a == b) = true from h)]
  | .int a, .int b, h => by rw [eq_of_beq (show (a == b) = true from h)]
  | .str a, .str b, h => by rw [eq_of_beq (show (a == b) = true from h)]
  | .list a, .list b, h => by rw [sameDs_eq (show sameDs a b = true from h)]
  | .tuple a, .tuple b, h => by rw [sameDs_eq (show sameDs a b = true from h)]
theorem sameDs_eq : ∀ {a b : List PyData}, sameDs a b = true → a = b
  | [], [], _ => rfl
  | a :: r, b :: s, h => by
    have h' : (sameD a b && sameDs r s) = true := h
    rw [Bool.and_eq_true] at h'
    rw [sameD_eq h'.1, sameDs_eq h'.2]
end

structure Ctx where
  N : List Str
  sc : Scope
  fn : Str → Bool
  W : List Nat
  fns : List (Nat × Str × Nat)
  cons : List (Str × PyData)

def nmB (c : Ctx) (i : Nat) (x : Str) : Bool := decide (c.N[i]? = some x) && ((match c.sc.names.lookup x with
  | some .local => true
  | some .cell => true
  | some .free => true
  | _ => false) && (!(x == ("__debug__" : Str)) && !(x == ("__classdict__" : Str))))
def glB (c : Ctx) (x : Str) : Bool := decide (c.sc.names.lookup x = some .globalImplicit) && !(x == ("__debug__" : Str))
def constB : Const → PyData → Bool
  | .none, .none => true
  | .bool a, .bool b => a == b
  | .int a, .int b => a == b
  | .str a, .str b => a == b
  | _, _ => false
def noSet : Expr → Bool
  | .Set _ _ _ => false
  | _ => true
def noSlice : Expr → Bool
  | .Slice _ _ _ _ => false
  | _ => true
/-- no call without arguments -/
def noCall0 : Expr → Bool
  | .Call _ [] _ _ => false
  | _ => true
/-- plain as a test: the truth of its value is asked -/
def plainT : Expr → Bool
  | .UnaryOp .Not _ _ => false
  | .BoolOp _ _ _ => false
  | .IfExp _ _ _ _ => false
  | .Compare _ _ _ _ => false
  | _ => true

/-- built-ins: their names, whether a class -/
def bfName : BF → Str
  | .len => "len"
  | .abs => "abs"
  | .int => "int"
  | .str => "str"
  | .max2 => "max"
  | .min2 => "min"
  | .tuple => "tuple"
  | .list => "list"
  | .all => "all"
  | .any => "any"
  | .repr => "repr"
  | .isInst _ => "isinstance"
def mfName : MF → Str
  | .removesuffix => "removesuffix"
  | .endswith => "endswith"
  | .startswith => "startswith"
  | .join => "join"
  | .split => "split"
  | .index => "index"
def bltNames : List Str := ["len", "abs", "int", "str", "max", "min", "tuple", "list", "all", "any", "repr", "isinstance", "range", "enumerate", "zip", "bool", "sum", "sorted", "reversed"]
def kindNames : List String := ["int", "str", "bool", "tuple", "list"]

def tgB (c : Ctx) (i : Nat) (x : Str) : Bool := decide (c.N[i]? = some x) && (!c.W.contains i && (match c.sc.names.lookup x with
  | some .local => true
  | some .cell => c.fn x
  | _ => false))
def tgsB (c : Ctx) : List Nat → List Expr → Bool
  | [], [] => true
  | i :: is, .Name x _ :: es => tgB c i x && tgsB c is es
  | _, _ => false
/-- a target -/
def tgtB (c : Ctx) (is : List Nat) (e : Expr) : Bool := match is, e with
  | [i], .Name x _ => tgB c i x
  | i :: j :: r, .Tuple es _ _ => tgsB c (i :: j :: r) es && decide ((i :: j :: r).Nodup)
  | _, _ => false
def isTuple : Expr → Bool
  | .Tuple _ _ _ => true
  | _ => false
/-- the block of a comprehension -/
def ctxIn (c : Ctx) (scope : Scope) : Ctx := { c with sc := relS scope c.sc, fn := fun x => scope.names.lookup x == some .cell }
def ownOf (c : Ctx) (is : List Nat) : List (Str × Nat) := is.map fun i => (c.N.getD i "", i)

inductive Mode where
  | val | bor | walk (k : Bool)
  deriving DecidableEq
def Mode.reads : Mode → Bool
  | .val => false
  | _ => true
def Mode.walks : Mode → Bool
  | .walk _ => true
  | _ => false

mutual
/-- how a value is asked for: to be kept, to be read, to be walked (into a tuple of names or one) -/
def chkE (c : Ctx) (m : Mode) : Ex → Expr → Bool
  | .var i, e => match e with
    | .Name x _ => nmB c i x && !c.W.contains i
    | _ => false
  | .own i, e => match e with
    | .Name x _ => nmB c i x && m.reads
    | _ => false
  | .cell i, e => match e with
    | .Name x _ => nmB c i x
    | _ => false
  | .const d, e => match e with
    | .Constant k _ _ => constB k d
    | _ => false
  | .glob x d, e => match e with
    | .Name y _ => decide (x = y) && (glB c x && (match c.cons.lookup x with
      | some d' => sameD d' d
      | none => false))
    | _ => false
  | .tup es, e => match e with
    | .Tuple ts _ _ => chkEs c .val es ts && ts.all noStar
    | _ => false
  | .lst es, e => match e with
    | .List ts _ => chkEs c .val es ts && ts.all noStar
    | _ => false
  | .bin o a b, e => match e with
    | .BinOp l op r _ => decide (op = opOf o) && (chkE c .bor a l && chkE c .bor b r)
    | _ => false
  | .neg a, e => match e with
    | .UnaryOp .USub x _ => chkE c .bor a x
    | _ => false
  | .cmp o a b, e => match e with
    | .Compare l [op] [r] _ => decide (op = copOf o) && (chkE c .bor a l && (chkE c .bor b r && noSet r))
    | _ => false
  | .isN ng a, e => match e with
    | .Compare l [op] [.Constant .none _ _] _ => decide (op = if ng then .IsNot else .Is) && chkE c .bor a l
    | _ => false
  | .chain o o' a b d, e => match e with
    | .Compare l [op, op'] [m, r] _ => decide (op = copOf o) && (decide (op' = copOf o') && (chkE c .bor a l && (chkE c .bor b m && (chkE c .bor d r && (noSet m && noSet r)))))
    | _ => false
  | .ands es, e => match e with
    | .BoolOp .And ts _ => chkEs c .val es ts
    | _ => false
  | .ors es, e => match e with
    | .BoolOp .Or ts _ => chkEs c .val es ts
    | _ => false
  | .not a, e => match e with
    | .UnaryOp .Not x _ => chkE c .val a x
    | _ => false
  | .ife t a b, e => match e with
    | .IfExp t' a' b' _ => chkE c .val t t' && (chkE c .val a a' && chkE c .val b b')
    | _ => false
  | .idx a i, e => match e with
    | .Subscript v s _ => chkE c .bor a v && (chkE c .bor i s && noSlice s)
    | _ => false
  | .slice a lo hi, e => match e with
    | .Subscript v (.Slice l h none _) _ => chkE c .bor a v && (chkO c lo l && chkO c hi h)
    | _ => false
  | .blt f es, e => match e with
    | .Call (.Name x _) (a :: as) [] _ => decide (x = bfName f) && (glB c x && (match f, as with
      | .isInst t, [.Name y _] => decide (y = Str.ofString t) && (kindNames.contains t && (glB c y && (chkEs c .bor es [a] && noStar a)))
      | .isInst _, _ => false
      | _, _ => chkEs c .bor es (a :: as) && (a :: as).all noStar))
    | _ => false
  | .meth f a es, e => match e with
    | .Call (.Attribute o n ap) (t :: ts) [] p => decide (n = mfName f) && (chkE c .bor a o && (chkEs c .bor es (t :: ts) && ((t :: ts).all noStar && (noCall0 o && (ap.endLine == p.line && decide ((t :: ts).length < 29))))))
    | _ => false
  | .call f es, e => match e with
    | .Call (.Name x _) ts [] _ => (match c.fns.lookup f with
      | some (y, _) => decide (x = y)
      | none => false) && (glB c x && (chkEs c .val es ts && ts.all noStar))
    | _ => false
  | .range1 a, e => match e with
    | .Call (.Name x _) [t] [] _ => decide (x = ("range" : Str)) && (m.walks && (glB c x && (chkE c .bor a t && noStar t)))
    | _ => false
  | .range2 a b, e => match e with
    | .Call (.Name x _) [t, u] [] _ => decide (x = ("range" : Str)) && (m.walks && (glB c x && (chkE c .bor a t && (chkE c .bor b u && (noStar t && noStar u)))))
    | _ => false
  | .enum a, e => match e with
    | .Call (.Name x _) [t] [] _ => decide (x = ("enumerate" : Str)) && (decide (m = .walk true) && (glB c x && (chkE c .val a t && noStar t)))
    | _ => false
  | .zip a b, e => match e with
    | .Call (.Name x _) [t, u] [] _ => decide (x = ("zip" : Str)) && (decide (m = .walk true) && (glB c x && (chkE c .val a t && (chkE c .val b u && (noStar t && noStar u)))))
    | _ => false
  | .comp tg it cd el, e => match e with
    | .ListComp el' [⟨t, i, ifs, 0⟩] scope _ => chkE c (.walk (isTuple t)) it i && (noSet i && (blkC c.N c.sc scope (ownOf c tg) && (tgtB (ctxIn c scope) tg t && (chkC (ctxIn c scope) cd ifs && chkE (ctxIn c scope) .val el el'))))
    | _ => false
def chkEs (c : Ctx) (m : Mode) : List Ex → List Expr → Bool
  | [], [] => true
  | a :: as, e :: es => chkE c m a e && chkEs c m as es
  | _, _ => false
def chkO (c : Ctx) : Option Ex → Option Expr → Bool
  | none, none => true
  | some a, some e => chkE c .bor a e
  | _, _ => false
def chkC (c : Ctx) : Option Ex → List Expr → Bool
  | none, [] => true
  | some a, [e] => chkE c .val a e
  | _, _ => false
end
end Tr


namespace Tr
open PySem L2
open PySem.Spec PyProof.Rows

inductive RepDs (K : PySem.W.Frag) (Bad : Addr → Prop) (H : Hp) : List V → List PyData → Prop
  | nil : RepDs K Bad H [] []
  | cons {v : V} {vs : List V} {d : PyData} {ds : List PyData} : RepD K Bad H v d → RepDs K Bad H vs ds → RepDs K Bad H (v :: vs) (d :: ds)
def rF (K : PySem.W.Frag) (f : List PyData → Option PyData) : List V → Hp → VK → Prop := fun xs H Q => ∃ Bad ds g, BadOk Bad H ∧ RepDs K Bad H xs ds ∧ f ds = some g ∧ ∀ v H', OpPost K Bad H true g v H' → Q v H'
def rM (K : PySem.W.Frag) (f : PyData → List PyData → Option PyData) : V → List V → Hp → VK → Prop := fun x xs H Q => ∃ Bad d ds g, BadOk Bad H ∧ RepD K Bad H x d ∧ RepDs K Bad H xs ds ∧ f d ds = some g ∧ ∀ v H', OpPost K Bad H true g v H' → Q v H'
section
variable {K : PySem.W.Frag} {Bad : Addr → Prop} {H : Hp}
theorem RepDs.one {xs : List V} {d : PyData} (h : RepDs K Bad H xs [d]) : ∃ v, xs = [v] ∧ RepD K Bad H v d := by
  cases h with
  | cons h t =>
    cases t
    exact ⟨_, rfl, h⟩
theorem RepDs.two {xs : List V} {d e : PyData} (h : RepDs K Bad H xs [d, e]) : ∃ v w, xs = [v, w] ∧ RepD K Bad H v d ∧ RepD K Bad H w e := by
  cases h with
  | cons h t =>
    obtain ⟨w, rfl, h2⟩ := t.one
    exact ⟨_, _, rfl, h, h2⟩
theorem bools_rep : ∀ {vs : List V} {ds : List PyData} {bs : List Bool}, Reps K Bad H vs ds → boolsD ds = some bs → vs = bs.map V.bl
  | _, _, bs, .nil, e => by cases e; rfl
  | _, _, bs, .cons (d := d) h t, e => by
    cases d with
    | bool b =>
      have e' : (boolsD _).map (b :: ·) = some bs := e
      obtain ⟨cs, e1, rfl⟩ := Option.map_eq_some_iff.mp e'
      cases h
      rw [bools_rep t e1]
      rfl
    | _ => cases e
theorem strs_rep : ∀ {vs : List V} {ds : List PyData} {bs : List Str}, Reps K Bad H vs ds → strsD ds = some bs → vs = bs.map V.str
  | _, _, bs, .nil, e => by cases e; rfl
  | _, _, bs, .cons (d := d) h t, e => by
    cases d with
    | str b =>
      have e' : (strsD _).map (b :: ·) = some bs := e
      obtain ⟨cs, e1, rfl⟩ := Option.map_eq_some_iff.mp e'
      cases h
      rw [strs_rep t e1]
      rfl
    | _ => cases e
end
section
variable {X : Cx}
theorem CallR.imp {f : Value} {r r' : List V → Hp → VK → Prop} (h : CallR X f r) (i : ∀ xs H Q, r' xs H Q → r xs H Q) : CallR X f r' :=
  fun pins s σ H xs us Q I rv q => h pins s σ H xs us Q I rv (i xs H Q q)
theorem CallR.or {f : Value} {r r' : List V → Hp → VK → Prop} (h : CallR X f r) (h' : CallR X f r') : CallR X f (fun xs H Q => r xs H Q ∨ r' xs H Q) :=
  fun pins s σ H xs us Q I rv q => q.elim (h pins s σ H xs us Q I rv) (h' pins s σ H xs us Q I rv)
theorem c_len : CallR X (.builtin "len") (rF X.K (bltD .len)) := by
  refine CallR.imp (CallR.or call_len_seq call_len_str) fun xs H Q h => ?_
  obtain ⟨Bad, ds, g, ok, hx, hf, q⟩ := h
  rcases ds with _ | ⟨d, _ | ⟨_, _⟩⟩
  · cases hf
  · obtain ⟨v, rfl, h1⟩ := hx.one
    cases d with
    | list ys =>
      cases hf
      obtain ⟨p, zs, rfl, h2, h3⟩ := h1.list
      exact .inl ⟨p, zs, rfl, .inl h2, q _ _ (by rw [h3.length]; exact .int _)⟩
    | tuple ys =>
      cases hf
      obtain ⟨p, zs, rfl, h2, h3⟩ := h1.tuple
      exact .inl ⟨p, zs, rfl, .inr h2.sq, q _ _ (by rw [h3.length]; exact .int _)⟩
    | str z =>
      simp only [bltD] at hf
      split at hf
      · rename_i hz
        cases hf
        exact .inr ⟨z, by rw [h1.str], hz, q _ _ (.int _)⟩
      · cases hf
    | _ => cases hf
  · cases d <;> cases hf
theorem c_abs : CallR X (.builtin "abs") (rF X.K (bltD .abs)) := by
  refine CallR.imp call_abs fun xs H Q h => ?_
  obtain ⟨Bad, ds, g, ok, hx, hf, q⟩ := h
  rcases ds with _ | ⟨d, _ | ⟨_, _⟩⟩
  · cases hf
  · obtain ⟨v, rfl, h1⟩ := hx.one
    cases d <;> cases hf
    exact ⟨_, by rw [h1.int], q _ _ (.int _)⟩
  · cases d <;> cases hf
theorem c_int : CallR X (.type "int") (rF X.K (bltD .int)) := by
  refine CallR.imp call_int1 fun xs H Q h => ?_
  obtain ⟨Bad, ds, g, ok, hx, hf, q⟩ := h
  rcases ds with _ | ⟨d, _ | ⟨_, _⟩⟩
  · cases hf
  · obtain ⟨v, rfl, h1⟩ := hx.one
    cases d <;> cases hf
    · exact .inr ⟨_, by rw [h1.bool], q _ _ (.int _)⟩
    · exact .inl ⟨_, by rw [h1.int], q _ _ (.int _)⟩
  · cases d <;> cases hf
theorem c_str : CallR X (.type "str") (rF X.K (bltD .str)) := by
  refine CallR.imp call_str_int fun xs H Q h => ?_
  obtain ⟨Bad, ds, g, ok, hx, hf, q⟩ := h
  rcases ds with _ | ⟨d, _ | ⟨_, _⟩⟩
  · cases hf
  · obtain ⟨v, rfl, h1⟩ := hx.one
    cases d with
    | int i =>
      simp only [bltD] at hf
      split at hf
      · rename_i hz
        cases hf
        exact ⟨i, by rw [h1.int], hz, q _ _ (.str _)⟩
      · cases hf
    | _ => cases hf
  · cases d <;> cases hf
theorem c_max (hc : X.calm = true) : CallR X (.builtin "max") (rF X.K (bltD .max2)) := by
  refine CallR.imp (call_max2 hc) fun xs H Q h => ?_
  obtain ⟨Bad, ds, g, ok, hx, hf, q⟩ := h
  rcases ds with _ | ⟨d, _ | ⟨e, _ | ⟨_, _⟩⟩⟩
  · cases hf
  · cases d <;> cases hf
  · obtain ⟨v, w, rfl, h1, h2⟩ := hx.two
    cases d <;> cases e <;> cases hf
    exact ⟨_, _, by rw [h1.int, h2.int], q _ _ (.int _)⟩
  · cases d <;> cases e <;> cases hf
theorem c_min (hc : X.calm = true) : CallR X (.builtin "min") (rF X.K (bltD .min2)) := by
  refine CallR.imp (call_min2 hc) fun xs H Q h => ?_
  obtain ⟨Bad, ds, g, ok, hx, hf, q⟩ := h
  rcases ds with _ | ⟨d, _ | ⟨e, _ | ⟨_, _⟩⟩⟩
  · cases hf
  · cases d <;> cases hf
  · obtain ⟨v, w, rfl, h1, h2⟩ := hx.two
    cases d <;> cases e <;> cases hf
    exact ⟨_, _, by rw [h1.int, h2.int], q _ _ (.int _)⟩
  · cases d <;> cases e <;> cases hf
theorem c_tuple : CallR X (.type "tuple") (rF X.K (bltD .tuple)) := by
  refine CallR.imp call_tupleF fun xs H Q h => ?_
  obtain ⟨Bad, ds, g, ok, hx, hf, q⟩ := h
  rcases ds with _ | ⟨d, _ | ⟨_, _⟩⟩
  · cases hf
  · obtain ⟨v, rfl, h1⟩ := hx.one
    cases d with
    | list ys =>
      cases hf
      obtain ⟨p, zs, rfl, h2, h3⟩ := h1.list
      exact ⟨p, zs, rfl, .inl ⟨h2, fun l o hl hd => q _ _ (.tuple ok hl hd h3)⟩⟩
    | tuple ys =>
      cases hf
      obtain ⟨p, zs, rfl, h2, h3⟩ := h1.tuple
      exact ⟨p, zs, rfl, .inr ⟨h2.sq, q _ _ (.same (.tup h2 h3) fun _ _ e => nomatch e)⟩⟩
    | _ => cases hf
  · cases d <;> cases hf
theorem c_list : CallR X (.type "list") (rF X.K (bltD .list)) := by
  refine CallR.imp call_list_of fun xs H Q h => ?_
  obtain ⟨Bad, ds, g, ok, hx, hf, q⟩ := h
  rcases ds with _ | ⟨d, _ | ⟨_, _⟩⟩
  · cases hf
  · obtain ⟨v, rfl, h1⟩ := hx.one
    cases d with
    | list ys =>
      cases hf
      obtain ⟨p, zs, rfl, h2, h3⟩ := h1.list
      exact ⟨p, zs, rfl, .inl h2, fun l hl => q _ _ (.list ok hl h3)⟩
    | tuple ys =>
      cases hf
      obtain ⟨p, zs, rfl, h2, h3⟩ := h1.tuple
      exact ⟨p, zs, rfl, .inr h2.sq, fun l hl => q _ _ (.list ok hl h3)⟩
    | _ => cases hf
  · cases d <;> cases hf
theorem c_all (hc : X.calm = true) : CallR X (.builtin "all") (rF X.K (bltD .all)) := by
  refine CallR.imp (cr_all hc) fun xs H Q h => ?_
  obtain ⟨Bad, ds, g, ok, hx, hf, q⟩ := h
  rcases ds with _ | ⟨d, _ | ⟨_, _⟩⟩
  · cases hf
  · obtain ⟨v, rfl, h1⟩ := hx.one
    cases d with
    | list ys =>
      obtain ⟨bs, e1, rfl⟩ := Option.map_eq_some_iff.mp hf
      obtain ⟨p, zs, rfl, h2, h3⟩ := h1.list
      exact ⟨p, bs, rfl, by rw [← bools_rep h3 e1]; exact h2, q _ _ (.bool _)⟩
    | _ => cases hf
  · cases d <;> cases hf
theorem c_any (hc : X.calm = true) : CallR X (.builtin "any") (rF X.K (bltD .any)) := by
  refine CallR.imp (cr_any hc) fun xs H Q h => ?_
  obtain ⟨Bad, ds, g, ok, hx, hf, q⟩ := h
  rcases ds with _ | ⟨d, _ | ⟨_, _⟩⟩
  · cases hf
  · obtain ⟨v, rfl, h1⟩ := hx.one
    cases d with
    | list ys =>
      obtain ⟨bs, e1, rfl⟩ := Option.map_eq_some_iff.mp hf
      obtain ⟨p, zs, rfl, h2, h3⟩ := h1.list
      exact ⟨p, bs, rfl, by rw [← bools_rep h3 e1]; exact h2, q _ _ (.bool _)⟩
    | _ => cases hf
  · cases d <;> cases hf
/-- repr, where no guard is up -/
theorem c_repr (hg : X.A.guards = some []) (hu : X.A.units + 64 < cLine) : CallR X (.builtin "repr") (rF X.K (bltD .repr)) := by
  intro pins s σ H xs us Q I rv h
  obtain ⟨Bad, ds, g, ok, hx, hf, q⟩ := h
  rcases ds with _ | ⟨d, _ | ⟨_, _⟩⟩
  · cases hf
  · obtain ⟨v, rfl, h1⟩ := hx.one
    simp only [bltD] at hf
    split at hf
    · rename_i hc
      obtain ⟨c1, c2, c3, c4⟩ := hc
      cases hf
      obtain ⟨u, rfl, ru⟩ : ∃ u, us = [u] ∧ RelV v u := by
        cases rv with
        | cons r t => cases t; exact ⟨_, rfl, r⟩
      have fin : ∀ (h' : Heap) (u' : Tok) (tk : Nat), (∀ b o, s.heap.get? b = some o → h'.get? b = some o) → EP X pins σ Q (.str d.shown u') { s with heap := h', toks := tk } :=
        fun h' u' tk k => ⟨.str _, H, I.kept k, ⟨u', rfl⟩, q _ _ (.str _)⟩
      have big : ∀ a, u = .ref a → wpAny (model X.prog X.w) X.A (call (.builtin "repr") [u]) (EP X pins σ Q) X.xe s := fun a e => by
        subst e
        obtain ⟨as, rd⟩ := Dp.reads I d v _ h1.dp ru
        exact repr_of_reads' rd c1 (fun z => absurd z (by rw [c2]; exact Bool.false_ne_true)) hg (by omega) (fun _ _ e => e) (fun h' u' tk k => fin h' u' tk k) c4
      cases h1 with
      | of h1 =>
        cases h1 with
        | non =>
          cases ru
          exact P.repr_of_none (fin _ _ _ fun _ _ e => e)
        | bl b =>
          cases ru
          exact P.repr_of_bool (fin _ _ _ fun _ _ e => e)
        | int i =>
          obtain ⟨t, rfl⟩ := ru
          exact P.repr_of_int (of_decide_eq_true c1) (fin _ _ _ fun _ _ e => e)
        | str z =>
          obtain ⟨t, rfl⟩ := ru
          exact P.repr_of_str (fin _ _ _ fun _ _ e => e) c4
        | lst _ _ => exact big _ ru
        | tup _ _ => exact big _ ru
      | lst e _ _ =>
        subst e
        exact big _ ru
    · cases hf
  · cases hf
theorem kits : ∀ a ∈ ["NoneType", "bool", "int", "str", "list", "tuple"], ∀ k ∈ kindNames, kitB a k = some (isK a k) := by decide +kernel
/-- what type a datum is of -/
theorem ty_rep {K : PySem.W.Frag} {Bad : Addr → Prop} {H : Hp} {v : V} {d : PyData} (h : RepD K Bad H v d) : TyX K H v (.type (kindOf d)) ∧ kindOf d ∈ ["NoneType", "bool", "int", "str", "list", "tuple"] := by
  cases d with
  | none =>
    cases h with
    | of h => cases h; exact ⟨.base .non, by simp [kindOf]⟩
  | bool b => rw [h.bool]; exact ⟨.base (.bl b), by simp [kindOf]⟩
  | int i => rw [h.int]; exact ⟨.base (.int i), by simp [kindOf]⟩
  | str x => rw [h.str]; exact ⟨.base (.str x), by simp [kindOf]⟩
  | list ds =>
    obtain ⟨p, xs, rfl, q, _⟩ := h.list
    refine ⟨?_, by simp [kindOf]⟩
    rcases q with (q | ⟨o, q⟩) | ⟨o, its, n, q, c, _⟩
    · exact .base (.lst q)
    · exact .base (.frz q)
    · exact .kList q c
  | tuple ds =>
    obtain ⟨p, xs, rfl, q, _⟩ := h.tuple
    refine ⟨?_, by simp [kindOf]⟩
    rcases q with ⟨o, q, _⟩ | ⟨o, its, n, q, c, _⟩
    · exact .fTuple q
    · exact .kTuple q c
  | dict _ =>
    cases h with
    | of h => cases h
theorem c_isi {t : String} (ht : t ∈ kindNames) : CallR X (.builtin "isinstance") (fun xs H Q => ∃ Bad d v, xs = [v, .ty t] ∧ RepD X.K Bad H v d ∧ Q (.bl (isKind t d)) H) := by
  refine CallR.imp call_isi fun xs H Q h => ?_
  obtain ⟨Bad, d, v, rfl, h1, q⟩ := h
  obtain ⟨h2, h3⟩ := ty_rep h1
  exact ⟨v, .ty t, _, .type t, _, rfl, .ty t, h2, kit_ty (kits _ h3 t ht), q⟩
theorem MtR.imp {id : String} {r r' : V → List V → Hp → VK → Prop} (h : MtR X id r) (i : ∀ x xs H Q, r' x xs H Q → r x xs H Q) : MtR X id r' :=
  fun pins s σ H x xs v us Q I rx rv q => h pins s σ H x xs v us Q I rx rv (i x xs H Q q)
theorem m_removesuffix : MtR X "str.removesuffix" (rM X.K (methD .removesuffix)) := by
  refine MtR.imp mt_removesuffix fun x xs H Q h => ?_
  obtain ⟨Bad, d, ds, g, ok, hx, hxs, hf, q⟩ := h
  rcases ds with _ | ⟨e, _ | ⟨_, _⟩⟩
  · cases d <;> cases hf
  · obtain ⟨v, rfl, h1⟩ := hxs.one
    cases d <;> cases e <;> simp only [methD, reduceCtorEq] at hf
    split at hf
    · rename_i hz
      cases hf
      exact ⟨_, _, hx.str, by rw [h1.str], hz, q _ _ (.str _)⟩
    · cases hf
  · cases d <;> cases e <;> cases hf
theorem m_endswith : MtR X "str.endswith" (rM X.K (methD .endswith)) := by
  refine MtR.imp mt_endswith fun x xs H Q h => ?_
  obtain ⟨Bad, d, ds, g, ok, hx, hxs, hf, q⟩ := h
  rcases ds with _ | ⟨e, _ | ⟨_, _⟩⟩
  · cases d <;> cases hf
  · obtain ⟨v, rfl, h1⟩ := hxs.one
    cases d <;> cases e <;> cases hf
    exact ⟨_, _, hx.str, by rw [h1.str], q _ _ (.bool _)⟩
  · cases d <;> cases e <;> cases hf
theorem m_startswith : MtR X "str.startswith" (rM X.K (methD .startswith)) := by
  refine MtR.imp mt_startswith fun x xs H Q h => ?_
  obtain ⟨Bad, d, ds, g, ok, hx, hxs, hf, q⟩ := h
  rcases ds with _ | ⟨e, _ | ⟨_, _⟩⟩
  · cases d <;> cases hf
  · obtain ⟨v, rfl, h1⟩ := hxs.one
    cases d <;> cases e <;> cases hf
    exact ⟨_, _, hx.str, by rw [h1.str], q _ _ (.bool _)⟩
  · cases d <;> cases e <;> cases hf
theorem m_join : MtR X "str.join" (rM X.K (methD .join)) := by
  refine MtR.imp mt_join fun x xs H Q h => ?_
  obtain ⟨Bad, d, ds, g, ok, hx, hxs, hf, q⟩ := h
  rcases ds with _ | ⟨e, _ | ⟨_, _⟩⟩
  · cases d <;> cases hf
  · obtain ⟨v, rfl, h1⟩ := hxs.one
    cases d with
    | str a =>
      cases e with
      | list ys =>
        obtain ⟨zs, e1, e2⟩ := Option.bind_eq_some_iff.mp hf
        split at e2
        · rename_i hz
          cases e2
          obtain ⟨p, ws, rfl, h2, h3⟩ := h1.list
          exact ⟨a, p, zs, hx.str, rfl, .inl (by rw [← strs_rep h3 e1]; exact h2), hz, q _ _ (.str _)⟩
        · cases e2
      | tuple ys =>
        obtain ⟨zs, e1, e2⟩ := Option.bind_eq_some_iff.mp hf
        split at e2
        · rename_i hz
          cases e2
          obtain ⟨p, ws, rfl, h2, h3⟩ := h1.tuple
          exact ⟨a, p, zs, hx.str, rfl, .inr (by rw [← strs_rep h3 e1]; exact h2.sq), hz, q _ _ (.str _)⟩
        · cases e2
      | _ => cases hf
    | _ => cases e <;> cases hf
  · cases d <;> cases e <;> cases hf
theorem reps_strs {K : PySem.W.Frag} {Bad : Addr → Prop} {H : Hp} : ∀ ys : List Str, Reps K Bad H (ys.map V.str) (ys.map PyData.str)
  | [] => .nil
  | y :: r => .cons (.str y) (reps_strs r)
theorem m_split : MtR X "str.split" (rM X.K (methD .split)) := by
  refine MtR.imp mt_split fun x xs H Q h => ?_
  obtain ⟨Bad, d, ds, g, ok, hx, hxs, hf, q⟩ := h
  rcases ds with _ | ⟨e, _ | ⟨_, _⟩⟩
  · cases d <;> cases hf
  · obtain ⟨v, rfl, h1⟩ := hxs.one
    cases d <;> cases e <;> simp only [methD, reduceCtorEq] at hf
    split at hf
    · rename_i hz
      cases hf
      exact ⟨_, _, hx.str, by rw [h1.str], hz.1, hz.2, fun p hp => q _ _ (.list ok hp (reps_strs _))⟩
    · cases hf
  · cases d <;> cases e <;> cases hf
theorem place_rep {K : PySem.W.Frag} {Bad : Addr → Prop} {H : Hp} {v : V} {d : PyData} (h : Rep K Bad H v d) (fd : flatD d = true) : ∀ {vs : List V} {ds : List PyData} {n : Nat}, Reps K Bad H vs ds → ds.all flatD = true → placeD d ds = some n →
    ∃ z, vs[n]? = some z ∧ eqV z v = true ∧ ∀ (m : Nat) (z' : V), m < n → vs[m]? = some z' → eqV z' v = false
  | _, _, n, .nil, _, e => by cases e
  | _, _, n, .cons (v := w) (d := x) (vs := vs) g t, f, e => by
    rw [List.all_cons, Bool.and_eq_true] at f
    have eq := eqV_rep g h f.1 fd
    simp only [placeD] at e
    split at e
    · rename_i hc
      cases e
      exact ⟨w, rfl, by rw [eq]; exact hc, fun m z' hm => absurd hm (Nat.not_lt_zero _)⟩
    · rename_i hc
      obtain ⟨k, e1, rfl⟩ := Option.map_eq_some_iff.mp e
      obtain ⟨z, h1, h2, h3⟩ := place_rep h fd t f.2 e1
      refine ⟨z, by simpa using h1, h2, fun m z' hm hz => ?_⟩
      cases m with
      | zero =>
        have e2 : w = z' := by simpa using hz
        rw [← e2, eq]
        exact Bool.not_eq_true _ ▸ hc
      | succ m => exact h3 m z' (by omega) (by simpa using hz)
theorem indexD_ok {ds : List PyData} {d g : PyData} (h : indexD ds d = some g) : flatD d = true ∧ ds.all flatD = true ∧ ∃ n, placeD d ds = some n ∧ g = .int (n : Nat) := by
  unfold indexD at h
  split at h
  · rename_i hc
    obtain ⟨n, e1, rfl⟩ := Option.map_eq_some_iff.mp h
    exact ⟨hc.1, hc.2, n, e1, rfl⟩
  · cases h
/-- index of a list's, a tuple's item -/
def rIdxM (K : PySem.W.Frag) (k : Bool) : V → List V → Hp → VK → Prop := fun x xs H Q => ∃ Bad es d g, BadOk Bad H ∧ RepD K Bad H x (if k then .list es else .tuple es) ∧ RepDs K Bad H xs [d] ∧ indexD es d = some g ∧ ∀ v H', OpPost K Bad H true g v H' → Q v H'
theorem m_lindex : MtR X "list.index" (rIdxM X.K true) := by
  refine MtR.imp mt_index fun x xs H Q h => ?_
  obtain ⟨Bad, es, d, g, ok, hx, hxs, hf, q⟩ := h
  obtain ⟨v, rfl, h1⟩ := hxs.one
  obtain ⟨f1, f2, n, e1, rfl⟩ := indexD_ok hf
  obtain ⟨p, ws, rfl, h2, h3⟩ := RepD.list hx
  obtain ⟨z, h4, h5, h6⟩ := place_rep (h1.flat f1) f1 h3 f2 e1
  exact ⟨p, ws, v, n, z, rfl, rfl, h2, flat_rep (h1.flat f1) f1, flats_rep h3 f2, h4, h5, h6, q _ _ (.int _)⟩
theorem m_tindex : MtR X "tuple.index" (rIdxM X.K false) := by
  refine MtR.imp mt_tindex fun x xs H Q h => ?_
  obtain ⟨Bad, es, d, g, ok, hx, hxs, hf, q⟩ := h
  obtain ⟨v, rfl, h1⟩ := hxs.one
  obtain ⟨f1, f2, n, e1, rfl⟩ := indexD_ok hf
  obtain ⟨p, ws, rfl, h2, h3⟩ := RepD.tuple hx
  obtain ⟨z, h4, h5, h6⟩ := place_rep (h1.flat f1) f1 h3 f2 e1
  exact ⟨p, ws, v, n, z, rfl, rfl, h2.sq, flat_rep (h1.flat f1) f1, flats_rep h3 f2, h4, h5, h6, q _ _ (.int _)⟩
end
end Tr


namespace Tr
open PySem L2
open PySem.Spec PyProof.Rows

inductive RepAs (K : PySem.W.Frag) (Bad : Addr → Prop) (H : Hp) (ρ : List Addr) : List V → List A → Prop
  | nil : RepAs K Bad H ρ [] []
  | cons {v : V} {vs : List V} {a : A} {as : List A} : RepA K Bad H ρ v a → RepAs K Bad H ρ vs as → RepAs K Bad H ρ (v :: vs) (a :: as)
inductive RepBs (K : PySem.W.Frag) (Bad : Addr → Prop) (H : Hp) (ρ : List Addr) : List V → List A → Prop
  | nil : RepBs K Bad H ρ [] []
  | cons {v : V} {vs : List V} {a : A} {as : List A} : RepB K Bad H ρ v a → RepBs K Bad H ρ vs as → RepBs K Bad H ρ (v :: vs) (a :: as)

/-- what the i-th def promises: it gives what the evaluator gives -/
def spF (G : Gam) (i : Nat) : Sp := fun vs H Q _ => ∃ (Bad : Addr → Prop) (ρ : List Addr) (S : Store) (as : List A) (a : A) (S' : Store),
  BadOk Bad H ∧ (∀ p ∈ ρ, Bad p) ∧ ρ.Nodup ∧ Cells G.K Bad H ρ S ∧ RepAs G.K Bad H ρ vs as ∧ G.C i as S = .ok a S' ∧
  ∀ v H', Ext (· ∈ ρ) H H' → Cells G.K Bad H' ρ S' → RepA G.K Bad H' ρ v a → (G.fr i = true → ∀ ds, a = .val (.list ds) → NewAt G.K Bad H H' ρ S' v ds) → Q v H'

structure XOk (X : Cx) (G : Gam) (c : Ctx) : Prop where
  N : X.N = c.N
  nd : c.N.Nodup
  sc : X.env.scope = c.sc
  fn : ∀ x, c.fn x = true → X.fn x = true
  W : c.W = G.W
  calm : X.calm = true
  K : X.K = G.K
  room : Room G.n X.A
  gu : X.A.guards = some []
  fns : ∀ (i : Nat) (x : Str) (np : Nat), c.fns.lookup i = some (x, np) → ∃ f fd ps, X.mg x = some (.ref f) ∧ PySem.W.keepIn X.K (.ref f) = true ∧ Binds X.K fd ps [] ∧ FnG X.prog X.w X.K X.mg X.base G.n f fd ps (spF G i)
  cons : ∀ (x : Str) (d : PyData), c.cons.lookup x = some d → ∃ u v, X.mg x = some u ∧ RelV v u ∧ ∀ Bad H, Rep G.K Bad H v d
  free : ∀ x ∈ bltNames, X.mg x = none

/-- an item of a walk: a datum, or a pair that is taken apart at once -/
inductive RepI (K : PySem.W.Frag) (Bad : Addr → Prop) (H : Hp) (v : V) : PyData → Prop
  | of {d : PyData} : Rep K Bad H v d → RepI K Bad H v d
  | tup {p : Addr} {xs : List V} {ds : List PyData} : v = .ref p → SqT K H p xs → 2 ≤ ds.length → Reps K Bad H xs ds → RepI K Bad H v (.tuple ds)
/-- a walk over data: it goes as long as nothing but what is in M0, or is new, has changed -/
def Wlk (K : PySem.W.Frag) (k : Bool) (M0 Bad : Addr → Prop) (H0 : Hp) (J : It) (ds : List PyData) : Prop :=
  ∃ (Gd : Hp → Prop) (Y : Nat → Hp → V → Hp → Prop), Walk J ds.length Gd Y ∧
    (∀ M H, (∀ a, M a → M0 a ∨ H0 a = none) → Ext M H0 H → Gd H) ∧
    ∀ M Bad' H i x H', (∀ a, M a → M0 a ∨ H0 a = none) → Ext M H0 H → (∀ a, Bad' a → Bad a ∨ H0 a = none) → BadOk Bad' H → i < ds.length → Y i H x H' →
      New H H' ∧ ∃ d, ds[i]? = some d ∧ RepI K Bad' H' x d ∧ (k = false → Rep K Bad' H' x d)
def ownEx : Ex → Bool
  | .own _ => true
  | _ => false
theorem ownEx_no {e : Ex} (h : ownEx e = false) (i : Nat) : e ≠ .own i := fun z => by rw [z] at h; cases h
def tI (G : Gam) (k : Bool) (e : Ex) : TI := fun σ H R => ∃ wd env S a S' ds, SR G.K G.W wd σ H env S ∧ evalE G.C e env S = .ok a S' ∧ itemsA a = some ds ∧
  ∀ J H', Ext (· ∈ wd.ρ) H H' → Cells G.K (BadOf G.W wd σ env) H' wd.ρ S' → Wlk G.K k (fun p => p ∈ wd.ρ ∨ (BadOf G.W wd σ env p ∧ ∀ i, e = .own i → ¬ OwnAt G.W σ env i p)) (BadOf G.W wd σ env) H' J ds → R J H'

structure Sound (G : Gam) (e' : Ex) : Prop where
  val : ∀ (X : Cx) (c : Ctx) (e : Expr), XOk X G c → chkE c .val e' e = true → PE X e (tE G e')
  bor : ∀ (X : Cx) (c : Ctx) (e : Expr), XOk X G c → chkE c .bor e' e = true → PE X e (tB G e')
  tst : ∀ (X : Cx) (c : Ctx) (e : Expr), XOk X G c → chkE c .val e' e = true → PT X e (tT G e')
  wlk : ∀ (X : Cx) (c : Ctx) (e tg : Expr), XOk X G c → chkE c (.walk (isTuple tg)) e' e = true → PI X tg e (tI G (isTuple tg) e')

section
variable {X : Cx} {G : Gam} {c : Ctx} {e : Expr} {e' : Ex}
theorem XOk.look (o : XOk X G c) {i : Nat} {x : Str} (h : nmB c i x = true) : X.N[i]? = some x ∧ Vis X.env.scope x ∧ (x == ("__debug__" : Str)) = false ∧ (x == ("__classdict__" : Str)) = false := by
  unfold nmB at h
  simp only [Bool.and_eq_true, decide_eq_true_eq, Bool.not_eq_true'] at h
  obtain ⟨h1, h2, h3, h4⟩ := h
  refine ⟨by rw [o.N]; exact h1, ?_, h3, h4⟩
  rw [o.sc]
  unfold Vis
  split at h2
  · exact .inl (by assumption)
  · exact .inr (.inl (by assumption))
  · exact .inr (.inr (by assumption))
  · cases h2
theorem XOk.gl (o : XOk X G c) {x : Str} (h : glB c x = true) : Gl X x ∧ (x == ("__debug__" : Str)) = false := by
  unfold glB at h
  simp only [Bool.and_eq_true, decide_eq_true_eq, Bool.not_eq_true'] at h
  refine ⟨?_, h.2⟩
  show X.env.scope.names.lookup x = _
  rw [o.sc]
  exact h.1

theorem bor_of (h : PE X e (tE G e')) : PE X e (tB G e') := PE.imp h fun σ H Q ⟨wd, env, S, a, S', I, ev, q⟩ => ⟨wd, env, S, a, S', I, ev, fun v H' p => q v H' p.b⟩
theorem isTrue_of (h : plainT e = true) {env : Env} (whole : Sem Value) : isTrue e env whole = (do let v ← whole; standAt e.pos; holding [v] (truthy v)) := by
  cases e <;> first
    | rfl
    | (cases h; done)
    | (rename_i op x p; cases op <;> first | rfl | (cases h; done))
theorem tst_of (h : PE X e (tE G e')) (hp : plainT e = true) : PT X e (tT G e') := by
  refine PT.imp (pt_val h (fun _ => isTrue_of hp _)) fun σ H Q ⟨wd, env, S, b, S', I, ev, q⟩ => ⟨wd, env, S, _, S', I, ev, fun v H' p => ?_⟩
  cases p.rep
  exact ⟨b, rfl, q H' p.ext p.cells⟩

theorem wlk_list {K : PySem.W.Frag} {k : Bool} {M0 Bad : Addr → Prop} {H0 : Hp} {a : Addr} {xs : List V} {ds : List PyData} (ok : BadOk Bad H0) (h0 : ∀ a, M0 a → Bad a) (hs : ∀ M H, (∀ a, M a → M0 a ∨ H0 a = none) → Ext M H0 H → SqL K H a xs) (hr : Reps K Bad H0 xs ds) : Wlk K k M0 Bad H0 (Itl K a) ds := by
  refine ⟨fun H => SqL K H a xs, YAt xs, by rw [← hr.length]; exact walk_list, hs, fun M Bad' H i x H' hM e hb ok' hi y => ?_⟩
  obtain ⟨rfl, y⟩ := y
  obtain ⟨d, h1, h2⟩ := hr.getV y
  exact (fun q => ⟨.inl rfl, d, h1, .of q, fun _ => q⟩) (h2.ext ok (fun a m => (hM a m).imp (h0 a) id) e hb)
theorem wlk_tup {K : PySem.W.Frag} {k : Bool} {M0 Bad : Addr → Prop} {H0 : Hp} {a : Addr} {xs : List V} {ds : List PyData} (ok : BadOk Bad H0) (h0 : ∀ a, M0 a → Bad a) (hs : SqF K H0 a xs) (hr : Reps K Bad H0 xs ds) : Wlk K k M0 Bad H0 (Itt K a) ds := by
  refine ⟨fun H => SqT K H a xs, YAt xs, by rw [← hr.length]; exact walk_tup, fun M H hM e => (SqF.ext ok (fun a m => (hM a m).imp (h0 a) id) e hs).sq, fun M Bad' H i x H' hM e hb ok' hi y => ?_⟩
  obtain ⟨rfl, y⟩ := y
  obtain ⟨d, h1, h2⟩ := hr.getV y
  exact (fun q => ⟨.inl rfl, d, h1, .of q, fun _ => q⟩) (h2.ext ok (fun a m => (hM a m).imp (h0 a) id) e hb)
theorem wlk_str {K : PySem.W.Frag} {k : Bool} {M0 Bad : Addr → Prop} {H0 : Hp} {z : Str} : Wlk K k M0 Bad H0 (Its z) (z.cps.toList.map fun c => .str ⟨#[c]⟩) := by
  refine ⟨fun _ => True, _, by rw [List.length_map, Array.length_toList]; exact walk_str, fun _ _ _ _ => trivial, fun M Bad' H i x H' hM e hb ok' hi y => ?_⟩
  obtain ⟨rfl, k, h1, rfl⟩ := y
  refine ⟨.inl rfl, _, ?_, .of (.str _), fun _ => .str _⟩
  rw [List.getElem?_map, Array.getElem?_toList, h1]
  rfl
theorem rangeD_len : ∀ (lo : Int) (n : Nat), (rangeD lo n).length = n
  | _, 0 => rfl
  | lo, n + 1 => congrArg (· + 1) (rangeD_len (lo + 1) n)
theorem rangeD_at : ∀ (lo : Int) (n i : Nat), i < n → (rangeD lo n)[i]? = some (.int (lo + i))
  | _, 0, _, h => absurd h (Nat.not_lt_zero _)
  | lo, n + 1, 0, _ => by simp [rangeD]
  | lo, n + 1, i + 1, h => by
    show (rangeD (lo + 1) n)[i]? = _
    rw [rangeD_at (lo + 1) n i (by omega)]
    congr 2
    omega
theorem wlk_range {K : PySem.W.Frag} {k : Bool} {M0 Bad : Addr → Prop} {H0 : Hp} {lo : Int} {n : Nat} : Wlk K k M0 Bad H0 (Itr lo n) (rangeD lo n) := by
  refine ⟨fun _ => True, _, by rw [rangeD_len]; exact walk_range, fun _ _ _ _ => trivial, fun M Bad' H i x H' hM e hb ok' hi y => ?_⟩
  obtain ⟨rfl, rfl⟩ := y
  rw [rangeD_len] at hi
  exact ⟨.inl rfl, _, rangeD_at lo n i hi, .of (.int _), fun _ => .int _⟩
theorem pairs_len : ∀ (k : Nat) (ds : List PyData), (pairsFrom k ds).length = ds.length
  | _, [] => rfl
  | k, _ :: r => congrArg (· + 1) (pairs_len (k + 1) r)
theorem pairs_at : ∀ (k : Nat) (ds : List PyData) (i : Nat) (d : PyData), ds[i]? = some d → (pairsFrom k ds)[i]? = some (.tuple [.int ((k + i : Nat) : Int), d])
  | _, [], _, _, h => by simp at h
  | k, e :: r, 0, d, h => by
    simp at h
    subst h
    simp [pairsFrom]
  | k, _ :: r, i + 1, d, h => by
    show (pairsFrom (k + 1) r)[i]? = _
    rw [pairs_at (k + 1) r i d (by simpa using h)]
    congr 5
    omega
theorem new_pair {K : PySem.W.Frag} {Bad : Addr → Prop} {H : Hp} {T : Addr} {x y : V} {d e : PyData} (ok : BadOk Bad H) (h : H T = none) (hx : Rep K Bad H x d) (hy : Rep K Bad H y e) : New H (upd H T (.tup [x, y])) ∧ RepI K Bad (upd H T (.tup [x, y])) (.ref T) (.tuple [d, e]) :=
  ⟨.inr ⟨T, _, h, rfl⟩, .tup rfl (.inl (.inl upd_same)) (Nat.le_refl 2) (Reps.ext (M := fun _ => False) ok (fun _ q => q.elim) (.new h) (fun a q => .inl q) (.cons hx (.cons hy .nil)))⟩
theorem wlk_enum {K : PySem.W.Frag} {M0 Bad : Addr → Prop} {H0 : Hp} {a : Addr} {xs : List V} {ds : List PyData} (ok : BadOk Bad H0) (h0 : ∀ a, M0 a → Bad a) (hs : SqB K Bad H0 a xs) (hr : Reps K Bad H0 xs ds) : Wlk K true M0 Bad H0 (Ite K a) (pairsFrom 0 ds) := by
  refine ⟨fun H => SqL K H a xs, _, by rw [pairs_len, ← hr.length]; exact walk_enum, fun M H hM e => (hs.ext (Bad' := Bad) (fun a m => (hM a m).imp (h0 a) id) e fun a q => .inl q).sq, fun M Bad' H i x H' hM e hb ok' hi y => ?_⟩
  obtain ⟨T, u, v, rfl, h1, rfl, h2, h3⟩ := y
  cases h2
  obtain ⟨d, q1, q2⟩ := hr.getV h3
  have q3 := new_pair ok' h1 (Rep.int (i : Nat)) (q2.ext ok (fun a m => (hM a m).imp (h0 a) id) e hb)
  refine ⟨q3.1, _, ?_, q3.2, fun z => nomatch z⟩
  have q4 := pairs_at 0 ds i d q1
  rw [Nat.zero_add] at q4
  exact q4
theorem zip_len : ∀ (ds es : List PyData), (zipD ds es).length = min ds.length es.length
  | [], _ => by simp [zipD]
  | _ :: _, [] => by simp [zipD]
  | _ :: r, _ :: s => by
    show (zipD r s).length + 1 = _
    rw [zip_len r s, List.length_cons, List.length_cons]
    omega
theorem zip_at : ∀ (ds es : List PyData) (i : Nat) (d e : PyData), ds[i]? = some d → es[i]? = some e → (zipD ds es)[i]? = some (.tuple [d, e])
  | [], _, _, _, _, h, _ => by simp at h
  | _ :: _, [], _, _, _, _, h => by simp at h
  | _ :: _, _ :: _, 0, _, _, h, g => by
    simp at h g
    subst h g
    rfl
  | _ :: r, _ :: s, i + 1, d, e, h, g => by
    show (zipD r s)[i]? = _
    exact zip_at r s i d e (by simpa using h) (by simpa using g)
theorem wlk_zip {K : PySem.W.Frag} {M0 Bad : Addr → Prop} {H0 : Hp} {a b : Addr} {xs ys : List V} {ds es : List PyData} (ok : BadOk Bad H0) (h0 : ∀ a, M0 a → Bad a) (hs : SqB K Bad H0 a xs) (hs' : SqB K Bad H0 b ys) (hr : Reps K Bad H0 xs ds) (hr' : Reps K Bad H0 ys es) :
    Wlk K true M0 Bad H0 (Itz K a b) (zipD ds es) := by
  refine ⟨fun H => SqL K H a xs ∧ SqL K H b ys, _, walk_zip (by rw [zip_len, hr.length, hr'.length]), fun M H hM e => ⟨(hs.ext (Bad' := Bad) (fun a m => (hM a m).imp (h0 a) id) e fun a q => .inl q).sq, (hs'.ext (Bad' := Bad) (fun a m => (hM a m).imp (h0 a) id) e fun a q => .inl q).sq⟩, fun M Bad' H i x H' hM e hb ok' hi y => ?_⟩
  obtain ⟨T, u, v, rfl, h1, rfl, h2, h3⟩ := y
  obtain ⟨d, q1, q2⟩ := hr.getV h2
  obtain ⟨d', q1', q2'⟩ := hr'.getV h3
  have q3 := new_pair ok' h1 (q2.ext ok (fun a m => (hM a m).imp (h0 a) id) e hb) (q2'.ext ok (fun a m => (hM a m).imp (h0 a) id) e hb)
  exact ⟨q3.1, _, zip_at ds es i d d' q1 q1', q3.2, fun z => nomatch z⟩

/-- a list, a tuple or a text is walked -/
def iSeq (K : PySem.W.Frag) (te : TE) : TI := fun σ H R => te σ H fun x H1 => (∃ a xs, x = .ref a ∧ SqL K H1 a xs ∧ R (Itl K a) H1) ∨ (∃ a xs, x = .ref a ∧ SqT K H1 a xs ∧ R (Itt K a) H1) ∨ ∃ z, x = .str z ∧ R (Its z) H1
theorem pi_seq {tg : Expr} {te : TE} (he : PE X e te) : PI X tg e (iSeq X.K te) := by
  refine ⟨fun pins s σ H R I h => thn (he.run pins s σ H _ I h) fun v s1 ⟨x, H1, I1, r1, q1⟩ => ?_⟩
  have one : ∀ b ∈ [s1.heap.objs.size], FpOk X pins H1 b := fun b hb => by
    have z : b = s1.heap.objs.size := by simpa using hb
    rw [z]
    exact I1.fpOk (Nat.le_refl _) (I1.hok.fresh (Nat.le_refl _))
  rcases q1 with ⟨a, xs, rfl, hq, q⟩ | ⟨a, xs, rfl, hq, q⟩ | ⟨z, rfl, q⟩
  · cases r1
    obtain ⟨its, rv, p, _⟩ := I1.list hq
    exact wpAny_pyIter_list p.isList ⟨_, [s1.heap.objs.size], _, _, H1, rfl, I1.kept (t' := s1.toks) fun b o w => Heap.get?_push_of_some _ w, turn_list a _, ⟨_, Heap.get?_push_size _ rfl, rfl, rfl⟩, one, q⟩
  · cases r1
    obtain ⟨its, rv, p, _⟩ := I1.tuple hq
    exact wpAny_pyIter_tuple (show s1.heap.IsTuple a its.toArray from p) ⟨_, [s1.heap.objs.size], _, _, H1, rfl, I1.kept (t' := s1.toks) fun b o w => Heap.get?_push_of_some _ w, turn_tuple a _, ⟨_, Heap.get?_push_size _ rfl, rfl, rfl⟩, one, q⟩
  · obtain ⟨t, rfl⟩ := r1
    cases ha : z.cps.all (· < 128)
    · exact wpAny_pyIter_wide ha (pi_one (tk := s1.toks) I1 _ (turn_str _ z t "str_iterator" (.inr rfl)) ⟨_, Heap.get?_push_size _ rfl, rfl, rfl⟩ q)
    · exact wpAny_pyIter_ascii ha (pi_one (tk := s1.toks) I1 _ (turn_str _ z t "str_ascii_iterator" (.inl rfl)) ⟨_, Heap.get?_push_size _ rfl, rfl, rfl⟩ q)
theorem PI.imp {tg : Expr} {t t' : TI} (h : PI X tg e t) (i : ∀ σ H R, t' σ H R → t σ H R) : PI X tg e t' := ⟨fun pins s σ H R I q => h.run pins s σ H R I (i σ H R q)⟩
theorem wlk_of {tg : Expr} (o : XOk X G c) (h : PE X e (tE G e')) (hn : ownEx e' = false) : PI X tg e (tI G (isTuple tg) e') := by
  refine PI.imp (pi_seq h) fun σ H R ⟨wd, env, S, a, S', ds, I, ev, ei, q⟩ => ⟨wd, env, S, a, S', I, ev, fun v H' p => ?_⟩
  have I' := I.next p.ext p.cells
  rw [o.K]
  cases a with
  | ref n => cases ei
  | val d =>
    have r := p.rep
    have h0 : ∀ a, (a ∈ wd.ρ ∨ (BadOf G.W wd σ env a ∧ ∀ i, e' = .own i → ¬ OwnAt G.W σ env i a)) → BadOf G.W wd σ env a := fun a z => z.elim (fun z => .inr (.inl z)) (·.1)
    cases d with
    | list xs =>
      cases ei
      cases r with
      | lst h1 h2 => exact .inl ⟨_, _, rfl, h1.sq, q _ _ p.ext p.cells (wlk_list I'.badOk h0 (fun M H2 hM e2 => (h1.ext (Bad' := BadOf G.W wd σ env) (fun a m => (hM a m).imp (h0 a) id) e2 fun a z => .inl z).sq) h2)⟩
    | tuple xs =>
      cases ei
      cases r with
      | tup h1 h2 => exact .inr (.inl ⟨_, _, rfl, h1.sq, q _ _ p.ext p.cells (wlk_tup I'.badOk h0 h1 h2)⟩)
    | str z =>
      cases ei
      cases r
      exact .inr (.inr ⟨_, rfl, q _ _ p.ext p.cells wlk_str⟩)
    | _ => cases ei
/-- a form whose look does not hang on the use -/
theorem Sound.of (hn : ownEx e' = false) (hm : ∀ c m e, chkE c m e' e = true → chkE c .val e' e = true) (hv : ∀ (X : Cx) (c : Ctx) (e : Expr), XOk X G c → chkE c .val e' e = true → PE X e (tE G e'))
    (ht : ∀ (X : Cx) (c : Ctx) (e : Expr), XOk X G c → chkE c .val e' e = true → PT X e (tT G e')) : Sound G e' :=
  ⟨hv, fun X c e o h => bor_of (hv X c e o (hm c _ e h)), ht, fun X c e tg o h => wlk_of o (hv X c e o (hm c _ e h)) hn⟩
theorem Sound.plain (hn : ownEx e' = false) (hm : ∀ c m e, chkE c m e' e = true → chkE c .val e' e = true) (hp : ∀ c e, chkE c .val e' e = true → plainT e = true)
    (hv : ∀ (X : Cx) (c : Ctx) (e : Expr), XOk X G c → chkE c .val e' e = true → PE X e (tE G e')) : Sound G e' :=
  .of hn hm hv fun X c e o h => tst_of (hv X c e o h) (hp c e h)
end
end Tr


namespace Tr
open PySem L2
open PySem.Spec PyProof.Rows
section
variable {X : Cx} {G : Gam} {c : Ctx}
theorem ba {a b : Bool} (h : (a && b) = true) : a = true ∧ b = true := Bool.and_eq_true_iff.mp h
theorem de {p : Prop} [Decidable p] (h : decide p = true) : p := of_decide_eq_true h

/-- a name that is read: it holds what it holds -/
theorem getV_some {env : TEnv} {i : Nat} {a : A} (h : getV env i = some a) : env[i]? = some (some a) := by
  unfold getV at h
  split at h
  · rename_i b e
    cases h
    exact e
  · cases h
theorem post_same {wd : Wd} {σ : L2.St} {env : TEnv} {H : Hp} {S : Store} {a : A} {v : V} {fr : Bool} (I : SR G.K G.W wd σ H env S) (r : RepA G.K (BadOf G.W wd σ env) H wd.ρ v a) (hf : fr = true → ∀ ds, a ≠ .val (.list ds)) : Post G wd σ env fr H a S v H :=
  ⟨.refl, I.cells, r, fun f ds e => absurd e (hf f ds)⟩

theorem Sound.var (i : Nat) : Sound G (.var i) := by
  refine .plain rfl (fun c m e h => h) (fun c e h => ?_) fun X c e o h => ?_
  · cases e <;> first | rfl | (cases h; done)
  · cases e with
    | Name x pos =>
      obtain ⟨h1, h2⟩ := ba h
      obtain ⟨q1, q2, q3, q4⟩ := o.look h1
      refine PE.imp (pe_var q1 q2 q3 q4) fun σ H Q ⟨wd, env, S, a, S', I, ev, q⟩ => ?_
      obtain ⟨e1, rfl⟩ := R.lift_ok ev
      obtain ⟨v, w1, w2⟩ := I.var i a (getV_some e1)
      refine ⟨v, w1, q v H ?_⟩
      rcases w2 with ⟨w2, hn⟩ | ⟨hw, _⟩
      · exact post_same I w2 fun f => nomatch f
      · rw [o.W] at h2
        simp [hw] at h2
    | _ => cases h
theorem Sound.own (i : Nat) : Sound G (.own i) := by
  have bor : ∀ (X : Cx) (c : Ctx) (x : Str) (pos : Pos), XOk X G c → nmB c i x = true → PE X (.Name x pos) (tB G (.own i)) := fun X c x pos o h => by
    obtain ⟨q1, q2, q3, q4⟩ := o.look h
    refine PE.imp (pe_var q1 q2 q3 q4) fun σ H Q ⟨wd, env, S, a, S', I, ev, q⟩ => ?_
    obtain ⟨e1, rfl⟩ := R.lift_ok ev
    obtain ⟨v, w1, w2⟩ := I.var i a (getV_some e1)
    refine ⟨v, w1, q v H ⟨.refl, I.cells, ?_⟩⟩
    rcases w2 with ⟨w2, hn⟩ | ⟨hw, ds, p, xs, rfl, rfl, h1, h2⟩
    · exact .inl w2
    · exact .inr ⟨p, xs, ds, rfl, rfl, h1, I.ownρ p ⟨i, hw, ⟨ds, getV_some e1⟩, w1⟩, h2⟩
  refine ⟨fun X c e o h => ?_, fun X c e o h => ?_, fun X c e o h => ?_, fun X c e tg o h => ?_⟩
  · cases e <;> first | (cases h; done) | (exact absurd (ba h).2 Bool.false_ne_true)
  · cases e <;> first | (cases h; done) | exact bor X c _ _ o (ba h).1
  · cases e <;> first | (cases h; done) | (exact absurd (ba h).2 Bool.false_ne_true)
  · cases e with
    | Name x pos =>
      obtain ⟨q1, q2, q3, q4⟩ := o.look (ba h).1
      refine PI.imp (pi_seq (pe_var q1 q2 q3 q4)) fun σ H RR ⟨wd, env, S, a, S', ds, I, ev, ei, q⟩ => ?_
      obtain ⟨e1, rfl⟩ := R.lift_ok ev
      obtain ⟨v, w1, w2⟩ := I.var i a (getV_some e1)
      refine ⟨v, w1, ?_⟩
      rw [o.K]
      have hb : ∀ a, (a ∈ wd.ρ ∨ (BadOf G.W wd σ env a ∧ ∀ j, Ex.own i = .own j → ¬ OwnAt G.W σ env j a)) → BadOf G.W wd σ env a := fun a z => z.elim (fun z => .inr (.inl z)) (·.1)
      rcases w2 with ⟨r, hn⟩ | ⟨hw, ds', p', xs, rfl, rfl, h1, h3⟩
      · cases a with
        | ref n => cases ei
        | val d =>
          cases d with
          | list xs =>
            cases ei
            cases r with
            | lst h1 h2 => exact .inl ⟨_, _, rfl, h1.sq, q _ _ .refl I.cells (wlk_list I.badOk hb (fun M H2 hM e2 => (h1.ext (Bad' := BadOf G.W wd σ env) (fun a m => (hM a m).imp (hb a) id) e2 fun a z => .inl z).sq) h2)⟩
          | tuple xs =>
            cases ei
            cases r with
            | tup h1 h2 => exact .inr (.inl ⟨_, _, rfl, h1.sq, q _ _ .refl I.cells (wlk_tup I.badOk hb h1 h2)⟩)
          | str z =>
            cases ei
            cases r
            exact .inr (.inr ⟨_, rfl, q _ _ .refl I.cells wlk_str⟩)
          | _ => cases ei
      · have oi : OwnAt G.W σ env i p' := ⟨hw, ⟨ds', getV_some e1⟩, w1⟩
        cases ei
        refine .inl ⟨p', xs, rfl, .inl (.inl h1), q _ _ .refl I.cells (wlk_list I.badOk hb (fun M H2 hM e2 => .inl (.inl (e2.keep _ _ h1 fun m => ?_))) h3)⟩
        rcases hM _ m with (z | z) | z
        · exact I.ownρ p' ⟨i, oi⟩ z
        · exact z.2 i rfl oi
        · rw [h1] at z; cases z
    | _ => cases h
theorem Sound.cell (i : Nat) : Sound G (.cell i) := by
  refine .plain rfl (fun c m e h => h) (fun c e h => ?_) fun X c e o h => ?_
  · cases e <;> first | rfl | (cases h; done)
  · cases e with
    | Name x pos =>
      obtain ⟨q1, q2, q3, q4⟩ := o.look h
      refine PE.imp (pe_var q1 q2 q3 q4) fun σ H Q ⟨wd, env, S, a, S', I, ev, q⟩ => ?_
      simp only [evalE] at ev
      split at ev
      · rename_i n e1
        cases ev
        obtain ⟨v, w1, w2⟩ := I.var i _ (getV_some e1)
        refine ⟨v, w1, q v H ?_⟩
        rcases w2 with ⟨w2, hn⟩ | ⟨hw, ds, p, xs, e2, _⟩
        · exact post_same I w2 fun f => nomatch f
        · cases e2
      · cases ev
    | _ => cases h
theorem const_rep {K : PySem.W.Frag} {Bad : Addr → Prop} {H : Hp} {k : Const} {d : PyData} {j : Nat} {pos : Pos} (h : constB k d = true) : ∃ v, PE X (.Constant k j pos) (tC v) ∧ Rep K Bad H v d ∧ ∀ ds, d ≠ .list ds := by
  cases k <;> cases d <;> first | (cases h; done) | skip
  · exact ⟨_, pe_non, .non, fun _ z => nomatch z⟩
  · cases eq_of_beq h
    exact ⟨_, pe_bl, .bl _, fun _ z => nomatch z⟩
  · cases eq_of_beq h
    exact ⟨_, pe_int, .int _, fun _ z => nomatch z⟩
  · cases eq_of_beq h
    exact ⟨_, pe_str, .str _, fun _ z => nomatch z⟩
theorem Sound.const (d : PyData) : Sound G (.const d) := by
  refine .plain rfl (fun c m e h => h) (fun c e h => ?_) fun X c e o h => ?_
  · cases e <;> first | rfl | (cases h; done)
  · cases e with
    | Constant k j pos =>
      refine ⟨fun pins s σ H Q J hq => ?_⟩
      obtain ⟨wd, env, S, a, S', I, ev, q⟩ := hq
      cases ev
      obtain ⟨v, p, r, hl⟩ := const_rep (X := X) (K := G.K) (Bad := BadOf G.W wd σ env) (H := H) (j := j) (pos := pos) h
      exact p.run pins s σ H Q J (q v H (post_same I r fun _ ds z => hl ds (by injection z)))
    | _ => cases h
theorem Sound.glob (x : Str) (d : PyData) : Sound G (.glob x d) := by
  refine .plain rfl (fun c m e h => h) (fun c e h => ?_) fun X c e o h => ?_
  · cases e <;> first | rfl | (cases h; done)
  · cases e with
    | Name y pos =>
      obtain ⟨h1, h2⟩ := ba h
      obtain ⟨h2, h3⟩ := ba h2
      have e1 := de h1
      subst e1
      obtain ⟨g1, g2⟩ := o.gl h2
      split at h3
      · rename_i d' e2
        have e3 := sameD_eq h3
        subst e3
        obtain ⟨u, v, m, r, rp⟩ := o.cons x d' e2
        refine PE.imp (pe_glob g1 m r g2) fun σ H Q ⟨wd, env, S, a, S', I, ev, q⟩ => ?_
        cases ev
        exact q v H (post_same I (rp _ _) fun f => nomatch f)
      · cases h3
    | _ => cases h

def tEs (G : Gam) (es : List Ex) : TA := fun σ H Q => ∃ wd env S as S', SR G.K G.W wd σ H env S ∧ evalEs G.C es env S = .ok as S' ∧
  ∀ vs H', Ext (· ∈ wd.ρ) H H' → Cells G.K (BadOf G.W wd σ env) H' wd.ρ S' → RepAs G.K (BadOf G.W wd σ env) H' wd.ρ vs as → Q vs H'
def tBs (G : Gam) (es : List Ex) : TA := fun σ H Q => ∃ wd env S as S', SR G.K G.W wd σ H env S ∧ evalEs G.C es env S = .ok as S' ∧
  ∀ vs H', Ext (· ∈ wd.ρ) H H' → Cells G.K (BadOf G.W wd σ env) H' wd.ρ S' → RepBs G.K (BadOf G.W wd σ env) H' wd.ρ vs as → Q vs H'
theorem PA.imp {es : List Expr} {t t' : TA} (h : PA X es t) (i : ∀ σ H Q, t' σ H Q → t σ H Q) : PA X es t' := ⟨fun pos pins s σ H Q I q => h.run pos pins s σ H Q I (i σ H Q q)⟩
theorem evalEs_cons {C : Calls} {e : Ex} {es : List Ex} {env : TEnv} {S S' : Store} {as : List A} (h : evalEs C (e :: es) env S = .ok as S') : ∃ a S1 bs, evalE C e env S = .ok a S1 ∧ evalEs C es env S1 = .ok bs S' ∧ as = a :: bs := by
  obtain ⟨a, S1, e1, h⟩ := R.bind_ok h
  obtain ⟨bs, S2, e2, h⟩ := R.bind_ok h
  cases h
  exact ⟨a, S1, bs, e1, e2, rfl⟩
theorem vals_of {es' : List Ex} (hs : ∀ e' ∈ es', Sound G e') : ∀ {X : Cx} {c : Ctx} {es : List Expr}, XOk X G c → chkEs c .val es' es = true → es.all noStar = true → PA X es (tEs G es') := by
  induction es' with
  | nil =>
    intro X c es o h _
    cases es with
    | nil =>
      refine PA.imp pa_nil fun σ H Q ⟨wd, env, S, as, S', I, ev, q⟩ => ?_
      cases ev
      exact q [] H .refl I.cells .nil
    | cons _ _ => cases h
  | cons e' es' ih =>
    intro X c es o h hst
    cases es with
    | nil => cases h
    | cons e es =>
      obtain ⟨h1, h2⟩ := ba h
      rw [List.all_cons] at hst
      obtain ⟨s1, s2⟩ := ba hst
      refine PA.imp (pa_cons ((hs e' List.mem_cons_self).val X c e o h1) (ih (fun f hf => hs f (List.mem_cons_of_mem _ hf)) o h2 s2) (star1 s1)) fun σ H Q ⟨wd, env, S, as, S', I, ev, q⟩ => ?_
      obtain ⟨a, S1, bs, e1, e2, rfl⟩ := evalEs_cons ev
      refine ⟨wd, env, S, a, S1, I, e1, fun v H1 p => ?_⟩
      have I1 := I.next p.ext p.cells
      refine ⟨wd, env, S1, bs, S', I1, e2, fun vs H2 x2 c2 r2 => q _ _ (p.ext.trans x2) c2 (.cons (p.rep.next I1 x2) r2)⟩
theorem bors_of {es' : List Ex} (hs : ∀ e' ∈ es', Sound G e') : ∀ {X : Cx} {c : Ctx} {es : List Expr}, XOk X G c → chkEs c .bor es' es = true → es.all noStar = true → PA X es (tBs G es') := by
  induction es' with
  | nil =>
    intro X c es o h _
    cases es with
    | nil =>
      refine PA.imp pa_nil fun σ H Q ⟨wd, env, S, as, S', I, ev, q⟩ => ?_
      cases ev
      exact q [] H .refl I.cells .nil
    | cons _ _ => cases h
  | cons e' es' ih =>
    intro X c es o h hst
    cases es with
    | nil => cases h
    | cons e es =>
      obtain ⟨h1, h2⟩ := ba h
      rw [List.all_cons] at hst
      obtain ⟨s1, s2⟩ := ba hst
      refine PA.imp (pa_cons ((hs e' List.mem_cons_self).bor X c e o h1) (ih (fun f hf => hs f (List.mem_cons_of_mem _ hf)) o h2 s2) (star1 s1)) fun σ H Q ⟨wd, env, S, as, S', I, ev, q⟩ => ?_
      obtain ⟨a, S1, bs, e1, e2, rfl⟩ := evalEs_cons ev
      refine ⟨wd, env, S, a, S1, I, e1, fun v H1 p => ?_⟩
      have I1 := I.next p.ext p.cells
      refine ⟨wd, env, S1, bs, S', I1, e2, fun vs H2 x2 c2 r2 => q _ _ (p.ext.trans x2) c2 (.cons (p.rep.next I1 x2) r2)⟩
theorem valsOf_rep {K : PySem.W.Frag} {Bad : Addr → Prop} {H : Hp} {ρ : List Addr} : ∀ {vs : List V} {as : List A} {ds : List PyData}, RepAs K Bad H ρ vs as → valsOf as = some ds → Reps K Bad H vs ds
  | _, _, _, .nil, e => by cases e; exact .nil
  | _, _, ds, .cons (a := a) h t, e => by
    cases a with
    | ref n => cases e
    | val d =>
      have e' : (valsOf _).map (d :: ·) = some ds := e
      obtain ⟨es, e1, rfl⟩ := Option.map_eq_some_iff.mp e'
      exact .cons h (valsOf_rep t e1)
theorem derefs_rep {K : PySem.W.Frag} {Bad : Addr → Prop} {H : Hp} {ρ : List Addr} {S : Store} (cs : Cells K Bad H ρ S) : ∀ {vs : List V} {as : List A} {ds : List PyData}, RepBs K Bad H ρ vs as → derefs S as = some ds → RepDs K Bad H vs ds
  | _, _, _, .nil, e => by cases e; exact .nil
  | _, _, ds, .cons (a := a) h t, e => by
    simp only [derefs] at e
    split at e
    · rename_i d e0
      obtain ⟨es, e1, rfl⟩ := Option.map_eq_some_iff.mp e
      exact .cons (h.deref cs e0) (derefs_rep cs t e1)
    · cases e
theorem Sound.tup (es : List Ex) (hs : ∀ e' ∈ es, Sound G e') : Sound G (.tup es) := by
  refine .plain rfl (fun c m e h => h) (fun c e h => ?_) fun X c e o h => ?_
  · cases e <;> first | rfl | (cases h; done)
  · cases e with
    | Tuple ts k pos =>
      obtain ⟨h1, h2⟩ := ba h
      refine PE.imp (pe_tupF (vals_of hs o h1 h2)) fun σ H Q ⟨wd, env, S, a, S', I, ev, q⟩ => ?_
      obtain ⟨as, S1, e1, ev⟩ := R.bind_ok ev
      refine ⟨wd, env, S, as, S1, I, e1, fun vs H1 x1 c1 r1 => ?_⟩
      have I1 := I.next x1 c1
      split at ev
      · rename_i ds e2
        split at ev
        · rename_i hz
          cases ev
          have r := valsOf_rep r1 e2
          exact ⟨by rw [r.length]; exact hz, fun p o' hp hd => q _ _ ((OpPost.tuple I1.badOk hp hd r).post I1 x1)⟩
        · cases ev
      · cases ev
    | _ => cases h
theorem Sound.lst (es : List Ex) (hs : ∀ e' ∈ es, Sound G e') : Sound G (.lst es) := by
  refine .plain rfl (fun c m e h => h) (fun c e h => ?_) fun X c e o h => ?_
  · cases e <;> first | rfl | (cases h; done)
  · cases e with
    | List ts pos =>
      obtain ⟨h1, h2⟩ := ba h
      refine PE.imp (pe_lst (vals_of hs o h1 h2)) fun σ H Q ⟨wd, env, S, a, S', I, ev, q⟩ => ?_
      obtain ⟨as, S1, e1, ev⟩ := R.bind_ok ev
      refine ⟨wd, env, S, as, S1, I, e1, fun vs H1 x1 c1 r1 => ?_⟩
      have I1 := I.next x1 c1
      split at ev
      · rename_i ds e2
        split at ev
        · rename_i hz
          cases ev
          have r := valsOf_rep r1 e2
          exact ⟨by rw [r.length]; exact hz, fun p hp => q _ _ ((OpPost.list I1.badOk hp r).post I1 x1)⟩
        · cases ev
      · cases ev
    | _ => cases h

/-- two borrowed values, one behind the other -/
theorem two_ok {a b : Ex} {σ : L2.St} {H : Hp} {Q : V → V → Hp → Prop} {wd : Wd} {env : TEnv} {S S1 S2 : Store} {x y : A} (I : SR G.K G.W wd σ H env S) (e1 : evalE G.C a env S = .ok x S1) (e2 : evalE G.C b env S1 = .ok y S2)
    (q : ∀ v w H2, SR G.K G.W wd σ H2 env S2 → Ext (· ∈ wd.ρ) H H2 → RepB G.K (BadOf G.W wd σ env) H2 wd.ρ v x → RepB G.K (BadOf G.W wd σ env) H2 wd.ρ w y → Q v w H2) :
    tB G a σ H fun v H1 => tB G b σ H1 fun w H2 => Q v w H2 := by
  refine ⟨wd, env, S, x, S1, I, e1, fun v H1 p => ?_⟩
  have I1 := I.next p.ext p.cells
  refine ⟨wd, env, S1, y, S2, I1, e2, fun w H2 p2 => ?_⟩
  exact q v w H2 (I1.next p2.ext p2.cells) (p.ext.trans p2.ext) (p.rep.next I1 p2.ext) p2.rep
theorem Sound.bin (op : BOp) (a b : Ex) (ha : Sound G a) (hb : Sound G b) : Sound G (.bin op a b) := by
  refine .plain rfl (fun c m e h => h) (fun c e h => ?_) fun X c e o h => ?_
  · cases e <;> first | rfl | (cases h; done)
  · cases e with
    | BinOp l op' r pos =>
      obtain ⟨h1, h2⟩ := ba h
      obtain ⟨h2, h3⟩ := ba h2
      have e1 := de h1
      subst e1
      refine PE.imp (pe_op (op_bin op) (ha.bor X c l o h2) (hb.bor X c r o h3)) fun σ H Q ⟨wd, env, S, z, S', I, ev, q⟩ => ?_
      obtain ⟨x, S1, e1, ev⟩ := R.bind_ok ev
      obtain ⟨y, S2, e2, ev⟩ := R.bind_ok ev
      refine two_ok I e1 e2 fun v w H2 I2 x2 r1 r2 => ?_
      split at ev
      · rename_i d e d1 d2
        obtain ⟨ew, rfl⟩ := R.lift_ok ev
        obtain ⟨g, e3, rfl⟩ := Option.map_eq_some_iff.mp ew
        rw [o.K]
        exact ⟨_, d, e, g, I2.badOk, r1.deref I2.cells d1, r2.deref I2.cells d2, e3, fun v' H' p => q _ _ (p.post I2 x2)⟩
      · cases ev
    | _ => cases h
theorem asInt_rep {K : PySem.W.Frag} {Bad : Addr → Prop} {H : Hp} {ρ : List Addr} {S : Store} {v : V} {a : A} {i : Int} (r : RepB K Bad H ρ v a) (cs : Cells K Bad H ρ S) (e : asInt S a = some i) : v = .int i := by
  unfold asInt at e
  split at e
  · rename_i j d
    cases e
    exact (r.deref cs d).int
  · cases e
theorem Sound.neg (a : Ex) (ha : Sound G a) : Sound G (.neg a) := by
  refine .plain rfl (fun c m e h => h) (fun c e h => ?_) fun X c e o h => ?_
  · cases e <;> first | rfl | (cases h; done) | (rename_i op _ _; cases op <;> first | rfl | (cases h; done))
  · cases e with
    | UnaryOp op x pos =>
      cases op <;> first | (cases h; done) | skip
      refine PE.imp (pe_un un_neg (ha.bor X c x o h)) fun σ H Q ⟨wd, env, S, z, S', I, ev, q⟩ => ?_
      obtain ⟨y, S1, e1, ev⟩ := R.bind_ok ev
      refine ⟨wd, env, S, y, S1, I, e1, fun v H1 p => ?_⟩
      split at ev
      · rename_i i ei
        cases ev
        have I1 := I.next p.ext p.cells
        exact ⟨i, asInt_rep p.rep p.cells ei, q _ _ ((OpPost.int (-i)).post I1 p.ext)⟩
      · cases ev
    | _ => cases h
theorem Sound.cmp (op : COp) (a b : Ex) (ha : Sound G a) (hb : Sound G b) : Sound G (.cmp op a b) := by
  have key : ∀ (X : Cx) (c : Ctx) (l r : Expr) (op' : CmpOp) (pos : Pos), XOk X G c → chkE c .val (.cmp op a b) (.Compare l [op'] [r] pos) = true → ∃ (h1 : op' = copOf op) (h2 : chkE c .bor a l = true) (h3 : chkE c .bor b r = true), behindInMarks op' r = false := fun X c l r op' pos o h => by
    obtain ⟨h1, h⟩ := ba h
    obtain ⟨h2, h⟩ := ba h
    obtain ⟨h3, h4⟩ := ba h
    refine ⟨de h1, h2, h3, ?_⟩
    cases r <;> first | rfl | (cases h4; done)
  have red : ∀ (X : Cx) (c : Ctx), XOk X G c → ∀ (σ : L2.St) (H : Hp) (Q : VK), tE G (.cmp op a b) σ H Q → tOp (rC X.K op) (tB G a) (tB G b) σ H Q := fun X c o σ H Q ⟨wd, env, S, z, S', I, ev, q⟩ => by
    obtain ⟨x, S1, e1, ev⟩ := R.bind_ok ev
    obtain ⟨y, S2, e2, ev⟩ := R.bind_ok ev
    refine two_ok I e1 e2 fun v w H2 I2 x2 r1 r2 => ?_
    split at ev
    · rename_i d e d1 d2
      obtain ⟨ew, rfl⟩ := R.lift_ok ev
      obtain ⟨g, e3, rfl⟩ := Option.map_eq_some_iff.mp ew
      rw [o.K]
      exact ⟨_, d, e, g, I2.badOk, r1.deref I2.cells d1, r2.deref I2.cells d2, e3, q _ _ ((OpPost.bool g).post I2 x2)⟩
    · cases ev
  refine .of rfl (fun c m e h => h) (fun X c e o h => ?_) fun X c e o h => ?_
  · cases e with
    | Compare l ops rs pos =>
      rcases ops with _ | ⟨op', _ | _⟩ <;> first | (cases h; done) | skip
      rcases rs with _ | ⟨r, _ | _⟩ <;> first | (cases h; done) | skip
      obtain ⟨h1, h2, h3, hm⟩ := key X c l r op' pos o h
      subst h1
      exact PE.imp (pe_cmpR (op_cmp op o.room.units) (ha.bor X c l o h2) (hb.bor X c r o h3) hm) (red X c o)
    | _ => cases h
  · cases e with
    | Compare l ops rs pos =>
      rcases ops with _ | ⟨op', _ | _⟩ <;> first | (cases h; done) | skip
      rcases rs with _ | ⟨r, _ | _⟩ <;> first | (cases h; done) | skip
      obtain ⟨h1, h2, h3, hm⟩ := key X c l r op' pos o h
      subst h1
      refine PT.imp (pt_cmpR (op_cmp op o.room.units) (ha.bor X c l o h2) (hb.bor X c r o h3) hm) fun σ H Q ⟨wd, env, S, b', S', I, ev, q⟩ => ?_
      refine red X c o σ H _ ⟨wd, env, S, _, S', I, ev, fun v H' p => ?_⟩
      cases p.rep
      exact ⟨b', rfl, q H' p.ext p.cells⟩
    | _ => cases h
end
end Tr


namespace Tr
open PySem L2
open PySem.Spec PyProof.Rows
section
variable {G : Gam}
theorem isNone_rep {K : PySem.W.Frag} {Bad : Addr → Prop} {H : Hp} {ρ : List Addr} {v : V} {a : A} (r : RepB K Bad H ρ v a) : (v = .non ↔ a = .val .none) := by
  rcases r with r | ⟨p, xs, ds, rfl, rfl, _⟩
  · cases a with
    | ref n =>
      obtain ⟨p, _, rfl⟩ := r
      exact ⟨fun z => (nomatch z), fun z => (nomatch z)⟩
    | val d =>
      cases r with
      | non => exact ⟨fun _ => rfl, fun _ => rfl⟩
      | _ => exact ⟨fun z => (nomatch z), fun z => (nomatch z)⟩
  · exact ⟨fun z => (nomatch z), fun z => (nomatch z)⟩
theorem Sound.isN (ng : Bool) (a : Ex) (ha : Sound G a) : Sound G (.isN ng a) := by
  have ev_ok : ∀ {x z : A} {S S' : Store}, (match x with
      | A.val PyData.none => R.ok (A.val (PyData.bool (!ng))) S
      | _ => R.ok (A.val (PyData.bool ng)) S) = R.ok z S' → S' = S ∧ ((x = .val .none ∧ z = .val (.bool (!ng))) ∨ (x ≠ .val .none ∧ z = .val (.bool ng))) := by
    intro x z S S' h
    split at h
    · cases h
      exact ⟨rfl, .inl ⟨rfl, rfl⟩⟩
    · rename_i hn
      cases h
      exact ⟨rfl, .inr ⟨fun e => hn e, rfl⟩⟩
  have red : ∀ {σ : L2.St} {H : Hp} {Q : VK} {ff : Bool → Bool}, (∀ b, ff b = (if b then !ng else ng)) → tE G (.isN ng a) σ H Q → tB G a σ H fun x H1 => Q (.bl (ff (decide (x = .non)))) H1 := by
    intro σ H Q ff hff ⟨wd, env, S, z, S', I, ev, q⟩
    obtain ⟨x, S1, e1, ev⟩ := R.bind_ok ev
    obtain ⟨rfl, e2⟩ := ev_ok ev
    refine ⟨wd, env, S, x, _, I, e1, fun v H1 p => ?_⟩
    have I1 := I.next p.ext p.cells
    have hn := isNone_rep p.rep
    rcases e2 with ⟨h, rfl⟩ | ⟨h, rfl⟩
    · show Q (.bl (ff (decide (v = .non)))) H1
      rw [decide_eq_true (hn.mpr h), hff]
      exact q _ _ ((OpPost.bool _).post I1 p.ext)
    · show Q (.bl (ff (decide (v = .non)))) H1
      rw [decide_eq_false (fun z => h (hn.mp z)), hff]
      exact q _ _ ((OpPost.bool _).post I1 p.ext)
  have val : ∀ (X : Cx) (c : Ctx) (e : Expr), XOk X G c → chkE c .val (.isN ng a) e = true → PE X e (tE G (.isN ng a)) ∧ PT X e (tT G (.isN ng a)) := fun X c e o h => by
    cases e with
    | Compare l ops rs pos =>
      rcases ops with _ | ⟨op', _ | _⟩ <;> first | (cases h; done) | skip
      rcases rs with _ | ⟨r, _ | _⟩ <;> first | (cases h; done) | (simp [chkE] at h; done) | skip
      cases r <;> first | (cases h; done) | skip
      rename_i k j pos'
      cases k <;> first | (cases h; done) | skip
      obtain ⟨h1, h2⟩ := ba h
      have e1 := de h1
      have ia := ha.bor X c l o h2
      cases ng with
      | true =>
        subst e1
        have pe : PE X _ _ := pe_cmp (pos := pos) (pc_notN (j := j) (pos' := pos') ia) rfl
        have pt : PT X _ _ := pt_cmp (pos := pos) (pc_notN (j := j) (pos' := pos') ia) rfl
        refine ⟨PE.imp pe fun σ H Q q => red (ff := fun b => !b) (fun b => by cases b <;> rfl) q, PT.imp pt fun σ H Q ⟨wd, env, S, b, S', I, ev, q⟩ => ?_⟩
        refine red (ff := fun b => !b) (Q := fun x H1 => ∃ d, x = .bl d ∧ Q d H1) (fun b => by cases b <;> rfl) ⟨wd, env, S, _, S', I, ev, fun v H' p => ?_⟩
        cases p.rep
        exact ⟨b, rfl, q H' p.ext p.cells⟩
      | false =>
        subst e1
        have pe : PE X _ _ := pe_cmp (pos := pos) (pc_isN (j := j) (pos' := pos') ia) rfl
        have pt : PT X _ _ := pt_cmp (pos := pos) (pc_isN (j := j) (pos' := pos') ia) rfl
        refine ⟨PE.imp pe fun σ H Q q => red (ff := fun b => b) (fun b => by cases b <;> rfl) q, PT.imp pt fun σ H Q ⟨wd, env, S, b, S', I, ev, q⟩ => ?_⟩
        refine red (ff := fun b => b) (Q := fun x H1 => ∃ d, x = .bl d ∧ Q d H1) (fun b => by cases b <;> rfl) ⟨wd, env, S, _, S', I, ev, fun v H' p => ?_⟩
        cases p.rep
        exact ⟨b, rfl, q H' p.ext p.cells⟩
    | _ => cases h
  exact .of rfl (fun c m e h => h) (fun X c e o h => (val X c e o h).1) fun X c e o h => (val X c e o h).2
theorem Sound.chain (op op' : COp) (a b d : Ex) (ha : Sound G a) (hb : Sound G b) (hd : Sound G d) : Sound G (.chain op op' a b d) := by
  have red : ∀ (X : Cx) (c : Ctx), XOk X G c → ∀ (σ : L2.St) (H : Hp) (Q : VK), tE G (.chain op op' a b d) σ H Q → tChain (rC X.K op) (rC X.K op') (tB G a) (tB G b) (tB G d) σ H Q := fun X c o σ H Q ⟨wd, env, S, z, S', I, ev, q⟩ => by
    obtain ⟨x, S1, e1, ev⟩ := R.bind_ok ev
    obtain ⟨y, S2, e2, ev⟩ := R.bind_ok ev
    refine two_ok I e1 e2 fun v w H2 I2 x2 r1 r2 => ?_
    split at ev
    · rename_i dx dy d1 d2
      obtain ⟨k, S3, e3, ev⟩ := R.bind_ok ev
      obtain ⟨e3', rfl⟩ := R.lift_ok e3
      rw [o.K]
      refine ⟨_, dx, dy, k, I2.badOk, r1.deref I2.cells d1, r2.deref I2.cells d2, e3', k, rfl, ?_⟩
      cases k with
      | false =>
        refine iteF ?_
        cases ev
        exact q _ _ ((OpPost.bool false).post I2 x2)
      | true =>
        refine iteT ?_
        rw [if_pos rfl] at ev
        obtain ⟨u, S4, e4, ev⟩ := R.bind_ok ev
        refine ⟨wd, env, _, u, S4, I2, e4, fun v3 H3 p => ?_⟩
        have I3 := I2.next p.ext p.cells
        split at ev
        · rename_i dy' du d3 d4
          obtain ⟨ew, rfl⟩ := R.lift_ok ev
          obtain ⟨g, e5, rfl⟩ := Option.map_eq_some_iff.mp ew
          exact ⟨_, dy', du, g, I3.badOk, (r2.next I2 p.ext).deref I3.cells d3, p.rep.deref I3.cells d4, e5, q _ _ ((OpPost.bool g).post I3 (x2.trans p.ext))⟩
        · cases ev
    · cases ev
  have val : ∀ (X : Cx) (c : Ctx) (e : Expr), XOk X G c → chkE c .val (.chain op op' a b d) e = true → PE X e (tE G (.chain op op' a b d)) ∧ PT X e (tT G (.chain op op' a b d)) := fun X c e o h => by
    cases e with
    | Compare l ops rs pos =>
      rcases ops with _ | ⟨o1, _ | ⟨o2, _ | _⟩⟩ <;> first | (cases h; done) | skip
      rcases rs with _ | ⟨m, _ | ⟨r, _ | _⟩⟩ <;> first | (cases h; done) | skip
      obtain ⟨h1, h⟩ := ba h
      obtain ⟨h2, h⟩ := ba h
      obtain ⟨h3, h⟩ := ba h
      obtain ⟨h4, h⟩ := ba h
      obtain ⟨h5, h⟩ := ba h
      obtain ⟨h6, h7⟩ := ba h
      have e1 := de h1
      have e2 := de h2
      subst e1 e2
      have mk : ∀ (op : CmpOp) (r : Expr), noSet r = true → behindInMarks op r = false := fun op r h => by cases r <;> first | rfl | (cases h; done)
      have i1 := ha.bor X c l o h3
      have i2 := hb.bor X c m o h4
      have i3 := hd.bor X c r o h5
      have u := o.room.units
      refine ⟨PE.imp (pe_chain (pos := pos) (op_cmp op u) (op_cmp op' u) i1 i2 i3 (mk _ _ h7)) (red X c o), ?_⟩
      refine PT.imp (pt_chain (pos := pos) (op_cmp op u) (op_cmp op' u) i1 i2 i3 (mk _ _ h7)) fun σ H Q ⟨wd, env, S, b', S', I, ev, q⟩ => ?_
      refine red X c o σ H _ ⟨wd, env, S, _, S', I, ev, fun v H' p => ?_⟩
      cases p.rep
      exact ⟨b', rfl, q H' p.ext p.cells⟩
    | _ => cases h
  exact .of rfl (fun c m e h => h) (fun X c e o h => (val X c e o h).1) fun X c e o h => (val X c e o h).2

theorem asBool_some {a : A} {b : Bool} (h : asBool a = some b) : a = .val (.bool b) := by
  unfold asBool at h
  split at h
  · cases h; rfl
  · cases h
theorem bool_rep {K : PySem.W.Frag} {Bad : Addr → Prop} {H : Hp} {ρ : List Addr} {v : V} {b : Bool} (r : RepA K Bad H ρ v (.val (.bool b))) : v = .bl b := by
  cases r
  rfl
theorem Sound.ands (es : List Ex) (hs : ∀ e' ∈ es, Sound G e') : Sound G (.ands es) := by
  have val : ∀ (X : Cx) (c : Ctx) (es : List Ex), (∀ e' ∈ es, Sound G e') → ∀ (ts : List Expr) (pos : Pos), XOk X G c → chkEs c .val es ts = true → ts ≠ [] → PE X (.BoolOp .And ts pos) (tE G (.ands es)) ∧ PW X (.BoolOp .And ts pos) (tT G (.ands es)) := by
    intro X c es
    induction es with
    | nil =>
      intro _ ts pos o h hne
      cases ts with
      | nil => exact absurd rfl hne
      | cons _ _ => cases h
    | cons e' es ih =>
      intro hs ts pos o h hne
      cases ts with
      | nil => cases h
      | cons t ts =>
        obtain ⟨h1, h2⟩ := ba h
        have s1 := hs e' List.mem_cons_self
        cases es with
        | nil =>
          cases ts with
          | cons _ _ => cases h2
          | nil => exact ⟨PE.imp (pe_one (s1.val X c t o h1)) fun σ H Q ⟨wd, env, S, a, S', I, ev, q⟩ => ⟨wd, env, S, a, S', I, ev, fun v H' p => q v H' ⟨p.ext, p.cells, p.rep, fun f => nomatch f⟩⟩, PW.imp (pw_and1 (s1.tst X c t o h1)) fun σ H Q ⟨wd, env, S, a, S', I, ev, q⟩ => ⟨wd, env, S, a, S', I, ev, q⟩⟩
        | cons e2 es =>
          cases ts with
          | nil => cases h2
          | cons t2 ts =>
            obtain ⟨i1, i2⟩ := ih (fun f hf => hs f (List.mem_cons_of_mem _ hf)) (t2 :: ts) pos o h2 (by simp)
            refine ⟨PE.imp (pe_and (s1.val X c t o h1) i1) fun σ H Q ⟨wd, env, S, a, S', I, ev, q⟩ => ?_, PW.imp (pw_and (s1.tst X c t o h1) i2) fun σ H Q ⟨wd, env, S, b, S', I, ev, q⟩ => ?_⟩
            · obtain ⟨x, S1, e1, ev⟩ := R.bind_ok ev
              obtain ⟨k, S2, e3, ev⟩ := R.bind_ok ev
              obtain ⟨e4, rfl⟩ := R.lift_ok e3
              have e5 := asBool_some e4
              subst e5
              refine ⟨wd, env, S, _, _, I, e1, fun v H1 p => ⟨k, bool_rep p.rep, ?_⟩⟩
              have I1 := I.next p.ext p.cells
              cases k with
              | false =>
                cases ev
                exact iteF (q _ _ ((OpPost.bool false).post I1 p.ext))
              | true => exact iteT ⟨wd, env, _, a, S', I1, ev, fun v2 H2 p2 => q _ _ ⟨p.ext.trans p2.ext, p2.cells, p2.rep, fun f => nomatch f⟩⟩
            · obtain ⟨x, S1, e1, ev⟩ := R.bind_ok ev
              obtain ⟨k, S2, e3, ev⟩ := R.bind_ok ev
              obtain ⟨e4, rfl⟩ := R.lift_ok e3
              have e5 := asBool_some e4
              subst e5
              refine ⟨wd, env, S, k, _, I, e1, fun H1 x1 c1 => ?_⟩
              have I1 := I.next x1 c1
              cases k with
              | false =>
                cases ev
                exact iteF (q _ x1 c1)
              | true => exact iteT ⟨wd, env, _, b, S', I1, ev, fun H2 x2 c2 => q _ (x1.trans x2) c2⟩
  have ne : ∀ {c : Ctx} {ts : List Expr} {pos : Pos} {o : BoolOp}, chkE c .val (.ands es) (.BoolOp o ts pos) = true → o = .And ∧ chkEs c .val es ts = true := fun {c ts pos o} h => by
    cases o <;> first | exact ⟨rfl, h⟩ | (cases h; done)
  by_cases he : es = []
  · subst he
    refine ⟨fun X c e o h => ⟨fun pins s σ H Q I hq => ?_⟩, fun X c e o h => ⟨fun pins s σ H Q I hq => ?_⟩, fun X c e o h => ⟨fun pins s σ H Q I hq => ?_⟩, fun X c e tg o h => ⟨fun pins s σ H R I hq => ?_⟩⟩
    · obtain ⟨_, _, _, _, _, _, ev, _⟩ := hq; cases ev
    · obtain ⟨_, _, _, _, _, _, ev, _⟩ := hq; cases ev
    · obtain ⟨_, _, _, _, _, _, ev, _⟩ := hq; cases ev
    · obtain ⟨_, _, _, _, _, _, _, ev, _⟩ := hq; cases ev
  · have tsne : ∀ {c : Ctx} {ts : List Expr}, chkEs c .val es ts = true → ts ≠ [] := fun {c ts} h z => by
      subst z
      cases es with
      | nil => exact he rfl
      | cons _ _ => cases h
    refine .of rfl (fun c m e h => h) (fun X c e o h => ?_) fun X c e o h => ?_
    · cases e with
      | BoolOp op ts pos =>
        obtain ⟨rfl, h⟩ := ne h
        exact (val X c es hs ts pos o h (tsne h)).1
      | _ => cases h
    · cases e with
      | BoolOp op ts pos =>
        obtain ⟨rfl, h⟩ := ne h
        exact (val X c es hs ts pos o h (tsne h)).2.pt
      | _ => cases h
theorem Sound.ors (es : List Ex) (hs : ∀ e' ∈ es, Sound G e') : Sound G (.ors es) := by
  have val : ∀ (X : Cx) (c : Ctx) (es : List Ex), (∀ e' ∈ es, Sound G e') → ∀ (ts : List Expr) (pos : Pos), XOk X G c → chkEs c .val es ts = true → ts ≠ [] → PE X (.BoolOp .Or ts pos) (tE G (.ors es)) ∧ PW X (.BoolOp .Or ts pos) (tT G (.ors es)) := by
    intro X c es
    induction es with
    | nil =>
      intro _ ts pos o h hne
      cases ts with
      | nil => exact absurd rfl hne
      | cons _ _ => cases h
    | cons e' es ih =>
      intro hs ts pos o h hne
      cases ts with
      | nil => cases h
      | cons t ts =>
        obtain ⟨h1, h2⟩ := ba h
        have s1 := hs e' List.mem_cons_self
        cases es with
        | nil =>
          cases ts with
          | cons _ _ => cases h2
          | nil => exact ⟨PE.imp (pe_one (s1.val X c t o h1)) fun σ H Q ⟨wd, env, S, a, S', I, ev, q⟩ => ⟨wd, env, S, a, S', I, ev, fun v H' p => q v H' ⟨p.ext, p.cells, p.rep, fun f => nomatch f⟩⟩, PW.imp (pw_or1 (s1.tst X c t o h1)) fun σ H Q ⟨wd, env, S, a, S', I, ev, q⟩ => ⟨wd, env, S, a, S', I, ev, q⟩⟩
        | cons e2 es =>
          cases ts with
          | nil => cases h2
          | cons t2 ts =>
            obtain ⟨i1, i2⟩ := ih (fun f hf => hs f (List.mem_cons_of_mem _ hf)) (t2 :: ts) pos o h2 (by simp)
            refine ⟨PE.imp (pe_or (s1.val X c t o h1) i1) fun σ H Q ⟨wd, env, S, a, S', I, ev, q⟩ => ?_, PW.imp (pw_or (s1.tst X c t o h1) i2) fun σ H Q ⟨wd, env, S, b, S', I, ev, q⟩ => ?_⟩
            · obtain ⟨x, S1, e1, ev⟩ := R.bind_ok ev
              obtain ⟨k, S2, e3, ev⟩ := R.bind_ok ev
              obtain ⟨e4, rfl⟩ := R.lift_ok e3
              have e5 := asBool_some e4
              subst e5
              refine ⟨wd, env, S, _, _, I, e1, fun v H1 p => ⟨k, bool_rep p.rep, ?_⟩⟩
              have I1 := I.next p.ext p.cells
              cases k with
              | true =>
                cases ev
                exact iteT (q _ _ ((OpPost.bool true).post I1 p.ext))
              | false => exact iteF ⟨wd, env, _, a, S', I1, ev, fun v2 H2 p2 => q _ _ ⟨p.ext.trans p2.ext, p2.cells, p2.rep, fun f => nomatch f⟩⟩
            · obtain ⟨x, S1, e1, ev⟩ := R.bind_ok ev
              obtain ⟨k, S2, e3, ev⟩ := R.bind_ok ev
              obtain ⟨e4, rfl⟩ := R.lift_ok e3
              have e5 := asBool_some e4
              subst e5
              refine ⟨wd, env, S, k, _, I, e1, fun H1 x1 c1 => ?_⟩
              have I1 := I.next x1 c1
              cases k with
              | true =>
                cases ev
                exact iteT (q _ x1 c1)
              | false => exact iteF ⟨wd, env, _, b, S', I1, ev, fun H2 x2 c2 => q _ (x1.trans x2) c2⟩
  have ne : ∀ {c : Ctx} {ts : List Expr} {pos : Pos} {o : BoolOp}, chkE c .val (.ors es) (.BoolOp o ts pos) = true → o = .Or ∧ chkEs c .val es ts = true := fun {c ts pos o} h => by
    cases o <;> first | exact ⟨rfl, h⟩ | (cases h; done)
  by_cases he : es = []
  · subst he
    refine ⟨fun X c e o h => ⟨fun pins s σ H Q I hq => ?_⟩, fun X c e o h => ⟨fun pins s σ H Q I hq => ?_⟩, fun X c e o h => ⟨fun pins s σ H Q I hq => ?_⟩, fun X c e tg o h => ⟨fun pins s σ H R I hq => ?_⟩⟩
    · obtain ⟨_, _, _, _, _, _, ev, _⟩ := hq; cases ev
    · obtain ⟨_, _, _, _, _, _, ev, _⟩ := hq; cases ev
    · obtain ⟨_, _, _, _, _, _, ev, _⟩ := hq; cases ev
    · obtain ⟨_, _, _, _, _, _, _, ev, _⟩ := hq; cases ev
  · have tsne : ∀ {c : Ctx} {ts : List Expr}, chkEs c .val es ts = true → ts ≠ [] := fun {c ts} h z => by
      subst z
      cases es with
      | nil => exact he rfl
      | cons _ _ => cases h
    refine .of rfl (fun c m e h => h) (fun X c e o h => ?_) fun X c e o h => ?_
    · cases e with
      | BoolOp op ts pos =>
        obtain ⟨rfl, h⟩ := ne h
        exact (val X c es hs ts pos o h (tsne h)).1
      | _ => cases h
    · cases e with
      | BoolOp op ts pos =>
        obtain ⟨rfl, h⟩ := ne h
        exact (val X c es hs ts pos o h (tsne h)).2.pt
      | _ => cases h
theorem Sound.not (a : Ex) (ha : Sound G a) : Sound G (.not a) := by
  refine .of rfl (fun c m e h => h) (fun X c e o h => ?_) fun X c e o h => ?_
  · cases e with
    | UnaryOp op x pos =>
      cases op <;> first | (cases h; done) | skip
      refine PE.imp (pe_not (ha.val X c x o h)) fun σ H Q ⟨wd, env, S, z, S', I, ev, q⟩ => ?_
      obtain ⟨y, S1, e1, ev⟩ := R.bind_ok ev
      obtain ⟨k, S2, e3, ev⟩ := R.bind_ok ev
      obtain ⟨e4, rfl⟩ := R.lift_ok e3
      have e5 := asBool_some e4
      subst e5
      cases ev
      exact ⟨wd, env, S, _, _, I, e1, fun v H1 p => ⟨k, bool_rep p.rep, q _ _ ((OpPost.bool (!k)).post (I.next p.ext p.cells) p.ext)⟩⟩
    | _ => cases h
  · cases e with
    | UnaryOp op x pos =>
      cases op <;> first | (cases h; done) | skip
      refine PT.imp (pt_not (ha.tst X c x o h)) fun σ H Q ⟨wd, env, S, z, S', I, ev, q⟩ => ?_
      obtain ⟨y, S1, e1, ev⟩ := R.bind_ok ev
      obtain ⟨k, S2, e3, ev⟩ := R.bind_ok ev
      obtain ⟨e4, rfl⟩ := R.lift_ok e3
      have e5 := asBool_some e4
      subst e5
      cases ev
      exact ⟨wd, env, S, k, _, I, e1, fun H1 x1 c1 => q _ x1 c1⟩
    | _ => cases h
end
end Tr


namespace Tr
open PySem L2
open PySem.Spec PyProof.Rows
section
variable {G : Gam}
def tIfT (t u w : TT) : TT := fun σ H Q => t σ H fun k H1 => if k = true then u σ H1 Q else w σ H1 Q
theorem pt_if {X : Cx} {a b d : Expr} {pos : Pos} {t u w : TT} (h1 : PT X a t) (h2 : PT X b u) (h3 : PT X d w) : PT X (.IfExp a b d pos) (tIfT t u w) := by
  refine ⟨fun pins s σ H Q I h => ?_⟩
  rw [show PySem.isTrue (.IfExp a b d pos) X.env (eval (.IfExp a b d pos) X.env) = (do
    if ← PySem.isTrue a X.env (eval a X.env) then PySem.isTrue b X.env (eval b X.env) else PySem.isTrue d X.env (eval d X.env)) from by rw [PySem.isTrue]]
  refine wpAny_bind (thn (h1.run pins s σ H _ I h) fun k s1 ⟨H1, I1, q1⟩ => ?_)
  cases k with
  | true => exact h2.run pins s1 σ H1 Q I1 q1
  | false => exact h3.run pins s1 σ H1 Q I1 q1
theorem Sound.ife (t a b : Ex) (ht : Sound G t) (ha : Sound G a) (hb : Sound G b) : Sound G (.ife t a b) := by
  refine .of rfl (fun c m e h => h) (fun X c e o h => ?_) fun X c e o h => ?_
  · cases e with
    | IfExp e1 e2 e3 pos =>
      obtain ⟨h1, h⟩ := ba h
      obtain ⟨h2, h3⟩ := ba h
      refine PE.imp (pe_ifExp (ht.tst X c e1 o h1) (ha.val X c e2 o h2) (hb.val X c e3 o h3)) fun σ H Q ⟨wd, env, S, z, S', I, ev, q⟩ => ?_
      obtain ⟨y, S1, e1, ev⟩ := R.bind_ok ev
      obtain ⟨k, S2, e3, ev⟩ := R.bind_ok ev
      obtain ⟨e4, rfl⟩ := R.lift_ok e3
      have e5 := asBool_some e4
      subst e5
      refine ⟨wd, env, S, k, _, I, e1, fun H1 x1 c1 => ?_⟩
      have I1 := I.next x1 c1
      have fin : ∀ {f : Bool} {v : V} {H2 : Hp}, (freshE G.fr (.ife t a b) = true → f = true) → Post G wd σ env f H1 z S' v H2 → Q v H2 := fun {f v H2} hf p => by
        refine q _ _ ⟨x1.trans p.ext, p.cells, p.rep, fun g ds ez => ?_⟩
        obtain ⟨p1, xs, e1, e2, e3⟩ := p.fresh (hf g) ds ez
        refine ⟨p1, xs, e1, ?_, e3⟩
        exact x1.none (fun a m => I.ρL m) e2
      cases k with
      | true => exact iteT ⟨wd, env, _, z, S', I1, ev, fun v2 H2 p2 => fin (fun g => (ba g).1) p2⟩
      | false => exact iteF ⟨wd, env, _, z, S', I1, ev, fun v2 H2 p2 => fin (fun g => (ba g).2) p2⟩
    | _ => cases h
  · cases e with
    | IfExp e1 e2 e3 pos =>
      obtain ⟨h1, h⟩ := ba h
      obtain ⟨h2, h3⟩ := ba h
      refine PT.imp (pt_if (ht.tst X c e1 o h1) (ha.tst X c e2 o h2) (hb.tst X c e3 o h3)) fun σ H Q ⟨wd, env, S, z, S', I, ev, q⟩ => ?_
      obtain ⟨y, S1, e1, ev⟩ := R.bind_ok ev
      obtain ⟨k, S2, e3, ev⟩ := R.bind_ok ev
      obtain ⟨e4, rfl⟩ := R.lift_ok e3
      have e5 := asBool_some e4
      subst e5
      refine ⟨wd, env, S, k, _, I, e1, fun H1 x1 c1 => ?_⟩
      have I1 := I.next x1 c1
      cases k with
      | true => exact iteT ⟨wd, env, _, z, S', I1, ev, fun H2 x2 c2 => q _ (x1.trans x2) c2⟩
      | false => exact iteF ⟨wd, env, _, z, S', I1, ev, fun H2 x2 c2 => q _ (x1.trans x2) c2⟩
    | _ => cases h
theorem plainIx_of {e : Expr} (h : noSlice e = true) : PlainIx e := fun o i => by
  cases e <;> first | rfl | (cases h; done)
theorem Sound.idx (a i : Ex) (ha : Sound G a) (hi : Sound G i) : Sound G (.idx a i) := by
  refine .plain rfl (fun c m e h => h) (fun c e h => ?_) fun X c e o h => ?_
  · cases e <;> first | rfl | (cases h; done)
  · cases e with
    | Subscript v s pos =>
      obtain ⟨h1, h⟩ := ba h
      obtain ⟨h2, h3⟩ := ba h
      refine PE.imp (pe_ix op_idx (ha.bor X c v o h1) (hi.bor X c s o h2) (plainIx_of h3)) fun σ H Q ⟨wd, env, S, z, S', I, ev, q⟩ => ?_
      obtain ⟨x, S1, e1, ev⟩ := R.bind_ok ev
      obtain ⟨y, S2, e2, ev⟩ := R.bind_ok ev
      refine two_ok I e1 e2 fun v w H2 I2 x2 r1 r2 => ?_
      split at ev
      · rename_i d e d1 d2
        obtain ⟨ew, rfl⟩ := R.lift_ok ev
        obtain ⟨g, e3, rfl⟩ := Option.map_eq_some_iff.mp ew
        rw [o.K]
        exact ⟨_, d, e, g, I2.badOk, r1.deref I2.cells d1, r2.deref I2.cells d2, e3, fun v' H' p => q _ _ (p.post I2 x2)⟩
      · cases ev
    | _ => cases h
def tOI (G : Gam) (a : Option Ex) : TO := fun σ H Q => ∃ wd env S i S', SR G.K G.W wd σ H env S ∧ evalO G.C a env S = .ok i S' ∧
  ∀ H', Ext (· ∈ wd.ρ) H H' → Cells G.K (BadOf G.W wd σ env) H' wd.ρ S' → Q i H'
theorem PO.imp {X : Cx} {e : Option Expr} {t t' : TO} (h : PO X e t) (i : ∀ σ H Q, t' σ H Q → t σ H Q) : PO X e t' := ⟨fun pins s σ H Q I q => h.run pins s σ H Q I (i σ H Q q)⟩
theorem po_of {X : Cx} {c : Ctx} {a : Option Ex} {e : Option Expr} (o : XOk X G c) (ha : ∀ b, a = some b → Sound G b) (h : chkO c a e = true) : PO X e (tOI G a) := by
  cases a with
  | none =>
    cases e with
    | some _ => cases h
    | none =>
      refine PO.imp po_none fun σ H Q ⟨wd, env, S, i, S', I, ev, q⟩ => ?_
      cases ev
      exact q H .refl I.cells
  | some a =>
    cases e with
    | none => cases h
    | some e =>
      refine PO.imp (po_some ((ha a rfl).bor X c e o h)) fun σ H Q ⟨wd, env, S, i, S', I, ev, q⟩ => ?_
      obtain ⟨x, S1, e1, ev⟩ := R.bind_ok ev
      refine ⟨wd, env, S, x, S1, I, e1, fun v H1 p => ?_⟩
      split at ev
      · rename_i j ej
        cases ev
        exact ⟨j, asInt_rep p.rep p.cells ej, q H1 p.ext p.cells⟩
      · cases ev
theorem Sound.slice (a : Ex) (lo hi : Option Ex) (ha : Sound G a) (hl : ∀ b, lo = some b → Sound G b) (hh : ∀ b, hi = some b → Sound G b) : Sound G (.slice a lo hi) := by
  refine .plain rfl (fun c m e h => h) (fun c e h => ?_) fun X c e o h => ?_
  · cases e <;> first | rfl | (cases h; done)
  · cases e with
    | Subscript v s pos =>
      cases s <;> first | (cases h; done) | skip
      rename_i l u st p2
      cases st <;> first | (cases h; done) | skip
      obtain ⟨h1, h⟩ := ba h
      obtain ⟨h2, h3⟩ := ba h
      refine PE.imp (pe_slice op_slice (ha.bor X c v o h1) (po_of o hl h2) (po_of o hh h3)) fun σ H Q ⟨wd, env, S, z, S', I, ev, q⟩ => ?_
      obtain ⟨x, S1, e1, ev⟩ := R.bind_ok ev
      obtain ⟨i, S2, e2, ev⟩ := R.bind_ok ev
      obtain ⟨j, S3, e3, ev⟩ := R.bind_ok ev
      refine ⟨wd, env, S, x, S1, I, e1, fun v H1 p => ?_⟩
      have I1 := I.next p.ext p.cells
      refine ⟨wd, env, S1, i, S2, I1, e2, fun H2 x2 c2 => ?_⟩
      have I2 := I1.next x2 c2
      refine ⟨wd, env, S2, j, S3, I2, e3, fun H3 x3 c3 => ?_⟩
      have I3 := I2.next x3 c3
      split at ev
      · rename_i d d1
        obtain ⟨ew, rfl⟩ := R.lift_ok ev
        obtain ⟨g, e4, rfl⟩ := Option.map_eq_some_iff.mp ew
        rw [o.K]
        exact ⟨_, d, g, I3.badOk, ((p.rep.next I1 x2).next I2 x3).deref I3.cells d1, e4, fun v' H' p' => q _ _ (p'.post I3 ((p.ext.trans x2).trans x3))⟩
      · cases ev
    | _ => cases h

theorem blt_red {X : Cx} {c : Ctx} (o : XOk X G c) (f : BF) (es : List Ex) : ∀ (σ : L2.St) (H : Hp) (Q : VK), tE G (.blt f es) σ H Q → tCB (rF X.K (bltD f)) (tBs G es) σ H Q := fun σ H Q ⟨wd, env, S, z, S', I, ev, q⟩ => by
  obtain ⟨as, S1, e1, ev⟩ := R.bind_ok ev
  refine ⟨wd, env, S, as, S1, I, e1, fun vs H1 x1 c1 r1 => ?_⟩
  have I1 := I.next x1 c1
  split at ev
  · rename_i ds e2
    obtain ⟨ew, rfl⟩ := R.lift_ok ev
    obtain ⟨g, e3, rfl⟩ := Option.map_eq_some_iff.mp ew
    rw [o.K]
    exact ⟨_, ds, g, I1.badOk, derefs_rep I1.cells r1 e2, e3, fun v' H' p => q _ _ (p.post I1 x1)⟩
  · cases ev
theorem Sound.blt (f : BF) (es : List Ex) (hs : ∀ e' ∈ es, Sound G e') : Sound G (.blt f es) := by
  refine .plain rfl (fun c m e h => h) (fun c e h => ?_) fun X c e o h => ?_
  · cases e <;> first | rfl | (cases h; done)
  · cases e with
    | Call fn args kws pos =>
      cases fn <;> first | (cases h; done) | skip
      rename_i x p
      rcases args with _ | ⟨a, as⟩ <;> first | (cases h; done) | skip
      rcases kws with _ | _ <;> first | (cases h; done) | skip
      obtain ⟨h1, ha⟩ := ba h
      obtain ⟨h2, hb⟩ := ba ha
      have e1 := de h1
      subst e1
      clear h ha
      obtain ⟨g1, g2⟩ := o.gl h2
      have fr : X.mg (bfName f) = none := o.free _ (by cases f <;> first | decide | exact (by decide : ("isinstance" : Str) ∈ bltNames))
      have nn : bfName f ≠ "__name__" := by cases f <;> first | decide | exact (by decide : ("isinstance" : Str) ≠ "__name__")
      have u := o.room.units
      have fin : (∀ t, f ≠ .isInst t) → chkEs c .bor es (a :: as) = true → (a :: as).all noStar = true → PE X (.Call (.Name (bfName f) p) (a :: as) [] pos) (tE G (.blt f es)) := fun nt k1 k2 => by
        have pa := bors_of hs o k1 k2
        rw [List.all_cons] at k2
        obtain ⟨s1, s2⟩ := ba k2
        cases f with
        | len => exact PE.imp (pe_callB c_len g1 fr PySem.boot_len pa nn g2 (star1 s1) (stars s2)) (blt_red o _ es)
        | abs => exact PE.imp (pe_callB c_abs g1 fr PyProof.Rows.boot_abs pa nn g2 (star1 s1) (stars s2)) (blt_red o _ es)
        | int => exact PE.imp (pe_callTy c_int g1 fr PyProof.Rows.boot_int pa nn g2 (star1 s1) (stars s2)) (blt_red o _ es)
        | str => exact PE.imp (pe_callTy c_str g1 fr PyProof.Rows.boot_str pa nn g2 (star1 s1) (stars s2)) (blt_red o _ es)
        | max2 => exact PE.imp (pe_callB (c_max o.calm) g1 fr (by decide +kernel) pa nn g2 (star1 s1) (stars s2)) (blt_red o _ es)
        | min2 => exact PE.imp (pe_callB (c_min o.calm) g1 fr (by decide +kernel) pa nn g2 (star1 s1) (stars s2)) (blt_red o _ es)
        | tuple => exact PE.imp (pe_callTy c_tuple g1 fr PyProof.Rows.boot_tuple pa nn g2 (star1 s1) (stars s2)) (blt_red o _ es)
        | list => exact PE.imp (pe_callTy c_list g1 fr PyProof.Rows.boot_list pa nn g2 (star1 s1) (stars s2)) (blt_red o _ es)
        | all => exact PE.imp (pe_callB (c_all o.calm) g1 fr (by decide +kernel) pa nn g2 (star1 s1) (stars s2)) (blt_red o _ es)
        | any => exact PE.imp (pe_callB (c_any o.calm) g1 fr (by decide +kernel) pa nn g2 (star1 s1) (stars s2)) (blt_red o _ es)
        | repr => exact PE.imp (pe_callB (c_repr o.gu u) g1 fr (by decide +kernel) pa nn g2 (star1 s1) (stars s2)) (blt_red o _ es)
        | isInst t => exact absurd rfl (nt t)
      cases f with
      | isInst t =>
        rcases as with _ | ⟨b, _ | _⟩ <;> first | (simp at hb; done) | skip
        cases b <;> first | (simp at hb; done) | skip
        rename_i y py
        obtain ⟨k1, hc⟩ := ba hb
        obtain ⟨k2, hd⟩ := ba hc
        obtain ⟨k3, he⟩ := ba hd
        obtain ⟨k4, k5⟩ := ba he
        have e2 := de k1
        subst e2
        have kt : t ∈ kindNames := by simpa using k2
        obtain ⟨g3, g4⟩ := o.gl k3
        have boot : bootBuiltins (Str.ofString t) = some (.type t) := by
          have all : ∀ t ∈ kindNames, bootBuiltins (Str.ofString t) = some (.type t) := by decide +kernel
          exact all t kt
        have fr2 : X.mg (Str.ofString t) = none := o.free _ (by
          have all : ∀ t ∈ kindNames, Str.ofString t ∈ bltNames := by decide +kernel
          exact all t kt)
        have nn2 : Str.ofString t ≠ "__name__" := by
          have all : ∀ t ∈ kindNames, Str.ofString t ≠ "__name__" := by decide +kernel
          exact all t kt
        rcases es with _ | ⟨e', _ | _⟩
        · cases k4
        · obtain ⟨k4, _⟩ := ba k4
          have s1 := (hs e' List.mem_cons_self).bor X c a o k4
          have s2 : PE X (.Name (Str.ofString t) py) (tC (.ty t)) := pe_bltn g3 fr2 boot rfl nn2 g4
          have pa := pa_cons s1 (pa_cons s2 pa_nil) (star1 k5)
          refine PE.imp (pe_callB (c_isi kt) g1 fr PyProof.Rows.boot_isinstance pa nn g2 (star1 k5) rfl) fun σ H Q ⟨wd, env, S, z, S', I, ev, q⟩ => ?_
          obtain ⟨as, S1, e1, ev⟩ := R.bind_ok ev
          obtain ⟨a1, S2, bs, e2, e3, rfl⟩ := evalEs_cons e1
          cases e3
          refine ⟨wd, env, S, a1, _, I, e2, fun v H1 p => ?_⟩
          have I1 := I.next p.ext p.cells
          split at ev
          · rename_i ds e4
            obtain ⟨ew, rfl⟩ := R.lift_ok ev
            obtain ⟨g, e5, rfl⟩ := Option.map_eq_some_iff.mp ew
            have r := derefs_rep I1.cells (.cons p.rep .nil) e4
            cases r with
            | cons r1 r2 =>
              cases r2
              cases e5
              exact ⟨_, _, v, rfl, by rw [o.K]; exact r1, q _ _ ((OpPost.bool _).post I1 p.ext)⟩
          · cases ev
        · obtain ⟨_, k4⟩ := ba k4
          cases k4
      | _ =>
        obtain ⟨k1, k2⟩ := ba hb
        exact fin (fun t e => nomatch e) k1 k2
    | _ => cases h
theorem base_of {o : Expr} {n : Str} {env : Env} (h : noCall0 o = true) : attributeBase o n env (eval o env) = eval o env := by
  cases o <;> first | rfl | skip
  rename_i f as kw p
  cases as with
  | nil => cases h
  | cons a as => cases f <;> rfl
theorem methD_str {K : PySem.W.Frag} {Bad : Addr → Prop} {H : Hp} {f : MF} {d g : PyData} {ds : List PyData} (h : methD f d ds = some g) (hf : f ≠ .index) : ∃ z, d = .str z := by
  cases d with
  | str z => exact ⟨z, rfl⟩
  | _ => cases f <;> first | exact absurd rfl hf | (simp [methD] at h; done)
theorem methD_index {d g : PyData} {ds : List PyData} (h : methD .index d ds = some g) : ∃ es e, ds = [e] ∧ indexD es e = some g ∧ (d = .list es ∨ d = .tuple es) := by
  rcases ds with _ | ⟨e, _ | ⟨_, _⟩⟩
  · cases d <;> simp [methD] at h
  · cases d with
    | list es => exact ⟨es, e, rfl, h, .inl rfl⟩
    | tuple es => exact ⟨es, e, rfl, h, .inr rfl⟩
    | _ => simp [methD] at h
  · cases d <;> simp [methD] at h
theorem Sound.meth (f : MF) (a : Ex) (es : List Ex) (ha : Sound G a) (hs : ∀ e' ∈ es, Sound G e') : Sound G (.meth f a es) := by
  refine .plain rfl (fun c m e h => h) (fun c e h => ?_) fun X c e o h => ?_
  · cases e <;> first | rfl | (cases h; done)
  · cases e with
    | Call fn args kws pos =>
      cases fn <;> first | (cases h; done) | skip
      rename_i ob n ap
      rcases args with _ | ⟨t, ts⟩ <;> first | (cases h; done) | skip
      rcases kws with _ | _ <;> first | (cases h; done) | skip
      obtain ⟨h1, ha1⟩ := ba h
      obtain ⟨h2, ha2⟩ := ba ha1
      obtain ⟨h3, ha3⟩ := ba ha2
      obtain ⟨h4, ha4⟩ := ba ha3
      obtain ⟨h5, ha5⟩ := ba ha4
      obtain ⟨h6, h7⟩ := ba ha5
      have e1 := de h1
      clear h ha1 ha2 ha3 ha4 ha5
      subst e1
      have pa := bors_of hs o h3 h4
      have pob := ha.bor X c ob o h2
      have st := h4
      rw [List.all_cons] at st
      obtain ⟨s1, s2⟩ := ba st
      have red : f ≠ .index → ∀ (σ : L2.St) (H : Hp) (Q : VK), tE G (.meth f a es) σ H Q → tBMF X.K "str" (rM X.K (methD f)) (tB G a) (tBs G es) σ H Q := fun hf σ H Q ⟨wd, env, S, z, S', I, ev, q⟩ => by
        obtain ⟨x, S1, e1, ev⟩ := R.bind_ok ev
        obtain ⟨as, S2, e2, ev⟩ := R.bind_ok ev
        refine ⟨wd, env, S, x, S1, I, e1, fun v H1 p => ?_⟩
        have I1 := I.next p.ext p.cells
        split at ev
        · rename_i d ds e3 e4
          obtain ⟨ew, rfl⟩ := R.lift_ok ev
          obtain ⟨g, e5, rfl⟩ := Option.map_eq_some_iff.mp ew
          obtain ⟨y, rfl⟩ := methD_str (K := G.K) (Bad := fun _ => False) (H := H1) e5 hf
          have ex : x = .val (.str y) := by
            cases x with
            | val d => cases e3; rfl
            | ref n =>
              obtain ⟨_, _, z⟩ := Option.map_eq_some_iff.mp e3
              cases z
          rw [o.K]
          refine ⟨?_, wd, env, S1, as, _, I1, e2, fun vs H2 x2 c2 r2 => ?_⟩
          · have r := p.rep.deref (S := S1) (d := .str y) p.cells (by rw [ex]; rfl)
            rw [r.str]
            exact .inl rfl
          · have I2 := I1.next x2 c2
            exact ⟨_, _, ds, g, I2.badOk, (p.rep.next I1 x2).deref I2.cells e3, derefs_rep I2.cells r2 e4, e5, fun v' H' p' => q _ _ (p'.post I2 (p.ext.trans x2))⟩
        · cases ev
      have go : f ≠ .index → ∀ {id : String} (slot : Slot "str" (mfName f) id) (hty : typeOf (.builtin id) = pure (.type "method_descriptor")) (hm : MtR X id (rM X.K (methD f))), PE X (.Call (.Attribute ob (mfName f) ap) (t :: ts) [] pos) (tE G (.meth f a es)) :=
        fun hf _ slot hty hm => PE.imp (pe_bmF PySem.F.plainAttrs_str slot hty hm pob pa (base_of h5) (stars2 h4) (de h7) h6 (star1 s1) (stars s2)) (red hf)
      cases f with
      | removesuffix => exact go (fun z => nomatch z) PySem.F.slot_str_removesuffix PySem.F.type_str_removesuffix m_removesuffix
      | endswith => exact go (fun z => nomatch z) PySem.F.slot_str_endswith PySem.F.type_str_endswith m_endswith
      | startswith => exact go (fun z => nomatch z) PySem.F.slot_str_startswith PySem.F.type_str_startswith m_startswith
      | join => exact go (fun z => nomatch z) PySem.F.slot_str_join PySem.F.type_str_join m_join
      | split => exact go (fun z => nomatch z) PySem.F.slot_str_split PySem.F.type_str_split m_split
      | index =>
        refine PE.imp (pe_bm2 PySem.F.plainAttrs_list PySem.F.slot_list_index PySem.F.type_list_index m_lindex PySem.F.plainAttrs_tuple PySem.F.slot_tuple_index PySem.F.type_tuple_index m_tindex pob pa (base_of h5) (stars2 h4) (de h7) h6 (star1 s1) (stars s2)) fun σ H Q ⟨wd, env, S, z, S', I, ev, q⟩ => ?_
        obtain ⟨x, S1, e1, ev⟩ := R.bind_ok ev
        obtain ⟨as, S2, e2, ev⟩ := R.bind_ok ev
        refine ⟨wd, env, S, x, S1, I, e1, fun v H1 p => ?_⟩
        have I1 := I.next p.ext p.cells
        split at ev
        · rename_i d ds e3 e4
          obtain ⟨ew, rfl⟩ := R.lift_ok ev
          obtain ⟨g, e5, rfl⟩ := Option.map_eq_some_iff.mp ew
          obtain ⟨es', e', rfl, e6, e7⟩ := methD_index e5
          rw [o.K]
          have args : ∀ k : Bool, d = (if k then .list es' else .tuple es') → tBs G es σ H1 fun xs H2 => rIdxM G.K k v xs H2 Q := fun k hk => by
            refine ⟨wd, env, S1, as, _, I1, e2, fun vs H2 x2 c2 r2 => ?_⟩
            have I2 := I1.next x2 c2
            exact ⟨_, es', e', g, I2.badOk, by rw [← hk]; exact (p.rep.next I1 x2).deref I2.cells e3, derefs_rep I2.cells r2 e4, e6, fun v' H' p' => q _ _ (p'.post I2 (p.ext.trans x2))⟩
          rcases e7 with rfl | rfl
          · refine .inl ⟨.inl ?_, args true rfl⟩
            have : ∃ b, v = .ref b ∧ ∃ xs, SqL G.K H1 b xs := by
              cases x with
              | val d' =>
                cases e3
                obtain ⟨b, xs, hb, h8, _⟩ := (p.rep.deref (S := S1) p.cells rfl).list
                exact ⟨b, hb, xs, h8⟩
              | ref n =>
                rcases p.rep with r | ⟨_, _, _, r, _⟩
                · obtain ⟨b, h8, hb⟩ := r
                  obtain ⟨xs, h9⟩ := I1.ρL (List.mem_of_getElem? h8)
                  exact ⟨b, hb, xs, .inl (.inl h9)⟩
                · cases r
            obtain ⟨b, rfl, xs, h8⟩ := this
            exact .inl ⟨rfl, xs, h8⟩
          · refine .inr ⟨.inr ⟨rfl, ?_⟩, args false rfl⟩
            have ex : x = .val (.tuple es') := by
              cases x with
              | val d => cases e3; rfl
              | ref n =>
                obtain ⟨_, _, z⟩ := Option.map_eq_some_iff.mp e3
                cases z
            have r := p.rep.deref (S := S1) (d := .tuple es') p.cells (by rw [ex]; rfl)
            obtain ⟨b, xs, hb, h8, _⟩ := r.tuple
            exact ⟨b, xs, hb, h8⟩
        · cases ev
    | _ => cases h
end
end Tr


namespace Tr
open PySem L2
open PySem.Spec PyProof.Rows
section
variable {G : Gam}
theorem call_red {σ : L2.St} {H : Hp} {Q : VK} {f : Nat} {wd : Wd} {env : TEnv} {S1 S' : Store} {as : List A} {z : A} {vs : List V} {H1 : Hp} (I : SR G.K G.W wd σ H1 env S1) (x1 : Ext (· ∈ wd.ρ) H H1) (hl : ∀ p ∈ wd.ρ, ∃ xs, H p = some (.lst xs)) (r : RepAs G.K (BadOf G.W wd σ env) H1 wd.ρ vs as)
    (ev : G.C f as S1 = .ok z S') (q : ∀ v H', Post G wd σ env (G.fr f) H z S' v H' → Q v H') : spF G f vs H1 Q E0 := by
  refine ⟨BadOf G.W wd σ env, wd.ρ, S1, as, z, S', I.badOk, fun p h => .inr (.inl h), I.nd, I.cells, r, ev, fun v H' x2 c2 r2 fr => q v H' ⟨x1.trans x2, c2, r2, fun f' ds e => ?_⟩⟩
  obtain ⟨p, xs, e1, e2, e3⟩ := fr f' ds e
  exact ⟨p, xs, e1, x1.none (fun a m => hl a m) e2, e3⟩
theorem Sound.call (f : Nat) (es : List Ex) (hs : ∀ e' ∈ es, Sound G e') : Sound G (.call f es) := by
  refine .plain rfl (fun c m e h => h) (fun c e h => ?_) fun X c e o h => ?_
  · cases e <;> first | rfl | (cases h; done)
  · cases e with
    | Call fn args kws pos =>
      cases fn <;> first | (cases h; done) | skip
      rename_i x p
      rcases kws with _ | _ <;> first | (cases h; done) | skip
      obtain ⟨h1, h2⟩ := ba h
      obtain ⟨h3, h4⟩ := ba h2
      obtain ⟨h5, h6⟩ := ba h4
      obtain ⟨g1, g2⟩ := o.gl h3
      cases e0 : c.fns.lookup f with
      | none => rw [e0] at h1; cases h1
      | some y =>
        obtain ⟨y, np⟩ := y
        rw [e0] at h1
        have e1 := de h1
        obtain ⟨ad, fd, ps, m1, m2, m3, m4⟩ := o.fns f y np e0
        rw [← e1] at m1
        rcases args with _ | ⟨t, ts⟩
        · refine PE.imp (pe_callg0 m4 o.room o.gu g1 m1 m2 m3 g2) fun σ H Q ⟨wd, env, S, z, S', I, ev, q⟩ => ?_
          obtain ⟨as, S1, e1, ev⟩ := R.bind_ok ev
          have : es = [] := by
            cases es with
            | nil => rfl
            | cons _ _ => cases h5
          subst this
          cases e1
          exact call_red I .refl (fun p h => I.ρL h) .nil ev q
        · refine PE.imp (pe_callg m4 o.room o.gu g1 m1 m2 m3 (vals_of hs o h5 h6) g2 h6) fun σ H Q ⟨wd, env, S, z, S', I, ev, q⟩ => ?_
          obtain ⟨as, S1, e1, ev⟩ := R.bind_ok ev
          refine ⟨wd, env, S, as, S1, I, e1, fun vs H1 x1 c1 r1 => ?_⟩
          exact call_red (I.next x1 c1) x1 (fun p h => I.ρL h) r1 ev q
    | _ => cases h

theorem no_val {e' : Ex} (h : ∀ c e, chkE c .val e' e = false) (h2 : ∀ c e, chkE c .bor e' e = false) (hw : ∀ (X : Cx) (c : Ctx) (e tg : Expr), XOk X G c → chkE c (.walk (isTuple tg)) e' e = true → PI X tg e (tI G (isTuple tg) e')) : Sound G e' :=
  ⟨fun X c e o z => (by rw [h] at z; cases z), fun X c e o z => (by rw [h2] at z; cases z), fun X c e o z => (by rw [h] at z; cases z), hw⟩
theorem asInt_int {K : PySem.W.Frag} {Bad : Addr → Prop} {H : Hp} {ρ : List Addr} {S : Store} {v : V} {a : A} {i : Int} (r : RepB K Bad H ρ v a) (cs : Cells K Bad H ρ S) (e : asInt S a = some i) : v = .int i := asInt_rep r cs e
theorem Sound.range1 (a : Ex) (ha : Sound G a) : Sound G (.range1 a) := by
  have no : ∀ (c : Ctx) (m : Mode) (e : Expr), m.walks = false → chkE c m (.range1 a) e = false := fun c m e hm => by
    cases e <;> try rfl
    rename_i fn args kws pos
    cases fn <;> try rfl
    rcases args with _ | ⟨t, _ | _⟩ <;> try rfl
    rcases kws with _ | _ <;> try rfl
    show (decide _ && (m.walks && _)) = false
    rw [hm, Bool.false_and, Bool.and_false]
  refine no_val (fun c e => no c .val e rfl) (fun c e => no c .bor e rfl) fun X c e tg o h => ?_
  cases e <;> first | (cases h; done) | skip
  rename_i fn args kws pos
  cases fn <;> first | (cases h; done) | skip
  rename_i x p
  rcases args with _ | ⟨t, _ | _⟩ <;> first | (cases h; done) | skip
  rcases kws with _ | _ <;> first | (cases h; done) | skip
  obtain ⟨h1, h⟩ := ba h
  obtain ⟨_, h⟩ := ba h
  obtain ⟨h2, h⟩ := ba h
  obtain ⟨h3, h4⟩ := ba h
  have e1 := de h1
  obtain ⟨g1, g2⟩ := o.gl h2
  rw [e1] at g1 ⊢
  refine PI.imp (pi_range1 g1 (o.free _ (by decide)) (pa_cons (ha.bor X c t o h3) pa_nil (star1 h4)) (star1 h4)) fun σ H RR ⟨wd, env, S, z, S', ds, I, ev, ei, q⟩ => ?_
  obtain ⟨y, S1, e1, ev⟩ := R.bind_ok ev
  refine ⟨wd, env, S, y, S1, I, e1, fun v H1 p => ?_⟩
  split at ev
  · rename_i j ej
    split at ev
    · rename_i hj
      cases ev
      cases ei
      exact ⟨j, by rw [asInt_rep p.rep p.cells ej], hj.1, hj.2, q _ _ p.ext p.cells wlk_range⟩
    · cases ev
  · cases ev
theorem Sound.range2 (a b : Ex) (ha : Sound G a) (hb : Sound G b) : Sound G (.range2 a b) := by
  have no : ∀ (c : Ctx) (m : Mode) (e : Expr), m.walks = false → chkE c m (.range2 a b) e = false := fun c m e hm => by
    cases e <;> try rfl
    rename_i fn args kws pos
    cases fn <;> try rfl
    rcases args with _ | ⟨t, _ | ⟨u, _ | _⟩⟩ <;> try rfl
    rcases kws with _ | _ <;> try rfl
    show (decide _ && (m.walks && _)) = false
    rw [hm, Bool.false_and, Bool.and_false]
  refine no_val (fun c e => no c .val e rfl) (fun c e => no c .bor e rfl) fun X c e tg o h => ?_
  cases e <;> first | (cases h; done) | skip
  rename_i fn args kws pos
  cases fn <;> first | (cases h; done) | skip
  rename_i x p
  rcases args with _ | ⟨t, _ | ⟨u, _ | _⟩⟩ <;> first | (cases h; done) | skip
  rcases kws with _ | _ <;> first | (cases h; done) | skip
  obtain ⟨h1, h⟩ := ba h
  obtain ⟨_, h⟩ := ba h
  obtain ⟨h2, h⟩ := ba h
  obtain ⟨h3, h⟩ := ba h
  obtain ⟨h4, h⟩ := ba h
  obtain ⟨h5, h6⟩ := ba h
  have e1 := de h1
  obtain ⟨g1, g2⟩ := o.gl h2
  rw [e1] at g1 ⊢
  refine PI.imp (pi_range2 g1 (o.free _ (by decide)) (pa_cons (ha.bor X c t o h3) (pa_cons (hb.bor X c u o h4) pa_nil (star1 h6)) (star1 h5)) (by rw [star1 h5, star1 h6]; rfl) (star1 h6)) fun σ H RR ⟨wd, env, S, z, S', ds, I, ev, ei, q⟩ => ?_
  obtain ⟨y, S1, e1, ev⟩ := R.bind_ok ev
  obtain ⟨w, S2, e2, ev⟩ := R.bind_ok ev
  refine two_ok (Q := fun v w H2 => ∃ i j : Int, [v, w] = [.int i, .int j] ∧ (-(2 ^ 62) ≤ i ∧ i < 2 ^ 62 ∧ -(2 ^ 62) ≤ j ∧ j < 2 ^ 62) ∧ RR (Itr i (j - i).toNat) H2) I e1 e2 fun v w H2 I2 x2 r1 r2 => ?_
  split at ev
  · rename_i i j ej ek
    split at ev
    · rename_i hj
      cases ev
      cases ei
      exact ⟨i, j, by rw [asInt_rep r1 I2.cells ej, asInt_rep r2 I2.cells ek], hj, q _ _ x2 I2.cells wlk_range⟩
    · cases ev
  · cases ev
theorem Sound.enum (a : Ex) (ha : Sound G a) : Sound G (.enum a) := by
  have no : ∀ (c : Ctx) (m : Mode) (e : Expr), m ≠ .walk true → chkE c m (.enum a) e = false := fun c m e hm => by
    cases e <;> try rfl
    rename_i fn args kws pos
    cases fn <;> try rfl
    rcases args with _ | ⟨t, _ | _⟩ <;> try rfl
    rcases kws with _ | _ <;> try rfl
    show (decide _ && (decide (m = .walk true) && _)) = false
    rw [decide_eq_false hm, Bool.false_and, Bool.and_false]
  refine no_val (fun c e => no c .val e (by simp)) (fun c e => no c .bor e (by simp)) fun X c e tg o h => ?_
  cases tg with
  | Tuple elts kk tpos =>
    cases e <;> first | (cases h; done) | skip
    rename_i fn args kws pos
    cases fn <;> first | (cases h; done) | skip
    rename_i x p
    rcases args with _ | ⟨t, _ | _⟩ <;> first | (cases h; done) | skip
    rcases kws with _ | _ <;> first | (cases h; done) | skip
    obtain ⟨h1, h⟩ := ba h
    obtain ⟨_, h⟩ := ba h
    obtain ⟨h2, h⟩ := ba h
    obtain ⟨h3, h4⟩ := ba h
    have e1 := de h1
    obtain ⟨g1, g2⟩ := o.gl h2
    rw [e1] at g1 ⊢
    refine PI.imp (pi_enum g1 (o.free _ (by decide)) (pa_cons (ha.val X c t o h3) pa_nil (star1 h4)) (star1 h4)) fun σ H RR ⟨wd, env, S, z, S', ds, I, ev, ei, q⟩ => ?_
    obtain ⟨y, S1, e1, ev⟩ := R.bind_ok ev
    refine ⟨wd, env, S, y, S1, I, e1, fun v H1 p => ?_⟩
    have I1 := I.next p.ext p.cells
    split at ev
    · rename_i xs
      cases ev
      cases ei
      cases p.rep with
      | lst h1 h2 =>
        rw [o.K]
        exact ⟨_, _, rfl, h1.sq, q _ _ p.ext p.cells (wlk_enum I1.badOk (fun a z => z.elim (fun z => .inr (.inl z)) (·.1)) h1 h2)⟩
    · cases ev
  | _ =>
    rw [no c _ e (by simp [isTuple])] at h
    cases h
theorem Sound.zip (a b : Ex) (ha : Sound G a) (hb : Sound G b) : Sound G (.zip a b) := by
  have no : ∀ (c : Ctx) (m : Mode) (e : Expr), m ≠ .walk true → chkE c m (.zip a b) e = false := fun c m e hm => by
    cases e <;> try rfl
    rename_i fn args kws pos
    cases fn <;> try rfl
    rcases args with _ | ⟨t, _ | ⟨u, _ | _⟩⟩ <;> try rfl
    rcases kws with _ | _ <;> try rfl
    show (decide _ && (decide (m = .walk true) && _)) = false
    rw [decide_eq_false hm, Bool.false_and, Bool.and_false]
  refine no_val (fun c e => no c .val e (by simp)) (fun c e => no c .bor e (by simp)) fun X c e tg o h => ?_
  cases tg with
  | Tuple elts kk tpos =>
    cases e <;> first | (cases h; done) | skip
    rename_i fn args kws pos
    cases fn <;> first | (cases h; done) | skip
    rename_i x p
    rcases args with _ | ⟨t, _ | ⟨u, _ | _⟩⟩ <;> first | (cases h; done) | skip
    rcases kws with _ | _ <;> first | (cases h; done) | skip
    obtain ⟨h1, h⟩ := ba h
    obtain ⟨_, h⟩ := ba h
    obtain ⟨h2, h⟩ := ba h
    obtain ⟨h3, h⟩ := ba h
    obtain ⟨h4, h⟩ := ba h
    obtain ⟨h5, h6⟩ := ba h
    have e1 := de h1
    obtain ⟨g1, g2⟩ := o.gl h2
    rw [e1] at g1 ⊢
    have st : [u].all noStar = true := by simp [h6]
    refine PI.imp (pi_zip g1 (o.free _ (by decide)) (pa_cons (ha.val X c t o h3) (pa_cons (hb.val X c u o h4) pa_nil (star1 h6)) (star1 h5)) (star1 h5) (stars st)) fun σ H RR ⟨wd, env, S, z, S', ds, I, ev, ei, q⟩ => ?_
    obtain ⟨y, S1, e1, ev⟩ := R.bind_ok ev
    obtain ⟨w, S2, e2, ev⟩ := R.bind_ok ev
    refine ⟨wd, env, S, y, S1, I, e1, fun v1 H1 p1 => ?_⟩
    have I1 := I.next p1.ext p1.cells
    refine ⟨wd, env, S1, w, S2, I1, e2, fun v2 H2 p2 => ?_⟩
    have I2 := I1.next p2.ext p2.cells
    split at ev
    · rename_i xs ys
      cases ev
      cases ei
      have r1 := RepA.next I1 p2.ext p1.rep
      cases r1 with
      | lst h1 h2 =>
        cases p2.rep with
        | lst h3 h4 =>
          rw [o.K]
          exact ⟨_, _, _, _, rfl, h1.sq, h3.sq, q _ _ (p1.ext.trans p2.ext) p2.cells (wlk_zip I2.badOk (fun a z => z.elim (fun z => .inr (.inl z)) (·.1)) h1 h3 h2 h4)⟩
    · cases ev
  | _ =>
    rw [no c _ e (by simp [isTuple])] at h
    cases h
end
end Tr


namespace Tr
open PySem L2
open PySem.Spec PyProof.Rows

def setS (σ : L2.St) : List Nat → List V → L2.St
  | i :: is, v :: vs => setS (σ.set i (some v)) is vs
  | _, _ => σ
def setE (env : TEnv) : List Nat → List PyData → TEnv
  | i :: is, d :: ds => setE (env.set i (some (.val d))) is ds
  | _, _ => env
def wipeE (env : TEnv) : List Nat → TEnv
  | [] => env
  | v :: vs => (wipeE env vs).set v none
theorem setE_fold : ∀ (is : List Nat) (ds : List PyData) (env : TEnv), (is.zip ds).foldl (fun e p => e.set p.1 (some (.val p.2))) env = setE env is ds
  | [], _, _ => rfl
  | _ :: _, [], _ => rfl
  | i :: is, d :: ds, env => setE_fold is ds _
theorem setS_len : ∀ (is : List Nat) (vs : List V) (σ : L2.St), (setS σ is vs).length = σ.length
  | [], _, _ => rfl
  | _ :: _, [], _ => rfl
  | i :: is, v :: vs, σ => by
    show (setS (σ.set i (some v)) is vs).length = _
    rw [setS_len is vs, List.length_set]
theorem setE_len : ∀ (is : List Nat) (vs : List PyData) (σ : TEnv), (setE σ is vs).length = σ.length
  | [], _, _ => rfl
  | _ :: _, [], _ => rfl
  | i :: is, v :: vs, σ => by
    show (setE (σ.set i (some (.val v))) is vs).length = _
    rw [setE_len is vs, List.length_set]
theorem setS_out : ∀ (is : List Nat) (vs : List V) (σ : L2.St) (j : Nat), j ∉ is → (setS σ is vs)[j]? = σ[j]?
  | [], _, _, _, _ => rfl
  | _ :: _, [], _, _, _ => rfl
  | i :: is, v :: vs, σ, j, h => by
    show (setS (σ.set i (some v)) is vs)[j]? = _
    rw [setS_out is vs _ j fun z => h (List.mem_cons_of_mem _ z), List.getElem?_set_ne fun (z : i = j) => h (z ▸ List.mem_cons_self)]
theorem setE_out : ∀ (is : List Nat) (vs : List PyData) (σ : TEnv) (j : Nat), j ∉ is → (setE σ is vs)[j]? = σ[j]?
  | [], _, _, _, _ => rfl
  | _ :: _, [], _, _, _ => rfl
  | i :: is, v :: vs, σ, j, h => by
    show (setE (σ.set i (some (.val v))) is vs)[j]? = _
    rw [setE_out is vs _ j fun z => h (List.mem_cons_of_mem _ z), List.getElem?_set_ne fun (z : i = j) => h (z ▸ List.mem_cons_self)]
theorem setE_same : ∀ (is : List Nat) (ds : List PyData) (e1 e2 : TEnv), e1.length = e2.length → (∀ j, j ∉ is → e1[j]? = e2[j]?) → is.length = ds.length → setE e1 is ds = setE e2 is ds
  | [], [], e1, e2, _, h, _ => List.ext_getElem? fun j => h j (by simp)
  | [], _ :: _, _, _, _, _, h => by simp at h
  | _ :: _, [], _, _, _, _, h => by simp at h
  | i :: is, d :: ds, e1, e2, hl, h, hd => by
    refine setE_same is ds _ _ (by simp [hl]) (fun j hj => ?_) (by simpa using hd)
    by_cases e : i = j
    · subst e
      by_cases hi : i < e1.length
      · rw [List.getElem?_set_self hi, List.getElem?_set_self (by rw [← hl]; exact hi)]
      · rw [List.getElem?_eq_none (by simpa using hi), List.getElem?_eq_none (by simpa [← hl] using hi)]
    · rw [List.getElem?_set_ne e, List.getElem?_set_ne e]
      exact h j fun z => (List.mem_cons.mp z).elim (fun z => e z.symm) hj
theorem wipe_at : ∀ (is : List Nat) (σ : L2.St) (j : Nat), (wipe σ is)[j]? = if j ∈ is then (if j < σ.length then some none else none) else σ[j]?
  | [], σ, j => by simp [wipe]
  | i :: is, σ, j => by
    unfold wipe
    by_cases e : i = j
    · subst e
      rw [if_pos List.mem_cons_self]
      by_cases hi : i < σ.length
      · rw [if_pos hi, List.getElem?_set_self (by rw [wipe_length]; exact hi)]
      · rw [if_neg hi, List.getElem?_eq_none (by simpa [wipe_length] using hi)]
    · rw [List.getElem?_set_ne e, wipe_at is σ j]
      by_cases hj : j ∈ is
      · rw [if_pos hj, if_pos (List.mem_cons_of_mem _ hj)]
      · rw [if_neg hj, if_neg fun z => (List.mem_cons.mp z).elim (fun z => e z.symm) hj]
theorem wipe_same {is : List Nat} {σ τ : L2.St} (hl : σ.length = τ.length) (h : ∀ j, j ∉ is → σ[j]? = τ[j]?) : wipe σ is = wipe τ is := by
  refine List.ext_getElem? fun j => ?_
  rw [wipe_at, wipe_at, hl]
  split
  · rfl
  · rename_i hj
    exact h j hj
theorem wipeE_len : ∀ (is : List Nat) (σ : TEnv), (wipeE σ is).length = σ.length
  | [], _ => rfl
  | i :: is, σ => by
    show ((wipeE σ is).set i none).length = _
    rw [List.length_set, wipeE_len is σ]
theorem wipeE_in : ∀ (is : List Nat) (σ : TEnv) (j : Nat) (a : A), (wipeE σ is)[j]? = some (some a) → j ∉ is ∧ σ[j]? = some (some a)
  | [], _, _, _, h => ⟨by simp, h⟩
  | i :: is, σ, j, a, h => by
    have h' : ((wipeE σ is).set i none)[j]? = some (some a) := h
    by_cases e : i = j
    · subst e
      by_cases hi : i < (wipeE σ is).length
      · rw [List.getElem?_set_self hi] at h'; cases h'
      · rw [List.getElem?_eq_none (by simpa using hi)] at h'; cases h'
    · rw [List.getElem?_set_ne e] at h'
      obtain ⟨h1, h2⟩ := wipeE_in is σ j a h'
      exact ⟨fun z => (List.mem_cons.mp z).elim (fun z => e z.symm) h1, h2⟩
theorem wipeE_out : ∀ (is : List Nat) (σ : TEnv) (j : Nat), j ∉ is → (wipeE σ is)[j]? = σ[j]?
  | [], _, _, _ => rfl
  | i :: is, σ, j, h => by
    show ((wipeE σ is).set i none)[j]? = _
    rw [List.getElem?_set_ne fun (z : i = j) => h (z ▸ List.mem_cons_self), wipeE_out is σ j fun z => h (List.mem_cons_of_mem _ z)]

section
variable {K : PySem.W.Frag} {W : List Nat} {wd : Wd} {σ τ : L2.St} {H : Hp} {env env' : TEnv} {S : Store}
/-- the names with lists of their own are as they were -/
theorem own_same (h1 : ∀ i ∈ W, τ[i]? = σ[i]?) (h2 : ∀ i ∈ W, env'[i]? = env[i]?) : OwnAt W τ env' = OwnAt W σ env := by
  funext i p
  refine propext ⟨fun ⟨a, b, c⟩ => ⟨a, ?_, ?_⟩, fun ⟨a, b, c⟩ => ⟨a, ?_, ?_⟩⟩
  · rw [← h2 i a]; exact b
  · rw [← h1 i a]; exact c
  · rw [h2 i a]; exact b
  · rw [h1 i a]; exact c
theorem bad_same (h1 : ∀ i ∈ W, τ[i]? = σ[i]?) (h2 : ∀ i ∈ W, env'[i]? = env[i]?) : BadOf W wd τ env' = BadOf W wd σ env := by
  unfold BadOf Own
  rw [own_same h1 h2]
/-- other names, the same own lists -/
theorem SR.names (I : SR K W wd σ H env S) (hl : env'.length = τ.length) (h1 : ∀ i ∈ W, τ[i]? = σ[i]?) (h2 : ∀ i ∈ W, env'[i]? = env[i]?)
    (hv : ∀ (i : Nat) (a : A), i ∉ W → env'[i]? = some (some a) → ∃ v, τ[i]? = some (some v) ∧ RepA K (BadOf W wd σ env) H wd.ρ v a) : SR K W wd τ H env' S := by
  have eb := bad_same (wd := wd) h1 h2
  have eo := own_same h1 h2
  have eo' : Own W τ env' = Own W σ env := by unfold Own; rw [eo]
  refine ⟨hl, fun i a h => ?_, by rw [eo]; exact I.dist, by rw [eo']; exact I.ownL, by rw [eo]; exact I.ownM, by rw [eo']; exact I.ownB, by rw [eo']; exact I.ownρ, I.b0, by rw [eb]; exact I.cells, I.nd, I.ρM, I.mL, I.ext⟩
  rw [eb]
  by_cases hi : i ∈ W
  · rw [h2 i hi] at h
    rw [h1 i hi]
    exact I.var i a h
  · obtain ⟨v, q1, q2⟩ := hv i a hi h
    exact ⟨v, q1, .inl ⟨q2, fun z => absurd z hi⟩⟩
theorem SR.wipe (I : SR K W wd σ H env S) {is : List Nat} (hw : ∀ i ∈ is, i ∉ W) : SR K W wd (L2.wipe σ is) H (wipeE env is) S := by
  refine I.names (by rw [wipeE_len, wipe_length]; exact I.len) (fun i hi => ?_) (fun i hi => wipeE_out is env i fun z => hw i z hi) fun i a hi h => ?_
  · rw [wipe_at, if_neg fun z => hw i z hi]
  · obtain ⟨h1, h2⟩ := wipeE_in is env i a h
    obtain ⟨v, q1, q2⟩ := I.var i a h2
    refine ⟨v, by rw [wipe_at, if_neg h1]; exact q1, q2.elim (·.1) fun z => absurd z.1 hi⟩
theorem SR.set1 (I : SR K W wd σ H env S) {i : Nat} {v : V} {a : A} (hw : i ∉ W) (r : RepA K (BadOf W wd σ env) H wd.ρ v a) : SR K W wd (σ.set i (some v)) H (env.set i (some a)) S := by
  have ne : ∀ j ∈ W, i ≠ j := fun j hj e => hw (e ▸ hj)
  refine I.names (by simp [I.len]) (fun j hj => List.getElem?_set_ne (ne j hj)) (fun j hj => List.getElem?_set_ne (ne j hj)) fun j b hj h => ?_
  by_cases e : i = j
  · subst e
    have hi : i < env.length := by
      by_cases hi : i < env.length
      · exact hi
      · rw [List.getElem?_eq_none (by simpa using hi)] at h; cases h
    rw [List.getElem?_set_self hi] at h
    cases h
    exact ⟨v, List.getElem?_set_self (by rw [← I.len]; exact hi), r⟩
  · rw [List.getElem?_set_ne e] at h ⊢
    obtain ⟨w, q1, q2⟩ := I.var j b h
    exact ⟨w, q1, q2.elim (·.1) fun z => absurd z.1 hj⟩
theorem SR.bind : ∀ {is : List Nat} {vs : List V} {ds : List PyData} {σ : L2.St} {env : TEnv}, SR K W wd σ H env S → (∀ i ∈ is, i ∉ W) → Reps K (BadOf W wd σ env) H vs ds → SR K W wd (setS σ is vs) H (setE env is ds) S
  | [], _, _, _, _, I, _, _ => I
  | _ :: _, _, _, _, _, I, _, .nil => I
  | i :: is, _, _, σ, env, I, hw, .cons (v := v) (d := d) h t => by
    have hi := hw i List.mem_cons_self
    have I1 := I.set1 (a := .val d) hi h
    refine SR.bind (is := is) I1 (fun j hj => hw j (List.mem_cons_of_mem _ hj)) ?_
    have ne : ∀ j ∈ W, i ≠ j := fun j hj e => hi (e ▸ hj)
    rw [bad_same (fun j hj => List.getElem?_set_ne (ne j hj)) (fun j hj => List.getElem?_set_ne (ne j hj))]
    exact t
/-- a list of the callers' is changed (one that stood not at the start) -/
theorem SR.poke (I : SR K W wd σ H env S) {p : Addr} {xs ys : List V} (h : H p = some (.lst xs)) (hb : wd.B0 p) (hρ : p ∉ wd.ρ) (he : wd.He p = none) : SR K W wd σ (upd H p (.lst ys)) env S := by
  have e : Ext (fun a => a = p) H (upd H p (.lst ys)) := .put h rfl
  have hM : ∀ a, a = p → BadOf W wd σ env a ∨ H a = none := fun a z => .inl (z ▸ .inl hb)
  refine ⟨I.len, fun i a q => ?_, I.dist, fun q h' => ?_, I.ownM, I.ownB, I.ownρ, fun q h' => ?_, I.cells.ext I.badOk hM e (fun a z => .inl z) fun a ha z => hρ (z ▸ ha), I.nd, I.ρM, I.mL, ⟨fun a o q n => ?_, fun a zs q => ?_⟩⟩
  · obtain ⟨v, h1, h2⟩ := I.var i a q
    refine ⟨v, h1, ?_⟩
    rcases h2 with ⟨h2, hn⟩ | ⟨hw, ds, p', zs, rfl, rfl, h3, h4⟩
    · refine .inl ⟨?_, hn⟩
      cases a with
      | val d => exact Rep.ext I.badOk hM e (fun a z => .inl z) h2
      | ref n => exact h2
    · right
      refine ⟨hw, ds, p', zs, rfl, rfl, e.keep _ _ h3 fun z => ?_, h4.ext I.badOk hM e fun a z => .inl z⟩
      subst z
      exact I.ownB p' ⟨i, hw, ⟨ds, q⟩, h1⟩ hb
  · obtain ⟨zs, w⟩ := I.ownL q h'
    exact e.lsts q zs w
  · obtain ⟨zs, w⟩ := I.b0 q h'
    exact e.lsts q zs w
  · refine e.keep _ _ (I.ext.keep a o q n) fun z => ?_
    subst z
    rw [he] at q; cases q
  · obtain ⟨ws, w⟩ := I.ext.lsts a zs q
    exact e.lsts a ws w
/-- one more list of the callers' -/
theorem SR.more (I : SR K W wd σ H env S) {p : Addr} {xs : List V} (h : H p = none) : SR K W { wd with B0 := fun a => wd.B0 a ∨ a = p } σ (upd H p (.lst xs)) env S := by
  have e : Ext (fun _ => False) H (upd H p (.lst xs)) := .new h
  have hM : ∀ a, False → BadOf W wd σ env a ∨ H a = none := fun a z => z.elim
  have np : ∀ a, Own W σ env a → a ≠ p := fun a o z => by
    obtain ⟨zs, w⟩ := I.ownL a o
    rw [z, h] at w; cases w
  have hb : ∀ a, BadOf W { wd with B0 := fun a => wd.B0 a ∨ a = p } σ env a → BadOf W wd σ env a ∨ H a = none := fun a z => by
    rcases z with (z | z) | z
    · exact .inl (.inl z)
    · exact .inr (by rw [z]; exact h)
    · exact .inl (.inr z)
  refine ⟨I.len, fun i a q => ?_, I.dist, fun q h' => ?_, I.ownM, fun q h' z => z.elim (I.ownB q h') (np q h'), I.ownρ, fun q h' => ?_, I.cells.ext I.badOk hM e hb fun _ _ z => z, I.nd, I.ρM, I.mL, I.ext.trans (e.mono fun _ z => z.elim)⟩
  · obtain ⟨v, h1, h2⟩ := I.var i a q
    refine ⟨v, h1, ?_⟩
    rcases h2 with ⟨h2, hn⟩ | ⟨hw, ds, p', zs, rfl, rfl, h3, h4⟩
    · refine .inl ⟨?_, hn⟩
      cases a with
      | val d => exact Rep.ext I.badOk hM e hb h2
      | ref n => exact h2
    · exact .inr ⟨hw, ds, p', zs, rfl, rfl, e.keep _ _ h3 fun z => z, h4.ext I.badOk hM e hb⟩
  · obtain ⟨zs, w⟩ := I.ownL q h'
    exact e.lsts q zs w
  · rcases h' with h' | h'
    · obtain ⟨zs, w⟩ := I.b0 q h'
      exact e.lsts q zs w
    · exact ⟨xs, by rw [h']; exact upd_same⟩
end

section
variable {X : Cx} {G : Gam} {c : Ctx}
theorem PG.or {tg : Expr} {g g' : TG} (h : PG X tg g) (h' : PG X tg g') : PG X tg (fun v σ H Q => g v σ H Q ∨ g' v σ H Q) :=
  ⟨fun pins s σ H v u Q I r q => q.elim (h.run pins s σ H v u Q I r) (h'.run pins s σ H v u Q I r)⟩
theorem tg1 (o : XOk X G c) {i : Nat} {x : Str} {pos : Pos} (h : tgB c i x = true) : PG X (.Name x pos) (gName i) ∧ i ∉ G.W := by
  obtain ⟨h1, h⟩ := ba h
  obtain ⟨h2, h3⟩ := ba h
  have nd : X.N.Nodup := by rw [o.N]; exact o.nd
  have hi : X.N[i]? = some x := by rw [o.N]; exact de h1
  refine ⟨?_, fun z => ?_⟩
  · split at h3
    · rename_i e
      exact pg_name nd hi (.inl (by rw [o.sc]; exact e)) (.inr (by rw [o.sc]; exact e))
    · rename_i e
      exact pg_name nd hi (.inr (by rw [o.sc]; exact e)) (.inl (o.fn x h3))
    · cases h3
  · rw [← o.W] at z
    simp [z] at h2
def gAll : List Nat → TGs
  | [] => gNil
  | i :: is => gCons (gName i) (gAll is)
theorem tgs_ok (o : XOk X G c) : ∀ {is : List Nat} {es : List Expr}, tgsB c is es = true → PGs X es (gAll is) ∧ (∀ i ∈ is, i ∉ G.W) ∧ (assignEach es X.env).length = is.length ∧ (assignEach es X.env).findIdx? (·.1) = none
  | [], [], _ => ⟨pgs_nil, (fun _ h => (nomatch h)), rfl, rfl⟩
  | [], _ :: _, h => by cases h
  | _ :: _, [], h => by cases h
  | i :: is, e :: es, h => by
    cases e <;> first | (cases h; done) | skip
    rename_i x pos
    obtain ⟨h1, h2⟩ := ba h
    obtain ⟨q1, q2⟩ := tg1 (pos := pos) o h1
    obtain ⟨r1, r2, r3, r4⟩ := tgs_ok o h2
    refine ⟨pgs_cons q1 r1 rfl, fun j hj => ?_, ?_, ?_⟩
    · rcases List.mem_cons.mp hj with z | z
      · rw [z]; exact q2
      · exact r2 j z
    · show (assignEach es X.env).length + 1 = _
      rw [r3]; rfl
    · show ((false, _) :: assignEach es X.env).findIdx? (·.1) = none
      rw [List.findIdx?_cons, r4]
      rfl
theorem gAll_ok {Q : L2.St → Hp → Prop} {H : Hp} : ∀ {is : List Nat} {vs : List V} {σ : L2.St}, is.length = vs.length → Q (setS σ is vs) H → gAll is vs σ H Q
  | [], [], _, _, q => ⟨rfl, q⟩
  | [], _ :: _, _, h, _ => by simp at h
  | _ :: _, [], _, h, _ => by simp at h
  | i :: is, v :: vs, σ, h, q => ⟨v, vs, rfl, gAll_ok (by simpa using h) q⟩
/-- the parts that the names of a target take -/
def takes (is : List Nat) (d : PyData) (ds : List PyData) : Prop := match is with
  | [_] => ds = [d]
  | _ => (d = .tuple ds ∨ d = .list ds) ∧ is.length = ds.length
/-- what a target asks: values for its names -/
def gT (K : PySem.W.Frag) (k : Bool) (is : List Nat) : TG := fun v σ H Q => ∃ Bad d ds, RepI K Bad H v d ∧ (k = false → Rep K Bad H v d) ∧ takes is d ds ∧ ∀ vs, Reps K Bad H vs ds → Q (setS σ is vs) H
theorem RepI.rep {K : PySem.W.Frag} {Bad : Addr → Prop} {H : Hp} {v : V} {d : PyData} (h : RepI K Bad H v d) (hd : ∀ ds, d ≠ .tuple ds) : Rep K Bad H v d := by
  cases h with
  | of h => exact h
  | tup _ _ _ _ => exact absurd rfl (hd _)
theorem pg_ok (o : XOk X G c) {is : List Nat} {tg : Expr} (h : tgtB c is tg = true) : PG X tg (gT G.K (isTuple tg) is) ∧ ∀ i ∈ is, i ∉ G.W := by
  match is, tg, h with
  | [i], .Name x pos, h =>
    obtain ⟨q1, q2⟩ := tg1 (pos := pos) o h
    refine ⟨⟨fun pins s σ H v u Q I r ⟨Bad, d, ds, _, q, t, w⟩ => q1.run pins s σ H v u Q I r (w [v] ?_)⟩, fun j hj => ?_⟩
    · have t : ds = [d] := t
      rw [t]
      exact .cons (q rfl) .nil
    · have e : j = i := by simpa using hj
      rw [e]
      exact q2
  | i :: j :: r, .Tuple es k pos, h =>
    obtain ⟨h1, _⟩ := ba h
    obtain ⟨q1, q2, q3, q4⟩ := tgs_ok o h1
    refine ⟨?_, q2⟩
    have pg := PG.or (pg_tup (k := k) (pos := pos) o.calm q1 q3 q4) (pg_unl (k := k) (pos := pos) o.calm q1 q3 q4)
    refine ⟨fun pins s σ H v u Q I rv ⟨Bad, d, ds, q, _, ⟨e, hl⟩, w⟩ => pg.run pins s σ H v u Q I rv ?_⟩
    rw [o.K]
    rcases e with rfl | rfl
    · left
      cases q with
      | of q =>
        cases q with
        | tup g1 g2 => exact ⟨_, _, rfl, g1.sq, by rw [g2.length, ← hl], gAll_ok (by rw [g2.length, ← hl]) (w _ g2)⟩
      | tup e1 g1 _ g2 => exact ⟨_, _, e1, g1, by rw [g2.length, ← hl], gAll_ok (by rw [g2.length, ← hl]) (w _ g2)⟩
    · right
      cases q.rep (fun _ z => nomatch z) with
      | lst g1 g2 => exact ⟨_, _, rfl, g1.sq, by rw [g2.length, ← hl], gAll_ok (by rw [g2.length, ← hl]) (w _ g2)⟩
end
theorem takes_len {is : List Nat} {d : PyData} {ds : List PyData} (h : takes is d ds) : is.length = ds.length := by
  unfold takes at h
  split at h
  · rw [h]; rfl
  · exact h.2
theorem if_some {α : Type} {p : Prop} [Decidable p] {x y : α} (h : (if p then some x else none) = some y) : p ∧ y = x := by
  split at h
  · cases h; exact ⟨by assumption, rfl⟩
  · cases h
theorem bindT_tup {i j : Nat} {r : List Nat} {ds : List PyData} {env : TEnv} : bindT (i :: j :: r) (.tuple ds) env = if (i :: j :: r).length = ds.length then some (((i :: j :: r).zip ds).foldl (fun e p => e.set p.1 (some (.val p.2))) env) else none := by
  unfold bindT
  rfl
theorem bindT_lst {i j : Nat} {r : List Nat} {ds : List PyData} {env : TEnv} : bindT (i :: j :: r) (.list ds) env = if (i :: j :: r).length = ds.length then some (((i :: j :: r).zip ds).foldl (fun e p => e.set p.1 (some (.val p.2))) env) else none := by
  unfold bindT
  rfl
theorem bindT_takes {is : List Nat} {d : PyData} {env env' : TEnv} (h : bindT is d env = some env') : ∃ ds, takes is d ds ∧ env' = setE env is ds := by
  match is with
  | [i] => cases h; exact ⟨[d], rfl, rfl⟩
  | [] =>
    cases d with
    | tuple ds =>
      obtain ⟨e, rfl⟩ := if_some (p := ([] : List Nat).length = ds.length) (x := (([] : List Nat).zip ds).foldl (fun e p => e.set p.1 (some (.val p.2))) env) h
      exact ⟨ds, ⟨.inl rfl, e⟩, rfl⟩
    | list ds =>
      obtain ⟨e, rfl⟩ := if_some (p := ([] : List Nat).length = ds.length) (x := (([] : List Nat).zip ds).foldl (fun e p => e.set p.1 (some (.val p.2))) env) h
      exact ⟨ds, ⟨.inr rfl, e⟩, rfl⟩
    | _ => cases h
  | i :: j :: r =>
    cases d with
    | tuple ds =>
      rw [bindT_tup] at h
      obtain ⟨e, rfl⟩ := if_some h
      exact ⟨ds, ⟨.inl rfl, e⟩, setE_fold _ _ _⟩
    | list ds =>
      rw [bindT_lst] at h
      obtain ⟨e, rfl⟩ := if_some h
      exact ⟨ds, ⟨.inr rfl, e⟩, setE_fold _ _ _⟩
    | _ => cases h
end Tr


namespace Tr
open PySem L2
open PySem.Spec PyProof.Rows

section
variable {X : Cx} {G : Gam} {c : Ctx}
/-- a clause's tests -/
def tC (G : Gam) : Option Ex → TT
  | none => tYes
  | some a => tT G a
theorem pts_ok (o : XOk X G c) {cd : Option Ex} {ifs : List Expr} (hc : ∀ a, cd = some a → Sound G a) (h : chkC c cd ifs = true) : PTs X ifs (tC G cd) := by
  match cd, ifs, h with
  | none, [], _ => exact pts_nil
  | some a, [e], h => exact pts_one ((hc a rfl).tst X c e o h)
theorem tC_red {cd : Option Ex} {wd : Wd} {σ : L2.St} {H : Hp} {env : TEnv} {S S' : Store} {k : Bool} {Q : Bool → Hp → Prop} (I : SR G.K G.W wd σ H env S) (e : evalC G.C cd env S = .ok k S')
    (q : ∀ H', Ext (· ∈ wd.ρ) H H' → Cells G.K (BadOf G.W wd σ env) H' wd.ρ S' → Q k H') : tC G cd σ H Q := by
  cases cd with
  | none =>
    cases e
    exact q H .refl I.cells
  | some a =>
    obtain ⟨b, S1, e1, e2⟩ := R.bind_ok e
    obtain ⟨e3, rfl⟩ := R.lift_ok e2
    cases b with
    | ref n => cases e3
    | val d =>
      cases d <;> first | (cases e3; done) | skip
      cases e3
      exact ⟨wd, env, S, _, _, I, e1, q⟩
theorem XOk.blk (o : XOk X G c) {s : Shared} {H : Hp} {scope : Scope} {C : Addr} {cl : List (Str × Addr)} {fp : List Addr} : XOk (X.blk s H scope (compEnvC scope cl C X.env) fp) G (ctxIn c scope) :=
  ⟨o.N, o.nd, by show relS scope X.env.scope = relS scope c.sc; rw [o.sc], fun x h => h, o.W, o.calm, o.K, o.room, o.gu, o.fns, o.cons, o.free⟩
theorem fold_no {i : Expr} (h : noSet i = true) {env : Env} (x : Value) : foldedSetIterable i env x = pure x := by
  cases i <;> first | rfl | (cases h; done)

/-- without the new list -/
theorem Ext.less {ρ : List Addr} {H H' : Hp} {D : Addr} (e : Ext (fun a => a ∈ ρ ∨ a = D) H H') (h : H D = Option.none) : Ext (· ∈ ρ) H H' :=
  ⟨fun a o q n => e.keep a o q fun z => z.elim n fun z => (by rw [z, h] at q; cases q), e.lsts⟩

/-- a turn's f -/
def compF (C : Calls) (tg : List Nat) (cd : Option Ex) (el : Ex) (env : TEnv) : PyData → Store → R (Option PyData) := fun d S => match bindT tg d env with
  | some env' => (evalC C cd env' S).bind fun k S => if k = true then (evalE C el env' S).bind fun y S => match y with
      | .val d => .ok (some d) S
      | .ref _ => .err
    else .ok none S
  | none => .err
theorem compF_ok {C : Calls} {tg : List Nat} {cd : Option Ex} {el : Ex} {env : TEnv} {d : PyData} {S S' : Store} {r : Option PyData} (h : compF C tg cd el env d S = .ok r S') :
    ∃ ds k S1, takes tg d ds ∧ evalC C cd (setE env tg ds) S = .ok k S1 ∧ ((k = true ∧ ∃ y, r = some y ∧ evalE C el (setE env tg ds) S1 = .ok (.val y) S') ∨ (k = false ∧ r = none ∧ S' = S1)) := by
  unfold compF at h
  split at h
  · rename_i env' e
    obtain ⟨ds, h1, rfl⟩ := bindT_takes e
    obtain ⟨k, S1, h2, h3⟩ := R.bind_ok h
    refine ⟨ds, k, S1, h1, h2, ?_⟩
    cases k with
    | true =>
      rw [if_pos rfl] at h3
      obtain ⟨y, S2, h4, h5⟩ := R.bind_ok h3
      cases y with
      | ref n => cases h5
      | val y => cases h5; exact .inl ⟨rfl, y, rfl, h4⟩
    | false =>
      rw [if_neg (by simp)] at h3
      cases h3
      exact .inr ⟨rfl, rfl, rfl⟩
  · cases h
theorem ownOf_snd {is : List Nat} : (ownOf c is).map (·.2) = is := by
  unfold ownOf
  rw [List.map_map]
  exact List.map_id _

theorem lc_red {tg : List Nat} {it : Ex} {cd : Option Ex} {el : Ex} {k : Bool} (hw : ∀ i ∈ tg, i ∉ G.W) (σ : L2.St) (H : Hp) (Q : VK) (h : tE G (.comp tg it cd el) σ H Q) : tLc (tI G k it) (gT G.K k tg) (tC G cd) (tE G el) tg σ H Q := by
  obtain ⟨wd, env, S, a, S', I, ev, q⟩ := h
  obtain ⟨x, S0, e1, ev1⟩ := R.bind_ok ev
  obtain ⟨ds, S1, e2, ev2⟩ := R.bind_ok ev1
  obtain ⟨e2', e3⟩ := R.lift_ok e2
  subst e3
  by_cases hlen : ds.length ≤ sizeLine
  rotate_left
  · rw [if_neg hlen] at ev2
    cases ev2
  rw [if_pos hlen] at ev2
  obtain ⟨ys, S2, ec, ev3⟩ := R.bind_ok ev2
  cases ev3
  have ec : collect (compF G.C tg cd el env) ds S1 = .ok ys S' := ec
  refine ⟨wd, env, S, x, S1, ds, I, e1, e2', fun J H1 x1 c1 w => fun D hD => ?_⟩
  have I1 := I.next x1 c1
  obtain ⟨Gd, Y, wk, hG, hY⟩ := w
  generalize hwd : ({ wd with B0 := fun a => wd.B0 a ∨ a = D } : Wd) = wd'
  have hρ : wd'.ρ = wd.ρ := by rw [← hwd]
  have hHe : wd'.He = wd.He := by rw [← hwd]
  have hB0 : ∀ a, wd'.B0 a ↔ (wd.B0 a ∨ a = D) := fun a => by rw [← hwd]
  have hD0 : wd'.He D = none := by rw [hHe]; exact I1.ext.none I1.mL hD
  have hDρ : D ∉ wd'.ρ := fun m => by
    obtain ⟨zs, z⟩ := I1.ρL (hρ ▸ m)
    rw [hD] at z; cases z
  have I2 : SR G.K G.W wd' σ (upd H1 D (.lst [])) env S1 := hwd ▸ I1.more hD
  have hb : ∀ a, BadOf G.W wd' σ env a → BadOf G.W wd σ env a ∨ H1 a = none := fun a z => by
    rcases z with z | z | z
    · rcases (hB0 a).mp z with z | z
      · exact .inl (.inl z)
      · exact .inr (by rw [z]; exact hD)
    · exact .inl (.inr (.inl (hρ ▸ z)))
    · exact .inl (.inr (.inr z))
  have hbb : ∀ a, (BadOf G.W wd σ env a ∨ a = D) → BadOf G.W wd' σ env a := fun a z => by
    rcases z with (z | z | z) | z
    · exact .inl ((hB0 a).mpr (.inl z))
    · exact .inr (.inl (hρ ▸ z))
    · exact .inr (.inr z)
    · exact .inl ((hB0 a).mpr (.inr z))
  have hB : BadOf G.W wd' σ env D := hbb D (.inr rfl)
  have hM : ∀ a, (a ∈ wd.ρ ∨ a = D) → (a ∈ wd.ρ ∨ (BadOf G.W wd σ env a ∧ ∀ i, it = .own i → ¬ OwnAt G.W σ env i a)) ∨ H1 a = none := fun a z => z.elim (fun z => .inl (.inl z)) fun z => .inr (by rw [z]; exact hD)
  refine lc_it wk (fun j H2 => ∃ Sj acc zs rest, Ext (fun a => a ∈ wd.ρ ∨ a = D) H1 H2 ∧ SR G.K G.W wd' σ H2 env Sj ∧ H2 D = some (.lst acc) ∧ Reps G.K (BadOf G.W wd' σ env) H2 acc zs ∧ zs.length ≤ j ∧
    collect (compF G.C tg cd el env) (ds.drop j) Sj = .ok rest S' ∧ zs ++ rest = ys)
    ⟨S1, [], [], ys, .new hD, I2, upd_same, .nil, Nat.le_refl _, ec, rfl⟩ (fun j H2 _ ⟨_, _, _, _, p, _⟩ => hG _ H2 hM p) (fun j v H2 H3 hj ⟨Sj, acc, zs, rest, p1, p2, p3, p4, p5, p6, p7⟩ y => ?_) fun H2 ⟨Sj, acc, zs, rest, p1, p2, p3, p4, p5, p6, p7⟩ => ?_
  · obtain ⟨nw, d, y1, y2, y3⟩ := hY _ _ H2 j v H3 hM p1 hb p2.badOk hj y
    have I3 : SR G.K G.W wd' σ H3 env Sj := p2.next nw.ext (p2.cells.ext (M := fun _ => False) p2.badOk (fun _ z => z.elim) nw.ext (fun a z => .inl z) fun _ _ z => z)
    have hdr : ds.drop j = d :: ds.drop (j + 1) := by
      obtain ⟨hj', e⟩ := List.getElem?_eq_some_iff.mp y1
      rw [List.drop_eq_getElem_cons hj', e]
    rw [hdr] at p6
    obtain ⟨r, S3, f1, f2⟩ := R.bind_ok p6
    obtain ⟨rest', S4, f3, f4⟩ := R.bind_ok f2
    obtain ⟨dsx, k, S5, g1, g2, g3⟩ := compF_ok f1
    refine ⟨_, d, dsx, y2, y3, g1, fun vs hvs => ⟨?_, ?_⟩⟩
    · refine wipe_same (by rw [setS_len, wipe_length]) fun j hj => ?_
      rw [setS_out _ _ _ _ hj, wipe_at, if_neg hj]
    have sW : ∀ i ∈ G.W, (L2.wipe σ tg)[i]? = σ[i]? := fun i hi => by rw [wipe_at, if_neg fun z => hw i z hi]
    have eW : ∀ i ∈ G.W, (wipeE env tg)[i]? = env[i]? := fun i hi => wipeE_out tg env i fun z => hw i z hi
    have eq : setE (wipeE env tg) tg dsx = setE env tg dsx := setE_same _ _ _ _ (wipeE_len _ _) (fun j hj => wipeE_out tg env j hj) (takes_len g1)
    have I4 : SR G.K G.W wd' (setS (L2.wipe σ tg) tg vs) H3 (setE env tg dsx) Sj := by
      rw [← eq]
      exact (I3.wipe hw).bind hw (by rw [bad_same sW eW]; exact hvs)
    have bs : BadOf G.W wd' (setS (L2.wipe σ tg) tg vs) (setE env tg dsx) = BadOf G.W wd' σ env := by
      refine bad_same (fun i hi => ?_) fun i hi => ?_
      · rw [setS_out _ _ _ _ fun z => hw i z hi, sW i hi]
      · rw [setE_out _ _ _ _ fun z => hw i z hi]
    have le : ∀ {H4 H5 : Hp}, Ext (· ∈ wd'.ρ) H4 H5 → Ext (fun a => a ∈ wd.ρ ∨ a = D) H4 H5 := fun e => e.mono fun a z => .inl (hρ ▸ z)
    refine tC_red I4 g2 fun H4 x4 c4 => ?_
    have I5 := I4.next x4 c4
    have I5' := I3.next x4 (by rw [← bs]; exact c4)
    have p13 : Ext (fun a => a ∈ wd.ρ ∨ a = D) H1 H4 := (p1.trans nw.ext).trans (le x4)
    have p33 : H4 D = some (.lst acc) := x4.keep _ _ ((nw.ext (M := fun _ => False)).keep _ _ p3 fun z => z) hDρ
    have hρB : ∀ {Hx : Hp} (a : Addr), a ∈ wd'.ρ → BadOf G.W wd' σ env a ∨ Hx a = none := fun a z => .inl (.inr (.inl z))
    have p43 : Reps G.K (BadOf G.W wd' σ env) H4 acc zs := (p4.ext (M := fun _ => False) p2.badOk (fun _ z => z.elim) nw.ext fun a z => .inl z).ext I3.badOk hρB x4 fun a z => .inl z
    rcases g3 with ⟨rfl, y, rfl, g4⟩ | ⟨rfl, rfl, rfl⟩
    · rw [if_pos rfl]
      cases f4
      refine ⟨wd', _, _, _, _, I5, g4, fun v' H5 p => ?_⟩
      have pc := p.cells
      have pr : Rep G.K (BadOf G.W wd' (setS (L2.wipe σ tg) tg vs) (setE env tg dsx)) H5 v' y := p.rep
      rw [bs] at pc pr
      have I6 := I5'.next p.ext pc
      have p34 : H5 D = some (.lst acc) := p.ext.keep _ _ p33 hDρ
      have p44 := p43.ext I5'.badOk hρB p.ext fun a z => .inl z
      have ep : Ext (fun a => a = D) H5 (upd H5 D (.lst (acc ++ [v']))) := .put p34 rfl
      refine ⟨acc, p34, ?_, S3, acc ++ [v'], zs ++ [y], rest', (p13.trans (le p.ext)).trans (ep.mono fun a z => .inr z), I6.poke p34 ((hB0 D).mpr (.inr rfl)) hDρ hD0, upd_same, ?_, ?_, f3, ?_⟩
      · have := p44.length
        omega
      · exact (p44.append (.cons pr .nil)).ext (M := fun a => a = D) I6.badOk (fun a (z : a = D) => .inl (by rw [z]; exact hB)) ep fun a z => .inl z
      · simp; omega
      · rw [← p7]; simp
    · rw [if_neg (by simp)]
      cases f4
      exact ⟨_, acc, zs, rest', p13, I5', p33, p43, by omega, f3, p7⟩
  · rw [List.drop_length] at p6
    cases p6
    have e : zs = ys := by rw [← p7]; simp
    subst e
    have x2 : Ext (· ∈ wd.ρ) H1 H2 := p1.less hD
    have nD : ¬ BadOf G.W wd σ env D := fun z => by
      obtain ⟨zs, z⟩ := I1.badOk D z
      rw [hD] at z; cases z
    have hbb' : ∀ a, BadOf G.W wd σ env a → BadOf G.W wd' σ env a := fun a z => hbb a (.inl z)
    have nF : ∀ {B : Addr → Prop} {Hx : Hp} (a : Addr), False → B a ∨ Hx a = none := fun a z => z.elim
    refine q _ _ ⟨x1.trans x2, ?_, ?_, fun _ ds' z => ?_⟩
    · have z := p2.cells.ext (M := fun _ => False) p2.badOk (fun a z => z.elim) .refl (fun a z => .inl (hbb' a z)) fun _ _ z => z
      rw [hρ] at z
      exact z
    · exact .lst (.inl ⟨.inl p3, nD⟩) (p4.anti p2.badOk hbb')
    · cases z
      refine ⟨D, acc, rfl, x1.none (fun a m => I.ρL m) hD, p3, p4.anti p2.badOk hbb, ?_⟩
      have z := p2.cells.ext (M := fun _ => False) p2.badOk (fun a z => z.elim) .refl (fun a z => .inl (hbb a z)) fun _ _ z => z
      rw [hρ] at z
      exact z

structure LcOk (X : Cx) (G : Gam) (c : Ctx) (tg : List Nat) (it : Ex) (cd : Option Ex) (el : Ex) (t i : Expr) (ifs : List Expr) (el' : Expr) (scope : Scope) : Prop where
  hN : X.N.Nodup
  hi : PI X t i (tI G (isTuple t) it)
  ok : BlkOk X.N X.env.scope scope (ownOf c tg)
  hg : ∀ (s : Shared) (H : Hp) (C : Addr) (cl : List (Str × Addr)) (fp : List Addr), PG (X.blk s H scope (compEnvC scope cl C X.env) fp) t (gT G.K (isTuple t) tg)
  ht : ∀ (s : Shared) (H : Hp) (C : Addr) (cl : List (Str × Addr)) (fp : List Addr), PTs (X.blk s H scope (compEnvC scope cl C X.env) fp) ifs (tC G cd)
  he : ∀ (s : Shared) (H : Hp) (C : Addr) (cl : List (Str × Addr)) (fp : List Addr), PE (X.blk s H scope (compEnvC scope cl C X.env) fp) el' (tE G el)
  hs : ∀ x, foldedSetIterable i X.env x = pure x
  hw : ∀ i ∈ tg, i ∉ G.W
theorem lcOk {tg : List Nat} {it : Ex} {cd : Option Ex} {el : Ex} (hi : Sound G it) (hc : ∀ a, cd = some a → Sound G a) (he : Sound G el) (o : XOk X G c) {m : Mode} {t i : Expr} {ifs : List Expr} {el' : Expr} {scope : Scope} {pos : Pos}
    (h : chkE c m (.comp tg it cd el) (.ListComp el' [⟨t, i, ifs, 0⟩] scope pos) = true) : LcOk X G c tg it cd el t i ifs el' scope := by
  obtain ⟨h1, h⟩ := ba h
  obtain ⟨h2, h⟩ := ba h
  obtain ⟨h3, h⟩ := ba h
  obtain ⟨h4, h⟩ := ba h
  obtain ⟨h5, h6⟩ := ba h
  exact ⟨by rw [o.N]; exact o.nd, hi.wlk X c i t o h1, by rw [o.N, o.sc]; exact blkOk_by h3, fun s H C cl fp => (pg_ok o.blk h4).1, fun s H C cl fp => pts_ok o.blk hc h5, fun s H C cl fp => he.val _ _ _ o.blk h6, fun x => fold_no h2 x,
    (pg_ok (o.blk (s := X.s_0) (H := X.H_0) (scope := scope) (C := 0) (cl := []) (fp := [])) h4).2⟩
theorem Sound.comp (tg : List Nat) (it : Ex) (cd : Option Ex) (el : Ex) (hi : Sound G it) (hc : ∀ a, cd = some a → Sound G a) (he : Sound G el) : Sound G (.comp tg it cd el) := by
  refine .plain rfl (fun c m e h => by cases e <;> exact h) (fun c e h => ?_) fun X c e o h => ?_
  · cases e <;> first | rfl | (cases h; done)
  · cases e <;> first | (cases h; done) | skip
    rename_i el' gs scope pos
    rcases gs with _ | ⟨⟨t, i, ifs, (_ | n) | n⟩, _ | _⟩ <;> first | (cases h; done) | skip
    have L := lcOk hi hc he o h
    have p := pe_lc (pos := pos) o.calm L.hN L.hi L.ok L.hg L.ht L.he L.hs
    rw [ownOf_snd] at p
    exact PE.imp p (lc_red L.hw)
end
end Tr


namespace Tr
open PySem L2
open PySem.Spec PyProof.Rows
mutual
theorem sound {G : Gam} : ∀ e : Ex, Sound G e
  | .var i => .var i
  | .own i => .own i
  | .cell i => .cell i
  | .const d => .const d
  | .glob x d => .glob x d
  | .tup es => .tup es (sounds es)
  | .lst es => .lst es (sounds es)
  | .bin o a b => .bin o a b (sound a) (sound b)
  | .neg a => .neg a (sound a)
  | .cmp o a b => .cmp o a b (sound a) (sound b)
  | .isN n a => .isN n a (sound a)
  | .chain o o' a b c => .chain o o' a b c (sound a) (sound b) (sound c)
  | .ands es => .ands es (sounds es)
  | .ors es => .ors es (sounds es)
  | .not a => .not a (sound a)
  | .ife c a b => .ife c a b (sound c) (sound a) (sound b)
  | .idx a i => .idx a i (sound a) (sound i)
  | .slice a lo hi => .slice a lo hi (sound a) (soundO lo) (soundO hi)
  | .blt f es => .blt f es (sounds es)
  | .meth f a es => .meth f a es (sound a) (sounds es)
  | .call f es => .call f es (sounds es)
  | .range1 a => .range1 a (sound a)
  | .range2 a b => .range2 a b (sound a) (sound b)
  | .enum a => .enum a (sound a)
  | .zip a b => .zip a b (sound a) (sound b)
  | .comp tg it c e => .comp tg it c e (sound it) (soundO c) (sound e)
theorem sounds {G : Gam} : ∀ es : List Ex, ∀ e ∈ es, Sound G e
  | [], _, h => nomatch h
  | a :: as, e, h => (List.mem_cons.mp h).elim (fun z => z ▸ sound a) fun z => sounds as e z
theorem soundO {G : Gam} : ∀ o : Option Ex, ∀ a, o = some a → Sound G a
  | none, _, h => nomatch h
  | some b, a, h => (Option.some.inj h) ▸ sound b
end
end Tr


namespace Tr
open PySem L2
open PySem.Spec PyProof.Rows

section
variable {K : PySem.W.Frag} {W : List Nat} {wd : Wd} {σ : L2.St} {H H0 : Hp} {env : TEnv} {S S0 : Store}
theorem Cells.anti {Bad Bad' : Addr → Prop} {ρ : List Addr} (h : Cells K Bad H ρ S) (ok : BadOk Bad H) (hb : ∀ a, Bad' a → Bad a) : Cells K Bad' H ρ S :=
  h.ext (M := fun _ => False) ok (fun _ z => z.elim) .refl (fun a z => .inl (hb a z)) fun _ _ z => z
theorem RepA.anti {Bad Bad' : Addr → Prop} {ρ : List Addr} {v : V} {a : A} (h : RepA K Bad H ρ v a) (ok : BadOk Bad H) (hb : ∀ a, Bad' a → Bad a) : RepA K Bad' H ρ v a := by
  cases a with
  | val d => exact Rep.anti ok hb h
  | ref n => exact h

theorem BadOf.names {σ' : L2.St} {env' : TEnv} {i : Nat} {v : V} {a : A} {q : Addr} (h : BadOf W wd (σ.set i (some v)) (env.set i (some a)) q) : BadOf W wd σ env q ∨ (i ∈ W ∧ v = .ref q ∧ ∃ ds, a = .val (.list ds)) := by
  rcases h with h | h | ⟨j, hj, ⟨ds, h1⟩, h2⟩
  · exact .inl (.inl h)
  · exact .inl (.inr (.inl h))
  · by_cases e : i = j
    · subst e
      by_cases hi : i < env.length
      · rw [List.getElem?_set_self hi] at h1
        by_cases hi' : i < σ.length
        · rw [List.getElem?_set_self hi'] at h2
          cases h1
          cases h2
          exact .inr ⟨hj, rfl, ds, rfl⟩
        · rw [List.getElem?_eq_none (by simpa using hi')] at h2; cases h2
      · rw [List.getElem?_eq_none (by simpa using hi)] at h1; cases h1
    · rw [List.getElem?_set_ne e] at h1 h2
      exact .inl (.inr (.inr ⟨j, hj, ⟨ds, h1⟩, h2⟩))
theorem OwnAt.names {i j : Nat} {v : V} {a : A} {q : Addr} (h : OwnAt W (σ.set i (some v)) (env.set i (some a)) j q) : (i ≠ j ∧ OwnAt W σ env j q) ∨ (i = j ∧ i ∈ W ∧ v = .ref q ∧ ∃ ds, a = .val (.list ds)) := by
  obtain ⟨hj, ⟨ds, h1⟩, h2⟩ := h
  by_cases e : i = j
  · subst e
    refine .inr ⟨rfl, hj, ?_⟩
    by_cases hi : i < env.length
    · rw [List.getElem?_set_self hi] at h1
      by_cases hi' : i < σ.length
      · rw [List.getElem?_set_self hi'] at h2
        cases h1
        cases h2
        exact ⟨rfl, ds, rfl⟩
      · rw [List.getElem?_eq_none (by simpa using hi')] at h2; cases h2
    · rw [List.getElem?_eq_none (by simpa using hi)] at h1; cases h1
  · rw [List.getElem?_set_ne e] at h1 h2
    exact .inl ⟨e, hj, ⟨ds, h1⟩, h2⟩
/-- a name takes a value that is no list of its own -/
theorem SR.setV (I : SR K W wd σ H env S) {i : Nat} {v : V} {a : A} (r : RepA K (BadOf W wd σ env) H wd.ρ v a) (hn : NL W i a) : SR K W wd (σ.set i (some v)) H (env.set i (some a)) S := by
  have hb : ∀ q, BadOf W wd (σ.set i (some v)) (env.set i (some a)) q → BadOf W wd σ env q := fun q h => by
    rcases BadOf.names (σ' := σ) (env' := env) h with h | ⟨h1, _, ds, h2⟩
    · exact h
    · exact absurd h2 (hn h1 ds)
  have ho : ∀ j q, OwnAt W (σ.set i (some v)) (env.set i (some a)) j q → OwnAt W σ env j q := fun j q h => by
    rcases OwnAt.names h with h | ⟨_, h1, _, ds, h2⟩
    · exact h.2
    · exact absurd h2 (hn h1 ds)
  have ho' : ∀ q, Own W (σ.set i (some v)) (env.set i (some a)) q → Own W σ env q := fun q ⟨j, h⟩ => ⟨j, ho j q h⟩
  refine ⟨by simp [I.len], fun j b h => ?_, fun j k p h1 h2 => I.dist j k p (ho j p h1) (ho k p h2), fun p h => I.ownL p (ho' p h), fun j p h => I.ownM j p (ho j p h), fun p h => I.ownB p (ho' p h), fun p h => I.ownρ p (ho' p h), I.b0, I.cells.anti I.badOk hb, I.nd, I.ρM, I.mL, I.ext⟩
  by_cases e : i = j
  · subst e
    by_cases hi : i < env.length
    · rw [List.getElem?_set_self hi] at h
      cases h
      exact ⟨v, List.getElem?_set_self (by rw [← I.len]; exact hi), .inl ⟨r.anti I.badOk hb, hn⟩⟩
    · rw [List.getElem?_eq_none (by simpa using hi)] at h; cases h
  · rw [List.getElem?_set_ne e] at h ⊢
    obtain ⟨w, q1, q2⟩ := I.var j b h
    refine ⟨w, q1, ?_⟩
    rcases q2 with ⟨q2, hn'⟩ | ⟨hw, ds, p, xs, e1, e2, h1, h2⟩
    · exact .inl ⟨q2.anti I.badOk hb, hn'⟩
    · exact .inr ⟨hw, ds, p, xs, e1, e2, h1, h2.anti I.badOk hb⟩
/-- a name takes a new list of its own -/
theorem SR.setO (I : SR K W wd σ H env S) {i : Nat} {p : Addr} {xs : List V} {ds : List PyData} (hi : i ∈ W) (h1 : wd.M p ∨ wd.He p = none) (h2 : ¬ wd.B0 p) (h3 : p ∉ wd.ρ) (h4 : ¬ Own W σ env p) (h5 : H p = some (.lst xs))
    {Bad : Addr → Prop} (ok : BadOk Bad H) (hB : ∀ a, BadOf W wd σ env a ∨ a = p → Bad a) (hr : Reps K Bad H xs ds) (hc : Cells K Bad H wd.ρ S)
    (hv : ∀ (j : Nat) (a : A), i ≠ j → env[j]? = some (some a) → ∃ w, σ[j]? = some (some w) ∧ ((RepA K Bad H wd.ρ w a ∧ NL W j a) ∨ (j ∈ W ∧ ∃ ds p xs, a = .val (.list ds) ∧ w = .ref p ∧ H p = some (.lst xs) ∧ Reps K Bad H xs ds))) :
    SR K W wd (σ.set i (some (.ref p))) H (env.set i (some (.val (.list ds)))) S := by
  have hb : ∀ q, BadOf W wd (σ.set i (some (.ref p))) (env.set i (some (.val (.list ds)))) q → Bad q := fun q h => by
    rcases BadOf.names (σ' := σ) (env' := env) h with h | ⟨_, h, _⟩
    · exact hB q (.inl h)
    · exact hB q (.inr (by cases h; rfl))
  have ho : ∀ j q, OwnAt W (σ.set i (some (.ref p))) (env.set i (some (.val (.list ds)))) j q → (i ≠ j ∧ OwnAt W σ env j q) ∨ (i = j ∧ q = p) := fun j q h => by
    rcases OwnAt.names h with h | ⟨h1, _, h2, _⟩
    · exact .inl h
    · exact .inr ⟨h1, by cases h2; rfl⟩
  have ho' : ∀ q, Own W (σ.set i (some (.ref p))) (env.set i (some (.val (.list ds)))) q → Own W σ env q ∨ q = p := fun q ⟨j, h⟩ => (ho j q h).elim (fun z => .inl ⟨j, z.2⟩) fun z => .inr z.2
  refine ⟨by simp [I.len], fun j b h => ?_, fun j k q g1 g2 => ?_, fun q h => ?_, fun j q h => ?_, fun q h => ?_, fun q h => ?_, I.b0, hc.anti ok hb, I.nd, I.ρM, I.mL, I.ext⟩
  · by_cases e : i = j
    · subst e
      by_cases hi' : i < env.length
      · rw [List.getElem?_set_self hi'] at h
        cases h
        exact ⟨_, List.getElem?_set_self (by rw [← I.len]; exact hi'), .inr ⟨hi, ds, p, xs, rfl, rfl, h5, hr.anti ok hb⟩⟩
      · rw [List.getElem?_eq_none (by simpa using hi')] at h; cases h
    · rw [List.getElem?_set_ne e] at h ⊢
      obtain ⟨w, q1, q2⟩ := hv j b e h
      refine ⟨w, q1, ?_⟩
      rcases q2 with ⟨q2, hn⟩ | ⟨hw, ds', p', xs', e1, e2, g1, g2⟩
      · exact .inl ⟨q2.anti ok hb, hn⟩
      · exact .inr ⟨hw, ds', p', xs', e1, e2, g1, g2.anti ok hb⟩
  · rcases ho j q g1 with ⟨_, f1⟩ | ⟨e1, e2⟩
    · rcases ho k q g2 with ⟨_, f2⟩ | ⟨e1, e2⟩
      · exact I.dist j k q f1 f2
      · exact absurd ⟨j, e2 ▸ f1⟩ h4
    · rcases ho k q g2 with ⟨_, f2⟩ | ⟨e3, _⟩
      · exact absurd ⟨k, e2 ▸ f2⟩ h4
      · exact e1.symm.trans e3
  · rcases ho' q h with h | rfl
    · exact I.ownL q h
    · exact ⟨xs, h5⟩
  · rcases ho j q h with ⟨_, h⟩ | ⟨_, e⟩
    · exact I.ownM j q h
    · exact .inl (by rw [e]; exact h1)
  · rcases ho' q h with h | rfl
    · exact I.ownB q h
    · exact h2
  · rcases ho' q h with h | rfl
    · exact I.ownρ q h
    · exact h3
theorem SR.noneHe (I : SR K W wd σ H env S) {p : Addr} (h : H p = none) : wd.He p = none := I.ext.none I.mL h
theorem SR.notBad (I : SR K W wd σ H env S) {p : Addr} (h : H p = none) : ¬ BadOf W wd σ env p := fun z => by
  obtain ⟨xs, e⟩ := I.badOk p z
  rw [h] at e; cases e
/-- one more list of the callers', behind an expression -/
theorem SR.more' (I0 : SR K W wd σ H0 env S0) (x : Ext (· ∈ wd.ρ) H0 H) {p : Addr} {xs : List V} (h : H0 p = none) (h' : H p = some (.lst xs)) (hc : Cells K (fun q => BadOf W wd σ env q ∨ q = p) H wd.ρ S) :
    SR K W { wd with B0 := fun a => wd.B0 a ∨ a = p } σ H env S ∧ ∀ a, BadOf W { wd with B0 := fun a => wd.B0 a ∨ a = p } σ env a ↔ (BadOf W wd σ env a ∨ a = p) := by
  have eq : ∀ a, BadOf W { wd with B0 := fun a => wd.B0 a ∨ a = p } σ env a ↔ (BadOf W wd σ env a ∨ a = p) := fun a => by
    constructor
    · rintro ((z | z) | z | z)
      · exact .inl (.inl z)
      · exact .inr z
      · exact .inl (.inr (.inl z))
      · exact .inl (.inr (.inr z))
    · rintro ((z | z | z) | z)
      · exact .inl (.inl z)
      · exact .inr (.inl z)
      · exact .inr (.inr z)
      · exact .inl (.inr z)
  have np : ∀ q, BadOf W wd σ env q → q ≠ p := fun q z e => I0.notBad h (e ▸ z)
  have hM : ∀ a, a ∈ wd.ρ → BadOf W wd σ env a ∨ H0 a = none := fun a z => .inl (.inr (.inl z))
  have hb : ∀ a, BadOf W { wd with B0 := fun a => wd.B0 a ∨ a = p } σ env a → BadOf W wd σ env a ∨ H0 a = none := fun a z => ((eq a).mp z).elim .inl fun z => .inr (by rw [z]; exact h)
  have ok : BadOk (fun q => BadOf W wd σ env q ∨ q = p) H := fun a z => by
    rcases z with z | z
    · obtain ⟨ys, w⟩ := I0.badOk a z
      exact x.lsts a ys w
    · exact ⟨xs, by rw [z]; exact h'⟩
  refine ⟨⟨I0.len, fun i a q => ?_, I0.dist, fun q h1 => ?_, I0.ownM, fun q h1 z => z.elim (I0.ownB q h1) (np q (.inr (.inr h1))), I0.ownρ, fun q h1 => ?_, hc.anti ok fun a z => (eq a).mp z, I0.nd, I0.ρM, I0.mL, ?_⟩, eq⟩
  · obtain ⟨v, h1, h2⟩ := I0.var i a q
    refine ⟨v, h1, ?_⟩
    rcases h2 with ⟨h2, hn⟩ | ⟨hw, ds, p', zs, rfl, rfl, h3, h4⟩
    · refine .inl ⟨?_, hn⟩
      cases a with
      | val d => exact Rep.ext I0.badOk hM x hb h2
      | ref n => exact h2
    · exact .inr ⟨hw, ds, p', zs, rfl, rfl, x.keep _ _ h3 (I0.ownρ p' ⟨i, hw, ⟨ds, q⟩, h1⟩), h4.ext I0.badOk hM x hb⟩
  · obtain ⟨zs, w⟩ := I0.ownL q h1
    exact x.lsts q zs w
  · rcases h1 with h1 | h1
    · obtain ⟨zs, w⟩ := I0.b0 q h1
      exact x.lsts q zs w
    · exact ⟨xs, by rw [h1]; exact h'⟩
  · refine ⟨fun a o q n => ?_, fun a zs q => ?_⟩
    · refine x.keep a o (I0.ext.keep a o q n) fun m => ?_
      rcases I0.ρM a m with z | z
      · exact n z
      · rw [q] at z; cases z
    · obtain ⟨ws, w⟩ := I0.ext.lsts a zs q
      exact x.lsts a ws w
/-- a list of one's own is changed -/
theorem SR.putO (I : SR K W wd σ H env S) {i : Nat} {p : Addr} {xs : List V} {ds : List PyData} (o : OwnAt W σ env i p) (nf : ¬ wd.Fz i p) (hr : Reps K (BadOf W wd σ env) H xs ds) : SR K W wd σ (upd H p (.lst xs)) (env.set i (some (.val (.list ds)))) S := by
  obtain ⟨hi, ⟨ds0, e0⟩, e1⟩ := o
  obtain ⟨ys, hp⟩ := I.ownL p ⟨i, hi, ⟨ds0, e0⟩, e1⟩
  have hil : i < env.length := (List.getElem?_eq_some_iff.mp e0).1
  have eo : OwnAt W σ (env.set i (some (.val (.list ds)))) = OwnAt W σ env := by
    funext j q
    refine propext ⟨fun ⟨a, ⟨b, c⟩, d⟩ => ⟨a, ?_, d⟩, fun ⟨a, ⟨b, c⟩, d⟩ => ⟨a, ?_, d⟩⟩
    · by_cases e : i = j
      · subst e; exact ⟨ds0, e0⟩
      · rw [List.getElem?_set_ne e] at c; exact ⟨b, c⟩
    · by_cases e : i = j
      · subst e; exact ⟨ds, List.getElem?_set_self hil⟩
      · exact ⟨b, by rw [List.getElem?_set_ne e]; exact c⟩
  have eo' : Own W σ (env.set i (some (.val (.list ds)))) = Own W σ env := by unfold Own; rw [eo]
  have eb : BadOf W wd σ (env.set i (some (.val (.list ds)))) = BadOf W wd σ env := by unfold BadOf; rw [eo']
  have op : Own W σ env p := ⟨i, hi, ⟨ds0, e0⟩, e1⟩
  have e : Ext (fun a => a = p) H (upd H p (.lst xs)) := .put hp rfl
  have hM : ∀ a, a = p → BadOf W wd σ env a ∨ H a = none := fun a z => .inl (z ▸ .inr (.inr op))
  refine ⟨by simp [I.len], fun j a q => ?_, by rw [eo]; exact I.dist, fun q h => ?_, by rw [eo]; exact I.ownM, by rw [eo']; exact I.ownB, by rw [eo']; exact I.ownρ, fun q h => ?_, ?_, I.nd, I.ρM, I.mL, ⟨fun a o q n => ?_, fun a zs q => ?_⟩⟩
  · rw [eb]
    by_cases ej : i = j
    · subst ej
      rw [List.getElem?_set_self hil] at q
      cases q
      exact ⟨_, e1, .inr ⟨hi, ds, p, xs, rfl, rfl, upd_same, hr.ext I.badOk hM e fun a z => .inl z⟩⟩
    · rw [List.getElem?_set_ne ej] at q
      obtain ⟨v, h1, h2⟩ := I.var j a q
      refine ⟨v, h1, ?_⟩
      rcases h2 with ⟨h2, hn⟩ | ⟨hw, ds', p', zs, rfl, rfl, h3, h4⟩
      · refine .inl ⟨?_, hn⟩
        cases a with
        | val d => exact Rep.ext I.badOk hM e (fun a z => .inl z) h2
        | ref n => exact h2
      · refine .inr ⟨hw, ds', p', zs, rfl, rfl, e.keep _ _ h3 fun z => ?_, h4.ext I.badOk hM e fun a z => .inl z⟩
        subst z
        exact ej (I.dist i j p' ⟨hi, ⟨ds0, e0⟩, e1⟩ ⟨hw, ⟨ds', q⟩, h1⟩)
  · rw [eo'] at h
    obtain ⟨zs, w⟩ := I.ownL q h
    exact e.lsts q zs w
  · obtain ⟨zs, w⟩ := I.b0 q h
    exact e.lsts q zs w
  · rw [eb]
    exact I.cells.ext I.badOk hM e (fun a z => .inl z) fun a ha z => I.ownρ p op (z ▸ ha)
  · refine e.keep _ _ (I.ext.keep a o q n) fun z => ?_
    subst z
    rcases I.ownM i a ⟨hi, ⟨ds0, e0⟩, e1⟩ with (z | z) | z
    · exact n z
    · rw [q] at z; cases z
    · exact nf z
  · obtain ⟨ws, w⟩ := I.ext.lsts a zs q
    exact e.lsts a ws w
/-- a cell is changed -/
theorem SR.putC (I : SR K W wd σ H env S) {n : Nat} {p : Addr} {xs : List V} {ds : List PyData} (hn : wd.ρ[n]? = some p) (hr : Reps K (BadOf W wd σ env) H xs ds) : SR K W wd σ (upd H p (.lst xs)) env (S.set n ds) := by
  have hm : p ∈ wd.ρ := List.mem_of_getElem? hn
  obtain ⟨ys, hp⟩ := I.ρL hm
  have e : Ext (fun a => a = p) H (upd H p (.lst xs)) := .put hp rfl
  have e' : Ext (· ∈ wd.ρ) H (upd H p (.lst xs)) := .put hp hm
  have hM : ∀ a, a = p → BadOf W wd σ env a ∨ H a = none := fun a z => .inl (z ▸ .inr (.inl hm))
  refine I.step e' ⟨by rw [List.length_set]; exact I.cells.len, fun m a zs h1 h2 => ?_⟩
  by_cases em : n = m
  · subst em
    rw [hn] at h1
    cases h1
    have : n < S.length := by rw [← I.cells.len]; exact (List.getElem?_eq_some_iff.mp hn).1
    rw [List.getElem?_set_self this] at h2
    cases h2
    exact ⟨xs, upd_same, hr.ext I.badOk hM e fun a z => .inl z⟩
  · rw [List.getElem?_set_ne em] at h2
    obtain ⟨ws, g1, g2⟩ := I.cells.at_ m a zs h1 h2
    refine ⟨ws, e.keep _ _ g1 fun z => ?_, g2.ext I.badOk hM e fun a z => .inl z⟩
    subst z
    have l1 := (List.getElem?_eq_some_iff.mp hn)
    have l2 := (List.getElem?_eq_some_iff.mp h1)
    exact em ((List.getElem_inj I.nd).mp (l1.2.trans l2.2.symm))
/-- a new list becomes a cell -/
theorem SR.box (I : SR K W wd σ H env S) {i : Nat} {p : Addr} {xs : List V} {ds : List PyData} (hi : i ∉ W) (h1 : wd.He p = none) (h2 : p ∉ wd.ρ) (h4 : ¬ Own W σ env p) (h5 : H p = some (.lst xs))
    {Bad : Addr → Prop} (ok : BadOk Bad H) (hB : ∀ a, BadOf W wd σ env a ∨ a = p ↔ Bad a) (hr : Reps K Bad H xs ds) (hc : Cells K Bad H wd.ρ S)
    (hv : ∀ (j : Nat) (a : A), i ≠ j → env[j]? = some (some a) → ∃ w, σ[j]? = some (some w) ∧ ((RepA K Bad H wd.ρ w a ∧ NL W j a) ∨ (j ∈ W ∧ ∃ ds p xs, a = .val (.list ds) ∧ w = .ref p ∧ H p = some (.lst xs) ∧ Reps K Bad H xs ds))) :
    SR K W { wd with ρ := wd.ρ ++ [p] } (σ.set i (some (.ref p))) H (env.set i (some (.ref S.length))) (S ++ [ds]) := by
  have ne : ∀ j ∈ W, i ≠ j := fun j hj e => hi (e ▸ hj)
  have eo : OwnAt W (σ.set i (some (.ref p))) (env.set i (some (.ref S.length))) = OwnAt W σ env := own_same (fun j hj => List.getElem?_set_ne (ne j hj)) (fun j hj => List.getElem?_set_ne (ne j hj))
  have eo' : Own W (σ.set i (some (.ref p))) (env.set i (some (.ref S.length))) = Own W σ env := by unfold Own; rw [eo]
  have eb : ∀ a, BadOf W { wd with ρ := wd.ρ ++ [p] } (σ.set i (some (.ref p))) (env.set i (some (.ref S.length))) a ↔ Bad a := fun a => by
    rw [← hB a]
    unfold BadOf
    rw [eo']
    constructor
    · rintro (z | z | z)
      · exact .inl (.inl z)
      · rcases List.mem_append.mp z with z | z
        · exact .inl (.inr (.inl z))
        · exact .inr (by simpa using z)
      · exact .inl (.inr (.inr z))
    · rintro ((z | z | z) | z)
      · exact .inl z
      · exact .inr (.inl (List.mem_append_left _ z))
      · exact .inr (.inr z)
      · exact .inr (.inl (List.mem_append_right _ (by simp [z])))
  have hb : ∀ a, BadOf W { wd with ρ := wd.ρ ++ [p] } (σ.set i (some (.ref p))) (env.set i (some (.ref S.length))) a → Bad a := fun a => (eb a).mp
  have grow : ∀ {w : V} {a : A}, RepA K Bad H wd.ρ w a → RepA K (BadOf W { wd with ρ := wd.ρ ++ [p] } (σ.set i (some (.ref p))) (env.set i (some (.ref S.length)))) H (wd.ρ ++ [p]) w a := fun {w a} r => by
    cases a with
    | val d => exact Rep.anti ok hb r
    | ref n =>
      obtain ⟨q, r1, r2⟩ := r
      exact ⟨q, by rw [List.getElem?_append_left (List.getElem?_eq_some_iff.mp r1).1]; exact r1, r2⟩
  refine ⟨by simp [I.len], fun j b h => ?_, by rw [eo]; exact I.dist, by rw [eo']; exact I.ownL, by rw [eo]; exact I.ownM, by rw [eo']; exact I.ownB, fun q h z => ?_, I.b0, ⟨by simp [I.cells.len], fun m a zs g1 g2 => ?_⟩, ?_, fun q z => ?_, I.mL, I.ext⟩
  · by_cases e : i = j
    · subst e
      by_cases hi' : i < env.length
      · rw [List.getElem?_set_self hi'] at h
        cases h
        refine ⟨_, List.getElem?_set_self (by rw [← I.len]; exact hi'), .inl ⟨⟨p, ?_, rfl⟩, fun _ _ z => nomatch z⟩⟩
        rw [← I.cells.len]
        simp
      · rw [List.getElem?_eq_none (by simpa using hi')] at h; cases h
    · rw [List.getElem?_set_ne e] at h ⊢
      obtain ⟨w, q1, q2⟩ := hv j b e h
      refine ⟨w, q1, ?_⟩
      rcases q2 with ⟨q2, hn⟩ | ⟨hw, ds', p', xs', e1, e2, g1, g2⟩
      · exact .inl ⟨grow q2, hn⟩
      · exact .inr ⟨hw, ds', p', xs', e1, e2, g1, g2.anti ok hb⟩
  · rw [eo'] at h
    rcases List.mem_append.mp z with z | z
    · exact I.ownρ q h z
    · have e : q = p := by simpa using z
      exact h4 (e ▸ h)
  · by_cases l : m < wd.ρ.length
    · have g1 : (wd.ρ ++ [p])[m]? = some a := g1
      rw [List.getElem?_append_left l] at g1
      rw [List.getElem?_append_left (by rw [← I.cells.len]; exact l)] at g2
      obtain ⟨ws, q1, q2⟩ := hc.at_ m a zs g1 g2
      exact ⟨ws, q1, q2.anti ok hb⟩
    · have g1 : (wd.ρ ++ [p])[m]? = some a := g1
      have lm : m < (wd.ρ ++ [p]).length := (List.getElem?_eq_some_iff.mp g1).1
      rw [List.length_append, List.length_singleton] at lm
      have em : m = wd.ρ.length := by omega
      subst em
      rw [List.getElem?_append_right (Nat.le_refl _)] at g1
      have e2 : (S ++ [ds])[wd.ρ.length]? = some ds := by rw [I.cells.len]; simp
      rw [e2] at g2
      cases g2
      have e1 : a = p := by simpa using g1.symm
      subst e1
      exact ⟨xs, h5, hr.anti ok hb⟩
  · refine List.nodup_append.mpr ⟨I.nd, by simp, fun a ha b hb' => ?_⟩
    have e : b = p := by simpa using hb'
    subst e
    exact fun z => h2 (z ▸ ha)
  · rcases List.mem_append.mp z with z | z
    · exact I.ρM q z
    · have e : q = p := by simpa using z
      subst e
      exact .inr h1
/-- the walk starts here, over what stands at the names in F -/
def Wd.now (wd : Wd) (W : List Nat) (σ : L2.St) (env : TEnv) (H : Hp) (F : Nat → Prop) : Wd :=
  { wd with He := H, M := fun a => a ∈ wd.ρ ∨ ∃ j, OwnAt W σ env j a ∧ ¬ F j ∧ ¬ wd.Fz j a, Fz := fun j a => (wd.Fz j a ∨ F j) ∧ OwnAt W σ env j a }
theorem SR.now (I : SR K W wd σ H env S) {F : Nat → Prop} : SR K W (wd.now W σ env H F) σ H env S := by
  refine ⟨I.len, I.var, I.dist, I.ownL, fun i p h => ?_, I.ownB, I.ownρ, I.b0, I.cells, I.nd, fun p h => .inl (.inl h), fun p h => ?_, .refl⟩
  · by_cases f : F i
    · exact .inr ⟨.inr f, h⟩
    · by_cases z : wd.Fz i p
      · exact .inr ⟨.inl z, h⟩
      · exact .inl (.inl (.inr ⟨i, h, f, z⟩))
  · rcases h with h | ⟨j, h, _⟩
    · exact I.ρL h
    · exact I.ownL p ⟨j, h⟩
theorem Ext.chain {M M' : Addr → Prop} {Ha Hb Hc : Hp} (h : Ext M Ha Hb) (g : Ext M' Hb Hc) (hm : ∀ a, M' a → M a ∨ Ha a = Option.none) : Ext M Ha Hc :=
  ⟨fun a o e n => g.keep a o (h.keep a o e n) fun m => (hm a m).elim n fun z => (by rw [e] at z; cases z), fun a xs e => let ⟨ys, e1⟩ := h.lsts a xs e; g.lsts a ys e1⟩
/-- back to the outer start -/
theorem SR.nowM (I0 : SR K W wd σ H0 env S0) {F : Nat → Prop} {a : Addr} (z : (wd.now W σ env H0 F).M a) : wd.M a ∨ wd.He a = none := by
  rcases z with z | ⟨j, h, _, nf⟩
  · exact I0.ρM a z
  · exact (I0.ownM j a h).elim id fun z => absurd z nf
theorem SR.since (I0 : SR K W wd σ H0 env S0) {F : Nat → Prop} {ρ' : List Addr} {τ : L2.St} {env' : TEnv} (hρ : wd.ρ <+: ρ') (J : SR K W { wd.now W σ env H0 F with ρ := ρ' } τ H env' S) : SR K W { wd with ρ := ρ' } τ H env' S := by
  have hN : ∀ a, ((wd.now W σ env H0 F).M a ∨ H0 a = none) → wd.M a ∨ wd.He a = none := fun a z => z.elim I0.nowM fun z => .inr (I0.noneHe z)
  refine ⟨J.len, J.var, J.dist, J.ownL, fun i p h => ?_, J.ownB, J.ownρ, J.b0, J.cells, J.nd, fun p h => hN p (J.ρM p h), I0.mL, I0.ext.chain J.ext fun a => I0.nowM⟩
  rcases J.ownM i p h with z | ⟨_, z⟩
  · exact .inl (hN p z)
  · exact I0.ownM i p z
end
end Tr


namespace Tr
open PySem L2
open PySem.Spec PyProof.Rows

def augOp : BOp → Bool
  | .add => true
  | .sub => true
  | _ => false
section
variable {X : Cx}
theorem get_list : PGet X (rIxL X.K) := by
  intro pins s σ H x y v u Q I rx ry h
  obtain ⟨p, xs, i, z, rfl, rfl, hq, he, q⟩ := h
  cases rx
  obtain ⟨t, rfl⟩ := ry
  obtain ⟨its, r, pl, hz⟩ := I.list hq
  obtain ⟨j, h1, h2, h3, h4, h5⟩ := atI_get he
  obtain ⟨w, ew, rw'⟩ := r.get h2
  have hl := r.length
  have hn := line63
  by_cases h0 : 0 ≤ i
  · have hj : i.toNat = j := Option.some.inj ((seqIndex_of h0 h5).symm.trans h1)
    exact wpAny_getItem_list pl.isList h0 (by omega) (by rw [hj]; simpa using ew) ⟨z, H, I, rw', q⟩
  · have hj : (i + (its.toArray.size : Int)).toNat = j := by
      have e := Option.some.inj ((seqIndex_neg (by omega) h4).symm.trans h1)
      rw [List.size_toArray, ← hl]
      exact e
    exact wpAny_getItem_list_neg pl.isList (by omega) (by rw [List.size_toArray]; omega) (by omega) (by rw [hj]; simpa using ew) ⟨z, H, I, rw', q⟩
theorem ip_op (o : BOp) (ho : augOp o = true) : PIp X (opOf o) (fun x y H Q => ∃ (Bad : Addr → Prop) (d e g : PyData), RepD X.K Bad H x d ∧ RepD X.K Bad H y e ∧ augD o d e = some g ∧ ∀ v, Rep X.K Bad H v g → Q v H) := by
  intro pins s σ H x y v u Q I rx ry ⟨Bad, d, e, g, hx, hy, hf, q⟩
  cases o <;> first | (cases ho; done) | skip
  · cases d with
    | int i =>
      cases e <;> first | (cases hf; done) | skip
      cases hf
      exact ip_add pins s σ H x y v u Q I rx ry ⟨_, _, hx.int, hy.int, q _ (.int _)⟩
    | str a =>
      cases e <;> first | (cases hf; done) | skip
      rename_i b
      simp only [augD] at hf
      obtain ⟨hz, rfl⟩ := if_some hf
      exact iop_add_str pins s σ H x y v u Q I rx ry ⟨_, _, hx.str, hy.str, hz, q _ (.str _)⟩
    | _ => cases e <;> cases hf
  · cases d <;> first | (cases e <;> cases hf; done) | skip
    cases e <;> first | (cases hf; done) | skip
    cases hf
    exact ip_sub pins s σ H x y v u Q I rx ry ⟨_, _, hx.int, hy.int, q _ (.int _)⟩
end

def asgB (c : Ctx) (x : Str) : Bool := match c.sc.names.lookup x with
  | some .local => true
  | some .cell => c.fn x
  | _ => false
def setB (c : Ctx) (i : Nat) (x : Str) : Bool := decide (c.N[i]? = some x) && asgB c x
def locB (c : Ctx) (i : Nat) (x : Str) : Bool := decide (c.N[i]? = some x) && decide (c.sc.names.lookup x = some .local)
def noComp : Expr → Bool
  | .ListComp _ _ _ _ => false
  | .SetComp _ _ _ _ => false
  | .DictComp _ _ _ _ _ => false
  | _ => true
def lcOnly : Expr → Bool
  | .SetComp _ _ _ _ => false
  | .DictComp _ _ _ _ _ => false
  | _ => true
def bkOf (sc : Scope) : ScopeKind := if sc.kind.isAnnotationScope then .function else sc.kind
/-- a comprehension that is stored ahead of its block's end -/
def swB (c : Ctx) (x : Str) (p : Pos) : Expr → Bool
  | .ListComp _ _ s pos => bkOf c.sc == .function && c.sc.names.lookup x == some .local && p.line == pos.line && !(s.names.any fun (n, k) => n == x && (k == .local || k == .cell))
  | _ => false
/-- the names of a target that are locals on its row -/
def lnm (sc : Scope) (ts : List Expr) : List Str := ts.filterMap fun
  | .Name id pos => if sc.names.lookup id == some .local && pos.line == (ts.head?.map (·.pos.line)).getD 0 then some id else none
  | _ => none
/-- no stores are swapped -/
def nsw (c : Ctx) : Expr → Expr → Bool
  | .Tuple ts _ _, .Tuple vs _ _ => !(ts.length == 2 || ts.length == 3) || (vs.length != ts.length || (vs.all (foldedForSure 8) || (lnm c.sc ts).length != ts.length))
  | .List _ _, .Tuple _ _ _ => false
  | _, _ => true
def nmP : Expr → Option (Str × Pos)
  | .Name x p => some (x, p)
  | _ => none
/-- the names of a target whose stores are swapped -/
def swp (c : Ctx) (ts vs : List Expr) : Bool :=
  (ts.length == 2 || ts.length == 3) && (vs.length == ts.length && (bkOf c.sc == .function && (vs.all noStar && (!(vs.all (foldedForSure 8)) && !(vs.all (constantsAlone 8))))))
def fzOf : Ex → List Nat
  | .own i => [i]
  | _ => []
def wOk (c : Ctx) (fz : List Nat) (w : Bool) (i : Nat) : Bool := !w || (c.W.contains i && !fz.contains i)

mutual
def chkS (c : Ctx) (fr : Nat → Bool) (rf : Bool) (fz : List Nat) : Cmd → Stmt → Bool
  | .set i e, st => match st with
    | .Assign [.Name x p] v _ => setB c i x && (chkE c .val e v && ((!c.W.contains i || freshE fr e) && lcOnly v))
    | _ => false
  | .setT is e, st => match st with
    | .Assign [tg] v _ => isTuple tg && (tgtB c is tg && (chkE c .val e v && nsw c tg v))
    | _ => false
  | .par i j a b, st => match st with
    | .Assign [.Tuple [.Name x p, .Name y q] _ _] (.Tuple [ea, eb] _ _) _ => locB c i x && (locB c j y && (decide (x ≠ y) && (p.line == q.line && (chkE c .val a ea && (chkE c .val b eb &&
        ((!c.W.contains i || freshE fr a) && ((!c.W.contains j || freshE fr b) && swp c [.Name x p, .Name y q] [ea, eb])))))))
    | _ => false
  | .par3 _ _ _ _ _ _, _ => false
  | .box i e, st => match st with
    | .Assign [.Name x p] v _ => setB c i x && (chkE c .val e v && (!c.W.contains i && (freshE fr e && noComp v)))
    | _ => false
  | .aug i o e, st => match st with
    | .AugAssign (.Name x _) op v _ => setB c i x && (decide (op = opOf o) && (augOp o && (chkE c .bor e v && !c.W.contains i)))
    | _ => false
  | .app w i e, st => match st with
    | .Expr (.Call (.Attribute (.Name x _) n ap) [v] [] p) _ => nmB c i x && (decide (n = ("append" : Str)) && (wOk c fz w i && (chkE c .val e v && (noStar v && ap.endLine == p.line))))
    | _ => false
  | .extd w i e, st => match st with
    | .Expr (.Call (.Attribute (.Name x _) n ap) [v] [] p) _ => nmB c i x && (decide (n = ("extend" : Str)) && (wOk c fz w i && (chkE c .val e v && (freshE fr e && (noStar v && ap.endLine == p.line)))))
    | _ => false
  | .put w i k e, st => match st with
    | .Assign [.Subscript (.Name x _) ke _] v _ => nmB c i x && (wOk c fz w i && (chkE c .val e v && (chkE c .bor k ke && noSlice ke)))
    | _ => false
  | .augPut w i k o e, st => match st with
    | .AugAssign (.Subscript (.Name x _) ke _) op v _ => nmB c i x && (wOk c fz w i && (decide (op = opOf o) && (augOp o && (chkE c .bor e v && (chkE c .bor k ke && noSlice ke)))))
    | _ => false
  | .ifs t a b, st => match st with
    | .If te sa sb _ => chkE c .val t te && (chkSs c fr rf fz a sa && chkSs c fr rf fz b sb)
    | _ => false
  | .fors tg it body, st => match st with
    | .For t i sb [] _ => chkE c (.walk (isTuple t)) it i && (noSet i && (tgtB c tg t && chkSs c fr rf (fzOf it ++ fz) body sb))
    | _ => false
  | .ret e, st => match st with
    | .Return (some v) _ => chkE c .val e v && (!rf || freshE fr e)
    | _ => false
  | .retO i, st => match st with
    | .Return (some (.Name x _)) _ => nmB c i x && (c.W.contains i && !fz.contains i)
    | _ => false
  | .retN, st => match st with
    | .Return none _ => true
    | _ => false
  | .pass, st => match st with
    | .Pass _ => true
    | _ => false
  | .brk, st => match st with
    | .Break _ => true
    | _ => false
  | .cnt, st => match st with
    | .Continue _ => true
    | _ => false
  | .doc, st => match st with
    | .Expr (.Constant (.str _) _ _) _ => true
    | _ => false
def chkSs (c : Ctx) (fr : Nat → Bool) (rf : Bool) (fz : List Nat) : List Cmd → List Stmt → Bool
  | [], [] => true
  | s :: ss, t :: ts => chkS c fr rf fz s t && chkSs c fr rf fz ss ts
  | _, _ => false
end

structure RetP (G : Gam) (rf : Bool) (wd : Wd) (ρ : List Addr) (a : A) (S : Store) (v : V) (H : Hp) : Prop where
  ext : Ext wd.M wd.He H
  cells : Cells G.K wd.B0 H ρ S
  rep : RepA G.K wd.B0 H ρ v a
  fresh : rf = true → ∀ ds, a = .val (.list ds) → ∃ p xs, v = .ref p ∧ (wd.M p ∨ wd.He p = none) ∧ ¬ wd.B0 p ∧ H p = some (.lst xs) ∧ Reps G.K (fun q => wd.B0 q ∨ q = p) H xs ds ∧ Cells G.K (fun q => wd.B0 q ∨ q = p) H ρ S
def EndsOf (G : Gam) (rf : Bool) (wd : Wd) (r : RS) (D : Ends) : Prop := match r with
  | .nx env S => ∀ σ H ρ, wd.ρ <+: ρ → SR G.K G.W { wd with ρ := ρ } σ H env S → D.nx σ H
  | .bk env S => ∀ σ H ρ, wd.ρ <+: ρ → SR G.K G.W { wd with ρ := ρ } σ H env S → D.bk σ H
  | .ct env S => ∀ σ H ρ, wd.ρ <+: ρ → SR G.K G.W { wd with ρ := ρ } σ H env S → D.ct σ H
  | .rt a S => ∀ v H ρ, wd.ρ <+: ρ → RetP G rf wd ρ a S v H → D.rt v H
  | .err => False
def FzOk (wd : Wd) (fz : List Nat) : Prop := ∀ j p, wd.Fz j p → j ∈ fz
def tS (G : Gam) (rf : Bool) (fz : List Nat) (s : Cmd) : TS := fun D σ H => ∃ wd env S, FzOk wd fz ∧ SR G.K G.W wd σ H env S ∧ EndsOf G rf wd (exec G.C s env S) D
def tSs (G : Gam) (rf : Bool) (fz : List Nat) (ss : List Cmd) : TS := fun D σ H => ∃ wd env S, FzOk wd fz ∧ SR G.K G.W wd σ H env S ∧ EndsOf G rf wd (execs G.C ss env S) D
theorem PS.imp {X : Cx} {st : Stmt} {t t' : TS} (h : PS X st t) (i : ∀ D σ H, t' D σ H → t D σ H) : PS X st t' := ⟨fun pins s σ H D I q => h.run pins s σ H D I (i D σ H q)⟩
theorem PSs.imp {X : Cx} {st : List Stmt} {t t' : TS} (h : PSs X st t) (i : ∀ D σ H, t' D σ H → t D σ H) : PSs X st t' := ⟨fun pins s σ H D I q => h.run pins s σ H D I (i D σ H q)⟩
theorem EndsOf.grow {G : Gam} {rf : Bool} {wd : Wd} {r : RS} {D : Ends} {ρ : List Addr} (h : EndsOf G rf wd r D) (p : wd.ρ <+: ρ) : EndsOf G rf { wd with ρ := ρ } r D := by
  cases r with
  | nx env S => exact fun σ H ρ' p' I => h σ H ρ' (p.trans p') I
  | bk env S => exact fun σ H ρ' p' I => h σ H ρ' (p.trans p') I
  | ct env S => exact fun σ H ρ' p' I => h σ H ρ' (p.trans p') I
  | rt a S => exact fun v H ρ' p' R => h v H ρ' (p.trans p') ⟨R.ext, R.cells, R.rep, R.fresh⟩
  | err => exact h
theorem EndsOf.thn {α : Type} {G : Gam} {rf : Bool} {wd : Wd} {r : R α} {f : α → Store → RS} {D : Ends} (h : EndsOf G rf wd (r.thn f) D) : ∃ a S, r = .ok a S ∧ EndsOf G rf wd (f a S) D := by
  cases r with
  | ok a S => exact ⟨a, S, rfl, h⟩
  | err => exact h.elim
structure SoundS (G : Gam) (s : Cmd) : Prop where
  run : ∀ (X : Cx) (c : Ctx) (rf : Bool) (fz : List Nat) (st : Stmt), XOk X G c → X.xe = (fun _ _ => False) → chkS c G.fr rf fz s st = true → PS X st (tS G rf fz s)
structure SoundSs (G : Gam) (s : List Cmd) : Prop where
  run : ∀ (X : Cx) (c : Ctx) (rf : Bool) (fz : List Nat) (st : List Stmt), XOk X G c → X.xe = (fun _ _ => False) → chkSs c G.fr rf fz s st = true → PSs X st (tSs G rf fz s)
end Tr


namespace Tr
open PySem L2
open PySem.Spec PyProof.Rows

section
variable {G : Gam} {X : Cx} {c : Ctx}
theorem asg_loc {x : Str} (o : XOk X G c) (h : asgB c x = true) : L2.Loc X.env.scope x ∧ (X.fn x = true ∨ X.env.scope.names.lookup x = some .local) := by
  unfold asgB at h
  unfold L2.Loc
  rw [o.sc]
  split at h
  · exact ⟨.inl (by assumption), .inr (by assumption)⟩
  · exact ⟨.inr (by assumption), .inl (o.fn x h)⟩
  · cases h
theorem setB_ok {i : Nat} {x : Str} (o : XOk X G c) (h : setB c i x = true) : X.N.Nodup ∧ X.N[i]? = some x ∧ L2.Loc X.env.scope x ∧ (X.fn x = true ∨ X.env.scope.names.lookup x = some .local) := by
  obtain ⟨h1, h2⟩ := ba h
  obtain ⟨q1, q2⟩ := asg_loc o h2
  exact ⟨by rw [o.N]; exact o.nd, by rw [o.N]; exact de h1, q1, q2⟩
theorem locB_ok {i : Nat} {x : Str} (o : XOk X G c) (h : locB c i x = true) : X.N[i]? = some x ∧ X.env.scope.names.lookup x = some .local := by
  obtain ⟨h1, h2⟩ := ba h
  exact ⟨by rw [o.N]; exact de h1, by rw [o.sc]; exact de h2⟩
/-- behind an expression: its value is stored -/
theorem SR.store {wd : Wd} {σ : L2.St} {H H1 : Hp} {env : TEnv} {S S1 : Store} {a : A} {v : V} {fr : Bool} (I : SR G.K G.W wd σ H env S) (p : Post G wd σ env fr H a S1 v H1) {i : Nat} (hw : i ∈ G.W → fr = true) :
    SR G.K G.W wd (σ.set i (some v)) H1 (env.set i (some a)) S1 := by
  have I1 := I.next p.ext p.cells
  by_cases hi : i ∈ G.W
  · by_cases hl : ∃ ds, a = .val (.list ds)
    · obtain ⟨ds, rfl⟩ := hl
      obtain ⟨q, xs, rfl, n0, h1, h2, h3⟩ := p.fresh (hw hi) ds rfl
      have ok : BadOk (fun a => BadOf G.W wd σ env a ∨ a = q) H1 := fun a z => by
        rcases z with z | z
        · exact I1.badOk a z
        · exact ⟨xs, by rw [z]; exact h1⟩
      have hM : ∀ a, a ∈ wd.ρ → BadOf G.W wd σ env a ∨ H a = none := fun a z => .inl (.inr (.inl z))
      have hb : ∀ a, (BadOf G.W wd σ env a ∨ a = q) → BadOf G.W wd σ env a ∨ H a = none := fun a z => z.elim .inl fun z => .inr (by rw [z]; exact n0)
      refine I1.setO hi (.inr (I.noneHe n0)) (fun z => I.notBad n0 (.inl z)) (fun z => I.notBad n0 (.inr (.inl z))) (fun z => I.notBad n0 (.inr (.inr z))) h1 ok (fun a z => z) h2 h3 fun j b ne e => ?_
      obtain ⟨w, w1, w2⟩ := I.var j b e
      refine ⟨w, w1, ?_⟩
      rcases w2 with ⟨w2, hn⟩ | ⟨hj, ds', p', zs, rfl, rfl, g1, g2⟩
      · refine .inl ⟨?_, hn⟩
        cases b with
        | val d => exact Rep.ext I.badOk hM p.ext hb w2
        | ref n => exact w2
      · exact .inr ⟨hj, ds', p', zs, rfl, rfl, p.ext.keep _ _ g1 (I.ownρ p' ⟨j, hj, ⟨ds', e⟩, w1⟩), g2.ext I.badOk hM p.ext hb⟩
    · exact I1.setV p.rep fun _ ds z => hl ⟨ds, z⟩
  · exact I1.setV p.rep fun z => absurd z hi
/-- behind an expression: its value becomes a cell -/
theorem SR.store2 {wd : Wd} {σ : L2.St} {H H1 : Hp} {env : TEnv} {S S1 : Store} {ds : List PyData} {v : V} (I : SR G.K G.W wd σ H env S) (p : Post G wd σ env true H (.val (.list ds)) S1 v H1) {i : Nat} (hi : i ∉ G.W) :
    ∃ q, SR G.K G.W { wd with ρ := wd.ρ ++ [q] } (σ.set i (some v)) H1 (env.set i (some (.ref S1.length))) (S1 ++ [ds]) := by
  have I1 := I.next p.ext p.cells
  obtain ⟨q, xs, rfl, n0, h1, h2, h3⟩ := p.fresh rfl ds rfl
  have ok : BadOk (fun a => BadOf G.W wd σ env a ∨ a = q) H1 := fun a z => by
    rcases z with z | z
    · exact I1.badOk a z
    · exact ⟨xs, by rw [z]; exact h1⟩
  have hM : ∀ a, a ∈ wd.ρ → BadOf G.W wd σ env a ∨ H a = none := fun a z => .inl (.inr (.inl z))
  have hb : ∀ a, (BadOf G.W wd σ env a ∨ a = q) → BadOf G.W wd σ env a ∨ H a = none := fun a z => z.elim .inl fun z => .inr (by rw [z]; exact n0)
  refine ⟨q, I1.box hi (I.noneHe n0) (fun z => I.notBad n0 (.inr (.inl z))) (fun z => I.notBad n0 (.inr (.inr z))) h1 ok (fun a => Iff.rfl) h2 h3 fun j b ne e => ?_⟩
  obtain ⟨w, w1, w2⟩ := I.var j b e
  refine ⟨w, w1, ?_⟩
  rcases w2 with ⟨w2, hn⟩ | ⟨hj, ds', p', zs, rfl, rfl, g1, g2⟩
  · refine .inl ⟨?_, hn⟩
    cases b with
    | val d => exact Rep.ext I.badOk hM p.ext hb w2
    | ref n => exact w2
  · exact .inr ⟨hj, ds', p', zs, rfl, rfl, p.ext.keep _ _ g1 (I.ownρ p' ⟨j, hj, ⟨ds', e⟩, w1⟩), g2.ext I.badOk hM p.ext hb⟩
theorem wfr {i : Nat} {b : Bool} (o : XOk X G c) (h : (!c.W.contains i || b) = true) : i ∈ G.W → b = true := fun z => by
  rw [o.W] at h
  simp [z] at h
  exact h
/-- what is stored at names -/
theorem sw_comp (o : XOk X G c) {x : Str} {p pos : Pos} {el : Expr} {gs : List Comprehension} {s : Scope} {l : Nat} : swapsWith (.ListComp el gs s pos) (some (.Name x p)) l X.env = pure (swB c x p (.ListComp el gs s pos)) := by
  unfold swapsWith swB Env.blockKind Env.kindOf bkOf
  rw [o.sc]
  rfl
theorem sw_no {e : Expr} (h : noComp e = true) {t : Option Expr} {l : Nat} {env : Env} : swapsWith e t l env = pure false := by
  cases e <;> first | rfl | (cases h; done)
theorem sw_sub {e o i : Expr} {p : Pos} {l : Nat} {env : Env} : swapsWith e (some (.Subscript o i p)) l env = pure false := by
  cases e <;> rfl
theorem sw_tup {e : Expr} {es : List Expr} {k : Nat} {p : Pos} {l : Nat} {env : Env} : swapsWith e (some (.Tuple es k p)) l env = pure false := by
  cases e <;> rfl
theorem ssw_sub {e o i : Expr} {p : Pos} {env : Env} : swappedStores [.Subscript o i p] e env = pure none := by
  cases e <;> rfl

theorem set_red {i : Nat} {e : Ex} {rf : Bool} {fz : List Nat} (hw : i ∈ G.W → freshE G.fr e = true) : ∀ (D : Ends) (σ : L2.St) (H : Hp), tS G rf fz (.set i e) D σ H → tAsg (tE G e) (gName i) D σ H := fun D σ H ⟨wd, env, S, hf, I, h⟩ => by
  obtain ⟨a, S1, e1, h⟩ := h.thn
  exact ⟨wd, env, S, a, S1, I, e1, fun v H1 p => h _ _ wd.ρ (List.prefix_refl _) (I.store p hw)⟩
theorem SoundS.set (i : Nat) (e : Ex) : SoundS G (.set i e) := by
  refine ⟨fun X c rf fz st o hx h => ?_⟩
  cases st <;> first | (cases h; done) | skip
  rename_i tgs v pos
  rcases tgs with _ | ⟨tg, _ | _⟩ <;> first | (cases h; done) | (cases tg <;> cases h; done) | skip
  cases tg <;> first | (cases h; done) | skip
  rename_i x p
  obtain ⟨h1, h⟩ := ba h
  obtain ⟨h2, h⟩ := ba h
  obtain ⟨h3, h4⟩ := ba h
  obtain ⟨q1, q2, q3, q4⟩ := setB_ok o h1
  have hw := wfr o h3
  by_cases hn : noComp v = true
  · exact PS.imp (ps_set q1 q2 q3 ((sound e).val X c v o h2) (sw_no hn) q4) (set_red hw)
  · cases v with
    | ListComp el gs s pos' =>
      by_cases hs : swB c x p (.ListComp el gs s pos') = true
      · cases e with
        | comp ctg it cd el' =>
          rcases gs with _ | ⟨⟨t, i', ifs, (_ | n) | n⟩, _ | _⟩ <;> first | (cases h2; done) | skip
          have L := lcOk (sound it) (soundO cd) (sound el') o h2
          have hl : X.env.scope.names.lookup x = some .local := by
            rw [o.sc]
            unfold swB at hs
            simp only [Bool.and_eq_true, beq_iff_eq] at hs
            exact hs.1.1.2
          have ps := ps_setLc (spos := pos) (pos := pos') (py := p) o.calm L.hN q2 hl ((sw_comp o).trans (congrArg pure hs)) L.hi L.ok L.hg L.ht L.he L.hs
          rw [ownOf_snd] at ps
          exact PS.imp (PS.imp ps fun D σ H q => lc_red L.hw σ H _ q) (set_red hw)
        | _ => cases h2
      · have hs' : swB c x p (.ListComp el gs s pos') = false := by
          cases z : swB c x p (.ListComp el gs s pos') with
          | true => exact absurd z hs
          | false => rfl
        exact PS.imp (ps_set q1 q2 q3 ((sound e).val X c _ o h2) (by rw [sw_comp o, hs']) q4) (set_red hw)
    | SetComp _ _ _ _ => cases h4
    | DictComp _ _ _ _ _ => cases h4
    | _ => exact absurd rfl hn
theorem nsw_ok (o : XOk X G c) {tg v : Expr} (h : nsw c tg v = true) : swappedStores [tg] v X.env = pure none := by
  cases tg with
  | Tuple ts k1 p1 =>
    cases v with
    | Tuple vs k2 p2 =>
      unfold nsw at h
      unfold swappedStores
      simp only [Bool.or_eq_true] at h
      dsimp only
      have key : ∀ m : Nat, (List.filterMap (fun e => match e with
          | .Name id pos => if X.env.kindOf id == some .local && pos.line == (ts.head?.map (·.pos.line)).getD 0 then some id else none
          | _ => none) ts).length = m → m = (lnm c.sc ts).length := fun m e => by
        rw [← e]
        unfold lnm Env.kindOf
        rw [o.sc]
        try rfl
      rcases h with h | h | h | h
      · simp [h]
      · simp [h]
      · simp only [h, if_true]
        split
        · rfl
        · split
          · rfl
          · split <;> rfl
      · split
        · rfl
        · split
          · rfl
          · rw [if_pos]
            rw [Bool.or_eq_true]
            left
            have e := key _ rfl
            have h : ((lnm c.sc ts).length != ts.length) = true := h
            rw [← e] at h
            exact h
    | _ => rfl
  | List ts p1 =>
    cases v <;> first | rfl | (cases h; done)
  | _ => cases v <;> rfl
theorem sole {t v : Expr} {l : Nat} {env : Env} : swapsWithSole [t] v l env = swapsWith v (some t) l env := rfl
theorem SoundS.setT (is : List Nat) (e : Ex) : SoundS G (.setT is e) := by
  refine ⟨fun X c rf fz st o hx h => ?_⟩
  cases st <;> first | (cases h; done) | skip
  rename_i tgs v pos
  rcases tgs with _ | ⟨tg, _ | _⟩ <;> first | (cases h; done) | skip
  obtain ⟨h1, h⟩ := ba h
  obtain ⟨h2, h⟩ := ba h
  obtain ⟨h3, h4⟩ := ba h
  obtain ⟨pg, hw⟩ := pg_ok o h2
  have hs : swapsWithSole [tg] v pos.line X.env = pure false := by
    cases tg <;> first | (cases h1; done) | (rw [sole]; exact sw_tup)
  have ha : (assignEach [tg] X.env).map (·.2) = [assign tg X.env] := by
    cases tg <;> first | (cases h1; done) | rfl
  refine PS.imp (ps_asg ((sound e).val X c v o h3) pg hs (nsw_ok o h4) ha) fun D σ H ⟨wd, env, S, hf, I, h⟩ => ?_
  obtain ⟨a, S1, e1, h⟩ := h.thn
  refine ⟨wd, env, S, a, S1, I, e1, fun w H1 p => ?_⟩
  cases a with
  | ref n => exact h.elim
  | val d =>
    dsimp only at h
    split at h
    · rename_i env' eb
      obtain ⟨ds, t1, rfl⟩ := bindT_takes eb
      exact ⟨_, d, ds, .of p.rep, fun _ => p.rep, t1, fun vs r => h _ _ wd.ρ (List.prefix_refl _) ((I.next p.ext p.cells).bind hw r)⟩
    · exact h.elim
end
end Tr


namespace Tr
open PySem L2
open PySem.Spec PyProof.Rows

section
variable {G : Gam} {X : Cx} {c : Ctx}
theorem Post.anti {wd wd2 : Wd} {σ σ' : L2.St} {env env' : TEnv} {fr : Bool} {H H1 : Hp} {a : A} {S : Store} {v : V} (hρ : wd2.ρ = wd.ρ) (p : Post G wd2 σ env fr H a S v H1) (ok : BadOk (BadOf G.W wd2 σ env) H1)
    (hb : ∀ a, BadOf G.W wd σ' env' a → BadOf G.W wd2 σ env a) : Post G wd σ' env' fr H a S v H1 := by
  refine ⟨by rw [← hρ]; exact p.ext, by rw [← hρ]; exact p.cells.anti ok hb, by rw [← hρ]; exact p.rep.anti ok hb, fun f ds e => ?_⟩
  obtain ⟨q, xs, e1, n0, h1, h2, h3⟩ := p.fresh f ds e
  have ok' : BadOk (fun a => BadOf G.W wd2 σ env a ∨ a = q) H1 := fun a z => by
    rcases z with z | z
    · exact ok a z
    · exact ⟨xs, by rw [z]; exact h1⟩
  have hb' : ∀ a, (BadOf G.W wd σ' env' a ∨ a = q) → (BadOf G.W wd2 σ env a ∨ a = q) := fun a z => z.imp (hb a) id
  exact ⟨q, xs, e1, n0, h1, h2.anti ok' hb', by rw [← hρ]; exact h3.anti ok' hb'⟩
theorem two_post {wd : Wd} {σ : L2.St} {env : TEnv} {fr : Bool} {H H1 : Hp} {x : A} {S S1 : Store} {v : V} (I : SR G.K G.W wd σ H env S) (p : Post G wd σ env fr H x S1 v H1) {i : Nat} (hw : i ∈ G.W → fr = true) :
    ∃ wd2, SR G.K G.W wd2 σ H1 env S1 ∧ wd2.ρ = wd.ρ ∧ ∀ a, BadOf G.W wd (σ.set i (some v)) (env.set i (some x)) a → BadOf G.W wd2 σ env a := by
  by_cases hi : i ∈ G.W
  · by_cases hl : ∃ ds, x = .val (.list ds)
    · obtain ⟨ds, rfl⟩ := hl
      obtain ⟨q, xs, rfl, n0, h1, h2, h3⟩ := p.fresh (hw hi) ds rfl
      obtain ⟨J, eq⟩ := I.more' p.ext n0 h1 h3
      refine ⟨_, J, rfl, fun a z => (eq a).mpr ?_⟩
      rcases BadOf.names (σ' := σ) (env' := env) z with z | ⟨_, z, _⟩
      · exact .inl z
      · exact .inr (by cases z; rfl)
    · refine ⟨wd, I.next p.ext p.cells, rfl, fun a z => ?_⟩
      rcases BadOf.names (σ' := σ) (env' := env) z with z | ⟨_, _, ds, z⟩
      · exact z
      · exact absurd ⟨ds, z⟩ hl
  · refine ⟨wd, I.next p.ext p.cells, rfl, fun a z => ?_⟩
    rcases BadOf.names (σ' := σ) (env' := env) z with z | ⟨z, _⟩
    · exact z
    · exact absurd z hi
theorem swp2_ok (o : XOk X G c) {x y : Str} {p q pt pt2 : Pos} {k k2 : Nat} {a b : Expr} (hx : X.env.scope.names.lookup x = some .local) (hy : X.env.scope.names.lookup y = some .local) (ne : x ≠ y) (hl : (p.line == q.line) = true)
    (h : swp c [.Name x p, .Name y q] [a, b] = true) : swappedStores [.Tuple [.Name x p, .Name y q] k pt] (.Tuple [a, b] k2 pt2) X.env = pure (some [x, y]) := by
  unfold swp at h
  simp only [Bool.and_eq_true, Bool.not_eq_true'] at h
  obtain ⟨_, _, h3, h4, h5, h6⟩ := h
  have hb : X.env.blockKind = .function := by
    unfold Env.blockKind
    unfold bkOf at h3
    rw [o.sc]
    exact eq_of_beq h3
  have kx : X.env.kindOf x = some .local := hx
  have ky : X.env.kindOf y = some .local := hy
  have hst : ([a, b].any fun e => match e with | .Starred _ _ => true | _ => false) = false := by
    rw [List.all_cons, List.all_cons, Bool.and_eq_true, Bool.and_eq_true] at h4
    have n1 : ∀ e : Expr, noStar e = true → (match e with | .Starred _ _ => true | _ => false) = false := fun e he => by cases e <;> first | rfl | cases he
    simp only [List.any_cons, List.any_nil, n1 a h4.1, n1 b h4.2.1, Bool.or_false]
  have e2 : ([x, y] : List Str).eraseDups.length = 2 := by
    have : (x == y) = false := by simpa using ne
    have z : (y == x) = false := by simpa using fun e : y = x => ne e.symm
    simp [List.eraseDups_cons, List.filter, z]
  have hl' : (q.line == p.line) = true := by
    have := eq_of_beq hl
    rw [this]; exact beq_self_eq_true _
  have hst' : ([a, b].any fun | .Starred .. => true | _ => false) = false := hst
  unfold swappedStores
  dsimp only [List.filterMap]
  simp only [kx, ky, Expr.pos, List.head?, Option.map, Option.getD, hl', beq_self_eq_true, Bool.and_self, if_true, h5, h6, hb, Bool.and_true]
  refine (if_neg Bool.false_ne_true).trans ((if_neg fun z => Bool.false_ne_true (hst'.symm.trans z)).trans ((if_neg ?_).trans ((if_neg Bool.false_ne_true).trans (if_neg Bool.false_ne_true))))
  rw [e2]
  exact Bool.false_ne_true
theorem SoundS.par (i j : Nat) (a b : Ex) : SoundS G (.par i j a b) := by
  refine ⟨fun X c rf fz st o hx h => ?_⟩
  unfold chkS at h
  split at h
  · rename_i x p y q kt pt ea eb k2 pt2 pos
    obtain ⟨h1, h⟩ := ba h
    obtain ⟨h2, h⟩ := ba h
    obtain ⟨h3, h⟩ := ba h
    obtain ⟨h4, h⟩ := ba h
    obtain ⟨h5, h⟩ := ba h
    obtain ⟨h6, h⟩ := ba h
    obtain ⟨h7, h⟩ := ba h
    obtain ⟨h8, h9⟩ := ba h
    obtain ⟨n1, l1⟩ := locB_ok o h1
    obtain ⟨n2, l2⟩ := locB_ok o h2
    have ne : x ≠ y := de h3
    have nij : i ≠ j := fun e => ne (by subst e; rw [n1] at n2; exact Option.some.inj n2)
    have hst : noStar ea = true ∧ noStar eb = true := by
      unfold swp at h9
      simp only [Bool.and_eq_true, List.all_cons] at h9
      exact ⟨h9.2.2.2.1.1, h9.2.2.2.1.2.1⟩
    have hN : X.N.Nodup := by rw [o.N]; exact o.nd
    refine PS.imp (ps_par o.calm hN n1 n2 nij l1 l2 (pa_cons ((sound a).val X c ea o h5) (pa_cons ((sound b).val X c eb o h6) pa_nil (star1 hst.2)) (star1 hst.1)) (swp2_ok o l1 l2 ne h4 h9) (by rw [sole]; exact sw_tup)) fun D σ H ⟨wd, env, S, hf, I, h⟩ => ?_
    obtain ⟨u, S1, e1, h⟩ := h.thn
    obtain ⟨w, S2, e2, h⟩ := h.thn
    refine ⟨wd, env, S, u, S1, I, e1, fun v1 H1 p1 => ?_⟩
    obtain ⟨wd2, J, hρ, hb⟩ := two_post I p1 (wfr o h7)
    refine ⟨wd2, env, S1, w, S2, J, e2, fun v2 H2 p2 => ⟨v1, v2, rfl, h _ _ wd.ρ (List.prefix_refl _) ?_⟩⟩
    exact (I.store p1 (wfr o h7)).store (p2.anti hρ (J.next p2.ext p2.cells).badOk hb) (wfr o h8)
  · cases h
end
end Tr


namespace Tr
open PySem L2
open PySem.Spec PyProof.Rows

section
variable {G : Gam} {X : Cx} {c : Ctx}
theorem SoundS.box (i : Nat) (e : Ex) : SoundS G (.box i e) := by
  refine ⟨fun X c rf fz st o hx h => ?_⟩
  unfold chkS at h
  split at h
  · rename_i x p v pos
    obtain ⟨h1, h⟩ := ba h
    obtain ⟨h2, h⟩ := ba h
    obtain ⟨h3, h⟩ := ba h
    obtain ⟨h4, h5⟩ := ba h
    obtain ⟨q1, q2, q3, q4⟩ := setB_ok o h1
    have hi : i ∉ G.W := fun z => by rw [o.W] at h3; simp [z] at h3
    refine PS.imp (ps_set q1 q2 q3 ((sound e).val X c v o h2) (sw_no h5) q4) fun D σ H ⟨wd, env, S, hf, I, h⟩ => ?_
    obtain ⟨a, S1, e1, h⟩ := h.thn
    refine ⟨wd, env, S, a, S1, I, e1, fun u H1 p => ?_⟩
    rw [h4] at p
    split at h
    · rename_i ds
      obtain ⟨q, J⟩ := I.store2 p hi
      exact h _ _ _ (List.prefix_append _ _) J
    · exact h.elim
  · cases h
theorem SoundS.aug (i : Nat) (op : BOp) (e : Ex) : SoundS G (.aug i op e) := by
  refine ⟨fun X c rf fz st o hx h => ?_⟩
  unfold chkS at h
  split at h
  · rename_i x p op' v pos
    obtain ⟨h1, h⟩ := ba h
    obtain ⟨h2, h⟩ := ba h
    obtain ⟨h3, h⟩ := ba h
    obtain ⟨h4, h5⟩ := ba h
    obtain ⟨q1, q2, q3, q4⟩ := setB_ok o h1
    have hi : i ∉ G.W := fun z => by rw [o.W] at h5; simp [z] at h5
    have e1 := de h2
    subst e1
    refine PS.imp (ps_aug q1 q2 q3 ((sound e).bor X c v o h4) (ip_op op h3) q4) fun D σ H ⟨wd, env, S, hf, I, h⟩ => ?_
    simp only [exec] at h
    split at h
    · rename_i d eg
      obtain ⟨b, S1, e1, h⟩ := h.thn
      obtain ⟨w, w1, w2⟩ := I.var i _ (getV_some eg)
      refine ⟨w, w1, wd, env, S, b, S1, I, e1, fun u H1 p => ?_⟩
      have I1 := I.next p.ext p.cells
      split at h
      · rename_i y ed
        split at h
        · rename_i z ea
          have r : RepA G.K (BadOf G.W wd σ env) H wd.ρ w (.val d) := w2.elim (·.1) fun z => absurd z.1 hi
          have r1 := r.next I p.ext
          rw [o.K]
          exact ⟨_, d, y, z, .of r1, p.rep.deref p.cells ed, ea, fun u' r' => h _ _ wd.ρ (List.prefix_refl _) (I1.setV (a := .val z) r' fun z => absurd z hi)⟩
        · exact h.elim
      · exact h.elim
    · exact h.elim
  · cases h

theorem change_inv {rf : Bool} {wd : Wd} {w : Bool} {env : TEnv} {S : Store} {i : Nat} {f : List PyData → Option (List PyData)} {D : Ends} (h : EndsOf G rf wd (change w env S i f) D) :
    (w = true ∧ ∃ ds ds', getV env i = some (.val (.list ds)) ∧ f ds = some ds' ∧ EndsOf G rf wd (.nx (env.set i (some (.val (.list ds')))) S) D) ∨ (∃ n ds ds', getV env i = some (.ref n) ∧ S[n]? = some ds ∧ f ds = some ds' ∧ EndsOf G rf wd (.nx env (S.set n ds')) D) := by
  unfold change at h
  split at h
  · rename_i ds eg
    split at h
    · rename_i hw
      split at h
      · rename_i ds' ef
        exact .inl ⟨hw, ds, ds', eg, ef, h⟩
      · exact h.elim
    · exact h.elim
  · rename_i n eg
    split at h
    · rename_i ds es
      split at h
      · rename_i ds' ef
        exact .inr ⟨n, ds, ds', eg, es, ef, h⟩
      · exact h.elim
    · exact h.elim
  · exact h.elim
theorem recv {wd : Wd} {σ : L2.St} {H : Hp} {env : TEnv} {S : Store} {w : Bool} {i : Nat} (I : SR G.K G.W wd σ H env S) (hw : w = true → i ∈ G.W) (g : (w = true ∧ ∃ ds, getV env i = some (.val (.list ds))) ∨ ∃ n, getV env i = some (.ref n)) :
    ∃ p, σ[i]? = some (some (.ref p)) ∧ ∃ xs, H p = some (.lst xs) := by
  rcases g with ⟨hw', ds, eg⟩ | ⟨n, eg⟩
  · obtain ⟨v, w1, w2⟩ := I.var i _ (getV_some eg)
    rcases w2 with ⟨_, hn⟩ | ⟨_, ds', p, xs, _, rfl, h1, _⟩
    · exact absurd rfl (hn (hw hw') ds)
    · exact ⟨p, w1, xs, h1⟩
  · obtain ⟨v, w1, w2⟩ := I.var i _ (getV_some eg)
    rcases w2 with ⟨⟨p, e1, rfl⟩, _⟩ | ⟨_, _, _, _, z, _⟩
    · exact ⟨p, w1, I.ρL (List.mem_of_getElem? e1)⟩
    · cases z
theorem change_at {rf : Bool} {wd : Wd} {σ : L2.St} {H : Hp} {w : Bool} {env : TEnv} {S : Store} {i : Nat} {f : List PyData → Option (List PyData)} {D : Ends} {fz : List Nat} {p : Addr} (I : SR G.K G.W wd σ H env S)
    (hw : w = true → i ∈ G.W ∧ i ∉ fz) (hf : FzOk wd fz) (h : EndsOf G rf wd (change w env S i f) D) (e : σ[i]? = some (some (.ref p))) :
    ∃ xs ds ds', H p = some (.lst xs) ∧ Reps G.K (BadOf G.W wd σ env) H xs ds ∧ f ds = some ds' ∧ (getV env i).bind (deref S) = some (.list ds) ∧ ∀ ys, Reps G.K (BadOf G.W wd σ env) H ys ds' → D.nx σ (upd H p (.lst ys)) := by
  rcases change_inv h with ⟨hw', ds, ds', eg, ef, h⟩ | ⟨n, ds, ds', eg, es, ef, h⟩
  · obtain ⟨v, w1, w2⟩ := I.var i _ (getV_some eg)
    rcases w2 with ⟨_, hn⟩ | ⟨hi, ds1, p', xs, e1, rfl, h1, h2⟩
    · exact absurd rfl (hn (hw hw').1 ds)
    · cases e1
      rw [e] at w1
      cases w1
      exact ⟨xs, ds, ds', h1, h2, ef, by rw [eg]; rfl, fun ys r => h _ _ wd.ρ (List.prefix_refl _) (I.putO ⟨hi, ⟨ds, getV_some eg⟩, e⟩ (fun z => (hw hw').2 (hf i _ z)) r)⟩
  · obtain ⟨v, w1, w2⟩ := I.var i _ (getV_some eg)
    rcases w2 with ⟨⟨p', e1, rfl⟩, _⟩ | ⟨_, _, _, _, z, _⟩
    · rw [e] at w1
      cases w1
      obtain ⟨xs, h1, h2⟩ := I.cells.at_ n p ds e1 es
      refine ⟨xs, ds, ds', h1, h2, ef, ?_, fun ys r => h _ _ wd.ρ (List.prefix_refl _) (I.putC e1 r)⟩
      rw [eg]
      show (S[n]?).map PyData.list = _
      rw [es]
      rfl
    · cases z
theorem wOk_ok (o : XOk X G c) {fz : List Nat} {w : Bool} {i : Nat} (h : wOk c fz w i = true) : w = true → i ∈ G.W ∧ i ∉ fz := fun hw => by
  unfold wOk at h
  rw [hw, o.W] at h
  simpa using h
theorem change_recv {rf : Bool} {wd : Wd} {w : Bool} {env : TEnv} {S : Store} {i : Nat} {f : List PyData → Option (List PyData)} {D : Ends} (h : EndsOf G rf wd (change w env S i f) D) :
    (w = true ∧ ∃ ds, getV env i = some (.val (.list ds))) ∨ ∃ n, getV env i = some (.ref n) := by
  rcases change_inv h with ⟨hw', ds, ds', eg, _⟩ | ⟨n, ds, ds', eg, _⟩
  · exact .inl ⟨hw', ds, eg⟩
  · exact .inr ⟨n, eg⟩
theorem tyF_list {K : PySem.W.Frag} {p : Addr} {H : Hp} {xs : List V} (h : H p = some (.lst xs)) : tyF K "list" (.ref p) H := .inl (.inl ⟨rfl, xs, .inl (.inl h)⟩)
end
end Tr


namespace Tr
open PySem L2
open PySem.Spec PyProof.Rows

section
variable {G : Gam} {X : Cx} {c : Ctx}
theorem pe_nm (o : XOk X G c) {i : Nat} {x : Str} {p : Pos} (h : nmB c i x = true) : PE X (.Name x p) (tVar i) := by
  obtain ⟨q1, q2, q3, q4⟩ := o.look h
  exact pe_var q1 q2 q3 q4
theorem fresh_list {wd : Wd} {σ : L2.St} {env : TEnv} {H H1 : Hp} {ds : List PyData} {S : Store} {v : V} (I1 : SR G.K G.W wd σ H1 env S) (p : Post G wd σ env true H (.val (.list ds)) S v H1) :
    ∃ q xs, v = .ref q ∧ H1 q = some (.lst xs) ∧ Reps G.K (BadOf G.W wd σ env) H1 xs ds := by
  obtain ⟨q, xs, e, n0, h1, h2, h3⟩ := p.fresh rfl ds rfl
  refine ⟨q, xs, e, h1, h2.anti (fun a z => ?_) fun a z => .inl z⟩
  rcases z with z | z
  · exact I1.badOk a z
  · exact ⟨xs, by rw [z]; exact h1⟩
theorem SoundS.app (w : Bool) (i : Nat) (e : Ex) : SoundS G (.app w i e) := by
  refine ⟨fun X c rf fz st o hx h => ?_⟩
  unfold chkS at h
  split at h
  · rename_i x np n ap v cp pos
    obtain ⟨h1, h⟩ := ba h
    obtain ⟨h2, h⟩ := ba h
    obtain ⟨h3, h⟩ := ba h
    obtain ⟨h4, h⟩ := ba h
    obtain ⟨h5, h6⟩ := ba h
    have e1 := de h2
    subst e1
    have hw := wOk_ok o h3
    have st : [v].all noStar = true := by simp [h5]
    refine PS.imp (ps_expr (pe_bmF PySem.F.plainAttrs_list PySem.F.slot_list_append PySem.F.type_list_append mt_append (pe_nm o h1) (pa_cons ((sound e).val X c v o h4) pa_nil (star1 h5)) rfl (stars2 st) (by simp) h6 (star1 h5) rfl)) fun D σ H ⟨wd, env, S, hf, I, h⟩ => ?_
    obtain ⟨a, S1, e1, h⟩ := h.thn
    split at h
    · rename_i d
      obtain ⟨p, q1, xs, q2⟩ := recv I (fun z => (hw z).1) (change_recv h)
      refine ⟨.ref p, q1, tyF_list q2, wd, env, S, _, S1, I, e1, fun u H1 p1 => ?_⟩
      have I1 := I.next p1.ext p1.cells
      obtain ⟨ys, ds, ds', g1, g2, g3, _, g4⟩ := change_at I1 hw hf h q1
      obtain ⟨hz, rfl⟩ := if_some g3
      exact ⟨p, ys, u, rfl, rfl, g1, by rw [g2.length]; exact hz, g4 _ (g2.append (.cons p1.rep .nil))⟩
    · exact h.elim
  · cases h
theorem SoundS.extd (w : Bool) (i : Nat) (e : Ex) : SoundS G (.extd w i e) := by
  refine ⟨fun X c rf fz st o hx h => ?_⟩
  unfold chkS at h
  split at h
  · rename_i x np n ap v cp pos
    obtain ⟨h1, h⟩ := ba h
    obtain ⟨h2, h⟩ := ba h
    obtain ⟨h3, h⟩ := ba h
    obtain ⟨h4, h⟩ := ba h
    obtain ⟨h7, h⟩ := ba h
    obtain ⟨h5, h6⟩ := ba h
    have e1 := de h2
    subst e1
    have hw := wOk_ok o h3
    have st : [v].all noStar = true := by simp [h5]
    refine PS.imp (ps_expr (pe_bmF PySem.F.plainAttrs_list PySem.F.slot_list_extend PySem.F.type_list_extend mt_extend (pe_nm o h1) (pa_cons ((sound e).val X c v o h4) pa_nil (star1 h5)) rfl (stars2 st) (by simp) h6 (star1 h5) rfl)) fun D σ H ⟨wd, env, S, hf, I, h⟩ => ?_
    obtain ⟨a, S1, e1, h⟩ := h.thn
    split at h
    · rename_i zs
      obtain ⟨p, q1, xs, q2⟩ := recv I (fun z => (hw z).1) (change_recv h)
      refine ⟨.ref p, q1, tyF_list q2, wd, env, S, _, S1, I, e1, fun u H1 p1 => ?_⟩
      have I1 := I.next p1.ext p1.cells
      rw [h7] at p1
      obtain ⟨q, ws, rfl, f1, f2⟩ := fresh_list I1 p1
      obtain ⟨ys, ds, ds', g1, g2, g3, _, g4⟩ := change_at I1 hw hf h q1
      obtain ⟨hz, rfl⟩ := if_some g3
      exact ⟨p, q, ys, ws, rfl, rfl, g1, f1, by rw [g2.length, f2.length]; exact hz, g4 _ (g2.append f2)⟩
    · exact h.elim
  · cases h
theorem SoundS.put (w : Bool) (i : Nat) (k e : Ex) : SoundS G (.put w i k e) := by
  refine ⟨fun X c rf fz st o hx h => ?_⟩
  unfold chkS at h
  split at h
  · rename_i x np ke sp v pos
    obtain ⟨h1, h⟩ := ba h
    obtain ⟨h3, h⟩ := ba h
    obtain ⟨h4, h⟩ := ba h
    obtain ⟨h5, h6⟩ := ba h
    have hw := wOk_ok o h3
    have pg := pg_sub (pos := sp) (pe_nm (p := np) o h1) ((sound k).bor X c ke o h5) set_list (by intro u; cases ke <;> first | rfl | (cases h6; done))
    refine PS.imp (ps_asg ((sound e).val X c v o h4) pg (by rw [sole]; exact sw_sub) ssw_sub rfl) fun D σ H ⟨wd, env, S, hf, I, h⟩ => ?_
    obtain ⟨a, S1, e1, h⟩ := h.thn
    obtain ⟨b, S2, e2, h⟩ := h.thn
    split at h
    · rename_i d j ej _
      obtain ⟨p, q1, xs, q2⟩ := recv I (fun z => (hw z).1) (change_recv h)
      refine ⟨wd, env, S, _, S1, I, e1, fun u H1 p1 => ?_⟩
      have I1 := I.next p1.ext p1.cells
      refine ⟨.ref p, q1, wd, env, S1, b, S2, I1, e2, fun t H2 p2 => ?_⟩
      have I2 := I1.next p2.ext p2.cells
      obtain ⟨ys, ds, ds', g1, g2, g3, _, g4⟩ := change_at I2 hw hf h q1
      obtain ⟨m, hm, rfl⟩ := Option.map_eq_some_iff.mp g3
      have r : Rep G.K (BadOf G.W wd σ env) H2 u d := RepA.next (a := .val d) I1 p2.ext p1.rep
      exact ⟨p, ys, j, m, rfl, asInt_rep p2.rep I2.cells ej, g1, by rw [g2.length]; exact hm, g4 _ (g2.set r m)⟩
    · exact h.elim
  · cases h
theorem SoundS.augPut (w : Bool) (i : Nat) (k : Ex) (op : BOp) (e : Ex) : SoundS G (.augPut w i k op e) := by
  refine ⟨fun X c rf fz st o hx h => ?_⟩
  unfold chkS at h
  split at h
  · rename_i x np ke sp op' v pos
    obtain ⟨h1, h⟩ := ba h
    obtain ⟨h3, h⟩ := ba h
    obtain ⟨h7, h⟩ := ba h
    obtain ⟨h8, h⟩ := ba h
    obtain ⟨h4, h⟩ := ba h
    obtain ⟨h5, h6⟩ := ba h
    have hw := wOk_ok o h3
    have e1 := de h7
    subst e1
    refine PS.imp (ps_augS (tpos := sp) (pe_nm (p := np) o h1) ((sound k).bor X c ke o h5) get_list ((sound e).bor X c v o h4) (ip_op op h8) set_list (by intros; cases ke <;> first | rfl | (cases h6; done))) fun D σ H ⟨wd, env, S, hf, I, h⟩ => ?_
    obtain ⟨b, S1, e1, h⟩ := h.thn
    split at h
    · rename_i j ds ej eds
      split at h
      · rename_i old eo
        obtain ⟨y, S2, e2, h⟩ := h.thn
        split at h
        · rename_i d ed
          split at h
          · rename_i z ez
            obtain ⟨p, q1, xs, q2⟩ := recv I (fun z => (hw z).1) (change_recv h)
            refine ⟨.ref p, q1, wd, env, S, b, S1, I, e1, fun t H1 p1 => ?_⟩
            have I1 := I.next p1.ext p1.cells
            obtain ⟨ws, f1, f2⟩ : ∃ ws, H1 p = some (.lst ws) ∧ Reps G.K (BadOf G.W wd σ env) H1 ws ds := by
              obtain ⟨a, ea, eb⟩ := Option.bind_eq_some_iff.mp eds
              obtain ⟨u, u1, u2⟩ := I1.var i a (getV_some ea)
              rw [q1] at u1
              cases u1
              rcases u2 with ⟨u2, un⟩ | ⟨_, ds1, p', xs1, rfl, z1, g1, g2⟩
              · cases a with
                | val dd =>
                  cases eb
                  rcases change_recv h with ⟨zw, _⟩ | ⟨n, zn⟩
                  · exact absurd rfl (un (hw zw).1 ds)
                  · rw [ea] at zn; cases zn
                | ref n =>
                  obtain ⟨p', e3, e4⟩ := u2
                  cases e4
                  obtain ⟨ds2, e5, e6⟩ := Option.map_eq_some_iff.mp (show (S1[n]?).map PyData.list = some (.list ds) from eb)
                  cases e6
                  exact I1.cells.at_ n p ds e3 e5
              · cases z1
                cases eb
                exact ⟨xs1, g1, g2⟩
            obtain ⟨ov, k1, k2⟩ := atI_rep f2 eo
            rw [o.K]
            refine ⟨p, ws, j, ov, rfl, asInt_rep p1.rep I1.cells ej, .inl (.inl f1), k1, wd, env, S1, y, S2, I1, e2, fun u H2 p2 => ?_⟩
            have I2 := I1.next p2.ext p2.cells
            have r : Rep G.K (BadOf G.W wd σ env) H2 ov old := RepA.next (a := .val old) I1 p2.ext k2
            refine ⟨_, old, d, z, .of r, p2.rep.deref I2.cells ed, ez, fun nv rn => ?_⟩
            obtain ⟨ys, ds3, ds', g1, g2, g3, _, g4⟩ := change_at I2 hw hf h q1
            obtain ⟨m, hm, rfl⟩ := Option.map_eq_some_iff.mp g3
            exact ⟨p, ys, j, m, rfl, asInt_rep p1.rep I1.cells ej, g1, by rw [g2.length]; exact hm, g4 _ (g2.set rn m)⟩
          · exact h.elim
        · exact h.elim
      · exact h.elim
    · exact h.elim
  · cases h

theorem SoundS.ret (e : Ex) : SoundS G (.ret e) := by
  refine ⟨fun X c rf fz st o hx h => ?_⟩
  unfold chkS at h
  split at h
  · rename_i v pos
    obtain ⟨h1, h2⟩ := ba h
    refine PS.imp (ps_ret ((sound e).val X c v o h1)) fun D σ H ⟨wd, env, S, hf, I, h⟩ => ?_
    obtain ⟨a, S1, e1, h⟩ := h.thn
    refine ⟨wd, env, S, a, S1, I, e1, fun u H1 p => h u H1 wd.ρ (List.prefix_refl _) ?_⟩
    have I1 := I.next p.ext p.cells
    refine ⟨I1.ext, p.cells.anti I1.badOk fun a z => .inl z, p.rep.anti I1.badOk fun a z => .inl z, fun hr ds ed => ?_⟩
    rw [hr] at h2
    obtain ⟨q, xs, rfl, n0, g1, g2, g3⟩ := p.fresh h2 ds ed
    have ok : BadOk (fun a => BadOf G.W wd σ env a ∨ a = q) H1 := fun a z => by
      rcases z with z | z
      · exact I1.badOk a z
      · exact ⟨xs, by rw [z]; exact g1⟩
    have hb : ∀ a, (wd.B0 a ∨ a = q) → (BadOf G.W wd σ env a ∨ a = q) := fun a z => z.imp .inl id
    exact ⟨q, xs, rfl, .inr (I.noneHe n0), fun z => I.notBad n0 (.inl z), g1, g2.anti ok hb, g3.anti ok hb⟩
  · cases h
theorem SoundS.retO (i : Nat) : SoundS G (.retO i) := by
  refine ⟨fun X c rf fz st o hx h => ?_⟩
  unfold chkS at h
  split at h
  · rename_i x np pos
    obtain ⟨h1, h2⟩ := ba h
    obtain ⟨h2, h3⟩ := ba h2
    refine PS.imp (ps_ret (pe_nm (p := np) o h1)) fun D σ H ⟨wd, env, S, hf, I, h⟩ => ?_
    have hi : i ∈ G.W := by rw [o.W] at h2; simpa using h2
    have hfz : i ∉ fz := by simpa using h3
    simp only [exec] at h
    split at h
    · rename_i d eg
      obtain ⟨v, w1, w2⟩ := I.var i _ (getV_some eg)
      refine ⟨v, w1, h v H wd.ρ (List.prefix_refl _) ?_⟩
      rcases w2 with ⟨w2, hn⟩ | ⟨_, ds, p, xs, ed, rfl, g1, g2⟩
      · exact ⟨I.ext, I.cells.anti I.badOk fun a z => .inl z, w2.anti I.badOk fun a z => .inl z, fun _ ds z => absurd z (hn hi ds)⟩
      · cases ed
        have oa : OwnAt G.W σ env i p := ⟨hi, ⟨ds, getV_some eg⟩, w1⟩
        have hb : ∀ a, (wd.B0 a ∨ a = p) → BadOf G.W wd σ env a := fun a z => z.elim .inl fun z => .inr (.inr ⟨i, z ▸ oa⟩)
        refine ⟨I.ext, I.cells.anti I.badOk fun a z => .inl z, .lst (.inl ⟨.inl g1, I.ownB p ⟨i, oa⟩⟩) (g2.anti I.badOk fun a z => .inl z), fun _ ds' z => ?_⟩
        cases z
        exact ⟨p, xs, rfl, (I.ownM i p oa).elim id fun z => absurd (hf i p z) hfz, I.ownB p ⟨i, oa⟩, g1, g2.anti I.badOk hb, I.cells.anti I.badOk hb⟩
    · exact h.elim
  · cases h
theorem SoundS.retN : SoundS G .retN := by
  refine ⟨fun X c rf fz st o hx h => ?_⟩
  unfold chkS at h
  split at h
  · refine PS.imp ps_retN fun D σ H ⟨wd, env, S, hf, I, h⟩ => h _ H wd.ρ (List.prefix_refl _) ⟨I.ext, I.cells.anti I.badOk fun a z => .inl z, .non, fun _ ds z => nomatch z⟩
  · cases h
theorem SR.self {wd : Wd} {σ : L2.St} {H : Hp} {env : TEnv} {S : Store} (I : SR G.K G.W wd σ H env S) : SR G.K G.W { wd with ρ := wd.ρ } σ H env S := I
theorem SoundS.pass : SoundS G .pass := by
  refine ⟨fun X c rf fz st o hx h => ?_⟩
  unfold chkS at h
  split at h
  · exact PS.imp ps_pass fun D σ H ⟨wd, env, S, hf, I, h⟩ => h _ H wd.ρ (List.prefix_refl _) I
  · cases h
theorem SoundS.brk : SoundS G .brk := by
  refine ⟨fun X c rf fz st o hx h => ?_⟩
  unfold chkS at h
  split at h
  · exact PS.imp ps_break fun D σ H ⟨wd, env, S, hf, I, h⟩ => h _ H wd.ρ (List.prefix_refl _) I
  · cases h
theorem SoundS.cnt : SoundS G .cnt := by
  refine ⟨fun X c rf fz st o hx h => ?_⟩
  unfold chkS at h
  split at h
  · exact PS.imp ps_continue fun D σ H ⟨wd, env, S, hf, I, h⟩ => h _ H wd.ρ (List.prefix_refl _) I
  · cases h
theorem SoundS.doc : SoundS G .doc := by
  refine ⟨fun X c rf fz st o hx h => ?_⟩
  unfold chkS at h
  split at h
  · exact PS.imp ps_doc fun D σ H ⟨wd, env, S, hf, I, h⟩ => h _ H wd.ρ (List.prefix_refl _) I
  · cases h
end
end Tr


namespace Tr
open PySem L2
open PySem.Spec PyProof.Rows

section
variable {G : Gam} {X : Cx} {c : Ctx}
theorem SoundS.ifs (t : Ex) (a b : List Cmd) (ha : SoundSs G a) (hb : SoundSs G b) : SoundS G (.ifs t a b) := by
  refine ⟨fun X c rf fz st o hx h => ?_⟩
  unfold chkS at h
  split at h
  · rename_i te sa sb pos
    obtain ⟨h1, h⟩ := ba h
    obtain ⟨h2, h3⟩ := ba h
    refine PS.imp (ps_if ((sound t).tst X c te o h1) (ha.run X c rf fz sa o hx h2) (hb.run X c rf fz sb o hx h3)) fun D σ H ⟨wd, env, S, hf, I, h⟩ => ?_
    obtain ⟨x, S1, e1, h⟩ := h.thn
    split at h
    · rename_i k ek
      have ex : x = .val (.bool k) := by
        cases x with
        | ref n => cases ek
        | val d => cases d <;> cases ek; rfl
      subst ex
      refine ⟨wd, env, S, k, S1, I, e1, fun H1 x1 c1 => ?_⟩
      have I1 := I.next x1 c1
      cases k with
      | true => exact ⟨wd, env, S1, hf, I1, h⟩
      | false => exact ⟨wd, env, S1, hf, I1, h⟩
    · exact h.elim
  · cases h
theorem SoundS.fors (tg : List Nat) (it : Ex) (body : List Cmd) (hb : SoundSs G body) : SoundS G (.fors tg it body) := by
  refine ⟨fun X c rf fz st o hx h => ?_⟩
  unfold chkS at h
  split at h
  · rename_i t i sb pos
    obtain ⟨h1, h⟩ := ba h
    obtain ⟨h2, h⟩ := ba h
    obtain ⟨h3, h4⟩ := ba h
    obtain ⟨pg, hw⟩ := pg_ok o h3
    refine PS.imp (ps_for (by rw [hx]; exact PassesOwn.never) o.calm ((sound it).wlk X c i t o h1) pg (hb.run X c rf (fzOf it ++ fz) sb o hx h4) fun x => fold_no h2 x) fun D σ H ⟨wd, env, S, hf, I, h⟩ => ?_
    obtain ⟨x, S1, e1, h⟩ := h.thn
    split at h
    · rename_i ds ei
      refine ⟨wd, env, S, x, S1, ds, I, e1, ei, fun J H1 x1 c1 w => ?_⟩
      have I1 := I.next x1 c1
      obtain ⟨Gd, Y, wk, hG, hY⟩ := w
      have In := I1.now (F := fun j => it = .own j)
      generalize hwn : wd.now G.W σ env H1 (fun j => it = .own j) = wn at In
      have nM : ∀ {a : Addr}, wn.M a → wd.M a ∨ wd.He a = none := fun {a} z => I1.nowM (F := fun j => it = .own j) (by rw [hwn]; exact z)
      have nHe : wn.He = H1 := by rw [← hwn]; rfl
      have nB0 : wn.B0 = wd.B0 := by rw [← hwn]; rfl
      have nρ : wn.ρ = wd.ρ := by rw [← hwn]; rfl
      have mB : ∀ a, wn.M a → BadOf G.W wd σ env a := fun a z => by
        rw [← hwn] at z
        rcases z with z | ⟨j, z, _⟩
        · exact .inr (.inl z)
        · exact .inr (.inr ⟨j, z⟩)
      have zB : ∀ j a, wn.Fz j a → BadOf G.W wd σ env a := fun j a z => by
        rw [← hwn] at z
        exact .inr (.inr ⟨j, z.2⟩)
      have hfz : FzOk wn (fzOf it ++ fz) := fun j p z => by
        rw [← hwn] at z
        rcases z.1 with z | z
        · exact List.mem_append_right _ (hf j p z)
        · refine List.mem_append_left _ ?_
          have z : it = .own j := z
          rw [z]
          simp [fzOf]
      have hM : ∀ a, wn.M a → (a ∈ wd.ρ ∨ (BadOf G.W wd σ env a ∧ ∀ i, it = .own i → ¬ OwnAt G.W σ env i a)) ∨ H1 a = none := fun a z => by
        rw [← hwn] at z
        rcases z with z | ⟨j, z, nF, _⟩
        · exact .inl (.inl z)
        · exact .inl (.inr ⟨.inr (.inr ⟨j, z⟩), fun i e z' => nF (by rw [I1.dist j i a z z']; exact e)⟩)
      have since : ∀ {ρ' : List Addr} {τ : L2.St} {H' : Hp} {env' : TEnv} {S' : Store}, wd.ρ <+: ρ' → SR G.K G.W { wn with ρ := ρ' } τ H' env' S' → SR G.K G.W { wd with ρ := ρ' } τ H' env' S' := fun hρ J' => by
        rw [← hwn] at J'
        exact I1.since hρ J'
      generalize hfn : (fun d env S => match bindT tg d env with
        | some env' => execs G.C body env' S
        | none => .err : PyData → TEnv → Store → RS) = f at h
      refine for_it wk (fun j σ2 H2 => ∃ env2 S2 ρ2, wd.ρ <+: ρ2 ∧ SR G.K G.W { wn with ρ := ρ2 } σ2 H2 env2 S2 ∧ EndsOf G rf wd (loop f (ds.drop j) env2 S2) D)
        ⟨env, S1, wd.ρ, List.prefix_refl _, by rw [← nρ]; exact In, h⟩ (fun j σ2 H2 _ ⟨env2, S2, ρ2, _, J2, _⟩ => hG _ H2 hM (by have := J2.ext; rw [nHe] at this; exact this)) (fun j v σ2 H2 H3 hj ⟨env2, S2, ρ2, pr, J2, hl⟩ y => ?_) fun σ2 H2 ⟨env2, S2, ρ2, pr, J2, hl⟩ => ?_
      · have e2 : Ext wn.M H1 H2 := by have := J2.ext; rw [nHe] at this; exact this
        have hbad : ∀ a, BadOf G.W { wn with ρ := ρ2 } σ2 env2 a → BadOf G.W wd σ env a ∨ H1 a = none := fun a z => by
          have fin : wn.M a ∨ wn.He a = none → BadOf G.W wd σ env a ∨ H1 a = none := fun z => z.imp (mB a) fun z => nHe ▸ z
          rcases z with z | z | ⟨k, z⟩
          · exact .inl (.inl (nB0 ▸ z))
          · exact fin (J2.ρM a z)
          · exact (J2.ownM k a z).elim fin fun z => .inl (zB k a z)
        obtain ⟨nw, d, y1, y2, y3⟩ := hY _ _ H2 j v H3 hM e2 hbad J2.badOk hj y
        have J3 : SR G.K G.W { wn with ρ := ρ2 } σ2 H3 env2 S2 := J2.next nw.ext (J2.cells.ext (M := fun _ => False) J2.badOk (fun _ z => z.elim) nw.ext (fun a z => .inl z) fun _ _ z => z)
        have hdr : ds.drop j = d :: ds.drop (j + 1) := by
          obtain ⟨hj', e⟩ := List.getElem?_eq_some_iff.mp y1
          rw [List.drop_eq_getElem_cons hj', e]
        rw [hdr] at hl
        simp only [loop] at hl
        cases eb : bindT tg d env2 with
        | none =>
          have : f d env2 S2 = .err := by rw [← hfn]; simp only [eb]
          rw [this] at hl
          exact hl.elim
        | some env3 =>
          have ef : f d env2 S2 = execs G.C body env3 S2 := by rw [← hfn]; simp only [eb]
          rw [ef] at hl
          obtain ⟨dsx, t1, rfl⟩ := bindT_takes eb
          refine ⟨_, d, dsx, y2, y3, t1, fun vs hvs => ⟨{ wn with ρ := ρ2 }, _, S2, hfz, J3.bind hw hvs, ?_⟩⟩
          cases er : execs G.C body (setE env2 tg dsx) S2 with
          | nx e3 S3 =>
            rw [er] at hl
            exact fun σ4 H4 ρ4 pr' J4 => ⟨e3, S3, ρ4, pr.trans pr', J4, hl⟩
          | ct e3 S3 =>
            rw [er] at hl
            exact fun σ4 H4 ρ4 pr' J4 => ⟨e3, S3, ρ4, pr.trans pr', J4, hl⟩
          | bk e3 S3 =>
            rw [er] at hl
            exact fun σ4 H4 ρ4 pr' J4 => hl σ4 H4 ρ4 (pr.trans pr') (since (pr.trans pr') J4)
          | rt a S3 =>
            rw [er] at hl
            refine fun v4 H4 ρ4 pr' R => hl v4 H4 ρ4 (pr.trans pr') ⟨I1.ext.chain (by have := R.ext; rw [show ({ wn with ρ := ρ2 } : Wd).He = H1 from nHe] at this; exact this) fun a => nM, ?_, ?_, fun hr ds' ed => ?_⟩
            · have := R.cells
              rw [show ({ wn with ρ := ρ2 } : Wd).B0 = wd.B0 from nB0] at this
              exact this
            · have := R.rep
              rw [show ({ wn with ρ := ρ2 } : Wd).B0 = wd.B0 from nB0] at this
              exact this
            · obtain ⟨p, xs, g1, g2, g3, g4⟩ := R.fresh hr ds' ed
              rw [show ({ wn with ρ := ρ2 } : Wd).B0 = wd.B0 from nB0] at g3 g4
              refine ⟨p, xs, g1, ?_, g3, g4⟩
              rcases g2 with z | z
              · exact nM z
              · exact .inr (I1.noneHe (nHe ▸ z))
          | err =>
            rw [er] at hl
            exact hl.elim
      · rw [List.drop_length] at hl
        exact hl σ2 H2 ρ2 pr (since pr J2)
    · exact h.elim
  · cases h
theorem SoundSs.nil : SoundSs G [] := by
  refine ⟨fun X c rf fz st o hx h => ?_⟩
  cases st with
  | nil => exact PSs.imp pss_nil fun D σ H ⟨wd, env, S, hf, I, h⟩ => h σ H wd.ρ (List.prefix_refl _) I
  | cons _ _ => cases h
theorem SoundSs.cons {s : Cmd} {ss : List Cmd} (h1 : SoundS G s) (h2 : SoundSs G ss) : SoundSs G (s :: ss) := by
  refine ⟨fun X c rf fz st o hx h => ?_⟩
  cases st with
  | nil => cases h
  | cons t ts =>
    obtain ⟨g1, g2⟩ := ba h
    refine PSs.imp (pss_cons (h1.run X c rf fz t o hx g1) (h2.run X c rf fz ts o hx g2)) fun D σ H ⟨wd, env, S, hf, I, h⟩ => ⟨wd, env, S, hf, I, ?_⟩
    have h : EndsOf G rf wd ((exec G.C s env S).bind fun env S => execs G.C ss env S) D := h
    cases er : exec G.C s env S with
    | nx e S1 =>
      rw [er] at h
      exact fun σ1 H1 ρ pr J => ⟨{ wd with ρ := ρ }, e, S1, hf, J, EndsOf.grow h pr⟩
    | bk e S1 => rw [er] at h; exact h
    | ct e S1 => rw [er] at h; exact h
    | rt a S1 => rw [er] at h; exact h
    | err => rw [er] at h; exact h
theorem SoundS.par3 (i j k : Nat) (a b c : Ex) : SoundS G (.par3 i j k a b c) := ⟨fun X c rf fz st o hx h => by cases h⟩
mutual
theorem soundS : ∀ s : Cmd, SoundS G s
  | .set i e => .set i e
  | .setT is e => .setT is e
  | .par i j a b => .par i j a b
  | .par3 i j k a b c => .par3 i j k a b c
  | .box i e => .box i e
  | .aug i o e => .aug i o e
  | .app w i e => .app w i e
  | .extd w i e => .extd w i e
  | .put w i k e => .put w i k e
  | .augPut w i k o e => .augPut w i k o e
  | .ifs c a b => .ifs c a b (soundSs a) (soundSs b)
  | .fors tg it body => .fors tg it body (soundSs body)
  | .ret e => .ret e
  | .retO i => .retO i
  | .retN => .retN
  | .pass => .pass
  | .brk => .brk
  | .cnt => .cnt
  | .doc => .doc
theorem soundSs : ∀ ss : List Cmd, SoundSs G ss
  | [] => .nil
  | s :: ss => .cons (soundS s) (soundSs ss)
end
end
end Tr


namespace Tr
open PySem L2
open PySem.Spec PyProof.Rows

theorem fnG_of {P : Program} {w : World} {K : PySem.W.Frag} {mg : Str → Option Value} {base : Heap} {k : Nat} {f : Addr} {fd : FuncData} {x qual : Str} {params : Arguments} {body : List Stmt} {scope : Scope} {dvs : List V} {kws : List (Str × V)} {N ps : List Str} {sp : Sp}
    (F : FunD K x qual params body scope dvs kws f fd) (Sc : FnScope N ps scope) (len : ∀ vs H Q E, sp vs H Q E → vs.length = ps.length)
    (go : ∀ (cdv : Value) (A : Around) (outer : List Env) (s : Shared) (H : Hp) (vs : List V) (Q : VK) (E : XK), Room k (A.deeper (envOfC qual scope s.heap.objs.size f cdv)) → A.guards = some [] → sp vs H Q E →
      ∃ t, PSs (cxOf CX0 P w K mg base N qual scope f cdv A outer s H E).nox body t ∧ t { nx := fun _ H' => Q .non H', rt := Q } (start N vs) H) : FnG P w K mg base (k + 1) f fd ps sp := by
  obtain ⟨oc, od, dV, kV, doc, pm, an, cdv, ct, osl, rfl, lk, hcd, _, _⟩ := F.ex
  refine ⟨len, fun A outer s H args us vs Q E room hg e0 hbind hv hs => ?_⟩
  have hlen := len vs H Q E hs
  have Kin : K.In s.heap := e0.mod.kin.keeps (fun b o z => (e0.bs b o z).1)
  have kinds : ∀ q ∈ ps.zip us, scope.names.lookup q.1 = some .local ∨ (scope.names.lookup q.1 = some .cell ∧ ((cellsFrom (s.heap.objs.size + 1) scope.names []).lookup q.1).isSome = true) := by
    rintro ⟨n, v⟩ hq
    exact (Sc.par n (List.of_mem_zip hq).1).imp id fun z => ⟨z, PySem.W.cellsFrom_some _ _ _ (.inl z)⟩
  refine codeAny_call_function room.depth (Kin _ _ lk) rfl Sc.co Sc.gen rfl (PySem.W.codeRec_of Kin hcd) (hbind _ _ _ _ (wpAny_newFunctionEnv_cells Sc.kind kinds fun env he s1 x => ?_))
  subst he
  have limit : s.heap.NoLimit := e0.mod.nolimit.keeps (fun b o z => (e0.bs b o z).1)
  refine ⟨limit.keeps x.toInCall.keep, codeAny_func ?_⟩
  obtain ⟨t, body_ok, hq⟩ := go cdv A outer s H vs Q E (room.deeper _) hg hs
  have I0 : Inv (cxOf CX0 P w K mg base N qual scope f cdv A outer s H E) [] (start N vs) H s1 := inv_start Sc room.hd e0 hlen hv x
  refine wpAny_mono (body_ok.nox.run [] s1 (start N vs) H _ I0 hq) (fun fl s' r => ?_) fun _ _ r => r
  match fl, r with
  | .ret u, ⟨v, σ', H', J, rv, q⟩ => exact ⟨v, H', J.os, J.bare, J.base, J.hok, rv, q⟩
  | .next, ⟨σ', H', J, q⟩ => exact ⟨V.non, H', J.os, J.bare, J.base, J.hok, (rfl : RelV V.non Value.none), q⟩
  | .brk, ⟨_, _, _, q⟩ => exact q.elim
  | .cont, ⟨_, _, _, q⟩ => exact q.elim

/-- a def's text: its name, parameters, body, scope; the names of the parameters, of all slots -/
structure DefT where
  x : Str
  params : Arguments
  body : List Stmt
  scope : Scope
  ps : List Str
  N : List Str
def ctxOf (ds : List (Nat × DefT)) (cons : List (Str × PyData)) (d : DefT) (f : Fn) : Ctx := ⟨d.N, d.scope, fun _ => true, f.W, ds.map fun d => (d.1, d.2.x, d.2.ps.length), cons⟩
def frOf (P : Prg) (i : Nat) : Bool := match P i with
  | some f => f.fresh
  | none => false
def chkFn (ds : List (Nat × DefT)) (cons : List (Str × PyData)) (P : Prg) (d : DefT) (f : Fn) : Bool :=
  C8.scC d.N d.ps d.scope && (d.N.length == f.ns && (d.ps.length == f.np && (f.W.all (fun i => decide (f.np ≤ i)) && chkSs (ctxOf ds cons d f) (frOf P) f.fresh [] f.body d.body)))
structure ModOk (K : PySem.W.Frag) (mg : Str → Option Value) (ds : List (Nat × DefT)) (cons : List (Str × PyData)) : Prop where
  defs : ∀ (i : Nat) (d : DefT), (i, d) ∈ ds → ∃ f fd, FunD K d.x d.x d.params d.body d.scope [] [] f fd ∧ mg d.x = some (.ref f) ∧ Binds K fd d.ps []
  cons : ∀ (x : Str) (d : PyData), cons.lookup x = some d → ∃ u v, mg x = some u ∧ RelV v u ∧ ∀ Bad H, Rep K Bad H v d
  free : ∀ x ∈ bltNames, mg x = none
def gamOf (K : PySem.W.Frag) (P : Prg) (W : List Nat) (n : Nat) : Gam := ⟨K, callP P n, W, frOf P, n⟩

theorem RepAs.len {K : PySem.W.Frag} {Bad : Addr → Prop} {H : Hp} {ρ : List Addr} : ∀ {vs : List V} {as : List A}, RepAs K Bad H ρ vs as → vs.length = as.length
  | _, _, .nil => rfl
  | _, _, .cons _ t => congrArg (· + 1) t.len
theorem RepAs.at_ {K : PySem.W.Frag} {Bad : Addr → Prop} {H : Hp} {ρ : List Addr} : ∀ {vs : List V} {as : List A} {i : Nat} {a : A}, RepAs K Bad H ρ vs as → as[i]? = some a → ∃ v, vs[i]? = some v ∧ RepA K Bad H ρ v a
  | _, _, _, _, .nil, e => by simp at e
  | _, _, 0, _, .cons r _, e => by
    simp at e; subst e
    exact ⟨_, by simp, r⟩
  | _, _, i + 1, a, .cons _ t, e => by
    obtain ⟨v, h1, h2⟩ := RepAs.at_ (i := i) (a := a) t (by simpa using e)
    exact ⟨v, by simpa using h1, h2⟩
theorem Cells.take {K : PySem.W.Frag} {Bad : Addr → Prop} {H : Hp} {ρ ρ' : List Addr} {S' : Store} (c : Cells K Bad H ρ' S') (p : ρ <+: ρ') : Cells K Bad H ρ (S'.take ρ.length) := by
  obtain ⟨t, rfl⟩ := p
  have hl := c.len
  rw [List.length_append] at hl
  refine ⟨by rw [List.length_take]; omega, fun n a ds e1 e2 => c.at_ n a ds ?_ ?_⟩
  · rw [List.getElem?_append_left (List.getElem?_eq_some_iff.mp e1).1]
    exact e1
  · have hn : n < ρ.length := (List.getElem?_eq_some_iff.mp e1).1
    rw [List.getElem?_take_of_lt hn] at e2
    exact e2
theorem start_some {N : List Str} {vs : List V} {i : Nat} {v : V} (h : vs[i]? = some v) : (start N vs)[i]? = some (some v) := by
  have hi := (List.getElem?_eq_some_iff.mp h).1
  unfold L2.start
  rw [List.getElem?_append_left (by simpa using hi), List.getElem?_map, h]
  rfl
theorem env0_some {as : List A} {n i : Nat} {a : A} (h : (as.map some ++ List.replicate n none : TEnv)[i]? = some (some a)) : as[i]? = some a := by
  by_cases hi : i < as.length
  · rw [List.getElem?_append_left (by simpa using hi), List.getElem?_map] at h
    cases e : as[i]? with
    | none => rw [e] at h; cases h
    | some b => rw [e] at h; cases h; rfl
  · rw [List.getElem?_append_right (by simpa using hi), List.getElem?_replicate] at h
    split at h <;> cases h

section
variable {Pg : Program} {w : World} {K : PySem.W.Frag} {mg : Str → Option Value} {base : Heap} {ds : List (Nat × DefT)} {cons : List (Str × PyData)} {P : Prg}
/-- a body's run keeps the def's promise -/
theorem body_ok {G : Gam} {f : Fn} {i n : Nat} {N : List Str} {vs : List V} {H : Hp} {Q : VK} {E : XK} (hG : G = gamOf K P f.W n) (hP : P i = some f) (hN : N.length = f.ns) (hW : ∀ j ∈ f.W, f.np ≤ j) (h : spF (gamOf K P f.W (n + 1)) i vs H Q E) :
    tSs G f.fresh [] f.body { nx := fun _ H' => Q .non H', rt := Q } (start N vs) H := by
  subst hG
  obtain ⟨Bad, ρ, S, as, a, S', ok, hρ, nd, cs, ra, ev, q⟩ := h
  have ev : (match P i with
    | some fn => runFn (callP P n) fn as S
    | none => .err) = R.ok a S' := ev
  rw [hP] at ev
  have ev : runFn (callP P n) f as S = .ok a S' := ev
  unfold runFn at ev
  split at ev
  rotate_left
  · cases ev
  rename_i hnp
  have hlen : vs.length = f.np := by rw [ra.len]; exact hnp.1
  have noW : ∀ j ∈ f.W, ∀ b, ¬ (as.map some ++ List.replicate (f.ns - f.np) none : TEnv)[j]? = some (some b) := fun j hj b z => by
    have z := env0_some z
    have l := (List.getElem?_eq_some_iff.mp z).1
    have := hW j hj
    omega
  have noOwn : ∀ j p, ¬ OwnAt f.W (start N vs) (as.map some ++ List.replicate (f.ns - f.np) none) j p := fun j p ⟨hj, ⟨ds, e⟩, _⟩ => noW j hj _ e
  have hb : ∀ a, BadOf f.W ⟨Bad, ρ, H, (· ∈ ρ), fun _ _ => False⟩ (start N vs) (as.map some ++ List.replicate (f.ns - f.np) none) a → Bad a := fun a z => by
    rcases z with z | z | ⟨j, z⟩
    · exact z
    · exact hρ a z
    · exact absurd z (noOwn j a)
  have frI : (gamOf K P f.W (n + 1)).fr i = f.fresh := by
    show frOf P i = _
    unfold frOf
    rw [hP]
  have sl : ρ.length = S.length := cs.len
  refine ⟨⟨Bad, ρ, H, (· ∈ ρ), fun _ _ => False⟩, as.map some ++ List.replicate (f.ns - f.np) none, S, fun _ _ z => z.elim, ⟨?_, fun j b e => ?_, fun j k p z => absurd z (noOwn j p), fun p ⟨j, z⟩ => absurd z (noOwn j p), fun j p z => absurd z (noOwn j p), fun p ⟨j, z⟩ => absurd z (noOwn j p), fun p ⟨j, z⟩ => absurd z (noOwn j p),
    ok, cs.anti ok hb, nd, fun p z => .inl z, fun p z => ok p (hρ p z), .refl⟩, ?_⟩
  · unfold L2.start
    simp only [List.length_append, List.length_map, List.length_replicate]
    omega
  · obtain ⟨v, v1, v2⟩ := ra.at_ (env0_some e)
    exact ⟨v, start_some v1, .inl ⟨v2.anti ok hb, fun hj ds z => noW j hj b e⟩⟩
  · show EndsOf _ _ _ (execs (callP P n) f.body (as.map some ++ List.replicate (f.ns - f.np) none) S) _
    cases er : execs (callP P n) f.body (as.map some ++ List.replicate (f.ns - f.np) none) S with
    | nx e1 S1 =>
      rw [er] at ev
      cases ev
      intro σ1 H1 ρ1 pr J
      refine q .non H1 J.ext ?_ .non fun _ ds z => nomatch z
      have c := (J.cells.anti (Bad' := Bad) J.badOk fun a z => .inl z).take (ρ := ρ) pr
      rw [sl] at c
      exact c
    | rt b S1 =>
      rw [er] at ev
      have fin : ∀ {v : V} {H1 : Hp} {ρ1 : List Addr} {b : A}, ρ <+: ρ1 → RetP (gamOf K P f.W n) f.fresh ⟨Bad, ρ, H, (· ∈ ρ), fun _ _ => False⟩ ρ1 b S1 v H1 → RepA K Bad H1 ρ v b → a = b → S' = S1.take S.length → Q v H1 := fun {v H1 ρ1 b} pr R r e1 e2 => by
        subst e1 e2
        refine q v H1 R.ext ?_ r fun hf ds z => ?_
        · have c := Cells.take (K := K) R.cells (ρ := ρ) pr
          rw [sl] at c
          exact c
        · rw [frI] at hf
          obtain ⟨p, xs, g1, g2, g3, g4, g5, g6⟩ := R.fresh hf ds z
          refine ⟨p, xs, g1, ?_, g4, g5, ?_⟩
          · rcases g2 with z | z
            · exact absurd (hρ p z) g3
            · exact z
          · have c := Cells.take (K := K) g6 (ρ := ρ) pr
            rw [sl] at c
            exact c
      cases b with
      | val d =>
        cases ev
        exact fun v H1 ρ1 pr R => fin pr R R.rep rfl rfl
      | ref m =>
        by_cases hm : m < S.length
        · have ev : (if m < S.length then R.ok (A.ref m) (S1.take S.length) else .err) = R.ok a S' := ev
          rw [if_pos hm] at ev
          cases ev
          refine fun v H1 ρ1 pr R => fin pr R ?_ rfl rfl
          obtain ⟨p, e1, e2⟩ := R.rep
          obtain ⟨t, rfl⟩ := pr
          rw [List.getElem?_append_left (by rw [sl]; exact hm)] at e1
          exact ⟨p, e1, e2⟩
        · have ev : (if m < S.length then R.ok (A.ref m) (S1.take S.length) else .err) = R.ok a S' := ev
          rw [if_neg hm] at ev
          cases ev
    | bk _ _ => rw [er] at ev; cases ev
    | ct _ _ => rw [er] at ev; cases ev
    | err => rw [er] at ev; cases ev
theorem lookup_mem {α β : Type} [BEq α] [LawfulBEq α] {x : α} {d : β} : ∀ {l : List (α × β)}, l.lookup x = some d → (x, d) ∈ l
  | [], h => nomatch h
  | (y, e) :: r, h => by
    rw [List.lookup_cons] at h
    split at h
    · rename_i q
      cases h
      rw [eq_of_beq q]
      exact List.mem_cons_self
    · exact List.mem_cons_of_mem _ (lookup_mem h)
/-- every def keeps its promise, to every depth -/
theorem defs_ok (M : ModOk K mg ds cons) (hc : ∀ (i : Nat) (d : DefT), (i, d) ∈ ds → ∃ f, P i = some f ∧ chkFn ds cons P d f = true) :
    ∀ (n : Nat) (W : List Nat) (i : Nat) (d : DefT), (i, d) ∈ ds → ∀ f fd, FunD K d.x d.x d.params d.body d.scope [] [] f fd → FnG Pg w K mg base n f fd d.ps (spF (gamOf K P W n) i)
  | 0, W, i, d, hd, f, fd, F => ⟨fun vs H Q E ⟨_, _, _, _, _, _, _, _, _, _, _, ev, _⟩ => (by cases ev), fun A outer s H args us vs Q E _ _ _ _ _ ⟨_, _, _, _, _, _, _, _, _, _, _, ev, _⟩ => (by cases ev)⟩
  | n + 1, W, i, d, hd, f, fd, F => by
    obtain ⟨fn, hP, c0⟩ := hc i d hd
    obtain ⟨c1, c2⟩ := ba c0
    obtain ⟨c2, c3⟩ := ba c2
    obtain ⟨c3, c4⟩ := ba c3
    obtain ⟨c4, c5⟩ := ba c4
    have Sc := C8.fnScope_by c1
    refine fnG_of F Sc (fun vs H Q E h => ?_) fun cdv A outer s H vs Q E room hg hs => ⟨_, (soundSs (G := gamOf K P fn.W n) fn.body).run _ (ctxOf ds cons d fn) fn.fresh [] d.body ?_ rfl c5, body_ok (E := E) rfl hP (eq_of_beq c2) (fun j hj => of_decide_eq_true (List.all_eq_true.mp c4 j hj)) hs⟩
    · obtain ⟨Bad, ρ, S, as, a, S', ok, hρ, nd, cs, ra, ev, q⟩ := h
      have ev : (match P i with
        | some fn => runFn (callP P n) fn as S
        | none => .err) = R.ok a S' := ev
      rw [hP] at ev
      have ev : runFn (callP P n) fn as S = .ok a S' := ev
      unfold runFn at ev
      split at ev
      · rename_i hnp
        rw [ra.len, hnp.1]
        exact (eq_of_beq c3).symm
      · cases ev
    · refine ⟨rfl, Sc.nd, rfl, fun _ _ => rfl, rfl, rfl, rfl, room, hg, fun j x np e => ?_, M.cons, M.free⟩
      have e : (j, x, np) ∈ ds.map fun d => (d.1, d.2.x, d.2.ps.length) := lookup_mem e
      obtain ⟨⟨j', d'⟩, e1, e2⟩ := List.mem_map.mp e
      cases e2
      obtain ⟨f', fd', F', g1, g2⟩ := M.defs j' d' e1
      exact ⟨f', fd', d'.ps, g1, F'.kp, g2, defs_ok M hc n _ j' d' e1 f' fd' F'⟩
end
end Tr


namespace Tr
open PySem L2
open PySem.Spec PyProof.Rows

mutual
def repB (K : PySem.W.Frag) : PyData → Value → Bool
  | .none, .none => true
  | .bool b, .bool c => b == c
  | .int i, .int j _ => decide (i = j)
  | .str x, .str y _ => decide (x = y)
  | .list ds, .ref a => match K.lookup a with
    | some ⟨.type c, none, .seq its _, _⟩ => decide (c = "list") && (decide (its.size ≤ sizeLine) && repBs K ds its.toList)
    | _ => false
  | .tuple ds, .ref a => match K.lookup a with
    | some ⟨.type c, none, .seq its _, _⟩ => decide (c = "tuple") && (decide (its.size ≤ sizeLine) && repBs K ds its.toList)
    | _ => false
  | _, _ => false
def repBs (K : PySem.W.Frag) : List PyData → List Value → Bool
  | [], [] => true
  | d :: ds, u :: us => repB K d u && repBs K ds us
  | _, _ => false
end
mutual
theorem repB_ok {K : PySem.W.Frag} : ∀ {d : PyData} {u : Value}, repB K d u = true → ∃ v, RelV v u ∧ ∀ Bad H, Rep K Bad H v d
  | .none, u, h => by
    cases u <;> first | (cases h; done) | exact ⟨.non, rfl, fun _ _ => .non⟩
  | .bool b, u, h => by
    cases u <;> first | (cases h; done) | skip
    rename_i c
    have e : b = c := eq_of_beq (show (b == c) = true from h)
    subst e
    exact ⟨.bl b, rfl, fun _ _ => .bl _⟩
  | .int i, u, h => by
    cases u <;> first | (cases h; done) | skip
    rename_i j t
    have e : i = j := of_decide_eq_true h
    subst e
    exact ⟨.int i, ⟨t, rfl⟩, fun _ _ => .int _⟩
  | .str x, u, h => by
    cases u <;> first | (cases h; done) | skip
    rename_i y t
    have e : x = y := of_decide_eq_true h
    subst e
    exact ⟨.str x, ⟨t, rfl⟩, fun _ _ => .str _⟩
  | .dict es, u, h => by cases u <;> cases h
  | .list ds, u, h => by
    cases u <;> first | (cases h; done) | skip
    rename_i a
    unfold repB at h
    split at h
    · rename_i c its n sl e
      obtain ⟨h1, h2⟩ := He.ba h
      obtain ⟨h2, h3⟩ := He.ba h2
      obtain ⟨vs, r1, r2⟩ := repBs_ok h3
      exact ⟨.ref a, rfl, fun Bad H => .lst (.inr ⟨_, its, n, e, congrArg Value.type (of_decide_eq_true h1), rfl, rfl, of_decide_eq_true h2, r1⟩) (r2 Bad H)⟩
    · cases h
  | .tuple ds, u, h => by
    cases u <;> first | (cases h; done) | skip
    rename_i a
    unfold repB at h
    split at h
    · rename_i c its n sl e
      obtain ⟨h1, h2⟩ := He.ba h
      obtain ⟨h2, h3⟩ := He.ba h2
      obtain ⟨vs, r1, r2⟩ := repBs_ok h3
      exact ⟨.ref a, rfl, fun Bad H => .tup (.inr ⟨_, its, n, e, congrArg Value.type (of_decide_eq_true h1), rfl, rfl, of_decide_eq_true h2, r1⟩) (r2 Bad H)⟩
    · cases h
theorem repBs_ok {K : PySem.W.Frag} : ∀ {ds : List PyData} {us : List Value}, repBs K ds us = true → ∃ vs, Vals vs us ∧ ∀ Bad H, Reps K Bad H vs ds
  | [], [], _ => ⟨[], .nil, fun _ _ => .nil⟩
  | [], _ :: _, h => by cases h
  | _ :: _, [], h => by cases h
  | d :: ds, u :: us, h => by
    have h : (repB K d u && repBs K ds us) = true := h
    obtain ⟨h1, h2⟩ := He.ba h
    obtain ⟨v, r1, r2⟩ := repB_ok h1
    obtain ⟨vs, s1, s2⟩ := repBs_ok h2
    exact ⟨v :: vs, .cons r1 s1, fun Bad H => .cons (r2 Bad H) (s2 Bad H)⟩
end
/-- what the head tells of the constants -/
def consB (cons : List (Str × PyData)) (K : PySem.W.Frag) : Bool := cons.all fun p => match PySem.W.nsIn K mainGlobals p.1 with
  | some (some u) => repB K p.2 u
  | _ => false
theorem consB_ok {cons : List (Str × PyData)} {K : PySem.W.Frag} {h : Heap} {mg : Str → Option Value} (X : K.In h) (G : h.Ns mainGlobals mg) (c : consB cons K = true) (x : Str) (d : PyData) (e : cons.lookup x = some d) :
    ∃ u v, mg x = some u ∧ RelV v u ∧ ∀ Bad H, Rep K Bad H v d := by
  have q := List.all_eq_true.mp c _ (lookup_mem e)
  dsimp only at q
  split at q
  · rename_i u eu
    obtain ⟨v, r1, r2⟩ := repB_ok q
    exact ⟨u, v, PySem.W.mg_of X G eu, r1, r2⟩
  · cases q

section
variable {Pg : Program} {w : World} {K : PySem.W.Frag} {mg mb : Str → Option Value} {k : Nat} {fa a : Addr} {fd : FuncData} {x : Str} {sp : Sp} {s0 : Shared} {us : List Value} {ns : List Int}
theorem call_core {H : Hp} (KX : K.In s0.heap) (hm : s0.heap.Ns mainGlobals mg) (hb : s0.heap.Ns builtinsNs mb) (hbb : ∀ y : Str, y ≠ "__name__" → mb y = bootBuiltins y) (lim : s0.heap.NoLimit) (gens : s0.gens = #[])
    (obj : s0.heap.get? a = some { cls := .type "list", data := .seq us.toArray }) (room : Room k callerA) (F : ∀ base : Heap, K.In base → base.Ns mainGlobals mg → FnG Pg w K mg base k fa fd [x] sp) (bind : ∀ (s : Shared) (u : Value), BindsTo s fd ⟨[u], []⟩ [(x, u)])
    (only : ∀ b, H b = none ∨ (b = a ∧ ∃ o, H b = some (.frz o (.lst (ns.map V.int))))) (hok : HOk Pg w H s0.heap) (apart : H a ≠ none → K.lookup a = none) (hsp : sp [.ref a] H (fun v _ => v = .bl true) fun _ _ _ => False) :
    codeAny (model Pg w) callerA (.call (.ref fa) ⟨[.ref a], []⟩) (fun r s' => r = .ok (.ret (.bool true)) ∧ OldK s0.heap s'.heap ∧ s'.os = s0.os ∧ AllBare s'.gens) s0 := by
  have none_at : ∀ {b : Addr}, b ≠ a → H b = none := fun {b} ne => (only b).elim id fun z => absurd z.1 ne
  have at_a : ∀ {b : Addr} {o : Obj}, s0.heap.get? b = some o → b = a → o = { cls := .type "list", data := .seq us.toArray } := fun {b o} e q => by
    rw [q, obj] at e
    exact (Option.some.inj e).symm
  have dict_ok : ∀ {b : Addr} {o : Obj} {es : Array DictEntry} {n : Nat}, s0.heap.get? b = some o → o.data = .dict es n → H b = none := fun {b o es n} e d => by
    by_cases q : b = a
    · rw [at_a e q] at d
      cases d
    · exact none_at q
  have ns_ok : ∀ {b : Addr} {m : Str → Option Value}, s0.heap.Ns b m → (hidT s0.heap H).Ns b m := by
    rintro b m ⟨o, es, n, e, d, r⟩
    exact ⟨o, es, n, hidT_get e (dict_ok e d), d, r⟩
  have Kb : K.In (hidT s0.heap H) := fun b o e => by
    refine hidT_get (KX b o e) ?_
    by_cases q : b = a
    · subst q
      cases z : H b with
      | none => rfl
      | some u =>
        rw [apart (by rw [z]; simp)] at e
        cases e
    · exact none_at q
  obtain ⟨mc, l1, l2⟩ := lim
  have hMod : Mod K mg (hidT s0.heap H) := ⟨Kb, ns_ok hm, ⟨mb, ns_ok hb, hbb⟩, ⟨mc, ns_ok l1, l2⟩⟩
  have en : Env0 Pg w K mg (hidT s0.heap H) callerA [] s0 H := ⟨rfl, hMod, fun b o z => of_hidT z, Nat.le_of_eq (hidT_size _ _), trivial, fun b z => (by cases z), hok, .of_eq gens⟩
  have run := (F _ Kb (ns_ok hm)).run callerA [] s0 H ⟨[.ref a], []⟩ [.ref a] [.ref a] (fun v _ => v = .bl true) (fun _ _ _ => False) room rfl en (bind s0 (.ref a)) (.cons rfl .nil) hsp
  refine codeAny_mono run fun r s' h => ?_
  match r, h with
  | .error e, h => exact h.elim
  | .ok .next, h => exact h.elim
  | .ok .brk, h => exact h.elim
  | .ok .cont, h => exact h.elim
  | .ok (.ret u), ⟨v, H', os, bare, un, hok', rv, q⟩ =>
    have q : v = .bl true := q
    subst q
    have eu : u = Value.bool true := rv
    subst eu
    refine ⟨rfl, OldK.of_keep fun b o e => ?_, os, bare⟩
    rcases only b with z | ⟨_, ob, z⟩
    · exact un.keep b o e z (by intro m; cases m) (by simp)
    · have z2 := un.frzs b ob _ z
      obtain ⟨e1, _⟩ := hok b _ z
      obtain ⟨e2, _⟩ := hok' b _ z2
      rw [e1] at e
      cases e
      exact e2
theorem law_callG (KX : K.In s0.heap) (hm : s0.heap.Ns mainGlobals mg) (hb : s0.heap.Ns builtinsNs mb) (hbb : ∀ y : Str, y ≠ "__name__" → mb y = bootBuiltins y) (lim : s0.heap.NoLimit) (gens : s0.gens = #[])
    (obj : s0.heap.get? a = some { cls := .type "list", data := .seq us.toArray }) (hints : IntsAre us ns) (size : ns.length ≤ sizeLine) (room : Room k callerA) (F : ∀ base : Heap, K.In base → base.Ns mainGlobals mg → FnG Pg w K mg base k fa fd [x] sp)
    (bind : ∀ (s : Shared) (u : Value), BindsTo s fd ⟨[u], []⟩ [(x, u)]) (hsp : ∀ H : Hp, SqL K H a (ns.map V.int) → sp [.ref a] H (fun v _ => v = .bl true) fun _ _ _ => False) :
    codeAny (model Pg w) callerA (.call (.ref fa) ⟨[.ref a], []⟩) (fun r s' => r = .ok (.ret (.bool true)) ∧ OldK s0.heap s'.heap ∧ s'.os = s0.os ∧ AllBare s'.gens) s0 := by
  have rv := vals_ints hints
  have hl := hints.length
  cases hk : K.lookup a with
  | some o =>
    have e : o = { cls := .type "list", data := .seq us.toArray } := by
      have z := KX a o hk
      rw [obj] at z
      exact (Option.some.inj z).symm
    subst e
    have S : SqL K (fun _ => none) a (ns.map V.int) := .inr ⟨_, us.toArray, _, hk, rfl, rfl, rfl, by rw [List.size_toArray, hl]; exact size, by simpa using rv⟩
    exact call_core (H := fun _ => none) (ns := ns) KX hm hb hbb lim gens obj room F bind (fun _ => .inl rfl) (fun b u z => by cases z) (fun z => absurd rfl z) (hsp _ S)
  | none =>
    have eq : ∀ b, (fun b => if b = a then some (HO.frz { cls := .type "list", data := .seq us.toArray } (.lst (ns.map V.int))) else none : Hp) b = if b = a then some (HO.frz { cls := .type "list", data := .seq us.toArray } (.lst (ns.map V.int))) else none := fun _ => rfl
    generalize (fun b => if b = a then some (HO.frz { cls := .type "list", data := .seq us.toArray } (.lst (ns.map V.int))) else none : Hp) = H at eq
    have ea : H a = some (HO.frz { cls := .type "list", data := .seq us.toArray } (.lst (ns.map V.int))) := by rw [eq, if_pos rfl]
    have en : ∀ b, b ≠ a → H b = none := fun b ne => by rw [eq, if_neg ne]
    refine call_core (H := H) (ns := ns) KX hm hb hbb lim gens obj room F bind (fun b => ?_) (fun b u z => ?_) (fun _ => hk) (hsp _ (.inl (.inr ⟨_, ea⟩)))
    · by_cases q : b = a
      · exact .inr ⟨q, _, q ▸ ea⟩
      · exact .inl (en b q)
    · by_cases q : b = a
      · subst q
        rw [ea] at z
        cases z
        exact ⟨obj, by rw [List.length_map]; exact size, us, _, rv, obj⟩
      · rw [en b q] at z
        cases z
end
/-- a law, by what the evaluator gives -/
theorem walk_G {l : PySem.W.OpenLaw} {n k : Nat} {q : Program} {loose : List Str} {XP : (Str → Option Value) → Heap → Prop} {YP : World → Heap → Prop} {d : DefRec} {x : Str}
    (hn : l.most = some n) (hn2 : n ≤ sizeLine) (hdf : d.params.defaults = []) (room : Room k callerA)
    (F : ∀ (w : World) (mg : Str → Option Value) (fa : Addr) (h : Heap), YP w h → h.Ns mainGlobals mg → mg d.name = some (.ref fa) →
      ∃ (K : PySem.W.Frag) (fd : FuncData) (sp : Sp), K.In h ∧ (∀ (s : Shared) (u : Value), BindsTo s fd ⟨[u], []⟩ [(x, u)]) ∧
        (∀ (H : Hp) (a : Addr) (ns : List Int), ns.length ≤ n → SqL K H a (ns.map V.int) → sp [.ref a] H (fun v _ => v = .bl true) fun _ _ _ => False) ∧
        ∀ base : Heap, K.In base → base.Ns mainGlobals mg → FnG l.prog w K mg base k fa fd [x] sp) :
    PySem.W.WalkO q loose XP YP l.row.toRowW d [] (fun f vs => PySem.call f vs) := by
  refine Att.attach_call hn hdf fun w s₀ s₁ mg mb fa o pm cd doc a vs ns G Y _ _ _ hmg hobj hints hlen hg => ?_
  obtain ⟨K, fd, sp, KX, bind, hsp, hF⟩ := F w mg fa _ Y G.T.g hmg
  exact law_callG KX G.T.g G.T.b G.T.builtins G.T.nolimit hg hobj hints (Nat.le_trans hlen hn2) room hF bind fun H S => hsp H a ns hlen S

structure FactsOk (fa : List He.Fa) (fn : List He.DefD) (ds : List (Nat × DefT)) : Prop where
  glo : ∀ d ∈ ds, He.Fa.glo d.2.x ∈ fa
  free : ∀ x ∈ bltNames, He.Fa.free x ∈ fa
  defs : ∀ d ∈ ds, (⟨(d.2.x, none), d.2.x, d.2.x, d.2.params, d.2.body, d.2.scope, [], []⟩ : He.DefD) ∈ fn
  bind : ∀ d ∈ ds, ∀ (kV doc pm : Value) (an : Option Addr) (cdv ct : Value) (us : List Value), us.length = d.2.ps.length → bindArgs (PySem.W.fnOf d.2.x d.2.x d.2.params d.2.body d.2.scope .none kV doc pm an cdv ct) ⟨us, []⟩ = pure (d.2.ps.zip us)
theorem modOk {fa : List He.Fa} {fn : List He.DefD} {ds : List (Nat × DefT)} {cons : List (Str × PyData)} {K : PySem.W.Frag} {h : Heap} {mg : Str → Option Value} {w : World} {tf : List He.Defn} (X : K.In h) (G : h.Ns mainGlobals mg) (f : FactsOk fa fn ds) (c : He.SaysX fa fn [] tf (consB cons) w h K) :
    ModOk K mg ds cons := by
  refine ⟨fun i d e => ?_, fun x d e => consB_ok X G c.more x d e, fun x hx => He.free_ok X G (c.t.d.facts (f.free x hx))⟩
  have hd := e
  obtain ⟨fd, F⟩ := c.t.d.defs (f.defs _ hd)
  have e1 := He.glo_ok X G (c.t.d.facts (f.glo _ hd))
  exact ⟨_, fd, F, e1, F.bindsN (f.bind _ hd)⟩
/-- the law's promise, from its value by the evaluator -/
theorem law_F {fa : List He.Fa} {fn : List He.DefD} {ds : List (Nat × DefT)} {cons : List (Str × PyData)} {P : Prg} {tf : List He.Defn} {Pg : Program} {il n m : Nat} {d : DefT} {x : Str} (f : FactsOk fa fn ds)
    (hc : ∀ (i : Nat) (d : DefT), (i, d) ∈ ds → ∃ f, P i = some f ∧ chkFn ds cons P d f = true) (hd : (il, d) ∈ ds) (hx : d.ps = [x])
    (val : ∀ ns : List Int, ns.length ≤ m → callP P n il [.val (.list (ns.map .int))] [] = .ok (.val (.bool true)) []) (w : World) (mg : Str → Option Value) (at_ : Addr) (h : Heap)
    (Y : ∃ K : PySem.W.Frag, K.In h ∧ He.SaysX fa fn [] tf (consB cons) w h K) (G : h.Ns mainGlobals mg) (hm : mg d.x = some (.ref at_)) :
    ∃ (K : PySem.W.Frag) (fd : FuncData) (sp : Sp), K.In h ∧ (∀ (s : Shared) (u : Value), BindsTo s fd ⟨[u], []⟩ [(x, u)]) ∧
      (∀ (H : Hp) (a : Addr) (ns : List Int), ns.length ≤ m → SqL K H a (ns.map V.int) → sp [.ref a] H (fun v _ => v = .bl true) fun _ _ _ => False) ∧
      ∀ base : Heap, K.In base → base.Ns mainGlobals mg → FnG Pg w K mg base n at_ fd [x] sp := by
  obtain ⟨K, X, c⟩ := Y
  have M := modOk X G f c
  obtain ⟨f', fd, F, g1, g2⟩ := M.defs il d hd
  rw [hm] at g1
  cases g1
  refine ⟨K, fd, spF (gamOf K P [] n) il, X, fun s u => ?_, fun H a ns hn S => ?_, fun base _ _ => ?_⟩
  · have b := FunD.bindsA (ps := d.ps) F (f.bind _ hd) s [u] (by rw [hx]; rfl)
    rw [hx] at b
    exact b
  · have rs : ∀ ns : List Int, Reps K (fun _ => False) H (ns.map V.int) (ns.map PyData.int) := fun ns => by
      induction ns with
      | nil => exact .nil
      | cons i r ih => exact .cons (.int i) ih
    have rl : Rep K (fun _ => False) H (.ref a) (.list (ns.map PyData.int)) := .lst (S.imp (fun z => ⟨z, id⟩) id) (rs ns)
    refine ⟨fun _ => False, [], [], [.val (.list (ns.map .int))], .val (.bool true), [], fun a z => z.elim, fun p z => (by cases z), .nil, ⟨rfl, fun n a ds e _ => by simp at e⟩, .cons rl .nil, val ns hn, fun v H' _ _ r _ => ?_⟩
    cases (show Rep K (fun _ => False) H' v (.bool true) from r)
    rfl
  · have q := defs_ok (Pg := Pg) (w := w) (base := base) M hc n [] il d hd at_ fd F
    rw [hx] at q
    exact q
end Tr


namespace Tr
open PySem L2
open PySem.Spec PyProof.Rows

def wpR {α : Type} (r : R α) (Q : α → Store → Prop) : Prop := match r with
  | .ok a S => Q a S
  | .err => False
def wpS (r : RS) (N : TEnv → Store → Prop) (B : RS → Prop) : Prop := match r with
  | .nx env S => N env S
  | .err => False
  | r => B r
theorem wpR_ex {α : Type} {r : R α} {Q : α → Store → Prop} (h : wpR r Q) : ∃ a S, r = .ok a S ∧ Q a S := by
  cases r with
  | ok a S => exact ⟨a, S, rfl, h⟩
  | err => exact h.elim
theorem wpR_mono {α : Type} {r : R α} {Q Q' : α → Store → Prop} (h : wpR r Q) (q : ∀ a S, Q a S → Q' a S) : wpR r Q' := by
  cases r with
  | ok a S => exact q a S h
  | err => exact h
theorem wpS_mono {r : RS} {N N' : TEnv → Store → Prop} {B B' : RS → Prop} (h : wpS r N B) (n : ∀ env S, N env S → N' env S) (b : ∀ r, B r → B' r) : wpS r N' B' := by
  cases r with
  | nx env S => exact n env S h
  | err => exact h
  | bk env S => exact b _ h
  | ct env S => exact b _ h
  | rt a S => exact b _ h
/-- a datum for the value -/
def isV (a : A) (Q : PyData → Prop) : Prop := match a with
  | .val d => Q d
  | .ref _ => False
/-- the content -/
def isD (S : Store) (a : A) (Q : PyData → Prop) : Prop := match a with
  | .val d => Q d
  | .ref n => ∃ ds, S[n]? = some ds ∧ Q (.list ds)
def isO {α : Type} (o : Option α) (Q : α → Prop) : Prop := ∃ a, o = some a ∧ Q a
def isB (a : A) (Q : Bool → Prop) : Prop := match a with
  | .val (.bool b) => Q b
  | _ => False
def isI (S : Store) (a : A) (Q : Int → Prop) : Prop := isD S a fun d => match d with
  | .int i => Q i
  | _ => False
section
variable {C : Calls} {env : TEnv} {S : Store} {Q : A → Store → Prop}
@[simp ↓, simp] theorem isV_val {d : PyData} {Q : PyData → Prop} : isV (.val d) Q ↔ Q d := Iff.rfl
@[simp ↓, simp] theorem isD_val {d : PyData} {S : Store} {Q : PyData → Prop} : isD S (.val d) Q ↔ Q d := Iff.rfl
@[simp ↓, simp] theorem isB_val {b : Bool} {Q : Bool → Prop} : isB (.val (.bool b)) Q ↔ Q b := Iff.rfl
@[simp ↓, simp] theorem isI_val {i : Int} {S : Store} {Q : Int → Prop} : isI S (.val (.int i)) Q ↔ Q i := Iff.rfl
@[simp ↓, simp] theorem isO_some {α : Type} {a : α} {Q : α → Prop} : isO (some a) Q ↔ Q a := ⟨fun ⟨b, e, q⟩ => (by cases e; exact q), fun q => ⟨a, rfl, q⟩⟩
@[simp ↓, simp] theorem isO_none {α : Type} {Q : α → Prop} : isO none Q ↔ False := ⟨fun ⟨_, e, _⟩ => (nomatch e), False.elim⟩
@[simp] theorem isO_ite {α : Type} {p : Prop} [Decidable p] {o : Option α} {Q : α → Prop} : isO (if p then o else none) Q ↔ p ∧ isO o Q := by
  by_cases h : p
  · rw [if_pos h]; exact ⟨fun q => ⟨h, q⟩, fun q => q.2⟩
  · rw [if_neg h, isO_none]; exact ⟨False.elim, fun q => h q.1⟩
@[simp] theorem isO_eti {α : Type} {p : Prop} [Decidable p] {a : α} {Q : α → Prop} : isO (if p then none else some a) Q ↔ ¬ p ∧ Q a := by
  by_cases h : p
  · rw [if_pos h, isO_none]; exact ⟨False.elim, fun q => q.1 h⟩
  · rw [if_neg h, isO_some]; exact ⟨fun q => ⟨h, q⟩, fun q => q.2⟩
@[simp] theorem isO_map {α β : Type} {o : Option α} {f : α → β} {Q : β → Prop} : isO (o.map f) Q ↔ isO o fun a => Q (f a) := by
  cases o <;> simp
theorem isD_iff {a : A} {Q : PyData → Prop} : isD S a Q ↔ ∃ d, deref S a = some d ∧ Q d := by
  cases a with
  | val d => exact ⟨fun h => ⟨d, rfl, h⟩, fun ⟨e, h, q⟩ => by cases h; exact q⟩
  | ref n =>
    refine ⟨fun ⟨ds, h, q⟩ => ⟨.list ds, (by show (S[n]?).map _ = _; rw [h]; rfl), q⟩, fun ⟨d, h, q⟩ => ?_⟩
    obtain ⟨ds, e, rfl⟩ := Option.map_eq_some_iff.mp (show (S[n]?).map PyData.list = some d from h)
    exact ⟨ds, e, q⟩
theorem wpR_bind {α β : Type} {r : R α} {f : α → Store → R β} {Q : β → Store → Prop} : wpR (r.bind f) Q ↔ wpR r fun a S => wpR (f a S) Q := by cases r <;> exact Iff.rfl
theorem wpR_lift {α : Type} {o : Option α} {Q : α → Store → Prop} : wpR (R.lift o S) Q ↔ isO o fun a => Q a S := by
  cases o with
  | none => exact ⟨False.elim, fun ⟨_, e, _⟩ => nomatch e⟩
  | some a => exact ⟨fun h => ⟨a, rfl, h⟩, fun ⟨b, e, q⟩ => by cases e; exact q⟩
theorem wpR_ok {α : Type} {a : α} {Q : α → Store → Prop} : wpR (.ok a S) Q ↔ Q a S := Iff.rfl
theorem two_iff {a b : A} {f : PyData → PyData → Option PyData} : wpR (match deref S a, deref S b with
    | some d, some e => R.lift ((f d e).map A.val) S
    | _, _ => .err) Q ↔ isD S a fun d => isD S b fun e => isO (f d e) fun g => Q (.val g) S := by
  rw [isD_iff]
  constructor
  · intro h
    cases ea : deref S a with
    | none => rw [ea] at h; exact h.elim
    | some d =>
      cases eb : deref S b with
      | none => rw [ea, eb] at h; exact h.elim
      | some e =>
        rw [ea, eb] at h
        refine ⟨d, rfl, isD_iff.mpr ⟨e, eb, ?_⟩⟩
        have h : wpR (R.lift ((f d e).map A.val) S) Q := h
        obtain ⟨z, ez, q⟩ := wpR_lift.mp h
        obtain ⟨g, eg, rfl⟩ := Option.map_eq_some_iff.mp ez
        exact ⟨g, eg, q⟩
  · rintro ⟨d, ed, h⟩
    obtain ⟨e, ee, g, eg, q⟩ := isD_iff.mp h
    rw [ed, ee]
    exact wpR_lift.mpr ⟨_, by rw [eg]; rfl, q⟩
theorem wpR_err {α : Type} {Q : α → Store → Prop} : wpR (.err : R α) Q ↔ False := Iff.rfl
@[simp ↓] theorem wp_var {i : Nat} : wpR (evalE C (.var i) env S) Q ↔ isO (getV env i) fun a => Q a S := wpR_lift
@[simp ↓] theorem wp_own {i : Nat} : wpR (evalE C (.own i) env S) Q ↔ isO (getV env i) fun a => Q a S := wpR_lift
@[simp ↓] theorem wp_cell {i : Nat} : wpR (evalE C (.cell i) env S) Q ↔ ∃ n, getV env i = some (.ref n) ∧ Q (.ref n) S := by
  simp only [evalE]
  split
  · rename_i n e
    exact ⟨fun h => ⟨n, e, h⟩, fun ⟨m, e', q⟩ => by rw [e] at e'; cases e'; exact q⟩
  · rename_i h
    exact ⟨False.elim, fun ⟨m, e', q⟩ => h m e'⟩
@[simp ↓] theorem wp_const {d : PyData} : wpR (evalE C (.const d) env S) Q ↔ Q (.val d) S := Iff.rfl
@[simp ↓] theorem wp_glob {x : Str} {d : PyData} : wpR (evalE C (.glob x d) env S) Q ↔ Q (.val d) S := Iff.rfl
@[simp ↓] theorem wp_bin {o : BOp} {a b : Ex} : wpR (evalE C (.bin o a b) env S) Q ↔ wpR (evalE C a env S) fun x S => wpR (evalE C b env S) fun y S => isD S x fun d => isD S y fun e => isO (binD o d e) fun g => Q (.val g) S := by
  simp only [evalE, wpR_bind]
  exact Iff.of_eq (congrArg _ (funext fun x => funext fun S => congrArg _ (funext fun y => funext fun S => propext two_iff)))
@[simp ↓] theorem wp_idx {a b : Ex} : wpR (evalE C (.idx a b) env S) Q ↔ wpR (evalE C a env S) fun x S => wpR (evalE C b env S) fun y S => isD S x fun d => isD S y fun e => isO (idxD d e) fun g => Q (.val g) S := by
  simp only [evalE, wpR_bind]
  exact Iff.of_eq (congrArg _ (funext fun x => funext fun S => congrArg _ (funext fun y => funext fun S => propext two_iff)))
@[simp ↓] theorem wp_cmp {o : COp} {a b : Ex} : wpR (evalE C (.cmp o a b) env S) Q ↔ wpR (evalE C a env S) fun x S => wpR (evalE C b env S) fun y S => isD S x fun d => isD S y fun e => isO (cmpD o d e) fun g => Q (.val (.bool g)) S := by
  simp only [evalE, wpR_bind]
  refine Iff.of_eq (congrArg _ (funext fun x => funext fun S => congrArg _ (funext fun y => funext fun S => propext ?_)))
  have h := two_iff (S := S) (Q := Q) (a := x) (b := y) (f := fun d e => (cmpD o d e).map .bool)
  simp only [Option.map_map] at h
  refine Iff.trans h ?_
  rw [isD_iff, isD_iff]
  refine exists_congr fun d => and_congr_right fun _ => ?_
  rw [isD_iff, isD_iff]
  refine exists_congr fun e => and_congr_right fun _ => ?_
  cases cmpD o d e with
  | none => simp
  | some b => simp
theorem asI_iff {x : A} {Q : Int → Prop} : isI S x Q ↔ ∃ i, asInt S x = some i ∧ Q i := by
  unfold isI asInt
  rw [isD_iff]
  constructor
  · rintro ⟨d, e, q⟩
    rw [e]
    cases d <;> first | exact q.elim | exact ⟨_, rfl, q⟩
  · rintro ⟨i, e, q⟩
    split at e
    · rename_i j ej
      cases e
      exact ⟨_, ej, q⟩
    · cases e
@[simp ↓] theorem wp_neg {a : Ex} : wpR (evalE C (.neg a) env S) Q ↔ wpR (evalE C a env S) fun x S => isI S x fun i => Q (.val (.int (-i))) S := by
  simp only [evalE, wpR_bind]
  refine Iff.of_eq (congrArg _ (funext fun x => funext fun S => propext ?_))
  rw [asI_iff]
  cases asInt S x <;> simp [wpR]
@[simp ↓] theorem wp_isN {ng : Bool} {a : Ex} : wpR (evalE C (.isN ng a) env S) Q ↔ wpR (evalE C a env S) fun x S => Q (.val (.bool (match x with
    | .val .none => !ng
    | _ => ng))) S := by
  simp only [evalE, wpR_bind]
  refine Iff.of_eq (congrArg _ (funext fun x => funext fun S => propext ?_))
  cases x with
  | ref n => exact Iff.rfl
  | val d => cases d <;> exact Iff.rfl
theorem asB_iff {x : A} {Q : Bool → Prop} : isB x Q ↔ ∃ b, asBool x = some b ∧ Q b := by
  cases x with
  | ref n => exact ⟨False.elim, fun ⟨_, e, _⟩ => nomatch e⟩
  | val d =>
    cases d <;> first | exact ⟨False.elim, fun ⟨_, e, _⟩ => nomatch e⟩ | exact ⟨fun q => ⟨_, rfl, q⟩, fun ⟨b, e, q⟩ => by cases e; exact q⟩
theorem liftB {x : A} {β : Type} {f : Bool → Store → R β} {Q : β → Store → Prop} : wpR ((R.lift (asBool x) S).bind f) Q ↔ isB x fun b => wpR (f b S) Q := by
  rw [wpR_bind, wpR_lift, asB_iff]
  exact Iff.rfl
@[simp ↓] theorem wp_not {a : Ex} : wpR (evalE C (.not a) env S) Q ↔ wpR (evalE C a env S) fun x S => isB x fun b => Q (.val (.bool (!b))) S := by
  simp only [evalE, wpR_bind]
  exact Iff.of_eq (congrArg _ (funext fun x => funext fun S => propext (by rw [wpR_lift, asB_iff]; exact Iff.rfl)))
theorem wp_ite {p : Bool} {x y : R A} : wpR (if p = true then x else y) Q ↔ (p = true → wpR x Q) ∧ (p = false → wpR y Q) := by cases p <;> simp
@[simp ↓] theorem wp_ife {t a b : Ex} : wpR (evalE C (.ife t a b) env S) Q ↔ wpR (evalE C t env S) fun x S => isB x fun k => (k = true → wpR (evalE C a env S) Q) ∧ (k = false → wpR (evalE C b env S) Q) := by
  simp only [evalE, wpR_bind]
  refine Iff.of_eq (congrArg _ (funext fun x => funext fun S => propext ?_))
  rw [wpR_lift, asB_iff]
  refine exists_congr fun k => and_congr_right fun _ => wp_ite
@[simp ↓] theorem wp_ands1 {e : Ex} : wpR (evalAnd C [e] env S) Q ↔ wpR (evalE C e env S) Q := Iff.rfl
@[simp ↓] theorem wp_ands2 {e e' : Ex} {es : List Ex} : wpR (evalAnd C (e :: e' :: es) env S) Q ↔ wpR (evalE C e env S) fun x S => isB x fun k => (k = true → wpR (evalAnd C (e' :: es) env S) Q) ∧ (k = false → Q (.val (.bool false)) S) := by
  rw [evalAnd, wpR_bind]
  refine Iff.of_eq (congrArg _ (funext fun x => funext fun S => propext ?_))
  rw [liftB, asB_iff, asB_iff]
  exact exists_congr fun k => and_congr_right fun _ => wp_ite
@[simp ↓] theorem wp_ands {es : List Ex} : wpR (evalE C (.ands es) env S) Q ↔ wpR (evalAnd C es env S) Q := Iff.rfl
@[simp ↓] theorem wp_ors1 {e : Ex} : wpR (evalOr C [e] env S) Q ↔ wpR (evalE C e env S) Q := Iff.rfl
@[simp ↓] theorem wp_ors2 {e e' : Ex} {es : List Ex} : wpR (evalOr C (e :: e' :: es) env S) Q ↔ wpR (evalE C e env S) fun x S => isB x fun k => (k = true → Q (.val (.bool true)) S) ∧ (k = false → wpR (evalOr C (e' :: es) env S) Q) := by
  rw [evalOr, wpR_bind]
  refine Iff.of_eq (congrArg _ (funext fun x => funext fun S => propext ?_))
  rw [liftB, asB_iff, asB_iff]
  exact exists_congr fun k => and_congr_right fun _ => wp_ite
@[simp ↓] theorem wp_ors {es : List Ex} : wpR (evalE C (.ors es) env S) Q ↔ wpR (evalOr C es env S) Q := Iff.rfl
/-- lists of values -/
@[simp ↓] theorem wp_nil {Q : List A → Store → Prop} : wpR (evalEs C [] env S) Q ↔ Q [] S := Iff.rfl
@[simp ↓] theorem wp_cons {e : Ex} {es : List Ex} {Q : List A → Store → Prop} : wpR (evalEs C (e :: es) env S) Q ↔ wpR (evalE C e env S) fun a S => wpR (evalEs C es env S) fun as S => Q (a :: as) S := by
  simp only [evalEs, wpR_bind]
  exact Iff.rfl
@[simp ↓] theorem wp_tup {es : List Ex} : wpR (evalE C (.tup es) env S) Q ↔ wpR (evalEs C es env S) fun as S => isO (valsOf as) fun ds => ds.length ≤ sizeLine ∧ Q (.val (.tuple ds)) S := by
  simp only [evalE, wpR_bind]
  refine Iff.of_eq (congrArg _ (funext fun x => funext fun S => propext ?_))
  cases valsOf x with
  | none => simp [wpR]
  | some ds =>
    simp only [isO_some]
    by_cases h : ds.length ≤ sizeLine
    · simp [h, wpR]
    · simp [h, wpR]
@[simp ↓] theorem wp_lst {es : List Ex} : wpR (evalE C (.lst es) env S) Q ↔ wpR (evalEs C es env S) fun as S => isO (valsOf as) fun ds => ds.length ≤ sizeLine ∧ Q (.val (.list ds)) S := by
  simp only [evalE, wpR_bind]
  refine Iff.of_eq (congrArg _ (funext fun x => funext fun S => propext ?_))
  cases valsOf x with
  | none => simp [wpR]
  | some ds =>
    simp only [isO_some]
    by_cases h : ds.length ≤ sizeLine
    · simp [h, wpR]
    · simp [h, wpR]
@[simp ↓] theorem wp_o0 {Q : Option Int → Store → Prop} : wpR (evalO C none env S) Q ↔ Q none S := Iff.rfl
@[simp ↓] theorem wp_o1 {e : Ex} {Q : Option Int → Store → Prop} : wpR (evalO C (some e) env S) Q ↔ wpR (evalE C e env S) fun x S => isI S x fun i => Q (some i) S := by
  simp only [evalO, wpR_bind]
  refine Iff.of_eq (congrArg _ (funext fun x => funext fun S => propext ?_))
  rw [asI_iff]
  cases asInt S x <;> simp [wpR]
@[simp ↓] theorem wp_slice {a : Ex} {lo hi : Option Ex} : wpR (evalE C (.slice a lo hi) env S) Q ↔ wpR (evalE C a env S) fun x S => wpR (evalO C lo env S) fun l S => wpR (evalO C hi env S) fun h S => isD S x fun d => isO (sliceD d l h) fun g => Q (.val g) S := by
  simp only [evalE, wpR_bind]
  refine Iff.of_eq (congrArg _ (funext fun x => funext fun S => congrArg _ (funext fun y => funext fun S => congrArg _ (funext fun z => funext fun S => propext ?_))))
  rw [isD_iff]
  cases deref S x with
  | none => exact ⟨False.elim, fun ⟨_, e, _⟩ => nomatch e⟩
  | some d =>
    refine Iff.trans wpR_lift ?_
    refine ⟨fun ⟨w, e, q⟩ => ⟨d, rfl, ?_⟩, fun ⟨d', e, g, e', q⟩ => ?_⟩
    · obtain ⟨g, eg, rfl⟩ := Option.map_eq_some_iff.mp e
      exact ⟨g, eg, q⟩
    · cases e
      exact ⟨_, by rw [e']; rfl, q⟩
@[simp ↓] theorem wp_blt {f : BF} {es : List Ex} : wpR (evalE C (.blt f es) env S) Q ↔ wpR (evalEs C es env S) fun as S => isO (derefs S as) fun ds => isO (bltD f ds) fun g => Q (.val g) S := by
  simp only [evalE, wpR_bind]
  refine Iff.of_eq (congrArg _ (funext fun x => funext fun S => propext ?_))
  cases derefs S x with
  | none => simp [wpR]
  | some ds =>
    simp only [isO_some]
    refine Iff.trans wpR_lift ?_
    cases bltD f ds <;> simp
@[simp ↓] theorem wp_meth {f : MF} {a : Ex} {es : List Ex} : wpR (evalE C (.meth f a es) env S) Q ↔ wpR (evalE C a env S) fun x S => wpR (evalEs C es env S) fun as S => isD S x fun d => isO (derefs S as) fun ds => isO (methD f d ds) fun g => Q (.val g) S := by
  simp only [evalE, wpR_bind]
  refine Iff.of_eq (congrArg _ (funext fun x => funext fun S => congrArg _ (funext fun y => funext fun S => propext ?_)))
  rw [isD_iff]
  cases deref S x with
  | none => simp [wpR]
  | some d =>
    cases derefs S y with
    | none => simp [wpR]
    | some ds =>
      simp only [Option.some.injEq, exists_eq_left', isO_some]
      refine Iff.trans wpR_lift ?_
      cases methD f d ds <;> simp
@[simp ↓] theorem wp_call {f : Nat} {es : List Ex} : wpR (evalE C (.call f es) env S) Q ↔ wpR (evalEs C es env S) fun as S => wpR (C f as S) Q := by
  simp only [evalE, wpR_bind]
@[simp ↓] theorem wp_range1 {a : Ex} : wpR (evalE C (.range1 a) env S) Q ↔ wpR (evalE C a env S) fun x S => isI S x fun j => (-(2 ^ 62) ≤ j ∧ j < 2 ^ 62) ∧ Q (.val (.list (rangeD 0 j.toNat))) S := by
  simp only [evalE, wpR_bind]
  refine Iff.of_eq (congrArg _ (funext fun x => funext fun S => propext ?_))
  rw [asI_iff]
  cases asInt S x with
  | none => simp [wpR]
  | some i =>
    simp only [Option.some.injEq, exists_eq_left']
    by_cases h : -(2 ^ 62) ≤ i ∧ i < 2 ^ 62
    · rw [if_pos h]
      exact ⟨fun q => ⟨h, q⟩, fun q => q.2⟩
    · rw [if_neg h]
      exact ⟨False.elim, fun q => h q.1⟩
@[simp ↓] theorem wp_enum {a : Ex} : wpR (evalE C (.enum a) env S) Q ↔ wpR (evalE C a env S) fun x S => isV x fun d => match d with
    | .list xs => Q (.val (.list (pairsFrom 0 xs))) S
    | _ => False := by
  simp only [evalE, wpR_bind]
  refine Iff.of_eq (congrArg _ (funext fun x => funext fun S => propext ?_))
  cases x with
  | ref n => exact Iff.rfl
  | val d => cases d <;> exact Iff.rfl
@[simp ↓] theorem wp_comp {tg : List Nat} {it : Ex} {cd : Option Ex} {el : Ex} : wpR (evalE C (.comp tg it cd el) env S) Q ↔ wpR (evalE C it env S) fun x S => isO (itemsA x) fun ds => ds.length ≤ sizeLine ∧ wpR (collect (compF C tg cd el env) ds S) fun ys S => Q (.val (.list ys)) S := by
  simp only [evalE, wpR_bind]
  refine Iff.of_eq (congrArg _ (funext fun x => funext fun S => propext ?_))
  rw [wpR_lift]
  refine exists_congr fun ds => and_congr_right fun _ => ?_
  dsimp only
  by_cases h : ds.length ≤ sizeLine
  · rw [if_pos h, wpR_bind]
    exact ⟨fun q => ⟨h, q⟩, fun q => q.2⟩
  · rw [if_neg h]
    exact ⟨False.elim, fun q => h q.1⟩
@[simp ↓] theorem wp_c0 {Q : Bool → Store → Prop} : wpR (evalC C none env S) Q ↔ Q true S := Iff.rfl
@[simp ↓] theorem wp_c1 {e : Ex} {Q : Bool → Store → Prop} : wpR (evalC C (some e) env S) Q ↔ wpR (evalE C e env S) fun x S => isB x fun b => Q b S := by
  simp only [evalC, wpR_bind]
  refine Iff.of_eq (congrArg _ (funext fun x => funext fun S => propext ?_))
  rw [wpR_lift, asB_iff]
  exact Iff.rfl
/-- a turn of a comprehension -/
theorem wp_compF {tg : List Nat} {cd : Option Ex} {el : Ex} {d : PyData} {Q : Option PyData → Store → Prop} : wpR (compF C tg cd el env d S) Q ↔ isO (bindT tg d env) fun env' => wpR (evalC C cd env' S) fun k S => (k = true → wpR (evalE C el env' S) fun y S => isV y fun d => Q (some d) S) ∧ (k = false → Q none S) := by
  unfold compF
  cases bindT tg d env with
  | none => simp [wpR]
  | some env' =>
    simp only [isO_some, wpR_bind]
    refine Iff.of_eq (congrArg _ (funext fun k => funext fun S => propext ?_))
    cases k with
    | true =>
      simp only [if_true, wpR_bind, true_imp_iff, Bool.true_eq_false, false_imp_iff, and_true]
      refine Iff.of_eq (congrArg _ (funext fun y => funext fun S => propext ?_))
      cases y <;> exact Iff.rfl
    | false => simp [wpR]
variable {N : TEnv → Store → Prop} {B : RS → Prop}
theorem wpS_thn {α : Type} {r : R α} {f : α → Store → RS} : wpS (r.thn f) N B ↔ wpR r fun a S => wpS (f a S) N B := by cases r <;> exact Iff.rfl
@[simp ↓] theorem ws_nil : wpS (execs C [] env S) N B ↔ N env S := Iff.rfl
@[simp ↓] theorem ws_cons {s : Cmd} {ss : List Cmd} : wpS (execs C (s :: ss) env S) N B ↔ wpS (exec C s env S) (fun env S => wpS (execs C ss env S) N B) B := by
  rw [execs]
  cases exec C s env S <;> exact Iff.rfl
@[simp ↓] theorem ws_set {i : Nat} {e : Ex} : wpS (exec C (.set i e) env S) N B ↔ wpR (evalE C e env S) fun a S => N (env.set i (some a)) S := by
  rw [exec, wpS_thn]
  exact Iff.rfl
@[simp ↓] theorem ws_setT {is : List Nat} {e : Ex} : wpS (exec C (.setT is e) env S) N B ↔ wpR (evalE C e env S) fun a S => isV a fun d => isO (bindT is d env) fun env' => N env' S := by
  rw [exec, wpS_thn]
  refine Iff.of_eq (congrArg _ (funext fun x => funext fun S => propext ?_))
  cases x with
  | ref n => exact Iff.rfl
  | val d =>
    simp only [isV_val]
    cases bindT is d env <;> simp [wpS]
@[simp ↓] theorem ws_par {i j : Nat} {a b : Ex} : wpS (exec C (.par i j a b) env S) N B ↔ wpR (evalE C a env S) fun x S => wpR (evalE C b env S) fun y S => N ((env.set i (some x)).set j (some y)) S := by
  rw [exec, wpS_thn]
  refine Iff.of_eq (congrArg _ (funext fun x => funext fun S => propext ?_))
  rw [wpS_thn]
  exact Iff.rfl
@[simp ↓] theorem ws_par3 {i j k : Nat} {a b c : Ex} : wpS (exec C (.par3 i j k a b c) env S) N B ↔ wpR (evalE C a env S) fun x S => wpR (evalE C b env S) fun y S => wpR (evalE C c env S) fun z S => N (((env.set i (some x)).set j (some y)).set k (some z)) S := by
  rw [exec, wpS_thn]
  refine Iff.of_eq (congrArg _ (funext fun x => funext fun S => propext ?_))
  rw [wpS_thn]
  refine Iff.of_eq (congrArg _ (funext fun x => funext fun S => propext ?_))
  rw [wpS_thn]
  exact Iff.rfl
@[simp ↓] theorem ws_box {i : Nat} {e : Ex} : wpS (exec C (.box i e) env S) N B ↔ wpR (evalE C e env S) fun a S => isV a fun d => match d with
    | .list ds => N (env.set i (some (.ref S.length))) (S ++ [ds])
    | _ => False := by
  rw [exec, wpS_thn]
  refine Iff.of_eq (congrArg _ (funext fun x => funext fun S => propext ?_))
  cases x with
  | ref n => exact Iff.rfl
  | val d => cases d <;> exact Iff.rfl
@[simp ↓] theorem ws_aug {i : Nat} {o : BOp} {e : Ex} : wpS (exec C (.aug i o e) env S) N B ↔ isO (getV env i) fun x => isV x fun d => wpR (evalE C e env S) fun b S => isD S b fun y => isO (augD o d y) fun z => N (env.set i (some (.val z))) S := by
  rw [exec]
  cases getV env i with
  | none => simp [wpS]
  | some x =>
    cases x with
    | ref n => simp [wpS, isV]
    | val d =>
      simp only [isO_some, isV_val, wpS_thn]
      refine Iff.of_eq (congrArg _ (funext fun x => funext fun S => propext ?_))
      rw [isD_iff]
      cases deref S x with
      | none => simp [wpS]
      | some y =>
        simp only [Option.some.injEq, exists_eq_left']
        cases augD o d y <;> simp [wpS]
theorem ws_change {w : Bool} {i : Nat} {f : List PyData → Option (List PyData)} : wpS (change w env S i f) N B ↔ isO (getV env i) fun x => match x with
    | .val (.list ds) => w = true ∧ isO (f ds) fun ds' => N (env.set i (some (.val (.list ds')))) S
    | .ref n => ∃ ds, S[n]? = some ds ∧ isO (f ds) fun ds' => N env (S.set n ds')
    | _ => False := by
  unfold change
  cases getV env i with
  | none => simp [wpS]
  | some x =>
    simp only [isO_some]
    cases x with
    | ref n =>
      dsimp only
      cases S[n]? with
      | none => simp [wpS]
      | some ds =>
        simp only [Option.some.injEq, exists_eq_left']
        cases f ds <;> simp [wpS]
    | val d =>
      cases d with
      | list ds =>
        dsimp only
        cases w with
        | false => simp [wpS]
        | true =>
          simp only [if_true, true_and]
          cases f ds <;> simp [wpS]
      | _ => exact Iff.rfl
@[simp ↓] theorem ws_app {w : Bool} {i : Nat} {e : Ex} : wpS (exec C (.app w i e) env S) N B ↔ wpR (evalE C e env S) fun a S => isV a fun d => wpS (change w env S i fun ds => if ds.length < sizeLine then some (ds ++ [d]) else none) N B := by
  rw [exec, wpS_thn]
  refine Iff.of_eq (congrArg _ (funext fun x => funext fun S => propext ?_))
  cases x <;> exact Iff.rfl
@[simp ↓] theorem ws_extd {w : Bool} {i : Nat} {e : Ex} : wpS (exec C (.extd w i e) env S) N B ↔ wpR (evalE C e env S) fun a S => isV a fun d => match d with
    | .list xs => wpS (change w env S i fun ds => if ds.length + xs.length ≤ sizeLine then some (ds ++ xs) else none) N B
    | _ => False := by
  rw [exec, wpS_thn]
  refine Iff.of_eq (congrArg _ (funext fun x => funext fun S => propext ?_))
  cases x with
  | ref n => exact Iff.rfl
  | val d => cases d <;> exact Iff.rfl
@[simp ↓] theorem ws_put {w : Bool} {i : Nat} {k e : Ex} : wpS (exec C (.put w i k e) env S) N B ↔ wpR (evalE C e env S) fun a S => wpR (evalE C k env S) fun b S => isV a fun d => isI S b fun j => wpS (change w env S i fun ds => (ixN ds.length j).map fun m => ds.set m d) N B := by
  rw [exec, wpS_thn]
  refine Iff.of_eq (congrArg _ (funext fun x => funext fun S => propext ?_))
  rw [wpS_thn]
  refine Iff.of_eq (congrArg _ (funext fun y => funext fun S => propext ?_))
  rw [show (isV x fun d => isI S y fun j => wpS (change w env S i fun ds => (ixN ds.length j).map fun m => ds.set m d) N B) = (isV x fun d => ∃ j, asInt S y = some j ∧ wpS (change w env S i fun ds => (ixN ds.length j).map fun m => ds.set m d) N B) from congrArg _ (funext fun d => propext asI_iff)]
  cases x with
  | ref n => cases asInt S y <;> simp [wpS, isV]
  | val d => cases asInt S y <;> simp [wpS, isV]
@[simp ↓] theorem ws_augPut {w : Bool} {i : Nat} {k : Ex} {o : BOp} {e : Ex} : wpS (exec C (.augPut w i k o e) env S) N B ↔ wpR (evalE C k env S) fun b S => isI S b fun j => isO (getV env i) fun x => isD S x fun d => match d with
    | .list ds => isO (atI ds j) fun old => wpR (evalE C e env S) fun y S => isD S y fun d => isO (augD o old d) fun z => wpS (change w env S i fun ds => (ixN ds.length j).map fun m => ds.set m z) N B
    | _ => False := by
  rw [exec, wpS_thn]
  refine Iff.of_eq (congrArg _ (funext fun b => funext fun S => propext ?_))
  rw [asI_iff]
  cases asInt S b with
  | none => simp [wpS]
  | some j =>
    simp only [Option.some.injEq, exists_eq_left']
    cases getV env i with
    | none => simp [wpS]
    | some x =>
      simp only [isO_some, Option.bind_some]
      rw [isD_iff]
      cases deref S x with
      | none => simp [wpS]
      | some d =>
        simp only [Option.some.injEq, exists_eq_left']
        cases d with
        | list ds =>
          dsimp only
          cases atI ds j with
          | none => simp [wpS]
          | some old =>
            simp only [isO_some, wpS_thn]
            refine Iff.of_eq (congrArg _ (funext fun y => funext fun S => propext ?_))
            rw [isD_iff]
            cases deref S y with
            | none => simp [wpS]
            | some e =>
              simp only [Option.some.injEq, exists_eq_left']
              cases augD o old e <;> simp [wpS]
        | _ => exact Iff.rfl
@[simp ↓] theorem ws_ifs {c : Ex} {a b : List Cmd} : wpS (exec C (.ifs c a b) env S) N B ↔ wpR (evalE C c env S) fun x S => isB x fun k => (k = true → wpS (execs C a env S) N B) ∧ (k = false → wpS (execs C b env S) N B) := by
  rw [exec, wpS_thn]
  refine Iff.of_eq (congrArg _ (funext fun x => funext fun S => propext ?_))
  rw [asB_iff]
  cases asBool x with
  | none => simp [wpS]
  | some k => cases k <;> simp
/-- a turn of a for -/
def forF (C : Calls) (tg : List Nat) (body : List Cmd) : PyData → TEnv → Store → RS := fun d env S => match bindT tg d env with
  | some env' => execs C body env' S
  | none => .err
theorem ws_forF {tg : List Nat} {body : List Cmd} {d : PyData} : wpS (forF C tg body d env S) N B ↔ isO (bindT tg d env) fun env' => wpS (execs C body env' S) N B := by
  unfold forF
  cases bindT tg d env <;> simp [wpS]
@[simp ↓] theorem ws_fors {tg : List Nat} {it : Ex} {body : List Cmd} : wpS (exec C (.fors tg it body) env S) N B ↔ wpR (evalE C it env S) fun x S => isO (itemsA x) fun ds => wpS (loop (forF C tg body) ds env S) N B := by
  rw [exec, wpS_thn]
  refine Iff.of_eq (congrArg _ (funext fun x => funext fun S => propext ?_))
  cases itemsA x with
  | none => simp [wpS]
  | some ds => simp only [isO_some]; exact Iff.rfl
@[simp ↓] theorem ws_ret {e : Ex} : wpS (exec C (.ret e) env S) N B ↔ wpR (evalE C e env S) fun a S => B (.rt a S) := by
  rw [exec, wpS_thn]
  exact Iff.rfl
@[simp ↓] theorem ws_retO {i : Nat} : wpS (exec C (.retO i) env S) N B ↔ isO (getV env i) fun x => isV x fun d => B (.rt (.val d) S) := by
  rw [exec]
  cases getV env i with
  | none => simp [wpS]
  | some x =>
    cases x with
    | ref n => simp [wpS, isV]
    | val d => simp only [isO_some, isV_val]; exact Iff.rfl
@[simp ↓] theorem ws_retN : wpS (exec C .retN env S) N B ↔ B (.rt (.val .none) S) := Iff.rfl
@[simp ↓] theorem ws_pass : wpS (exec C .pass env S) N B ↔ N env S := Iff.rfl
@[simp ↓] theorem ws_doc : wpS (exec C .doc env S) N B ↔ N env S := Iff.rfl
@[simp ↓] theorem ws_brk : wpS (exec C .brk env S) N B ↔ B (.bk env S) := Iff.rfl
@[simp ↓] theorem ws_cnt : wpS (exec C .cnt env S) N B ↔ B (.ct env S) := Iff.rfl
/-- a call -/
theorem wp_callP {P : Prg} {d f : Nat} {fn : Fn} {as : List A} (h : P f = some fn) (hn : as.length = fn.np ∧ fn.np ≤ fn.ns) (q : wpS (execs (callP P d) fn.body (as.map some ++ List.replicate (fn.ns - fn.np) none) S) (fun _ S' => Q (.val .none) (S'.take S.length)) fun r => match r with
    | .rt (.val v) S' => Q (.val v) (S'.take S.length)
    | .rt (.ref n) S' => n < S.length ∧ Q (.ref n) (S'.take S.length)
    | _ => False) : wpR (callP P (d + 1) f as S) Q := by
  show wpR (match P f with
    | some fn => runFn (callP P d) fn as S
    | none => .err) Q
  rw [h]
  show wpR (runFn (callP P d) fn as S) Q
  unfold runFn
  rw [if_pos hn]
  cases e : execs (callP P d) fn.body (as.map some ++ List.replicate (fn.ns - fn.np) none) S with
  | nx env S' => rw [e] at q; exact q
  | bk env S' => rw [e] at q; exact q
  | ct env S' => rw [e] at q; exact q
  | err => rw [e] at q; exact q
  | rt a S' =>
    rw [e] at q
    cases a with
    | val v => exact q
    | ref n =>
      obtain ⟨h1, h2⟩ : n < S.length ∧ Q (.ref n) (S'.take S.length) := q
      show wpR (if n < S.length then _ else _) Q
      rw [if_pos h1]
      exact h2
theorem ws_loop0 {f : PyData → TEnv → Store → RS} : wpS (loop f [] env S) N B ↔ N env S := Iff.rfl
theorem ws_loop1 {f : PyData → TEnv → Store → RS} {d : PyData} {r : List PyData} : wpS (loop f (d :: r) env S) N B ↔ wpS (f d env S) (fun env S => wpS (loop f r env S) N B) fun x => match x with
    | .ct env S => wpS (loop f r env S) N B
    | .bk env S => N env S
    | .rt a S => B (.rt a S)
    | _ => False := by
  rw [loop]
  cases f d env S <;> exact Iff.rfl
theorem wp_coll0 {f : PyData → Store → R (Option PyData)} {Q : List PyData → Store → Prop} : wpR (collect f [] S) Q ↔ Q [] S := Iff.rfl
theorem wp_coll1 {f : PyData → Store → R (Option PyData)} {d : PyData} {r : List PyData} {Q : List PyData → Store → Prop} : wpR (collect f (d :: r) S) Q ↔ wpR (f d S) fun o S => wpR (collect f r S) fun ys S => Q (match o with
    | some y => y :: ys
    | none => ys) S := by
  rw [collect, wpR_bind]
  refine Iff.of_eq (congrArg _ (funext fun o => funext fun S => propext ?_))
  rw [wpR_bind]
  exact Iff.rfl
theorem ws_cut {s : Cmd} {ss : List Cmd} (M : TEnv → Store → Prop) (h : wpS (exec C s env S) M B) (q : ∀ env S, M env S → wpS (execs C ss env S) N B) : wpS (execs C (s :: ss) env S) N B := by
  rw [ws_cons]
  exact wpS_mono h q fun _ b => b
/-- loops: an invariant by the turn -/
theorem ws_loop {f : PyData → TEnv → Store → RS} {ds : List PyData} (I : Nat → TEnv → Store → Prop) (h0 : I 0 env S)
    (step : ∀ i d env S, ds[i]? = some d → I i env S → wpS (f d env S) (I (i + 1)) fun r => match r with
      | .ct env S => I (i + 1) env S
      | .bk env S => N env S
      | .rt a S => B (.rt a S)
      | _ => False) (hd : ∀ env S, I ds.length env S → N env S) : wpS (loop f ds env S) N B := by
  have key : ∀ (k : Nat) (es : List PyData) (env : TEnv) (S : Store), ds.drop k = es → k ≤ ds.length → I k env S → wpS (loop f es env S) N B := by
    intro k es
    induction es generalizing k with
    | nil =>
      intro env S e hk hI
      have : ds.length ≤ k := by
        have := congrArg List.length e
        simp at this
        omega
      have ek : k = ds.length := by omega
      subst ek
      exact hd env S hI
    | cons d r ih =>
      intro env S e hk hI
      have hd' : ds[k]? = some d := by
        have := congrArg (·[0]?) e
        simpa using this
      have hr : ds.drop (k + 1) = r := by
        rw [← List.drop_drop, e]
        rfl
      have hlt : k + 1 ≤ ds.length := (List.getElem?_eq_some_iff.mp hd').1
      have st := step k d env S hd' hI
      simp only [loop]
      cases ef : f d env S with
      | nx e1 S1 => rw [ef] at st; exact ih (k + 1) e1 S1 hr hlt st
      | ct e1 S1 => rw [ef] at st; exact ih (k + 1) e1 S1 hr hlt st
      | bk e1 S1 => rw [ef] at st; exact st
      | rt a S1 => rw [ef] at st; exact st
      | err => rw [ef] at st; exact st
  exact key 0 ds env S rfl (Nat.zero_le _) h0
/-- comprehensions: an invariant by the turn and what has been gathered -/
theorem wp_collect {f : PyData → Store → R (Option PyData)} {ds : List PyData} {Q : List PyData → Store → Prop} (I : Nat → List PyData → Store → Prop) (h0 : I 0 [] S)
    (step : ∀ i d ys S, ds[i]? = some d → I i ys S → wpR (f d S) fun o S => I (i + 1) (ys ++ o.toList) S) (hd : ∀ ys S, I ds.length ys S → Q ys S) : wpR (collect f ds S) Q := by
  have key : ∀ (es : List PyData) (k : Nat) (ys : List PyData) (S : Store), ds.drop k = es → k ≤ ds.length → I k ys S → wpR (collect f es S) fun zs S => Q (ys ++ zs) S := by
    intro es
    induction es with
    | nil =>
      intro k ys S e hk hI
      have : ds.length ≤ k := by
        have := congrArg List.length e
        simp at this
        omega
      have ek : k = ds.length := by omega
      subst ek
      show Q (ys ++ []) S
      rw [List.append_nil]
      exact hd ys S hI
    | cons d r ih =>
      intro k ys S e hk hI
      have hd' : ds[k]? = some d := by
        have := congrArg (·[0]?) e
        simpa using this
      have hr : ds.drop (k + 1) = r := by
        rw [← List.drop_drop, e]
        rfl
      have hlt : k + 1 ≤ ds.length := (List.getElem?_eq_some_iff.mp hd').1
      simp only [collect]
      rw [wpR_bind]
      refine wpR_mono (step k d ys S hd' hI) fun o S1 h1 => ?_
      rw [wpR_bind]
      refine wpR_mono (ih (k + 1) _ S1 hr hlt h1) fun zs S2 h2 => ?_
      cases o with
      | none => simpa [wpR] using h2
      | some y => simpa [wpR] using h2
  exact wpR_mono (key ds 0 [] S rfl (Nat.zero_le _) h0) fun ys S h => h
end
section
variable {i j : Int} {x y : Str} {xs ys : List PyData} {S : Store} {d e : PyData}
@[simp] theorem isD_ref {n : Nat} {Q : PyData → Prop} : isD S (.ref n) Q ↔ ∃ ds, S[n]? = some ds ∧ Q (.list ds) := Iff.rfl
@[simp] theorem derefs_nil : derefs S [] = some [] := rfl
@[simp] theorem derefs_val {r : List A} : derefs S (.val d :: r) = (derefs S r).map (d :: ·) := rfl
@[simp] theorem derefs_ref {n : Nat} {r : List A} {ds : List PyData} (h : S[n]? = some ds) : derefs S (.ref n :: r) = (derefs S r).map (.list ds :: ·) := by
  show (match (S[n]?).map PyData.list with
    | some d => (derefs S r).map (d :: ·)
    | none => none) = _
  rw [h]
  rfl
@[simp] theorem valsOf_nil : valsOf [] = some [] := rfl
@[simp] theorem valsOf_val {r : List A} : valsOf (.val d :: r) = (valsOf r).map (d :: ·) := rfl
@[simp] theorem getV_0 {a : Option A} {r : TEnv} : getV (a :: r) 0 = a := by cases a <;> rfl
@[simp] theorem getV_s {a : Option A} {r : TEnv} {n : Nat} : getV (a :: r) (n + 1) = getV r n := rfl
@[simp] theorem itemsA_val : itemsA (.val d) = itemsD d := rfl
@[simp] theorem itemsD_list : itemsD (.list xs) = some xs := rfl
@[simp] theorem itemsD_tup : itemsD (.tuple xs) = some xs := rfl
@[simp] theorem bindT_1 {n : Nat} {env : TEnv} : bindT [n] d env = some (env.set n (some (.val d))) := rfl
@[simp] theorem bindT_2 {a b : Nat} {u v : PyData} {env : TEnv} : bindT [a, b] (.tuple [u, v]) env = some ((env.set a (some (.val u))).set b (some (.val v))) := by rw [bindT_tup]; rfl
@[simp] theorem bindT_3 {a b c : Nat} {u v w : PyData} {env : TEnv} : bindT [a, b, c] (.tuple [u, v, w]) env = some (((env.set a (some (.val u))).set b (some (.val v))).set c (some (.val w))) := by rw [bindT_tup]; rfl
@[simp] theorem bindT_4 {a b c e : Nat} {u v w x : PyData} {env : TEnv} : bindT [a, b, c, e] (.tuple [u, v, w, x]) env = some ((((env.set a (some (.val u))).set b (some (.val v))).set c (some (.val w))).set e (some (.val x))) := by rw [bindT_tup]; rfl
@[simp] theorem bindT_5 {a b c e f : Nat} {u v w x y : PyData} {env : TEnv} : bindT [a, b, c, e, f] (.tuple [u, v, w, x, y]) env = some (((((env.set a (some (.val u))).set b (some (.val v))).set c (some (.val w))).set e (some (.val x))).set f (some (.val y))) := by rw [bindT_tup]; rfl
@[simp] theorem bindT_2l {a b : Nat} {u v : PyData} {env : TEnv} : bindT [a, b] (.list [u, v]) env = some ((env.set a (some (.val u))).set b (some (.val v))) := by rw [bindT_lst]; rfl
@[simp] theorem bindT_3l {a b c : Nat} {u v w : PyData} {env : TEnv} : bindT [a, b, c] (.list [u, v, w]) env = some (((env.set a (some (.val u))).set b (some (.val v))).set c (some (.val w))) := by rw [bindT_lst]; rfl
@[simp] theorem bindT_4l {a b c e : Nat} {u v w x : PyData} {env : TEnv} : bindT [a, b, c, e] (.list [u, v, w, x]) env = some ((((env.set a (some (.val u))).set b (some (.val v))).set c (some (.val w))).set e (some (.val x))) := by rw [bindT_lst]; rfl
@[simp] theorem bindT_5l {a b c e f : Nat} {u v w x y : PyData} {env : TEnv} : bindT [a, b, c, e, f] (.list [u, v, w, x, y]) env = some (((((env.set a (some (.val u))).set b (some (.val v))).set c (some (.val w))).set e (some (.val x))).set f (some (.val y))) := by rw [bindT_lst]; rfl
@[simp] theorem binD_addI : binD .add (.int i) (.int j) = some (.int (i + j)) := rfl
@[simp] theorem binD_addS : binD .add (.str x) (.str y) = if x.length + y.length ≤ sizeLine then some (.str (x ++ y)) else none := rfl
@[simp] theorem binD_addL : binD .add (.list xs) (.list ys) = if xs.length + ys.length ≤ sizeLine then some (.list (xs ++ ys)) else none := rfl
@[simp] theorem binD_addT : binD .add (.tuple xs) (.tuple ys) = if xs.length + ys.length ≤ sizeLine then some (.tuple (xs ++ ys)) else none := rfl
@[simp] theorem binD_sub : binD .sub (.int i) (.int j) = some (.int (i - j)) := rfl
@[simp] theorem binD_mul : binD .mul (.int i) (.int j) = if (-(2 ^ 64) < i ∧ i < 2 ^ 64) ∨ (-(2 ^ 64) < j ∧ j < 2 ^ 64) then some (.int (i * j)) else none := rfl
@[simp] theorem binD_fdiv : binD .fdiv (.int i) (.int j) = if j ≠ 0 ∧ j.natAbs < 1073741824 then some (.int (i.fdiv j)) else none := rfl
@[simp] theorem binD_mod : binD .mod (.int i) (.int j) = if j ≠ 0 then some (.int (i.fmod j)) else none := rfl
@[simp] theorem binD_pow : binD .pow (.int i) (.int j) = if 0 ≤ j ∧ j ≤ 1000000 ∧ i.natAbs < 2 ^ 64 then some (.int (i ^ j.toNat)) else none := rfl
@[simp] theorem augD_addI : augD .add (.int i) (.int j) = some (.int (i + j)) := rfl
@[simp] theorem augD_addS : augD .add (.str x) (.str y) = if x.length + y.length ≤ sizeLine then some (.str (x ++ y)) else none := rfl
@[simp] theorem augD_sub : augD .sub (.int i) (.int j) = some (.int (i - j)) := rfl
@[simp] theorem cmpD_eqS : cmpD .eq (.str x) (.str y) = some (decide (x = y)) := rfl
@[simp] theorem cmpD_neS : cmpD .ne (.str x) (.str y) = some (!decide (x = y)) := rfl
theorem cmpD_same (h : SeqAt.shaped d = true) : cmpD .eq d d = some true := by
  by_cases hs : ∃ s t, d = .str s ∧ d = .str t
  · obtain ⟨s, t, rfl, e⟩ := hs
    exact congrArg some (decide_eq_true rfl)
  · rw [cmpD_gen hs, if_pos ⟨h, h⟩, PySem.SeqAt.eqv_refl d (SeqAt.canLay_of_shaped h)]
theorem cmpD_same' (h : SeqAt.shaped d = true) : cmpD .ne d d = some false := by
  by_cases hs : ∃ s t, d = .str s ∧ d = .str t
  · obtain ⟨s, t, rfl, e⟩ := hs
    show some (!decide (s = s)) = _
    rw [decide_eq_true rfl]
    rfl
  · rw [cmpD_gen' hs, if_pos ⟨h, h⟩, PySem.SeqAt.eqv_refl d (SeqAt.canLay_of_shaped h)]
    rfl
theorem eqv_int : PyData.eqv (.int i) (.int j) = decide (i = j) := by
  rw [PyData.eqv]
  exact Bool.eq_iff_iff.mpr (by simp)
@[simp] theorem cmpD_eqI : cmpD .eq (.int i) (.int j) = some (decide (i = j)) := by
  rw [cmpD_gen (by rintro ⟨_, _, h, _⟩; cases h), if_pos ⟨by rfl, by rfl⟩, eqv_int]
@[simp] theorem cmpD_neI : cmpD .ne (.int i) (.int j) = some (!decide (i = j)) := by
  rw [cmpD_gen' (by rintro ⟨_, _, h, _⟩; cases h), if_pos ⟨by rfl, by rfl⟩, eqv_int]
theorem cut_from {a : Int} (h : 0 ≤ a) : cutD xs (some a) none = xs.drop a.toNat := by
  obtain ⟨n, rfl⟩ := Int.eq_ofNat_of_zero_le h
  unfold cutD
  rw [HT.sIx_nat, HT.sIx_none]
  simp only [Int.toNat_natCast]
  by_cases hn : n ≤ xs.length
  · rw [Nat.min_eq_left hn, List.take_of_length_le (by simp)]
  · rw [Nat.min_eq_right (by omega), List.drop_length, List.drop_of_length_le (by omega)]
    simp
theorem cut_to {a : Int} (h : 0 ≤ a) : cutD xs none (some a) = xs.take a.toNat := by
  obtain ⟨n, rfl⟩ := Int.eq_ofNat_of_zero_le h
  unfold cutD
  rw [HT.sIx_nat, HT.sIx_none]
  simp only [Int.toNat_natCast, List.drop_zero, Nat.sub_zero]
  by_cases hn : n ≤ xs.length
  · rw [Nat.min_eq_left hn]
  · rw [Nat.min_eq_right (by omega), List.take_of_length_le (Nat.le_refl _), List.take_of_length_le (by omega)]
theorem cut_mem {lo hi : Option Int} {z : PyData} (h : z ∈ cutD xs lo hi) : z ∈ xs := List.mem_of_mem_drop (List.mem_of_mem_take h)
theorem cut_len {lo hi : Option Int} : (cutD xs lo hi).length ≤ xs.length := by
  unfold cutD
  rw [List.length_take, List.length_drop]
  omega
theorem inD_str {x : Str} {Q : Bool → Prop} (h : ys.all flatD = true) (q : ∀ b, Q b) : isO (inD (.str x) ys) Q := ⟨ys.any fun y => PyData.eqv y (.str x), if_pos ⟨rfl, h⟩, q _⟩
@[simp] theorem cmpD_lt : cmpD .lt (.int i) (.int j) = some (decide (i < j)) := rfl
@[simp] theorem cmpD_le : cmpD .le (.int i) (.int j) = some (decide (i ≤ j)) := rfl
@[simp] theorem cmpD_gt : cmpD .gt (.int i) (.int j) = some (decide (j < i)) := rfl
@[simp] theorem cmpD_ge : cmpD .ge (.int i) (.int j) = some (decide (j ≤ i)) := rfl
@[simp] theorem cmpD_inL : cmpD .inn d (.list ys) = inD d ys := rfl
@[simp] theorem cmpD_inT : cmpD .inn d (.tuple ys) = inD d ys := rfl
@[simp] theorem cmpD_ninL : cmpD .nin d (.list ys) = (inD d ys).map (!·) := rfl
@[simp] theorem cmpD_ninT : cmpD .nin d (.tuple ys) = (inD d ys).map (!·) := rfl
@[simp] theorem idxD_list : idxD (.list xs) (.int i) = atI xs i := rfl
@[simp] theorem idxD_tup : idxD (.tuple xs) (.int i) = atI xs i := rfl
@[simp] theorem idxD_str : idxD (.str x) (.int i) = if x.length ≤ sizeLine then (atI x.cps.toList i).map fun c => .str ⟨#[c]⟩ else none := rfl
@[simp] theorem atI_nn {α : Type} {l : List α} (h : 0 ≤ i) : atI l i = l[i.toNat]? := by
  unfold atI ixN
  rw [if_pos h]
  split
  · rfl
  · rename_i h'
    rw [List.getElem?_eq_none (by omega)]
    rfl
@[simp] theorem atI_nat {α : Type} {l : List α} {n : Nat} : atI l (n : Int) = l[n]? := by rw [atI_nn (Int.natCast_nonneg n)]; rfl
@[simp] theorem ixN_nn {n : Nat} (h : 0 ≤ i) (h' : i < n) : ixN n i = some i.toNat := by
  unfold ixN
  rw [if_pos h, if_pos h']
@[simp] theorem sliceD_list {lo hi : Option Int} : sliceD (.list xs) lo hi = some (.list (cutD xs lo hi)) := rfl
@[simp] theorem sliceD_tup {lo hi : Option Int} : sliceD (.tuple xs) lo hi = some (.tuple (cutD xs lo hi)) := rfl
@[simp] theorem sliceD_str {lo hi : Option Int} : sliceD (.str x) lo hi = if x.length ≤ sizeLine then some (.str (cutS x lo hi)) else none := rfl
@[simp] theorem blt_lenL : bltD .len [.list xs] = some (.int xs.length) := rfl
@[simp] theorem blt_lenT : bltD .len [.tuple xs] = some (.int xs.length) := rfl
@[simp] theorem blt_lenS : bltD .len [.str x] = if x.length ≤ sizeLine then some (.int x.length) else none := rfl
@[simp] theorem blt_abs : bltD .abs [.int i] = some (.int (if i < 0 then -i else i)) := rfl
@[simp] theorem blt_int : bltD .int [.int i] = some (.int i) := rfl
@[simp] theorem blt_max : bltD .max2 [.int i, .int j] = some (.int (if j > i then j else i)) := rfl
@[simp] theorem blt_min : bltD .min2 [.int i, .int j] = some (.int (if j < i then j else i)) := rfl
@[simp] theorem blt_tupL : bltD .tuple [.list xs] = some (.tuple xs) := rfl
@[simp] theorem blt_tupT : bltD .tuple [.tuple xs] = some (.tuple xs) := rfl
@[simp] theorem blt_lstL : bltD .list [.list xs] = some (.list xs) := rfl
@[simp] theorem blt_lstT : bltD .list [.tuple xs] = some (.list xs) := rfl
@[simp] theorem blt_inst {t : String} : bltD (.isInst t) [d] = some (.bool (isKind t d)) := rfl
@[simp] theorem isKind_str : isKind "str" (.str x) = true := by rfl
@[simp] theorem isKind_bool {b : Bool} : isKind "bool" (.bool b) = true := by rfl
@[simp] theorem cmpD_neB {b : Bool} : cmpD .ne (.bool b) (.bool b) = some false := by cases b <;> rfl
@[simp] theorem cmpD_eqB {b : Bool} : cmpD .eq (.bool b) (.bool b) = some true := by cases b <;> rfl
@[simp] theorem sl_eq : sizeLine = 16777216 := sizeLine_eq
@[simp] theorem rangeD_length {n : Nat} : (rangeD i n).length = n := rangeD_len i n
@[simp] theorem rep0 {α : Type} {a : α} : List.replicate 0 a = [] := rfl
end
end Tr


namespace Tr
open PySem L2
open PySem.Spec PyProof.Rows
def F5_law_take : Fn := ⟨2, 6, [], false, [
    .ifs (.cmp .le (.var 1) (.const (.int 1))) [.ret (.const (.int 0))] [],
    .ifs (.cmp .gt (.idx (.cell 0) (.const (.int 2))) (.const (.int 0))) [.set 3 (.bin .mod (.blt .int [(.idx (.cell 0) (.const (.int 2)))]) (.var 1)), .put false 0 (.const (.int 2)) (.bin .fdiv (.idx (.cell 0) (.const (.int 2))) (.var 1)), .ret (.var 3)] [],
    .augPut false 0 (.const (.int 3)) .add (.const (.int 1)),
    .ifs (.cmp .lt (.idx (.cell 0) (.const (.int 1))) (.blt .len [(.idx (.cell 0) (.const (.int 0)))])) [.set 4 (.idx (.idx (.cell 0) (.const (.int 0))) (.idx (.cell 0) (.const (.int 1)))), .augPut false 0 (.const (.int 1)) .add (.const (.int 1)), .ifs (.cmp .ge (.var 4) (.bin .pow (.const (.int 10)) (.const (.int 18)))) [.put false 0 (.const (.int 2)) (.bin .fdiv (.var 4) (.var 1)), .ret (.bin .mod (.blt .int [(.var 4)]) (.var 1))] [], .set 5 (.bin .add (.bin .add (.bin .mul (.var 4) (.const (.int 48271))) (.bin .mul (.idx (.cell 0) (.const (.int 3))) (.const (.int 69621)))) (.const (.int 7)))] [.set 5 (.bin .add (.bin .add (.bin .add (.bin .mul (.idx (.cell 0) (.const (.int 4))) (.const (.int 40692))) (.bin .mul (.bin .mul (.idx (.cell 0) (.const (.int 3))) (.idx (.cell 0) (.const (.int 3)))) (.const (.int 7919)))) (.bin .mul (.idx (.cell 0) (.const (.int 3))) (.const (.int 104729)))) (.const (.int 11)))],
    .set 2 (.bin .mod (.blt .int [(.var 5)]) (.const (.int 2147483647))),
    .ret (.bin .mod (.blt .int [(.bin .fdiv (.bin .mod (.blt .int [(.bin .add (.bin .mul (.var 2) (.var 2)) (.var 5))]) (.const (.int 2147483629))) (.const (.int 7)))]) (.var 1))]⟩

/-- a pool of numbers, good for K more draws -/
def PoolOk (K : Nat) (p : List PyData) : Prop := ∃ (cells : List Int) (b a c t : Int), p = [.list (cells.map .int), .int b, .int a, .int c, .int t] ∧ 0 ≤ b ∧ 0 ≤ c ∧ c + K ≤ 2 ^ 62 ∧ cells.length ≤ 63
theorem atI_of {α : Type} {xs : List α} {i : Int} {x : α} (h0 : 0 ≤ i) (e : xs[i.toNat]? = some x) : atI xs i = some x := by
  unfold atI ixN
  have := (List.getElem?_eq_some_iff.mp e).1
  rw [if_pos h0, if_pos (by omega)]
  exact e
theorem ixN_of {n : Nat} {i : Int} (h0 : 0 ≤ i) (h : i < n) : ixN n i = some i.toNat := by
  unfold ixN
  rw [if_pos h0, if_pos h]
theorem PoolOk.mono {K K' : Nat} {p : List PyData} (h : PoolOk K p) (hk : K' ≤ K) : PoolOk K' p := by
  obtain ⟨cells, b, a, c, t, rfl, hb, hc, hK, hl⟩ := h
  exact ⟨cells, b, a, c, t, rfl, hb, hc, by omega, hl⟩
theorem take_ok {P : Prg} (h5 : P 5 = some F5_law_take) {d n K : Nat} {S : Store} {p : List PyData} {many : Int} (hp : S[n]? = some p) (ok : PoolOk (K + 1) p) (hm : many < 2 ^ 30) :
    wpR (callP P (d + 1) 5 [.ref n, .val (.int many)] S) fun a S' => ∃ r p', a = .val (.int r) ∧ S' = S.set n p' ∧ PoolOk K p' ∧ 0 ≤ r ∧ (r < many ∨ r = 0) := by
  obtain ⟨cells, b, a, c, t, rfl, hb, hc, hK, hl⟩ := ok
  have hn : n < S.length := (List.getElem?_eq_some_iff.mp hp).1
  have hs : ∀ x, (S.set n x)[n]? = some x := fun x => List.getElem?_set_self hn
  have hself : S = S.set n [.list (cells.map .int), .int b, .int a, .int c, .int t] := by
    refine List.ext_getElem? fun i => ?_
    by_cases e : n = i
    · subst e; rw [hs, hp]
    · rw [List.getElem?_set_ne e]
  have ht : ∀ x, List.take S.length (S.set n x) = S.set n x := fun x => List.take_of_length_le (by simp)
  refine wp_callP h5 ⟨rfl, by decide⟩ ?_
  have hm0 : ∀ x : Int, 1 < many → 0 ≤ x.fmod many ∧ x.fmod many < many := fun x h => ⟨Int.fmod_nonneg_of_pos _ (by omega), Int.fmod_lt_of_pos _ (by omega)⟩
  have hf : ∀ x : Int, 0 ≤ x.fmod 2147483647 ∧ x.fmod 2147483647 < 2147483647 := fun x => ⟨Int.fmod_nonneg_of_pos _ (by omega), Int.fmod_lt_of_pos _ (by omega)⟩
  simp [F5_law_take, ws_change, hp, hs, ht, hb, List.replicate]
  refine ⟨fun h => ⟨_, hself, cells, b, a, c, t, rfl, hb, hc, by omega, hl⟩, fun h => ⟨fun ha => ?_, fun ha => ⟨fun hbl => ?_, fun hbl => ?_⟩⟩⟩
  · exact ⟨by omega, ⟨by omega, by omega⟩, _, rfl, ⟨cells, b, _, c, t, rfl, hb, hc, by omega, hl⟩, (hm0 _ h).1, .inl (hm0 _ h).2⟩
  · refine ⟨cells[b.toNat]'(by omega), List.getElem?_eq_getElem (by omega), fun _ => ?_, fun _ => ?_⟩
    · exact ⟨⟨by omega, by omega⟩, by omega, _, rfl, ⟨cells, _, _, _, t, rfl, by omega, by omega, by omega, hl⟩, (hm0 _ h).1, .inl (hm0 _ h).2⟩
    · refine ⟨⟨?_, ?_⟩, by omega, _, rfl, ⟨cells, _, _, _, t, rfl, by omega, by omega, by omega, hl⟩, (hm0 _ h).1, .inl (hm0 _ h).2⟩
      · exact Int.lt_of_lt_of_le (by decide) (hf _).1
      · exact Int.lt_trans (hf _).2 (by decide)
  · refine ⟨⟨by omega, by omega⟩, ⟨?_, ?_⟩, by omega, _, rfl, ⟨cells, _, _, _, t, rfl, by omega, by omega, by omega, hl⟩, (hm0 _ h).1, .inl (hm0 _ h).2⟩
    · exact Int.lt_of_lt_of_le (by decide) (hf _).1
    · exact Int.lt_trans (hf _).2 (by decide)
theorem take_wp {P : Prg} (h5 : P 5 = some F5_law_take) {d K : Nat} {T : Store} {p : List PyData} {many : Int} {Q : A → Store → Prop} (ok : PoolOk (K + 1) p) (hm : many < 2 ^ 30)
    (q : ∀ r p', PoolOk K p' → 0 ≤ r → (r < many ∨ r = 0) → Q (.val (.int r)) (p' :: T)) : wpR (callP P (d + 1) 5 [.ref 0, .val (.int many)] (p :: T)) Q :=
  wpR_mono (take_ok (n := 0) (S := p :: T) h5 rfl ok hm) fun a S ⟨r, p', e1, e2, ok', h0, h1⟩ => by subst e1 e2; exact q r p' ok' h0 h1
def F6_law_pick : Fn := ⟨2, 2, [], false, [
    .ret (.idx (.var 1) (.call 5 [(.cell 0), (.blt .len [(.var 1)])]))]⟩
theorem pick_wp {P : Prg} (h5 : P 5 = some F5_law_take) (h6 : P 6 = some F6_law_pick) {d K : Nat} {T : Store} {p : List PyData} {menu : List PyData} {Q : A → Store → Prop} (ok : PoolOk (K + 1) p) (hn : menu ≠ []) (hm : menu.length < 2 ^ 30)
    (q : ∀ x p', PoolOk K p' → x ∈ menu → Q (.val x) (p' :: T)) : wpR (callP P (d + 2) 6 [.ref 0, .val (.list menu)] (p :: T)) Q := by
  refine wp_callP h6 ⟨rfl, by decide⟩ ?_
  simp [F6_law_pick, List.replicate]
  refine take_wp h5 ok (by omega) fun r p' ok' h0 h1 => ?_
  have hl : 0 < menu.length := List.length_pos_iff.mpr hn
  simp [h0]
  exact ⟨_, List.getElem?_eq_getElem (by omega), q _ _ ok' (List.getElem_mem _)⟩
def F7_law_name : Fn := ⟨1, 4, [], false, [
    .set 1 (.const (.str "abcdefghijklmnopqrstuvwxyz0123456789")),
    .set 2 (.idx (.var 1) (.call 5 [(.cell 0), (.const (.int 26))])),
    .fors [3] (.range1 (.call 5 [(.cell 0), (.const (.int 12))])) [.aug 2 .add (.idx (.var 1) (.call 5 [(.cell 0), (.const (.int 36))]))],
    .ret (.var 2)]⟩
theorem isO_at {α : Type} {l : List α} {n : Nat} {Q : α → Prop} (h : n < l.length) (q : ∀ x, x ∈ l → l[n]? = some x → Q x) : isO l[n]? Q :=
  ⟨l[n], List.getElem?_eq_getElem h, q _ (List.getElem_mem h) (List.getElem?_eq_getElem h)⟩
theorem isO_atA {α : Type} {l : Array α} {n : Nat} {Q : α → Prop} (h : n < l.size) (q : ∀ x, l[n]? = some x → Q x) : isO l[n]? Q :=
  ⟨l[n], Array.getElem?_eq_getElem h, q _ (Array.getElem?_eq_getElem h)⟩
theorem name_wp {P : Prg} (h5 : P 5 = some F5_law_take) (h7 : P 7 = some F7_law_name) {d K : Nat} {T : Store} {p : List PyData} {Q : A → Store → Prop} (ok : PoolOk (K + 20) p)
    (q : ∀ x p', PoolOk K p' → x.length ≤ 12 → Q (.val (.str x)) (p' :: T)) : wpR (callP P (d + 2) 7 [.ref 0] (p :: T)) Q := by
  refine wp_callP h7 ⟨rfl, by decide⟩ ?_
  have hz : (Str.ofString "abcdefghijklmnopqrstuvwxyz0123456789").length ≤ 16777216 := by decide
  have hs : (Str.ofString "abcdefghijklmnopqrstuvwxyz0123456789").cps.size = 36 := by decide
  simp [F7_law_name, List.replicate]
  refine take_wp h5 ok (by omega) fun r p1 ok1 h0 h1 => ?_
  simp [h0, hz]
  refine isO_atA (by omega) fun c _ => ?_
  refine take_wp h5 ok1 (by omega) fun j p2 ok2 j0 j1 => ?_
  simp
  refine ⟨⟨by omega, by omega⟩, ?_⟩
  refine ws_loop (fun i env S => ∃ x o p', env = [some (.ref 0), some (.val (.str (Str.ofString "abcdefghijklmnopqrstuvwxyz0123456789"))), some (.val (.str x)), o] ∧ S = p' :: T ∧ PoolOk (K + (18 - i)) p' ∧ x.length ≤ i + 1) ⟨_, _, _, rfl, rfl, ok2, Nat.le_refl 1⟩ ?_ ?_
  · rintro i e env S he ⟨x, o, p', rfl, rfl, ok', hx⟩
    have hi : i < j.toNat := by have := (List.getElem?_eq_some_iff.mp he).1; rw [rangeD_len] at this; exact this
    simp [ws_forF]
    refine take_wp (K := K + (18 - (i + 1))) h5 (ok'.mono (by omega)) (by omega) fun r p3 ok3 h0 h1 => ?_
    simp [h0, hz]
    refine isO_atA (by omega) fun c _ => ?_
    have e1 : (⟨#[c]⟩ : Str).length = 1 := rfl
    simp [e1]
    refine ⟨by omega, ok3.mono (by omega), ?_⟩
    rw [strLen_append, e1]
    omega
  · rintro env S ⟨x, o, p', rfl, rfl, ok', hx⟩
    rw [rangeD_len] at ok' hx
    simp
    exact q _ _ (ok'.mono (by omega)) (by omega)
def F8_law_puts : Fn := ⟨0, 2, [], false, [
    .set 0 (.lst []),
    .fors [1] (.tup [(.const (.str "plain")), (.const (.str "with always")), (.const (.str "with done")), (.const (.str "with looked")), (.const (.str "ahead")), (.const (.str "behind"))]) [.set 0 (.bin .add (.var 0) (.lst [(.var 1), (.bin .add (.var 1) (.const (.str " again")))]))],
    .ret (.var 0)]⟩
def F9_law_menus : Fn := ⟨0, 1, [], true, [
    .set 0 (.lst [(.const (.str "plain")), (.const (.str "with always")), (.const (.str "with undone")), (.const (.str "with unlooked")), (.const (.str "ahead"))]),
    .ret (.lst [(.lst [(.const (.str "bare")), (.const (.str "due")), (.const (.str "done"))]), (.lst [(.const (.str "plain")), (.const (.str "shade"))]), (.call 8 []), (.var 0), (.lst [(.const (.str "plain")), (.const (.str "kept"))])])]⟩
def strsL (l : List String) : List PyData := l.map fun x => .str (Str.ofString x)
def PUTS : List PyData := strsL ["plain", "plain again", "with always", "with always again", "with done", "with done again", "with looked", "with looked again", "ahead", "ahead again", "behind", "behind again"]
def MENUS : List PyData := [.list (strsL ["bare", "due", "done"]), .list (strsL ["plain", "shade"]), .list PUTS, .list (strsL ["plain", "with always", "with undone", "with unlooked", "ahead"]), .list (strsL ["plain", "kept"])]
theorem puts_wp {P : Prg} (h8 : P 8 = some F8_law_puts) {d : Nat} {S : Store} {Q : A → Store → Prop} (q : Q (.val (.list PUTS)) S) : wpR (callP P (d + 1) 8 [] S) Q := by
  refine wp_callP h8 ⟨rfl, by decide⟩ ?_
  simp [F8_law_puts, List.replicate, ws_loop1, ws_loop0, ws_forF]
  repeat (refine ⟨by decide, ?_⟩)
  have e : [PyData.str (Str.ofString "plain"), .str (Str.ofString "plain" ++ Str.ofString " again"), .str (Str.ofString "with always"), .str (Str.ofString "with always" ++ Str.ofString " again"),
    .str (Str.ofString "with done"), .str (Str.ofString "with done" ++ Str.ofString " again"), .str (Str.ofString "with looked"), .str (Str.ofString "with looked" ++ Str.ofString " again"),
    .str (Str.ofString "ahead"), .str (Str.ofString "ahead" ++ Str.ofString " again"), .str (Str.ofString "behind"), .str (Str.ofString "behind" ++ Str.ofString " again")] = PUTS := by rfl
  rw [e]
  exact q
theorem menus_wp {P : Prg} (h8 : P 8 = some F8_law_puts) (h9 : P 9 = some F9_law_menus) {d : Nat} {S : Store} {Q : A → Store → Prop} (q : Q (.val (.list MENUS)) S) : wpR (callP P (d + 2) 9 [] S) Q := by
  refine wp_callP h9 ⟨rfl, by decide⟩ ?_
  simp [F9_law_menus, List.replicate]
  repeat (refine ⟨by decide, ?_⟩)
  refine puts_wp h8 ?_
  simp
  repeat (refine ⟨by decide, ?_⟩)
  exact q
def F10_law_some : Fn := ⟨2, 5, [], true, [
    .setT [2, 3] (.tup [(.call 5 [(.cell 0), (.blt .len [(.var 1)])]), (.bin .add (.const (.int 2)) (.call 5 [(.cell 0), (.const (.int 5))]))]),
    .ret (.blt .tuple [(.comp [4] (.range1 (.blt .len [(.var 1)])) (some (.ors [(.cmp .eq (.var 4) (.var 2)), (.cmp .eq (.call 5 [(.cell 0), (.var 3)]) (.const (.int 0)))])) (.idx (.var 1) (.var 4)))])]⟩
/-- some items of a menu -/
theorem some_wp {P : Prg} (h5 : P 5 = some F5_law_take) (h10 : P 10 = some F10_law_some) {d K : Nat} {T : Store} {p : List PyData} {menu : List PyData} {Q : A → Store → Prop} (ok : PoolOk (K + 102) p) (hm : menu.length ≤ 100)
    (q : ∀ ys p', PoolOk K p' → (∀ y ∈ ys, y ∈ menu) → ys.length ≤ menu.length → Q (.val (.tuple ys)) (p' :: T)) : wpR (callP P (d + 2) 10 [.ref 0, .val (.list menu)] (p :: T)) Q := by
  refine wp_callP h10 ⟨rfl, by decide⟩ ?_
  simp [F10_law_some, List.replicate]
  refine take_wp h5 ok (by omega) fun r p1 ok1 h0 h1 => ?_
  simp
  refine take_wp h5 ok1 (by omega) fun j p2 ok2 j0 j1 => ?_
  simp
  refine ⟨by omega, by omega, ?_⟩
  refine wp_collect (fun i ys S => ∃ p', S = p' :: T ∧ PoolOk (K + (100 - i)) p' ∧ (∀ y ∈ ys, y ∈ menu) ∧ ys.length ≤ i) ⟨_, rfl, ok2, by simp, by simp⟩ ?_ ?_
  · rintro i e ys S he ⟨p', rfl, ok', hy, hl⟩
    have hi : i < menu.length := by have := (List.getElem?_eq_some_iff.mp he).1; rw [rangeD_len] at this; exact this
    rw [rangeD_at _ _ _ hi] at he
    cases he
    simp [wp_compF]
    refine ⟨fun _ => ?_, fun _ => ?_⟩
    · exact isO_at hi fun x hx _ => ⟨ok'.mono (by omega), fun y hy' => hy'.elim (hy y) fun z => z ▸ hx, hl⟩
    · refine take_wp (K := K + (99 - i)) h5 (ok'.mono (by omega)) (by omega) fun r p3 ok3 h0 h1 => ?_
      simp
      refine ⟨fun _ => ?_, fun _ => ⟨ok3, hy, by omega⟩⟩
      exact isO_at hi fun x hx _ => ⟨ok3, fun y hy' => hy'.elim (hy y) fun z => z ▸ hx, hl⟩
  · rintro ys S ⟨p', rfl, ok', hy, hl⟩
    simp
    exact q _ _ (ok'.mono (by omega)) hy (by simpa using hl)
end Tr


namespace Tr
open PySem L2
open PySem.Spec PyProof.Rows
def StageOk (d : PyData) : Prop := ∃ g es, d = .tuple [.str g, .tuple es]
def F11_law_many : Fn := ⟨1, 2, [], true, [
    .ret (.blt .max2 [(.const (.int 1)), (.blt .len [(.comp [1] (.var 0) (some (.cmp .inn (.idx (.var 1) (.const (.int 0))) (.tup [(.const (.str "meet")), (.const (.str "stop"))]))) (.const (.int 1)))])])]⟩
theorem many_wp {P : Prg} (h11 : P 11 = some F11_law_many) {d : Nat} {S : Store} {ds : List PyData} {Q : A → Store → Prop} (hs : ∀ s ∈ ds, StageOk s) (hl : ds.length ≤ 1000)
    (q : ∀ m : Nat, 1 ≤ m → m ≤ max 1 ds.length → Q (.val (.int m)) S) : wpR (callP P (d + 1) 11 [.val (.tuple ds)] S) Q := by
  refine wp_callP h11 ⟨rfl, by decide⟩ ?_
  simp [F11_law_many, List.replicate]
  refine ⟨by omega, ?_⟩
  refine wp_collect (fun i ys S' => S' = S ∧ ys.length ≤ i) ⟨rfl, by simp⟩ ?_ ?_
  · rintro i e ys S he ⟨rfl, hy⟩
    obtain ⟨g, es, rfl⟩ := hs e (List.mem_of_getElem? he)
    simp [wp_compF]
    refine inD_str (by rfl) fun b => ⟨fun _ => hy, fun _ => by omega⟩
  · rintro ys S' ⟨rfl, hy⟩
    simp
    split
    · exact q ys.length (by omega) (by omega)
    · exact q 1 (by omega) (by omega)
def F12_law_effects : Fn := ⟨2, 5, [], true, [
    .set 2 (.bin .add (.lst [(.const (.str "turn")), (.const (.str "wake")), (.const (.str "clear"))]) (.ife (.cmp .inn (.var 1) (.tup [(.const (.str "stop")), (.const (.str "meet"))])) (.lst [(.const (.str "hands"))]) (.lst []))),
    .set 3 (.bin .add (.const (.int 1)) (.call 5 [(.cell 0), (.const (.int 4))])),
    .ret (.blt .tuple [(.comp [4] (.var 2) (some (.cmp .eq (.call 5 [(.cell 0), (.var 3)]) (.const (.int 0)))) (.var 4))])]⟩
theorem effects_wp {P : Prg} (h5 : P 5 = some F5_law_take) (h12 : P 12 = some F12_law_effects) {d K : Nat} {T : Store} {p : List PyData} {g : Str} {Q : A → Store → Prop} (ok : PoolOk (K + 5) p)
    (q : ∀ es p', PoolOk K p' → es.length ≤ 4 → (∀ e ∈ es, e ∈ strsL ["turn", "wake", "clear", "hands"]) → Q (.val (.tuple es)) (p' :: T)) : wpR (callP P (d + 2) 12 [.ref 0, .val (.str g)] (p :: T)) Q := by
  refine wp_callP h12 ⟨rfl, by decide⟩ ?_
  simp [F12_law_effects, List.replicate]
  refine inD_str (by rfl) fun b => ⟨fun _ => ?_, fun _ => ?_⟩
  all_goals
    refine take_wp h5 ok (by omega) fun r p1 ok1 h0 h1 => ?_
    simp
    refine wp_collect (fun i ys S => ∃ p', S = p' :: T ∧ PoolOk (K + (4 - i)) p' ∧ (∀ y ∈ ys, y ∈ strsL ["turn", "wake", "clear", "hands"]) ∧ ys.length ≤ i) ⟨_, rfl, ok1, by simp, by simp⟩ ?_ ?_
    · rintro i e ys S he ⟨p', rfl, ok', hy, hl⟩
      have hi := (List.getElem?_eq_some_iff.mp he).1
      simp at hi
      have hm := List.mem_of_getElem? he
      have he' : e ∈ strsL ["turn", "wake", "clear", "hands"] := by
        simp [strsL] at hm ⊢
        first | (rcases hm with h | h | h | h <;> simp [h]; done) | (rcases hm with h | h | h <;> simp [h])
      simp [wp_compF]
      refine take_wp (K := K + (3 - i)) h5 (ok'.mono (by omega)) (by omega) fun r p3 ok3 h0 h1 => ?_
      simp
      refine ⟨fun _ => ⟨ok3, fun y hy' => hy'.elim (hy y) fun z => z ▸ he', hl⟩, fun _ => ⟨ok3, hy, by omega⟩⟩
    · rintro ys S ⟨p', rfl, ok', hy, hl⟩
      simp at hl
      simp
      exact q _ _ (ok'.mono (by omega)) (by omega) hy
def F13_law_stages_of : Fn := ⟨2, 6, [4], true, [
    .par 3 4 (.const (.int 0)) (.lst []),
    .fors [2] (.var 1) [.aug 3 .add (.ife (.cmp .inn (.var 2) (.tup [(.const (.str "stop")), (.const (.str "meet"))])) (.const (.int 1)) (.const (.int 0))), .set 5 (.ife (.ands [(.cmp .gt (.var 3) (.const (.int 4))), (.cmp .inn (.var 2) (.tup [(.const (.str "stop")), (.const (.str "meet"))]))]) (.const (.str "now")) (.var 2)), .app true 4 (.tup [(.var 5), (.call 12 [(.cell 0), (.var 5)])])],
    .ret (.blt .tuple [(.own 4)])]⟩
def isS (d : PyData) : Prop := ∃ s, d = .str s
def SoI (gs : List PyData) (T : Store) (K i : Nat) (env : TEnv) (S : Store) : Prop := ∃ o2 m ds o5 p', env = [some (.ref 0), some (.val (.list gs)), o2, some (.val (.int m)), some (.val (.list ds)), o5] ∧ S = p' :: T ∧ PoolOk (K + (50 - 5 * i)) p' ∧ ds.length = i ∧ ∀ s ∈ ds, StageOk s
theorem stages_of_wp {P : Prg} (h5 : P 5 = some F5_law_take) (h12 : P 12 = some F12_law_effects) (h13 : P 13 = some F13_law_stages_of) {d K : Nat} {T : Store} {p : List PyData} {gs : List PyData} {Q : A → Store → Prop} (ok : PoolOk (K + 50) p)
    (hg : ∀ g ∈ gs, isS g) (hl : gs.length ≤ 10) (q : ∀ ds p', PoolOk K p' → ds.length = gs.length → (∀ s ∈ ds, StageOk s) → Q (.val (.tuple ds)) (p' :: T)) : wpR (callP P (d + 3) 13 [.ref 0, .val (.list gs)] (p :: T)) Q := by
  refine wp_callP h13 ⟨rfl, by decide⟩ ?_
  simp [F13_law_stages_of, List.replicate]
  refine ws_loop (SoI gs T K) ⟨_, _, _, _, _, rfl, rfl, ok, rfl, by simp⟩ ?_ ?_
  · rintro i e env S he ⟨o2, m, ds, o5, p', rfl, rfl, ok', hi, hs⟩
    have hi' := (List.getElem?_eq_some_iff.mp he).1
    obtain ⟨g, rfl⟩ := hg e (List.mem_of_getElem? he)
    simp [ws_forF]
    repeat' first | refine inD_str (by rfl) fun _ => ?_ | intro _ | apply And.intro
    all_goals
      refine effects_wp (K := K + (50 - 5 * (i + 1))) h5 h12 (ok'.mono (by omega)) fun es p2 ok2 _ _ => ?_
      simp [ws_change]
      refine ⟨by omega, _, _, _, _, _, rfl, rfl, ok2, by simp [hi], fun s hs' => ?_⟩
      rcases List.mem_append.mp hs' with h | h
      · exact hs s h
      · exact ⟨_, _, by simpa using h⟩
  · rintro env S ⟨o2, m, ds, o5, p', rfl, rfl, ok', hi, hs⟩
    simp
    exact q _ _ (ok'.mono (by omega)) hi hs
def F14_law_wide_stages : Fn := ⟨1, 9, [], true, [
    .set 1 (.lst []),
    .fors [2] (.range1 (.bin .add (.const (.int 1)) (.call 5 [(.cell 0), (.const (.int 5))]))) [.set 4 (.cmp .eq (.call 5 [(.cell 0), (.const (.int 4))]) (.const (.int 0))), .set 5 (.call 5 [(.cell 0), (.ife (.var 4) (.const (.int 9)) (.const (.int 5)))]), .set 6 (.call 5 [(.cell 0), (.ife (.var 4) (.bin .sub (.const (.int 9)) (.var 5)) (.const (.int 3)))]), .set 7 (.comp [8] (.range1 (.var 5)) none (.call 6 [(.cell 0), (.lst [(.const (.str "now")), (.const (.str "stop")), (.const (.str "meet"))])])), .set 7 (.bin .add (.bin .add (.bin .add (.var 7) (.lst [(.call 6 [(.cell 0), (.lst [(.const (.str "look")), (.const (.str "gather"))])])])) (.comp [8] (.range1 (.var 6)) none (.const (.str "now")))) (.lst [(.const (.str "free"))])), .ifs (.cmp .le (.bin .add (.blt .len [(.var 1)]) (.blt .len [(.var 7)])) (.const (.int 10))) [.set 1 (.bin .add (.var 1) (.var 7))] []],
    .set 3 (.call 5 [(.cell 0), (.blt .len [(.var 1)])]),
    .ret (.call 13 [(.cell 0), (.bin .add (.slice (.var 1) (some (.var 3)) none) (.slice (.var 1) none (some (.var 3))))])]⟩
def WsI (K : Nat) (T : Store) (i : Nat) (env : TEnv) (S : Store) : Prop := ∃ told o2 o3 o4 o5 o6 o7 o8 p', env = [some (.ref 0), some (.val (.list told)), o2, o3, o4, o5, o6, o7, o8] ∧ S = p' :: T ∧ PoolOk (K + (300 - 20 * i)) p' ∧ (∀ g ∈ told, isS g) ∧ told.length ≤ 10 ∧ (1 ≤ i → 1 ≤ told.length)
def PkI (K : Nat) (T : Store) (i : Nat) (ys : List PyData) (S : Store) : Prop := ∃ p', S = p' :: T ∧ PoolOk (K - i) p' ∧ (∀ y ∈ ys, isS y) ∧ ys.length = i
def AtI (S0 : Store) (i : Nat) (ys : List PyData) (S : Store) : Prop := S = S0 ∧ (∀ y ∈ ys, isS y) ∧ ys.length = i
theorem isS_strs {l : List PyData} (h : l.all (fun d => match d with | .str _ => true | _ => false) = true) {d : PyData} (hd : d ∈ l) : isS d := by
  have := List.all_eq_true.mp h d hd
  cases d <;> first | (cases this; done) | exact ⟨_, rfl⟩
theorem wide_stages_wp {P : Prg} (h5 : P 5 = some F5_law_take) (h6 : P 6 = some F6_law_pick) (h12 : P 12 = some F12_law_effects) (h13 : P 13 = some F13_law_stages_of) (h14 : P 14 = some F14_law_wide_stages) {d K : Nat} {T : Store} {p : List PyData} {Q : A → Store → Prop}
    (ok : PoolOk (K + 400) p) (q : ∀ ds p', PoolOk K p' → 1 ≤ ds.length → ds.length ≤ 10 → (∀ s ∈ ds, StageOk s) → Q (.val (.tuple ds)) (p' :: T)) : wpR (callP P (d + 4) 14 [.ref 0] (p :: T)) Q := by
  refine wp_callP h14 ⟨rfl, by decide⟩ ?_
  simp [F14_law_wide_stages, List.replicate]
  refine take_wp (K := K + 399) h5 ok (by omega) fun n p1 ok1 n0 n1 => ?_
  simp
  refine ⟨⟨by omega, by omega⟩, ?_⟩
  refine ws_loop (WsI K T) ⟨_, _, _, _, _, _, _, _, _, rfl, rfl, ok1.mono (by omega), by simp, by simp, by simp⟩ ?_ ?_
  · rintro i e env S he ⟨told, o2, o3, o4, o5, o6, o7, o8, p', rfl, rfl, ok', ht, hl, hi1⟩
    have hi := (List.getElem?_eq_some_iff.mp he).1
    rw [rangeD_len] at hi
    simp [ws_forF]
    refine take_wp (K := K + (299 - 20 * i)) h5 (ok'.mono (by omega)) (by omega) fun w p2 ok2 w0 w1 => ?_
    by_cases hw : w = 0
    all_goals
      simp [hw]
      refine take_wp (K := K + (298 - 20 * i)) h5 (ok2.mono (by omega)) (by omega) fun hd p3 ok3 d0 d1 => ?_
      simp
      refine take_wp (K := K + (297 - 20 * i)) h5 (ok3.mono (by omega)) (by omega) fun tl p4 ok4 t0 t1 => ?_
      have hsum : hd + tl ≤ 8 := by omega
      simp
      refine ⟨⟨by omega, by omega⟩, by omega, ?_⟩
      refine wp_collect (PkI (K + (297 - 20 * i)) T) ⟨_, rfl, ok4.mono (by omega), by simp, rfl⟩ ?_ ?_
      · rintro j e ys S he ⟨p', rfl, ok', hy, hl⟩
        have hj := (List.getElem?_eq_some_iff.mp he).1
        rw [rangeD_len] at hj
        simp [wp_compF]
        refine pick_wp (K := K + (297 - 20 * i) - (j + 1)) h5 h6 (ok'.mono (by omega)) (by simp) (by simp) fun x p5 ok5 hx => ?_
        simp
        refine ⟨_, rfl, ok5, fun y hy' => ?_, by simp [hl]⟩
        rcases List.mem_append.mp hy' with h | h
        · exact hy y h
        · have e : y = x := by simpa using h
          rw [e]
          exact isS_strs (by rfl) hx
      · rintro ys S ⟨p5, rfl, ok5, hy, hly⟩
        rw [rangeD_len] at ok5 hly
        refine pick_wp (K := K + (280 - 20 * i)) h5 h6 (ok5.mono (by omega)) (by simp) (by simp) fun x p6 ok6 hx => ?_
        have hx' : isS x := isS_strs (by rfl) hx
        simp
        refine ⟨by omega, ⟨by omega, by omega⟩, by omega, ?_⟩
        refine wp_collect (AtI (p6 :: T)) ⟨rfl, by simp, rfl⟩ ?_ ?_
        · rintro j e zs S he ⟨rfl, hz, hlz⟩
          simp [wp_compF]
          refine ⟨rfl, fun y hy' => ?_, by simp [hlz]⟩
          rcases List.mem_append.mp hy' with h | h
          · exact hz y h
          · exact ⟨_, by simpa using h⟩
        · rintro zs S ⟨rfl, hz, hlz⟩
          rw [rangeD_len] at hlz
          refine ⟨by omega, by omega, fun h10 => ⟨by omega, ?_⟩, fun h10 => ?_⟩
          · refine ⟨_, _, _, _, _, _, _, _, _, rfl, rfl, ok6.mono (by omega), fun g hg => ?_, by simp; omega, fun _ => by simp; omega⟩
            simp at hg
            rcases hg with h | h | h | h | h
            · exact ht g h
            · exact hy g h
            · rw [h]; exact hx'
            · exact hz g h
            · exact ⟨_, h⟩
          · exact ⟨_, _, _, _, _, _, _, _, _, rfl, rfl, ok6.mono (by omega), ht, hl, fun _ => by omega⟩
  · rintro env S ⟨told, o2, o3, o4, o5, o6, o7, o8, p', rfl, rfl, ok', ht, hl, hi1⟩
    rw [rangeD_len] at ok' hi1
    simp
    refine take_wp (K := K + 199) h5 (ok'.mono (by omega)) (by omega) fun b p2 ok2 b0 b1 => ?_
    have b2 : b < told.length := by omega
    simp [cut_from b0, cut_to b0]
    refine ⟨by omega, ?_⟩
    refine stages_of_wp (K := K + 149) h5 h12 h13 ok2 (fun g hg => ?_) (by simp; omega) fun ds p3 ok3 hd hs => ?_
    · rcases List.mem_append.mp hg with h | h
      · exact ht g (List.mem_of_mem_drop h)
      · exact ht g (List.mem_of_mem_take h)
    · simp at hd
      simp
      exact q _ _ (ok3.mono (by omega)) (by omega) (by omega) hs
end Tr


namespace Tr
open PySem L2
open PySem.Spec PyProof.Rows
def WordOk (y : PyData) : Prop := ∃ s : Str, y = .str s ∧ PyData.strOk s = true ∧ s.length ≤ 32
def OptOk (x : PyData) : Prop := ∃ ys, x = .tuple ys ∧ ys.length ≤ 12 ∧ ∀ y ∈ ys, WordOk y
def RowOk (d : PyData) : Prop := ∃ ys, d = .tuple ys ∧ ys.length = 5 ∧ ∀ y ∈ ys, OptOk y
def wordB : PyData → Bool
  | .str s => PyData.strOk s && decide (s.length ≤ 32)
  | _ => false
theorem wordB_ok {y : PyData} (h : wordB y = true) : WordOk y := by
  cases y with
  | str s =>
    obtain ⟨h1, h2⟩ := ba h
    exact ⟨s, rfl, h1, of_decide_eq_true h2⟩
  | _ => cases h
theorem menus_ok {m : PyData} (h : m ∈ MENUS) : ∃ l, m = .list l ∧ l ≠ [] ∧ l.length ≤ 12 ∧ ∀ y ∈ l, WordOk y := by
  have c : MENUS.all (fun m => match m with
    | .list l => !l.isEmpty && (decide (l.length ≤ 12) && l.all wordB)
    | _ => false) = true := by decide +kernel
  have c := List.all_eq_true.mp c m h
  cases m with
  | list l =>
    obtain ⟨h1, h2⟩ := ba c
    obtain ⟨h2, h3⟩ := ba h2
    exact ⟨l, rfl, by simpa using h1, of_decide_eq_true h2, fun y hy => wordB_ok (List.all_eq_true.mp h3 y hy)⟩
  | _ => cases c
def ArI (K : Nat) (T : Store) (i : Nat) (ys : List PyData) (S : Store) : Prop := ∃ p', S = p' :: T ∧ PoolOk (K + (600 - 110 * i)) p' ∧ (∀ y ∈ ys, OptOk y) ∧ ys.length = i
def F15_law_any_row : Fn := ⟨1, 4, [], true, [
    .par 1 2 (.call 5 [(.cell 0), (.const (.int 4))]) (.call 9 []),
    .ifs (.cmp .eq (.var 1) (.const (.int 0))) [.ret (.blt .tuple [(.comp [3] (.var 2) none (.blt .tuple [(.var 3)]))])] [],
    .ifs (.cmp .eq (.var 1) (.const (.int 1))) [.ret (.blt .tuple [(.comp [3] (.var 2) none (.tup [(.call 6 [(.cell 0), (.var 3)])]))])] [],
    .ret (.blt .tuple [(.comp [3] (.var 2) none (.call 10 [(.cell 0), (.var 3)]))])]⟩
theorem any_row_wp {P : Prg} (h5 : P 5 = some F5_law_take) (h6 : P 6 = some F6_law_pick) (h8 : P 8 = some F8_law_puts) (h9 : P 9 = some F9_law_menus) (h10 : P 10 = some F10_law_some) (h15 : P 15 = some F15_law_any_row) {d K : Nat} {T : Store} {p : List PyData} {Q : A → Store → Prop}
    (ok : PoolOk (K + 700) p) (q : ∀ r p', PoolOk K p' → RowOk r → Q (.val r) (p' :: T)) : wpR (callP P (d + 3) 15 [.ref 0] (p :: T)) Q := by
  refine wp_callP h15 ⟨rfl, by decide⟩ ?_
  have hl : MENUS.length = 5 := rfl
  have fin : ∀ ys S, ArI K T MENUS.length ys S → Q (.val (.tuple ys)) (List.take (T.length + 1) S) := by
    rintro ys S ⟨p', rfl, ok', hy, hlen⟩
    rw [show List.take (T.length + 1) (p' :: T) = p' :: T from by simp]
    exact q _ _ (ok'.mono (by omega)) ⟨ys, rfl, hlen, hy⟩
  simp [F15_law_any_row, List.replicate]
  refine take_wp (K := K + 699) h5 ok (by omega) fun k p1 ok1 k0 k1 => ?_
  simp
  refine menus_wp h8 h9 ?_
  simp
  refine ⟨fun _ => ⟨by rw [hl]; decide, ?_⟩, fun _ => ⟨fun _ => ⟨by rw [hl]; decide, ?_⟩, fun _ => ⟨by rw [hl]; decide, ?_⟩⟩⟩
  · refine wp_collect (ArI K T) ⟨_, rfl, ok1.mono (by omega), by simp, rfl⟩ ?_ fin
    rintro i e ys S he ⟨p', rfl, ok', hy, hlen⟩
    obtain ⟨l, rfl, _, l1, l2⟩ := menus_ok (List.mem_of_getElem? he)
    simp [wp_compF]
    refine ⟨_, rfl, ok'.mono (by omega), fun y hy' => ?_, by simp [hlen]⟩
    rcases List.mem_append.mp hy' with h | h
    · exact hy y h
    · exact ⟨l, by simpa using h, l1, l2⟩
  · refine wp_collect (ArI K T) ⟨_, rfl, ok1.mono (by omega), by simp, rfl⟩ ?_ fin
    rintro i e ys S he ⟨p', rfl, ok', hy, hlen⟩
    have hi : i < 5 := by have := (List.getElem?_eq_some_iff.mp he).1; rw [hl] at this; exact this
    obtain ⟨l, rfl, l0, l1, l2⟩ := menus_ok (List.mem_of_getElem? he)
    simp [wp_compF]
    refine pick_wp (K := K + (599 - 110 * i)) h5 h6 (ok'.mono (by omega)) l0 (by omega) fun x p2 ok2 hx => ?_
    simp
    refine ⟨_, rfl, ok2.mono (by omega), fun y hy' => ?_, by simp [hlen]⟩
    rcases List.mem_append.mp hy' with h | h
    · exact hy y h
    · exact ⟨[x], by simpa using h, by simp, fun z hz => by rw [show z = x by simpa using hz]; exact l2 x hx⟩
  · refine wp_collect (ArI K T) ⟨_, rfl, ok1.mono (by omega), by simp, rfl⟩ ?_ fin
    rintro i e ys S he ⟨p', rfl, ok', hy, hlen⟩
    have hi : i < 5 := by have := (List.getElem?_eq_some_iff.mp he).1; rw [hl] at this; exact this
    obtain ⟨l, rfl, l0, l1, l2⟩ := menus_ok (List.mem_of_getElem? he)
    simp [wp_compF]
    refine some_wp (K := K + (600 - 110 * (i + 1))) h5 h10 (ok'.mono (by omega)) (by omega) fun zs p2 ok2 hz hzl => ?_
    simp
    refine ⟨_, rfl, ok2, fun y hy' => ?_, by simp [hlen]⟩
    rcases List.mem_append.mp hy' with h | h
    · exact hy y h
    · exact ⟨zs, by simpa using h, by omega, fun z h' => l2 z (hz z h')⟩
def RwI (K : Nat) (T : Store) (i : Nat) (ys : List PyData) (S : Store) : Prop := ∃ p', S = p' :: T ∧ PoolOk (K + (8000 - 700 * i)) p' ∧ (∀ y ∈ ys, RowOk y) ∧ ys.length = i
def F16_law_rows : Fn := ⟨2, 5, [], true, [
    .setT [2, 3] (.tup [(.call 5 [(.cell 0), (.const (.int 3))]), (.call 15 [(.cell 0)])]),
    .ret (.blt .tuple [(.comp [4] (.range1 (.call 11 [(.var 1)])) none (.ife (.cmp .eq (.var 2) (.const (.int 0))) (.var 3) (.call 15 [(.cell 0)])))])]⟩
theorem rows_wp {P : Prg} (h5 : P 5 = some F5_law_take) (h6 : P 6 = some F6_law_pick) (h8 : P 8 = some F8_law_puts) (h9 : P 9 = some F9_law_menus) (h10 : P 10 = some F10_law_some) (h11 : P 11 = some F11_law_many) (h15 : P 15 = some F15_law_any_row) (h16 : P 16 = some F16_law_rows)
    {d K : Nat} {T : Store} {p : List PyData} {ss : List PyData} {Q : A → Store → Prop} (hs : ∀ s ∈ ss, StageOk s) (hl : ss.length ≤ 10) (ok : PoolOk (K + 9000) p)
    (q : ∀ rs p', PoolOk K p' → 1 ≤ rs.length → rs.length ≤ 10 → (∀ r ∈ rs, RowOk r) → Q (.val (.tuple rs)) (p' :: T)) : wpR (callP P (d + 4) 16 [.ref 0, .val (.tuple ss)] (p :: T)) Q := by
  refine wp_callP h16 ⟨rfl, by decide⟩ ?_
  simp [F16_law_rows, List.replicate]
  refine take_wp (K := K + 8999) h5 ok (by omega) fun k p1 ok1 k0 k1 => ?_
  simp
  refine any_row_wp (K := K + 8200) h5 h6 h8 h9 h10 h15 (ok1.mono (by omega)) fun r p2 ok2 hr => ?_
  simp
  refine many_wp h11 hs (by omega) fun m m1 m2 => ?_
  simp
  refine ⟨by omega, by omega, ?_⟩
  refine wp_collect (RwI K T) ⟨_, rfl, ok2.mono (by omega), by simp, rfl⟩ ?_ ?_
  · rintro i e ys S he ⟨p', rfl, ok', hy, hlen⟩
    have hi : i < m := by have := (List.getElem?_eq_some_iff.mp he).1; rw [rangeD_len] at this; exact this
    simp [wp_compF]
    refine ⟨fun _ => ?_, fun _ => ?_⟩
    · refine ⟨_, rfl, ok'.mono (by omega), fun y hy' => ?_, by simp [hlen]⟩
      rcases List.mem_append.mp hy' with h | h
      · exact hy y h
      · rw [show y = r by simpa using h]; exact hr
    · refine any_row_wp (K := K + (8000 - 700 * (i + 1))) h5 h6 h8 h9 h10 h15 (ok'.mono (by omega)) fun r' p3 ok3 hr' => ?_
      simp
      refine ⟨_, rfl, ok3, fun y hy' => ?_, by simp [hlen]⟩
      rcases List.mem_append.mp hy' with h | h
      · exact hy y h
      · rw [show y = r' by simpa using h]; exact hr'
  · rintro ys S ⟨p', rfl, ok', hy, hlen⟩
    rw [rangeD_len] at ok' hlen
    simp
    exact q _ _ (ok'.mono (by omega)) (by omega) (by omega) hy
end Tr


namespace Tr
open PySem L2
open PySem.Spec PyProof.Rows
def TextOk (d : PyData) : Prop := ∃ (nm : Str) (pl : Int) (ss rs : List PyData), d = .tuple [.str "sweeper", .str nm, .int pl, .tuple ss, .tuple rs] ∧ 1 ≤ ss.length ∧ ss.length ≤ 10 ∧ (∀ s ∈ ss, StageOk s) ∧ 1 ≤ rs.length ∧ rs.length ≤ 10 ∧ ∀ r ∈ rs, RowOk r
def F17_law_near : Fn := ⟨2, 14, [], true, [
    .setT [2, 3, 4, 5] (.tup [(.idx (.var 1) (.const (.int 1))), (.idx (.var 1) (.const (.int 2))), (.idx (.var 1) (.const (.int 3))), (.idx (.var 1) (.const (.int 4)))]),
    .setT [6, 7, 8, 9] (.comp [10] (.tup [(.const (.int 5)), (.blt .len [(.var 4)]), (.blt .len [(.var 5)]), (.const (.int 5))]) none (.call 5 [(.cell 0), (.var 10)])),
    .ifs (.cmp .eq (.var 6) (.const (.int 0))) [.set 2 (.call 7 [(.cell 0)])] [.ifs (.cmp .eq (.var 6) (.const (.int 1))) [.set 3 (.bin .sub (.const (.int 3)) (.var 3))] [.ifs (.cmp .eq (.var 6) (.const (.int 2))) [.set 11 (.tup [(.idx (.idx (.var 4) (.var 7)) (.const (.int 0))), (.call 12 [(.cell 0), (.idx (.idx (.var 4) (.var 7)) (.const (.int 0)))])]), .set 4 (.bin .add (.bin .add (.slice (.var 4) none (some (.var 7))) (.tup [(.var 11)])) (.slice (.var 4) (some (.bin .add (.var 7) (.const (.int 1)))) none))] [.ifs (.cmp .eq (.var 6) (.const (.int 3))) [.set 12 (.call 10 [(.cell 0), (.idx (.call 9 []) (.var 9))]), .set 13 (.bin .add (.bin .add (.slice (.idx (.var 5) (.var 8)) none (some (.var 9))) (.tup [(.var 12)])) (.slice (.idx (.var 5) (.var 8)) (some (.bin .add (.var 9) (.const (.int 1)))) none)), .set 5 (.bin .add (.bin .add (.slice (.var 5) none (some (.var 8))) (.tup [(.var 13)])) (.slice (.var 5) (some (.bin .add (.var 8) (.const (.int 1)))) none))] [.set 5 (.bin .add (.slice (.var 5) (some (.const (.int 1))) none) (.slice (.var 5) none (some (.const (.int 1)))))]]]],
    .ret (.tup [(.const (.str "sweeper")), (.var 2), (.var 3), (.var 4), (.var 5)])]⟩
theorem near_wp {P : Prg} (h5 : P 5 = some F5_law_take) (h7 : P 7 = some F7_law_name) (h8 : P 8 = some F8_law_puts) (h9 : P 9 = some F9_law_menus) (h10 : P 10 = some F10_law_some) (h12 : P 12 = some F12_law_effects) (h17 : P 17 = some F17_law_near)
    {d K : Nat} {T : Store} {p : List PyData} {x : PyData} {Q : A → Store → Prop} (hx : TextOk x) (ok : PoolOk (K + 200) p)
    (q : ∀ y p', PoolOk K p' → TextOk y → Q (.val y) (p' :: T)) : wpR (callP P (d + 3) 17 [.ref 0, .val x] (p :: T)) Q := by
  obtain ⟨nm, pl, ss, rs, rfl, s1, s2, s3, r1, r2, r3⟩ := hx
  refine wp_callP h17 ⟨rfl, by decide⟩ ?_
  simp [F17_law_near, List.replicate, wp_coll1, wp_coll0, wp_compF]
  refine take_wp (K := K + 199) h5 ok (by omega) fun way p1 ok1 w0 w1 => ?_
  simp
  refine take_wp (K := K + 198) h5 ok1 (by omega) fun at_ p2 ok2 a0 a1 => ?_
  simp
  refine take_wp (K := K + 197) h5 ok2 (by omega) fun st p3 ok3 t0 t1 => ?_
  simp
  refine take_wp (K := K + 196) h5 ok3 (by omega) fun wd p4 ok4 d0 d1 => ?_
  have cs1 : cutD ss none (some at_) = ss.take at_.toNat := cut_to a0
  have cs2 : cutD ss (some (at_ + 1)) none = ss.drop (at_ + 1).toNat := cut_from (by omega)
  have cr1 : cutD rs none (some st) = rs.take st.toNat := cut_to t0
  have cr2 : cutD rs (some (st + 1)) none = rs.drop (st + 1).toNat := cut_from (by omega)
  have cr3 : cutD rs (some 1) none = rs.drop 1 := cut_from (by omega)
  have cr4 : cutD rs none (some 1) = rs.take 1 := cut_to (by omega)
  simp [cs1, cs2, cr1, cr2, cr3, cr4, a0, t0]
  refine ⟨fun _ => ?_, fun _ => ⟨fun _ => ?_, fun _ => ⟨fun _ => ?_, fun _ => ⟨fun _ => ?_, fun _ => ?_⟩⟩⟩⟩
  · refine name_wp (K := K + 170) h5 h7 (ok4.mono (by omega)) fun nm' p5 ok5 _ => ?_
    simp
    exact q _ _ (ok5.mono (by omega)) ⟨nm', pl, ss, rs, rfl, s1, s2, s3, r1, r2, r3⟩
  · exact q _ _ (ok4.mono (by omega)) ⟨nm, 3 - pl, ss, rs, rfl, s1, s2, s3, r1, r2, r3⟩
  · refine isO_at (by omega) fun g hg hg' => ?_
    obtain ⟨gt, es, rfl⟩ := s3 g hg
    simp [hg']
    refine effects_wp (K := K + 190) h5 h12 (ok4.mono (by omega)) fun es' p5 ok5 _ _ => ?_
    simp
    refine ⟨by omega, by omega, q _ _ (ok5.mono (by omega)) ⟨nm, pl, _, rs, rfl, ?_, ?_, fun s hs => ?_, r1, r2, r3⟩⟩
    · simp; omega
    · simp; omega
    · rcases List.mem_append.mp hs with h | h
      · exact s3 s (List.mem_of_mem_take h)
      · rcases List.mem_cons.mp h with h | h
        · exact ⟨gt, es', h⟩
        · exact s3 s (List.mem_of_mem_drop h)
  · refine menus_wp h8 h9 ?_
    simp [d0]
    refine isO_at (by show wd.toNat < 5; omega) fun m hm _ => ?_
    obtain ⟨l, rfl, l0, l1, l2⟩ := menus_ok hm
    refine some_wp (K := K + 80) h5 h10 (ok4.mono (by omega)) (by omega) fun ys p5 ok5 hy hyl => ?_
    simp
    refine isO_at (by omega) fun r hr hr' => ?_
    obtain ⟨zs, rfl, z1, z2⟩ := r3 r hr
    have cz1 : cutD zs none (some wd) = zs.take wd.toNat := cut_to d0
    have cz2 : cutD zs (some (wd + 1)) none = zs.drop (wd + 1).toNat := cut_from (by omega)
    simp [cz1, cz2, hr', z1]
    refine ⟨by omega, by omega, by omega, by omega, q _ _ (ok5.mono (by omega)) ⟨nm, pl, ss, _, rfl, s1, s2, s3, ?_, ?_, fun r' hr'' => ?_⟩⟩
    · simp; omega
    · simp; omega
    · rcases List.mem_append.mp hr'' with h | h
      · exact r3 r' (List.mem_of_mem_take h)
      · rcases List.mem_cons.mp h with h | h
        · refine ⟨_, h, by simp; omega, fun y hy' => ?_⟩
          rcases List.mem_append.mp hy' with h | h
          · exact z2 y (List.mem_of_mem_take h)
          · rcases List.mem_cons.mp h with h | h
            · exact ⟨ys, h, by omega, fun z hz => l2 z (hy z hz)⟩
            · exact z2 y (List.mem_of_mem_drop h)
        · exact r3 r' (List.mem_of_mem_drop h)
  · refine ⟨by omega, q _ _ (ok4.mono (by omega)) ⟨nm, pl, ss, _, rfl, s1, s2, s3, ?_, ?_, fun r' hr'' => ?_⟩⟩
    · simp; omega
    · simp; omega
    · rcases List.mem_append.mp hr'' with h | h
      · exact r3 r' (List.mem_of_mem_tail h)
      · exact r3 r' (List.mem_of_mem_take h)
end Tr


namespace Tr
open PySem L2
open PySem.Spec PyProof.Rows
theorem repr_wp {d : PyData} {Q : PyData → Prop} (h1 : d.showable = true) (h2 : d.hasDict = false) (h3 : d.depth ≤ 60) (h4 : d.shown.length ≤ sizeLine) (q : Q (.str d.shown)) : isO (bltD .repr [d]) Q := ⟨_, if_pos ⟨h1, h2, h3, h4⟩, q⟩
theorem same_wp {d : PyData} {Q : Bool → Prop} (h : SeqAt.shaped d = true) (q : Q true) : isO (cmpD .eq d d) Q := ⟨_, cmpD_same h, q⟩
theorem same_wp' {d : PyData} {Q : Bool → Prop} (h : SeqAt.shaped d = true) (q : Q false) : isO (cmpD .ne d d) Q := ⟨_, cmpD_same' h, q⟩
def F1_order_of : Fn := ⟨1, 1, [], true, [
    .ret (.meth .removesuffix (.var 0) [(.const (.str " again"))])]⟩
def F2_pays_again : Fn := ⟨1, 1, [], true, [
    .ret (.meth .endswith (.var 0) [(.const (.str " again"))])]⟩
def F3_options : Fn := ⟨3, 3, [], false, [
    .ret (.idx (.idx (.idx (.var 0) (.const (.int 4))) (.var 1)) (.meth .index (.glob "ROW_WORDS" (.tuple [(.str "make"), (.str "read"), (.str "put"), (.str "cut"), (.str "take")])) [(.var 2)]))]⟩
def F4_law_pool : Fn := ⟨1, 4, [], true, [
    .set 1 (.comp [3] (.slice (.var 0) none (some (.const (.int 63)))) none (.blt .abs [(.blt .int [(.var 3)])])),
    .set 2 (.const (.int 0)),
    .fors [3] (.var 1) [.set 2 (.bin .mod (.blt .int [(.bin .add (.bin .mul (.var 2) (.const (.int 31))) (.var 3))]) (.const (.int 1000003)))],
    .ret (.lst [(.var 1), (.const (.int 0)), (.const (.int 0)), (.const (.int 0)), (.var 2)])]⟩
def F18_law_menus_right : Fn := ⟨0, 5, [], false, [
    .setT [2, 3] (.tup [(.tup [(.const (.str "now")), (.const (.str "stop")), (.const (.str "meet")), (.const (.str "look")), (.const (.str "gather")), (.const (.str "free"))]), (.tup [(.const (.str "turn")), (.const (.str "wake")), (.const (.str "clear")), (.const (.str "hands"))])]),
    .set 0 (.bin .add (.lst [(.var 2), (.var 3), (.tup [(.const (.str "make")), (.const (.str "read")), (.const (.str "put")), (.const (.str "cut")), (.const (.str "take"))])]) (.comp [4] (.call 9 []) none (.blt .tuple [(.var 4)]))),
    .set 1 (.lst [(.glob "GATES" (.tuple [(.str "now"), (.str "stop"), (.str "meet"), (.str "look"), (.str "gather"), (.str "free")])), (.glob "EFFECTS" (.tuple [(.str "turn"), (.str "wake"), (.str "clear"), (.str "hands")])), (.glob "ROW_WORDS" (.tuple [(.str "make"), (.str "read"), (.str "put"), (.str "cut"), (.str "take")])), (.glob "MAKES" (.tuple [(.str "bare"), (.str "due"), (.str "done")])), (.glob "READS" (.tuple [(.str "plain"), (.str "shade")])), (.glob "PUTS" (.tuple [(.str "plain"), (.str "plain again"), (.str "with always"), (.str "with always again"), (.str "with done"), (.str "with done again"), (.str "with looked"), (.str "with looked again"), (.str "ahead"), (.str "ahead again"), (.str "behind"), (.str "behind again")])), (.glob "CUTS" (.tuple [(.str "plain"), (.str "with always"), (.str "with undone"), (.str "with unlooked"), (.str "ahead")])), (.glob "TAKES" (.tuple [(.str "plain"), (.str "kept")]))]),
    .ret (.ands [(.cmp .eq (.var 1) (.var 0)), (.cmp .eq (.blt .repr [(.var 1)]) (.blt .repr [(.var 0)]))])]⟩
theorem pool_wp {P : Prg} (h4 : P 4 = some F4_law_pool) {d : Nat} {S : Store} {ns : List Int} {Q : A → Store → Prop} (q : ∀ p, PoolOk 1000000 p → Q (.val (.list p)) S) : wpR (callP P (d + 1) 4 [.val (.list (ns.map .int))] S) Q := by
  refine wp_callP h4 ⟨rfl, by decide⟩ ?_
  have c : cutD (ns.map PyData.int) none (some 63) = (ns.take 63).map .int := by rw [cut_to (by omega), List.map_take]; rfl
  simp [F4_law_pool, List.replicate, c]
  refine ⟨by omega, ?_⟩
  refine wp_collect (fun i ys S' => S' = S ∧ ∃ cs : List Int, ys = cs.map .int ∧ cs.length = i) ⟨rfl, [], rfl, rfl⟩ ?_ ?_
  · rintro i e ys S' he ⟨rfl, cs, rfl, hl⟩
    rw [← List.map_take, List.getElem?_map] at he
    obtain ⟨n, _, rfl⟩ := Option.map_eq_some_iff.mp he
    simp [wp_compF]
    exact ⟨cs ++ [if n < 0 then -n else n], by simp, by simp [hl]⟩
  · rintro ys S' ⟨rfl, cs, rfl, hl⟩
    simp at hl
    refine ws_loop (fun i env S'' => S'' = S' ∧ ∃ t o, env = [some (.val (.list (ns.map .int))), some (.val (.list (cs.map .int))), some (.val (.int t)), o]) ⟨rfl, _, _, rfl⟩ ?_ ?_
    · rintro i e env S'' he ⟨rfl, t, o, rfl⟩
      rw [List.getElem?_map] at he
      obtain ⟨n, _, rfl⟩ := Option.map_eq_some_iff.mp he
      simp [ws_forF]
    · rintro env S'' ⟨rfl, t, o, rfl⟩
      simp
      exact q _ ⟨cs, 0, 0, 0, t, rfl, by omega, by omega, by decide, by omega⟩
theorem menus_right_wp {P : Prg} (h8 : P 8 = some F8_law_puts) (h9 : P 9 = some F9_law_menus) (h18 : P 18 = some F18_law_menus_right) {d : Nat} {S : Store} {Q : A → Store → Prop} (q : Q (.val (.bool true)) S) : wpR (callP P (d + 3) 18 [] S) Q := by
  refine wp_callP h18 ⟨rfl, by decide⟩ ?_
  simp [F18_law_menus_right, List.replicate]
  refine menus_wp h8 h9 ?_
  simp [MENUS, wp_coll1, wp_coll0, wp_compF, strsL, PUTS]
  refine same_wp (by decide +kernel) ?_
  simp
  refine repr_wp (by decide +kernel) (by decide +kernel) (by decide +kernel) (by decide +kernel) (repr_wp (by decide +kernel) (by decide +kernel) (by decide +kernel) (by decide +kernel) ?_)
  simp
  exact q
theorem order_wp {P : Prg} (h1 : P 1 = some F1_order_of) {d : Nat} {S : Store} {x : Str} (hz : x.length ≤ sizeLine) {Q : A → Store → Prop} (q : Q (.val (.str (Txt.removesuffix x " again"))) S) : wpR (callP P (d + 1) 1 [.val (.str x)] S) Q := by
  refine wp_callP h1 ⟨rfl, by decide⟩ ?_
  simp [F1_order_of, methD]
  exact ⟨by simpa using hz, q⟩
theorem pays_wp {P : Prg} (h2 : P 2 = some F2_pays_again) {d : Nat} {S : Store} {x : Str} {Q : A → Store → Prop} (q : Q (.val (.bool (Txt.endswith x " again"))) S) : wpR (callP P (d + 1) 2 [.val (.str x)] S) Q := by
  refine wp_callP h2 ⟨rfl, by decide⟩ ?_
  simp [F2_pays_again, methD]
  exact q
def putB (o : PyData) : Bool := match o with
  | .str x => decide (x.length ≤ sizeLine) && decide (Txt.removesuffix x " again" = if Txt.endswith x " again" = true then cutS x none (some (-6)) else x)
  | _ => false
theorem puts_ok {o : PyData} (h : o ∈ PUTS) : ∃ x, o = .str x ∧ x.length ≤ sizeLine ∧ Txt.removesuffix x " again" = if Txt.endswith x " again" = true then cutS x none (some (-6)) else x := by
  have c : PUTS.all putB = true := by decide +kernel
  have c := List.all_eq_true.mp c o h
  cases o with
  | str x =>
    obtain ⟨h1, h2⟩ := ba c
    exact ⟨x, rfl, of_decide_eq_true h1, of_decide_eq_true h2⟩
  | _ => cases c
def PrI (b : Int) (S0 : Store) (i : Nat) (env : TEnv) (S : Store) : Prop := S = S0 ∧ ∃ o1 o2 o3 o4 o5, env = [some (.val (.int b)), o1, o2, o3, o4, o5]
def F19_law_puts_right : Fn := ⟨1, 6, [], true, [
    .fors [1] (.range1 (.const (.int 12))) [.set 2 (.idx (.call 8 []) (.bin .mod (.blt .int [(.bin .add (.var 0) (.var 1))]) (.const (.int 12)))), .set 3 (.meth .endswith (.var 2) [(.const (.str " again"))]), .par 4 5 (.call 1 [(.var 2)]) (.call 2 [(.var 2)]), .ifs (.ors [(.cmp .ne (.var 4) (.ife (.var 3) (.slice (.var 2) none (some (.neg (.const (.int 6))))) (.var 2))), (.not (.blt (.isInst "str") [(.var 4)]))]) [.ret (.const (.bool false))] [], .ifs (.ors [(.not (.blt (.isInst "bool") [(.var 5)])), (.cmp .ne (.var 5) (.var 3))]) [.ret (.const (.bool false))] []],
    .ret (.const (.bool true))]⟩
theorem puts_right_wp {P : Prg} (h1 : P 1 = some F1_order_of) (h2 : P 2 = some F2_pays_again) (h8 : P 8 = some F8_law_puts) (h19 : P 19 = some F19_law_puts_right) {d : Nat} {S : Store} {b : Int} {Q : A → Store → Prop} (q : Q (.val (.bool true)) S) : wpR (callP P (d + 2) 19 [.val (.int b)] S) Q := by
  refine wp_callP h19 ⟨rfl, by decide⟩ ?_
  simp [F19_law_puts_right, List.replicate]
  refine ws_loop (PrI b S) ⟨rfl, _, _, _, _, _, rfl⟩ ?_ ?_
  · rintro i e env S' he ⟨rfl, o1, o2, o3, o4, o5, rfl⟩
    have hi : i < 12 := by have := (List.getElem?_eq_some_iff.mp he).1; rw [rangeD_len] at this; exact this
    have ei := rangeD_at 0 12 i hi
    rw [he] at ei
    cases ei
    simp [ws_forF]
    refine puts_wp h8 ?_
    have m0 : 0 ≤ (b + (i : Int)).fmod 12 := Int.fmod_nonneg_of_pos _ (by omega)
    have m1 : (b + (i : Int)).fmod 12 < 12 := Int.fmod_lt_of_pos _ (by omega)
    simp [m0]
    refine isO_at (by show _ < 12; omega) fun o ho _ => ?_
    obtain ⟨x, rfl, x1, x2⟩ := puts_ok ho
    simp [methD]
    refine order_wp h1 x1 ?_
    simp
    refine pays_wp h2 ?_
    cases he' : Txt.endswith x (Str.ofString " again") with
    | true =>
      rw [he', if_pos rfl] at x2
      simp [x2]
      exact ⟨by simpa using x1, rfl, _, _, _, _, _, rfl⟩
    | false =>
      rw [he', if_neg (by simp)] at x2
      simp [x2]
      exact ⟨rfl, _, _, _, _, _, rfl⟩
  · rintro env S' ⟨rfl, o1, o2, o3, o4, o5, rfl⟩
    simp
    exact q
end Tr


namespace Tr
open PySem L2
open PySem.Spec PyProof.Rows
/-- an option is fit to be compared and shown -/
theorem words_fit : ∀ {ys : List PyData}, (∀ y ∈ ys, WordOk y) → PyData.canLayAll0 ys = true ∧ PyData.depthAll ys = 0 ∧ PyData.leavesShortAll 13 ys = true ∧ PyData.weightAll ys ≤ 33 * ys.length ∧ PyData.showableAll ys = true ∧ PyData.hasDictAll ys = false
  | [], _ => ⟨rfl, rfl, rfl, Nat.le_refl 0, rfl, rfl⟩
  | y :: ys, h => by
    obtain ⟨s, rfl, s1, s2⟩ := h y List.mem_cons_self
    obtain ⟨h1, h2, h3, h4, h5, h6⟩ := words_fit fun z hz => h z (List.mem_cons_of_mem _ hz)
    have s3 : PyData.leavesShort 13 (.str s) = true := PyData.leavesShort_of_canLay0 13 _ (by rw [PyData.canLay0]; exact s1) (by rw [PyData.intsShort])
    have e : s.cps.size ≤ 32 := s2
    refine ⟨by rw [PyData.canLayAll0, PyData.canLay0, s1, h1]; rfl, by rw [PyData.depthAll, PyData.depth, h2]; rfl, by rw [PyData.leavesShortAll, s3, h3]; rfl, ?_, by rw [PyData.showableAll, PyData.showable, h5]; rfl, by rw [PyData.hasDictAll, PyData.hasDict, h6]; rfl⟩
    rw [PyData.weightAll, PyData.weight, List.length_cons]
    omega
theorem opt_fit {x : PyData} (h : OptOk x) : SeqAt.shaped x = true ∧ x.showable = true ∧ x.hasDict = false ∧ x.depth ≤ 60 ∧ x.shown.length ≤ sizeLine := by
  obtain ⟨ys, rfl, hl, hy⟩ := h
  obtain ⟨h1, h2, h3, h4, h5, h6⟩ := words_fit hy
  have hd : PyData.depth (.tuple ys) = 1 := by rw [PyData.depth, h2]
  refine ⟨?_, by rw [PyData.showable]; exact h5, by rw [PyData.hasDict]; exact h6, by omega, PyData.shown_fits (B := 13) (by decide) (by decide) (by rw [PyData.leavesShort]; exact h3) ?_⟩
  · unfold SeqAt.shaped
    rw [PyData.canLay0, h1, hd]
    rfl
  · rw [PyData.weight]
    exact Nat.le_trans h4 (Nat.le_trans (show 33 * ys.length ≤ 400 by omega) (by decide))
def WORDS : List PyData := strsL ["make", "read", "put", "cut", "take"]
theorem word_at {k : Nat} (h : k < 5) : ∃ w, WORDS[k]? = some w ∧ indexD WORDS w = some (.int k) := by
  have c : ∀ k : Nat, k < 5 → (match WORDS[k]? with
    | some w => (match indexD WORDS w with
      | some (.int j) => decide (j = (k : Int))
      | _ => false)
    | none => false) = true := by decide +kernel
  have c := c k h
  split at c
  · rename_i w e
    split at c
    · rename_i j ej
      exact ⟨w, e, by rw [ej, of_decide_eq_true c]⟩
    · cases c
  · cases c
theorem options_wp {P : Prg} (h3 : P 3 = some F3_options) {d k : Nat} {S : Store} {a b c : PyData} {ss rs zs : List PyData} {w o : PyData} {m : Int} (hm : 0 ≤ m) (hr : rs[m.toNat]? = some (.tuple zs)) (hw : indexD WORDS w = some (.int k)) (ho : zs[k]? = some o) {Q : A → Store → Prop} (q : Q (.val o) S) :
    wpR (callP P (d + 1) 3 [.val (.tuple [a, b, c, .tuple ss, .tuple rs]), .val (.int m), .val w] S) Q := by
  have hw' : methD .index (.tuple [.str "make", .str "read", .str "put", .str "cut", .str "take"]) [w] = some (.int k) := hw
  refine wp_callP h3 ⟨rfl, by decide⟩ ?_
  simp [F3_options, hm, hr, hw', ho]
  exact q
def RrI (x : PyData) (b : Int) (ws : List PyData) (n : Int) (S0 : Store) (i : Nat) (env : TEnv) (S : Store) : Prop := S = S0 ∧ ∃ o2 o5 o6 o7, env = [some (.val x), some (.val (.int b)), o2, some (.val (.list ws)), some (.val (.int n)), o5, o6, o7]
def F20_law_rows_right : Fn := ⟨2, 8, [], true, [
    .par 3 4 (.lst [(.const (.str "make")), (.const (.str "read")), (.const (.str "put")), (.const (.str "cut")), (.const (.str "take"))]) (.bin .mul (.const (.int 5)) (.blt .len [(.idx (.var 0) (.const (.int 4)))])),
    .fors [2] (.range1 (.var 4)) [.set 5 (.ife (.cmp .gt (.bin .mod (.blt .int [(.var 4)]) (.const (.int 3))) (.const (.int 0))) (.bin .mod (.blt .int [(.bin .add (.var 1) (.bin .mul (.const (.int 3)) (.var 2)))]) (.var 4)) (.bin .mod (.blt .int [(.bin .add (.var 1) (.var 2))]) (.var 4))), .par 6 7 (.idx (.idx (.idx (.var 0) (.const (.int 4))) (.bin .fdiv (.var 5) (.const (.int 5)))) (.bin .mod (.blt .int [(.var 5)]) (.const (.int 5)))) (.call 3 [(.var 0), (.bin .fdiv (.var 5) (.const (.int 5))), (.idx (.var 3) (.bin .mod (.blt .int [(.var 5)]) (.const (.int 5))))]), .ifs (.ors [(.cmp .ne (.var 7) (.var 6)), (.cmp .ne (.blt .repr [(.var 7)]) (.blt .repr [(.var 6)]))]) [.ret (.const (.bool false))] []],
    .ret (.const (.bool true))]⟩
theorem rows_right_wp {P : Prg} (h3 : P 3 = some F3_options) (h20 : P 20 = some F20_law_rows_right) {d : Nat} {S : Store} {x : PyData} {b : Int} (hx : TextOk x) {Q : A → Store → Prop} (q : Q (.val (.bool true)) S) : wpR (callP P (d + 2) 20 [.val x, .val (.int b)] S) Q := by
  obtain ⟨nm, pl, ss, rs, rfl, s1, s2, s3, r1, r2, r3⟩ := hx
  refine wp_callP h20 ⟨rfl, by decide⟩ ?_
  simp [F20_law_rows_right, List.replicate]
  refine ⟨by omega, ?_⟩
  refine ws_loop (RrI (.tuple [.str "sweeper", .str nm, .int pl, .tuple ss, .tuple rs]) b WORDS (5 * rs.length) S) ⟨rfl, _, _, _, _, rfl⟩ ?_ ?_
  · rintro i e env S' he ⟨rfl, o2, o5, o6, o7, rfl⟩
    have hi : i < (5 * (rs.length : Int)).toNat := by have := (List.getElem?_eq_some_iff.mp he).1; rw [rangeD_len] at this; exact this
    rw [rangeD_at _ _ _ hi] at he
    cases he
    have rest : ∀ pc : Int, 0 ≤ pc → pc < 5 * rs.length → wpS (execs (callP P (d + 1)) [.par 6 7 (.idx (.idx (.idx (.var 0) (.const (.int 4))) (.bin .fdiv (.var 5) (.const (.int 5)))) (.bin .mod (.blt .int [(.var 5)]) (.const (.int 5)))) (.call 3 [(.var 0), (.bin .fdiv (.var 5) (.const (.int 5))), (.idx (.var 3) (.bin .mod (.blt .int [(.var 5)]) (.const (.int 5))))]), .ifs (.ors [(.cmp .ne (.var 7) (.var 6)), (.cmp .ne (.blt .repr [(.var 7)]) (.blt .repr [(.var 6)]))]) [.ret (.const (.bool false))] []]
        [some (.val (.tuple [.str "sweeper", .str nm, .int pl, .tuple ss, .tuple rs])), some (.val (.int b)), some (.val (.int i)), some (.val (.list WORDS)), some (.val (.int (5 * rs.length))), some (.val (.int pc)), o6, o7] S')
        (RrI (.tuple [.str "sweeper", .str nm, .int pl, .tuple ss, .tuple rs]) b WORDS (5 * rs.length) S' (i + 1)) (fun _ => False) := fun pc p0 p1 => by
      have m0 : 0 ≤ pc.fmod 5 := Int.fmod_nonneg_of_pos _ (by omega)
      have m1 : pc.fmod 5 < 5 := Int.fmod_lt_of_pos _ (by omega)
      have e := Int.mul_fdiv_add_fmod pc 5
      have f0 : 0 ≤ pc.fdiv 5 := by omega
      simp [m0, f0]
      refine isO_at (by omega) fun r hr hr' => ?_
      obtain ⟨zs, rfl, z1, z2⟩ := r3 r hr
      simp [m0]
      refine isO_at (by omega) fun o ho ho' => ?_
      obtain ⟨w, w1, w2⟩ := word_at (k := (pc.fmod 5).toNat) (by omega)
      simp [w1]
      obtain ⟨t1, t2, t3, t4, t5⟩ := opt_fit (z2 o ho)
      refine options_wp h3 f0 hr' w2 ho' ?_
      simp
      refine same_wp' t1 ?_
      simp
      refine repr_wp t2 t3 t4 t5 (repr_wp t2 t3 t4 t5 ?_)
      simp
      exact ⟨rfl, _, _, _, _, rfl⟩
    rw [ws_forF]
    refine ⟨_, rfl, ?_⟩
    refine ws_cut (fun env S => S = S' ∧ ∃ pc : Int, 0 ≤ pc ∧ pc < 5 * rs.length ∧ env = [some (.val (.tuple [.str "sweeper", .str nm, .int pl, .tuple ss, .tuple rs])), some (.val (.int b)), some (.val (.int i)), some (.val (.list WORDS)), some (.val (.int (5 * rs.length))), some (.val (.int pc)), o6, o7]) ?_ ?_
    · have hn : rs ≠ [] := by intro z; rw [z] at r1; simp at r1
      simp [hn]
      refine ⟨fun _ => ⟨Int.fmod_nonneg_of_pos _ (by omega), Int.fmod_lt_of_pos _ (by omega)⟩, fun _ => ⟨Int.fmod_nonneg_of_pos _ (by omega), Int.fmod_lt_of_pos _ (by omega)⟩⟩
    · rintro env S ⟨rfl, pc, p0, p1, rfl⟩
      exact wpS_mono (rest pc p0 p1) (fun _ _ h => h) fun _ f => f.elim
  · rintro env S' ⟨rfl, o2, o5, o6, o7, rfl⟩
    simp
    exact q
end Tr


namespace K06
open PySem L2 Tr
open PySem.Spec PyProof.Rows
def topAt (i : Nat) : Stmt := (PySem.Challenge.pw_sweepwarrant_k06_options_told).main.body.getD i (.Pass ⟨0, 0, 0, 0⟩)
def F21_law : Fn := ⟨1, 6, [], false, [
    .box 1 (.call 4 [(.var 0)]),
    .set 2 (.call 14 [(.cell 1)]),
    .set 3 (.tup [(.const (.str "sweeper")), (.call 7 [(.cell 1)]), (.bin .add (.const (.int 1)) (.call 5 [(.cell 1), (.const (.int 2))])), (.var 2), (.call 16 [(.cell 1), (.var 2)])]),
    .set 4 (.call 17 [(.cell 1), (.var 3)]),
    .ifs (.ors [(.not (.call 18 [])), (.not (.call 19 [(.call 5 [(.cell 1), (.const (.int 12))])]))]) [.ret (.const (.bool false))] [],
    .fors [5] (.tup [(.var 3), (.var 4), (.var 3)]) [.ifs (.not (.call 20 [(.var 5), (.call 5 [(.cell 1), (.const (.int 20))])])) [.ret (.const (.bool false))] []],
    .ret (.ands [(.call 19 [(.call 5 [(.cell 1), (.const (.int 12))])]), (.call 18 [])])]⟩
def fl : List (Nat × Fn) := [(1, F1_order_of), (2, F2_pays_again), (3, F3_options), (4, F4_law_pool), (5, F5_law_take), (6, F6_law_pick), (7, F7_law_name), (8, F8_law_puts), (9, F9_law_menus), (10, F10_law_some), (11, F11_law_many), (12, F12_law_effects), (13, F13_law_stages_of), (14, F14_law_wide_stages), (15, F15_law_any_row), (16, F16_law_rows), (17, F17_law_near), (18, F18_law_menus_right), (19, F19_law_puts_right), (20, F20_law_rows_right), (21, F21_law)]
def P : Prg := fun i => fl.lookup i
def ds : List (Nat × DefT) := [
  (1, ⟨"order_of", defArgs (topAt 9), defBody (topAt 9), defScope (topAt 9), ["option"], ["option"]⟩),
  (2, ⟨"pays_again", defArgs (topAt 10), defBody (topAt 10), defScope (topAt 10), ["option"], ["option"]⟩),
  (3, ⟨"options", defArgs (topAt 12), defBody (topAt 12), defScope (topAt 12), ["text", "status", "word"], ["text", "status", "word"]⟩),
  (4, ⟨"_law_pool", defArgs (topAt 14), defBody (topAt 14), defScope (topAt 14), ["script"], ["script", "cells", "total", "cell"]⟩),
  (5, ⟨"_law_take", defArgs (topAt 15), defBody (topAt 15), defScope (topAt 15), ["pool", "many"], ["pool", "many", "first", "digit", "cell", "number"]⟩),
  (6, ⟨"_law_pick", defArgs (topAt 16), defBody (topAt 16), defScope (topAt 16), ["pool", "menu"], ["pool", "menu"]⟩),
  (7, ⟨"_law_name", defArgs (topAt 17), defBody (topAt 17), defScope (topAt 17), ["pool"], ["pool", "signs", "name", "turn"]⟩),
  (8, ⟨"_law_puts", defArgs (topAt 18), defBody (topAt 18), defScope (topAt 18), [], ["menu", "order"]⟩),
  (9, ⟨"_law_menus", defArgs (topAt 19), defBody (topAt 19), defScope (topAt 19), [], ["cuts"]⟩),
  (10, ⟨"_law_some", defArgs (topAt 20), defBody (topAt 20), defScope (topAt 20), ["pool", "menu"], ["pool", "menu", "first", "share", "at"]⟩),
  (11, ⟨"_law_many", defArgs (topAt 21), defBody (topAt 21), defScope (topAt 21), ["stages"], ["stages", "stage"]⟩),
  (12, ⟨"_law_effects", defArgs (topAt 22), defBody (topAt 22), defScope (topAt 22), ["pool", "gate"], ["pool", "gate", "menu", "share", "word"]⟩),
  (13, ⟨"_law_stages_of", defArgs (topAt 23), defBody (topAt 23), defScope (topAt 23), ["pool", "gates"], ["pool", "gates", "gate", "met", "told", "kept"]⟩),
  (14, ⟨"_law_wide_stages", defArgs (topAt 24), defBody (topAt 24), defScope (topAt 24), ["pool"], ["pool", "told", "turn", "by", "wide", "head", "tail", "gates", "at"]⟩),
  (15, ⟨"_law_any_row", defArgs (topAt 25), defBody (topAt 25), defScope (topAt 25), ["pool"], ["pool", "kind", "menus", "menu"]⟩),
  (16, ⟨"_law_rows", defArgs (topAt 26), defBody (topAt 26), defScope (topAt 26), ["pool", "stages"], ["pool", "stages", "same", "first", "status"]⟩),
  (17, ⟨"_law_near", defArgs (topAt 27), defBody (topAt 27), defScope (topAt 27), ["pool", "form"], ["pool", "form", "name", "places", "stages", "rows", "way", "at", "status", "word", "many", "stage", "told", "row"]⟩),
  (18, ⟨"_law_menus_right", defArgs (topAt 28), defBody (topAt 28), defScope (topAt 28), [], ["due", "told", "gates", "effects", "menu"]⟩),
  (19, ⟨"_law_puts_right", defArgs (topAt 29), defBody (topAt 29), defScope (topAt 29), ["by"], ["by", "turn", "option", "again", "told", "pays"]⟩),
  (20, ⟨"_law_rows_right", defArgs (topAt 30), defBody (topAt 30), defScope (topAt 30), ["text", "by"], ["text", "by", "turn", "words", "many", "place", "due", "told"]⟩),
  (21, ⟨"law", defArgs (topAt 31), defBody (topAt 31), defScope (topAt 31), ["script"], ["script", "pool", "stages", "first", "second", "text"]⟩)]
def cons : List (Str × PyData) := [("GATES", (.tuple [(.str "now"), (.str "stop"), (.str "meet"), (.str "look"), (.str "gather"), (.str "free")])), ("EFFECTS", (.tuple [(.str "turn"), (.str "wake"), (.str "clear"), (.str "hands")])), ("ROW_WORDS", (.tuple [(.str "make"), (.str "read"), (.str "put"), (.str "cut"), (.str "take")])), ("MAKES", (.tuple [(.str "bare"), (.str "due"), (.str "done")])), ("READS", (.tuple [(.str "plain"), (.str "shade")])), ("PUTS", (.tuple [(.str "plain"), (.str "plain again"), (.str "with always"), (.str "with always again"), (.str "with done"), (.str "with done again"), (.str "with looked"), (.str "with looked again"), (.str "ahead"), (.str "ahead again"), (.str "behind"), (.str "behind again")])), ("CUTS", (.tuple [(.str "plain"), (.str "with always"), (.str "with undone"), (.str "with unlooked"), (.str "ahead")])), ("TAKES", (.tuple [(.str "plain"), (.str "kept")]))]
def chk1 (p : Nat × DefT) : Bool := match P p.1 with
  | some f => chkFn ds cons P p.2 f
  | none => false
theorem chk_0 : (ds[0]?.map chk1) = some true := by decide +kernel
theorem chk_1 : (ds[1]?.map chk1) = some true := by decide +kernel
theorem chk_2 : (ds[2]?.map chk1) = some true := by decide +kernel
theorem chk_3 : (ds[3]?.map chk1) = some true := by decide +kernel
theorem chk_4 : (ds[4]?.map chk1) = some true := by decide +kernel
theorem chk_5 : (ds[5]?.map chk1) = some true := by decide +kernel
theorem chk_6 : (ds[6]?.map chk1) = some true := by decide +kernel
theorem chk_7 : (ds[7]?.map chk1) = some true := by decide +kernel
theorem chk_8 : (ds[8]?.map chk1) = some true := by decide +kernel
theorem chk_9 : (ds[9]?.map chk1) = some true := by decide +kernel
theorem chk_10 : (ds[10]?.map chk1) = some true := by decide +kernel
theorem chk_11 : (ds[11]?.map chk1) = some true := by decide +kernel
theorem chk_12 : (ds[12]?.map chk1) = some true := by decide +kernel
theorem chk_13 : (ds[13]?.map chk1) = some true := by decide +kernel
theorem chk_14 : (ds[14]?.map chk1) = some true := by decide +kernel
theorem chk_15 : (ds[15]?.map chk1) = some true := by decide +kernel
theorem chk_16 : (ds[16]?.map chk1) = some true := by decide +kernel
theorem chk_17 : (ds[17]?.map chk1) = some true := by decide +kernel
theorem chk_18 : (ds[18]?.map chk1) = some true := by decide +kernel
theorem chk_19 : (ds[19]?.map chk1) = some true := by decide +kernel
theorem chk_20 : (ds[20]?.map chk1) = some true := by decide +kernel
theorem ds_len : ds.length = 21 := rfl
theorem chk_at : ∀ j, j < 21 → (ds[j]?.map chk1) = some true
  | 0, _ => chk_0
  | 1, _ => chk_1
  | 2, _ => chk_2
  | 3, _ => chk_3
  | 4, _ => chk_4
  | 5, _ => chk_5
  | 6, _ => chk_6
  | 7, _ => chk_7
  | 8, _ => chk_8
  | 9, _ => chk_9
  | 10, _ => chk_10
  | 11, _ => chk_11
  | 12, _ => chk_12
  | 13, _ => chk_13
  | 14, _ => chk_14
  | 15, _ => chk_15
  | 16, _ => chk_16
  | 17, _ => chk_17
  | 18, _ => chk_18
  | 19, _ => chk_19
  | 20, _ => chk_20
  | j + 21, h => absurd h (by omega)
theorem hc : ∀ (i : Nat) (d : DefT), (i, d) ∈ ds → ∃ f, P i = some f ∧ chkFn ds cons P d f = true := by
  intro i d h
  obtain ⟨j, hj, e⟩ := List.mem_iff_getElem.mp h
  have c := chk_at j (by rw [ds_len] at hj; exact hj)
  rw [List.getElem?_eq_getElem hj, e] at c
  have c : chk1 (i, d) = true := Option.some.inj c
  unfold chk1 at c
  split at c
  · rename_i f ef
    exact ⟨f, ef, c⟩
  · cases c
end K06


namespace K06
open PySem L2 Tr
open PySem.Spec PyProof.Rows
def dd (x : Str) (i : Nat) : He.DefD := ⟨(x, none), x, x, defArgs (topAt i), defBody (topAt i), defScope (topAt i), [], []⟩
def fns : List He.DefD := [dd "order_of" 9, dd "pays_again" 10, dd "options" 12, dd "_law_pool" 14, dd "_law_take" 15, dd "_law_pick" 16, dd "_law_name" 17, dd "_law_puts" 18, dd "_law_menus" 19, dd "_law_some" 20, dd "_law_many" 21, dd "_law_effects" 22, dd "_law_stages_of" 23, dd "_law_wide_stages" 24, dd "_law_any_row" 25, dd "_law_rows" 26, dd "_law_near" 27, dd "_law_menus_right" 28, dd "_law_puts_right" 29, dd "_law_rows_right" 30, dd "law" 31]
def facts : List He.Fa := [.glo "order_of", .glo "pays_again", .glo "options", .glo "_law_pool", .glo "_law_take", .glo "_law_pick", .glo "_law_name", .glo "_law_puts", .glo "_law_menus", .glo "_law_some", .glo "_law_many", .glo "_law_effects", .glo "_law_stages_of", .glo "_law_wide_stages", .glo "_law_any_row", .glo "_law_rows", .glo "_law_near", .glo "_law_menus_right", .glo "_law_puts_right", .glo "_law_rows_right", .glo "law"] ++ bltNames.map .free
abbrev R : PySem.W.OpenRow := PySem.W.OpenLaw.row PySem.Challenge.rw_sweepwarrant_k06_options_told
abbrev hk : PySem.W.Hook := He.hookX 4 facts fns [] [] (consB cons)
def ob (s : PySem.W.SharedT) : He.AlX := He.obsX 4 facts fns [] [] (consB cons) (HandSHeadRun.getT s)
theorem ob_eq (s : PySem.W.SharedT) : ob s = hk.obs s.abs := He.obsX_eq (HandSHeadRun.getT_eq s)
def names : List Str := ["order_of", "pays_again", "options", "_law_pool", "_law_take", "_law_pick", "_law_name", "_law_puts", "_law_menus", "_law_some", "_law_many", "_law_effects", "_law_stages_of", "_law_wide_stages", "_law_any_row", "_law_rows", "_law_near", "_law_menus_right", "_law_puts_right", "_law_rows_right", "GATES", "EFFECTS", "ROW_WORDS", "MAKES", "READS", "PUTS", "CUTS", "TAKES"]
theorem run (w : World) : HandSHeadRun.RunEq R (PySem.W.view R.prog [31]) hk ob 4000 names w := by
  intro os
  kernel_rfl
theorem fok : FactsOk facts fns ds := by
  refine ⟨fun d h => ?_, fun x h => List.mem_append_right _ (List.mem_map_of_mem h), fun d h => ?_, ?_⟩
  · refine List.mem_append_left _ ?_
    have e : (ds.map fun d => He.Fa.glo d.2.x) = [He.Fa.glo "order_of", He.Fa.glo "pays_again", He.Fa.glo "options", He.Fa.glo "_law_pool", He.Fa.glo "_law_take", He.Fa.glo "_law_pick", He.Fa.glo "_law_name", He.Fa.glo "_law_puts", He.Fa.glo "_law_menus", He.Fa.glo "_law_some", He.Fa.glo "_law_many", He.Fa.glo "_law_effects", He.Fa.glo "_law_stages_of", He.Fa.glo "_law_wide_stages", He.Fa.glo "_law_any_row", He.Fa.glo "_law_rows", He.Fa.glo "_law_near", He.Fa.glo "_law_menus_right", He.Fa.glo "_law_puts_right", He.Fa.glo "_law_rows_right", He.Fa.glo "law"] := rfl
    exact e ▸ List.mem_map_of_mem (f := fun d : Nat × DefT => He.Fa.glo d.2.x) h
  · have e : (ds.map fun d => (⟨(d.2.x, none), d.2.x, d.2.x, d.2.params, d.2.body, d.2.scope, [], []⟩ : He.DefD)) = fns := rfl
    exact e ▸ List.mem_map_of_mem (f := fun d : Nat × DefT => (⟨(d.2.x, none), d.2.x, d.2.x, d.2.params, d.2.body, d.2.scope, [], []⟩ : He.DefD)) h
  · have all : ∀ (Q : Nat × DefT → Prop), Q (ds[0]'(by decide)) → Q (ds[1]'(by decide)) → Q (ds[2]'(by decide)) → Q (ds[3]'(by decide)) → Q (ds[4]'(by decide)) → Q (ds[5]'(by decide)) → Q (ds[6]'(by decide)) → Q (ds[7]'(by decide)) → Q (ds[8]'(by decide)) → Q (ds[9]'(by decide)) → Q (ds[10]'(by decide)) → Q (ds[11]'(by decide)) → Q (ds[12]'(by decide)) → Q (ds[13]'(by decide)) → Q (ds[14]'(by decide)) → Q (ds[15]'(by decide)) → Q (ds[16]'(by decide)) → Q (ds[17]'(by decide)) → Q (ds[18]'(by decide)) → Q (ds[19]'(by decide)) → Q (ds[20]'(by decide)) → ∀ d ∈ ds, Q d := by
      intro Q h0 h1 h2 h3 h4 h5 h6 h7 h8 h9 h10 h11 h12 h13 h14 h15 h16 h17 h18 h19 h20 d h
      obtain ⟨j, hj, e⟩ := List.mem_iff_getElem.mp h
      rw [← e]
      match j, hj with
      | 0, _ => exact h0
      | 1, _ => exact h1
      | 2, _ => exact h2
      | 3, _ => exact h3
      | 4, _ => exact h4
      | 5, _ => exact h5
      | 6, _ => exact h6
      | 7, _ => exact h7
      | 8, _ => exact h8
      | 9, _ => exact h9
      | 10, _ => exact h10
      | 11, _ => exact h11
      | 12, _ => exact h12
      | 13, _ => exact h13
      | 14, _ => exact h14
      | 15, _ => exact h15
      | 16, _ => exact h16
      | 17, _ => exact h17
      | 18, _ => exact h18
      | 19, _ => exact h19
      | 20, _ => exact h20
      | j + 21, hj => exact absurd (show j + 21 < 21 from hj) (by omega)
    refine all _ ?_ ?_ ?_ ?_ ?_ ?_ ?_ ?_ ?_ ?_ ?_ ?_ ?_ ?_ ?_ ?_ ?_ ?_ ?_ ?_ ?_
    · exact fun _ _ _ _ _ _ us hl => match us, hl with
      | [v0], _ => rfl
    · exact fun _ _ _ _ _ _ us hl => match us, hl with
      | [v0], _ => rfl
    · exact fun _ _ _ _ _ _ us hl => match us, hl with
      | [v0, v1, v2], _ => rfl
    · exact fun _ _ _ _ _ _ us hl => match us, hl with
      | [v0], _ => rfl
    · exact fun _ _ _ _ _ _ us hl => match us, hl with
      | [v0, v1], _ => rfl
    · exact fun _ _ _ _ _ _ us hl => match us, hl with
      | [v0, v1], _ => rfl
    · exact fun _ _ _ _ _ _ us hl => match us, hl with
      | [v0], _ => rfl
    · exact fun _ _ _ _ _ _ us hl => match us, hl with
      | [], _ => rfl
    · exact fun _ _ _ _ _ _ us hl => match us, hl with
      | [], _ => rfl
    · exact fun _ _ _ _ _ _ us hl => match us, hl with
      | [v0, v1], _ => rfl
    · exact fun _ _ _ _ _ _ us hl => match us, hl with
      | [v0], _ => rfl
    · exact fun _ _ _ _ _ _ us hl => match us, hl with
      | [v0, v1], _ => rfl
    · exact fun _ _ _ _ _ _ us hl => match us, hl with
      | [v0, v1], _ => rfl
    · exact fun _ _ _ _ _ _ us hl => match us, hl with
      | [v0], _ => rfl
    · exact fun _ _ _ _ _ _ us hl => match us, hl with
      | [v0], _ => rfl
    · exact fun _ _ _ _ _ _ us hl => match us, hl with
      | [v0, v1], _ => rfl
    · exact fun _ _ _ _ _ _ us hl => match us, hl with
      | [v0, v1], _ => rfl
    · exact fun _ _ _ _ _ _ us hl => match us, hl with
      | [], _ => rfl
    · exact fun _ _ _ _ _ _ us hl => match us, hl with
      | [v0], _ => rfl
    · exact fun _ _ _ _ _ _ us hl => match us, hl with
      | [v0, v1], _ => rfl
    · exact fun _ _ _ _ _ _ us hl => match us, hl with
      | [v0], _ => rfl
end K06
open PySem PySem.W
open PySem.Calls PyProof.Rows
theorem K06.lawHolds (val : ∀ ns : List Int, ns.length ≤ 63 → Tr.callP K06.P 7 21 [.val (.list (ns.map .int))] [] = .ok (.val (.bool true)) []) : PySem.Challenge.rw_sweepwarrant_k06_options_told.Holds := by
  w_on; o_law
  refine HandSHeadRun.head_any (r := OpenLaw.row PySem.Challenge.rw_sweepwarrant_k06_options_told) (q := view (OpenLaw.row PySem.Challenge.rw_sweepwarrant_k06_options_told).prog [31]) (H := K06.hk) (ob := K06.ob) (M := 4000) (loose := K06.names) (d := HandSHeadRun.topDef (OpenLaw.row PySem.Challenge.rw_sweepwarrant_k06_options_told).prog 31) (kwd := []) K06.ob_eq
    (by kernel_rfl) (fun s => by kernel_rfl) K06.run (by kernel_rfl) (by kernel_rfl) (by kernel_rfl) (by rfl) (by first | assumption | decide +kernel) (by decide +kernel) ⟨rfl, rfl, rfl, rfl, rfl, by decide +kernel⟩ ?hw ?hc
  case hw => w_witness2
  case hc =>
    refine Tr.walk_G (l := PySem.Challenge.rw_sweepwarrant_k06_options_told) (n := 63) (k := 7) (x := "script") rfl (by decide) (by kernel_rfl) ⟨rfl, by decide, by decide⟩ ?F
    intro w mg fa h Y G hmg0
    have hmg : mg ("law" : PySem.Str) = some (.ref fa) := by
      have e : (HandSHeadRun.topDef (OpenLaw.row PySem.Challenge.rw_sweepwarrant_k06_options_told).prog 31).name = ("law" : PySem.Str) := by kernel_rfl
      rw [← e]
      exact hmg0
    exact Tr.law_F (il := 21) (d := (K06.ds[20]'(by decide)).2) K06.fok K06.hc (List.mem_of_getElem? (i := 20) rfl) rfl val w mg fa h Y G hmg


namespace K06
open PySem L2 Tr
open PySem.Spec PyProof.Rows
def TurnI (x y : PyData) (i : Nat) (env : TEnv) (S : Store) : Prop := ∃ o5 p o0 o2, env = [o0, some (.ref 0), o2, some (.val x), some (.val y), o5] ∧ S = [p] ∧ PoolOk (1000 - i) p
theorem law_wp {d : Nat} {ns : List Int} : wpR (callP P (d + 5) 21 [.val (.list (ns.map .int))] []) fun a S => a = .val (.bool true) ∧ S = [] := by
  have h1 : P 1 = some F1_order_of := rfl
  have h2 : P 2 = some F2_pays_again := rfl
  have h3 : P 3 = some F3_options := rfl
  have h4 : P 4 = some F4_law_pool := rfl
  have h5 : P 5 = some F5_law_take := rfl
  have h6 : P 6 = some F6_law_pick := rfl
  have h7 : P 7 = some F7_law_name := rfl
  have h8 : P 8 = some F8_law_puts := rfl
  have h9 : P 9 = some F9_law_menus := rfl
  have h10 : P 10 = some F10_law_some := rfl
  have h11 : P 11 = some F11_law_many := rfl
  have h12 : P 12 = some F12_law_effects := rfl
  have h13 : P 13 = some F13_law_stages_of := rfl
  have h14 : P 14 = some F14_law_wide_stages := rfl
  have h15 : P 15 = some F15_law_any_row := rfl
  have h16 : P 16 = some F16_law_rows := rfl
  have h17 : P 17 = some F17_law_near := rfl
  have h18 : P 18 = some F18_law_menus_right := rfl
  have h19 : P 19 = some F19_law_puts_right := rfl
  have h20 : P 20 = some F20_law_rows_right := rfl
  refine wp_callP (show P 21 = some F21_law from rfl) ⟨rfl, by decide⟩ ?_
  simp [F21_law, List.replicate]
  refine pool_wp h4 fun p0 ok0 => ?_
  try simp
  refine wide_stages_wp (K := 900000) h5 h6 h12 h13 h14 (ok0.mono (by omega)) fun ss p1 ok1 s1 s2 s3 => ?_
  try simp
  refine name_wp (K := 800000) h5 h7 (ok1.mono (by omega)) fun nm p2 ok2 _ => ?_
  try simp
  refine take_wp (K := 700000) h5 (ok2.mono (by omega)) (by omega) fun pl p3 ok3 l0 l1 => ?_
  try simp
  refine rows_wp (K := 600000) h5 h6 h8 h9 h10 h11 h15 h16 s3 s2 (ok3.mono (by omega)) fun rs p4 ok4 r1 r2 r3 => ?_
  try simp
  have t1 : TextOk (.tuple [.str "sweeper", .str nm, .int (1 + pl), .tuple ss, .tuple rs]) := ⟨_, _, _, _, rfl, s1, s2, s3, r1, r2, r3⟩
  refine near_wp (K := 500000) h5 h7 h8 h9 h10 h12 h17 t1 (ok4.mono (by omega)) fun y p5 ok5 t2 => ?_
  try simp
  refine menus_right_wp h8 h9 h18 ?_
  try simp
  refine take_wp (K := 400000) h5 (ok5.mono (by omega)) (by omega) fun b p6 ok6 _ _ => ?_
  try simp
  refine puts_right_wp h1 h2 h8 h19 ?_
  try simp
  refine ws_loop (TurnI (.tuple [.str "sweeper", .str nm, .int (1 + pl), .tuple ss, .tuple rs]) y) ⟨_, _, _, _, rfl, rfl, ok6.mono (by omega)⟩ ?_ ?_
  · rintro i e env S he ⟨o5, p, o0, o2, rfl, rfl, ok⟩
    have hi := (List.getElem?_eq_some_iff.mp he).1
    simp at hi
    have te : TextOk e := by
      have := List.mem_of_getElem? he
      simp at this
      rcases this with h | h | h
      · rw [h]; exact t1
      · rw [h]; exact t2
      · rw [h]; exact t1
    simp [ws_forF]
    refine take_wp (K := 1000 - (i + 1)) h5 (ok.mono (by omega)) (by omega) fun b p7 ok7 _ _ => ?_
    try simp
    refine rows_right_wp h3 h20 te ?_
    try simp
    exact ⟨_, _, _, _, rfl, rfl, ok7⟩
  · rintro env S ⟨o5, p, o0, o2, rfl, rfl, ok⟩
    try simp
    refine take_wp (K := 10) h5 (ok.mono (by simp)) (by omega) fun b p7 ok7 _ _ => ?_
    try simp
    refine puts_right_wp h1 h2 h8 h19 ?_
    try simp
    refine menus_right_wp h8 h9 h18 ?_
    try simp
theorem val (ns : List Int) : callP P 7 21 [.val (.list (ns.map .int))] [] = .ok (.val (.bool true)) [] := by
  obtain ⟨a, S, e, rfl, rfl⟩ := wpR_ex (law_wp (d := 2) (ns := ns))
  exact e
end K06


theorem PySem.Challenge.cw_sweepwarrant_k06_options_told_holds : PySem.Challenge.rw_sweepwarrant_k06_options_told.Holds :=
  K06.lawHolds fun ns h => K06.val ns
