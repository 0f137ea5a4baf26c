import PyProof.Rows.All
import HandS.Base
import PyProof.ReprReads
import HandS.Call
import HandS.List
import HandS.Comp
import KE.KeyNested
import HandS.Exc
import KE.KTab
import HandS.ExcField
import HandS.ExcIs
import KE.KExcIs
import KE.KEqNest
import HandS.ListEq
import PyProof.NeKinds
import HandS.TupAny
import PyProof.Rows.ReprR
import PyProof.CallFns
import PyProof.DictTruth
import HandS.Dict
import HandS.Iter
import KE.KExcSuper
import HandS.Nested
import HandS.ExcInit
import HandS.RaiseMore
import HandS.ExcValue
import HandS.MakeKwOnly
import HandS.Ends
import HandS.EndBits
import HandS.Words
import HandS.WordsExc
import HandS.Defaults
import HandS.HeadHook2
import HandS.Head2
import Wide.FinOn
import PySem.Challenge.RW_leftproducts_k00_errors_of_all_parts
set_option Elab.async false
set_option linter.all false
set_option autoImplicit false
set_option maxRecDepth 100000
/-! Ev1: data as trees, owned data, stripped programs, their evaluation. -/
namespace Ev
open PySem

inductive D where
  | non | bl (b : Bool) | int (i : Int) | str (s : Str)
  | tup (xs : List D) | lst (xs : List D) | dct (kvs : List (D × D))
  | ins (c : String) (fs : List (String × D)) | exn (c : String) (fs : List (String × D))
  deriving Inhabited

/-- a value that somebody may own: fr is shared for ever; the others are owned at this node -/
inductive OV where
  | fr (d : D) | lst (xs : List OV) | dct (kvs : List (D × OV)) | ins (c : String) (fs : List (String × OV))
  deriving Inhabited

mutual
def OV.view : OV → D
  | .fr d => d
  | .lst xs => .lst (views xs)
  | .dct kvs => .dct (viewsK kvs)
  | .ins c fs => .ins c (viewsF fs)
def views : List OV → List D
  | [] => []
  | x :: xs => x.view :: views xs
def viewsK : List (D × OV) → List (D × D)
  | [] => []
  | (k, x) :: xs => (k, x.view) :: viewsK xs
def viewsF : List (String × OV) → List (String × D)
  | [] => []
  | (k, x) :: xs => (k, x.view) :: viewsF xs
end

/-! ### keys -/
mutual
/-- how deep tuples stand in one another -/
def tupDepth : D → Nat
  | .tup xs => tupDepths xs + 1
  | _ => 0
def tupDepths : List D → Nat
  | [] => 0
  | x :: xs => max (tupDepth x) (tupDepths xs)
end
mutual
def keyK : D → Bool
  | .non => true | .bl _ => true | .int _ => true | .str _ => true
  | .tup xs => keyKs xs
  | _ => false
def keyKs : List D → Bool
  | [] => true
  | x :: xs => keyK x && keyKs xs
end
def keyOk (d : D) : Bool := keyK d && decide (tupDepth d ≤ 8)
def keysOk (ds : List D) : Bool := ds.all keyOk
mutual
/-- == of keys -/
def keq : D → D → Bool
  | .non, .non => true
  | .bl a, .bl b => a == b
  | .bl a, .int j => (if a then 1 else 0) == j
  | .int i, .bl b => i == (if b then 1 else 0)
  | .int i, .int j => i == j
  | .str x, .str y => decide (x = y)
  | .tup xs, .tup ys => keqs xs ys
  | _, _ => false
def keqs : List D → List D → Bool
  | [], [] => true
  | x :: xs, y :: ys => keq x y && keqs xs ys
  | _, _ => false
end
section
variable {α : Type}
def dget (k : D) : List (D × α) → Option α
  | [] => none
  | (k', v) :: r => if keq k' k then some v else dget k r
def dput (k : D) (v : α) : List (D × α) → List (D × α)
  | [] => [(k, v)]
  | (k', v') :: r => if keq k' k then (k', v) :: r else (k', v') :: dput k v r
def ddel (k : D) : List (D × α) → List (D × α)
  | [] => []
  | (k', v') :: r => if keq k' k then r else (k', v') :: ddel k r
def fget (f : String) : List (String × α) → Option α
  | [] => none
  | (k', v) :: r => if k' = f then some v else fget f r
def fput (f : String) (v : α) : List (String × α) → List (String × α)
  | [] => [(f, v)]
  | (k', v') :: r => if k' = f then (k', v) :: r else (k', v') :: fput f v r
end

/-! ### == and < of data -/
mutual
/-- == , so deep at most; none: not told here -/
def eqD : Nat → D → D → Option Bool
  | _, .non, .non => some true
  | _, .non, .bl _ => some false
  | _, .non, .int _ => some false
  | _, .non, .str _ => some false
  | _, .non, .tup _ => some false
  | _, .non, .lst _ => some false
  | _, .bl _, .non => some false
  | _, .bl a, .bl b => some (a == b)
  | _, .bl a, .int j => some ((if a then 1 else 0) == j)
  | _, .bl _, .str _ => some false
  | _, .bl _, .tup _ => some false
  | _, .bl _, .lst _ => some false
  | _, .int _, .non => some false
  | _, .int i, .bl b => some (i == (if b then 1 else 0))
  | _, .int i, .int j => some (i == j)
  | _, .int _, .str _ => some false
  | _, .int _, .tup _ => some false
  | _, .int _, .lst _ => some false
  | _, .str _, .non => some false
  | _, .str _, .bl _ => some false
  | _, .str _, .int _ => some false
  | _, .str x, .str y => some (x == y)
  | _, .str _, .tup _ => some false
  | _, .str _, .lst _ => some false
  | _, .tup _, .non => some false
  | _, .tup _, .bl _ => some false
  | _, .tup _, .int _ => some false
  | _, .tup _, .str _ => some false
  | _, .tup _, .lst _ => some false
  | n + 1, .tup xs, .tup ys => eqDs n xs ys
  | _, .lst _, .non => some false
  | _, .lst _, .bl _ => some false
  | _, .lst _, .int _ => some false
  | _, .lst _, .str _ => some false
  | _, .lst _, .tup _ => some false
  | n + 1, .lst xs, .lst ys => if xs.length = ys.length then eqDs n xs ys else some false
  | n + 1, .dct xs, .dct ys => if xs.length = ys.length then eqDk n xs ys else some false
  | _, _, _ => none
def eqDs : Nat → List D → List D → Option Bool
  | _, [], [] => some true
  | n, x :: xs, y :: ys => match eqD n x y, eqDs n xs ys with
    | some a, some b => some (a && b)
    | _, _ => none
  | _, _, _ => some false
def eqDk : Nat → List (D × D) → List (D × D) → Option Bool
  | _, [], _ => some true
  | n, (k, x) :: xs, ys => match dget k ys with
    | none => some false
    | some y => match eqD n x y, eqDk n xs ys with
      | some a, some b => some (a && b)
      | _, _ => none
end
/-- how deep == goes -/
abbrev eqN : Nat := 30
mutual
def ltD : D → D → Option Bool
  | .int i, .int j => some (decide (i < j))
  | .str x, .str y => some (decide (x.cps.toList < y.cps.toList))
  | .tup xs, .tup ys => ltDs xs ys
  | _, _ => none
def ltDs : List D → List D → Option Bool
  | [], [] => some false
  | [], _ :: _ => some true
  | _ :: _, [] => some false
  | x :: xs, y :: ys => match eqD eqN x y with
    | none => none
    | some true => ltDs xs ys
    | some false => ltD x y
end
def insD {α : Type} (lt : α → α → Bool) (x : α) : List α → List α
  | [] => [x]
  | y :: ys => if lt y x then y :: insD lt x ys else x :: y :: ys
/-- a stable sort -/
def sortBy {α : Type} (lt : α → α → Bool) : List α → List α
  | [] => []
  | x :: xs => insD lt x (sortBy lt xs)
def ltB (a b : D) : Bool := (ltD a b).getD false
/-- what may be sorted: ints, or texts, or tuples of such of the same forms -/
def sorts (xs : List D) : Bool := xs.all fun x => xs.all fun y => (ltD x y).isSome

/-! ### truth -/
def truth : OV → Option Bool
  | .fr .non => some false
  | .fr (.bl b) => some b
  | .fr (.int i) => some (i != 0)
  | .fr (.str s) => if s.length ≤ 1000000 then some (s.length != 0) else none
  | .fr (.tup xs) => some (!xs.isEmpty)
  | .fr (.lst xs) => some (!xs.isEmpty)
  | .fr (.dct xs) => some (!xs.isEmpty)
  | .lst xs => some (!xs.isEmpty)
  | .dct xs => some (!xs.isEmpty)
  | _ => none

/-! ### reading parts -/
def frs : List OV → Option (List D)
  | [] => some []
  | .fr d :: r => (frs r).map (d :: ·)
  | _ :: _ => none
def frsK : List (D × OV) → Option (List (D × D))
  | [] => some []
  | (k, .fr d) :: r => (frsK r).map ((k, d) :: ·)
  | _ :: _ => none
/-- the items of a list or tuple, all shared -/
def items : OV → Option (List D)
  | .fr (.lst xs) => some xs
  | .fr (.tup xs) => some xs
  | .lst xs => frs xs
  | _ => none
def entries : OV → Option (List (D × D))
  | .fr (.dct kvs) => some kvs
  | .dct kvs => frsK kvs
  | _ => none
def seqIx (i : Int) (n : Nat) : Option Nat :=
  if 0 ≤ i then (if i.toNat < n then some i.toNat else none) else (if (-i).toNat ≤ n then some (n - (-i).toNat) else none)
/-- x[k] -/
def child (o : OV) (k : D) : Option OV := match o, k with
  | .fr (.lst xs), .int i => (seqIx i xs.length).bind fun j => xs[j]?.map .fr
  | .fr (.tup xs), .int i => (seqIx i xs.length).bind fun j => xs[j]?.map .fr
  | .fr (.dct kvs), k => if keyOk k then (dget k kvs).map .fr else none
  | .lst xs, .int i => (seqIx i xs.length).bind fun j => xs[j]?
  | .dct kvs, k => if keyOk k then dget k kvs else none
  | _, _ => none
def fld (o : OV) (f : String) : Option OV := match o with
  | .fr (.ins _ fs) => (fget f fs).map .fr
  | .fr (.exn _ fs) => (fget f fs).map .fr
  | .ins _ fs => fget f fs
  | _ => none
/-- a part put anew -/
def setChild (o : OV) (k : D) (v : OV) : Option OV := match o, k with
  | .lst xs, .int i => (seqIx i xs.length).map fun j => .lst (xs.set j v)
  | .dct kvs, k => if keyOk k && decide (kvs.length < 1000000) then some (.dct (dput k v kvs)) else none
  | _, _ => none
def setFld (o : OV) (f : String) (v : OV) : Option OV := match o with
  | .ins c fs => if fs.length < 100 then some (.ins c (fput f v fs)) else none
  | _ => none

/-! ### the stripped programs -/
inductive Op where
  | tup | lst | dct
  | add | sub | mul | mod | fdiv | pow | neg
  | eq | ne | lt | le | gt | ge | isin | notin | isN | notN
  | slice (lo hi : Bool)
  | len | int | abs | repr | str | list | tuple | dict | sorted | sum | all | any | min2 | max2 | min1 | max1
  | listRange1 | listRange2 | listItems | setlen | sortedset
  | get1 | get2
  | isty (t : String)
  deriving DecidableEq
inductive IK where
  | seq | range1 | range2 | enum | zip | items
  deriving DecidableEq
inductive T where
  | nm (i : Nat) | tup (ts : List T)
inductive MOp where
  | append | pop0 | popAt | popLast | extend | clear
  deriving DecidableEq
inductive E where
  | var (i : Nat)
  | mv (i : Nat)                         -- a name's value, taken out
  | cst (d : D)
  | glo (x : String) (d : D)
  | item (b k : E)
  | attr (b : E) (f : String)
  | op (o : Op) (es : List E)
  | star (es : List (Bool × E))
  | and (a b : E) | or (a b : E) | not (a : E) | ifx (c a b : E)
  | chain (o1 o2 : Op) (a b c : E)
  | isc (e : E) (cs : List String)
  | call (f : String) (es : List E)
  | callk (f : String) (es : List E) (ks : List (String × E))
  | meth (m : String) (o : E) (es : List E)
  | comp (elt : E) (t : T) (k : IK) (es : List E) (cond : List E)
  | comp2 (elt : E) (t1 : T) (k1 : IK) (es1 : List E) (cond1 : List E) (t2 : T) (k2 : IK) (es2 : List E) (cond2 : List E)
  | mut (m : MOp) (p : E) (es : List E)
  | thunk (f : String) (e : E)
inductive S where
  | pass
  | asg (i : Nat) (e : E)
  | asgT (ts : List Nat) (e : E)
  | par (is : List Nat) (es : List E)
  | setI (p k e : E)
  | setF (p : E) (f : String) (e : E)
  | expr (e : E)
  | ife (c : E) (a b : List S)
  | fore (t : T) (k : IK) (es : List E) (b : List S)
  | whil (c : E) (b : List S)
  | ret (e : E)
  | retN
  | raise (e : E)

/-! ### evaluation -/
abbrev Env := List (Option OV)
inductive R (α : Type) where
  | ok (a : α) (env : Env) | exc (x : D) (env : Env) | bad
inductive Rc where
  | ok (r : OV) (outs : List OV) | exc (x : D) (outs : List OV) | bad
inductive Ro where
  | next (env : Env) | ret (r : OV) (env : Env) | exc (x : D) (env : Env) | bad
def R.bind {α β : Type} (r : R α) (f : α → Env → R β) : R β := match r with
  | .ok a env => f a env
  | .exc x env => .exc x env
  | .bad => .bad
def R.of {α : Type} (o : Option α) (env : Env) : R α := match o with
  | some a => .ok a env
  | none => .bad
def Ro.bind (r : Ro) (f : Env → Ro) : Ro := match r with
  | .next env => f env
  | .ret v env => .ret v env
  | .exc x env => .exc x env
  | .bad => .bad
def R.thn {α : Type} (r : R α) (f : α → Env → Ro) : Ro := match r with
  | .ok a env => f a env
  | .exc x env => .exc x env
  | .bad => .bad

/-- the value at a slot -/
def Env.at (env : Env) (i : Nat) : Option OV := (env[i]?).join

/-- a path: a name, and parts of it -/
def isPath : E → Bool
  | .var _ => true
  | .item b _ => isPath b
  | .attr b _ => isPath b
  | _ => false
/-- the key in a path -/
def keyOf (env : Env) : E → Option D
  | .cst d => some d
  | .var i => match env.at i with
    | some (.fr d) => some d
    | _ => none
  | _ => none
/-- what stands at a path -/
def pk (env : Env) : E → Option OV
  | .var i => env.at i
  | .item b k => match pk env b, keyOf env k with
    | some o, some d => child o d
    | _, _ => none
  | .attr b f => match pk env b with
    | some o => fld o f
    | none => none
  | _ => none
/-- what stands at a path, put anew -/
def pput (env : Env) (v : OV) : E → Option Env
  | .var i => match env.at i with
    | some _ => some (env.set i (some v))
    | none => none
  | .item b k => match pk env b, keyOf env k with
    | some o, some d => match child o d, setChild o d v with
      | some _, some o' => pput env o' b
      | _, _ => none
    | _, _ => none
  | .attr b f => match pk env b with
    | some o => match fld o f, setFld o f v with
      | some _, some o' => pput env o' b
      | _, _ => none
    | none => none
  | _ => none
/-- a path's value, to be shared from now on; n: nothing may change -/
def share (n : Bool) (env : Env) (e : E) : R OV := match pk env e with
  | some (.fr d) => .ok (.fr d) env
  | some o => if n then .bad else match pput env (.fr o.view) e with
    | some env' => .ok (.fr o.view) env'
    | none => .bad
  | none => .bad
def owned : OV → Bool
  | .fr _ => false
  | _ => true
end Ev
/-! Ev2: the operators on data, the evaluation of stripped programs. -/
namespace Ev
open PySem

mutual
def toPy : D → Option PyData
  | .non => some .none
  | .bl b => some (.bool b)
  | .int i => some (.int i)
  | .str s => some (.str s)
  | .tup xs => (toPys xs).map .tuple
  | .lst xs => (toPys xs).map .list
  | .dct kvs => (toPyk kvs).map .dict
  | _ => none
def toPys : List D → Option (List PyData)
  | [] => some []
  | x :: xs => match toPy x, toPys xs with
    | some a, some b => some (a :: b)
    | _, _ => none
def toPyk : List (D × D) → Option (List (PyData × PyData))
  | [] => some []
  | (k, x) :: xs => match toPy k, toPy x, toPyk xs with
    | some k', some a, some b => some ((k', a) :: b)
    | _, _, _ => none
end
/-- a bound of a text's length -/
def bnd : Nat := 1000000
def reprD (d : D) : Option Str := match toPy d with
  | some p => if p.showable && decide (p.depth ≤ 40) && decide (p.shown.length ≤ sizeLine) then some p.shown else none
  | none => none

def mulOk (i j : Int) : Bool := decide (i.natAbs < 2 ^ 64) || decide (j.natAbs < 2 ^ 64)
def intsOf : List D → Option (List Int)
  | [] => some []
  | .int i :: r => (intsOf r).map (i :: ·)
  | _ => none
def blsOf : List D → Option (List Bool)
  | [] => some []
  | .bl i :: r => (blsOf r).map (i :: ·)
  | _ => none
def pairsOf : List D → Option (List (D × D))
  | [] => some []
  | .tup [k, v] :: r => if keyOk k then (pairsOf r).map ((k, v) :: ·) else none
  | _ => none
def mergeD (kvs : List (D × D)) (l : List (D × D)) : List (D × D) := l.foldl (fun acc p => dput p.1 p.2 acc) kvs
def frL (xs : List D) : OV := .lst (xs.map .fr)
def frD (kvs : List (D × D)) : OV := .dct (kvs.map fun p => (p.1, .fr p.2))
def dedup : List D → List D
  | [] => []
  | x :: xs => x :: (dedup xs).filter fun y => !keq x y
def rangeD (lo : Int) (n : Nat) : List D := (List.range n).map fun (i : Nat) => D.int (lo + (i : Int))
/-- bounds of a slice, as Python cuts them -/
def cutIx (n : Nat) (i : Int) : Nat := if 0 ≤ i then min i.toNat n else n - (-i).toNat
def cutD {α : Type} (lo hi : Option Int) (xs : List α) : List α :=
  let a := match lo with | none => 0 | some i => cutIx xs.length i
  let b := match hi with | none => xs.length | some i => cutIx xs.length i
  (xs.take b).drop a
def sliceArgs (lo hi : Bool) (es : List OV) : Option (Option Int × Option Int) := match lo, hi, es with
  | false, false, [] => some (none, none)
  | true, false, [.fr (.int i)] => some (some i, none)
  | false, true, [.fr (.int j)] => some (none, some j)
  | true, true, [.fr (.int i), .fr (.int j)] => some (some i, some j)
  | _, _, _ => none
def sizeB (n : Nat) : Bool := decide (n ≤ 1000000)
def numOk (i : Int) : Bool := decide (-(2 ^ 62) ≤ i) && decide (i < 2 ^ 62)
def tyName : D → Option String
  | .non => some "NoneType" | .bl _ => some "bool" | .int _ => some "int" | .str _ => some "str"
  | .tup _ => some "tuple" | .lst _ => some "list" | .dct _ => some "dict"
  | _ => none
def isTy (t : String) (d : D) : Bool := match d with
  | .non => t == "NoneType"
  | .bl _ => t == "bool" || t == "int"
  | .int _ => t == "int"
  | .str _ => t == "str"
  | .tup _ => t == "tuple"
  | .lst _ => t == "list"
  | .dct _ => t == "dict"
  | _ => false
def lenOV : OV → Option Nat
  | .fr (.lst xs) => some xs.length
  | .fr (.tup xs) => some xs.length
  | .fr (.dct xs) => some xs.length
  | .fr (.str s) => if sizeB s.length then some s.length else none
  | .lst xs => some xs.length
  | .dct xs => some xs.length
  | _ => none
/-- it is a list -/
def isLst : OV → Bool
  | .fr (.lst _) => true
  | .lst _ => true
  | _ => false
/-- what is walked by for, by the kind -/
def wSeq : List OV → Option (List D)
  | [o] => items o
  | _ => none
def wRange1 : List OV → Option (List D)
  | [.fr (.int n)] => if numOk n then some (rangeD 0 n.toNat) else none
  | _ => none
def wRange2 : List OV → Option (List D)
  | [.fr (.int a), .fr (.int b)] => if numOk a && numOk b then some (rangeD a (b - a).toNat) else none
  | _ => none
def wEnum : List OV → Option (List D)
  | [o] => if isLst o = false then none else (items o).map fun xs => (xs.zipIdx).map fun p => .tup [.int p.2, p.1]
  | _ => none
def wZip : List OV → Option (List D)
  | [a, b] => match items a, items b with
    | some xs, some ys => some ((xs.zip ys).map fun p => .tup [p.1, p.2])
    | _, _ => none
  | _ => none
def wItems : List OV → Option (List D)
  | [o] => (entries o).map fun kvs => kvs.map fun p => .tup [p.1, p.2]
  | _ => none
def walkOf (k : IK) (es : List OV) : Option (List D) := match k with
  | .seq => wSeq es
  | .range1 => wRange1 es
  | .range2 => wRange2 es
  | .enum => wEnum es
  | .zip => wZip es
  | .items => wItems es

/-! the operators, one by one -/
def oInt1 (f : Int → OV) : List OV → Option OV
  | [.fr (.int i)] => some (f i)
  | _ => none
def oInt2 (ok : Int → Int → Bool) (f : Int → Int → OV) : List OV → Option OV
  | [.fr (.int i), .fr (.int j)] => if ok i j then some (f i j) else none
  | _ => none
def oTup (es : List OV) : Option OV := match frs es with
  | some ds => if sizeB ds.length then some (.fr (.tup ds)) else none
  | none => none
def oLst (es : List OV) : Option OV := if sizeB es.length then some (.lst es) else none
def oAdd : List OV → Option OV
  | [.fr (.int i), .fr (.int j)] => some (.fr (.int (i + j)))
  | [.fr (.str x), .fr (.str y)] => if sizeB (x.length + y.length) then some (.fr (.str (x ++ y))) else none
  | [.fr (.tup xs), .fr (.tup ys)] => if sizeB (xs.length + ys.length) then some (.fr (.tup (xs ++ ys))) else none
  | [.fr (.lst xs), .fr (.lst ys)] => if sizeB (xs.length + ys.length) then some (frL (xs ++ ys)) else none
  | [.fr (.lst xs), .lst os] => (frs os).bind fun ys => if sizeB (xs.length + ys.length) then some (frL (xs ++ ys)) else none
  | [.lst os, .fr (.lst ys)] => (frs os).bind fun xs => if sizeB (xs.length + ys.length) then some (frL (xs ++ ys)) else none
  | [.lst os, .lst ps] => (frs os).bind fun xs => (frs ps).bind fun ys => if sizeB (xs.length + ys.length) then some (frL (xs ++ ys)) else none
  | _ => none
def oEq (neg : Bool) : List OV → Option OV
  | [a, b] => (eqD eqN a.view b.view).map fun r => .fr (.bl (r != neg))
  | _ => none
def oLt (gt : Bool) : List OV → Option OV
  | [.fr a, .fr b] => (if gt then ltD b a else ltD a b).map fun r => .fr (.bl r)
  | _ => none
def isNon : OV → Bool
  | .fr .non => true
  | _ => false
def oIsN (neg : Bool) : List OV → Option OV
  | [o] => some (.fr (.bl (isNon o != neg)))
  | _ => none
def oLen : List OV → Option OV
  | [o] => match lenOV o with
    | some n => some (.fr (.int ((n : Nat) : Int)))
    | none => none
  | _ => none
def oRepr : List OV → Option OV
  | [o] => (reprD o.view).map fun s => .fr (.str s)
  | _ => none
def oList : List OV → Option OV
  | [.fr (.dct kvs)] => some (frL (kvs.map (·.1)))
  | [o] => (items o).map frL
  | _ => none
def oTuple : List OV → Option OV
  | [o] => (items o).map fun xs => .fr (.tup xs)
  | _ => none
def oDict : List OV → Option OV
  | [.fr (.dct kvs)] => some (frD kvs)
  | [o] => (items o).bind fun xs => (pairsOf xs).bind fun ps => if sizeB ps.length then some (frD (mergeD [] ps)) else none
  | _ => none
/-- what is sorted: the items of a list, the keys of a dict -/
def toSort : OV → Option (List D)
  | .fr (.dct kvs) => some (kvs.map (·.1))
  | o => items o
def oSorted : List OV → Option OV
  | [o] => (toSort o).bind fun xs => if sorts xs then some (frL (sortBy ltB xs)) else none
  | _ => none
def oSum : List OV → Option OV
  | [o] => if isLst o = false then none else (items o).bind fun xs => (intsOf xs).map fun ns => .fr (.int ns.sum)
  | _ => none
def oAll (any : Bool) : List OV → Option OV
  | [o] => if isLst o = false then none else (items o).bind fun xs => (blsOf xs).map fun bs => .fr (.bl (if any then bs.any id else bs.all id))
  | _ => none
def oItems : List OV → Option OV
  | [o] => (entries o).map fun kvs => frL (kvs.map fun p => .tup [p.1, p.2])
  | _ => none
def oSetlen : List OV → Option OV
  | [o] => (items o).bind fun xs => if keysOk xs then some (.fr (.int (dedup xs).length)) else none
  | _ => none
def oSortedset : List OV → Option OV
  | [o] => (items o).bind fun xs => if keysOk xs && sorts xs then some (frL (sortBy ltB (dedup xs))) else none
  | _ => none
/-- what d.get finds -/
def getOf (o : OV) (k : D) : Option (Option D) := if keyOk k then match o with
  | .fr (.dct kvs) => some (dget k kvs)
  | .dct kvs => match dget k kvs with
    | some (.fr v) => some (some v)
    | some _ => none
    | none => some none
  | _ => none else none
def oGet1 : List OV → Option OV
  | [o, .fr k] => (getOf o k).map fun r => .fr (r.getD .non)
  | _ => none
def oGet2 : List OV → Option OV
  | [o, .fr k, x] => (getOf o k).map fun r => .fr (r.getD x.view)
  | _ => none
def inDict (o : OV) (k : D) : Option Bool := if keyOk k then match o with
  | .fr (.dct kvs) => some (dget k kvs).isSome
  | .dct kvs => some (dget k kvs).isSome
  | _ => none else none
def isDct : OV → Bool
  | .fr (.dct _) => true
  | .dct _ => true
  | _ => false
mutual
/-- no dict in it -/
def noD : D → Bool
  | .non => true | .bl _ => true | .int _ => true | .str _ => true
  | .tup xs => noDs xs
  | .lst xs => noDs xs
  | _ => false
def noDs : List D → Bool
  | [] => true
  | x :: xs => noD x && noDs xs
end
def isIn (x : D) (o : OV) : Option Bool := if isDct o then inDict o x else (items o).bind fun xs => if xs.all fun y => noD y && (eqD eqN y x).isSome then some (xs.any fun y => (eqD eqN y x).getD false) else none
def oIn (neg : Bool) : List OV → Option OV
  | [.fr x, o] => (isIn x o).map fun b => .fr (.bl (b != neg))
  | _ => none
def oSlice (lo hi : Bool) : List OV → Option OV
  | .fr (.tup xs) :: es => (sliceArgs lo hi es).map fun p => .fr (.tup (cutD p.1 p.2 xs))
  | o :: es => (sliceArgs lo hi es).bind fun p => (items o).map fun xs => frL (cutD p.1 p.2 xs)
  | _ => none
def opR (o : Op) (es : List OV) : Option OV := match o with
  | .tup => oTup es
  | .lst => oLst es
  | .dct => none
  | .add => oAdd es
  | .sub => oInt2 (fun _ _ => true) (fun i j => .fr (.int (i - j))) es
  | .mul => oInt2 mulOk (fun i j => .fr (.int (i * j))) es
  | .mod => oInt2 (fun _ j => decide (j ≠ 0)) (fun i j => .fr (.int (i.fmod j))) es
  | .fdiv => oInt2 (fun _ j => decide (j ≠ 0 ∧ j.natAbs < 1073741824)) (fun i j => .fr (.int (i.fdiv j))) es
  | .pow => oInt2 (fun i j => decide (0 ≤ j ∧ j ≤ 1000 ∧ i.natAbs < 2 ^ 64)) (fun i j => .fr (.int (i ^ j.toNat))) es
  | .neg => oInt1 (fun i => .fr (.int (-i))) es
  | .eq => oEq false es
  | .ne => oEq true es
  | .lt => oLt false es
  | .gt => oLt true es
  | .le => oInt2 (fun _ _ => true) (fun i j => .fr (.bl (decide (i ≤ j)))) es
  | .ge => oInt2 (fun _ _ => true) (fun i j => .fr (.bl (decide (j ≤ i)))) es
  | .isN => oIsN false es
  | .notN => oIsN true es
  | .len => oLen es
  | .int => oInt1 (fun i => .fr (.int i)) es
  | .abs => oInt1 (fun i => .fr (.int (if i < 0 then -i else i))) es
  | .repr => oRepr es
  | .str => none
  | .list => oList es
  | .tuple => oTuple es
  | .dict => oDict es
  | .sorted => oSorted es
  | .sum => oSum es
  | .all => oAll false es
  | .any => oAll true es
  | .min2 => oInt2 (fun _ _ => true) (fun i j => .fr (.int (if j < i then j else i))) es
  | .max2 => oInt2 (fun _ _ => true) (fun i j => .fr (.int (if i < j then j else i))) es
  | .min1 => none
  | .max1 => none
  | .listRange1 => oInt1 (fun n => frL (rangeD 0 n.toNat)) (es.filter fun o => match o with | .fr (.int n) => numOk n && sizeB n.toNat | _ => false)
  | .listRange2 => oInt2 (fun a b => numOk a && numOk b && sizeB (b - a).toNat) (fun a b => frL (rangeD a (b - a).toNat)) es
  | .listItems => oItems es
  | .setlen => oSetlen es
  | .sortedset => oSortedset es
  | .get1 => oGet1 es
  | .get2 => oGet2 es
  | .isin => oIn false es
  | .notin => oIn true es
  | .slice lo hi => oSlice lo hi es
  | .isty _ => none
/-- displays of dicts -/
def dctR : List OV → List (D × OV) → Option (List (D × OV))
  | [], acc => some acc
  | .fr k :: v :: r, acc => if keyOk k then dctR r (dput k v acc) else none
  | _, _ => none

/-- a method that changes its object: what it gives, what becomes of the object -/
def mutR (m : MOp) (o : OV) (es : List OV) : Option (OV × OV) := match m, o, es with
  | .append, .lst xs, [v] => if sizeB (xs.length + 1) then some (.fr .non, .lst (xs ++ [v])) else none
  | .pop0, .lst (x :: xs), [] => some (x, .lst xs)
  | .popLast, .lst xs, [] => match xs.getLast? with
    | some x => some (x, .lst xs.dropLast)
    | none => none
  | .popAt, .lst xs, [.fr (.int i)] => match seqIx i xs.length with
    | some j => match xs[j]? with
      | some x => some (x, .lst (xs.eraseIdx j))
      | none => none
    | none => none
  | .popAt, .dct kvs, [.fr k] => if keyOk k then match dget k kvs with
      | some v => some (v, .dct (ddel k kvs))
      | none => none else none
  | .extend, .lst xs, [o] => match items o with
    | some ys => if sizeB (xs.length + ys.length) then some (.fr .non, .lst (xs ++ ys.map .fr)) else none
    | none => none
  | .clear, .lst _, [] => some (.fr .non, .lst [])
  | .clear, .dct _, [] => some (.fr .non, .dct [])
  | _, _, _ => none

/-! ### stores -/
/-- a slot stored; prot: slots that stay -/
def Env.put (prot : List Nat) (env : Env) (i : Nat) (v : OV) : Option Env :=
  if i ∈ prot then none else if i < env.length then some (env.set i (some v)) else none
mutual
def bindT (prot : List Nat) : T → D → Env → Option Env
  | .nm i, d, env => env.put prot i (.fr d)
  | .tup ts, .tup ds, env => bindTs prot ts ds env
  | _, _, _ => none
def bindTs (prot : List Nat) : List T → List D → Env → Option Env
  | [], [], env => some env
  | t :: ts, d :: ds, env => (bindT prot t d env).bind (bindTs prot ts ds)
  | _, _, _ => none
end
def putAll (prot : List Nat) : List Nat → List OV → Env → Option Env
  | [], [], env => some env
  | i :: is, v :: vs, env => (env.put prot i v).bind (putAll prot is vs)
  | _, _, _ => none

/-- what a context knows: calls of defs and classes; which of a def's parameters go in and out; what is beneath which class; fuel of while; slots that stay -/
structure Cfg where
  call : String → List OV → Rc
  io : String → List Nat
  sub : String → String → Bool
  fuel : Nat
  prot : List Nat

/-- the arguments of a call: those that go in and out are paths, the others are shared -/
def outPaths (io : List Nat) : Nat → List E → List E
  | _, [] => []
  | i, e :: es => if i ∈ io then e :: outPaths io (i + 1) es else outPaths io (i + 1) es
def putPaths (env : Env) : List E → List OV → Option Env
  | [], [] => some env
  | p :: ps, v :: vs => match pput env v p with
    | some env' => putPaths env' ps vs
    | none => none
  | _, _ => none
/-- two paths that cannot meet: of other names -/
def rootOf : E → Option Nat
  | .var i => some i
  | .item b _ => rootOf b
  | .attr b _ => rootOf b
  | _ => none
def apart : List E → Bool
  | [] => true
  | e :: es => (es.all fun f => rootOf e != rootOf f) && apart es

/-! ### the parts of evaluation -/
/-- only looked at: a path is not shared -/
def pkOr (e : E) (env : Env) (k : R OV) : R OV := if isPath e then match pk env e with
  | some o => .ok o env
  | none => k else k
mutual
/-- nothing is called, made turn by turn or changed in it -/
def simple : E → Bool
  | .var _ => true
  | .cst _ => true
  | .glo _ _ => true
  | .item b k => simple b && simple k
  | .attr b _ => simple b
  | .op _ es => simples es
  | .and a b => simple a && simple b
  | .or a b => simple a && simple b
  | .not a => simple a
  | .isc e _ => simple e
  | _ => false
def simples : List E → Bool
  | [] => true
  | e :: es => simple e && simples es
end
/-- a name that has a value -/
def isSlot (env : Env) : E → Bool
  | .var j => (env.at j).isSome
  | _ => false
/-- arguments: those at the places io go in and out, they are paths and stay where they are -/
def argsOf (env : Env) : List (Option OV) → List E → Option (List OV)
  | [], [] => some []
  | some v :: vs, _ :: es => (argsOf env vs es).map (v :: ·)
  | none :: vs, e :: es => match pk env e, argsOf env vs es with
    | some o, some r => some (o :: r)
    | _, _ => none
  | _, _ => none
def outsOf : List (Option OV) → List E → List E
  | none :: vs, e :: es => e :: outsOf vs es
  | some _ :: vs, _ :: es => outsOf vs es
  | _, _ => []
/-- a call, its arguments evaluated -/
def finish (call : List OV → Rc) (n : Bool) (es : List E) (vs : List (Option OV)) (env : Env) : R OV :=
  let ps := outsOf vs es
  if n && !ps.isEmpty then .bad else if apart ps then match argsOf env vs es with
    | some as => match call as with
      | .ok r outs => match putPaths env ps outs with
        | some env' => .ok r env'
        | none => .bad
      | .exc x outs => match putPaths env ps outs with
        | some env' => .exc x env'
        | none => .bad
      | .bad => .bad
    | none => .bad
  else .bad
/-- the slots of a target -/
def T.slots : T → List Nat
  | .nm i => [i]
  | .tup ts => slotsOf ts
where
  slotsOf : List T → List Nat
    | [] => []
    | t :: ts => T.slots t ++ slotsOf ts
/-- behind a comprehension its own names are what they were: they have no value -/
def wipeE (env : Env) (is : List Nat) : Env := is.foldl (fun e i => e.set i none) env
/-- an exception there is not told here -/
def R.noexc {α : Type} (r : R α) : R α := match r with
  | .exc _ _ => .bad
  | r => r
/-- the turns of a comprehension; is: the names that are its own -/
def turns (prot is : List Nat) (t : T) (step : List OV → Env → R (List OV)) : List D → List OV → Env → R (List OV)
  | [], acc, env => .ok acc env
  | d :: ds, acc, env => match bindT prot t d env with
    | some env1 => (step acc env1).noexc.bind fun acc' env2 => turns prot is t step ds acc' (wipeE env2 is)
    | none => .bad
def oneStep (n : Bool) (cond : List OV → Env → R Bool) (elt : Env → R OV) (acc : List OV) (env : Env) : R (List OV) :=
  (cond acc env).bind fun b env1 => if b then (elt env1).bind fun v env2 => if sizeB (acc.length + 1) then .ok (acc ++ [v]) env2 else .bad else .ok acc env1
/-- what may be changed at all -/
def mutStart : Option OV → Bool
  | some (.lst _) => true
  | _ => false
def mutFin (m : MOp) (p : E) (vs : List OV) (env : Env) : R OV := match pk env p with
  | some o => match mutR m o vs with
    | some (r, o') => match pput env o' p with
      | some env2 => .ok r env2
      | none => .bad
    | none => .bad
  | none => .bad

section
variable (C : Cfg)
mutual
def ev : E → Bool → Env → R OV
  | .var i, n, env => share n env (.var i)
  | .mv i, n, env => if n || C.prot.contains i then .bad else match env.at i with
    | some o => .ok o (env.set i none)
    | none => .bad
  | .cst d, _, env => .ok (.fr d) env
  | .glo _ d, _, env => .ok (.fr d) env
  | .item b k, n, env =>
    match pk env (.item b k) with
    | some _ => share n env (.item b k)
    | none => ((if simple k then pkOr b env (ev b n env) else ev b n env).bind fun o env1 => (pkOr k env1 (ev k (n || (isPath b && owned o)) env1)).bind fun d env2 => .ok [o, d] env2).bind fun vs env2 => match vs with
      | [o, .fr d] => match child o d with
        | some (.fr v) => .ok (.fr v) env2
        | _ => .bad
      | _ => .bad
  | .attr b f, n, env =>
    match pk env (.attr b f) with
    | some _ => share n env (.attr b f)
    | none => (pkOr b env (ev b n env)).bind fun o env1 => match fld o f with
      | some (.fr v) => .ok (.fr v) env1
      | _ => .bad
  | .op o es, n, env => match o with
    | .dct => (evs es n env).bind fun vs env1 => match dctR vs [] with
      | some kvs => if sizeB kvs.length then .ok (.dct kvs) env1 else .bad
      | none => .bad
    | .tup => (evs es n env).bind fun vs env1 => R.of (opR .tup (vs.map fun v => .fr v.view)) env1
    | .lst => (evs es n env).bind fun vs env1 => R.of (opR .lst vs) env1
    | o => (evps es n env).bind fun vs env1 => R.of (opR o vs) env1
  | .star es, n, env => (evst es n env).bind fun ds env1 => if sizeB ds.length then .ok (.fr (.tup ds)) env1 else .bad
  | .and a b, n, env => (pkOr a env (ev a n env)).bind fun x env1 => match x with
    | .fr (.bl true) => ev b n env1
    | .fr (.bl false) => .ok (.fr (.bl false)) env1
    | _ => .bad
  | .or a b, n, env => (pkOr a env (ev a n env)).bind fun x env1 => match x with
    | .fr (.bl false) => ev b n env1
    | .fr (.bl true) => .ok (.fr (.bl true)) env1
    | _ => .bad
  | .not a, n, env => (pkOr a env (ev a n env)).bind fun x env1 => match truth x with
    | some b => .ok (.fr (.bl (!b))) env1
    | none => .bad
  | .ifx c a b, n, env => (pkOr c env (ev c n env)).bind fun x env1 => match truth x with
    | some true => ev a n env1
    | some false => ev b n env1
    | none => .bad
  | .chain o1 o2 a b c, n, env => ((if simple b then pkOr a env (ev a n env) else ev a n env).bind fun x env1 => (pkOr b env1 (ev b (n || (isPath a && owned x)) env1)).bind fun y env2 => .ok [x, y] env2).bind fun vs env2 => match vs with
    | [.fr x, .fr y] => match opR o1 [.fr x, .fr y] with
      | some (.fr (.bl true)) => (pkOr c env2 (ev c n env2)).bind fun z env3 => match z with
        | .fr z => R.of (opR o2 [.fr y, .fr z]) env3
        | _ => .bad
      | some (.fr (.bl false)) => .ok (.fr (.bl false)) env2
      | _ => .bad
    | _ => .bad
  | .isc e cs, n, env => (pkOr e env (ev e n env)).bind fun o env1 => match o.view with
    | .ins c _ => .ok (.fr (.bl (cs.any (C.sub c)))) env1
    | .exn c _ => .ok (.fr (.bl (cs.any (C.sub c)))) env1
    | d => .ok (.fr (.bl (cs.any fun t => isTy t d))) env1
  | .call f es, n, env => (evargs (C.io f) 0 es n env).bind fun vs env1 => finish (C.call f) n es vs env1
  | .callk f es ks, n, env => (evargs [] 0 es n env).bind fun vs env1 => (evks ks n env1).bind fun ws env2 => finish (fun as => C.call f (as ++ ws)) n es vs env2
  | .meth _ _ _, _, _ => .bad
  | .comp elt t k es cond, n, env => if n then .bad else (evs es n env).bind fun vs env1 => match walkOf k (vs.map fun v => .fr v.view) with
    | some ds => (turns C.prot t.slots t (oneStep n (fun _ env => evt cond n env) (ev elt n)) ds [] (wipeE env1 t.slots)).bind fun acc env2 => .ok (.lst acc) env2
    | none => .bad
  | .comp2 elt t1 k1 es1 cond1 t2 k2 es2 cond2, n, env => if n then .bad else (evs es1 n env).bind fun vs env1 => match walkOf k1 (vs.map fun v => .fr v.view) with
    | some ds => (turns C.prot (t1.slots ++ t2.slots) t1 (fun acc env => (evt cond1 n env).bind fun b env2 => if b then
        (evs es2 n env2).bind fun ws env3 => match walkOf k2 (ws.map fun v => .fr v.view) with
          | some ds2 => turns C.prot t2.slots t2 (oneStep n (fun _ env => evt cond2 n env) (ev elt n)) ds2 acc env3
          | none => .bad
        else .ok acc env2) ds [] (wipeE env1 (t1.slots ++ t2.slots))).bind fun acc env2 => .ok (.lst acc) env2
    | none => .bad
  | .mut m p es, n, env => if n || !isPath p || !mutStart (pk env p) then .bad else (evs es (match p with | .var _ => false | _ => true) env).bind fun vs env1 => mutFin m p vs env1
  | .thunk _ _, _, _ => .bad
def evs : List E → Bool → Env → R (List OV)
  | [], _, env => .ok [] env
  | e :: es, n, env => (ev e n env).bind fun v env1 => (evs es n env1).bind fun vs env2 => .ok (v :: vs) env2
def evps : List E → Bool → Env → R (List OV)
  | [], _, env => .ok [] env
  | e :: es, n, env => (if simples es then pkOr e env (ev e n env) else ev e n env).bind fun v env1 => (evps es (n || (isPath e && owned v)) env1).bind fun vs env2 => .ok (v :: vs) env2
def evargs (io : List Nat) : Nat → List E → Bool → Env → R (List (Option OV))
  | _, [], _, env => .ok [] env
  | i, e :: es, n, env => if i ∈ io then (if isSlot env e then (evargs io (i + 1) es n env).bind fun vs env2 => .ok (none :: vs) env2 else .bad)
    else (ev e n env).bind fun v env1 => (evargs io (i + 1) es n env1).bind fun vs env2 => .ok (some (.fr v.view) :: vs) env2
def evks : List (String × E) → Bool → Env → R (List OV)
  | [], _, env => .ok [] env
  | (_, e) :: es, n, env => (ev e n env).bind fun v env1 => (evks es n env1).bind fun vs env2 => .ok (.fr v.view :: vs) env2
def evst : List (Bool × E) → Bool → Env → R (List D)
  | [], _, env => .ok [] env
  | (s, e) :: es, n, env => (ev e n env).bind fun v env1 => (evst es n env1).bind fun vs env2 => match s with
    | true => match items v with
      | some xs => .ok (xs ++ vs) env2
      | none => .bad
    | false => match v with
      | .fr d => .ok (d :: vs) env2
      | _ => .bad
def evt : List E → Bool → Env → R Bool
  | [], _, env => .ok true env
  | e :: es, n, env => (pkOr e env (ev e n env)).bind fun v env1 => match truth v with
    | some true => evt es n env1
    | some false => .ok false env1
    | none => .bad
end
/-- a test -/
def test (c : E) (env : Env) : R Bool := (pkOr c env (ev C c false env)).bind fun v env1 => match truth v with
  | some b => .ok b env1
  | none => .bad
def forL (prot : List Nat) (t : T) (body : Env → Ro) : List D → Env → Ro
  | [], env => .next env
  | d :: ds, env => match bindT prot t d env with
    | some env1 => (body env1).bind fun env2 => forL prot t body ds env2
    | none => .bad
def whileL (c : Env → R Bool) (body : Env → Ro) : Nat → Env → Ro
  | 0, _ => .bad
  | m + 1, env => (c env).thn fun b env1 => if b then (body env1).bind fun env2 => whileL c body m env2 else .next env1
def unpack (o : OV) (n : Nat) : Option (List D) := match items o with
  | some xs => if xs.length = n then some xs else none
  | none => none
mutual
def exec : S → Env → Ro
  | .pass, env => .next env
  | .asg i e, env => (ev C e false env).thn fun v env1 => match env1.put C.prot i v with
    | some env2 => .next env2
    | none => .bad
  | .asgT ts e, env => (ev C e false env).thn fun v env1 => match unpack v ts.length with
    | some xs => match putAll C.prot ts (xs.map .fr) env1 with
      | some env2 => .next env2
      | none => .bad
    | none => .bad
  | .par is es, env => (evs C es false env).thn fun vs env1 => match putAll C.prot is vs env1 with
    | some env2 => .next env2
    | none => .bad
  | .setI p k e, env => (ev C e false env).thn fun v env1 => if (pk env1 p).isNone then .bad else (pkOr k env1 (ev C k (match p with | .var _ => false | _ => true) env1)).thn fun kd env2 => match pk env2 p, kd with
    | some (.dct kvs), .fr d => match setChild (.dct kvs) d v with
      | some o' => match pput env2 o' p with
        | some env3 => .next env3
        | none => .bad
      | none => .bad
    | _, _ => .bad
  | .setF p f e, env => (ev C e false env).thn fun v env1 => match pk env1 p with
    | some o => match setFld o f v with
      | some o' => match pput env1 o' p with
        | some env2 => .next env2
        | none => .bad
      | none => .bad
    | none => .bad
  | .expr e, env => (ev C e false env).thn fun _ env1 => .next env1
  | .ife c a b, env => (test C c env).thn fun t env1 => if t then execs a env1 else execs b env1
  | .fore t k es b, env => (evs C es false env).thn fun vs env1 => match walkOf k (vs.map fun v => .fr v.view) with
    | some ds => forL C.prot t (execs b) ds env1
    | none => .bad
  | .whil c b, env => whileL (test C c) (execs b) C.fuel env
  | .ret e, env => (ev C e false env).thn fun v env1 => .ret v env1
  | .retN, env => .ret (.fr .non) env
  | .raise e, env => (ev C e false env).thn fun v env1 => match v.view with
    | .exn c fs => .exc (.exn c fs) env1
    | _ => .bad
def execs : List S → Env → Ro
  | [], env => .next env
  | s :: ss, env => (exec s env).bind fun env1 => execs ss env1
end
end

/-! ### defs -/
structure Fn where
  ps : Nat
  slots : Nat
  io : List Nat
  body : List S
/-- the values of the first k slots that go out; i: the number of the first -/
def outs (io : List Nat) : Nat → Nat → Env → Option (List OV)
  | _, 0, _ => some []
  | _, _ + 1, [] => none
  | i, k + 1, o :: env => if i ∈ io then match o, outs io (i + 1) k env with
    | some o, some r => some (o :: r)
    | _, _ => none
    else outs io (i + 1) k env
def runFn (C : Cfg) (F : Fn) (as : List OV) : Rc :=
  if as.length = F.ps then match execs { C with prot := F.io } F.body (as.map some ++ List.replicate (F.slots - F.ps) none) with
    | .next env => match outs F.io 0 F.ps env with
      | some o => .ok (.fr .non) o
      | none => .bad
    | .ret v env => match outs F.io 0 F.ps env with
      | some o => .ok v o
      | none => .bad
    | .exc x env => match outs F.io 0 F.ps env with
      | some o => .exc x o
      | none => .bad
    | .bad => .bad
  else .bad

/-! ### programs -/
/-- classes: plain: an exception without own __init__; exc: one whose __init__ keeps its arguments under names; obj: an own class, its __init__ among the defs -/
inductive Cl where
  | plain | exc (fs : List String) | obj
structure Prog where
  fns : List (String × Fn)
  cls : List (String × Cl)
  /-- a class and all above it -/
  mro : List (String × List String)
def Prog.io (P : Prog) (f : String) : List Nat := match fget f P.fns with
  | some F => F.io
  | none => []
def Prog.sub (P : Prog) (c d : String) : Bool := match fget c P.mro with
  | some l => l.contains d
  | none => false
def Prog.cfg (P : Prog) (fuel : Nat) (call : String → List OV → Rc) : Cfg := { call := call, io := P.io, sub := P.sub, fuel := fuel, prot := [] }
def fieldsOf : List String → List OV → Option (List (String × D))
  | [], [] => some []
  | f :: fs, .fr d :: ds => (fieldsOf fs ds).map ((f, d) :: ·)
  | _, _ => none
/-- an exception of the program, made -/
def Prog.excMake (P : Prog) (f : String) (as : List OV) : Option Rc := match fget f P.cls with
  | some .plain => some (match as with
    | [.fr _] => .ok (.fr (.exn f [])) []
    | _ => .bad)
  | some (.exc fs) => some (match fieldsOf fs as with
    | some r => .ok (.fr (.exn f r)) []
    | none => .bad)
  | _ => none
def Prog.call (P : Prog) (fuel : Nat) : Nat → String → List OV → Rc
  | 0, f, as => (P.excMake f as).getD .bad
  | k + 1, f, as => match P.excMake f as with
    | some r => r
    | none => match fget f P.fns with
      | some F => runFn (P.cfg fuel (Prog.call P fuel k)) F as
      | none => match fget f P.cls with
        | some .obj => match fget (f ++ ".__init__") P.fns with
          | some F => match runFn (P.cfg fuel (Prog.call P fuel k)) F (.ins f [] :: as) with
            | .ok (.fr .non) [o] => .ok o []
            | .exc x [_] => .exc x []
            | _ => .bad
          | none => .bad
        | _ => .bad
theorem Prog.call_exc {P : Prog} {fuel k : Nat} {f : String} {as : List OV} {r : Rc} (h : P.excMake f as = some r) : Prog.call P fuel k f as = r := by
  cases k with
  | zero => simp only [Prog.call, h, Option.getD_some]
  | succ k => simp only [Prog.call, h]
theorem Prog.call_fn {P : Prog} {fuel k : Nat} {f : String} {F : Fn} (h0 : ∀ as, P.excMake f as = none) (h : fget f P.fns = some F) : Prog.call P fuel (k + 1) f = runFn (P.cfg fuel (Prog.call P fuel k)) F := by
  funext as
  simp only [Prog.call, h0, h]
end Ev
/-! Ev3: how data stand in the abstract heap. -/
namespace Ev
open PySem PySem.Spec L2

theorem viewsK_length : ∀ (l : List (D × OV)), (viewsK l).length = l.length
  | [] => rfl
  | (_, _) :: r => by simp only [viewsK, List.length_cons, viewsK_length r]
theorem views_eq : ∀ (l : List OV), views l = l.map OV.view
  | [] => rfl
  | _ :: r => by simp only [views, List.map_cons, views_eq r]
theorem viewsK_eq : ∀ (l : List (D × OV)), viewsK l = l.map fun p => (p.1, p.2.view)
  | [] => rfl
  | (_, _) :: r => by simp only [viewsK, List.map_cons, viewsK_eq r]
/-! ### hashes -/
mutual
/-- a key up to == -/
def canon : D → NestedKey
  | .bl b => .num (if b then 1 else 0)
  | .int i => .num i
  | .str s => .text s
  | .tup xs => .tup (canons xs)
  | _ => .none
def canons : List D → List NestedKey
  | [] => []
  | x :: xs => canon x :: canons xs
end
def hashD (w : World) (k : D) : Int := (canon k).hash w
/-- a dict by its raw entries -/
def DH (a : Addr) (es : List DictEntry) : HO := .ext fun h => ∃ o ea ep, h.get? a = some o ∧ o.ExactDict ∧ o.data = .dict ea ep ∧ ea.toList = es

/-- what one knows of the world that does not change: the written part, where own classes stand -/
structure Wd where
  w : World
  K : PySem.W.Frag
  cls : String → Option Addr
  /-- own classes whose instances are made, the names of fields -/
  objs : List String
  /-- exception classes -/
  excs : List String
  flds : List String
  /-- classes that isinstance is asked for -/
  isas : List (String × Value)
  sub : String → String → Bool

section
variable (B : Wd) (Z : Addr → Prop) (H : Hp)
def KSeq (T : String) (a : Addr) (xs : List V) : Prop :=
  ∃ (o : Obj) (its : Array Value) (n : Nat), B.K.lookup a = some o ∧ o.cls = .type T ∧ (T = "list" → o.dict = none ∧ o.slots = #[]) ∧ o.data = .seq its n ∧ its.size ≤ sizeLine ∧ Vals xs its.toList
def TupAt (a : Addr) (xs : List V) : Prop := (Z a ∧ Rd H a (.tup xs)) ∨ KSeq B "tuple" a xs
def LstAt (a : Addr) (xs : List V) : Prop := (Z a ∧ Rd H a (.lst xs)) ∨ KSeq B "list" a xs
/-- an exception as a value: its class, its fields at its own dict -/
def ExAt (a C : Addr) (xs : List (Str × V)) : Prop := ∃ (d : Option Addr), H a = some (.ext fun h => ∃ (oe : Obj) (vs : Array Value), h.get? a = some oe ∧ oe.cls = .ref C ∧ oe.dict = d ∧ oe.data = .fields vs ∧ vs[1]? = some .none ∧ vs[2]? = some .none ∧ 4 < vs.size) ∧
  ((d = none ∧ xs = []) ∨ ∃ dx, d = some dx ∧ H dx = some (.xd xs))
def keysNd : List (D × D) → Bool
  | [] => true
  | (k, _) :: r => (keyOk k && (r.all fun p => !keq p.1 k)) && keysNd r

mutual
def Rep : D → V → Prop
  | .non, v => v = .non
  | .bl b, v => v = .bl b
  | .int i, v => v = .int i
  | .str s, v => v = .str s
  | .tup ds, v => ∃ a xs, v = .ref a ∧ TupAt B Z H a xs ∧ Reps ds xs
  | .lst ds, v => ∃ a xs, v = .ref a ∧ LstAt B Z H a xs ∧ Reps ds xs
  | .dct kvs, v => ∃ a es, v = .ref a ∧ (Z a ∧ Rd H a (DH a es)) ∧ (a == sysModules) = false ∧ kvs.length ≤ sizeLine ∧ keysNd kvs = true ∧ Repk kvs es
  | .ins c fs, v => ∃ a C dx xs, v = .ref a ∧ (c ∈ B.objs ∧ B.cls c = some C) ∧ Z a ∧ H a = some (.ins C dx xs) ∧ Repf fs xs
  | .exn c fs, v => ∃ a C xs, v = .ref a ∧ (c ∈ B.excs ∧ B.cls c = some C) ∧ Z a ∧ ExAt H a C xs ∧ Repf fs xs
def Reps : List D → List V → Prop
  | [], xs => xs = []
  | d :: ds, xs => ∃ x r, xs = x :: r ∧ Rep d x ∧ Reps ds r
def Repk : List (D × D) → List DictEntry → Prop
  | [], es => es = []
  | (k, d) :: r, es => ∃ e er, es = e :: er ∧ (∃ v, RelV v e.key ∧ Rep k v) ∧ e.hash = hashD B.w k ∧ (∃ v, RelV v e.val ∧ Rep d v) ∧ Repk r er
def Repf : List (String × D) → List (Str × V) → Prop
  | [], xs => xs = []
  | (f, d) :: r, xs => ∃ x xr, xs = (Str.ofString f, x) :: xr ∧ Rep d x ∧ Repf r xr
end
mutual
/-- what is owned: with its addresses -/
def RepO : OV → V → List Addr → Prop
  | .fr d, v, fp => Rep B Z H d v ∧ fp = []
  | .lst os, v, fp => ∃ a xs fps, v = .ref a ∧ H a = some (.lst xs) ∧ RepOs os xs fps ∧ fp = a :: fps
  | .dct kvs, v, fp => ∃ a es fps, v = .ref a ∧ H a = some (DH a es) ∧ (a == sysModules) = false ∧ kvs.length ≤ sizeLine ∧ keysNd (viewsK kvs) = true ∧ RepOk kvs es fps ∧ fp = a :: fps
  | .ins c fs, v, fp => ∃ a C dx xs fps, v = .ref a ∧ (c ∈ B.objs ∧ B.cls c = some C) ∧ H a = some (.ins C dx xs) ∧ RepOf fs xs fps ∧ fp = a :: fps
def RepOs : List OV → List V → List Addr → Prop
  | [], xs, fp => xs = [] ∧ fp = []
  | o :: os, xs, fp => ∃ x r fp1 fp2, xs = x :: r ∧ RepO o x fp1 ∧ RepOs os r fp2 ∧ fp = fp1 ++ fp2
def RepOk : List (D × OV) → List DictEntry → List Addr → Prop
  | [], es, fp => es = [] ∧ fp = []
  | (k, o) :: r, es, fp => ∃ e er fp1 fp2, es = e :: er ∧ (∃ v, RelV v e.key ∧ Rep B Z H k v) ∧ e.hash = hashD B.w k ∧ (∃ v, RelV v e.val ∧ RepO o v fp1) ∧ RepOk r er fp2 ∧ fp = fp1 ++ fp2
def RepOf : List (String × OV) → List (Str × V) → List Addr → Prop
  | [], xs, fp => xs = [] ∧ fp = []
  | (f, o) :: r, xs, fp => ∃ x xr fp1 fp2, xs = (Str.ofString f, x) :: xr ∧ RepO o x fp1 ∧ RepOf r xr fp2 ∧ fp = fp1 ++ fp2
end
/-- the frame: slots and what stands there -/
def EnvR : Env → St → List Addr → Prop
  | [], σ, F => σ = [] ∧ F = []
  | none :: env, σ, F => ∃ x r, σ = x :: r ∧ EnvR env r F
  | some o :: env, σ, F => ∃ v r fp F', σ = some v :: r ∧ RepO B Z H o v fp ∧ EnvR env r F' ∧ F = fp ++ F'
end

/-! ### from state to state -/
/-- what is shared in Z is kept, at least to be read -/
structure Gr (Z : Addr → Prop) (Z' : Addr → Prop) (H H' : Hp) : Prop where
  z : ∀ a, Z a → Z' a
  rd : ∀ a u, Z a → Rd H a u → Rd H' a u
  ins : ∀ a C dx xs, Z a → H a = some (.ins C dx xs) → H' a = some (.ins C dx xs)
  exn : ∀ a C xs, Z a → ExAt H a C xs → ExAt H' a C xs
theorem Gr.of {Z Z' : Addr → Prop} {H H' : Hp} (z : ∀ a, Z a → Z' a) (k : ∀ a o, Z a → H a = some o → H' a = some o) (kd : ∀ a xs, H a = some (.xd xs) → H' a = some (.xd xs)) : Gr Z Z' H H' where
  z := z
  rd := fun a u hz h => by
    rcases h with h | ⟨o, h⟩
    · exact .inl (k a _ hz h)
    · exact .inr ⟨o, k a _ hz h⟩
  ins := fun a C dx xs hz h => k a _ hz h
  exn := fun a C xs hz ⟨d, h, r⟩ => ⟨d, k a _ hz h, by
    rcases r with r | ⟨dx, e, r⟩
    · exact .inl r
    · exact .inr ⟨dx, e, kd _ _ r⟩⟩

section
variable {B : Wd} {Z Z' : Addr → Prop} {H H' : Hp}
theorem TupAt.mono (g : Gr Z Z' H H') {a : Addr} {xs : List V} (h : TupAt B Z H a xs) : TupAt B Z' H' a xs := by
  rcases h with ⟨h1, h2⟩ | h
  · exact .inl ⟨g.z _ h1, g.rd _ _ h1 h2⟩
  · exact .inr h
theorem LstAt.mono (g : Gr Z Z' H H') {a : Addr} {xs : List V} (h : LstAt B Z H a xs) : LstAt B Z' H' a xs := by
  rcases h with ⟨h1, h2⟩ | h
  · exact .inl ⟨g.z _ h1, g.rd _ _ h1 h2⟩
  · exact .inr h
mutual
theorem Rep.mono (g : Gr Z Z' H H') : ∀ {d : D} {v : V}, Rep B Z H d v → Rep B Z' H' d v
  | .non, v, h => by simpa only [Rep] using h
  | .bl _, v, h => by simpa only [Rep] using h
  | .int _, v, h => by simpa only [Rep] using h
  | .str _, v, h => by simpa only [Rep] using h
  | .tup ds, v, h => by
    simp only [Rep] at h ⊢
    obtain ⟨a, xs, e, h1, h2⟩ := h
    exact ⟨a, xs, e, h1.mono g, Reps.mono g h2⟩
  | .lst ds, v, h => by
    simp only [Rep] at h ⊢
    obtain ⟨a, xs, e, h1, h2⟩ := h
    exact ⟨a, xs, e, h1.mono g, Reps.mono g h2⟩
  | .dct kvs, v, h => by
    simp only [Rep] at h ⊢
    obtain ⟨a, es, e, ⟨h1, h2⟩, h3, h4, h5, h6⟩ := h
    exact ⟨a, es, e, ⟨g.z _ h1, g.rd _ _ h1 h2⟩, h3, h4, h5, Repk.mono g h6⟩
  | .ins c fs, v, h => by
    simp only [Rep] at h ⊢
    obtain ⟨a, C, dx, xs, e, h1, h2, h3, h4⟩ := h
    exact ⟨a, C, dx, xs, e, h1, g.z _ h2, g.ins _ _ _ _ h2 h3, Repf.mono g h4⟩
  | .exn c fs, v, h => by
    simp only [Rep] at h ⊢
    obtain ⟨a, C, xs, e, h1, h2, h3, h4⟩ := h
    exact ⟨a, C, xs, e, h1, g.z _ h2, g.exn _ _ _ h2 h3, Repf.mono g h4⟩
theorem Reps.mono (g : Gr Z Z' H H') : ∀ {ds : List D} {xs : List V}, Reps B Z H ds xs → Reps B Z' H' ds xs
  | [], xs, h => by simpa only [Reps] using h
  | d :: ds, xs, h => by
    simp only [Reps] at h ⊢
    obtain ⟨x, r, e, h1, h2⟩ := h
    exact ⟨x, r, e, Rep.mono g h1, Reps.mono g h2⟩
theorem Repk.mono (g : Gr Z Z' H H') : ∀ {ds : List (D × D)} {xs : List DictEntry}, Repk B Z H ds xs → Repk B Z' H' ds xs
  | [], xs, h => by simpa only [Repk] using h
  | (k, d) :: ds, xs, h => by
    simp only [Repk] at h ⊢
    obtain ⟨x, r, e, ⟨v1, r1, h1⟩, hh, ⟨v2, r2, h2⟩, h3⟩ := h
    exact ⟨x, r, e, ⟨v1, r1, Rep.mono g h1⟩, hh, ⟨v2, r2, Rep.mono g h2⟩, Repk.mono g h3⟩
theorem Repf.mono (g : Gr Z Z' H H') : ∀ {ds : List (String × D)} {xs : List (Str × V)}, Repf B Z H ds xs → Repf B Z' H' ds xs
  | [], xs, h => by simpa only [Repf] using h
  | (k, d) :: ds, xs, h => by
    simp only [Repf] at h ⊢
    obtain ⟨x, r, e, h1, h2⟩ := h
    exact ⟨x, r, e, Rep.mono g h1, Repf.mono g h2⟩
end
mutual
theorem RepO.mono (g : Gr Z Z' H H') : ∀ {o : OV} {v : V} {fp : List Addr}, (∀ a ∈ fp, ∀ u, H a = some u → H' a = some u) → RepO B Z H o v fp → RepO B Z' H' o v fp
  | .fr d, v, fp, k, h => by
    simp only [RepO] at h ⊢
    exact ⟨h.1.mono g, h.2⟩
  | .lst os, v, fp, k, h => by
    simp only [RepO] at h ⊢
    obtain ⟨a, xs, fps, e, h1, h2, h3⟩ := h
    subst h3
    exact ⟨a, xs, fps, e, k _ List.mem_cons_self _ h1, RepOs.mono g (fun b hb => k b (List.mem_cons_of_mem _ hb)) h2, rfl⟩
  | .dct kvs, v, fp, k, h => by
    simp only [RepO] at h ⊢
    obtain ⟨a, es, fps, e, h1, h2, h3, h4, h5, h6⟩ := h
    subst h6
    exact ⟨a, es, fps, e, k _ List.mem_cons_self _ h1, h2, h3, h4, RepOk.mono g (fun b hb => k b (List.mem_cons_of_mem _ hb)) h5, rfl⟩
  | .ins c fs, v, fp, k, h => by
    simp only [RepO] at h ⊢
    obtain ⟨a, C, dx, xs, fps, e, h1, h2, h3, h4⟩ := h
    subst h4
    exact ⟨a, C, dx, xs, fps, e, h1, k _ List.mem_cons_self _ h2, RepOf.mono g (fun b hb => k b (List.mem_cons_of_mem _ hb)) h3, rfl⟩
theorem RepOs.mono (g : Gr Z Z' H H') : ∀ {o : List OV} {v : List V} {fp : List Addr}, (∀ a ∈ fp, ∀ u, H a = some u → H' a = some u) → RepOs B Z H o v fp → RepOs B Z' H' o v fp
  | [], v, fp, k, h => by simpa only [RepOs] using h
  | o :: os, v, fp, k, h => by
    simp only [RepOs] at h ⊢
    obtain ⟨x, r, fp1, fp2, e, h1, h2, h3⟩ := h
    subst h3
    exact ⟨x, r, fp1, fp2, e, RepO.mono g (fun b hb => k b (List.mem_append_left _ hb)) h1, RepOs.mono g (fun b hb => k b (List.mem_append_right _ hb)) h2, rfl⟩
theorem RepOk.mono (g : Gr Z Z' H H') : ∀ {o : List (D × OV)} {v : List DictEntry} {fp : List Addr}, (∀ a ∈ fp, ∀ u, H a = some u → H' a = some u) → RepOk B Z H o v fp → RepOk B Z' H' o v fp
  | [], v, fp, k, h => by simpa only [RepOk] using h
  | (kk, o) :: os, v, fp, k, h => by
    simp only [RepOk] at h ⊢
    obtain ⟨x, r, fp1, fp2, e, ⟨v1, r1, h1⟩, hh, ⟨v2, r2, h2⟩, h3, h4⟩ := h
    subst h4
    exact ⟨x, r, fp1, fp2, e, ⟨v1, r1, h1.mono g⟩, hh, ⟨v2, r2, RepO.mono g (fun b hb => k b (List.mem_append_left _ hb)) h2⟩, RepOk.mono g (fun b hb => k b (List.mem_append_right _ hb)) h3, rfl⟩
theorem RepOf.mono (g : Gr Z Z' H H') : ∀ {o : List (String × OV)} {v : List (Str × V)} {fp : List Addr}, (∀ a ∈ fp, ∀ u, H a = some u → H' a = some u) → RepOf B Z H o v fp → RepOf B Z' H' o v fp
  | [], v, fp, k, h => by simpa only [RepOf] using h
  | (kk, o) :: os, v, fp, k, h => by
    simp only [RepOf] at h ⊢
    obtain ⟨x, r, fp1, fp2, e, h1, h2, h3⟩ := h
    subst h3
    exact ⟨x, r, fp1, fp2, e, RepO.mono g (fun b hb => k b (List.mem_append_left _ hb)) h1, RepOf.mono g (fun b hb => k b (List.mem_append_right _ hb)) h2, rfl⟩
end
mutual
/-- what is owned, shared from now on: Z' holds its addresses -/
theorem RepO.share (g : Gr Z Z' H H') : ∀ {o : OV} {v : V} {fp : List Addr}, (∀ a ∈ fp, Z' a ∧ ∀ u, H a = some u → H' a = some u) → RepO B Z H o v fp → Rep B Z' H' o.view v
  | .fr d, v, fp, k, h => by
    simp only [RepO, OV.view] at h ⊢
    exact h.1.mono g
  | .lst os, v, fp, k, h => by
    simp only [RepO, OV.view, Rep] at h ⊢
    obtain ⟨a, xs, fps, e, h1, h2, h3⟩ := h
    subst h3
    exact ⟨a, xs, e, .inl ⟨(k a List.mem_cons_self).1, .inl ((k _ List.mem_cons_self).2 _ h1)⟩, RepOs.share g (fun b hb => k b (List.mem_cons_of_mem _ hb)) h2⟩
  | .dct kvs, v, fp, k, h => by
    simp only [RepO, OV.view, Rep] at h ⊢
    obtain ⟨a, es, fps, e, h1, h2, h3, h4, h5, h6⟩ := h
    subst h6
    exact ⟨a, es, e, ⟨(k a List.mem_cons_self).1, .inl ((k _ List.mem_cons_self).2 _ h1)⟩, h2, by rw [viewsK_length]; exact h3, h4, RepOk.share g (fun b hb => k b (List.mem_cons_of_mem _ hb)) h5⟩
  | .ins c fs, v, fp, k, h => by
    simp only [RepO, OV.view, Rep] at h ⊢
    obtain ⟨a, C, dx, xs, fps, e, h1, h2, h3, h4⟩ := h
    subst h4
    exact ⟨a, C, dx, xs, e, h1, (k a List.mem_cons_self).1, (k _ List.mem_cons_self).2 _ h2, RepOf.share g (fun b hb => k b (List.mem_cons_of_mem _ hb)) h3⟩
theorem RepOs.share (g : Gr Z Z' H H') : ∀ {o : List OV} {v : List V} {fp : List Addr}, (∀ a ∈ fp, Z' a ∧ ∀ u, H a = some u → H' a = some u) → RepOs B Z H o v fp → Reps B Z' H' (views o) v
  | [], v, fp, k, h => by
    simp only [RepOs, views, Reps] at h ⊢
    exact h.1
  | o :: os, v, fp, k, h => by
    simp only [RepOs, views, Reps] at h ⊢
    obtain ⟨x, r, fp1, fp2, e, h1, h2, h3⟩ := h
    subst h3
    exact ⟨x, r, e, RepO.share g (fun b hb => k b (List.mem_append_left _ hb)) h1, RepOs.share g (fun b hb => k b (List.mem_append_right _ hb)) h2⟩
theorem RepOk.share (g : Gr Z Z' H H') : ∀ {o : List (D × OV)} {v : List DictEntry} {fp : List Addr}, (∀ a ∈ fp, Z' a ∧ ∀ u, H a = some u → H' a = some u) → RepOk B Z H o v fp → Repk B Z' H' (viewsK o) v
  | [], v, fp, k, h => by
    simp only [RepOk, viewsK, Repk] at h ⊢
    exact h.1
  | (kk, o) :: os, v, fp, k, h => by
    simp only [RepOk, viewsK, Repk] at h ⊢
    obtain ⟨x, r, fp1, fp2, e, ⟨v1, r1, h1⟩, hh, ⟨v2, r2, h2⟩, h3, h4⟩ := h
    subst h4
    exact ⟨x, r, e, ⟨v1, r1, h1.mono g⟩, hh, ⟨v2, r2, RepO.share g (fun b hb => k b (List.mem_append_left _ hb)) h2⟩, RepOk.share g (fun b hb => k b (List.mem_append_right _ hb)) h3⟩
theorem RepOf.share (g : Gr Z Z' H H') : ∀ {o : List (String × OV)} {v : List (Str × V)} {fp : List Addr}, (∀ a ∈ fp, Z' a ∧ ∀ u, H a = some u → H' a = some u) → RepOf B Z H o v fp → Repf B Z' H' (viewsF o) v
  | [], v, fp, k, h => by
    simp only [RepOf, viewsF, Repf] at h ⊢
    exact h.1
  | (kk, o) :: os, v, fp, k, h => by
    simp only [RepOf, viewsF, Repf] at h ⊢
    obtain ⟨x, r, fp1, fp2, e, h1, h2, h3⟩ := h
    subst h3
    exact ⟨x, r, e, RepO.share g (fun b hb => k b (List.mem_append_left _ hb)) h1, RepOf.share g (fun b hb => k b (List.mem_append_right _ hb)) h2⟩
end

end
end Ev
/-! Ev4: states, steps, readings. -/
namespace Ev
open PySem PySem.Spec L2

section
variable {B : Wd} {Z Z' Z1 Z2 : Addr → Prop} {H H' H1 H2 : Hp} {F F' G G' F1 F2 fp fp1 fp2 : List Addr}

mutual
theorem RepO.mutb : ∀ {o : OV} {v : V} {fp : List Addr}, RepO B Z H o v fp → ∀ a ∈ fp, Mut (H a)
  | .fr d, v, fp, h, a, ha => by
    simp only [RepO] at h
    rw [h.2] at ha; exact absurd ha (by simp)
  | .lst os, v, fp, h, a, ha => by
    simp only [RepO] at h
    obtain ⟨b, xs, fps, e, h1, h2, h3⟩ := h
    subst h3
    rcases List.mem_cons.mp ha with rfl | ha
    · rw [h1]; trivial
    · exact RepOs.mutb h2 a ha
  | .dct kvs, v, fp, h, a, ha => by
    simp only [RepO] at h
    obtain ⟨b, es, fps, e, h1, _, _, _, h5, h6⟩ := h
    subst h6
    rcases List.mem_cons.mp ha with rfl | ha
    · rw [h1]; trivial
    · exact RepOk.mutb h5 a ha
  | .ins c fs, v, fp, h, a, ha => by
    simp only [RepO] at h
    obtain ⟨b, C, dx, xs, fps, e, h1, h2, h3, h4⟩ := h
    subst h4
    rcases List.mem_cons.mp ha with rfl | ha
    · rw [h2]; trivial
    · exact RepOf.mutb h3 a ha
theorem RepOs.mutb : ∀ {o : List OV} {v : List V} {fp : List Addr}, RepOs B Z H o v fp → ∀ a ∈ fp, Mut (H a)
  | [], v, fp, h, a, ha => by
    simp only [RepOs] at h
    rw [h.2] at ha; exact absurd ha (by simp)
  | o :: os, v, fp, h, a, ha => by
    simp only [RepOs] at h
    obtain ⟨x, r, fp1, fp2, e, h1, h2, h3⟩ := h
    subst h3
    rcases List.mem_append.mp ha with ha | ha
    · exact RepO.mutb h1 a ha
    · exact RepOs.mutb h2 a ha
theorem RepOk.mutb : ∀ {o : List (D × OV)} {v : List DictEntry} {fp : List Addr}, RepOk B Z H o v fp → ∀ a ∈ fp, Mut (H a)
  | [], v, fp, h, a, ha => by
    simp only [RepOk] at h
    rw [h.2] at ha; exact absurd ha (by simp)
  | (k, o) :: os, v, fp, h, a, ha => by
    simp only [RepOk] at h
    obtain ⟨x, r, fp1, fp2, e, _, _, ⟨_, _, h1⟩, h2, h3⟩ := h
    subst h3
    rcases List.mem_append.mp ha with ha | ha
    · exact RepO.mutb h1 a ha
    · exact RepOk.mutb h2 a ha
theorem RepOf.mutb : ∀ {o : List (String × OV)} {v : List (Str × V)} {fp : List Addr}, RepOf B Z H o v fp → ∀ a ∈ fp, Mut (H a)
  | [], v, fp, h, a, ha => by
    simp only [RepOf] at h
    rw [h.2] at ha; exact absurd ha (by simp)
  | (k, o) :: os, v, fp, h, a, ha => by
    simp only [RepOf] at h
    obtain ⟨x, r, fp1, fp2, e, h1, h2, h3⟩ := h
    subst h3
    rcases List.mem_append.mp ha with ha | ha
    · exact RepO.mutb h1 a ha
    · exact RepOf.mutb h2 a ha
end
theorem EnvR.mutb : ∀ {env : Env} {σ : L2.St} {F : List Addr}, EnvR B Z H env σ F → ∀ a ∈ F, Mut (H a)
  | [], σ, F, h, a, ha => by
    simp only [EnvR] at h
    rw [h.2] at ha; exact absurd ha (by simp)
  | none :: env, σ, F, h, a, ha => by
    simp only [EnvR] at h
    obtain ⟨x, r, _, h⟩ := h
    exact EnvR.mutb h a ha
  | some o :: env, σ, F, h, a, ha => by
    simp only [EnvR] at h
    obtain ⟨v, r, fp, F', _, h1, h2, h3⟩ := h
    subst h3
    rcases List.mem_append.mp ha with ha | ha
    · exact h1.mutb a ha
    · exact EnvR.mutb h2 a ha
theorem EnvR.length : ∀ {env : Env} {σ : L2.St} {F : List Addr}, EnvR B Z H env σ F → σ.length = env.length
  | [], σ, F, h => by
    simp only [EnvR] at h
    rw [h.1]; rfl
  | none :: env, σ, F, h => by
    simp only [EnvR] at h
    obtain ⟨x, r, e, h⟩ := h
    rw [e, List.length_cons, List.length_cons, EnvR.length h]
  | some o :: env, σ, F, h => by
    simp only [EnvR] at h
    obtain ⟨v, r, fp, F', e, h1, h2, h3⟩ := h
    rw [e, List.length_cons, List.length_cons, EnvR.length h2]
theorem EnvR.mono (g : Gr Z Z' H H') : ∀ {env : Env} {σ : L2.St} {F : List Addr}, (∀ a ∈ F, ∀ u, H a = some u → H' a = some u) → EnvR B Z H env σ F → EnvR B Z' H' env σ F
  | [], σ, F, k, h => by simpa only [EnvR] using h
  | none :: env, σ, F, k, h => by
    simp only [EnvR] at h ⊢
    obtain ⟨x, r, e, h⟩ := h
    exact ⟨x, r, e, EnvR.mono g k h⟩
  | some o :: env, σ, F, k, h => by
    simp only [EnvR] at h ⊢
    obtain ⟨v, r, fp, F', e, h1, h2, h3⟩ := h
    subst h3
    exact ⟨v, r, fp, F', e, h1.mono g fun a ha => k a (List.mem_append_left _ ha), EnvR.mono g (fun a ha => k a (List.mem_append_right _ ha)) h2, rfl⟩

/-- a state: the slots, what they own -/
structure Stt (B : Wd) (Z : Addr → Prop) (H : Hp) (σ : L2.St) (env : Env) (F : List Addr) : Prop where
  env : EnvR B Z H env σ F
  nd : F.Nodup
  dz : ∀ a ∈ F, ¬ Z a
  trk : ∀ a, Z a → ∃ o, H a = some o
/-- from one state to the next: F: what may be written; G: all that is owned behind it -/
structure Step (Z : Addr → Prop) (H : Hp) (F : List Addr) (Z' : Addr → Prop) (H' : Hp) (G : List Addr) : Prop where
  sub : ∀ a, Z a → Z' a
  new : ∀ a, (Z' a ∨ a ∈ G) → Z a ∨ a ∈ F ∨ H a = none
  oth : ∀ a o, H a = some o → a ∉ F → H' a = some o
  nd : G.Nodup
  dz : ∀ a ∈ G, ¬ Z' a
  trk : ∀ a, Z' a → ∃ o, H' a = some o
theorem Stt.refl {σ : L2.St} {env : Env} (s : Stt B Z H σ env F) : Step Z H F Z H F :=
  ⟨fun _ h => h, fun a h => h.elim .inl fun h => .inr (.inl h), fun _ _ h _ => h, s.nd, s.dz, s.trk⟩
theorem Mut.notXd {H : Hp} {a : Addr} {xs : List (Str × V)} (h : Mut (H a)) : H a ≠ some (.xd xs) := fun e => by rw [e] at h; exact h
theorem Step.gr (t : Step Z H F Z' H' G) (m : ∀ a ∈ F, Mut (H a)) (dz : ∀ a ∈ F, ¬ Z a) : Gr Z Z' H H' :=
  .of t.sub (fun a o hz h => t.oth a o h fun hf => dz a hf hz) fun a xs h => t.oth a _ h fun hf => Mut.notXd (m a hf) h
theorem Stt.gr {σ : L2.St} {env : Env} (s : Stt B Z H σ env F) (t : Step Z H F Z' H' G) : Gr Z Z' H H' := t.gr s.env.mutb s.dz
/-- the state behind a step -/
theorem Step.stt {σ : L2.St} {env : Env} (t : Step Z H F Z' H' (fp ++ F')) (e : EnvR B Z' H' env σ F') : Stt B Z' H' σ env F' :=
  ⟨e, (List.nodup_append.mp t.nd).2.1, fun a h => t.dz a (List.mem_append_right _ h), t.trk⟩
/-- two steps; what the first made is kept -/
theorem Step.trans (t : Step Z H F Z1 H1 (fp ++ F1)) (tr : ∀ a ∈ fp, ∃ o, H1 a = some o) (u : Step Z1 H1 F1 Z2 H2 G) : Step Z H F Z2 H2 (fp ++ G) where
  sub := fun a h => u.sub a (t.sub a h)
  new := fun a h => by
    have aux : Z1 a ∨ a ∈ F1 ∨ H1 a = none → Z a ∨ a ∈ F ∨ H a = none := fun q => by
      rcases q with q | q | q
      · exact t.new a (.inl q)
      · exact t.new a (.inr (List.mem_append_right _ q))
      · by_cases hf : a ∈ F
        · exact .inr (.inl hf)
        · cases e : H a with
          | none => exact .inr (.inr rfl)
          | some o => rw [t.oth a o e hf] at q; cases q
    rcases h with h | h
    · exact aux (u.new a (.inl h))
    · rcases List.mem_append.mp h with h | h
      · exact t.new a (.inr (List.mem_append_left _ h))
      · exact aux (u.new a (.inr h))
  oth := fun a o h hf => by
    refine u.oth a o (t.oth a o h hf) fun h1 => ?_
    rcases t.new a (.inr (List.mem_append_right _ h1)) with q | q | q
    · exact t.dz a (List.mem_append_right _ h1) (t.sub a q)
    · exact hf q
    · rw [h] at q; cases q
  nd := by
    refine List.nodup_append.mpr ⟨(List.nodup_append.mp t.nd).1, u.nd, fun a ha b hb e => ?_⟩
    subst e
    obtain ⟨o, ho⟩ := tr a ha
    rcases u.new a (.inr hb) with q | q | q
    · exact t.dz a (List.mem_append_left _ ha) q
    · exact (List.nodup_append.mp t.nd).2.2 a ha a q rfl
    · rw [ho] at q; cases q
  dz := fun a h => by
    rcases List.mem_append.mp h with h | h
    · intro hz
      obtain ⟨o, ho⟩ := tr a h
      rcases u.new a (.inl hz) with q | q | q
      · exact t.dz a (List.mem_append_left _ h) q
      · exact (List.nodup_append.mp t.nd).2.2 a h a q rfl
      · rw [ho] at q; cases q
    · exact u.dz a h
  trk := u.trk
/-- what the first step made is kept by the second -/
theorem Step.keeps (t : Step Z H F Z1 H1 (fp ++ F1)) (u : Step Z1 H1 F1 Z2 H2 G) : ∀ a ∈ fp, ∀ o, H1 a = some o → H2 a = some o := fun a ha o h =>
  u.oth a o h fun hf => (List.nodup_append.mp t.nd).2.2 a ha a hf rfl
theorem RepO.trk {o : OV} {v : V} (h : RepO B Z H o v fp) : ∀ a ∈ fp, ∃ u, H a = some u := fun a ha => by
  have := h.mutb a ha
  cases e : H a with
  | none => rw [e] at this; exact this.elim
  | some u => exact ⟨u, rfl⟩
theorem RepOs.trk {o : List OV} {v : List V} (h : RepOs B Z H o v fp) : ∀ a ∈ fp, ∃ u, H a = some u := fun a ha => by
  have := h.mutb a ha
  cases e : H a with
  | none => rw [e] at this; exact this.elim
  | some u => exact ⟨u, rfl⟩
/-- forget some of what is owned -/
theorem Step.drop (t : Step Z H F Z' H' (G' ++ G)) : Step Z H F Z' H' G :=
  ⟨t.sub, fun a h => t.new a (h.imp id fun h => List.mem_append_right _ h), t.oth, (List.nodup_append.mp t.nd).2.1, fun a h => t.dz a (List.mem_append_right _ h), t.trk⟩
theorem Step.perm (t : Step Z H F Z' H' G) (p : G.Perm G') : Step Z H F Z' H' G' :=
  ⟨t.sub, fun a h => t.new a (h.imp id fun h => p.symm.subset h), t.oth, p.nodup_iff.mp t.nd, fun a h => t.dz a (p.symm.subset h), t.trk⟩
theorem Step.sublist (t : Step Z H F Z' H' G) (p : G'.Sublist G) : Step Z H F Z' H' G' :=
  ⟨t.sub, fun a h => t.new a (h.imp id fun h => p.subset h), t.oth, t.nd.sublist p, fun a h => t.dz a (p.subset h), t.trk⟩
/-- what is owned, shared from now on -/
theorem Step.share (t : Step Z H F Z' H' (fp ++ G)) (tr : ∀ a ∈ fp, ∃ o, H' a = some o) : Step Z H F (fun a => Z' a ∨ a ∈ fp) H' G where
  sub := fun a h => .inl (t.sub a h)
  new := fun a h => by
    rcases h with (h | h) | h
    · exact t.new a (.inl h)
    · exact t.new a (.inr (List.mem_append_left _ h))
    · exact t.new a (.inr (List.mem_append_right _ h))
  oth := t.oth
  nd := (List.nodup_append.mp t.nd).2.1
  dz := fun a h q => by
    rcases q with q | q
    · exact t.dz a (List.mem_append_right _ h) q
    · exact (List.nodup_append.mp t.nd).2.2 a q a h rfl
  trk := fun a h => h.elim (t.trk a) (tr a)
end

/-! ### what is wanted behind an evaluation -/
/-- an exception that flies: its class, its dict -/
def XR (B : Wd) (Z : Addr → Prop) (H : Hp) (x : D) (cls : Value) (d : Option Addr) : Prop :=
  ∃ c fs C, x = .exn c fs ∧ B.cls c = some C ∧ cls = .ref C ∧ ((d = none ∧ fs = []) ∨ ∃ dx xs, d = some dx ∧ H dx = some (.xd xs) ∧ Repf B Z H fs xs)
/-- nothing is changed -/
def Quiet (n : Bool) (env env' : Env) (F F' : List Addr) (H H' : Hp) : Prop := n = true → env' = env ∧ F' = F ∧ ∀ a u, H a = some u → H' a = some u
theorem Quiet.refl {n : Bool} {env : Env} {F : List Addr} {H : Hp} : Quiet n env env F F H H := fun _ => ⟨rfl, rfl, fun _ _ h => h⟩
theorem Quiet.trans {n : Bool} {e1 e2 e3 : Env} {F1 F2 F3 : List Addr} {H1 H2 H3 : Hp} (a : Quiet n e1 e2 F1 F2 H1 H2) (b : Quiet n e2 e3 F2 F3 H2 H3) : Quiet n e1 e3 F1 F3 H1 H3 := fun h =>
  ⟨(b h).1.trans (a h).1, (b h).2.1.trans (a h).2.1, fun x u q => (b h).2.2 x u ((a h).2.2 x u q)⟩
section
variable (B : Wd) (W : WX) (σ : L2.St) (Z : Addr → Prop) (H : Hp) (F : List Addr) (n : Bool) (env : Env)
def PostX (x : D) (env' : Env) : Prop := ∀ cls d Z' H' F', XR B Z' H' x cls d → EnvR B Z' H' env' σ F' → Step Z H F Z' H' F' → W cls d σ H'
def PostE (Q : VK) : R OV → Prop
  | .ok o env' => ∀ v Z' H' F' fp, RepO B Z' H' o v fp → EnvR B Z' H' env' σ F' → Step Z H F Z' H' (fp ++ F') → Quiet n env env' F F' H H' → Q v H'
  | .exc x env' => PostX B W σ Z H F x env'
  | .bad => False
/-- looked at: owned by itself, or by a name (then it is quiet behind it) -/
def PostP (e : E) (Q : VK) : R OV → Prop
  | .ok o env' => ∀ v Z' H' F' fp G, RepO B Z' H' o v fp → (G = fp ∨ (isPath e && owned o) = true) → EnvR B Z' H' env' σ F' → Step Z H F Z' H' (G ++ F') → Quiet n env env' F F' H H' → Q v H'
  | .exc x env' => PostX B W σ Z H F x env'
  | .bad => False
def PostVs (Q : List V → Hp → Prop) : R (List OV) → Prop
  | .ok os env' => ∀ vs Z' H' F' fp, RepOs B Z' H' os vs fp → EnvR B Z' H' env' σ F' → Step Z H F Z' H' (fp ++ F') → Quiet n env env' F F' H H' → Q vs H'
  | .exc x env' => PostX B W σ Z H F x env'
  | .bad => False
end
/-- values that are looked at; G: what is owned by themselves -/
def Looks (B : Wd) (Z : Addr → Prop) (H : Hp) : List E → List OV → List V → List Addr → Prop
  | [], os, vs, G => os = [] ∧ vs = [] ∧ G = []
  | e :: es, os, vs, G => ∃ o r v vr fp G1 G2, os = o :: r ∧ vs = v :: vr ∧ RepO B Z H o v fp ∧ G = G1 ++ G2 ∧ (G1 = fp ∨ ((isPath e && owned o) = true ∧ G1 = [])) ∧ Looks B Z H es r vr G2
def PostPs (B : Wd) (W : WX) (σ : L2.St) (Z : Addr → Prop) (H : Hp) (F : List Addr) (n : Bool) (env : Env) (es : List E) (Q : List V → Hp → Prop) : R (List OV) → Prop
  | .ok os env' => ∀ vs Z' H' F' G, Looks B Z' H' es os vs G → EnvR B Z' H' env' σ F' → Step Z H F Z' H' (G ++ F') → Quiet n env env' F F' H H' → Q vs H'
  | .exc x env' => PostX B W σ Z H F x env'
  | .bad => False

section
variable (B : Wd) (C : Cfg) (W : WX)
def tE (e : E) (n : Bool) : TE := fun σ H Q => ∃ Z env F, Stt B Z H σ env F ∧ PostE B W σ Z H F n env Q (ev C e n env)
def tP (e : E) (n : Bool) : TE := fun σ H Q => ∃ Z env F, Stt B Z H σ env F ∧ PostP B W σ Z H F n env e Q (pkOr e env (ev C e n env))
def tVs (es : List E) (n : Bool) : TA := fun σ H Q => ∃ Z env F, Stt B Z H σ env F ∧ PostVs B W σ Z H F n env Q (evs C es n env)
def tPs (es : List E) (n : Bool) : TA := fun σ H Q => ∃ Z env F, Stt B Z H σ env F ∧ PostPs B W σ Z H F n env es Q (evps C es n env)
end
/-- another reading, stronger -/
theorem PE.imp {X : Cx} {e : Expr} {t t' : TE} (h : PE X e t) (k : ∀ σ H Q, t' σ H Q → t σ H Q) : PE X e t' := ⟨fun pins s σ H Q I q => h.run pins s σ H Q I (k σ H Q q)⟩
theorem PA.imp {X : Cx} {e : List Expr} {t t' : TA} (h : PA X e t) (k : ∀ σ H Q, t' σ H Q → t σ H Q) : PA X e t' := ⟨fun pos pins s σ H Q I q => h.run pos pins s σ H Q I (k σ H Q q)⟩
theorem PT.imp {X : Cx} {e : Expr} {t t' : TT} (h : PT X e t) (k : ∀ σ H Q, t' σ H Q → t σ H Q) : PT X e t' := ⟨fun pins s σ H Q I q => h.run pins s σ H Q I (k σ H Q q)⟩
theorem PS.imp {X : Cx} {e : Stmt} {t t' : TS} (h : PS X e t) (k : ∀ D σ H, t' D σ H → t D σ H) : PS X e t' := ⟨fun pins s σ H D I q => h.run pins s σ H D I (k D σ H q)⟩
theorem PSs.imp {X : Cx} {e : List Stmt} {t t' : TS} (h : PSs X e t) (k : ∀ D σ H, t' D σ H → t D σ H) : PSs X e t' := ⟨fun pins s σ H D I q => h.run pins s σ H D I (k D σ H q)⟩

theorem Looks.trk {B : Wd} {Z : Addr → Prop} {H : Hp} : ∀ {es : List E} {os : List OV} {vs : List V} {G : List Addr}, Looks B Z H es os vs G → ∀ a ∈ G, ∃ u, H a = some u
  | [], os, vs, G, h, a, ha => by
    obtain ⟨_, _, rfl⟩ := h
    cases ha
  | e :: es, os, vs, G, h, a, ha => by
    obtain ⟨o, r, v, vr, fp, G1, G2, rfl, rfl, h1, rfl, h2, h3⟩ := h
    rcases List.mem_append.mp ha with ha | ha
    · rcases h2 with rfl | ⟨_, rfl⟩
      · exact h1.trk a ha
      · cases ha
    · exact Looks.trk h3 a ha
/-! ### lists of operands -/
section
variable {X : Cx} {B : Wd} {C : Cfg} {W : WX}
theorem PostX.trans {σ : L2.St} {Z Z1 : Addr → Prop} {H H1 : Hp} {F F1 G : List Addr} {x : D} {env : Env} (t : Step Z H F Z1 H1 (G ++ F1)) (tr : ∀ a ∈ G, ∃ o, H1 a = some o)
    (h : PostX B W σ Z H F x env) : PostX B W σ Z1 H1 F1 x env := fun cls d Z' H' F' xr er st => h cls d Z' H' F' xr er (t.trans tr st).drop
theorem vs_nil {n : Bool} : PA X [] (tVs B C W [] n) := PA.imp pa_nil fun σ H Q ⟨Z, env, F, s, q⟩ => by
  exact q [] Z H F [] (by simp [RepOs]) s.env s.refl .refl
theorem ps_nil {n : Bool} : PA X [] (tPs B C W [] n) := PA.imp pa_nil fun σ H Q ⟨Z, env, F, s, q⟩ => by
  exact q [] Z H F [] ⟨rfl, rfl, rfl⟩ s.env s.refl .refl
theorem vs_cons {e : E} {es : List E} {n : Bool} {x : Expr} {xs : List Expr} (he : PE X x (tE B C W e n)) (hs : PA X xs (tVs B C W es n)) (hst : starEach (x :: xs) X.env = (false, eval x X.env) :: starEach xs X.env) :
    PA X (x :: xs) (tVs B C W (e :: es) n) := PA.imp (pa_cons he hs hst) fun σ H Q ⟨Z, env, F, s, q⟩ => by
  refine ⟨Z, env, F, s, ?_⟩
  simp only [evs] at q
  cases h1 : ev C e n env with
  | bad => rw [h1] at q; exact q
  | exc x' env' => rw [h1] at q; exact q
  | ok o env1 =>
    rw [h1] at q
    intro v Z1 H1 F1 fp1 r1 e1 t1 k1
    refine ⟨Z1, env1, F1, t1.stt e1, ?_⟩
    simp only [R.bind] at q
    cases h2 : evs C es n env1 with
    | bad => rw [h2] at q; exact q
    | exc x' env' => rw [h2] at q; exact PostX.trans t1 r1.trk q
    | ok os env2 =>
      rw [h2] at q
      intro vs Z2 H2 F2 fp2 r2 e2 t2 k2
      refine q (v :: vs) Z2 H2 F2 (fp1 ++ fp2) ?_ e2 ?_ (k1.trans k2)
      · simp only [RepOs]
        exact ⟨v, vs, fp1, fp2, rfl, r1.mono ((t1.stt e1).gr t2) (t1.keeps t2), r2, rfl⟩
      · rw [List.append_assoc]
        exact t1.trans r1.trk t2
/-- an operand that is only looked at -/
theorem p_of {e : E} {n : Bool} {x : Expr} (he : PE X x (tE B C W e n)) (hp : isPath e = true → PE X x (tP B C W e n)) : PE X x (tP B C W e n) := by
  by_cases h : isPath e = true
  · exact hp h
  · refine PE.imp he fun σ H Q ⟨Z, env, F, s, q⟩ => ⟨Z, env, F, s, ?_⟩
    unfold pkOr at q
    rw [if_neg h] at q
    cases h1 : ev C e n env with
    | bad => rw [h1] at q; exact q
    | exc x' env' => rw [h1] at q; exact q
    | ok o env1 =>
      rw [h1] at q
      intro v Z1 H1 F1 fp1 r1 e1 t1 k1
      exact q v Z1 H1 F1 fp1 fp1 r1 (.inl rfl) e1 t1 k1
/-- the first operand, the others behind it -/
theorem ps_first {e : E} {es : List E} {n : Bool} {x : Expr} (he : PE X x (tE B C W e n)) (hp : PE X x (tP B C W e n)) {pins : List (Addr × Obj)} {s : Shared} {σ : L2.St} {H : Hp} {Q : List V → Hp → Prop} (I : Inv X pins σ H s)
    (h : tPs B C W (e :: es) n σ H Q) : wpAny (model X.prog X.w) X.A (eval x X.env) (fun u s1 => ∃ v H1 m, Inv X pins σ H1 s1 ∧ RelV v u ∧ tPs B C W es m σ H1 fun us H2 => Q (v :: us) H2) X.xe s := by
  obtain ⟨Z, env, F, st, q⟩ := h
  simp only [evps] at q
  -- the reading of the first with the rest behind it
  have go : ∀ (o : OV) (env1 : Env) (m : Bool), m = (n || (isPath e && owned o)) → PostPs B W σ Z H F n env (e :: es) Q ((evps C es m env1).bind fun vs env2 => .ok (o :: vs) env2) →
      ∀ v Z1 H1 F1 fp G, RepO B Z1 H1 o v fp → (G = fp ∨ ((isPath e && owned o) = true ∧ G = [])) → EnvR B Z1 H1 env1 σ F1 → Step Z H F Z1 H1 (G ++ F1) → (∀ a ∈ G, ∃ u, H1 a = some u) → Quiet n env env1 F F1 H H1 →
      tPs B C W es m σ H1 fun us H2 => Q (v :: us) H2 := by
    intro o env1 m hm q v Z1 H1 F1 fp G r1 hG e1 t1 trk k1
    refine ⟨Z1, env1, F1, t1.stt e1, ?_⟩
    cases h2 : evps C es m env1 with
    | bad => rw [h2] at q; exact q
    | exc x' env' => rw [h2] at q; exact PostX.trans t1 trk q
    | ok os env2 =>
      rw [h2] at q
      intro vs Z2 H2 F2 G2 l2 e2 t2 k2
      have gg := (t1.stt e1).gr t2
      refine q (v :: vs) Z2 H2 F2 (G ++ G2) ⟨o, os, v, vs, fp, G, G2, rfl, rfl, ?_, rfl, hG, l2⟩ e2 ?_ (k1.trans fun hn => ?_)
      · rcases hG with hG | hG
        · subst hG
          exact r1.mono gg (t1.keeps t2)
        · exact r1.mono gg fun a _ u hu => (k2 (by rw [hm, hG.1, Bool.or_true])).2.2 a u hu
      · rw [List.append_assoc]
        exact t1.trans trk t2
      · exact k2 (by rw [hm, hn, Bool.true_or])
  by_cases hsim : simples es = true
  · rw [if_pos hsim] at q
    cases h1 : pkOr e env (ev C e n env) with
    | bad => rw [h1] at q; exact q.elim
    | exc x' env' =>
      rw [h1] at q
      exact thn (hp.run pins s σ H (fun _ _ => False) I ⟨Z, env, F, st, by rw [h1]; exact q⟩) fun u s1 ⟨_, _, _, _, z⟩ => z.elim
    | ok o env1 =>
      rw [h1] at q
      refine thn (hp.run pins s σ H (fun v H1 => tPs B C W es (n || (isPath e && owned o)) σ H1 fun us H2 => Q (v :: us) H2) I ⟨Z, env, F, st, ?_⟩) fun u s1 ⟨v, H1, I1, rv, q1⟩ => ⟨v, H1, _, I1, rv, q1⟩
      rw [h1]
      intro v Z1 H1 F1 fp G r1 hG e1 t1 k1
      by_cases hGf : G = fp
      · exact go o env1 _ rfl q v Z1 H1 F1 fp G r1 (.inl hGf) e1 t1 (by rw [hGf]; exact r1.trk) k1
      · -- what is looked at is owned by a name: forget G
        have hG' := hG.resolve_left hGf
        exact go o env1 _ rfl q v Z1 H1 F1 fp [] r1 (.inr ⟨hG', rfl⟩) e1 t1.drop (fun _ z => nomatch z) k1
  · rw [if_neg hsim] at q
    cases h1 : ev C e n env with
    | bad => rw [h1] at q; exact q.elim
    | exc x' env' =>
      rw [h1] at q
      exact thn (he.run pins s σ H (fun _ _ => False) I ⟨Z, env, F, st, by rw [h1]; exact q⟩) fun u s1 ⟨_, _, _, _, z⟩ => z.elim
    | ok o env1 =>
      rw [h1] at q
      refine thn (he.run pins s σ H (fun v H1 => tPs B C W es (n || (isPath e && owned o)) σ H1 fun us H2 => Q (v :: us) H2) I ⟨Z, env, F, st, ?_⟩) fun u s1 ⟨v, H1, I1, rv, q1⟩ => ⟨v, H1, _, I1, rv, q1⟩
      rw [h1]
      intro v Z1 H1 F1 fp r1 e1 t1 k1
      exact go o env1 _ rfl q v Z1 H1 F1 fp fp r1 (.inl rfl) e1 t1 r1.trk k1
theorem ps_end {n : Bool} {σ : L2.St} {H : Hp} {Q : List V → Hp → Prop} (h : tPs B C W [] n σ H Q) : Q [] H := by
  obtain ⟨Z, env, F, st, q⟩ := h
  exact q [] Z H F [] ⟨rfl, rfl, rfl⟩ st.env st.refl .refl
theorem ps_cons {e : E} {es : List E} {n : Bool} {x : Expr} {xs : List Expr} (he : PE X x (tE B C W e n)) (hp : PE X x (tP B C W e n)) (hs : ∀ m, PA X xs (tPs B C W es m)) (hst : starEach (x :: xs) X.env = (false, eval x X.env) :: starEach xs X.env) :
    PA X (x :: xs) (tPs B C W (e :: es) n) := by
  refine ⟨fun pos pins s σ H Q I h => ?_⟩
  rw [hst]
  show wpAny _ _ (spliced ((false, eval x X.env) :: backTo pos (starEach xs X.env))) _ _ s
  refine Calls.spliced_cons (thn (ps_first he hp I h) fun u s1 ⟨v, H1, m, I1, rv, q1⟩ => ?_)
  exact thn ((hs m).run pos pins s1 σ H1 _ I1 q1) fun us s2 ⟨ws, H2, I2, r2, q2⟩ => ⟨v :: ws, H2, I2, .cons rv r2, q2⟩
/-- two operands -/
theorem two_ops {a b : E} {n : Bool} {x y : Expr} (ha : PE X x (tE B C W a n)) (hpa : PE X x (tP B C W a n)) (hb : ∀ m, PE X y (tE B C W b m)) (hpb : ∀ m, PE X y (tP B C W b m)) {pins : List (Addr × Obj)} {s : Shared} {σ : L2.St} {H : Hp} {Q : List V → Hp → Prop} (I : Inv X pins σ H s)
    (h : tPs B C W [a, b] n σ H Q) : wpAny (model X.prog X.w) X.A (eval x X.env) (fun u s1 => wpAny (model X.prog X.w) X.A (eval y X.env) (fun u' s2 => ∃ v v' H2, Inv X pins σ H2 s2 ∧ RelV v u ∧ RelV v' u' ∧ Q [v, v'] H2) X.xe s1) X.xe s :=
  thn (ps_first ha hpa I h) fun u s1 ⟨v, H1, m, I1, rv, q1⟩ => thn (ps_first (hb m) (hpb m) I1 q1) fun u' s2 ⟨v', H2, m', I2, rv', q2⟩ => ⟨v, v', H2, I2, rv, rv', ps_end q2⟩
end
end Ev
/-! Ev5: parts of what is owned, put anew. -/
namespace Ev
open PySem PySem.Spec L2

theorem ofString_inj {a b : String} (h : Str.ofString a = Str.ofString b) : a = b := by
  rw [Str.ofString_eq_toList, Str.ofString_eq_toList] at h
  have h1 : (a.toList.map fun c => c.toNat) = (b.toList.map fun c => c.toNat) := by simpa using h
  have inj : ∀ (l m : List Char), (l.map fun c => c.toNat) = (m.map fun c => c.toNat) → l = m := by
    intro l
    induction l with
    | nil => intro m h; cases m with
      | nil => rfl
      | cons _ _ => simp at h
    | cons x l ih => intro m h; cases m with
      | nil => simp at h
      | cons y m =>
        simp only [List.map_cons, List.cons.injEq] at h
        rw [ih m h.2, Char.toNat_inj.mp h.1]
  exact String.toList_injective (inj _ _ h1)
section
variable {B : Wd} {Z Z' : Addr → Prop} {H H' : Hp}
/-- nothing else is changed -/
abbrev Kept (R : List Addr) (H H' : Hp) : Prop := ∀ b ∈ R, ∀ u, H b = some u → H' b = some u
theorem Kept.l {R S : List Addr} (k : Kept (R ++ S) H H') : Kept R H H' := fun b hb => k b (List.mem_append_left _ hb)
theorem Kept.r {R S : List Addr} (k : Kept (R ++ S) H H') : Kept S H H' := fun b hb => k b (List.mem_append_right _ hb)
theorem perm_mid {α : Type} (a b c : List α) : (a ++ (b ++ c)).Perm (b ++ (a ++ c)) := by
  rw [← List.append_assoc, ← List.append_assoc]
  exact List.perm_append_comm.append_right c

theorem RepOs.length : ∀ {os : List OV} {vs : List V} {fp : List Addr}, RepOs B Z H os vs fp → vs.length = os.length
  | [], vs, fp, h => by simp only [RepOs] at h; rw [h.1]; rfl
  | o :: os, vs, fp, h => by
    simp only [RepOs] at h
    obtain ⟨x, r, f1, f2, e, _, h2, _⟩ := h
    rw [e, List.length_cons, List.length_cons, RepOs.length h2]
/-- an item of a list -/
theorem RepOs.split : ∀ {os : List OV} {vs : List V} {fp : List Addr} {j : Nat} {c : OV}, RepOs B Z H os vs fp → os[j]? = some c →
    ∃ v fpc rest, vs[j]? = some v ∧ RepO B Z H c v fpc ∧ fp.Perm (fpc ++ rest) ∧
      (∀ (Z' : Addr → Prop) (H' : Hp) (c' : OV) (fpc' : List Addr), Gr Z Z' H H' → Kept rest H H' → RepO B Z' H' c' v fpc' → ∃ fp', RepOs B Z' H' (os.set j c') vs fp' ∧ fp'.Perm (fpc' ++ rest)) ∧
      (∀ (Z' : Addr → Prop) (H' : Hp), Gr Z Z' H H' → Kept rest H H' → ∃ fp', RepOs B Z' H' (os.eraseIdx j) (vs.eraseIdx j) fp' ∧ fp'.Perm rest)
  | [], vs, fp, j, c, h, e => by simp at e
  | o :: os, vs, fp, j, c, h, e => by
    simp only [RepOs] at h
    obtain ⟨x, r, f1, f2, e0, h1, h2, e3⟩ := h
    subst e0; subst e3
    cases j with
    | zero =>
      have e' : o = c := by simpa using e
      subst e'
      refine ⟨x, f1, f2, rfl, h1, .refl _, fun Z' H' c' fpc' g k hc => ⟨fpc' ++ f2, ?_, .refl _⟩, fun Z' H' g k => ⟨f2, ?_, .refl _⟩⟩
      · simp only [List.set_cons_zero, RepOs]
        exact ⟨x, r, fpc', f2, rfl, hc, h2.mono g k, rfl⟩
      · simpa using h2.mono g k
    | succ j =>
      obtain ⟨v, fpc, rest, hv, hc, hp, hs, he⟩ := RepOs.split h2 (j := j) (c := c) (by simpa using e)
      refine ⟨v, fpc, f1 ++ rest, by simpa using hv, hc, ?_, fun Z' H' c' fpc' g k hc' => ?_, fun Z' H' g k => ?_⟩
      · exact (hp.append_left f1).trans (perm_mid _ _ _)
      · obtain ⟨fp', h', p'⟩ := hs Z' H' c' fpc' g k.r hc'
        refine ⟨f1 ++ fp', ?_, (p'.append_left f1).trans (perm_mid _ _ _)⟩
        simp only [List.set_cons_succ, RepOs]
        exact ⟨x, r, f1, fp', rfl, h1.mono g k.l, h', rfl⟩
      · obtain ⟨fp', h', p'⟩ := he Z' H' g k.r
        refine ⟨f1 ++ fp', ?_, p'.append_left f1⟩
        simp only [List.eraseIdx_cons_succ, RepOs]
        exact ⟨x, _, f1, fp', rfl, h1.mono g k.l, h', rfl⟩
theorem RepOs.append : ∀ {os : List OV} {vs : List V} {fp : List Addr} {ps : List OV} {us : List V} {gp : List Addr}, RepOs B Z H os vs fp → RepOs B Z H ps us gp → RepOs B Z H (os ++ ps) (vs ++ us) (fp ++ gp)
  | [], vs, fp, ps, us, gp, h, k => by
    simp only [RepOs] at h
    rw [h.1, h.2]
    exact k
  | o :: os, vs, fp, ps, us, gp, h, k => by
    simp only [RepOs] at h
    obtain ⟨x, r, f1, f2, e, h1, h2, e3⟩ := h
    subst e; subst e3
    simp only [List.cons_append, RepOs]
    exact ⟨x, r ++ us, f1, f2 ++ gp, rfl, h1, RepOs.append h2 k, by rw [List.append_assoc]⟩
theorem RepOs.of_reps : ∀ {ds : List D} {vs : List V}, Reps B Z H ds vs → RepOs B Z H (ds.map .fr) vs []
  | [], vs, h => by
    simp only [Reps] at h
    simp only [List.map_nil, RepOs]
    exact ⟨h, trivial⟩
  | d :: ds, vs, h => by
    simp only [Reps] at h
    obtain ⟨x, r, e, h1, h2⟩ := h
    simp only [List.map_cons, RepOs, RepO]
    exact ⟨x, r, [], [], e, ⟨h1, rfl⟩, RepOs.of_reps h2, rfl⟩
theorem frs_map : ∀ {os : List OV} {ds : List D}, frs os = some ds → os = ds.map .fr
  | [], ds, h => by
    simp only [frs, Option.some.injEq] at h
    rw [← h]; rfl
  | .fr d :: os, ds, h => by
    simp only [frs, Option.map_eq_some_iff] at h
    obtain ⟨r, h1, h2⟩ := h
    rw [← h2, frs_map h1]; rfl
  | .lst _ :: os, ds, h => by simp [frs] at h
  | .dct _ :: os, ds, h => by simp [frs] at h
  | .ins _ _ :: os, ds, h => by simp [frs] at h
theorem frs_of_map (ds : List D) : frs (ds.map .fr) = some ds := by
  induction ds with
  | nil => rfl
  | cons d ds ih => simp only [List.map_cons, frs, ih, Option.map_some]
theorem RepOs.reps : ∀ {ds : List D} {vs : List V} {fp : List Addr}, RepOs B Z H (ds.map .fr) vs fp → Reps B Z H ds vs ∧ fp = []
  | [], vs, fp, h => by
    simp only [List.map_nil, RepOs] at h
    simp only [Reps]
    exact h
  | d :: ds, vs, fp, h => by
    simp only [List.map_cons, RepOs, RepO] at h
    obtain ⟨x, r, f1, f2, e, ⟨h1, e1⟩, h2, e2⟩ := h
    obtain ⟨h3, e3⟩ := RepOs.reps h2
    simp only [Reps]
    exact ⟨⟨x, r, e, h1, h3⟩, by rw [e2, e1, e3]; rfl⟩
theorem Reps.length : ∀ {ds : List D} {vs : List V}, Reps B Z H ds vs → vs.length = ds.length
  | [], vs, h => by simp only [Reps] at h; rw [h]; rfl
  | d :: ds, vs, h => by
    simp only [Reps] at h
    obtain ⟨x, r, e, _, h2⟩ := h
    rw [e, List.length_cons, List.length_cons, Reps.length h2]
theorem Reps.get : ∀ {ds : List D} {vs : List V} {j : Nat} {d : D}, Reps B Z H ds vs → ds[j]? = some d → ∃ v, vs[j]? = some v ∧ Rep B Z H d v
  | [], vs, j, d, h, e => by simp at e
  | d0 :: ds, vs, j, d, h, e => by
    simp only [Reps] at h
    obtain ⟨x, r, e0, h1, h2⟩ := h
    subst e0
    cases j with
    | zero =>
      have e' : d0 = d := by simpa using e
      subst e'
      exact ⟨x, rfl, h1⟩
    | succ j =>
      obtain ⟨v, h3, h4⟩ := Reps.get h2 (j := j) (d := d) (by simpa using e)
      exact ⟨v, by simpa using h3, h4⟩
theorem Reps.append : ∀ {ds es : List D} {vs us : List V}, Reps B Z H ds vs → Reps B Z H es us → Reps B Z H (ds ++ es) (vs ++ us)
  | [], es, vs, us, h, k => by
    simp only [Reps] at h
    rw [h]
    exact k
  | d :: ds, es, vs, us, h, k => by
    simp only [Reps] at h
    obtain ⟨x, r, e, h1, h2⟩ := h
    subst e
    simp only [List.cons_append, Reps]
    exact ⟨x, r ++ us, rfl, h1, Reps.append h2 k⟩
/-- an entry of a dict, its key there -/
theorem RepOk.split : ∀ {kvs : List (D × OV)} {es : List DictEntry} {fp : List Addr} {k : D} {c : OV}, RepOk B Z H kvs es fp → dget k kvs = some c →
    ∃ (j : Nat) (e : DictEntry) (k' : D) (v : V) (fpc rest : List Addr), es[j]? = some e ∧ kvs[j]? = some (k', c) ∧ keq k' k = true ∧ RelV v e.val ∧ RepO B Z H c v fpc ∧ fp.Perm (fpc ++ rest) ∧
      (∀ (Z' : Addr → Prop) (H' : Hp) (c' : OV) (v' : V) (u' : Value) (fpc' : List Addr), Gr Z Z' H H' → Kept rest H H' → RelV v' u' → RepO B Z' H' c' v' fpc' →
        ∃ fp', RepOk B Z' H' (dput k c' kvs) (es.set j { e with val := u' }) fp' ∧ fp'.Perm (fpc' ++ rest)) ∧
      (∀ (Z' : Addr → Prop) (H' : Hp), Gr Z Z' H H' → Kept rest H H' → ∃ fp', RepOk B Z' H' (ddel k kvs) (es.eraseIdx j) fp' ∧ fp'.Perm rest)
  | [], es, fp, k, c, h, e => by simp [dget] at e
  | (k0, o) :: kvs, es, fp, k, c, h, e => by
    simp only [RepOk] at h
    obtain ⟨en, er, f1, f2, e0, ⟨vk, rk, hk⟩, hh, ⟨vv, rv, hv⟩, h2, e3⟩ := h
    subst e0; subst e3
    simp only [dget] at e
    by_cases hq : keq k0 k = true
    · rw [if_pos hq] at e
      have e' : o = c := by simpa using e
      subst e'
      refine ⟨0, en, k0, vv, f1, f2, rfl, rfl, hq, rv, hv, .refl _, fun Z' H' c' v' u' fpc' g kk r' hc => ⟨fpc' ++ f2, ?_, .refl _⟩, fun Z' H' g kk => ⟨f2, ?_, .refl _⟩⟩
      · simp only [dput, if_pos hq, List.set_cons_zero, RepOk]
        exact ⟨_, er, fpc', f2, rfl, ⟨vk, rk, hk.mono g⟩, hh, ⟨v', r', hc⟩, h2.mono g kk, rfl⟩
      · simp only [ddel, if_pos hq]
        simpa using h2.mono g kk
    · rw [if_neg hq] at e
      obtain ⟨j, en', k', v, fpc, rest, hj, hkj, hkq, rv', hc, hp, hs, hd⟩ := RepOk.split h2 e
      refine ⟨j + 1, en', k', v, fpc, f1 ++ rest, by simpa using hj, by simpa using hkj, hkq, rv', hc, (hp.append_left f1).trans (perm_mid _ _ _), fun Z' H' c' v' u' fpc' g kk r' hc' => ?_, fun Z' H' g kk => ?_⟩
      · obtain ⟨fp', h', p'⟩ := hs Z' H' c' v' u' fpc' g kk.r r' hc'
        refine ⟨f1 ++ fp', ?_, (p'.append_left f1).trans (perm_mid _ _ _)⟩
        simp only [dput, if_neg hq, List.set_cons_succ, RepOk]
        exact ⟨en, _, f1, fp', rfl, ⟨vk, rk, hk.mono g⟩, hh, ⟨vv, rv, hv.mono g kk.l⟩, h', rfl⟩
      · obtain ⟨fp', h', p'⟩ := hd Z' H' g kk.r
        refine ⟨f1 ++ fp', ?_, p'.append_left f1⟩
        simp only [ddel, if_neg hq, List.eraseIdx_cons_succ, RepOk]
        exact ⟨en, _, f1, fp', rfl, ⟨vk, rk, hk.mono g⟩, hh, ⟨vv, rv, hv.mono g kk.l⟩, h', rfl⟩
theorem RepOk.new : ∀ {kvs : List (D × OV)} {es : List DictEntry} {fp : List Addr} {k : D} {c : OV} {e : DictEntry} {fpc : List Addr}, RepOk B Z H kvs es fp → dget k kvs = none →
    (∃ v, RelV v e.key ∧ Rep B Z H k v) → e.hash = hashD B.w k → (∃ v, RelV v e.val ∧ RepO B Z H c v fpc) → RepOk B Z H (dput k c kvs) (es ++ [e]) (fp ++ fpc)
  | [], es, fp, k, c, e, fpc, h, hn, hk, hh, hv => by
    simp only [RepOk] at h
    rw [h.1, h.2]
    simp only [dput, List.nil_append, RepOk]
    exact ⟨e, [], fpc, [], rfl, hk, hh, hv, ⟨rfl, rfl⟩, by simp⟩
  | (k0, o) :: kvs, es, fp, k, c, e, fpc, h, hn, hk, hh, hv => by
    simp only [RepOk] at h
    obtain ⟨en, er, f1, f2, e0, hk0, hh0, hv0, h2, e3⟩ := h
    subst e0; subst e3
    simp only [dget] at hn
    by_cases hq : keq k0 k = true
    · rw [if_pos hq] at hn; cases hn
    · rw [if_neg hq] at hn
      simp only [dput, if_neg hq, List.cons_append, RepOk]
      exact ⟨en, er ++ [e], f1, f2 ++ fpc, rfl, hk0, hh0, hv0, RepOk.new h2 hn hk hh hv, by rw [List.append_assoc]⟩
theorem RepOk.length : ∀ {kvs : List (D × OV)} {es : List DictEntry} {fp : List Addr}, RepOk B Z H kvs es fp → es.length = kvs.length
  | [], es, fp, h => by simp only [RepOk] at h; rw [h.1]; rfl
  | (k, o) :: kvs, es, fp, h => by
    simp only [RepOk] at h
    obtain ⟨e, er, f1, f2, e0, _, _, _, h2, _⟩ := h
    rw [e0, List.length_cons, List.length_cons, RepOk.length h2]
/-- a field -/
theorem RepOf.split : ∀ {fs : List (String × OV)} {xs : List (Str × V)} {fp : List Addr} {f : String} {c : OV}, RepOf B Z H fs xs fp → fget f fs = some c →
    ∃ (v : V) (fpc rest : List Addr), xs.lookup (Str.ofString f) = some v ∧ RepO B Z H c v fpc ∧ fp.Perm (fpc ++ rest) ∧
      (∀ (Z' : Addr → Prop) (H' : Hp) (c' : OV) (fpc' : List Addr), Gr Z Z' H H' → Kept rest H H' → RepO B Z' H' c' v fpc' → ∃ fp', RepOf B Z' H' (fput f c' fs) xs fp' ∧ fp'.Perm (fpc' ++ rest))
  | [], xs, fp, f, c, h, e => by simp [fget] at e
  | (f0, o) :: fs, xs, fp, f, c, h, e => by
    simp only [RepOf] at h
    obtain ⟨x, xr, f1, f2, e0, h1, h2, e3⟩ := h
    subst e0; subst e3
    simp only [fget] at e
    by_cases hq : f0 = f
    · subst hq
      rw [if_pos rfl] at e
      have e' : o = c := by simpa using e
      subst e'
      refine ⟨x, f1, f2, by simp [List.lookup], h1, .refl _, fun Z' H' c' fpc' g k hc => ⟨fpc' ++ f2, ?_, .refl _⟩⟩
      simp only [fput, if_true, RepOf]
      exact ⟨x, xr, fpc', f2, rfl, hc, h2.mono g k, rfl⟩
    · rw [if_neg hq] at e
      obtain ⟨v, fpc, rest, hl, hc, hp, hs⟩ := RepOf.split h2 e
      have hne : (Str.ofString f == Str.ofString f0) = false := beq_eq_false_iff_ne.mpr fun z => hq (ofString_inj z.symm)
      refine ⟨v, fpc, f1 ++ rest, by simp [List.lookup, hne, hl], hc, (hp.append_left f1).trans (perm_mid _ _ _), fun Z' H' c' fpc' g k hc' => ?_⟩
      obtain ⟨fp', h', p'⟩ := hs Z' H' c' fpc' g k.r hc'
      refine ⟨f1 ++ fp', ?_, (p'.append_left f1).trans (perm_mid _ _ _)⟩
      simp only [fput, if_neg hq, RepOf]
      exact ⟨x, xr, f1, fp', rfl, h1.mono g k.l, h', rfl⟩
theorem RepOf.none : ∀ {fs : List (String × OV)} {xs : List (Str × V)} {fp : List Addr} {f : String}, RepOf B Z H fs xs fp → fget f fs = none → xs.lookup (Str.ofString f) = none
  | [], xs, fp, f, h, e => by simp only [RepOf] at h; rw [h.1]; rfl
  | (f0, o) :: fs, xs, fp, f, h, e => by
    simp only [RepOf] at h
    obtain ⟨x, xr, f1, f2, e0, h1, h2, e3⟩ := h
    subst e0
    simp only [fget] at e
    by_cases hq : f0 = f
    · subst hq; rw [if_pos rfl] at e; cases e
    · rw [if_neg hq] at e
      have hne : (Str.ofString f == Str.ofString f0) = false := beq_eq_false_iff_ne.mpr fun z => hq (ofString_inj z.symm)
      simp [List.lookup, hne, RepOf.none h2 e]
end
end Ev
/-! Ev6: dicts whose keys are any data that can be keys. -/
namespace Ev
open PySem PySem.Spec L2
open Sem (wp)

section
variable {prog : Program} {w : World} {A : Around} {E : Value → Shared → Prop} {s : Shared}
/-- the entries of a dict, by their keys -/
structure EntK (w : World) (h : Heap) (es : Array DictEntry) (ks : List NestedKey) : Prop where
  len : ks.length = es.size
  ent : ∀ (j : Nat) (e : DictEntry), es[j]? = some e → ∃ k, ks[j]? = some k ∧ NestedIs h k e.key ∧ k.depth ≤ 8 ∧ e.hash = k.hash w
  nd : ks.Nodup
theorem EntK.nokey {h : Heap} {es : Array DictEntry} {ks : List NestedKey} (x : EntK w h es ks) {k : NestedKey} {j : Nat} (hj : ks[j]? = some k) : ((es[j]?.map (·.hash)) == some (k.hash w)) = true := by
  have hl : j < es.size := by
    rw [← x.len]
    exact (List.getElem?_eq_some_iff.mp hj).1
  obtain ⟨k', h1, _, _, h4⟩ := x.ent j _ (Array.getElem?_eq_getElem hl)
  rw [hj] at h1; cases h1
  rw [Array.getElem?_eq_getElem hl, Option.map_some, h4]
  simp
theorem key_uniq {ks : List NestedKey} (hn : ks.Nodup) {i j : Nat} {k : NestedKey} (hi : ks[i]? = some k) (hj : ks[j]? = some k) : i = j :=
  (List.getElem?_inj (List.getElem?_eq_some_iff.mp hi).1 hn).mp (hi.trans hj.symm)

theorem dictWalk_key {d : Addr} {o : Obj} {es : Array DictEntry} {ep : Nat} {ks : List NestedKey} {k : NestedKey} {key : Value} {Q : Option Nat → Shared → Prop} (hu : A.units + 8 < cLine) (hkey : NestedIs s.heap k key) (hkd : k.depth ≤ 8)
    (ho : s.heap.get? d = some o) (hd : o.data = .dict es ep) (x : EntK w s.heap es ks)
    (hnone : (∀ (j : Nat), ks[j]? ≠ some k) → Q none s) (hsome : ∀ (j : Nat), ks[j]? = some k → Q (some j) s) :
    wpAny (model prog w) A (dictWalkPlain d key (k.hash w) es (placesWithHash es.size (fun i => es[i]?.map (·.hash)) (k.hash w))) Q E s := by
  refine wpAny_bind ?_
  refine wpAny_forIn_list _
    (fun rest b s' => s' = s ∧ b = (none, ()) ∧ ∃ i, rest = (List.range' i (es.size - i)).filter (fun i => (es[i]?.map (·.hash)) == some (k.hash w)) ∧ i ≤ es.size ∧
      ∀ (j : Nat), j < i → ks[j]? ≠ some k) _ ?_ ?_ _ _
    ⟨rfl, rfl, 0, by rw [placesWithHash, List.range_eq_range', Nat.sub_zero], Nat.zero_le _, fun _ h => absurd h (Nat.not_lt_zero _)⟩
  · rintro y rest b s' ⟨rfl, rfl, i, hr, hi, hno⟩
    obtain ⟨hix, hxn, hpx, hskip, hrest⟩ := filter_range'_cons _ _ _ _ _ hr.symm
    have hlt : y < es.size := by omega
    have hy : es[y]? = some es[y] := Array.getElem?_eq_getElem hlt
    obtain ⟨k', h1, h2, h3, h4⟩ := x.ent y _ hy
    have hbefore : ∀ (j : Nat), j < y → ks[j]? ≠ some k := fun j hj hk => by
      rcases Nat.lt_or_ge j i with h | h
      · exact hno j h hk
      · have := hskip j h hj
        rw [x.nokey hk] at this; cases this
    have hnext : ¬ k' = k → ∃ i, rest = (List.range' i (es.size - i)).filter (fun i => (es[i]?.map (·.hash)) == some (k.hash w)) ∧ i ≤ es.size ∧ ∀ (j : Nat), j < i → ks[j]? ≠ some k := fun hne =>
      ⟨y + 1, by rw [hrest]; congr 2; omega, hlt, fun j hj hk => by
        rcases Nat.lt_or_ge j y with h | h
        · exact hbefore j h hk
        · have : j = y := by omega
          subst this
          rw [h1] at hk; cases hk
          exact hne rfl⟩
    simp only [hy]
    by_cases hh : (es[y].hash == k.hash w) = true
    · rw [if_pos hh]
      refine wpAny_bind (wpAny_dictEpoch ho hd (wpAny_bind (eqAt_key k' k A s' _ _ h2 hkey (by omega) prog w E _ (wpAny_bind (wpAny_dictEpoch ho hd ?_)))))
      show wpAny _ _ (if (ep != ep) = true then _ else _) _ E _
      rw [if_neg (by simp)]
      by_cases hkk : k' = k
      · subst hkk
        rw [NestedKey.beq_self]
        exact wpAny_bind (wpAny_rule (wpAny_pure (wpAny_pure (hsome y h1))))
      · have hb : NestedKey.beq k' k = false := by rw [← NestedKey.decide_eq]; exact decide_eq_false hkk
        rw [hb]
        first
          | exact wpAny_bind (wpAny_pure (wpAny_bind (wpAny_rule (wpAny_pure ⟨rfl, rfl, hnext hkk⟩))))
          | exact wpAny_bind (wpAny_rule (wpAny_pure ⟨rfl, rfl, hnext hkk⟩))
    · rw [if_neg hh]
      refine wpAny_pure ⟨rfl, rfl, hnext fun e => ?_⟩
      subst e
      rw [h4] at hh; simp at hh
  · rintro b s' ⟨rfl, rfl, i, hr, hi, hno⟩
    refine wpAny_pure (hnone fun j hk => ?_)
    rcases Nat.lt_or_ge j i with h | h
    · exact hno j h hk
    · have hj : j < es.size := by rw [← x.len]; exact (List.getElem?_eq_some_iff.mp hk).1
      have := List.filter_eq_nil_iff.mp hr.symm j (List.mem_range'_1.mpr ⟨h, by omega⟩)
      exact this (x.nokey hk)

theorem tableMayTell_key {key : Value} {k : NestedKey} {stored : List Value} {Q : Bool → Shared → Prop} (hkey : NestedIs s.heap k key) (hkd : k.depth ≤ 8)
    (hst : ∀ v ∈ stored, ∃ k', NestedIs s.heap k' v ∧ k'.depth ≤ 8) (h : Q false s) : wpAny (model prog w) A (tableMayTell key stored) Q E s := by
  unfold tableMayTell
  split
  · exact wpAny_pure h
  · refine wpAny_bind (quiet_key k key 8 s hkey hkd A E _ ?_)
    simp only [Bool.not_true, Bool.false_eq_true, if_false]
    refine wpAny_bind ?_
    refine wpAny_forIn_list _ (fun rest r s' => s' = s ∧ r = (none, ()) ∧ ∀ v ∈ rest, ∃ k', NestedIs s.heap k' v ∧ k'.depth ≤ 8) _ ?_ ?_ _ _ ⟨rfl, rfl, hst⟩
    · rintro x rest r s' ⟨rfl, rfl, hr⟩
      obtain ⟨k', hb, hd⟩ := hr x List.mem_cons_self
      refine wpAny_bind (quiet_key k' x 8 _ hb hd A E _ ?_)
      simp only [Bool.not_true, Bool.false_eq_true, if_false]
      exact wpAny_pure ⟨rfl, rfl, fun v hv => hr v (List.mem_cons_of_mem _ hv)⟩
    · rintro r s' ⟨rfl, rfl, _⟩
      exact wpAny_pure h
theorem tellsIf {α : Type} {c : Prop} [Decidable c] {m : Sem Bool} {f : Bool → Sem α} {Q' : α → Shared → Prop} (hm : ∀ Q' : Bool → Shared → Prop, Q' false s → wpAny (model prog w) A m Q' E s) (h : wpAny (model prog w) A (f false) Q' E s) :
    wpAny (model prog w) A (if c then pure false >>= f else m >>= f) Q' E s := by
  split
  · exact wpAny_bind (wpAny_pure h)
  · exact wpAny_bind (hm _ h)
theorem dictFind_key {d : Addr} {o : Obj} {es : Array DictEntry} {ep : Nat} {ks : List NestedKey} {k : NestedKey} {key : Value} {Q : Option Nat → Shared → Prop} (hu : A.units + 8 < cLine) (hkey : NestedIs s.heap k key) (hkd : k.depth ≤ 8)
    (ho : s.heap.get? d = some o) (hd : o.data = .dict es ep) (x : EntK w s.heap es ks)
    (hnone : (∀ (j : Nat), ks[j]? ≠ some k) → Q none s) (hsome : ∀ (j : Nat), ks[j]? = some k → Q (some j) s) :
    wpAny (model prog w) A (dictFind d key (k.hash w)) Q E s := by
  have entAt : ∀ e ∈ es, ∃ (j : Nat) (k' : NestedKey), es[j]? = some e ∧ ks[j]? = some k' ∧ NestedIs s.heap k' e.key ∧ k'.depth ≤ 8 ∧ e.hash = k'.hash w := fun e he => by
    obtain ⟨j, hj, rfl⟩ := Array.mem_iff_getElem.mp he
    obtain ⟨k', r⟩ := x.ent j _ (Array.getElem?_eq_getElem hj)
    exact ⟨j, k', Array.getElem?_eq_getElem hj, r⟩
  -- all keys are texts
  by_cases hstr : (∃ y t, key = .str y t) ∧ (es.all fun e => isExactStrKey e.key) = true
  · obtain ⟨⟨y, t, rfl⟩, hall⟩ := hstr
    have hk : k = .text y := by cases hkey; rfl
    subst hk
    refine PyProof.Rows.KTD.kt_dictFind_strs ho hd hall ?_
    have keyAt : ∀ (j : Nat) (hj : j < es.size), (es[j].key.isStr y = true) ↔ ks[j]? = some (.text y) := fun j hj => by
      obtain ⟨k', h1, h2, _, _⟩ := x.ent j _ (Array.getElem?_eq_getElem hj)
      constructor
      · intro hs
        obtain ⟨t', e'⟩ := PyProof.Rows.KTD.kt_isStr hs
        rw [e'] at h2
        cases h2
        exact h1
      · intro hs
        rw [h1] at hs; cases hs
        generalize he : es[j].key = ky at h2
        cases h2
        simp [Value.isStr]
    cases hf : es.findIdx? (fun e => e.key.isStr y) with
    | none =>
      refine hnone fun j hj => ?_
      have hl : j < es.size := by rw [← x.len]; exact (List.getElem?_eq_some_iff.mp hj).1
      have := Array.findIdx?_eq_none_iff.mp hf es[j] (Array.getElem_mem hl)
      rw [(keyAt j hl).mpr hj] at this; cases this
    | some i =>
      obtain ⟨hlt, hi, _⟩ := Array.findIdx?_eq_some_iff_getElem.mp hf
      exact hsome i ((keyAt i hlt).mp hi)
  have hst : ∀ v ∈ (placesWithHash es.size (fun i => es[i]?.map (·.hash)) (k.hash w)).filterMap (fun i => es[i]?.map (·.key)), ∃ k', NestedIs s.heap k' v ∧ k'.depth ≤ 8 := by
    intro v hv
    obtain ⟨i, _, hi⟩ := List.mem_filterMap.mp hv
    cases hei : es[i]? with
    | none => rw [hei] at hi; cases hi
    | some e =>
      rw [hei] at hi
      obtain rfl : e.key = v := by simpa using hi
      obtain ⟨_, k', _, _, h1, h2, _⟩ := entAt e (Array.mem_of_getElem? hei)
      exact ⟨k', h1, h2⟩
  have hsame : ∀ e ∈ es, (e.key == key) = true → e.hash = k.hash w := by
    intro e hin hxa
    obtain ⟨j, k', _, _, h1, _, h2⟩ := entAt e hin
    rw [h2]
    cases hkey with
    | @tup a o' vs n ks' q1 q2 q3 q4 =>
      have e1 : e.key = .ref a := eq_of_beq hxa
      rw [e1] at h1
      rw [NestedIs.inj _ _ _ h1 (.tup q1 q2 q3 q4)]
    | none =>
      have e1 : e.key = .none := eq_of_beq hxa
      rw [e1] at h1
      rw [NestedIs.inj _ _ _ h1 .none]
    | bool q =>
      have e1 := eq_of_beq hxa
      rw [e1] at h1
      rw [NestedIs.inj _ _ _ h1 (.bool q)]
    | int q t =>
      have e1 := eq_of_beq hxa
      rw [e1] at h1
      rw [NestedIs.inj _ _ _ h1 (.int q t)]
    | text q t =>
      have e1 := eq_of_beq hxa
      rw [e1] at h1
      rw [NestedIs.inj _ _ _ h1 (.text q t)]
  have hany : ¬ (es.any fun e => e.key == key && e.hash != k.hash w) = true := by
    rw [← Array.any_toList, List.any_eq_true]
    rintro ⟨e, hin, hc⟩
    simp only [Bool.and_eq_true, bne_iff_ne, ne_eq] at hc
    exact hc.2 (hsame e (Array.mem_toList_iff.mp hin) hc.1)
  have hkey' := hkey
  unfold dictFind
  try with_reducible refine wpAny_holding ?_
  refine wpAny_bind (wpAny_dictEntries ho hd ?_)
  dsimp only
  have hplain := dictWalk_key (prog := prog) (Q := Q) (E := E) hu hkey hkd ho hd x hnone hsome
  have htells : ∀ (Q' : Bool → Shared → Prop), Q' false s → wpAny (model prog w) A (tableMayTell key ((placesWithHash es.size (fun i => es[i]?.map (·.hash)) (k.hash w)).filterMap (fun i => es[i]?.map (·.key)))) Q' E s :=
    fun Q' h => tableMayTell_key hkey hkd hst h
  have heq : ∀ (k' : NestedKey) (v : Value) (Q' : Bool → Shared → Prop), NestedIs s.heap k' v → k'.depth ≤ 8 → Q' (NestedKey.beq k' k) s → wpAny (model prog w) A (eqBool v key) Q' E s :=
    fun k' v Q' h1 h2 h3 => eqAt_key k' k A s v key h1 hkey (by omega) prog w E Q' h3
  by_cases hbv : (key :: (placesWithHash es.size (fun i => es[i]?.map (·.hash)) (k.hash w)).filterMap (fun i => es[i]?.map (·.key))).all carriedByValue = true
  · cases hkey with
    | text y t =>
      have hno : ¬ (es.all fun e => isExactStrKey e.key) = true := fun h => hstr ⟨⟨y, t, rfl⟩, h⟩
      simp only [if_neg hno]
      rw [if_pos hbv]
      first | exact hplain | exact wpAny_bind (wpAny_mono hplain (fun r s' h => wpAny_pure h) fun _ _ h => h)
    | _ =>
      rw [if_pos hbv]
      first | exact hplain | exact wpAny_bind (wpAny_mono hplain (fun r s' h => wpAny_pure h) fun _ _ h => h)
  -- the loop
  have stay : ∀ (hit : Option Nat) (i y : Nat) (k' : NestedKey), ks[y]? = some k' → i ≤ y → (∀ j, i ≤ j → j < y → ((es[j]?.map (·.hash)) == some (k.hash w)) = false) →
      ((hit = none ∧ ∀ (j : Nat), j < i → ks[j]? ≠ some k) ∨ ∃ j : Nat, hit = some j ∧ j < i ∧ ks[j]? = some k) →
      ((hit = none ∧ ∀ (j : Nat), j < y → ks[j]? ≠ some k) ∨ ∃ j : Nat, hit = some j ∧ j < y ∧ ks[j]? = some k) := by
    intro hit i y k' hy hiy hskip hH
    rcases hH with ⟨h0, hno⟩ | ⟨j, h1, h2, h3⟩
    · refine .inl ⟨h0, fun j hjy hj => ?_⟩
      rcases Nat.lt_or_ge j i with h | h
      · exact hno j h hj
      · have := hskip j h hjy
        rw [x.nokey hj] at this; cases this
    · exact .inr ⟨j, h1, by omega, h3⟩
  have stay2 : ∀ (hit : Option Nat) (y : Nat) (k' : NestedKey), ks[y]? = some k' → ¬ k' = k →
      ((hit = none ∧ ∀ (j : Nat), j < y → ks[j]? ≠ some k) ∨ ∃ j : Nat, hit = some j ∧ j < y ∧ ks[j]? = some k) →
      ((hit = none ∧ ∀ (j : Nat), j < y + 1 → ks[j]? ≠ some k) ∨ ∃ j : Nat, hit = some j ∧ j < y + 1 ∧ ks[j]? = some k) := by
    intro hit y k' hy hne hH
    rcases hH with ⟨h0, hno⟩ | ⟨j, h1, h2, h3⟩
    · refine .inl ⟨h0, fun j hjy hj => ?_⟩
      rcases Nat.lt_or_ge j y with h | h
      · exact hno j h hj
      · have : j = y := by omega
        subst this
        rw [hy] at hj; cases hj
        exact hne rfl
    · exact .inr ⟨j, h1, by omega, h3⟩
  clear hplain
  have shape : (∃ y t, key = .str y t) ∨ (∃ a, key = .ref a) ∨ key = .none ∨ (∃ b, key = .bool b) ∨ ∃ i t, key = .int i t := by
    cases hkey with
    | none => exact .inr (.inr (.inl rfl))
    | bool q => exact .inr (.inr (.inr (.inl ⟨_, rfl⟩)))
    | int q t => exact .inr (.inr (.inr (.inr ⟨_, _, rfl⟩)))
    | text q t => exact .inl ⟨_, _, rfl⟩
    | tup q1 q2 q3 q4 => exact .inr (.inl ⟨_, rfl⟩)
  rcases shape with ⟨y, t, rfl⟩ | ⟨a, rfl⟩ | rfl | ⟨b, rfl⟩ | ⟨i, t, rfl⟩
  · have hno : ¬ (es.all fun e => isExactStrKey e.key) = true := fun h => hstr ⟨⟨y, t, rfl⟩, h⟩
    simp only [if_neg hno]
    rw [if_neg hbv]
    refine tellsIf htells ?_
    rw [if_neg (by simp)]
    refine wpAny_bind ?_
    refine wpAny_forIn_list _
      (fun rest b s' => s' = s ∧ ∃ i hit, b = (none, hit) ∧ rest = (List.range' i (es.size - i)).filter (fun i => (es[i]?.map (·.hash)) == some (k.hash w)) ∧ i ≤ es.size ∧
        ((hit = none ∧ ∀ (j : Nat), j < i → ks[j]? ≠ some k) ∨ ∃ j : Nat, hit = some j ∧ j < i ∧ ks[j]? = some k)) _ ?_ ?_ _ _
      ⟨rfl, 0, none, rfl, by rw [placesWithHash, List.range_eq_range', Nat.sub_zero], Nat.zero_le _, .inl ⟨rfl, fun _ h => absurd h (Nat.not_lt_zero _)⟩⟩
    · rintro y rest b s' ⟨rfl, i, hit, rfl, hr, hi, hH⟩
      obtain ⟨hix, hxn, hpx, hskip, hrest⟩ := filter_range'_cons _ _ _ _ _ hr.symm
      have hlt : y < es.size := by omega
      have hrest' : rest = (List.range' (y + 1) (es.size - (y + 1))).filter (fun i => (es[i]?.map (·.hash)) == some (k.hash w)) := by rw [hrest]; congr 2; omega
      have hy : es[y]? = some es[y] := Array.getElem?_eq_getElem hlt
      obtain ⟨k', h1, h2, h3, h4⟩ := x.ent y _ hy
      have hHy := stay hit i y k' h1 hix hskip hH
      rw [hy]
      dsimp only
      by_cases hh : (es[y].hash == k.hash w) = true
      · rw [if_pos hh]
        refine wpAny_bind (wpAny_dictEpoch ho hd (wpAny_bind (heq k' _ _ h2 h3 (wpAny_bind (wpAny_dictEpoch ho hd ?_)))))
        show wpAny _ _ (if (ep != ep) = true then _ else _) _ E _
        rw [if_neg (by simp)]
        by_cases hkk : k' = k
        · subst hkk
          rw [NestedKey.beq_self]
          rcases hHy with ⟨rfl, hno'⟩ | ⟨j, _, hjx, hj⟩
          · first | rw [if_pos rfl] | skip
            simp only [Option.isSome_none, Bool.false_eq_true, if_false]
            first | refine wpAny_bind (wpAny_pure ?_) | skip
            refine wpAny_bind (wpAny_rule ?_)
            split
            · exact wpAny_pure (wpAny_pure (hsome y h1))
            · exact wpAny_pure ⟨rfl, y + 1, some y, rfl, hrest', hlt, .inr ⟨y, rfl, Nat.lt_succ_self y, h1⟩⟩
          · exact absurd (key_uniq x.nd hj h1) (by omega)
        · have hb : NestedKey.beq k' k = false := by rw [← NestedKey.decide_eq]; exact decide_eq_false hkk
          rw [hb]
          simp only [Bool.false_eq_true, if_false]
          refine wpAny_bind (wpAny_rule ?_)
          first | rw [if_neg (by simp)] | skip
          first
            | exact wpAny_pure ⟨rfl, y + 1, hit, rfl, hrest', hlt, stay2 hit y k' h1 hkk hHy⟩
            | exact wpAny_bind (wpAny_pure (wpAny_pure ⟨rfl, y + 1, hit, rfl, hrest', hlt, stay2 hit y k' h1 hkk hHy⟩))
      · rw [if_neg hh]
        refine wpAny_pure ⟨rfl, y + 1, hit, rfl, hrest', hlt, stay2 hit y k' h1 (fun e => ?_) hHy⟩
        subst e
        rw [h4] at hh; simp at hh
    · rintro b s' ⟨rfl, i, hit, rfl, hr, hi, hH⟩
      have hall : ∀ j, i ≤ j → j < es.size → ((es[j]?.map (·.hash)) == some (k.hash w)) = false := by
        intro j h1 h2
        have := List.filter_eq_nil_iff.mp hr.symm j (List.mem_range'_1.mpr ⟨h1, by omega⟩)
        simpa using this
      rcases hH with ⟨rfl, hno'⟩ | ⟨j, rfl, _, hj⟩
      · refine wpAny_pure (hnone fun j hj => ?_)
        rcases Nat.lt_or_ge j i with h | h
        · exact hno' j h hj
        · have hjl : j < es.size := by rw [← x.len]; exact (List.getElem?_eq_some_iff.mp hj).1
          have := hall j h hjl
          rw [x.nokey hj] at this; cases this
      · exact wpAny_pure (hsome j hj)
  · dsimp only
    rw [if_neg hbv, if_neg hany]
    refine tellsIf htells ?_
    rw [if_neg (by simp)]
    refine wpAny_bind ?_
    refine wpAny_forIn_list _
      (fun rest b s' => s' = s ∧ ∃ i hit, b = (none, hit) ∧ rest = (List.range' i (es.size - i)).filter (fun i => (es[i]?.map (·.hash)) == some (k.hash w)) ∧ i ≤ es.size ∧
        ((hit = none ∧ ∀ (j : Nat), j < i → ks[j]? ≠ some k) ∨ ∃ j : Nat, hit = some j ∧ j < i ∧ ks[j]? = some k)) _ ?_ ?_ _ _
      ⟨rfl, 0, none, rfl, by rw [placesWithHash, List.range_eq_range', Nat.sub_zero], Nat.zero_le _, .inl ⟨rfl, fun _ h => absurd h (Nat.not_lt_zero _)⟩⟩
    · rintro y rest b s' ⟨rfl, i, hit, rfl, hr, hi, hH⟩
      obtain ⟨hix, hxn, hpx, hskip, hrest⟩ := filter_range'_cons _ _ _ _ _ hr.symm
      have hlt : y < es.size := by omega
      have hrest' : rest = (List.range' (y + 1) (es.size - (y + 1))).filter (fun i => (es[i]?.map (·.hash)) == some (k.hash w)) := by rw [hrest]; congr 2; omega
      have hy : es[y]? = some es[y] := Array.getElem?_eq_getElem hlt
      obtain ⟨k', h1, h2, h3, h4⟩ := x.ent y _ hy
      have hHy := stay hit i y k' h1 hix hskip hH
      rw [hy]
      dsimp only
      by_cases hh : (es[y].hash == k.hash w) = true
      · rw [if_pos hh]
        refine wpAny_bind (wpAny_dictEpoch ho hd (wpAny_bind (heq k' _ _ h2 h3 (wpAny_bind (wpAny_dictEpoch ho hd ?_)))))
        show wpAny _ _ (if (ep != ep) = true then _ else _) _ E _
        rw [if_neg (by simp)]
        by_cases hkk : k' = k
        · subst hkk
          rw [NestedKey.beq_self]
          rcases hHy with ⟨rfl, hno'⟩ | ⟨j, _, hjx, hj⟩
          · first | rw [if_pos rfl] | skip
            simp only [Option.isSome_none, Bool.false_eq_true, if_false]
            first | refine wpAny_bind (wpAny_pure ?_) | skip
            refine wpAny_bind (wpAny_rule ?_)
            split
            · exact wpAny_pure (wpAny_pure (hsome y h1))
            · exact wpAny_pure ⟨rfl, y + 1, some y, rfl, hrest', hlt, .inr ⟨y, rfl, Nat.lt_succ_self y, h1⟩⟩
          · exact absurd (key_uniq x.nd hj h1) (by omega)
        · have hb : NestedKey.beq k' k = false := by rw [← NestedKey.decide_eq]; exact decide_eq_false hkk
          rw [hb]
          simp only [Bool.false_eq_true, if_false]
          refine wpAny_bind (wpAny_rule ?_)
          first | rw [if_neg (by simp)] | skip
          first
            | exact wpAny_pure ⟨rfl, y + 1, hit, rfl, hrest', hlt, stay2 hit y k' h1 hkk hHy⟩
            | exact wpAny_bind (wpAny_pure (wpAny_pure ⟨rfl, y + 1, hit, rfl, hrest', hlt, stay2 hit y k' h1 hkk hHy⟩))
      · rw [if_neg hh]
        refine wpAny_pure ⟨rfl, y + 1, hit, rfl, hrest', hlt, stay2 hit y k' h1 (fun e => ?_) hHy⟩
        subst e
        rw [h4] at hh; simp at hh
    · rintro b s' ⟨rfl, i, hit, rfl, hr, hi, hH⟩
      have hall : ∀ j, i ≤ j → j < es.size → ((es[j]?.map (·.hash)) == some (k.hash w)) = false := by
        intro j h1 h2
        have := List.filter_eq_nil_iff.mp hr.symm j (List.mem_range'_1.mpr ⟨h1, by omega⟩)
        simpa using this
      rcases hH with ⟨rfl, hno'⟩ | ⟨j, rfl, _, hj⟩
      · refine wpAny_pure (hnone fun j hj => ?_)
        rcases Nat.lt_or_ge j i with h | h
        · exact hno' j h hj
        · have hjl : j < es.size := by rw [← x.len]; exact (List.getElem?_eq_some_iff.mp hj).1
          have := hall j h hjl
          rw [x.nokey hj] at this; cases this
      · exact wpAny_pure (hsome j hj)
  · dsimp only
    rw [if_neg hbv]
    refine tellsIf htells ?_
    rw [if_neg (by simp)]
    refine wpAny_bind ?_
    refine wpAny_forIn_list _
      (fun rest b s' => s' = s ∧ ∃ i hit, b = (none, hit) ∧ rest = (List.range' i (es.size - i)).filter (fun i => (es[i]?.map (·.hash)) == some (k.hash w)) ∧ i ≤ es.size ∧
        ((hit = none ∧ ∀ (j : Nat), j < i → ks[j]? ≠ some k) ∨ ∃ j : Nat, hit = some j ∧ j < i ∧ ks[j]? = some k)) _ ?_ ?_ _ _
      ⟨rfl, 0, none, rfl, by rw [placesWithHash, List.range_eq_range', Nat.sub_zero], Nat.zero_le _, .inl ⟨rfl, fun _ h => absurd h (Nat.not_lt_zero _)⟩⟩
    · rintro y rest b s' ⟨rfl, i, hit, rfl, hr, hi, hH⟩
      obtain ⟨hix, hxn, hpx, hskip, hrest⟩ := filter_range'_cons _ _ _ _ _ hr.symm
      have hlt : y < es.size := by omega
      have hrest' : rest = (List.range' (y + 1) (es.size - (y + 1))).filter (fun i => (es[i]?.map (·.hash)) == some (k.hash w)) := by rw [hrest]; congr 2; omega
      have hy : es[y]? = some es[y] := Array.getElem?_eq_getElem hlt
      obtain ⟨k', h1, h2, h3, h4⟩ := x.ent y _ hy
      have hHy := stay hit i y k' h1 hix hskip hH
      rw [hy]
      dsimp only
      by_cases hh : (es[y].hash == k.hash w) = true
      · rw [if_pos hh]
        refine wpAny_bind (wpAny_dictEpoch ho hd (wpAny_bind (heq k' _ _ h2 h3 (wpAny_bind (wpAny_dictEpoch ho hd ?_)))))
        show wpAny _ _ (if (ep != ep) = true then _ else _) _ E _
        rw [if_neg (by simp)]
        by_cases hkk : k' = k
        · subst hkk
          rw [NestedKey.beq_self]
          rcases hHy with ⟨rfl, hno'⟩ | ⟨j, _, hjx, hj⟩
          · first | rw [if_pos rfl] | skip
            simp only [Option.isSome_none, Bool.false_eq_true, if_false]
            first | refine wpAny_bind (wpAny_pure ?_) | skip
            refine wpAny_bind (wpAny_rule ?_)
            split
            · exact wpAny_pure (wpAny_pure (hsome y h1))
            · exact wpAny_pure ⟨rfl, y + 1, some y, rfl, hrest', hlt, .inr ⟨y, rfl, Nat.lt_succ_self y, h1⟩⟩
          · exact absurd (key_uniq x.nd hj h1) (by omega)
        · have hb : NestedKey.beq k' k = false := by rw [← NestedKey.decide_eq]; exact decide_eq_false hkk
          rw [hb]
          simp only [Bool.false_eq_true, if_false]
          refine wpAny_bind (wpAny_rule ?_)
          first | rw [if_neg (by simp)] | skip
          first
            | exact wpAny_pure ⟨rfl, y + 1, hit, rfl, hrest', hlt, stay2 hit y k' h1 hkk hHy⟩
            | exact wpAny_bind (wpAny_pure (wpAny_pure ⟨rfl, y + 1, hit, rfl, hrest', hlt, stay2 hit y k' h1 hkk hHy⟩))
      · rw [if_neg hh]
        refine wpAny_pure ⟨rfl, y + 1, hit, rfl, hrest', hlt, stay2 hit y k' h1 (fun e => ?_) hHy⟩
        subst e
        rw [h4] at hh; simp at hh
    · rintro b s' ⟨rfl, i, hit, rfl, hr, hi, hH⟩
      have hall : ∀ j, i ≤ j → j < es.size → ((es[j]?.map (·.hash)) == some (k.hash w)) = false := by
        intro j h1 h2
        have := List.filter_eq_nil_iff.mp hr.symm j (List.mem_range'_1.mpr ⟨h1, by omega⟩)
        simpa using this
      rcases hH with ⟨rfl, hno'⟩ | ⟨j, rfl, _, hj⟩
      · refine wpAny_pure (hnone fun j hj => ?_)
        rcases Nat.lt_or_ge j i with h | h
        · exact hno' j h hj
        · have hjl : j < es.size := by rw [← x.len]; exact (List.getElem?_eq_some_iff.mp hj).1
          have := hall j h hjl
          rw [x.nokey hj] at this; cases this
      · exact wpAny_pure (hsome j hj)
  · dsimp only
    rw [if_neg hbv]
    refine tellsIf htells ?_
    rw [if_neg (by simp)]
    refine wpAny_bind ?_
    refine wpAny_forIn_list _
      (fun rest b s' => s' = s ∧ ∃ i hit, b = (none, hit) ∧ rest = (List.range' i (es.size - i)).filter (fun i => (es[i]?.map (·.hash)) == some (k.hash w)) ∧ i ≤ es.size ∧
        ((hit = none ∧ ∀ (j : Nat), j < i → ks[j]? ≠ some k) ∨ ∃ j : Nat, hit = some j ∧ j < i ∧ ks[j]? = some k)) _ ?_ ?_ _ _
      ⟨rfl, 0, none, rfl, by rw [placesWithHash, List.range_eq_range', Nat.sub_zero], Nat.zero_le _, .inl ⟨rfl, fun _ h => absurd h (Nat.not_lt_zero _)⟩⟩
    · rintro y rest b s' ⟨rfl, i, hit, rfl, hr, hi, hH⟩
      obtain ⟨hix, hxn, hpx, hskip, hrest⟩ := filter_range'_cons _ _ _ _ _ hr.symm
      have hlt : y < es.size := by omega
      have hrest' : rest = (List.range' (y + 1) (es.size - (y + 1))).filter (fun i => (es[i]?.map (·.hash)) == some (k.hash w)) := by rw [hrest]; congr 2; omega
      have hy : es[y]? = some es[y] := Array.getElem?_eq_getElem hlt
      obtain ⟨k', h1, h2, h3, h4⟩ := x.ent y _ hy
      have hHy := stay hit i y k' h1 hix hskip hH
      rw [hy]
      dsimp only
      by_cases hh : (es[y].hash == k.hash w) = true
      · rw [if_pos hh]
        refine wpAny_bind (wpAny_dictEpoch ho hd (wpAny_bind (heq k' _ _ h2 h3 (wpAny_bind (wpAny_dictEpoch ho hd ?_)))))
        show wpAny _ _ (if (ep != ep) = true then _ else _) _ E _
        rw [if_neg (by simp)]
        by_cases hkk : k' = k
        · subst hkk
          rw [NestedKey.beq_self]
          rcases hHy with ⟨rfl, hno'⟩ | ⟨j, _, hjx, hj⟩
          · first | rw [if_pos rfl] | skip
            simp only [Option.isSome_none, Bool.false_eq_true, if_false]
            first | refine wpAny_bind (wpAny_pure ?_) | skip
            refine wpAny_bind (wpAny_rule ?_)
            split
            · exact wpAny_pure (wpAny_pure (hsome y h1))
            · exact wpAny_pure ⟨rfl, y + 1, some y, rfl, hrest', hlt, .inr ⟨y, rfl, Nat.lt_succ_self y, h1⟩⟩
          · exact absurd (key_uniq x.nd hj h1) (by omega)
        · have hb : NestedKey.beq k' k = false := by rw [← NestedKey.decide_eq]; exact decide_eq_false hkk
          rw [hb]
          simp only [Bool.false_eq_true, if_false]
          refine wpAny_bind (wpAny_rule ?_)
          first | rw [if_neg (by simp)] | skip
          first
            | exact wpAny_pure ⟨rfl, y + 1, hit, rfl, hrest', hlt, stay2 hit y k' h1 hkk hHy⟩
            | exact wpAny_bind (wpAny_pure (wpAny_pure ⟨rfl, y + 1, hit, rfl, hrest', hlt, stay2 hit y k' h1 hkk hHy⟩))
      · rw [if_neg hh]
        refine wpAny_pure ⟨rfl, y + 1, hit, rfl, hrest', hlt, stay2 hit y k' h1 (fun e => ?_) hHy⟩
        subst e
        rw [h4] at hh; simp at hh
    · rintro b s' ⟨rfl, i, hit, rfl, hr, hi, hH⟩
      have hall : ∀ j, i ≤ j → j < es.size → ((es[j]?.map (·.hash)) == some (k.hash w)) = false := by
        intro j h1 h2
        have := List.filter_eq_nil_iff.mp hr.symm j (List.mem_range'_1.mpr ⟨h1, by omega⟩)
        simpa using this
      rcases hH with ⟨rfl, hno'⟩ | ⟨j, rfl, _, hj⟩
      · refine wpAny_pure (hnone fun j hj => ?_)
        rcases Nat.lt_or_ge j i with h | h
        · exact hno' j h hj
        · have hjl : j < es.size := by rw [← x.len]; exact (List.getElem?_eq_some_iff.mp hj).1
          have := hall j h hjl
          rw [x.nokey hj] at this; cases this
      · exact wpAny_pure (hsome j hj)
  · dsimp only
    rw [if_neg hbv]
    refine tellsIf htells ?_
    rw [if_neg (by simp)]
    refine wpAny_bind ?_
    refine wpAny_forIn_list _
      (fun rest b s' => s' = s ∧ ∃ i hit, b = (none, hit) ∧ rest = (List.range' i (es.size - i)).filter (fun i => (es[i]?.map (·.hash)) == some (k.hash w)) ∧ i ≤ es.size ∧
        ((hit = none ∧ ∀ (j : Nat), j < i → ks[j]? ≠ some k) ∨ ∃ j : Nat, hit = some j ∧ j < i ∧ ks[j]? = some k)) _ ?_ ?_ _ _
      ⟨rfl, 0, none, rfl, by rw [placesWithHash, List.range_eq_range', Nat.sub_zero], Nat.zero_le _, .inl ⟨rfl, fun _ h => absurd h (Nat.not_lt_zero _)⟩⟩
    · rintro y rest b s' ⟨rfl, i, hit, rfl, hr, hi, hH⟩
      obtain ⟨hix, hxn, hpx, hskip, hrest⟩ := filter_range'_cons _ _ _ _ _ hr.symm
      have hlt : y < es.size := by omega
      have hrest' : rest = (List.range' (y + 1) (es.size - (y + 1))).filter (fun i => (es[i]?.map (·.hash)) == some (k.hash w)) := by rw [hrest]; congr 2; omega
      have hy : es[y]? = some es[y] := Array.getElem?_eq_getElem hlt
      obtain ⟨k', h1, h2, h3, h4⟩ := x.ent y _ hy
      have hHy := stay hit i y k' h1 hix hskip hH
      rw [hy]
      dsimp only
      by_cases hh : (es[y].hash == k.hash w) = true
      · rw [if_pos hh]
        refine wpAny_bind (wpAny_dictEpoch ho hd (wpAny_bind (heq k' _ _ h2 h3 (wpAny_bind (wpAny_dictEpoch ho hd ?_)))))
        show wpAny _ _ (if (ep != ep) = true then _ else _) _ E _
        rw [if_neg (by simp)]
        by_cases hkk : k' = k
        · subst hkk
          rw [NestedKey.beq_self]
          rcases hHy with ⟨rfl, hno'⟩ | ⟨j, _, hjx, hj⟩
          · first | rw [if_pos rfl] | skip
            simp only [Option.isSome_none, Bool.false_eq_true, if_false]
            first | refine wpAny_bind (wpAny_pure ?_) | skip
            refine wpAny_bind (wpAny_rule ?_)
            split
            · exact wpAny_pure (wpAny_pure (hsome y h1))
            · exact wpAny_pure ⟨rfl, y + 1, some y, rfl, hrest', hlt, .inr ⟨y, rfl, Nat.lt_succ_self y, h1⟩⟩
          · exact absurd (key_uniq x.nd hj h1) (by omega)
        · have hb : NestedKey.beq k' k = false := by rw [← NestedKey.decide_eq]; exact decide_eq_false hkk
          rw [hb]
          simp only [Bool.false_eq_true, if_false]
          refine wpAny_bind (wpAny_rule ?_)
          first | rw [if_neg (by simp)] | skip
          first
            | exact wpAny_pure ⟨rfl, y + 1, hit, rfl, hrest', hlt, stay2 hit y k' h1 hkk hHy⟩
            | exact wpAny_bind (wpAny_pure (wpAny_pure ⟨rfl, y + 1, hit, rfl, hrest', hlt, stay2 hit y k' h1 hkk hHy⟩))
      · rw [if_neg hh]
        refine wpAny_pure ⟨rfl, y + 1, hit, rfl, hrest', hlt, stay2 hit y k' h1 (fun e => ?_) hHy⟩
        subst e
        rw [h4] at hh; simp at hh
    · rintro b s' ⟨rfl, i, hit, rfl, hr, hi, hH⟩
      have hall : ∀ j, i ≤ j → j < es.size → ((es[j]?.map (·.hash)) == some (k.hash w)) = false := by
        intro j h1 h2
        have := List.filter_eq_nil_iff.mp hr.symm j (List.mem_range'_1.mpr ⟨h1, by omega⟩)
        simpa using this
      rcases hH with ⟨rfl, hno'⟩ | ⟨j, rfl, _, hj⟩
      · refine wpAny_pure (hnone fun j hj => ?_)
        rcases Nat.lt_or_ge j i with h | h
        · exact hno' j h hj
        · have hjl : j < es.size := by rw [← x.len]; exact (List.getElem?_eq_some_iff.mp hj).1
          have := hall j h hjl
          rw [x.nokey hj] at this; cases this
      · exact wpAny_pure (hsome j hj)
end
end Ev
/-! Ev7: dicts: get, set, in, .. at the level of the heap. -/
namespace Ev
open PySem PySem.Spec L2
open Sem (wp)

section
variable {prog : Program} {w : World} {A : Around} {E : Value → Shared → Prop} {s : Shared} {d : Addr} {o : Obj} {es : Array DictEntry} {ep : Nat} {ks : List NestedKey} {k : NestedKey} {key : Value}
theorem units_in1 {A : Around} : A.in1.units = A.units + 1 := by first | exact Around.in1_units | rfl | simp
theorem dictGet_key {Q : Option Value → Shared → Prop} (hu : A.units + 8 < cLine) (hkey : NestedIs s.heap k key) (hkd : k.depth ≤ 8)
    (ho : s.heap.get? d = some o) (hd : o.data = .dict es ep) (x : EntK w s.heap es ks)
    (hnone : (∀ (j : Nat), ks[j]? ≠ some k) → Q none { s with toks := s.toks + k.draws }) (hsome : ∀ (j : Nat) (e : DictEntry), ks[j]? = some k → es[j]? = some e → Q (some e.val) { s with toks := s.toks + k.draws }) :
    wpAny (model prog w) A (dictGet d key) Q E s := by
  unfold dictGet
  try with_reducible refine wpAny_holding ?_
  refine wpAny_bind (pyHash_key k key A s _ hkey (by omega) ?_)
  refine wpAny_bind (dictFind_key (s := { s with toks := s.toks + k.draws }) hu hkey hkd ho hd x (fun h => ?_) (fun j hj => ?_))
  · exact wpAny_pure (hnone h)
  · have hl : j < es.size := by rw [← x.len]; exact (List.getElem?_eq_some_iff.mp hj).1
    have he := Array.getElem?_eq_getElem hl
    refine wpAny_bind (wpAny_dictEntries (s := { s with toks := s.toks + k.draws }) ho hd ?_)
    rw [he]
    exact wpAny_pure (hsome j _ hj he)
theorem EntK.push {h h' : Heap} {v : Value} (x : EntK w h es ks) (hkeep : ∀ (k : NestedKey) (u : Value), NestedIs h k u → NestedIs h' k u) (hkey : NestedIs h k key) (hkd : k.depth ≤ 8) (hno : ∀ (j : Nat), ks[j]? ≠ some k) :
    EntK w h' (es.push ⟨k.hash w, key, v⟩) (ks ++ [k]) where
  len := by simp [x.len]
  ent := fun j e he => by
    rw [Array.getElem?_push] at he
    by_cases hj : j = es.size
    · subst hj
      rw [if_pos rfl] at he; cases he
      exact ⟨k, by rw [← x.len]; simp, hkeep _ _ hkey, hkd, rfl⟩
    · rw [if_neg hj] at he
      obtain ⟨k', h1, h2, h3⟩ := x.ent j e he
      exact ⟨k', by rw [List.getElem?_append_left (List.getElem?_eq_some_iff.mp h1).1]; exact h1, hkeep _ _ h2, h3⟩
  nd := by
    rw [List.nodup_append]
    refine ⟨x.nd, by simp, fun a ha b hb e => ?_⟩
    simp only [List.mem_singleton] at hb
    subst hb; subst e
    obtain ⟨j, hj⟩ := List.mem_iff_getElem?.mp ha
    exact hno j hj
theorem EntK.modify {h h' : Heap} {v : Value} (x : EntK w h es ks) (hkeep : ∀ (k : NestedKey) (u : Value), NestedIs h k u → NestedIs h' k u) (i : Nat) : EntK w h' (es.modify i fun e => { e with val := v }) ks where
  len := by rw [Array.size_modify]; exact x.len
  ent := fun j e he => by
    have hl : j < (es.modify i fun e => { e with val := v }).size := (Array.getElem?_eq_some_iff.mp he).1
    rw [Array.size_modify] at hl
    obtain ⟨k', h1, h2, h3, h4⟩ := x.ent j _ (Array.getElem?_eq_getElem hl)
    rw [Array.getElem?_modify] at he
    refine ⟨k', h1, ?_⟩
    by_cases hj : i = j
    · subst hj
      rw [if_pos rfl, Array.getElem?_eq_getElem hl] at he
      simp only [Option.map_some, Option.some.injEq] at he
      subst he
      exact ⟨hkeep _ _ h2, h3, h4⟩
    · rw [if_neg hj, Array.getElem?_eq_getElem hl] at he
      simp only [Option.some.injEq] at he
      subst he
      exact ⟨hkeep _ _ h2, h3, h4⟩
  nd := x.nd
/-- keys stay keys where a dict is written -/
theorem keys_stay {h : Heap} {f : Obj → Obj} (ho : h.get? d = some o) (hd : o.data = .dict es ep) : ∀ (k : NestedKey) (u : Value), NestedIs h k u → NestedIs (h.update d f) k u := fun k u x =>
  NestedIs.at (fun b ob vs n hb hc => by
    refine (Heap.get?_update_ne _ _ _ _ fun e => ?_).trans hb
    subst e
    rw [ho] at hb; cases hb
    rw [hd] at hc; cases hc) k u x
theorem dictSet_key {v : Value} {Q : Unit → Shared → Prop} (hu : A.units + 8 < cLine) (hkey : NestedIs s.heap k key) (hkd : k.depth ≤ 8)
    (ho : s.heap.get? d = some o) (hc : o.ExactDict) (hd : o.data = .dict es ep) (x : EntK w s.heap es ks) (hsz : es.size ≤ sizeLine)
    (hnew : ∀ (h' : Heap) (o' : Obj) (es' : Array DictEntry) (ep' : Nat), (∀ (j : Nat), ks[j]? ≠ some k) → h'.get? d = some o' → o'.ExactDict → o'.data = .dict es' ep' → es'.toList = es.toList ++ [⟨k.hash w, key, v⟩] → EntK w h' es' (ks ++ [k]) → Heap.SameBut d s.heap h' → Q () { s with heap := h', toks := s.toks + k.draws })
    (hold : ∀ (h' : Heap) (o' : Obj) (es' : Array DictEntry) (ep' : Nat) (j : Nat) (e : DictEntry), ks[j]? = some k → es[j]? = some e → h'.get? d = some o' → o'.ExactDict → o'.data = .dict es' ep' → es'.toList = es.toList.set j { e with val := v } → EntK w h' es' ks → Heap.SameBut d s.heap h' → Q () { s with heap := h', toks := s.toks + k.draws }) :
    wpAny (model prog w) A (dictSet d key v) Q E s := by
  unfold dictSet
  try with_reducible refine wpAny_holding ?_
  refine wpAny_bind (pyHash_key k key A s _ hkey (by omega) ?_)
  unfold dictSetHashed
  try with_reducible refine wpAny_holding ?_
  refine wpAny_bind (dictFind_key (s := { s with toks := s.toks + k.draws }) hu hkey hkd ho hd x (fun hno => ?_) (fun j hj => ?_))
  · refine wpAny_bind (wpAny_rule (wpAny_updateDictKeys (hz := hsz) (s := { s with toks := s.toks + k.draws }) ho hd ?_))
    exact hnew _ _ _ _ hno (Heap.get?_update_self _ ho (Obj.isFreed_of_dict (Obj.data_mapDictKeys hd _))) (hc.mapDictKeys _) (Obj.data_mapDictKeys hd _) (by simp) (x.push (keys_stay ho hd) hkey hkd hno) (Heap.SameBut.update ..)
  · have hl : j < es.size := by rw [← x.len]; exact (List.getElem?_eq_some_iff.mp hj).1
    refine wpAny_bind (wpAny_rule (wpAny_bind (wpAny_updateDict (s := { s with toks := s.toks + k.draws }) ho hd (wpAny_point ?_))))
    refine hold _ _ _ _ j _ hj (Array.getElem?_eq_getElem hl) (Heap.get?_update_self _ ho (Obj.isFreed_of_dict (Obj.data_mapDict hd _))) (hc.mapDict _) (Obj.data_mapDict hd _) ?_ (x.modify (keys_stay ho hd) j) (Heap.SameBut.update ..)
    rw [Array.toList_modify]
    exact List.ext_getElem? fun i => by
      rw [List.getElem?_modify, List.getElem?_set]
      by_cases hij : j = i
      · subst hij
        simp [hl]
      · simp [hij]

/-- key in d -/
theorem in_key {Q : Value → Shared → Prop} (hu : A.in1.units + 8 < cLine) (hkey : NestedIs s.heap k key) (hkd : k.depth ≤ 8) (hs : (d == sysModules) = false)
    (ho : s.heap.get? d = some o) (hc : o.ExactDict) (hd : o.data = .dict es ep) (x : EntK w s.heap es ks)
    (h : ∀ b : Bool, (b = true ↔ ∃ (j : Nat), ks[j]? = some k) → Q (.bool b) { s with toks := s.toks + k.draws }) : wpAny (model prog w) A (compareOp .In key (.ref d)) Q E s := by
  have hT : s.TypeIs (.ref d) "dict" := ⟨o, ho, hc.1⟩
  show wpAny _ _ (do return .bool (← contains (.ref d) key)) Q E s
  refine wpAny_bind ?_
  unfold contains
  try with_reducible refine wpAny_holding ?_
  refine wpAny_bind (wpAny_specialOf hT slot_dict_contains.lookup ?_)
  show wpAny _ _ (if (some (Value.builtin "dict.__contains__") == some Value.none) = true then _ else _) _ E s
  rw [if_neg (by rw [beq_builtin_none]; exact Bool.false_ne_true)]
  refine wpAny_bind (wpAny_callSpecialUnlessNone?_slot (name := Str.ofString "__contains__") hT slot_dict_contains
    (wpAny_call_entry slot_dict_contains hT entry_dict_contains ?_ (args_dict_contains _ _)))
  show wpAny _ _ (dictGet d key >>= _) _ _ s
  refine wpAny_bind (dictGet_key hu hkey hkd ho hd x (fun hno => ?_) (fun j e hj he => ?_))
  · show wpAny _ _ (Builtin.Dict.pendingKey? d key >>= _) _ _ _
    exact wpAny_bind (wpAny_pendingKey_other hs (wpAny_pure ⟨_, rfl, wpAny_truthy_bool (wpAny_pure (h false ⟨fun z => (Bool.false_ne_true z).elim, fun ⟨j, hj⟩ => (hno j hj).elim⟩))⟩))
  · show wpAny _ _ (ret (.bool true)) _ _ _
    exact wpAny_pure ⟨_, rfl, wpAny_truthy_bool (wpAny_pure (h true ⟨fun _ => ⟨j, hj⟩, fun _ => rfl⟩))⟩
theorem notIn_key {Q : Value → Shared → Prop} (hu : A.in1.units + 8 < cLine) (hkey : NestedIs s.heap k key) (hkd : k.depth ≤ 8) (hs : (d == sysModules) = false)
    (ho : s.heap.get? d = some o) (hc : o.ExactDict) (hd : o.data = .dict es ep) (x : EntK w s.heap es ks)
    (h : ∀ b : Bool, (b = true ↔ ∃ (j : Nat), ks[j]? = some k) → Q (.bool (!b)) { s with toks := s.toks + k.draws }) : wpAny (model prog w) A (compareOp .NotIn key (.ref d)) Q E s := by
  have hT : s.TypeIs (.ref d) "dict" := ⟨o, ho, hc.1⟩
  show wpAny _ _ (do return .bool (!(← contains (.ref d) key))) Q E s
  refine wpAny_bind ?_
  unfold contains
  try with_reducible refine wpAny_holding ?_
  refine wpAny_bind (wpAny_specialOf hT slot_dict_contains.lookup ?_)
  show wpAny _ _ (if (some (Value.builtin "dict.__contains__") == some Value.none) = true then _ else _) _ E s
  rw [if_neg (by rw [beq_builtin_none]; exact Bool.false_ne_true)]
  refine wpAny_bind (wpAny_callSpecialUnlessNone?_slot (name := Str.ofString "__contains__") hT slot_dict_contains
    (wpAny_call_entry slot_dict_contains hT entry_dict_contains ?_ (args_dict_contains _ _)))
  show wpAny _ _ (dictGet d key >>= _) _ _ s
  refine wpAny_bind (dictGet_key hu hkey hkd ho hd x (fun hno => ?_) (fun j e hj he => ?_))
  · show wpAny _ _ (Builtin.Dict.pendingKey? d key >>= _) _ _ _
    exact wpAny_bind (wpAny_pendingKey_other hs (wpAny_pure ⟨_, rfl, wpAny_truthy_bool (wpAny_pure (h false ⟨fun z => (Bool.false_ne_true z).elim, fun ⟨j, hj⟩ => (hno j hj).elim⟩))⟩))
  · show wpAny _ _ (ret (.bool true)) _ _ _
    exact wpAny_pure ⟨_, rfl, wpAny_truthy_bool (wpAny_pure (h true ⟨fun _ => ⟨j, hj⟩, fun _ => rfl⟩))⟩
/-- d[key], there -/
theorem getItem_key {j : Nat} {e : DictEntry} {Q : Value → Shared → Prop} (hu : A.in1.units + 8 < cLine) (hkey : NestedIs s.heap k key) (hkd : k.depth ≤ 8)
    (ho : s.heap.get? d = some o) (hc : o.ExactDict) (hd : o.data = .dict es ep) (x : EntK w s.heap es ks) (hj : ks[j]? = some k) (he : es[j]? = some e)
    (h : Q e.val { s with toks := s.toks + k.draws }) : wpAny (model prog w) A (getItem (.ref d) key) Q E s := by
  have hT : s.TypeIs (.ref d) "dict" := ⟨o, ho, hc.1⟩
  unfold getItem
  try with_reducible refine wpAny_holding ?_
  refine wpAny_bind (wpAny_sequenceKey hT (by decide) ?_)
  refine wpAny_bind (wpAny_callSpecial?_slot (name := Str.ofString "__getitem__") hT slot_dict_getitem
    (wpAny_call_entry slot_dict_getitem hT entry_dict_getitem ?_ (args_dict_getitem _ _)))
  show wpAny _ _ (dictGet d key >>= _) _ _ s
  refine wpAny_bind (dictGet_key hu hkey hkd ho hd x (fun hno => (hno j hj).elim) (fun j' e' hj' he' => ?_))
  obtain rfl := key_uniq x.nd hj hj'
  rw [he] at he'; cases he'
  exact wpAny_pure ⟨e.val, rfl, wpAny_pure h⟩
/-- d[key] = v -/
theorem setItem_key {v : Value} {Q : Unit → Shared → Prop} (hu : A.in1.units + 8 < cLine) (hkey : NestedIs s.heap k key) (hkd : k.depth ≤ 8)
    (ho : s.heap.get? d = some o) (hc : o.ExactDict) (hd : o.data = .dict es ep) (x : EntK w s.heap es ks) (hsz : es.size ≤ sizeLine)
    (hnew : ∀ (h' : Heap) (o' : Obj) (es' : Array DictEntry) (ep' : Nat), (∀ (j : Nat), ks[j]? ≠ some k) → h'.get? d = some o' → o'.ExactDict → o'.data = .dict es' ep' → es'.toList = es.toList ++ [⟨k.hash w, key, v⟩] → EntK w h' es' (ks ++ [k]) → Heap.SameBut d s.heap h' → Q () { s with heap := h', toks := s.toks + k.draws })
    (hold : ∀ (h' : Heap) (o' : Obj) (es' : Array DictEntry) (ep' : Nat) (j : Nat) (e : DictEntry), ks[j]? = some k → es[j]? = some e → h'.get? d = some o' → o'.ExactDict → o'.data = .dict es' ep' → es'.toList = es.toList.set j { e with val := v } → EntK w h' es' ks → Heap.SameBut d s.heap h' → Q () { s with heap := h', toks := s.toks + k.draws }) :
    wpAny (model prog w) A (setItem (.ref d) key v) Q E s := by
  have hT : s.TypeIs (.ref d) "dict" := ⟨o, ho, hc.1⟩
  unfold setItem
  try with_reducible refine wpAny_holding ?_
  refine wpAny_bind (wpAny_sequenceKey hT (by decide) ?_)
  refine wpAny_bind (wpAny_callSpecial?_slot (name := Str.ofString "__setitem__") hT slot_dict_setitem
    (wpAny_call_entry slot_dict_setitem hT entry_dict_setitem ?_ (args_dict_setitem _ _ _)))
  show wpAny _ _ (Builtin.Dict.notOrdered "__setitem__" ⟨[.ref d, key, v], []⟩ >>= _) _ _ s
  refine wpAny_bind (wpAny_notOrdered_dict hT ?_)
  show wpAny _ _ (dictSet d key v >>= _) _ _ s
  exact wpAny_bind (dictSet_key hu hkey hkd ho hc hd x hsz (fun h' o' es' ep' a1 a2 a3 a4 a5 a6 a7 => wpAny_pure ⟨.none, rfl, wpAny_pure (hnew h' o' es' ep' a1 a2 a3 a4 a5 a6 a7)⟩)
    (fun h' o' es' ep' j e a1 a2 a3 a4 a5 a6 a7 a8 => wpAny_pure ⟨.none, rfl, wpAny_pure (hold h' o' es' ep' j e a1 a2 a3 a4 a5 a6 a7 a8)⟩))
end
end Ev
/-! Ev8: keys and parts, from data to the heap. -/
namespace Ev
open PySem PySem.Spec L2

/-! ### keys up to == -/
mutual
theorem keq_canon : ∀ {a b : D}, keyK a = true → keyK b = true → keq a b = NestedKey.beq (canon a) (canon b)
  | .non, b, ha, hb => by cases b <;> first | rfl | (simp [keyK] at hb)
  | .bl x, b, ha, hb => by
    cases b <;> first | rfl | (simp [keyK] at hb) | skip
    · cases x <;> rename_i y <;> cases y <;> rfl
  | .int i, b, ha, hb => by
    cases b <;> first | rfl | (simp [keyK] at hb) | skip
    all_goals simp [keq, canon, NestedKey.beq]
    all_goals exact Bool.beq_eq_decide_eq ..
  | .str x, b, ha, hb => by
    cases b <;> first | rfl | (simp [keyK] at hb)
  | .tup xs, b, ha, hb => by
    cases b <;> first | rfl | (simp [keyK] at hb) | skip
    rename_i ys
    simp only [keyK] at ha hb
    simp only [keq, canon, NestedKey.beq]
    exact keqs_canon ha hb
  | .lst _, _, ha, _ => by simp [keyK] at ha
  | .dct _, _, ha, _ => by simp [keyK] at ha
  | .ins _ _, _, ha, _ => by simp [keyK] at ha
  | .exn _ _, _, ha, _ => by simp [keyK] at ha
theorem keqs_canon : ∀ {a b : List D}, keyKs a = true → keyKs b = true → keqs a b = NestedKey.beqAll (canons a) (canons b)
  | [], [], _, _ => rfl
  | [], _ :: _, _, _ => rfl
  | _ :: _, [], _, _ => rfl
  | x :: xs, y :: ys, ha, hb => by
    simp only [keyKs, Bool.and_eq_true] at ha hb
    simp only [keqs, canons, NestedKey.beqAll]
    rw [keq_canon ha.1 hb.1, keqs_canon ha.2 hb.2]
end
mutual
theorem canon_depth : ∀ {a : D}, (canon a).depth ≤ tupDepth a
  | .non => by simp [canon, NestedKey.depth, tupDepth]
  | .bl _ => by simp [canon, NestedKey.depth, tupDepth]
  | .int _ => by simp [canon, NestedKey.depth, tupDepth]
  | .str _ => by simp [canon, NestedKey.depth, tupDepth]
  | .tup xs => by
    simp only [canon, NestedKey.depth, tupDepth]
    exact Nat.succ_le_succ canons_depth
  | .lst _ => by simp [canon, NestedKey.depth, tupDepth]
  | .dct _ => by simp [canon, NestedKey.depth, tupDepth]
  | .ins _ _ => by simp [canon, NestedKey.depth, tupDepth]
  | .exn _ _ => by simp [canon, NestedKey.depth, tupDepth]
theorem canons_depth : ∀ {a : List D}, NestedKey.depthAll (canons a) ≤ tupDepths a
  | [] => Nat.le_refl _
  | x :: xs => by
    simp only [canons, NestedKey.depthAll, tupDepths]
    have h1 := canon_depth (a := x)
    have h2 := canons_depth (a := xs)
    omega
end
theorem keq_iff {a b : D} (ha : keyK a = true) (hb : keyK b = true) : keq a b = true ↔ canon a = canon b := by
  rw [keq_canon ha hb, ← NestedKey.decide_eq]
  exact decide_eq_true_iff
theorem keyOk_k {a : D} (h : keyOk a = true) : keyK a = true := (Bool.and_eq_true_iff.mp h).1
theorem keyOk_d {a : D} (h : keyOk a = true) : (canon a).depth ≤ 8 := Nat.le_trans canon_depth (of_decide_eq_true (Bool.and_eq_true_iff.mp h).2)

/-! ### from the abstract heap to the heap -/
section
variable {B : Wd} {Z : Addr → Prop} {H : Hp} {P : Program} {h : Heap}
theorem KSeq.at {T : String} {a : Addr} {xs : List V} (k : KSeq B T a xs) (hk : B.K.In h) : ∃ (its : List Value) (o : Obj) (n : Nat), Vals xs its ∧ h.get? a = some o ∧ o.cls = .type T ∧ o.data = .seq its.toArray n ∧ xs.length ≤ sizeLine := by
  obtain ⟨o, its, n, h1, h2, _, h3, h4, h5⟩ := k
  refine ⟨its.toList, o, n, h5, hk a o h1, h2, by simpa using h3, ?_⟩
  have e := h5.length
  simp only [Array.length_toList] at e
  omega
theorem TupAt.at {a : Addr} {xs : List V} (k : TupAt B Z H a xs) (ok : HOk P B.w H h) (hk : B.K.In h) : ∃ (its : List Value) (o : Obj) (n : Nat), Vals xs its ∧ h.get? a = some o ∧ o.cls = .type "tuple" ∧ o.data = .seq its.toArray n ∧ xs.length ≤ sizeLine := by
  rcases k with ⟨_, k⟩ | k
  · obtain ⟨z, its, r, o, h1, h2, n, h3⟩ := k.ok ok
    exact ⟨its, o, n, r, h1, h2, h3, z⟩
  · exact k.at hk
theorem LstAt.at {a : Addr} {xs : List V} (k : LstAt B Z H a xs) (ok : HOk P B.w H h) (hk : B.K.In h) : ∃ (its : List Value) (o : Obj) (n : Nat), Vals xs its ∧ h.get? a = some o ∧ o.cls = .type "list" ∧ o.data = .seq its.toArray n ∧ xs.length ≤ sizeLine := by
  rcases k with ⟨_, k⟩ | k
  · obtain ⟨z, its, n, r, h1⟩ := k.ok ok
    exact ⟨its, _, n, r, h1, rfl, rfl, z⟩
  · exact k.at hk
theorem LstAt.raw {a : Addr} {xs : List V} (k : LstAt B Z H a xs) (ok : HOk P B.w H h) (hk : B.K.In h) : ∃ (its : List Value) (n : Nat), Vals xs its ∧ h.get? a = some { cls := .type "list", dict := none, data := .seq its.toArray n, slots := #[] } ∧ xs.length ≤ sizeLine := by
  rcases k with ⟨_, k⟩ | ⟨o, its, n, h1, h2, h0, h3, h4, h5⟩
  · obtain ⟨z, its, n, r, h1⟩ := k.ok ok
    exact ⟨its, n, r, h1, z⟩
  · obtain ⟨c, d, t, s⟩ := o
    obtain ⟨e1, e2⟩ := h0 rfl
    simp only at h2 e1 e2 h3
    subst h2 e1 e2 h3
    refine ⟨its.toList, n, h5, hk a _ h1, ?_⟩
    have e := h5.length
    simp only [Array.length_toList] at e
    omega
theorem DH.at {a : Addr} {es : List DictEntry} (k : Rd H a (DH a es)) (ok : HOk P B.w H h) : ∃ (o : Obj) (ea : Array DictEntry) (ep : Nat), h.get? a = some o ∧ o.ExactDict ∧ o.data = .dict ea ep ∧ ea.toList = es := (k.ok ok).1
theorem TupAt.sq {K : PySem.W.Frag} (e : K = B.K) {a : Addr} {xs : List V} (k : TupAt B Z H a xs) : SqT K H a xs := by
  subst e
  rcases k with ⟨_, k⟩ | ⟨o, its, n, h1, h2, _, h3⟩
  · exact .inl k
  · exact .inr ⟨o, its, n, h1, h2, h3⟩
theorem LstAt.sq {K : PySem.W.Frag} (e : K = B.K) {a : Addr} {xs : List V} (k : LstAt B Z H a xs) : SqL K H a xs := by
  subst e
  rcases k with ⟨_, k⟩ | ⟨o, its, n, h1, h2, h0, h3⟩
  · exact .inl k
  · exact .inr ⟨o, its, n, h1, h2, (h0 rfl).1, h3⟩
mutual
theorem key_is (ok : HOk P B.w H h) (hk : B.K.In h) : ∀ {d : D} {v : V} {u : Value}, keyK d = true → Rep B Z H d v → RelV v u → NestedIs h (canon d) u
  | .non, v, u, _, r, e => by
    simp only [Rep] at r; subst r
    cases (show u = Value.none from e); exact .none
  | .bl b, v, u, _, r, e => by
    simp only [Rep] at r; subst r
    cases (show u = Value.bool b from e); exact .bool rfl
  | .int i, v, u, _, r, e => by
    simp only [Rep] at r; subst r
    obtain ⟨t, rfl⟩ := (show ∃ t, u = Value.int i t from e); exact .int i t
  | .str x, v, u, _, r, e => by
    simp only [Rep] at r; subst r
    obtain ⟨t, rfl⟩ := (show ∃ t, u = Value.str x t from e); exact .text x t
  | .tup ds, v, u, q, r, e => by
    simp only [Rep] at r
    obtain ⟨a, xs, rfl, ht, hr⟩ := r
    cases (show u = Value.ref a from e)
    obtain ⟨its, o, n, rv, h1, h2, h3, _⟩ := ht.at ok hk
    simp only [keyK] at q
    exact .tup h1 h2 h3 (by simpa using keys_are ok hk q hr rv)
  | .lst _, _, _, q, _, _ => by simp [keyK] at q
  | .dct _, _, _, q, _, _ => by simp [keyK] at q
  | .ins _ _, _, _, q, _, _ => by simp [keyK] at q
  | .exn _ _, _, _, q, _, _ => by simp [keyK] at q
theorem keys_are (ok : HOk P B.w H h) (hk : B.K.In h) : ∀ {ds : List D} {vs : List V} {us : List Value}, keyKs ds = true → Reps B Z H ds vs → Vals vs us → NestedAll h (canons ds) us
  | [], vs, us, _, r, e => by
    simp only [Reps] at r; subst r
    cases e; exact .nil
  | d :: ds, vs, us, q, r, e => by
    simp only [Reps] at r
    obtain ⟨x, xr, rfl, h1, h2⟩ := r
    simp only [keyKs, Bool.and_eq_true] at q
    cases e with
    | cons e1 e2 => exact .cons (key_is ok hk q.1 h1 e1) (keys_are ok hk q.2 h2 e2)
end
/-- the keys of a dict -/
theorem keysNd_at : ∀ {kvs : List (D × D)}, keysNd kvs = true → (∀ p ∈ kvs, keyOk p.1 = true) ∧ (kvs.map fun p => canon p.1).Nodup
  | [], _ => ⟨fun p hp => absurd hp (by simp), List.nodup_nil⟩
  | (k, d) :: r, h => by
    simp only [keysNd, Bool.and_eq_true, List.all_eq_true] at h
    obtain ⟨⟨h1, h2⟩, h3⟩ := h
    obtain ⟨h4, h5⟩ := keysNd_at h3
    refine ⟨fun p hp => (List.mem_cons.mp hp).elim (fun e => by rw [e]; exact h1) (h4 p), ?_⟩
    rw [List.map_cons, List.nodup_cons]
    refine ⟨fun hm => ?_, h5⟩
    obtain ⟨p, hp, he⟩ := List.mem_map.mp hm
    have := h2 p hp
    rw [(keq_iff (keyOk_k (h4 p hp)) (keyOk_k h1)).mpr he] at this
    cases this
theorem Repk.ent (ok : HOk P B.w H h) (hk : B.K.In h) : ∀ {kvs : List (D × D)} {es : List DictEntry}, (∀ p ∈ kvs, keyOk p.1 = true) → Repk B Z H kvs es →
    ∀ (j : Nat) (e : DictEntry), es[j]? = some e → ∃ k, (kvs.map fun p => canon p.1)[j]? = some k ∧ NestedIs h k e.key ∧ k.depth ≤ 8 ∧ e.hash = k.hash B.w
  | [], es, _, r, j, e, he => by simp only [Repk] at r; subst r; simp at he
  | (k, d) :: kvs, es, q, r, j, e, he => by
    simp only [Repk] at r
    obtain ⟨e0, er, rfl, ⟨v, rv, hv⟩, hh, _, h2⟩ := r
    have qk := q (k, d) List.mem_cons_self
    cases j with
    | zero =>
      simp only [List.getElem?_cons_zero, Option.some.injEq] at he; subst he
      exact ⟨canon k, rfl, key_is ok hk (keyOk_k qk) hv rv, keyOk_d qk, hh⟩
    | succ j =>
      obtain ⟨k', h3, h4⟩ := Repk.ent ok hk (fun p hp => q p (List.mem_cons_of_mem _ hp)) h2 j e (by simpa using he)
      exact ⟨k', by simpa using h3, h4⟩
theorem Repk.length : ∀ {kvs : List (D × D)} {es : List DictEntry}, Repk B Z H kvs es → es.length = kvs.length
  | [], es, r => by simp only [Repk] at r; subst r; rfl
  | (k, d) :: kvs, es, r => by
    simp only [Repk] at r
    obtain ⟨e0, er, rfl, _, _, _, h2⟩ := r
    rw [List.length_cons, List.length_cons, Repk.length h2]
theorem Repk.entK (ok : HOk P B.w H h) (hk : B.K.In h) {kvs : List (D × D)} {es : List DictEntry} {ea : Array DictEntry} (nd : keysNd kvs = true) (r : Repk B Z H kvs es) (e : ea.toList = es) : EntK B.w h ea (kvs.map fun p => canon p.1) where
  len := by rw [List.length_map, ← Array.length_toList, e, Repk.length r]
  ent := fun j en he => Repk.ent ok hk (keysNd_at nd).1 r j en (by rw [← e, Array.getElem?_toList]; exact he)
  nd := (keysNd_at nd).2
/-- what is owned may be read as if it were shared: its entries' keys -/
theorem RepOk.ent (ok : HOk P B.w H h) (hk : B.K.In h) : ∀ {kvs : List (D × OV)} {es : List DictEntry} {fp : List Addr}, (∀ p ∈ viewsK kvs, keyOk p.1 = true) → RepOk B Z H kvs es fp →
    ∀ (j : Nat) (e : DictEntry), es[j]? = some e → ∃ k, (kvs.map fun p => canon p.1)[j]? = some k ∧ NestedIs h k e.key ∧ k.depth ≤ 8 ∧ e.hash = k.hash B.w
  | [], es, fp, _, r, j, e, he => by simp only [RepOk] at r; rw [r.1] at he; simp at he
  | (k, d) :: kvs, es, fp, q, r, j, e, he => by
    simp only [RepOk] at r
    obtain ⟨e0, er, f1, f2, rfl, ⟨v, rv, hv⟩, hh, _, h2, _⟩ := r
    have qk := q (k, d.view) (by simp only [viewsK]; exact List.mem_cons_self)
    cases j with
    | zero =>
      simp only [List.getElem?_cons_zero, Option.some.injEq] at he; subst he
      exact ⟨canon k, rfl, key_is ok hk (keyOk_k qk) hv rv, keyOk_d qk, hh⟩
    | succ j =>
      obtain ⟨k', h3, h4⟩ := RepOk.ent ok hk (fun p hp => q p (by simp only [viewsK]; exact List.mem_cons_of_mem _ hp)) h2 j e (by simpa using he)
      exact ⟨k', by simpa using h3, h4⟩
theorem RepOk.entK (ok : HOk P B.w H h) (hk : B.K.In h) {kvs : List (D × OV)} {es : List DictEntry} {fp : List Addr} {ea : Array DictEntry} (nd : keysNd (viewsK kvs) = true) (r : RepOk B Z H kvs es fp) (e : ea.toList = es) : EntK B.w h ea (kvs.map fun p => canon p.1) where
  len := by rw [List.length_map, ← Array.length_toList, e, RepOk.length r]
  ent := fun j en he => RepOk.ent ok hk (keysNd_at nd).1 r j en (by rw [← e, Array.getElem?_toList]; exact he)
  nd := by
    have := (keysNd_at nd).2
    rw [viewsK_eq, List.map_map] at this
    exact this
/-- found or not -/
theorem dget_none {α : Type} {k : D} (hk : keyK k = true) : ∀ {kvs : List (D × α)}, (∀ p ∈ kvs, keyK p.1 = true) → dget k kvs = none → ∀ (j : Nat), (kvs.map fun p => canon p.1)[j]? ≠ some (canon k)
  | [], _, _, j, h => by simp at h
  | (k', v) :: r, q, hn, j, h => by
    simp only [dget] at hn
    by_cases e : keq k' k = true
    · rw [if_pos e] at hn; cases hn
    · rw [if_neg e] at hn
      cases j with
      | zero =>
        simp only [List.map_cons, List.getElem?_cons_zero, Option.some.injEq] at h
        exact e ((keq_iff (q _ List.mem_cons_self) hk).mpr h)
      | succ j => exact dget_none hk (fun p hp => q p (List.mem_cons_of_mem _ hp)) hn j (by simpa using h)
theorem dget_some {α : Type} {k : D} (hk : keyK k = true) : ∀ {kvs : List (D × α)} {v : α}, (∀ p ∈ kvs, keyK p.1 = true) → dget k kvs = some v → ∃ (j : Nat) (k' : D), kvs[j]? = some (k', v) ∧ canon k' = canon k
  | [], v, _, h => by simp [dget] at h
  | (k', v') :: r, v, q, h => by
    simp only [dget] at h
    by_cases e : keq k' k = true
    · rw [if_pos e] at h; cases h
      exact ⟨0, k', rfl, (keq_iff (q _ List.mem_cons_self) hk).mp e⟩
    · rw [if_neg e] at h
      obtain ⟨j, k2, h1, h2⟩ := dget_some hk (fun p hp => q p (List.mem_cons_of_mem _ hp)) h
      exact ⟨j + 1, k2, by simpa using h1, h2⟩
theorem Repk.get : ∀ {kvs : List (D × D)} {es : List DictEntry} {j : Nat} {k d : D}, Repk B Z H kvs es → kvs[j]? = some (k, d) → ∃ e v, es[j]? = some e ∧ RelV v e.val ∧ Rep B Z H d v
  | [], es, j, k, d, r, h => by simp at h
  | (k0, d0) :: kvs, es, j, k, d, r, h => by
    simp only [Repk] at r
    obtain ⟨e0, er, rfl, _, _, ⟨v, rv, hv⟩, h2⟩ := r
    cases j with
    | zero =>
      simp only [List.getElem?_cons_zero, Option.some.injEq, Prod.mk.injEq] at h
      obtain ⟨_, rfl⟩ := h
      exact ⟨e0, v, rfl, rv, hv⟩
    | succ j =>
      obtain ⟨e, v, h3, h4⟩ := Repk.get h2 (j := j) (k := k) (d := d) (by simpa using h)
      exact ⟨e, v, by simpa using h3, h4⟩
theorem viewsK_dput (k : D) (c : OV) : ∀ (kvs : List (D × OV)), viewsK (dput k c kvs) = dput k c.view (viewsK kvs)
  | [] => rfl
  | (k', v) :: r => by
    simp only [dput, viewsK]
    by_cases e : keq k' k = true
    · rw [if_pos e, if_pos e]; rfl
    · rw [if_neg e, if_neg e]; simp only [viewsK]; rw [viewsK_dput k c r]
theorem viewsK_ddel (k : D) : ∀ (kvs : List (D × OV)), viewsK (ddel k kvs) = ddel k (viewsK kvs)
  | [] => rfl
  | (k', v) :: r => by
    simp only [ddel, viewsK]
    by_cases e : keq k' k = true
    · rw [if_pos e, if_pos e]
    · rw [if_neg e, if_neg e]; simp only [viewsK]; rw [viewsK_ddel k r]
theorem dput_mem {α : Type} {k : D} {v : α} {p : D × α} : ∀ {kvs : List (D × α)}, p ∈ dput k v kvs → p.1 = k ∨ ∃ q ∈ kvs, q.1 = p.1
  | [], h => by simp only [dput, List.mem_singleton] at h; exact .inl (by rw [h])
  | (k', v') :: r, h => by
    simp only [dput] at h
    by_cases e : keq k' k = true
    · rw [if_pos e] at h
      rcases List.mem_cons.mp h with h | h
      · exact .inr ⟨_, List.mem_cons_self, by rw [h]⟩
      · exact .inr ⟨p, List.mem_cons_of_mem _ h, rfl⟩
    · rw [if_neg e] at h
      rcases List.mem_cons.mp h with h | h
      · exact .inr ⟨_, List.mem_cons_self, by rw [h]⟩
      · rcases dput_mem h with h | ⟨q, h1, h2⟩
        · exact .inl h
        · exact .inr ⟨q, List.mem_cons_of_mem _ h1, h2⟩
theorem keysNd_dput {k : D} {v : D} (hk : keyOk k = true) : ∀ {kvs : List (D × D)}, keysNd kvs = true → keysNd (dput k v kvs) = true
  | [], _ => by simp [dput, keysNd, hk]
  | (k', v') :: r, h => by
    have h0 := keysNd_at h
    simp only [keysNd, Bool.and_eq_true, List.all_eq_true] at h
    obtain ⟨⟨h1, h2⟩, h3⟩ := h
    simp only [dput]
    by_cases e : keq k' k = true
    · rw [if_pos e]
      simp only [keysNd, Bool.and_eq_true, List.all_eq_true]
      exact ⟨⟨h1, h2⟩, h3⟩
    · rw [if_neg e]
      simp only [keysNd, Bool.and_eq_true, List.all_eq_true]
      refine ⟨⟨h1, fun p hp => ?_⟩, keysNd_dput hk h3⟩
      rcases dput_mem hp with q | ⟨q, q1, q2⟩
      · rw [q]
        cases q3 : keq k k' with
        | false => rfl
        | true => exact absurd ((keq_iff (keyOk_k h1) (keyOk_k hk)).mpr ((keq_iff (keyOk_k hk) (keyOk_k h1)).mp q3).symm) e
      · rw [← q2]; exact h2 q q1
theorem ddel_mem {α : Type} {k : D} {p : D × α} : ∀ {kvs : List (D × α)}, p ∈ ddel k kvs → p ∈ kvs
  | [], h => by simp [ddel] at h
  | (k', v') :: r, h => by
    simp only [ddel] at h
    by_cases e : keq k' k = true
    · rw [if_pos e] at h; exact List.mem_cons_of_mem _ h
    · rw [if_neg e] at h
      rcases List.mem_cons.mp h with h | h
      · rw [h]; exact List.mem_cons_self
      · exact List.mem_cons_of_mem _ (ddel_mem h)
theorem keysNd_ddel {k : D} : ∀ {kvs : List (D × D)}, keysNd kvs = true → keysNd (ddel k kvs) = true
  | [], _ => rfl
  | (k', v') :: r, h => by
    simp only [keysNd, Bool.and_eq_true, List.all_eq_true] at h
    obtain ⟨⟨h1, h2⟩, h3⟩ := h
    simp only [ddel]
    by_cases e : keq k' k = true
    · rw [if_pos e]; exact h3
    · rw [if_neg e]
      simp only [keysNd, Bool.and_eq_true, List.all_eq_true]
      exact ⟨⟨h1, fun p hp => h2 p (ddel_mem hp)⟩, keysNd_ddel h3⟩
theorem dput_length {α : Type} {k : D} {v : α} : ∀ {kvs : List (D × α)}, (dput k v kvs).length ≤ kvs.length + 1
  | [] => by simp [dput]
  | (k', v') :: r => by
    simp only [dput]
    by_cases e : keq k' k = true
    · rw [if_pos e]; simp
    · rw [if_neg e]; simp only [List.length_cons]; exact Nat.succ_le_succ (dput_length (kvs := r))
theorem dput_length_there {α : Type} {k : D} {v v' : α} : ∀ {kvs : List (D × α)}, dget k kvs = some v' → (dput k v kvs).length = kvs.length
  | [], h => by simp [dget] at h
  | (k', w) :: r, h => by
    simp only [dget] at h
    simp only [dput]
    by_cases e : keq k' k = true
    · rw [if_pos e]; simp
    · rw [if_neg e] at h ⊢; simp only [List.length_cons]; rw [dput_length_there h]
end
end Ev
/-! Ev9: parts of values: items, fields; paths. -/
namespace Ev
open PySem PySem.Spec PyProof.Rows L2

theorem seqIx_eq (i : Int) (n : Nat) : seqIx i n = ixN n i := by
  unfold seqIx ixN
  by_cases h0 : 0 ≤ i
  · rw [if_pos h0, if_pos h0]
    by_cases h1 : i.toNat < n
    · rw [if_pos h1, if_pos (by omega)]
    · rw [if_neg h1, if_neg (by omega)]
  · rw [if_neg h0, if_neg h0]
    by_cases h1 : (-i).toNat ≤ n
    · rw [if_pos h1, if_pos (by omega)]
      congr 1; omega
    · rw [if_neg h1, if_neg (by omega)]

/-- what an own class must say for isinstance -/
structure ClsI (K : PySem.W.Frag) (C : Addr) : Prop where
  ha : PySem.W.findIn K (.ref C) "__class__" = some (some (.builtin "object.__class__"))
  hn : PySem.W.specialIn K (.builtin "object.__class__") "__get__" = some (some (.builtin "getset_descriptor.__get__"))
  ht : PySem.W.takesIn K (.builtin "object.__class__") = some true
  hm : PySem.W.mroIn K C (.type "object") = some true
/-- the builtin types of data, and what each is beneath -/
def tyNames : List String := ["NoneType", "bool", "int", "str", "tuple", "list", "dict"]
def subTy (t c : String) : Bool := t == c || (t == "bool" && c == "int")
/-- what one knows of a context -/
structure GX (X : Cx) (B : Wd) : Prop where
  w : X.w = B.w
  K : X.K = B.K
  units : X.A.units + 64 < cLine
  calm : X.calm = true
  guards : X.A.guards = some []
  sm : ∃ o, X.base.get? sysModules = some o ∧ o.cls = .type "dict"
  obj : ∀ c C, c ∈ B.objs → B.cls c = some C → Cls B.K C ∧ (∀ f ∈ B.flds, NoAttr B.K C (Str.ofString f)) ∧ ClsI B.K C
  exo : ∀ c C, c ∈ B.excs → B.cls c = some C → XfC B.K C ∧ (∀ f ∈ B.flds, NoAttr B.K C (Str.ofString f)) ∧ ExcC B.K C
  isaT : ∀ p ∈ B.isas, ∀ t ∈ tyNames, PySem.W.kitOne B.K (.type t) p.2 = some (subTy t p.1)
  isaC : ∀ p ∈ B.isas, ∀ c C, (c ∈ B.objs ∨ c ∈ B.excs) → B.cls c = some C → PySem.W.kitOne B.K (.ref C) p.2 = some (B.sub c p.1)

section
variable {B : Wd} {Z : Addr → Prop} {H : Hp} {X : Cx}
theorem Inv.kIn' (g : GX X B) {pins : List (Addr × Obj)} {σ : L2.St} {s : Shared} (I : Inv X pins σ H s) : B.K.In s.heap := by rw [← g.K]; exact I.kIn
theorem Inv.hok' (g : GX X B) {pins : List (Addr × Obj)} {σ : L2.St} {s : Shared} (I : Inv X pins σ H s) : HOk X.prog B.w H s.heap := by rw [← g.w]; exact I.hok

/-- a part c of o (o is at x, owning fp), at vc: it can be changed -/
def Kid (B : Wd) (Z : Addr → Prop) (H : Hp) (set : OV → Option OV) (o : OV) (x : V) (fp : List Addr) (c : OV) (vc : V) : Prop :=
  ∃ fpc rest, RepO B Z H c vc fpc ∧ fp.Perm (fpc ++ rest) ∧
    ∀ (Z' : Addr → Prop) (H' : Hp) (c' o' : OV) (fpc' : List Addr), Gr Z Z' H H' → Kept rest H H' → RepO B Z' H' c' vc fpc' → set c' = some o' → ∃ fp', RepO B Z' H' o' x fp' ∧ fp'.Perm (fpc' ++ rest)
theorem Kid.fr {set : OV → Option OV} {o : OV} {x : V} {d : D} {vc : V} (h : Rep B Z H d vc) (hs : ∀ c, set c = none) : Kid B Z H set o x [] (.fr d) vc := by
  refine ⟨[], [], ?_, .refl _, fun Z' H' c' o' fpc' _ _ _ e => ?_⟩
  · simp only [RepO]; exact ⟨h, trivial⟩
  · rw [hs] at e; cases e
/-- x[k] by values -/
theorem item_val (g : GX X B) {o c : OV} {d : D} {x y : V} {fp : List Addr} (hr : RepO B Z H o x fp) (hk : Rep B Z H d y) (hch : child o d = some c)
    {value slice : Expr} {pins : List (Addr × Obj)} {s : Shared} {σ : L2.St} {v u : Value} {Q : VK} (I : Inv X pins σ H s) (rx : RelV x v) (ry : RelV y u)
    (h : ∀ vc, Kid B Z H (setChild o d) o x fp c vc → Q vc H) (hs : subscripted slice false v u = operate [v, u] (getItem v u)) : wpAny (model X.prog X.w) X.A (subscriptTail value slice v u) (EP X pins σ Q) X.xe s := by
  have ok := Inv.hok' g I
  have hK := Inv.kIn' g I
  -- a dict, by what it gives
  have dict : ∀ (a : Addr) (o' : Obj) (ea : Array DictEntry) (ep : Nat) (ks : List NestedKey) (j : Nat) (e : DictEntry) (vc : V), x = .ref a → s.heap.get? a = some o' → o'.ExactDict → o'.data = .dict ea ep → EntK B.w s.heap ea ks → keyOk d = true → ks[j]? = some (canon d) → ea[j]? = some e →
      RelV vc e.val → Kid B Z H (setChild o d) o x fp c vc → wpAny (model X.prog X.w) X.A (subscriptTail value slice v u) (EP X pins σ Q) X.xe s := by
    intro a o' ea ep ks j e vc ex h1 h2 h3 h4 h5 h6 h7 r q
    subst ex
    cases (show v = Value.ref a from rx)
    refine tail_any (T := "dict") ⟨o', h1, h2.1⟩ PySem.F.slot_dict_getitem.lookup ?_ hs
    obtain ⟨fpc, rest, hc, _⟩ := id q
    have hkey : NestedIs s.heap (canon d) u := key_is ok hK (keyOk_k h5) hk ry
    have h4' : EntK X.w s.heap ea ks := by rw [g.w]; exact h4
    refine getItem_key (by rw [units_in1]; have := g.units; omega) hkey (keyOk_d h5) h1 h2 h3 h4' h6 h7 ?_
    exact ⟨vc, H, I.tok _, r, h vc q⟩
  cases o with
  | fr fd =>
    simp only [RepO] at hr
    obtain ⟨hr, hfp⟩ := hr
    subst hfp
    have hset : ∀ c', setChild (.fr fd) d c' = none := fun c' => by unfold setChild; cases d <;> rfl
    cases fd with
    | lst xs =>
      cases d with
      | int i =>
        simp only [child, Option.bind_eq_some_iff, Option.map_eq_some_iff] at hch
        obtain ⟨j, hj, d', hd', rfl⟩ := hch
        simp only [Rep] at hr hk
        obtain ⟨a, vs, rfl, hl, hrs⟩ := hr
        obtain ⟨vc, hv, hrc⟩ := hrs.get hd'
        subst hk
        refine ix_list value slice pins s σ H _ _ v u Q I rx ry ⟨a, vs, i, vc, rfl, rfl, hl.sq g.K, ?_, h vc (Kid.fr hrc hset)⟩ hs
        unfold atI
        rw [hrs.length, ← seqIx_eq, hj]
        exact hv
      | _ => simp [child] at hch
    | tup xs =>
      cases d with
      | int i =>
        simp only [child, Option.bind_eq_some_iff, Option.map_eq_some_iff] at hch
        obtain ⟨j, hj, d', hd', rfl⟩ := hch
        simp only [Rep] at hr hk
        obtain ⟨a, vs, rfl, hl, hrs⟩ := hr
        obtain ⟨vc, hv, hrc⟩ := hrs.get hd'
        subst hk
        refine ix_tup value slice pins s σ H _ _ v u Q I rx ry ⟨a, vs, i, vc, rfl, rfl, hl.sq g.K, ?_, h vc (Kid.fr hrc hset)⟩ hs
        unfold atI
        rw [hrs.length, ← seqIx_eq, hj]
        exact hv
      | _ => simp [child] at hch
    | dct kvs =>
      have hch' : keyOk d = true ∧ (dget d kvs).map .fr = some c := by
        unfold child at hch
        by_cases e : keyOk d = true
        · simp only [e, if_true] at hch
          exact ⟨e, hch⟩
        · simp [e] at hch
      obtain ⟨h5, hch⟩ := hch'
      obtain ⟨d', hd', rfl⟩ := Option.map_eq_some_iff.mp hch
      simp only [Rep] at hr
      obtain ⟨a, es, rfl, ⟨hz, hrd⟩, hsys, hlen, hnd, hrk⟩ := hr
      obtain ⟨o', ea, ep, h1, h2, h3, h4⟩ := DH.at hrd ok
      have hent := hrk.entK ok hK hnd h4
      obtain ⟨j, k', hkj, hck⟩ := dget_some (keyOk_k h5) (fun p hp => keyOk_k ((keysNd_at hnd).1 p hp)) hd'
      obtain ⟨e, vc, he, hrv, hrc⟩ := hrk.get hkj
      refine dict a o' ea ep _ j e vc rfl h1 h2 h3 hent h5 ?_ ?_ hrv (Kid.fr hrc hset)
      · rw [List.getElem?_map, hkj, Option.map_some, hck]
      · rw [← Array.getElem?_toList, h4]; exact he
    | _ => cases d <;> simp [child] at hch
  | lst os =>
    cases d with
    | int i =>
      simp only [child, Option.bind_eq_some_iff] at hch
      obtain ⟨j, hj, hc⟩ := hch
      simp only [RepO] at hr
      obtain ⟨a, vs, fps, rfl, ha, hrs, rfl⟩ := hr
      obtain ⟨vc, fpc, rest, hv, hrc, hp, hset, _⟩ := hrs.split hc
      simp only [Rep] at hk
      subst hk
      refine ix_list value slice pins s σ H _ _ v u Q I rx ry ⟨a, vs, i, vc, rfl, rfl, .of ha, ?_, h vc ⟨fpc, a :: rest, hrc, ?_, ?_⟩⟩ hs
      · unfold atI
        rw [hrs.length, ← seqIx_eq, hj]
        exact hv
      · exact (hp.cons a).trans List.perm_middle.symm
      · intro Z' H' c' o' fpc' gg kp hc' ho'
        simp only [setChild, Option.map_eq_some_iff] at ho'
        obtain ⟨j', hj', rfl⟩ := ho'
        rw [hj] at hj'; cases hj'
        obtain ⟨fp', h1, h2⟩ := hset Z' H' c' fpc' gg (fun b hb => kp b (List.mem_cons_of_mem _ hb)) hc'
        refine ⟨a :: fp', ?_, (h2.cons a).trans List.perm_middle.symm⟩
        simp only [RepO]
        exact ⟨a, vs, fp', rfl, kp a List.mem_cons_self _ ha, h1, rfl⟩
    | _ => simp [child] at hch
  | dct kvs =>
    have hch' : keyOk d = true ∧ dget d kvs = some c := by
      unfold child at hch
      by_cases e : keyOk d = true
      · simp only [e, if_true] at hch
        exact ⟨e, hch⟩
      · simp [e] at hch
    obtain ⟨h5, hch⟩ := hch'
    simp only [RepO] at hr
    obtain ⟨a, es, fps, rfl, ha, hsys, hlen, hnd, hrk, rfl⟩ := hr
    obtain ⟨o', ea, ep, h1, h2, h3, h4⟩ := DH.at (.inl ha) ok
    have hent := hrk.entK ok hK hnd h4
    obtain ⟨j, e, k', vc, fpc, rest, hej, hkj, hkq, hrv, hrc, hp, hset, _⟩ := hrk.split hch
    have hk'ok : keyOk k' = true := (keysNd_at hnd).1 (k', c.view) (by
      rw [viewsK_eq]
      exact List.mem_map.mpr ⟨_, List.mem_of_getElem? hkj, rfl⟩)
    refine dict a o' ea ep _ j e vc rfl h1 h2 h3 hent h5 ?_ ?_ hrv ⟨fpc, a :: rest, hrc, (hp.cons a).trans List.perm_middle.symm, ?_⟩
    · rw [List.getElem?_map, hkj, Option.map_some, (keq_iff (keyOk_k hk'ok) (keyOk_k h5)).mp hkq]
    · rw [← Array.getElem?_toList, h4]; exact hej
    · intro Z' H' c' o'' fpc' gg kp hc' ho'
      have ho2 : kvs.length < 1000000 ∧ o'' = .dct (dput d c' kvs) := by
        unfold setChild at ho'
        by_cases e2 : (keyOk d && decide (kvs.length < 1000000)) = true
        · simp only [e2, if_true, Option.some.injEq] at ho'
          exact ⟨of_decide_eq_true (Bool.and_eq_true_iff.mp e2).2, ho'.symm⟩
        · simp [e2] at ho'
      obtain ⟨hl2, rfl⟩ := ho2
      obtain ⟨fp', q1, q2⟩ := hset Z' H' c' vc e.val fpc' gg (fun b hb => kp b (List.mem_cons_of_mem _ hb)) hrv hc'
      refine ⟨a :: fp', ?_, (q2.cons a).trans List.perm_middle.symm⟩
      have hes : es.set j { e with val := e.val } = es := by
        have : es[j]? = some e := hej
        refine List.ext_getElem? fun i => ?_
        rw [List.getElem?_set]
        by_cases hij : j = i
        · subst hij
          rw [if_pos rfl, if_pos (List.getElem?_eq_some_iff.mp this).1, this]
        · rw [if_neg hij]
      rw [hes] at q1
      simp only [RepO]
      refine ⟨a, es, fp', rfl, kp a List.mem_cons_self _ ha, hsys, ?_, ?_, q1, rfl⟩
      · rw [dput_length_there hch]; exact hlen
      · rw [viewsK_dput]; exact keysNd_dput h5 hnd
  | ins c fs => cases d <;> simp [child] at hch
end
end Ev
/-! Ev10: paths: what stands there, changed there. -/
namespace Ev
open PySem PySem.Spec PyProof.Rows L2

section
variable {B : Wd} {Z Z' : Addr → Prop} {H H' : Hp} {X : Cx}
/-- a slot -/
theorem EnvR.at : ∀ {env : Env} {σ : L2.St} {F : List Addr} {i : Nat} {o : OV}, EnvR B Z H env σ F → env.at i = some o →
    ∃ v fp rest, σ[i]? = some (some v) ∧ RepO B Z H o v fp ∧ F.Perm (fp ++ rest) ∧
      (∀ (Z' : Addr → Prop) (H' : Hp) (o' : OV) (fp' : List Addr), Gr Z Z' H H' → Kept rest H H' → RepO B Z' H' o' v fp' → ∃ F', EnvR B Z' H' (env.set i (some o')) σ F' ∧ F'.Perm (fp' ++ rest)) ∧
      (∀ (Z' : Addr → Prop) (H' : Hp), Gr Z Z' H H' → Kept rest H H' → ∃ F', EnvR B Z' H' (env.set i none) σ F' ∧ F'.Perm rest)
  | [], σ, F, i, o, h, e => by simp [Env.at] at e
  | none :: env, σ, F, i, o, h, e => by
    simp only [EnvR] at h
    obtain ⟨x, r, rfl, h⟩ := h
    cases i with
    | zero => simp [Env.at] at e
    | succ i =>
      obtain ⟨v, fp, rest, hv, h1, hp, h2, h3⟩ := EnvR.at h (i := i) (o := o) (by simpa [Env.at] using e)
      refine ⟨v, fp, rest, by simpa using hv, h1, hp, fun Z' H' o' fp' g k r' => ?_, fun Z' H' g k => ?_⟩
      · obtain ⟨F', a, b⟩ := h2 Z' H' o' fp' g k r'
        exact ⟨F', by simp only [List.set_cons_succ, EnvR]; exact ⟨x, r, rfl, a⟩, b⟩
      · obtain ⟨F', a, b⟩ := h3 Z' H' g k
        exact ⟨F', by simp only [List.set_cons_succ, EnvR]; exact ⟨x, r, rfl, a⟩, b⟩
  | some o0 :: env, σ, F, i, o, h, e => by
    simp only [EnvR] at h
    obtain ⟨v0, r, f0, F', rfl, h0, h, rfl⟩ := h
    cases i with
    | zero =>
      have e' : o0 = o := by simpa [Env.at] using e
      subst e'
      refine ⟨v0, f0, F', rfl, h0, .refl _, fun Z' H' o' fp' g k r' => ⟨fp' ++ F', ?_, .refl _⟩, fun Z' H' g k => ⟨F', ?_, .refl _⟩⟩
      · simp only [List.set_cons_zero, EnvR]
        exact ⟨v0, r, fp', F', rfl, r', h.mono g k, rfl⟩
      · simp only [List.set_cons_zero, EnvR]
        exact ⟨_, r, rfl, h.mono g k⟩
    | succ i =>
      obtain ⟨v, fp, rest, hv, h1, hp, h2, h3⟩ := EnvR.at h (i := i) (o := o) (by simpa [Env.at] using e)
      refine ⟨v, fp, f0 ++ rest, by simpa using hv, h1, (hp.append_left f0).trans (perm_mid _ _ _), fun Z' H' o' fp' g k r' => ?_, fun Z' H' g k => ?_⟩
      · obtain ⟨F2, a, b⟩ := h2 Z' H' o' fp' g k.r r'
        refine ⟨f0 ++ F2, ?_, (b.append_left f0).trans (perm_mid _ _ _)⟩
        simp only [List.set_cons_succ, EnvR]
        exact ⟨v0, r, f0, F2, rfl, h0.mono g k.l, a, rfl⟩
      · obtain ⟨F2, a, b⟩ := h3 Z' H' g k.r
        refine ⟨f0 ++ F2, ?_, b.append_left f0⟩
        simp only [List.set_cons_succ, EnvR]
        exact ⟨v0, r, f0, F2, rfl, h0.mono g k.l, a, rfl⟩
/-- what stands at a path, at v; changed there -/
def Spot (B : Wd) (Z : Addr → Prop) (H : Hp) (σ : L2.St) (env : Env) (F : List Addr) (e : E) (o : OV) (v : V) : Prop :=
  ∃ fp rest, RepO B Z H o v fp ∧ F.Perm (fp ++ rest) ∧
    ∀ (Z' : Addr → Prop) (H' : Hp) (o' : OV) (fp' : List Addr) (env' : Env), Gr Z Z' H H' → Kept rest H H' → RepO B Z' H' o' v fp' → pput env o' e = some env' → ∃ F', EnvR B Z' H' env' σ F' ∧ F'.Perm (fp' ++ rest)
/-- a path's reading -/
def tAt (B : Wd) (e : E) : TE := fun σ H Q => ∃ Z env F o, Stt B Z H σ env F ∧ pk env e = some o ∧ ∀ v, Spot B Z H σ env F e o v → Q v H
/-- a key's reading -/
def tKey (B : Wd) (k : E) : TE := fun σ H Q => ∃ Z env F d, Stt B Z H σ env F ∧ keyOf env k = some d ∧ ∀ v, Rep B Z H d v → Q v H
theorem spot_var {σ : L2.St} {env : Env} {F : List Addr} {i : Nat} {o : OV} (h : EnvR B Z H env σ F) (e : env.at i = some o) : ∃ v, σ[i]? = some (some v) ∧ Spot B Z H σ env F (.var i) o v := by
  obtain ⟨v, fp, rest, hv, h1, hp, h2, _⟩ := h.at e
  refine ⟨v, hv, fp, rest, h1, hp, fun Z' H' o' fp' env' g k r ep => ?_⟩
  simp only [pput, e, Option.some.injEq] at ep
  subst ep
  exact h2 Z' H' o' fp' g k r
theorem at_var {i : Nat} {x : Str} {pos : Pos} (hN : X.N[i]? = some x) (hv : Vis X.env.scope x) (hd : (x == ("__debug__" : Str)) = false) (hcd : (x == ("__classdict__" : Str)) = false) : PE X (.Name x pos) (tAt B (.var i)) :=
  PE.imp (pe_var (i := i) hN hv hd hcd) fun σ H Q ⟨Z, env, F, o, s, hp, q⟩ => by
    simp only [pk] at hp
    obtain ⟨v, h1, h2⟩ := spot_var s.env hp
    exact ⟨v, h1, q v h2⟩
theorem key_cst {d : D} {e : Expr} {v : V} (he : PE X e (tC v)) (hr : ∀ (Z : Addr → Prop) (H : Hp), Rep B Z H d v) : PE X e (tKey B (.cst d)) :=
  PE.imp he fun σ H Q ⟨Z, env, F, d', s, hk, q⟩ => by
    simp only [keyOf, Option.some.injEq] at hk
    subst hk
    exact q v (hr Z H)
theorem key_var {i : Nat} {e : Expr} (he : PE X e (tAt B (.var i))) : PE X e (tKey B (.var i)) :=
  PE.imp he fun σ H Q ⟨Z, env, F, d, s, hk, q⟩ => by
    simp only [keyOf] at hk
    refine ⟨Z, env, F, .fr d, s, ?_, fun v ⟨fp, rest, r, _⟩ => ?_⟩
    · simp only [pk]
      revert hk
      cases env.at i with
      | none => intro hk; simp at hk
      | some o => cases o <;> intro hk <;> simp at hk ⊢; exact hk
    · simp only [RepO] at r
      exact q v r.1
theorem spot_item {σ : L2.St} {env : Env} {F : List Addr} {b k : E} {o c : OV} {d : D} {v vc : V} {fp rest : List Addr} (hpk : pk env b = some o) (hk : keyOf env k = some d) (hch : child o d = some c)
    (hr : RepO B Z H o v fp) (hp : F.Perm (fp ++ rest))
    (hb : ∀ (Z' : Addr → Prop) (H' : Hp) (o' : OV) (fp' : List Addr) (env' : Env), Gr Z Z' H H' → Kept rest H H' → RepO B Z' H' o' v fp' → pput env o' b = some env' → ∃ F', EnvR B Z' H' env' σ F' ∧ F'.Perm (fp' ++ rest))
    (kid : Kid B Z H (setChild o d) o v fp c vc) : Spot B Z H σ env F (.item b k) c vc := by
  obtain ⟨fpc, rc, h1, h2, h3⟩ := kid
  refine ⟨fpc, rc ++ rest, h1, ?_, fun Z' H' c' fpc' env' g kp r ep => ?_⟩
  · rw [← List.append_assoc]
    exact hp.trans (h2.append_right rest)
  · simp only [pput, hpk, hk, hch] at ep
    cases hs : setChild o d c' with
    | none => rw [hs] at ep; cases ep
    | some o' =>
      rw [hs] at ep
      obtain ⟨fp', q1, q2⟩ := h3 Z' H' c' o' fpc' g kp.l r hs
      obtain ⟨F', q3, q4⟩ := hb Z' H' o' fp' env' g kp.r q1 ep
      refine ⟨F', q3, ?_⟩
      rw [← List.append_assoc]
      exact q4.trans (q2.append_right rest)
theorem at_item (g : GX X B) {b k : E} {b' k' : Expr} {pos : Pos} (hb : PE X b' (tAt B b)) (hk : PE X k' (tKey B k)) (hs : PlainIx k') : PE X (.Subscript b' k' pos) (tAt B (.item b k)) := by
  refine ⟨fun pins s σ H Q I ⟨Z, env, F, c, st, hp, q⟩ => ?_⟩
  simp only [pk] at hp
  cases h1 : pk env b with
  | none => rw [h1] at hp; simp at hp
  | some o =>
    cases h2 : keyOf env k with
    | none => rw [h1, h2] at hp; simp at hp
    | some d =>
      rw [h1, h2] at hp
      refine Subscript_ (thn (hb.run pins s σ H (fun v H1 => H1 = H ∧ Spot B Z H σ env F b o v) I ⟨Z, env, F, o, st, h1, fun v sp => ⟨rfl, sp⟩⟩) fun u1 s1 ⟨v, H1, I1, r1, e1, fp, rest, hr, hpm, hset⟩ => ?_)
      subst e1
      refine thn (hk.run pins s1 σ H1 (fun y H2 => H2 = H1 ∧ Rep B Z H1 d y) I1 ⟨Z, env, F, d, st, h2, fun y hy => ⟨rfl, hy⟩⟩) fun u2 s2 ⟨y, H2, I2, r2, e2, hy⟩ => ?_
      subst e2
      exact item_val g hr hy hp I2 r1 r2 (fun vc kid => q vc (spot_item h1 h2 hp hr hpm hset kid)) (hs _ _)
theorem share_own {n : Bool} {env : Env} {e : E} {o : OV} (hp : pk env e = some o) (ho : owned o = true) : share n env e = if n then .bad else match pput env (.fr o.view) e with
    | some env' => .ok (.fr o.view) env'
    | none => .bad := by
  unfold share
  rw [hp]
  cases o with
  | fr d => simp [owned] at ho
  | _ => rfl
theorem share_fr {n : Bool} {env : Env} {e : E} {d : D} (hp : pk env e = some (.fr d)) : share n env e = .ok (.fr d) env := by
  unfold share
  rw [hp]
/-- shared from now on -/
theorem share_ok {e : E} {n : Bool} {W : WX} {σ : L2.St} {env : Env} {F : List Addr} {o : OV} {v : V} {Q : VK} (st : Stt B Z H σ env F) (hp : pk env e = some o) (sp : Spot B Z H σ env F e o v)
    (q : PostE B W σ Z H F n env Q (share n env e)) : Q v H := by
  obtain ⟨fp, rest, hr, hpm, hset⟩ := sp
  cases ho : owned o with
  | false =>
    have hfr : ∃ d, o = .fr d := by
      cases o with
      | fr d => exact ⟨d, rfl⟩
      | _ => simp [owned] at ho
    obtain ⟨d, rfl⟩ := hfr
    rw [share_fr hp] at q
    simp only [RepO] at hr
    exact q v Z H F [] (by simp only [RepO]; exact ⟨hr.1, trivial⟩) st.env st.refl .refl
  | true =>
    rw [share_own hp ho] at q
    cases n with
    | true => exact q.elim
    | false =>
      simp only [Bool.false_eq_true, if_false] at q
      cases hput : pput env (.fr o.view) e with
      | none => rw [hput] at q; exact q.elim
      | some env' =>
        rw [hput] at q
        have hk : Gr Z (fun a => Z a ∨ a ∈ fp) H H := .of (fun a h => .inl h) (fun _ _ _ h => h) (fun _ _ h => h)
        have hv : Rep B (fun a => Z a ∨ a ∈ fp) H o.view v := RepO.share hk (fun a ha => ⟨.inr ha, fun _ h => h⟩) hr
        obtain ⟨F', e1, e2⟩ := hset (fun a => Z a ∨ a ∈ fp) H (.fr o.view) [] env' hk (fun _ _ _ h => h) (by simp only [RepO]; exact ⟨hv, trivial⟩) hput
        have hstep : Step Z H F (fun a => Z a ∨ a ∈ fp) H F' := ((st.refl.perm hpm).share hr.trk).perm (by simpa using e2.symm)
        exact q v _ H F' [] (by simp only [RepO]; exact ⟨hv, trivial⟩) e1 hstep (fun z => (Bool.false_ne_true z).elim)
/-- a name's value -/
theorem e_var {C : Cfg} {W : WX} {i : Nat} {n : Bool} {e : Expr} (he : PE X e (tAt B (.var i))) : PE X e (tE B C W (.var i) n) :=
  PE.imp he fun σ H Q ⟨Z, env, F, st, q⟩ => by
    simp only [ev] at q
    cases hp : pk env (.var i) with
    | none => unfold share at q; rw [hp] at q; exact q.elim
    | some o => exact ⟨Z, env, F, o, st, hp, fun v sp => share_ok st hp sp q⟩
theorem p_path {C : Cfg} {W : WX} {x : E} {n : Bool} {e : Expr} (he : PE X e (tE B C W x n)) (ha : PE X e (tAt B x)) (hx : isPath x = true) : PE X e (tP B C W x n) := by
  refine ⟨fun pins s σ H Q I ⟨Z, env, F, st, q⟩ => ?_⟩
  unfold pkOr at q
  rw [if_pos hx] at q
  cases hp : pk env x with
  | none =>
    rw [hp] at q
    refine he.run pins s σ H Q I ⟨Z, env, F, st, ?_⟩
    cases h1 : ev C x n env with
    | bad => rw [h1] at q; exact q
    | exc y env' => rw [h1] at q; exact q
    | ok o env1 =>
      rw [h1] at q
      intro v Z1 H1 F1 fp1 r1 e1 t1 k1
      exact q v Z1 H1 F1 fp1 fp1 r1 (.inl rfl) e1 t1 k1
  | some o =>
    rw [hp] at q
    refine ha.run pins s σ H Q I ⟨Z, env, F, o, st, hp, fun v ⟨fp, rest, hr, hpm, hset⟩ => ?_⟩
    by_cases ho : owned o = true
    · exact q v Z H F fp [] hr (.inr (by rw [hx, ho]; rfl)) st.env st.refl .refl
    · have : fp = [] := by
        cases o with
        | fr d => simp only [RepO] at hr; exact hr.2
        | _ => simp [owned] at ho
      subst this
      exact q v Z H F [] [] hr (.inl rfl) st.env st.refl .refl
end
end Ev
/-! Ev11: operators by values: the frame, ints, texts, None. -/
namespace Ev
open PySem PySem.Spec PyProof.Rows L2

section
variable {B : Wd} {X : Cx} {C : Cfg} {W : WX}
/-- what an operator makes of looked-at values -/
def rOp (B : Wd) (o : Op) (es : List E) : List V → Hp → VK → Prop := fun us H Q => ∃ Z os r G, Looks B Z H es os us G ∧ G.Nodup ∧ (∀ a ∈ G, ¬ Z a) ∧ (∀ a, Z a → ∃ u, H a = some u) ∧ opR o os = some r ∧
  ∀ v Z' H' fp, RepO B Z' H' r v fp → Step Z H G Z' H' fp → (∀ a u, H a = some u → H' a = some u) → Q v H'
theorem Step.more {Z Z1 Z2 : Addr → Prop} {H H1 H2 : Hp} {F F1 G fp : List Addr} (t : Step Z H F Z1 H1 (G ++ F1)) (tr : ∀ a ∈ F1, ∃ u, H1 a = some u) (trG : ∀ a ∈ G, ∃ u, H1 a = some u) (u : Step Z1 H1 G Z2 H2 fp) : Step Z H F Z2 H2 (fp ++ F1) := by
  have hnd := List.nodup_append.mp t.nd
  have back : ∀ a, Z1 a ∨ a ∈ G ∨ H1 a = none → Z a ∨ a ∈ F ∨ H a = none := fun a q => by
    rcases q with q | q | q
    · exact t.new a (.inl q)
    · exact t.new a (.inr (List.mem_append_left _ q))
    · by_cases hf : a ∈ F
      · exact .inr (.inl hf)
      · cases e : H a with
        | none => exact .inr (.inr rfl)
        | some o => rw [t.oth a o e hf] at q; cases q
  have notF : ∀ a, Z1 a ∨ a ∈ G ∨ H1 a = none → a ∉ F1 := fun a q ha => by
    rcases q with q | q | q
    · exact t.dz a (List.mem_append_right _ ha) q
    · exact hnd.2.2 a q a ha rfl
    · obtain ⟨o, ho⟩ := tr a ha
      rw [ho] at q; cases q
  refine ⟨fun a h => u.sub a (t.sub a h), fun a h => ?_, fun a o h hf => ?_, ?_, fun a h => ?_, u.trk⟩
  · rcases h with h | h
    · exact back a (u.new a (.inl h))
    · rcases List.mem_append.mp h with h | h
      · exact back a (u.new a (.inr h))
      · exact t.new a (.inr (List.mem_append_right _ h))
  · have h1 := t.oth a o h hf
    refine u.oth a o h1 fun hg => ?_
    rcases t.new a (.inr (List.mem_append_left _ hg)) with q | q | q
    · exact t.dz a (List.mem_append_left _ hg) (t.sub a q)
    · exact hf q
    · rw [h] at q; cases q
  · refine List.nodup_append.mpr ⟨u.nd, hnd.2.1, fun a ha b hb e => ?_⟩
    subst e
    exact notF a (u.new a (.inr ha)) hb
  · rcases List.mem_append.mp h with h | h
    · exact u.dz a h
    · exact fun hz => notF a (u.new a (.inl hz)) h
/-- what operands make of an operator's state -/
theorem rOp_of {o : Op} {es : List E} {n : Bool} {σ : L2.St} {Z : Addr → Prop} {H : Hp} {F : List Addr} {env : Env} {Q : VK} (st : Stt B Z H σ env F)
    (q : PostE B W σ Z H F n env Q ((evps C es n env).bind fun vs env1 => R.of (opR o vs) env1)) : PostPs B W σ Z H F n env es (fun us H' => rOp B o es us H' Q) (evps C es n env) := by
  cases h : evps C es n env with
  | bad => rw [h] at q; exact q
  | exc x env' => rw [h] at q; exact q
  | ok os env1 =>
    rw [h] at q
    simp only [R.bind] at q
    intro vs Z1 H1 F1 G l e1 t1 k1
    cases hr : opR o os with
    | none => rw [hr] at q; exact q.elim
    | some r =>
      rw [hr] at q
      have hnd := List.nodup_append.mp t1.nd
      refine ⟨Z1, os, r, G, l, hnd.1, fun a ha => t1.dz a (List.mem_append_left _ ha), t1.trk, hr, fun v Z2 H2 fp hv u ext => ?_⟩
      have trk : ∀ a ∈ F1, ∃ u, H1 a = some u := fun a ha => by
        have := e1.mutb a ha
        cases e : H1 a with
        | none => rw [e] at this; exact this.elim
        | some u => exact ⟨u, rfl⟩
      have trG := l.trk
      have gr : Gr Z1 Z2 H1 H2 := .of u.sub (fun a o _ h => ext a o h) fun a xs h => ext a _ h
      exact q v Z2 H2 F1 fp hv (e1.mono gr fun a _ o h => ext a o h) (t1.more trk trG u) (k1.trans fun _ => ⟨rfl, rfl, ext⟩)

/-- a result that owns nothing and is told by what stands there -/
theorem give {o : Op} {es : List E} {us : List V} {H : Hp} {Q : VK} {Z : Addr → Prop} {G : List Addr} {d : D} {v : V} (hz : ∀ a, Z a → ∃ u, H a = some u) (hr : Rep B Z H d v)
    (q : ∀ v Z' H' fp, RepO B Z' H' (.fr d) v fp → Step Z H G Z' H' fp → (∀ a u, H a = some u → H' a = some u) → Q v H') : Q v H :=
  q v Z H [] (by simp only [RepO]; exact ⟨hr, trivial⟩) ⟨fun _ h => h, fun a h => h.elim .inl fun z => absurd z (by simp), fun _ _ h _ => h, List.nodup_nil, fun _ z => absurd z (by simp), hz⟩ fun _ _ h => h
/-- a new object that owns itself -/
theorem give_new {H : Hp} {Q : VK} {Z : Addr → Prop} {G : List Addr} {r : OV} {p : Addr} {u : HO} (hz : ∀ a, Z a → ∃ u, H a = some u) (hp : H p = none) (hr : RepO B Z (upd H p u) r (.ref p) [p])
    (q : ∀ v Z' H' fp, RepO B Z' H' r v fp → Step Z H G Z' H' fp → (∀ a u, H a = some u → H' a = some u) → Q v H') : Q (.ref p) (upd H p u) := by
  have ext : ∀ a o, H a = some o → upd H p u a = some o := fun a o h => by rw [upd_ne (ne_of_none h hp)]; exact h
  refine q (.ref p) Z (upd H p u) [p] hr ⟨fun _ h => h, fun a h => ?_, fun a o h _ => ext a o h, by simp, fun a h => ?_, fun a h => ?_⟩ ext
  · rcases h with h | h
    · exact .inl h
    · simp only [List.mem_singleton] at h
      subst h; exact .inr (.inr hp)
  · simp only [List.mem_singleton] at h
    subst h
    intro hza
    obtain ⟨w, hw⟩ := hz a hza
    rw [hp] at hw; cases hw
  · obtain ⟨w, hw⟩ := hz a h
    exact ⟨w, ext a w hw⟩
/-- a new object, shared at once -/
theorem give_newZ {H : Hp} {Q : VK} {Z : Addr → Prop} {G : List Addr} {d : D} {p : Addr} {u : HO} (hz : ∀ a, Z a → ∃ u, H a = some u) (hp : H p = none) (hr : Rep B (fun a => Z a ∨ a = p) (upd H p u) d (.ref p))
    (q : ∀ v Z' H' fp, RepO B Z' H' (.fr d) v fp → Step Z H G Z' H' fp → (∀ a u, H a = some u → H' a = some u) → Q v H') : Q (.ref p) (upd H p u) := by
  have ext : ∀ a o, H a = some o → upd H p u a = some o := fun a o h => by rw [upd_ne (ne_of_none h hp)]; exact h
  refine q (.ref p) (fun a => Z a ∨ a = p) (upd H p u) [] (by simp only [RepO]; exact ⟨hr, trivial⟩) ⟨fun _ h => .inl h, fun a h => ?_, fun a o h _ => ext a o h, List.nodup_nil, fun _ z => absurd z (by simp), fun a h => ?_⟩ ext
  · rcases h with (h | h) | h
    · exact .inl h
    · subst h; exact .inr (.inr hp)
    · cases h
  · rcases h with h | h
    · obtain ⟨w, hw⟩ := hz a h
      exact ⟨w, ext a w hw⟩
    · subst h; exact ⟨u, upd_same⟩
theorem gr_upd {H : Hp} {Z Z' : Addr → Prop} {p : Addr} {u : HO} (hp : H p = none) (hs : ∀ a, Z a → Z' a) : Gr Z Z' H (upd H p u) :=
  .of hs (fun a o _ h => by rw [upd_ne (ne_of_none h hp)]; exact h) fun a xs h => by rw [upd_ne (ne_of_none h hp)]; exact h
/-- one looked-at value, two -/
theorem looks1 {Z : Addr → Prop} {H : Hp} {e : E} {os : List OV} {x : V} {G : List Addr} (l : Looks B Z H [e] os [x] G) : ∃ o fp, os = [o] ∧ RepO B Z H o x fp ∧ (G = fp ∨ ((isPath e && owned o) = true ∧ G = [])) := by
  obtain ⟨o, r, v, vr, fp, G1, G2, rfl, e1, h1, rfl, h2, rfl, e2, rfl⟩ := l
  cases e1
  exact ⟨o, fp, rfl, h1, by simpa using h2⟩
theorem looks2 {Z : Addr → Prop} {H : Hp} {e f : E} {os : List OV} {x y : V} {G : List Addr} (l : Looks B Z H [e, f] os [x, y] G) : ∃ o o' fp fp', os = [o, o'] ∧ RepO B Z H o x fp ∧ RepO B Z H o' y fp' := by
  obtain ⟨o, r, v, vr, fp, G1, G2, rfl, e1, h1, rfl, h2, l2⟩ := l
  cases e1
  obtain ⟨o', fp', rfl, h3, _⟩ := looks1 l2
  exact ⟨o, o', fp, fp', rfl, h1, h3⟩

/-! ### ints -/
theorem oInt2_inv {ok : Int → Int → Bool} {f : Int → Int → OV} {os : List OV} {r : OV} (h : oInt2 ok f os = some r) : ∃ i j, os = [.fr (.int i), .fr (.int j)] ∧ ok i j = true ∧ r = f i j := by
  unfold oInt2 at h
  split at h
  · rename_i i j
    split at h
    · rename_i hk
      exact ⟨i, j, rfl, hk, (Option.some.inj h).symm⟩
    · cases h
  · cases h
theorem oInt1_inv {f : Int → OV} {os : List OV} {r : OV} (h : oInt1 f os = some r) : ∃ i, os = [.fr (.int i)] ∧ r = f i := by
  unfold oInt1 at h
  split at h
  · rename_i i
    exact ⟨i, rfl, (Option.some.inj h).symm⟩
  · cases h
theorem repO_int {Z : Addr → Prop} {H : Hp} {i : Int} {v : V} {fp : List Addr} (h : RepO B Z H (.fr (.int i)) v fp) : v = .int i := by
  simp only [RepO, Rep] at h; exact h.1
theorem rep_int {Z : Addr → Prop} {H : Hp} {i : Int} : Rep B Z H (.int i) (.int i) := by simp only [Rep]
theorem rep_bl {Z : Addr → Prop} {H : Hp} {i : Bool} : Rep B Z H (.bl i) (.bl i) := by simp only [Rep]
theorem rep_str {Z : Addr → Prop} {H : Hp} {i : Str} : Rep B Z H (.str i) (.str i) := by simp only [Rep]
theorem rep_non {Z : Addr → Prop} {H : Hp} : Rep B Z H .non .non := by simp only [Rep]
/-- an operator on two ints that gives a plain value -/
theorem op_ints {o : Op} {m : Value → Value → Sem Value} {a b : E} {ok : Int → Int → Bool} {f : Int → Int → D} {fv : Int → Int → V} (ho : ∀ os, opR o os = oInt2 ok (fun i j => .fr (f i j)) os)
    (hf : ∀ (Z : Addr → Prop) (H : Hp) (i j : Int), Rep B Z H (f i j) (fv i j)) (hm : OpR X m (rI (fun i j => ok i j = true) fv)) : OpR X m (fun x y H Q => rOp B o [a, b] [x, y] H Q) := by
  intro pins s σ H x y v u Q I rx ry ⟨Z, os, r, G, l, _, _, hz, hr, q⟩
  obtain ⟨o1, o2, f1, f2, rfl, h1, h2⟩ := looks2 l
  rw [ho] at hr
  obtain ⟨i, j, e, hk, rfl⟩ := oInt2_inv hr
  cases e
  obtain rfl := repO_int h1
  obtain rfl := repO_int h2
  exact hm pins s σ H _ _ v u Q I rx ry ⟨i, j, rfl, rfl, hk, give (o := o) (es := [a, b]) (us := []) hz (hf Z H i j) q⟩
theorem R2.imp {m : Value → Value → Sem Value} {r r' : R2} (h : OpR X m r) (k : ∀ x y H Q, r' x y H Q → r x y H Q) : OpR X m r' := fun pins s σ H x y v u Q I rx ry q => h pins s σ H x y v u Q I rx ry (k _ _ _ _ q)
theorem v_sub {a b : E} : OpR X (binaryOp .Sub) (fun x y H Q => rOp B .sub [a, b] [x, y] H Q) :=
  op_ints (ok := fun _ _ => true) (f := fun i j => .int (i - j)) (fv := fun i j => .int (i - j)) (fun _ => rfl) (fun _ _ _ _ => rep_int) (R2.imp op_sub fun x y H Q ⟨i, j, e1, e2, _, q⟩ => ⟨i, j, e1, e2, q⟩)
theorem v_mul {a b : E} : OpR X (binaryOp .Mult) (fun x y H Q => rOp B .mul [a, b] [x, y] H Q) :=
  op_ints (ok := mulOk) (f := fun i j => .int (i * j)) (fv := fun i j => .int (i * j)) (fun _ => rfl) (fun _ _ _ _ => rep_int) fun pins s σ H x y v u Q I rx ry ⟨i, j, e1, e2, hk, q⟩ => by
    subst e1; subst e2
    obtain ⟨t, rfl⟩ := (show ∃ t, v = Value.int i t from rx)
    obtain ⟨t', rfl⟩ := (show ∃ t, u = Value.int j t from ry)
    refine mul_int ⟨.int _, H, I.tok _, ⟨_, rfl⟩, q⟩ ?_
    unfold mulOk at hk
    rcases Bool.or_eq_true_iff.mp hk with h | h
    · exact .of_left (intBits_le_64 (by have := of_decide_eq_true h; omega) (by have := of_decide_eq_true h; omega))
    · exact .of_right (intBits_le_64 (by have := of_decide_eq_true h; omega) (by have := of_decide_eq_true h; omega))
theorem v_mod {a b : E} : OpR X (binaryOp .Mod) (fun x y H Q => rOp B .mod [a, b] [x, y] H Q) :=
  op_ints (ok := fun _ j => decide (j ≠ 0)) (f := fun i j => .int (i.fmod j)) (fv := fun i j => .int (i.fmod j)) (fun _ => rfl) (fun _ _ _ _ => rep_int) (R2.imp op_modN fun x y H Q ⟨i, j, e1, e2, hk, q⟩ => ⟨i, j, e1, e2, of_decide_eq_true hk, q⟩)
theorem v_fdiv {a b : E} : OpR X (binaryOp .FloorDiv) (fun x y H Q => rOp B .fdiv [a, b] [x, y] H Q) :=
  op_ints (ok := fun _ j => decide (j ≠ 0 ∧ j.natAbs < 1073741824)) (f := fun i j => .int (i.fdiv j)) (fv := fun i j => .int (i.fdiv j)) (fun _ => rfl) (fun _ _ _ _ => rep_int) (R2.imp op_fdivN fun x y H Q ⟨i, j, e1, e2, hk, q⟩ => ⟨i, j, e1, e2, (of_decide_eq_true hk : j ≠ 0 ∧ j.natAbs < 1073741824), q⟩)
theorem v_pow {a b : E} : OpR X (binaryOp .Pow) (fun x y H Q => rOp B .pow [a, b] [x, y] H Q) :=
  op_ints (ok := fun i j => decide (0 ≤ j ∧ j ≤ 1000 ∧ i.natAbs < 2 ^ 64)) (f := fun i j => .int (i ^ j.toNat)) (fv := fun i j => .int (i ^ j.toNat)) (fun _ => rfl) (fun _ _ _ _ => rep_int) (R2.imp op_pow fun x y H Q ⟨i, j, e1, e2, hk, q⟩ => ⟨i, j, e1, e2, by
    have := of_decide_eq_true hk
    exact ⟨this.1, by omega, this.2.2⟩, q⟩)
theorem v_le {a b : E} : OpR X (compareOp .LtE) (fun x y H Q => rOp B .le [a, b] [x, y] H Q) :=
  op_ints (ok := fun _ _ => true) (f := fun i j => .bl (decide (i ≤ j))) (fv := fun i j => .bl (decide (i ≤ j))) (fun _ => rfl) (fun _ _ _ _ => rep_bl) (R2.imp op_le fun x y H Q ⟨i, j, e1, e2, _, q⟩ => ⟨i, j, e1, e2, q⟩)
theorem v_ge {a b : E} : OpR X (compareOp .GtE) (fun x y H Q => rOp B .ge [a, b] [x, y] H Q) :=
  op_ints (ok := fun _ _ => true) (f := fun i j => .bl (decide (j ≤ i))) (fv := fun i j => .bl (decide (j ≤ i))) (fun _ => rfl) (fun _ _ _ _ => rep_bl) (R2.imp op_ge fun x y H Q ⟨i, j, e1, e2, _, q⟩ => ⟨i, j, e1, e2, q⟩)
end
end Ev
/-! Ev12: == and != of data. -/
namespace Ev
open PySem PySem.Spec PyProof.Rows L2

section
variable {prog : Program} {w : World} {A : Around} {E : Value → Shared → Prop} {s : Shared}
open PySem.SeqAt (EqIn EqAt rcIn_lists rcIn_tuples RcAt RcNeAt)

/-! ### != of lists and tuples, in one model -/
section
open PySem.AutoSeq1 (wpAny_loadPart')
open PySem.MeetsSeq PySem.MeetsSeq2 PySem.MeetsSeq3 PySem.SeqRoads2
theorem neLoop (l b : Addr) (xs ys : Array Value) (n m : Nat) (dx dy : Option Addr) (sx sy : Array (Option Value)) (hsz : xs.size = ys.size) (e : Nat → Bool) (k : Nat) :
    ∀ i : Nat, xs.size - i = k → MeetsIn prog w (Builtin.«list.__eq__.loop» ⟨[.ref l, .ref b, rawInt i, rawInt 3], []⟩)
      (fun A R s => s.heap.get? l = some { cls := .type "list", dict := dx, data := .seq xs n, slots := sx } ∧ s.heap.get? b = some { cls := .type "list", dict := dy, data := .seq ys m, slots := sy } ∧
        (∀ j (h1 : j < xs.size) (h2 : j < ys.size), EqIn prog w A.in1 s xs[j] ys[j] (e j)) ∧
        R (.ok (.ret (.bool (!((List.range xs.size).drop i).all e)))) s) := by
  induction k with
  | zero =>
    intro i hk A R s h
    obtain ⟨hp, g, d, tk, os⟩ := s; obtain ⟨hl, hb, he, h⟩ := h
    wp_walk using wpAny_loadPart' hl, wpAny_loadPart' hb
    have q1 : xs[((i : Nat) : Int).toNat]? = none := by simp; omega
    have q2 : ys[((i : Nat) : Int).toNat]? = none := by simp; omega
    have q3 : (List.range xs.size).drop i = [] := by simp; omega
    rw [q3] at h
    rw [q1, q2]
    wp_walk using wpAny_loadPart' hl, wpAny_loadPart' hb
    show R (.ok (.ret (.bool (xs.size != ys.size)))) _
    rw [hsz]
    simpa using h
  | succ k ih =>
    intro i hk A R s h
    obtain ⟨hp, g, d, tk, os⟩ := s; obtain ⟨hl, hb, he, h⟩ := h
    wp_walk using wpAny_loadPart' hl, wpAny_loadPart' hb
    have h1 : i < xs.size := by omega
    have h2 : i < ys.size := by omega
    have q1 : xs[((i : Nat) : Int).toNat]? = some xs[i] := by simp [h1]
    have q2 : ys[((i : Nat) : Int).toNat]? = some ys[i] := by simp [h2]
    have q3 : (List.range xs.size).drop i = i :: (List.range xs.size).drop (i + 1) := by simp [List.drop_eq_getElem_cons, h1]
    have q4 : ((i : Int) + 1) = ((i + 1 : Nat) : Int) := by push_cast; rfl
    rw [q3, List.all_cons] at h
    rw [q1, q2]
    refine wpAny_bind (he i h1 h2 _ _ ?_)
    cases c : e i with
    | true =>
      rw [c] at h
      wp_walk
      rw [q4]
      exact ⟨plainId_quiet plain_eq_loop _, codeAny_builtin entry_eq_loop (by
        rw [Around.under_plainId plain_eq_loop _]
        exact ih (i + 1) (by omega) A R _ ⟨hl, hb, he, by simpa using h⟩)⟩
    | false =>
      rw [c] at h
      wp_walk using wpAny_loadPart' hl, wpAny_loadPart' hb
      rw [q1, q2]
      wp_walk
      simpa using h
theorem neList (l b : Addr) (xs ys : Array Value) (n m : Nat) (dx dy : Option Addr) (sx sy : Array (Option Value)) (hsz : xs.size = ys.size) (e : Nat → Bool) :
    MeetsIn prog w (Builtin.«list.__ne__» ⟨[.ref l, .ref b], []⟩)
      (fun A R s => s.heap.get? l = some { cls := .type "list", dict := dx, data := .seq xs n, slots := sx } ∧ s.heap.get? b = some { cls := .type "list", dict := dy, data := .seq ys m, slots := sy } ∧
        (∀ j (h1 : j < xs.size) (h2 : j < ys.size), EqIn prog w A.in1 s xs[j] ys[j] (e j)) ∧
        R (.ok (.ret (.bool (!(List.range xs.size).all e)))) s) := by
  intro A R s h
  obtain ⟨hp, g, d, tk, os⟩ := s; obtain ⟨hl, hb, he, h⟩ := h
  have f3 := AutoSeq1.sub_list_list
  have hne : ¬ (xs.size != ys.size) = true := by simp [hsz]
  wp_walk using wpAny_loadPart' hl, wpAny_loadPart' hb
  exact ⟨plainId_quiet plain_eq_loop _, codeAny_builtin entry_eq_loop (by
    rw [Around.under_plainId plain_eq_loop _]
    exact neLoop l b xs ys n m dx dy sx sy hsz e _ 0 rfl A R _ ⟨hl, hb, he, by simpa using h⟩)⟩
theorem neTuple (l b : Addr) (xs ys : Array Value) (n m : Nat) (dx dy : Option Addr) (sx sy : Array (Option Value)) (e : Nat → Bool) :
    MeetsIn prog w (Builtin.«tuple.__ne__» ⟨[.ref l, .ref b], []⟩)
      (fun A R s => s.heap.get? l = some { cls := .type "tuple", dict := dx, data := .seq xs n, slots := sx } ∧ s.heap.get? b = some { cls := .type "tuple", dict := dy, data := .seq ys m, slots := sy } ∧
        (∀ j (h1 : j < xs.size) (h2 : j < ys.size), EqIn prog w A.in1 s xs[j] ys[j] (e j)) ∧
        R (.ok (.ret (.bool (!((List.range (min xs.size ys.size)).all e && xs.size == ys.size))))) s) :=
  .of_wp fun A R s h => by
    obtain ⟨hp, g, d, tk, os⟩ := s; obtain ⟨hl, hb, he, h⟩ := h
    have f2 := AutoSeq1.sub_tuple_tuple
    have hZ : (xs.toList.zip ys.toList).length = min xs.size ys.size := by simp
    wp_walk using wpAny_loadPart' hl, wpAny_loadPart' hb, wpAny_forIn_list _ (fun rest b s' => b.1 = none ∧ s' = ⟨hp, g, d, tk, os⟩ ∧ ∃ i, rest = (xs.toList.zip ys.toList).drop i ∧
      R (.ok (.ret (.bool (!(((List.range (min xs.size ys.size)).drop i).all e && xs.size == ys.size))))) ⟨hp, g, d, tk, os⟩) _
    case turn =>
      rintro ⟨y, x⟩ rest b s' ⟨hb', rfl, i, hz, hR⟩
      have hlt : i < (xs.toList.zip ys.toList).length := by
        rcases Nat.lt_or_ge i (xs.toList.zip ys.toList).length with h' | h'
        · exact h'
        · rw [List.drop_of_length_le h'] at hz; cases hz
      have hm : i < min xs.size ys.size := hZ ▸ hlt
      have h1 : i < xs.size := Nat.lt_of_lt_of_le hm (Nat.min_le_left _ _)
      have h2 : i < ys.size := Nat.lt_of_lt_of_le hm (Nat.min_le_right _ _)
      rw [List.drop_eq_getElem_cons hlt] at hz
      injection hz with hyx hrest
      have hy : y = xs[i] := by have := congrArg Prod.fst hyx; simpa using this
      have hx : x = ys[i] := by have := congrArg Prod.snd hyx; simpa using this
      subst hy hx
      have q3 : (List.range (min xs.size ys.size)).drop i = i :: (List.range (min xs.size ys.size)).drop (i + 1) := by simp [List.drop_eq_getElem_cons, hm]
      rw [q3, List.all_cons] at hR
      refine wpAny_bind (he i h1 h2 _ _ ?_)
      cases c : e i with
      | true =>
        rw [c] at hR
        wp_walk
        exact ⟨rfl, rfl, i + 1, hrest, by simpa using hR⟩
      | false =>
        rw [c] at hR
        wp_walk
        exact ⟨_, rfl, by simpa using hR⟩
    case fin =>
      rintro ⟨b1, b2⟩ s' ⟨hb', rfl, i, hz, hR⟩
      simp only at hb'
      subst hb'
      have hge : min xs.size ys.size ≤ i := by
        rcases Nat.lt_or_ge i (xs.toList.zip ys.toList).length with h' | h'
        · rw [List.drop_eq_getElem_cons h'] at hz; cases hz
        · exact hZ ▸ h'
      rw [List.drop_of_length_le (by simpa using hge)] at hR
      wp_walk
      exact ⟨_, rfl, by simpa [Builtin.Tuple.tupleCompareSizes, bne] using hR⟩
    case h =>
      exact ⟨rfl, rfl, 0, rfl, by simpa using h⟩
theorem rcNe_lists {l b : Addr} {xs ys : Array Value} {e : Nat → Bool} {Q : Value → Shared → Prop} (hl : s.heap.IsList l xs) (hb : s.heap.IsList b ys) (hsz : xs.size = ys.size) (hu : A.units < cLine)
    (he : ∀ j (h1 : j < xs.size) (h2 : j < ys.size), EqIn prog w A.in1 s xs[j] ys[j] (e j)) (h : Q (.bool (!(List.range xs.size).all e)) s) : wpAny (model prog w) A (richCompare .NotEq (.ref l) (.ref b)) Q E s := by
  obtain ⟨⟨c1, d1, t1, sl1⟩, ho, hc, n, hd⟩ := id hl
  obtain ⟨⟨c2, d2, t2, sl2⟩, ho2, hc2, n2, hd2⟩ := id hb
  simp only at hc hd hc2 hd2
  subst hc hd hc2 hd2
  exact wpAny_richCompare_same_room (T := "list") (op := .NotEq) ⟨_, ho, rfl⟩ ⟨_, ho2, rfl⟩ F.slot_list_ne (call_meetsIn F.slot_list_ne ⟨_, ho, rfl⟩ F.entry_list_ne (F.args_list_ne_2 _ _) (neList l b xs ys n n2 d1 d2 sl1 sl2 hsz e)
    ⟨ho, ho2, he, show Value.bool (!(List.range xs.size).all e) ≠ Value.notImplemented ∧ Q (.bool (!(List.range xs.size).all e)) s from ⟨(fun x => nomatch x), h⟩⟩) hu
theorem rcNe_tuples {l b : Addr} {xs ys : Array Value} {e : Nat → Bool} {Q : Value → Shared → Prop} (hl : s.heap.IsTuple l xs) (hb : s.heap.IsTuple b ys) (hu : A.units < cLine)
    (he : ∀ j (h1 : j < xs.size) (h2 : j < ys.size), EqIn prog w A.in1 s xs[j] ys[j] (e j)) (h : Q (.bool (!((List.range (min xs.size ys.size)).all e && xs.size == ys.size))) s) :
    wpAny (model prog w) A (richCompare .NotEq (.ref l) (.ref b)) Q E s := by
  obtain ⟨⟨c1, d1, t1, sl1⟩, ho, hc, n, hd⟩ := id hl
  obtain ⟨⟨c2, d2, t2, sl2⟩, ho2, hc2, n2, hd2⟩ := id hb
  simp only at hc hd hc2 hd2
  subst hc hd hc2 hd2
  exact wpAny_richCompare_same_room (T := "tuple") (op := .NotEq) ⟨_, ho, rfl⟩ ⟨_, ho2, rfl⟩ F.slot_tuple_ne (call_meetsIn F.slot_tuple_ne ⟨_, ho, rfl⟩ F.entry_tuple_ne (F.args_tuple_ne_2 _ _) (neTuple l b xs ys n n2 d1 d2 sl1 sl2 e)
    ⟨ho, ho2, he, show Value.bool (!((List.range (min xs.size ys.size)).all e && xs.size == ys.size)) ≠ Value.notImplemented ∧ Q (.bool (!((List.range (min xs.size ys.size)).all e && xs.size == ys.size))) s from ⟨(fun x => nomatch x), h⟩⟩) hu
end

/-! ### dicts -/
inductive HitsK (prog : Program) (w : World) (A : Around) (s : Shared) (es fs : Array DictEntry) (ka kb : List NestedKey) : Nat → Bool → Prop
  | fin {i : Nat} : es.size ≤ i → HitsK prog w A s es fs ka kb i true
  | miss {i : Nat} {k : NestedKey} : ka[i]? = some k → (∀ (j : Nat), kb[j]? ≠ some k) → HitsK prog w A s es fs ka kb i false
  | hit {i j : Nat} {k : NestedKey} {e f : DictEntry} {c b : Bool} : ka[i]? = some k → es[i]? = some e → kb[j]? = some k → fs[j]? = some f → EqIn prog w A s e.val f.val c → HitsK prog w A s es fs ka kb (i + 1) b → HitsK prog w A s es fs ka kb i (c && b)
theorem HitsK.inv {es fs : Array DictEntry} {ka kb : List NestedKey} {i : Nat} {r : Bool} (h : HitsK prog w A s es fs ka kb i r) (hl : i < es.size) :
    (∃ (k : NestedKey), ka[i]? = some k ∧ (∀ (j : Nat), kb[j]? ≠ some k) ∧ r = false) ∨ ∃ (j : Nat) (k : NestedKey) (e f : DictEntry) (c b : Bool), ka[i]? = some k ∧ es[i]? = some e ∧ kb[j]? = some k ∧ fs[j]? = some f ∧ EqIn prog w A s e.val f.val c ∧ HitsK prog w A s es fs ka kb (i + 1) b ∧ r = (c && b) := by
  cases h with
  | fin h => omega
  | miss h1 h2 => exact .inl ⟨_, h1, h2, rfl⟩
  | hit h1 h2 h3 h4 h5 h6 => exact .inr ⟨_, _, _, _, _, _, h1, h2, h3, h4, h5, h6, rfl⟩
theorem HitsK.out {es fs : Array DictEntry} {ka kb : List NestedKey} {i : Nat} {r : Bool} (h : HitsK prog w A s es fs ka kb i r) (hk : ka.length = es.size) (hl : es.size ≤ i) : r = true := by
  cases h with
  | fin h => rfl
  | miss h1 h2 => have := (List.getElem?_eq_some_iff.mp h1).1; omega
  | hit h1 h2 h3 h4 h5 h6 => have := (List.getElem?_eq_some_iff.mp h1).1; omega
theorem samePairsK {nm : String} {a b : Addr} {oa ob : Obj} {es fs : Array DictEntry} {ep eq : Nat} {ka kb : List NestedKey} {r : Bool} {Q : Bool → Shared → Prop} (ha : (a == sysModules) = false) (hb : (b == sysModules) = false) (hu : A.units + 8 < cLine)
    (hoa : s.heap.get? a = some oa) (hda : oa.data = .dict es ep) (xa : EntK w s.heap es ka) (hob : s.heap.get? b = some ob) (hdb : ob.data = .dict fs eq) (xb : EntK w s.heap fs kb)
    (hits : es.size = fs.size → HitsK prog w A s es fs ka kb 0 r) (h : Q (es.size == fs.size && r) s) : wpAny (model prog w) A (Builtin.Dict.samePairs nm a b) Q E s := by
  unfold Builtin.Dict.samePairs Builtin.Dict.showsAll
  rw [if_neg (show ¬ (a == sysModules) = true by rw [ha]; exact Bool.false_ne_true), if_neg (show ¬ (b == sysModules) = true by rw [hb]; exact Bool.false_ne_true)]
  refine wpAny_bind (wpAny_pure (wpAny_bind (wpAny_pure ?_)))
  refine wpAny_bind (wpAny_dictEntries hoa hda ?_)
  dsimp only
  refine wpAny_bind (wpAny_dictEntries hob hdb ?_)
  by_cases hsz : es.size = fs.size
  case neg =>
    rw [if_pos (by simpa using hsz)]
    have hbf : (es.size == fs.size) = false := by simpa using hsz
    rw [hbf, Bool.false_and] at h
    exact wpAny_bind (wpAny_rule (wpAny_pure h))
  case pos =>
    have hq : Q r s := by simpa [hsz] using h
    have hits' := hits hsz
    rw [if_neg (by rw [hsz]; simp)]
    refine wpAny_bind (wpAny_dictEpoch hoa hda ?_)
    refine wpAny_bind ?_
    rw [Std.Legacy.Range.forIn_eq_forIn_range']
    simp only [Std.Legacy.Range.size, Nat.sub_zero, Nat.add_sub_cancel, Nat.div_one]
    refine wpAny_forIn_list _
      (fun rest q t => t = s ∧ q = (none, ()) ∧ ∃ i, rest = List.range' i (es.size - i) ∧ i ≤ es.size ∧ HitsK prog w A s es fs ka kb i r)
      _ ?_ ?_ _ _ ⟨rfl, rfl, 0, by simp, Nat.zero_le _, hits'⟩
    · rintro x rest q t ⟨rfl, rfl, i, hr, hi, hpre⟩
      have hlt : i < es.size := by
        rcases Nat.lt_or_ge i es.size with h | h
        · exact h
        · rw [Nat.sub_eq_zero_of_le h] at hr; simp at hr
      obtain ⟨rfl, hrest⟩ : x = i ∧ rest = List.range' (i + 1) (es.size - (i + 1)) := by
        have e : es.size - i = (es.size - (i + 1)) + 1 := by omega
        rw [e, List.range'_succ] at hr
        injection hr with h1 h2
        exact ⟨h1, h2⟩
      have hes : es[x]? = some es[x] := Array.getElem?_eq_getElem hlt
      refine wpAny_bind (wpAny_dictEntries hoa hda ?_)
      rw [hes]
      obtain ⟨k, hk1, hk2, hk3, hk4⟩ := xa.ent x _ hes
      show wpAny _ _ (holding [es[x].key, es[x].val] _ >>= _) _ _ _
      rw [hk4]
      refine wpAny_bind (wpAny_holding (wpAny_bind (dictFind_key hu hk2 hk3 hob hdb xb (fun hno => ?_) (fun j hj => ?_))))
      · rcases hpre.inv hlt with ⟨_, _, _, er⟩ | ⟨j, k', e, f, c, b', c1, _, c3, _⟩
        · rw [er] at hq
          refine wpAny_pure ?_
          show wpAny _ _ (if (!false) = true then _ else _) _ _ _
          rw [if_pos (by decide)]
          exact wpAny_pure (wpAny_pure hq)
        · rw [hk1] at c1; cases c1
          exact absurd c3 (hno j)
      · have hjl : j < fs.size := by
          rw [← xb.len]; exact (List.getElem?_eq_some_iff.mp hj).1
        refine wpAny_bind (wpAny_dictEntries hob hdb ?_)
        rw [Array.getElem?_eq_getElem hjl]
        rcases hpre.inv hlt with ⟨k', c1, c2, _⟩ | ⟨j', k', e, f, c, b', c1, c2, c3, c4, c5, c6, er⟩
        · rw [hk1] at c1; cases c1
          exact absurd hj (c2 j)
        · rw [hk1] at c1; cases c1
          have ej := key_uniq xb.nd c3 hj
          subst ej
          rw [hes] at c2; cases c2
          rw [Array.getElem?_eq_getElem hjl] at c4; cases c4
          refine wpAny_holding (c5 _ _ ?_)
          cases c with
          | false =>
            rw [er, Bool.false_and] at hq
            show wpAny _ _ (if (!false) = true then _ else _) _ _ _
            rw [if_pos (by decide)]
            exact wpAny_pure (wpAny_pure hq)
          | true =>
            rw [Bool.true_and] at er
            rw [← er] at c6
            show wpAny _ _ (if (!true) = true then _ else _) _ _ _
            rw [if_neg (by decide)]
            refine wpAny_bind (wpAny_dictEpoch hoa hda ?_)
            rw [if_neg (by simp)]
            exact wpAny_pure ⟨rfl, rfl, x + 1, hrest, hlt, c6⟩
    · rintro q t ⟨rfl, rfl, i, hr, hi, hpre⟩
      have hin : es.size ≤ i := by
        rcases Nat.lt_or_ge i es.size with h | h
        · have e : es.size - i = (es.size - (i + 1)) + 1 := by omega
          rw [e, List.range'_succ] at hr; exact nomatch hr
        · exact h
      refine wpAny_pure ?_
      have := hpre.out xa.len hin
      rw [this] at hq
      exact hq
theorem rcK_dicts {op : CmpOp} {ng : Bool} (hop : (op = .Eq ∧ ng = false) ∨ (op = .NotEq ∧ ng = true)) {a b : Addr} {oa ob : Obj} {es fs : Array DictEntry} {ep eq : Nat} {ka kb : List NestedKey} {r : Bool} (ha : (a == sysModules) = false) (hb : (b == sysModules) = false) (hu : A.in1.units + 8 < cLine)
    (hoa : s.heap.get? a = some oa) (hca : oa.ExactDict) (hda : oa.data = .dict es ep) (xa : EntK w s.heap es ka) (hob : s.heap.get? b = some ob) (hcb : ob.ExactDict) (hdb : ob.data = .dict fs eq) (xb : EntK w s.heap fs kb)
    (hits : es.size = fs.size → HitsK prog w A.in1 s es fs ka kb 0 r) (E Q : Value → Shared → Prop) (h : Q (.bool ((es.size == fs.size && r) != ng)) s) : wpAny (model prog w) A (richCompare op (.ref a) (.ref b)) Q E s := by
  have ta : s.TypeIs (.ref a) "dict" := ⟨oa, hoa, hca.1⟩
  have tb : s.TypeIs (.ref b) "dict" := ⟨ob, hob, hcb.1⟩
  have hu' : A.units < cLine := by rw [units_in1] at hu; omega
  rcases hop with ⟨rfl, rfl⟩ | ⟨rfl, rfl⟩
  · refine wpAny_richCompare_same_room (op := .Eq) ta tb PySem.F.slot_dict_eq (wpAny_call_entry PySem.F.slot_dict_eq ta PySem.F.entry_dict_eq ?_ (PySem.F.args_dict_eq_2 _ _)) hu'
    show wpAny _ _ (Builtin.Dict.dictSlotArgs "__eq__" ⟨[.ref a, .ref b], []⟩ >>= _) _ _ s
    refine wpAny_bind ?_
    unfold Builtin.Dict.dictSlotArgs
    refine wpAny_bind (wpAny_notOrdered_dict ta ?_)
    show wpAny _ _ (pure (Value.ref a, Value.ref b)) _ _ s
    refine wpAny_pure ?_
    refine wpAny_bind (wpAny_isInstance (T := "dict") tb PySem.F.sub_dict_dict ?_)
    simp only [Bool.not_true, Bool.false_eq_true, if_false]
    refine wpAny_bind (wpAny_pure (wpAny_bind (wpAny_pure ?_)))
    refine wpAny_bind (samePairsK ha hb hu hoa hda xa hob hdb xb hits ?_)
    refine wpAny_pure ⟨_, rfl, ?_, ?_⟩
    · exact fun x => nomatch x
    · simpa using h
  · refine wpAny_richCompare_same_room (op := .NotEq) ta tb PySem.F.slot_dict_ne (wpAny_call_entry PySem.F.slot_dict_ne ta PySem.F.entry_dict_ne ?_ (PySem.F.args_dict_ne_2 _ _)) hu'
    show wpAny _ _ (Builtin.Dict.dictSlotArgs "__ne__" ⟨[.ref a, .ref b], []⟩ >>= _) _ _ s
    refine wpAny_bind ?_
    unfold Builtin.Dict.dictSlotArgs
    refine wpAny_bind (wpAny_notOrdered_dict ta ?_)
    show wpAny _ _ (pure (Value.ref a, Value.ref b)) _ _ s
    refine wpAny_pure ?_
    refine wpAny_bind (wpAny_isInstance (T := "dict") tb PySem.F.sub_dict_dict ?_)
    simp only [Bool.not_true, Bool.false_eq_true, if_false]
    refine wpAny_bind (wpAny_pure (wpAny_bind (wpAny_pure ?_)))
    refine wpAny_bind (samePairsK ha hb hu hoa hda xa hob hdb xb hits ?_)
    refine wpAny_pure ⟨_, rfl, ?_, ?_⟩
    · exact fun x => nomatch x
    · simpa using h
end
end Ev
/-! Ev13: == and != by data. -/
namespace Ev
open PySem PySem.Spec PyProof.Rows L2

section
variable {B : Wd} {Z Z' : Addr → Prop} {H : Hp} {P : Program} {h : Heap}
theorem Repk.getk : ∀ {kvs : List (D × D)} {es : List DictEntry} {j : Nat} {k d : D}, Repk B Z H kvs es → kvs[j]? = some (k, d) → ∃ e kv v, es[j]? = some e ∧ RelV kv e.key ∧ Rep B Z H k kv ∧ RelV v e.val ∧ Rep B Z H d v
  | [], es, j, k, d, r, h => by simp at h
  | (k0, d0) :: kvs, es, j, k, d, r, h => by
    simp only [Repk] at r
    obtain ⟨e0, er, rfl, ⟨kv, rk, hk⟩, _, ⟨v, rv, hv⟩, h2⟩ := r
    cases j with
    | zero =>
      simp only [List.getElem?_cons_zero, Option.some.injEq, Prod.mk.injEq] at h
      obtain ⟨rfl, rfl⟩ := h
      exact ⟨e0, kv, v, rfl, rk, hk, rv, hv⟩
    | succ j =>
      obtain ⟨e, kv, v, h3, h4⟩ := Repk.getk h2 (j := j) (k := k) (d := d) (by simpa using h)
      exact ⟨e, kv, v, by simpa using h3, h4⟩
theorem dget_at {α : Type} {k : D} : ∀ {kvs : List (D × α)} {j : Nat} {k' : D} {y : α}, keyK k = true → (∀ p ∈ kvs, keyK p.1 = true) → (kvs.map fun p => canon p.1).Nodup → kvs[j]? = some (k', y) → canon k' = canon k → dget k kvs = some y
  | [], j, k', y, _, _, _, h, _ => by simp at h
  | (k0, y0) :: r, j, k', y, hk, q, nd, h, e => by
    simp only [dget]
    simp only [List.map_cons, List.nodup_cons] at nd
    have hk0 : keyK k0 = true := q _ List.mem_cons_self
    cases j with
    | zero =>
      simp only [List.getElem?_cons_zero, Option.some.injEq, Prod.mk.injEq] at h
      obtain ⟨rfl, rfl⟩ := h
      rw [if_pos ((keq_iff hk0 hk).mpr e)]
    | succ j =>
      have h' : r[j]? = some (k', y) := by simpa using h
      rw [if_neg]
      · exact dget_at hk (fun p hp => q p (List.mem_cons_of_mem _ hp)) nd.2 h' e
      · intro e0
        have e1 := (keq_iff hk0 hk).mp e0
        refine nd.1 ?_
        rw [e1, ← e]
        exact List.mem_map.mpr ⟨_, List.mem_of_getElem? h', rfl⟩
/-- what stands at one place is equal to itself -/
theorem eqDk_same {n : Nat} {ys : List (D × D)} (ih : ∀ {d d' : D} {v : V} {b : Bool}, Rep B Z H d v → Rep B Z' H d' v → eqD n d d' = some b → b = true) :
    ∀ {l : List (D × D)} {b : Bool}, (∀ p ∈ l, ∃ y v, dget p.1 ys = some y ∧ Rep B Z H p.2 v ∧ Rep B Z' H y v) → eqDk n l ys = some b → b = true
  | [], b, _, e => by simp only [eqDk, Option.some.injEq] at e; exact e.symm
  | (k, x) :: l, b, q, e => by
    obtain ⟨y, v, hy, h1, h2⟩ := q _ List.mem_cons_self
    simp only at hy h1
    simp only [eqDk, hy] at e
    cases e1 : eqD n x y with
    | none => rw [e1] at e; simp at e
    | some a =>
      cases e2 : eqDk n l ys with
      | none => rw [e1, e2] at e; simp at e
      | some c =>
        rw [e1, e2] at e
        simp only [Option.some.injEq] at e
        rw [ih h1 h2 e1, eqDk_same ih (fun p hp => q p (List.mem_cons_of_mem _ hp)) e2] at e
        exact e.symm
theorem eqDs_same {n : Nat} (ih : ∀ {d d' : D} {v : V} {b : Bool}, Rep B Z H d v → Rep B Z' H d' v → eqD n d d' = some b → b = true) :
    ∀ {l l' : List D} {vs : List V} {b : Bool}, Reps B Z H l vs → Reps B Z' H l' vs → eqDs n l l' = some b → b = true
  | [], [], vs, b, _, _, e => by simp only [eqDs, Option.some.injEq] at e; exact e.symm
  | [], _ :: _, vs, b, r, r', e => by
    simp only [Reps] at r r'
    obtain ⟨_, _, e1, _⟩ := r'
    rw [r] at e1; cases e1
  | _ :: _, [], vs, b, r, r', e => by
    simp only [Reps] at r r'
    obtain ⟨_, _, e1, _⟩ := r
    rw [r'] at e1; cases e1
  | x :: l, y :: l', vs, b, r, r', e => by
    simp only [Reps] at r r'
    obtain ⟨v, vr, rfl, h1, h2⟩ := r
    obtain ⟨v', vr', e0, h1', h2'⟩ := r'
    cases e0
    simp only [eqDs] at e
    cases e1 : eqD n x y with
    | none => rw [e1] at e; simp at e
    | some a =>
      cases e2 : eqDs n l l' with
      | none => rw [e1, e2] at e; simp at e
      | some c =>
        rw [e1, e2] at e
        simp only [Option.some.injEq] at e
        rw [ih h1 h1' e1, eqDs_same ih h2 h2' e2] at e
        exact e.symm
theorem same_rep (ok : HOk P B.w H h) (hK : B.K.In h) : ∀ (n : Nat) {d d' : D} {v : V} {b : Bool}, Rep B Z H d v → Rep B Z' H d' v → eqD n d d' = some b → b = true := by
  intro n
  induction n with
  | zero =>
    intro d d' v b r r' e
    cases d <;> cases d' <;> simp only [Rep] at r r' <;>
      first
        | (obtain ⟨a, _, e1, _⟩ := r; rw [r'] at e1; cases e1; done)
        | (obtain ⟨a, _, e1, _⟩ := r'; rw [r] at e1; cases e1; done)
        | (rw [r] at r'; cases r'; done)
        | (rw [r] at r'; cases r'; simp [eqD] at e; exact e)
        | (rw [r] at r'; cases r'; simp [eqD] at e; done)
        | (rw [r] at r'; cases r'; simp only [eqD, Option.some.injEq, beq_self_eq_true] at e; exact e.symm)
        | (simp [eqD] at e; done)
        | skip
    · obtain ⟨a, xs, rfl, h1, _⟩ := r
      obtain ⟨a', ys, e1, h2, _⟩ := r'
      cases e1
      obtain ⟨_, o, _, _, g1, c1, _⟩ := h1.at ok hK
      obtain ⟨_, o', _, _, g2, c2, _⟩ := h2.at ok hK
      rw [g1] at g2; cases g2
      exact absurd (c1.symm.trans c2) (by intro z; injection z with z; exact absurd z (by decide))
    · obtain ⟨a, xs, rfl, h1, _⟩ := r
      obtain ⟨a', ys, e1, h2, _⟩ := r'
      cases e1
      obtain ⟨_, o, _, _, g1, c1, _⟩ := h1.at ok hK
      obtain ⟨_, o', _, _, g2, c2, _⟩ := h2.at ok hK
      rw [g1] at g2; cases g2
      exact absurd (c1.symm.trans c2) (by intro z; injection z with z; exact absurd z (by decide))
  | succ n ih =>
    intro d d' v b r r' e
    cases d <;> cases d' <;> simp only [Rep] at r r' <;>
      first
        | (obtain ⟨a, _, e1, _⟩ := r; rw [r'] at e1; cases e1; done)
        | (obtain ⟨a, _, e1, _⟩ := r'; rw [r] at e1; cases e1; done)
        | (rw [r] at r'; cases r'; done)
        | (rw [r] at r'; cases r'; simp [eqD] at e; exact e)
        | (rw [r] at r'; cases r'; simp [eqD] at e; done)
        | (rw [r] at r'; cases r'; simp only [eqD, Option.some.injEq, beq_self_eq_true] at e; exact e.symm)
        | (simp [eqD] at e; done)
        | skip
    · simp only [eqD] at e
      obtain ⟨a, xs, rfl, h1, q1⟩ := r
      obtain ⟨a', ys, e1, h2, q2⟩ := r'
      cases e1
      obtain ⟨is1, o, _, v1, g1, c1, d1, _⟩ := h1.at ok hK
      obtain ⟨is2, o', _, v2, g2, c2, d2, _⟩ := h2.at ok hK
      rw [g1] at g2; cases g2
      rw [d1] at d2
      have ei : is1 = is2 := by injection d2 with d2 _; simpa using congrArg Array.toList d2
      subst ei
      cases Vals.inj v1 v2
      exact eqDs_same ih q1 q2 e
    · obtain ⟨a, xs, rfl, h1, _⟩ := r
      obtain ⟨a', ys, e1, h2, _⟩ := r'
      cases e1
      obtain ⟨_, o, _, _, g1, c1, _⟩ := h1.at ok hK
      obtain ⟨_, o', _, _, g2, c2, _⟩ := h2.at ok hK
      rw [g1] at g2; cases g2
      exact absurd (c1.symm.trans c2) (by intro z; injection z with z; exact absurd z (by decide))
    · obtain ⟨a, xs, rfl, h1, _⟩ := r
      obtain ⟨a', ys, e1, h2, _⟩ := r'
      cases e1
      obtain ⟨_, o, _, _, g1, c1, _⟩ := h1.at ok hK
      obtain ⟨_, o', _, _, g2, c2, _⟩ := h2.at ok hK
      rw [g1] at g2; cases g2
      exact absurd (c1.symm.trans c2) (by intro z; injection z with z; exact absurd z (by decide))
    · simp only [eqD] at e
      obtain ⟨a, xs, rfl, h1, q1⟩ := r
      obtain ⟨a', ys, e1, h2, q2⟩ := r'
      cases e1
      obtain ⟨is1, o, _, v1, g1, c1, d1, _⟩ := h1.at ok hK
      obtain ⟨is2, o', _, v2, g2, c2, d2, _⟩ := h2.at ok hK
      rw [g1] at g2; cases g2
      rw [d1] at d2
      have ei : is1 = is2 := by injection d2 with d2 _; simpa using congrArg Array.toList d2
      subst ei
      cases Vals.inj v1 v2
      rw [if_pos (by rw [← q1.length, ← q2.length])] at e
      exact eqDs_same ih q1 q2 e
    · simp only [eqD] at e
      obtain ⟨a, es, rfl, ⟨_, h1⟩, _, _, n1, q1⟩ := r
      obtain ⟨a', fs, e1, ⟨_, h2⟩, _, _, n2, q2⟩ := r'
      cases e1
      obtain ⟨o, ea, _, g1, _, d1, c1⟩ := DH.at h1 ok
      obtain ⟨o', fa, _, g2, _, d2, c2⟩ := DH.at h2 ok
      rw [g1] at g2; cases g2
      rw [d1] at d2
      have ei : es = fs := by
        injection d2 with d2 _
        rw [← c1, ← c2, d2]
      subst ei
      rw [if_pos (by rw [← q1.length, ← q2.length])] at e
      refine eqDk_same ih (fun p hp => ?_) e
      obtain ⟨j, hj⟩ := List.mem_iff_getElem?.mp hp
      obtain ⟨k, x⟩ := p
      obtain ⟨en, kv, v, he, rk, hk, rv, hv⟩ := q1.getk hj
      have hl : j < es.length := (List.getElem?_eq_some_iff.mp he).1
      rw [q2.length] at hl
      obtain ⟨⟨k', y⟩, hj'⟩ : ∃ p, _ = some p := ⟨_, List.getElem?_eq_getElem hl⟩
      obtain ⟨en', kv', v', he', rk', hk', rv', hv'⟩ := q2.getk hj'
      rw [he] at he'; cases he'
      cases rk.inj rk'
      cases rv.inj rv'
      have ok1 := keyOk_k ((keysNd_at n1).1 _ hp)
      have ok2 := keyOk_k ((keysNd_at n2).1 _ (List.mem_of_getElem? hj'))
      have ec : canon k' = canon k := NestedIs.inj _ _ _ (key_is ok hK ok2 hk' rk) (key_is ok hK ok1 hk rk)
      exact ⟨y, v, dget_at ok1 (fun p hp => keyOk_k ((keysNd_at n2).1 p hp)) (keysNd_at n2).2 hj' ec, hv, hv'⟩
end
end Ev
/-! Ev14: == and != by data, the model's answer. -/
namespace Ev
open PySem PySem.Spec PyProof.Rows L2

section
variable {B : Wd} {Z Z' : Addr → Prop} {H : Hp} {P : Program} {h : Heap}
open PySem.SeqAt (EqIn EqAt rcIn_lists rcIn_tuples RcAt RcNeAt)
theorem eqDs_at : ∀ {n : Nat} {xs ys : List D} {b : Bool}, eqDs n xs ys = some b → ∃ e : Nat → Bool, (∀ (j : Nat) (x y : D), xs[j]? = some x → ys[j]? = some y → eqD n x y = some (e j)) ∧ b = ((List.range (min xs.length ys.length)).all e && xs.length == ys.length)
  | n, [], [], b, h => ⟨fun _ => true, fun j x y hx _ => by simp at hx, by simp only [eqDs, Option.some.injEq] at h; simp [← h]⟩
  | n, [], y :: ys, b, h => ⟨fun _ => true, fun j x y hx _ => by simp at hx, by simp only [eqDs, Option.some.injEq] at h; simp [← h]⟩
  | n, x :: xs, [], b, h => ⟨fun _ => true, fun j x y _ hy => by simp at hy, by simp only [eqDs, Option.some.injEq] at h; simp [← h]⟩
  | n, x :: xs, y :: ys, b, h => by
    simp only [eqDs] at h
    cases e1 : eqD n x y with
    | none => rw [e1] at h; simp at h
    | some a =>
      cases e2 : eqDs n xs ys with
      | none => rw [e1, e2] at h; simp at h
      | some c =>
        rw [e1, e2] at h
        simp only [Option.some.injEq] at h
        obtain ⟨e, h1, h2⟩ := eqDs_at e2
        refine ⟨fun j => match j with | 0 => a | j + 1 => e j, fun j x' y' hx hy => ?_, ?_⟩
        · cases j with
          | zero =>
            simp only [List.getElem?_cons_zero, Option.some.injEq] at hx hy
            subst hx; subst hy
            exact e1
          | succ j =>
            simp only [List.getElem?_cons_succ] at hx hy
            exact h1 j x' y' hx hy
        · rw [← h, h2, List.length_cons, List.length_cons, show min (xs.length + 1) (ys.length + 1) = min xs.length ys.length + 1 by omega, List.range_succ_eq_map, List.all_cons, List.all_map, Bool.and_assoc]
          congr 1
          congr 1
          rw [Bool.eq_iff_iff, beq_iff_eq, beq_iff_eq]; omega
/-- what a value is, by its data -/
def ValAt (B : Wd) (Z : Addr → Prop) (H : Hp) (h : Heap) (v : Value) : D → Prop
  | .non => v = .none
  | .bl b => v = .bool b
  | .int i => ∃ t, v = .int i t
  | .str s => ∃ t, v = .str s t
  | .tup ds => ∃ a xs its, v = .ref a ∧ h.IsTuple a its ∧ Vals xs its.toList ∧ Reps B Z H ds xs
  | .lst ds => ∃ a xs its, v = .ref a ∧ h.IsList a its ∧ Vals xs its.toList ∧ Reps B Z H ds xs
  | .dct kvs => ∃ a o ea ep es, v = .ref a ∧ h.get? a = some o ∧ o.ExactDict ∧ o.data = .dict ea ep ∧ ea.toList = es ∧ (a == sysModules) = false ∧ keysNd kvs = true ∧ Repk B Z H kvs es
  | _ => True
theorem val_at (ok : HOk P B.w H h) (hK : B.K.In h) {d : D} {x : V} {v : Value} (r : Rep B Z H d x) (rv : RelV x v) : ValAt B Z H h v d := by
  cases d <;> simp only [Rep] at r <;> simp only [ValAt]
  · subst r; exact rv
  · subst r; exact rv
  · subst r; exact rv
  · subst r; exact rv
  · obtain ⟨a, xs, rfl, h1, h2⟩ := r
    obtain ⟨its, o, n, v1, g, c, dd, _⟩ := h1.at ok hK
    exact ⟨a, xs, its.toArray, rv, ⟨o, g, c, n, dd⟩, v1, h2⟩
  · obtain ⟨a, xs, rfl, h1, h2⟩ := r
    obtain ⟨its, o, n, v1, g, c, dd, _⟩ := h1.at ok hK
    exact ⟨a, xs, its.toArray, rv, ⟨o, g, c, n, dd⟩, v1, h2⟩
  · obtain ⟨a, es, rfl, ⟨_, h1⟩, h2, _, h3, h4⟩ := r
    obtain ⟨o, ea, ep, g1, g2, g3, g4⟩ := DH.at h1 ok
    exact ⟨a, o, ea, ep, es, rv, g1, g2, g3, g4, h2, h3, h4⟩
end

section
variable {prog : Program} {A : Around} {s : Shared} {B : Wd} {Z Z' : Addr → Prop} {H : Hp}
open PySem.SeqAt (EqIn EqAt rcIn_lists rcIn_tuples RcAt RcNeAt)
/-- the answers of == and != -/
structure RcIs (prog : Program) (w : World) (A : Around) (s : Shared) (v u : Value) (b : Bool) : Prop where
  eq : ∀ (E Q : Value → Shared → Prop), Q (.bool b) s → wpAny (model prog w) A (richCompare .Eq v u) Q E s
  ne : ∀ (E Q : Value → Shared → Prop), Q (.bool (!b)) s → wpAny (model prog w) A (richCompare .NotEq v u) Q E s
theorem RcIs.of {w : World} {v u : Value} {b : Bool} (h1 : RcAt A s v u b) (h2 : RcNeAt A s v u (!b)) : RcIs prog w A s v u b := ⟨fun E Q h => h1 prog w E Q h, fun E Q h => h2 prog w E Q h⟩
theorem RcIs.eqIn {w : World} {v u : Value} {b : Bool} (h : RcIs prog w A s v u b) (nf : ∀ x y, v ≠ .float x y) (same : v = u → b = true) : EqIn prog w A s v u b := fun E Q hq => by
  unfold eqBool
  refine wpAny_holding ?_
  refine wpAny_ite_split (fun hab => ?_) (fun _ => ?_)
  · rw [same (eq_of_beq hab)] at hq
    exact wpAny_bind (wpAny_rule (wpAny_pure hq))
  · split
    · rename_i z
      exact absurd (congrArg Prod.fst z) (nf _ _)
    · exact wpAny_bind (h.eq E _ (wpAny_truthy_bool hq))
theorem not_float {d : D} {x : V} {v : Value} (r : Rep B Z H d x) (rv : RelV x v) : ∀ a b, v ≠ .float a b := fun a b e => by
  subst e
  cases x with
  | flt y => cases d <;> simp [Rep] at r
  | _ => first | exact rv.elim | (obtain ⟨_, e⟩ := rv; cases e; done) | (cases rv; done)
def flatPair : D → D → Bool
  | .tup _, .tup _ => false
  | .lst _, .lst _ => false
  | .dct _, .dct _ => false
  | _, _ => true
theorem rc_flat {w : World} {n : Nat} {d d' : D} {v u : Value} {b : Bool} (hu : A.units < cLine) (r : ValAt B Z H s.heap v d) (q : ValAt B Z' H s.heap u d') (hf : flatPair d d' = true) (e : eqD n d d' = some b) : RcIs prog w A s v u b := by
  cases d <;> cases d' <;> simp only [ValAt] at r q <;> first | (simp [flatPair] at hf; done) | (cases n <;> simp [eqD] at e <;> done) | skip
  · subst r; subst q; simp only [eqD, Option.some.injEq] at e; subst e; exact .of (by apply RcAt.none_none <;> assumption) (by apply RcNeAt.none_none <;> assumption)
  · subst r; subst q; simp only [eqD, Option.some.injEq] at e; subst e; exact .of (by apply RcAt.none_bool <;> assumption) (by apply RcNeAt.none_bool <;> assumption)
  · subst r; obtain ⟨_, rfl⟩ := q; simp only [eqD, Option.some.injEq] at e; subst e; exact .of (by apply RcAt.none_int <;> assumption) (by apply RcNeAt.none_int <;> assumption)
  · subst r; obtain ⟨_, rfl⟩ := q; simp only [eqD, Option.some.injEq] at e; subst e; exact .of (by apply RcAt.none_str <;> assumption) (by apply RcNeAt.none_str <;> assumption)
  · subst r; obtain ⟨_, _, _, rfl, gq, _⟩ := q; simp only [eqD, Option.some.injEq] at e; subst e; exact .of (by apply RcAt.none_tuple <;> assumption) (by apply RcNeAt.none_tuple <;> assumption)
  · subst r; obtain ⟨_, _, _, rfl, gq, _⟩ := q; simp only [eqD, Option.some.injEq] at e; subst e; exact .of (by apply RcAt.none_list <;> assumption) (by apply RcNeAt.none_list <;> assumption)
  · subst r; subst q; simp only [eqD, Option.some.injEq] at e; subst e; exact .of (by apply RcAt.bool_none <;> assumption) (by apply RcNeAt.bool_none <;> assumption)
  · subst r; subst q; simp only [eqD, Option.some.injEq] at e; subst e; exact .of (by apply RcAt.bool_bool <;> assumption) (by apply RcNeAt.bool_bool <;> assumption)
  · subst r; obtain ⟨_, rfl⟩ := q; simp only [eqD, Option.some.injEq] at e; subst e; exact .of (by apply RcAt.bool_int <;> assumption) (by apply RcNeAt.bool_int <;> assumption)
  · subst r; obtain ⟨_, rfl⟩ := q; simp only [eqD, Option.some.injEq] at e; subst e; exact .of (by apply RcAt.bool_str <;> assumption) (by apply RcNeAt.bool_str <;> assumption)
  · subst r; obtain ⟨_, _, _, rfl, gq, _⟩ := q; simp only [eqD, Option.some.injEq] at e; subst e; exact .of (by apply RcAt.bool_tuple <;> assumption) (by apply RcNeAt.bool_tuple <;> assumption)
  · subst r; obtain ⟨_, _, _, rfl, gq, _⟩ := q; simp only [eqD, Option.some.injEq] at e; subst e; exact .of (by apply RcAt.bool_list <;> assumption) (by apply RcNeAt.bool_list <;> assumption)
  · obtain ⟨_, rfl⟩ := r; subst q; simp only [eqD, Option.some.injEq] at e; subst e; exact .of (by apply RcAt.int_none <;> assumption) (by apply RcNeAt.int_none <;> assumption)
  · obtain ⟨_, rfl⟩ := r; subst q; simp only [eqD, Option.some.injEq] at e; subst e; exact .of (by apply RcAt.int_bool <;> assumption) (by apply RcNeAt.int_bool <;> assumption)
  · obtain ⟨_, rfl⟩ := r; obtain ⟨_, rfl⟩ := q; simp only [eqD, Option.some.injEq] at e; subst e; exact .of (by apply RcAt.int_int <;> assumption) (by apply RcNeAt.int_int <;> assumption)
  · obtain ⟨_, rfl⟩ := r; obtain ⟨_, rfl⟩ := q; simp only [eqD, Option.some.injEq] at e; subst e; exact .of (by apply RcAt.int_str <;> assumption) (by apply RcNeAt.int_str <;> assumption)
  · obtain ⟨_, rfl⟩ := r; obtain ⟨_, _, _, rfl, gq, _⟩ := q; simp only [eqD, Option.some.injEq] at e; subst e; exact .of (by apply RcAt.int_tuple <;> assumption) (by apply RcNeAt.int_tuple <;> assumption)
  · obtain ⟨_, rfl⟩ := r; obtain ⟨_, _, _, rfl, gq, _⟩ := q; simp only [eqD, Option.some.injEq] at e; subst e; exact .of (by apply RcAt.int_list <;> assumption) (by apply RcNeAt.int_list <;> assumption)
  · obtain ⟨_, rfl⟩ := r; subst q; simp only [eqD, Option.some.injEq] at e; subst e; exact .of (by apply RcAt.str_none <;> assumption) (by apply RcNeAt.str_none <;> assumption)
  · obtain ⟨_, rfl⟩ := r; subst q; simp only [eqD, Option.some.injEq] at e; subst e; exact .of (by apply RcAt.str_bool <;> assumption) (by apply RcNeAt.str_bool <;> assumption)
  · obtain ⟨_, rfl⟩ := r; obtain ⟨_, rfl⟩ := q; simp only [eqD, Option.some.injEq] at e; subst e; exact .of (by apply RcAt.str_int <;> assumption) (by apply RcNeAt.str_int <;> assumption)
  · obtain ⟨_, rfl⟩ := r; obtain ⟨_, rfl⟩ := q; simp only [eqD, Option.some.injEq] at e; subst e; exact .of (by apply RcAt.str_str <;> assumption) (by apply RcNeAt.str_str <;> assumption)
  · obtain ⟨_, rfl⟩ := r; obtain ⟨_, _, _, rfl, gq, _⟩ := q; simp only [eqD, Option.some.injEq] at e; subst e; exact .of (by apply RcAt.str_tuple <;> assumption) (by apply RcNeAt.str_tuple <;> assumption)
  · obtain ⟨_, rfl⟩ := r; obtain ⟨_, _, _, rfl, gq, _⟩ := q; simp only [eqD, Option.some.injEq] at e; subst e; exact .of (by apply RcAt.str_list <;> assumption) (by apply RcNeAt.str_list <;> assumption)
  · obtain ⟨_, _, _, rfl, gr, _⟩ := r; subst q; simp only [eqD, Option.some.injEq] at e; subst e; exact .of (by apply RcAt.tuple_none <;> assumption) (by apply RcNeAt.tuple_none <;> assumption)
  · obtain ⟨_, _, _, rfl, gr, _⟩ := r; subst q; simp only [eqD, Option.some.injEq] at e; subst e; exact .of (by apply RcAt.tuple_bool <;> assumption) (by apply RcNeAt.tuple_bool <;> assumption)
  · obtain ⟨_, _, _, rfl, gr, _⟩ := r; obtain ⟨_, rfl⟩ := q; simp only [eqD, Option.some.injEq] at e; subst e; exact .of (by apply RcAt.tuple_int <;> assumption) (by apply RcNeAt.tuple_int <;> assumption)
  · obtain ⟨_, _, _, rfl, gr, _⟩ := r; obtain ⟨_, rfl⟩ := q; simp only [eqD, Option.some.injEq] at e; subst e; exact .of (by apply RcAt.tuple_str <;> assumption) (by apply RcNeAt.tuple_str <;> assumption)
  · obtain ⟨_, _, _, rfl, gr, _⟩ := r; obtain ⟨_, _, _, rfl, gq, _⟩ := q; simp only [eqD, Option.some.injEq] at e; subst e; exact .of (by apply RcAt.tuple_list <;> assumption) (by apply RcNeAt.tuple_list <;> assumption)
  · obtain ⟨_, _, _, rfl, gr, _⟩ := r; subst q; simp only [eqD, Option.some.injEq] at e; subst e; exact .of (by apply RcAt.list_none <;> assumption) (by apply RcNeAt.list_none <;> assumption)
  · obtain ⟨_, _, _, rfl, gr, _⟩ := r; subst q; simp only [eqD, Option.some.injEq] at e; subst e; exact .of (by apply RcAt.list_bool <;> assumption) (by apply RcNeAt.list_bool <;> assumption)
  · obtain ⟨_, _, _, rfl, gr, _⟩ := r; obtain ⟨_, rfl⟩ := q; simp only [eqD, Option.some.injEq] at e; subst e; exact .of (by apply RcAt.list_int <;> assumption) (by apply RcNeAt.list_int <;> assumption)
  · obtain ⟨_, _, _, rfl, gr, _⟩ := r; obtain ⟨_, rfl⟩ := q; simp only [eqD, Option.some.injEq] at e; subst e; exact .of (by apply RcAt.list_str <;> assumption) (by apply RcNeAt.list_str <;> assumption)
  · obtain ⟨_, _, _, rfl, gr, _⟩ := r; obtain ⟨_, _, _, rfl, gq, _⟩ := q; simp only [eqD, Option.some.injEq] at e; subst e; exact .of (by apply RcAt.list_tuple <;> assumption) (by apply RcNeAt.list_tuple <;> assumption)
theorem range_all_congr {n : Nat} {e f : Nat → Bool} (h : ∀ j, j < n → e j = f j) : (List.range n).all e = (List.range n).all f := by
  rw [Bool.eq_iff_iff, List.all_eq_true, List.all_eq_true]
  exact ⟨fun k j hj => by rw [← h j (List.mem_range.mp hj)]; exact k j hj, fun k j hj => by rw [h j (List.mem_range.mp hj)]; exact k j hj⟩
/-- the hits of a dict by its data -/
theorem eqDk_hits {n : Nat} {ys : List (D × D)} {es fs : List DictEntry} {ea fa : Array DictEntry} (ok : HOk prog B.w H s.heap) (hK : B.K.In s.heap)
    (ih : ∀ {d d' : D} {x y : V} {v u : Value} {b : Bool}, Rep B Z H d x → Rep B Z' H d' y → RelV x v → RelV y u → eqD n d d' = some b → EqIn prog B.w A s v u b)
    (ny : keysNd ys = true) (ry : Repk B Z' H ys fs) (cy : fa.toList = fs) (kvs : List (D × D)) (nk : keysNd kvs = true) (rk : Repk B Z H kvs es) (cx : ea.toList = es) :
    ∀ (l : List (D × D)) (i : Nat) (b : Bool), kvs.drop i = l → eqDk n l ys = some b → HitsK prog B.w A s ea fa (kvs.map fun p => canon p.1) (ys.map fun p => canon p.1) i b := by
  intro l
  induction l with
  | nil =>
    intro i b hd e
    simp only [eqDk, Option.some.injEq] at e
    subst e
    refine .fin ?_
    have := List.drop_eq_nil_iff.mp hd
    rw [← Array.length_toList, cx, rk.length]; exact this
  | cons p l ihl =>
    obtain ⟨k, x⟩ := p
    intro i b hd e
    have hi : kvs[i]? = some (k, x) := by
      have := congrArg List.head? hd
      rwa [List.head?_drop, List.head?_cons] at this
    have hd' : kvs.drop (i + 1) = l := by
      have := congrArg List.tail hd
      rwa [List.tail_drop, List.tail_cons] at this
    have okk := keyOk_k ((keysNd_at nk).1 _ (List.mem_of_getElem? hi))
    have oky : ∀ p ∈ ys, keyK p.1 = true := fun p hp => keyOk_k ((keysNd_at ny).1 p hp)
    have hka : (kvs.map fun p => canon p.1)[i]? = some (canon k) := by rw [List.getElem?_map, hi]; rfl
    simp only [eqDk] at e
    cases hg : dget k ys with
    | none =>
      rw [hg] at e
      simp only [Option.some.injEq] at e
      subst e
      exact .miss hka (dget_none okk oky hg)
    | some y =>
      rw [hg] at e
      simp only at e
      cases e1 : eqD n x y with
      | none => rw [e1] at e; simp at e
      | some a =>
        cases e2 : eqDk n l ys with
        | none => rw [e1, e2] at e; simp at e
        | some c =>
          rw [e1, e2] at e
          simp only [Option.some.injEq] at e
          subst e
          obtain ⟨j, k', hj, hc⟩ := dget_some okk oky hg
          obtain ⟨en, vx, he, rx, hx⟩ := rk.get hi
          obtain ⟨fn, vy, hf, ryy, hy⟩ := ry.get hj
          refine .hit (j := j) hka (e := en) (f := fn) ?_ ?_ ?_ (ih hx hy rx ryy e1) (ihl (i + 1) c hd' e2)
          · rw [← Array.getElem?_toList, cx]; exact he
          · rw [List.getElem?_map, hj, Option.map_some, hc]
          · rw [← Array.getElem?_toList, cy]; exact hf
theorem rc_is (ok : HOk prog B.w H s.heap) (hK : B.K.In s.heap) : ∀ (n : Nat) (A : Around), A.units + n + 9 < cLine → ∀ {d d' : D} {x y : V} {v u : Value} {b : Bool}, Rep B Z H d x → Rep B Z' H d' y → RelV x v → RelV y u → eqD n d d' = some b → RcIs prog B.w A s v u b := by
  intro n
  induction n with
  | zero =>
    intro A hu d d' x y v u b r r' rv ru e
    refine rc_flat (by omega) (val_at ok hK r rv) (val_at ok hK r' ru) ?_ e
    cases d <;> cases d' <;> first | rfl | (simp [eqD] at e)
  | succ n ih =>
    intro A hu d d' x y v u b r r' rv ru e
    have eqin : ∀ {d d' : D} {x y : V} {v u : Value} {b : Bool}, Rep B Z H d x → Rep B Z' H d' y → RelV x v → RelV y u → eqD n d d' = some b → EqIn prog B.w A.in1 s v u b := fun h1 h2 h3 h4 h5 =>
      (ih A.in1 (by rw [units_in1]; omega) h1 h2 h3 h4 h5).eqIn (not_float h1 h3) fun q => by
        subst q
        cases h3.inj h4
        exact same_rep ok hK n h1 h2 h5
    have hu1 : A.units < cLine := by omega
    cases hf : flatPair d d' with
    | true => exact rc_flat hu1 (val_at ok hK r rv) (val_at ok hK r' ru) hf e
    | false =>
      have a1 := val_at ok hK r rv
      have a2 := val_at ok hK r' ru
      cases d <;> cases d' <;> first | (simp [flatPair] at hf; done) | skip
      · simp only [ValAt, eqD] at a1 a2 e
        obtain ⟨a, xs, is, rfl, t1, v1, q1⟩ := a1
        obtain ⟨a', ys, js, rfl, t2, v2, q2⟩ := a2
        obtain ⟨f, h1, h2⟩ := eqDs_at e
        have l1 := v1.length.symm.trans q1.length
        rw [Array.length_toList] at l1
        have l2 := v2.length.symm.trans q2.length
        rw [Array.length_toList] at l2
        have el : ∀ j (g1 : j < is.size) (g2 : j < js.size), EqIn prog B.w A.in1 s is[j] js[j] (f j) := fun j g1 g2 => by
          have k1 := g1; have k2 := g2
          rw [l1] at k1; rw [l2] at k2
          obtain ⟨xv, hx, rx⟩ := q1.get (List.getElem?_eq_getElem k1)
          obtain ⟨yv, hy, ry⟩ := q2.get (List.getElem?_eq_getElem k2)
          obtain ⟨ux, hux, rux⟩ := v1.get hx
          obtain ⟨uy, huy, ruy⟩ := v2.get hy
          rw [Array.getElem?_toList, Array.getElem?_eq_getElem g1] at hux
          rw [Array.getElem?_toList, Array.getElem?_eq_getElem g2] at huy
          cases hux; cases huy
          exact eqin rx ry rux ruy (h1 j _ _ (List.getElem?_eq_getElem k1) (List.getElem?_eq_getElem k2))
        rw [← l1, ← l2] at h2
        subst h2
        exact ⟨fun E Q q => rcIn_tuples t1 t2 hu1 el q, fun E Q q => rcNe_tuples t1 t2 hu1 el q⟩
      · simp only [ValAt, eqD] at a1 a2 e
        obtain ⟨a, xs, is, rfl, t1, v1, q1⟩ := a1
        obtain ⟨a', ys, js, rfl, t2, v2, q2⟩ := a2
        have l1 := v1.length.symm.trans q1.length
        rw [Array.length_toList] at l1
        have l2 := v2.length.symm.trans q2.length
        rw [Array.length_toList] at l2
        split at e
        · rename_i hl
          obtain ⟨f, h1, h2⟩ := eqDs_at e
          have el : ∀ j (g1 : j < is.size) (g2 : j < js.size), EqIn prog B.w A.in1 s is[j] js[j] (f j) := fun j g1 g2 => by
            have k1 := g1; have k2 := g2
            rw [l1] at k1; rw [l2] at k2
            obtain ⟨xv, hx, rx⟩ := q1.get (List.getElem?_eq_getElem k1)
            obtain ⟨yv, hy, ry⟩ := q2.get (List.getElem?_eq_getElem k2)
            obtain ⟨ux, hux, rux⟩ := v1.get hx
            obtain ⟨uy, huy, ruy⟩ := v2.get hy
            rw [Array.getElem?_toList, Array.getElem?_eq_getElem g1] at hux
            rw [Array.getElem?_toList, Array.getElem?_eq_getElem g2] at huy
            cases hux; cases huy
            exact eqin rx ry rux ruy (h1 j _ _ (List.getElem?_eq_getElem k1) (List.getElem?_eq_getElem k2))
          have hsz : is.size = js.size := by rw [l1, l2]; exact hl
          have hb : b = (List.range is.size).all f := by
            rw [h2, hl, Nat.min_self, l1, hl]; simp
          subst hb
          exact ⟨fun E Q q => rcIn_lists t1 t2 hsz hu1 el q, fun E Q q => rcNe_lists t1 t2 hsz hu1 el q⟩
        · rename_i hl
          simp only [Option.some.injEq] at e
          subst e
          have hsz : (is.size != js.size) = true := by rw [l1, l2]; simpa using hl
          exact .of (.lists_lengths t1 t2 hsz hu1) (.lists_lengths t1 t2 hsz hu1)
      · simp only [ValAt, eqD] at a1 a2 e
        obtain ⟨a, o, ea, ep, es, rfl, g1, c1, d1, l1, m1, n1, q1⟩ := a1
        obtain ⟨a', o', fa, fp, fs, rfl, g2, c2, d2, l2, m2, n2, q2⟩ := a2
        have s1 := q1.length
        rw [← l1, Array.length_toList] at s1
        have s2 := q2.length
        rw [← l2, Array.length_toList] at s2
        have x1 := q1.entK ok hK n1 l1
        have x2 := q2.entK ok hK n2 l2
        have hu2 : A.in1.units + 8 < cLine := by rw [units_in1]; omega
        split at e
        · rename_i hl
          have hits := eqDk_hits (A := A.in1) ok hK eqin n2 q2 l2 _ n1 q1 l1 _ 0 b rfl e
          have hb : (ea.size == fa.size && b) = b := by rw [s1, s2, hl]; simp
          refine ⟨fun E Q q => rcK_dicts (.inl ⟨rfl, rfl⟩) m1 m2 hu2 g1 c1 d1 x1 g2 c2 d2 x2 (fun _ => hits) E Q ?_, fun E Q q => rcK_dicts (.inr ⟨rfl, rfl⟩) m1 m2 hu2 g1 c1 d1 x1 g2 c2 d2 x2 (fun _ => hits) E Q ?_⟩
          · rw [hb]; simpa using q
          · rw [hb]; simpa using q
        · rename_i hl
          simp only [Option.some.injEq] at e
          subst e
          have hsz : ea.size ≠ fa.size := by rw [s1, s2]; exact hl
          have hb : (ea.size == fa.size && true) = false := by simpa using hsz
          refine ⟨fun E Q q => rcK_dicts (r := true) (.inl ⟨rfl, rfl⟩) m1 m2 hu2 g1 c1 d1 x1 g2 c2 d2 x2 (fun z => absurd z hsz) E Q ?_, fun E Q q => rcK_dicts (r := true) (.inr ⟨rfl, rfl⟩) m1 m2 hu2 g1 c1 d1 x1 g2 c2 d2 x2 (fun z => absurd z hsz) E Q ?_⟩
          · rw [hb]; exact q
          · rw [hb]; exact q
theorem eq_in (ok : HOk prog B.w H s.heap) (hK : B.K.In s.heap) {n : Nat} (hu : A.units + n + 9 < cLine) {d d' : D} {x y : V} {v u : Value} {b : Bool} (h1 : Rep B Z H d x) (h2 : Rep B Z' H d' y) (h3 : RelV x v) (h4 : RelV y u) (h5 : eqD n d d' = some b) : EqIn prog B.w A s v u b :=
  (rc_is ok hK n A hu h1 h2 h3 h4 h5).eqIn (not_float h1 h3) fun q => by
    subst q
    cases h3.inj h4
    exact same_rep ok hK n h1 h2 h5
end
end Ev
/-! Ev15: operators by values: == and !=, lists and tuples. -/
namespace Ev
open PySem PySem.Spec PyProof.Rows L2

section
variable {prog : Program} {A : Around} {s : Shared} {B : Wd} {Z Z' : Addr → Prop} {H : Hp}
open PySem.SeqAt (EqIn EqAt rcIn_lists rcIn_tuples RcAt RcNeAt)
/-- == of data without dicts, in every model -/
theorem rc_flatAt {n : Nat} {d d' : D} {v u : Value} {b : Bool} (hu : A.units < cLine) (r : ValAt B Z H s.heap v d) (q : ValAt B Z' H s.heap u d') (hf : flatPair d d' = true) (e : eqD n d d' = some b) : RcAt A s v u b :=
  fun prog w E Q h => (rc_flat (prog := prog) (w := w) hu r q hf e).eq E Q h
theorem RcAt.eqAt {v u : Value} {b : Bool} (h : RcAt A s v u b) (nf : ∀ x y, v ≠ .float x y) (same : v = u → b = true) : EqAt A s v u b := fun prog w E Q hq => by
  unfold eqBool
  refine wpAny_holding ?_
  refine wpAny_ite_split (fun hab => ?_) (fun _ => ?_)
  · rw [same (eq_of_beq hab)] at hq
    exact wpAny_bind (wpAny_rule (wpAny_pure hq))
  · split
    · rename_i z
      exact absurd (congrArg Prod.fst z) (nf _ _)
    · exact wpAny_bind (h prog w E _ (wpAny_truthy_bool hq))
theorem noDs_get {xs : List D} {j : Nat} {x : D} (h : noDs xs = true) (hx : xs[j]? = some x) : noD x = true := by
  induction xs generalizing j with
  | nil => simp at hx
  | cons y ys ih =>
    simp only [noDs, Bool.and_eq_true] at h
    cases j with
    | zero => simp only [List.getElem?_cons_zero, Option.some.injEq] at hx; subst hx; exact h.1
    | succ j => exact ih h.2 (by simpa using hx)
theorem rcAt_is {P : Program} (ok : HOk P B.w H s.heap) (hK : B.K.In s.heap) : ∀ (n : Nat) (A : Around), A.units + n + 9 < cLine → ∀ {d d' : D} {x y : V} {v u : Value} {b : Bool}, noD d = true → Rep B Z H d x → Rep B Z' H d' y → RelV x v → RelV y u → eqD n d d' = some b → RcAt A s v u b := by
  intro n
  induction n with
  | zero =>
    intro A hu d d' x y v u b nd r r' rv ru e
    refine rc_flatAt (by omega) (val_at ok hK r rv) (val_at ok hK r' ru) ?_ e
    cases d <;> cases d' <;> first | rfl | (simp [eqD] at e)
  | succ n ih =>
    intro A hu d d' x y v u b nd r r' rv ru e
    have eqin : ∀ {d d' : D} {x y : V} {v u : Value} {b : Bool}, noD d = true → Rep B Z H d x → Rep B Z' H d' y → RelV x v → RelV y u → eqD n d d' = some b → EqAt A.in1 s v u b := fun h0 h1 h2 h3 h4 h5 =>
      RcAt.eqAt (ih A.in1 (by rw [units_in1]; omega) h0 h1 h2 h3 h4 h5) (not_float h1 h3) fun q => by
        subst q
        cases h3.inj h4
        exact same_rep ok hK n h1 h2 h5
    have hu1 : A.units < cLine := by omega
    cases hf : flatPair d d' with
    | true => exact rc_flatAt hu1 (val_at ok hK r rv) (val_at ok hK r' ru) hf e
    | false =>
      have a1 := val_at ok hK r rv
      have a2 := val_at ok hK r' ru
      cases d <;> cases d' <;> first | (simp [flatPair] at hf; done) | (simp [noD] at nd; done) | skip
      · simp only [ValAt, eqD, noD] at a1 a2 e nd
        obtain ⟨a, xs, is, rfl, t1, v1, q1⟩ := a1
        obtain ⟨a', ys, js, rfl, t2, v2, q2⟩ := a2
        obtain ⟨f, h1, h2⟩ := eqDs_at e
        have l1 := v1.length.symm.trans q1.length
        rw [Array.length_toList] at l1
        have l2 := v2.length.symm.trans q2.length
        rw [Array.length_toList] at l2
        have el : ∀ j (g1 : j < is.size) (g2 : j < js.size), EqAt A.in1 s is[j] js[j] (f j) := fun j g1 g2 => by
          have k1 := g1; have k2 := g2
          rw [l1] at k1; rw [l2] at k2
          obtain ⟨xv, hx, rx⟩ := q1.get (List.getElem?_eq_getElem k1)
          obtain ⟨yv, hy, ry⟩ := q2.get (List.getElem?_eq_getElem k2)
          obtain ⟨ux, hux, rux⟩ := v1.get hx
          obtain ⟨uy, huy, ruy⟩ := v2.get hy
          rw [Array.getElem?_toList, Array.getElem?_eq_getElem g1] at hux
          rw [Array.getElem?_toList, Array.getElem?_eq_getElem g2] at huy
          cases hux; cases huy
          exact eqin (noDs_get nd (List.getElem?_eq_getElem k1)) rx ry rux ruy (h1 j _ _ (List.getElem?_eq_getElem k1) (List.getElem?_eq_getElem k2))
        rw [← l1, ← l2] at h2
        subst h2
        exact .tuples t1 t2 hu1 el
      · simp only [ValAt, eqD, noD] at a1 a2 e nd
        obtain ⟨a, xs, is, rfl, t1, v1, q1⟩ := a1
        obtain ⟨a', ys, js, rfl, t2, v2, q2⟩ := a2
        have l1 := v1.length.symm.trans q1.length
        rw [Array.length_toList] at l1
        have l2 := v2.length.symm.trans q2.length
        rw [Array.length_toList] at l2
        split at e
        · rename_i hl
          obtain ⟨f, h1, h2⟩ := eqDs_at e
          have el : ∀ j (g1 : j < is.size) (g2 : j < js.size), EqAt A.in1 s is[j] js[j] (f j) := fun j g1 g2 => by
            have k1 := g1; have k2 := g2
            rw [l1] at k1; rw [l2] at k2
            obtain ⟨xv, hx, rx⟩ := q1.get (List.getElem?_eq_getElem k1)
            obtain ⟨yv, hy, ry⟩ := q2.get (List.getElem?_eq_getElem k2)
            obtain ⟨ux, hux, rux⟩ := v1.get hx
            obtain ⟨uy, huy, ruy⟩ := v2.get hy
            rw [Array.getElem?_toList, Array.getElem?_eq_getElem g1] at hux
            rw [Array.getElem?_toList, Array.getElem?_eq_getElem g2] at huy
            cases hux; cases huy
            exact eqin (noDs_get nd (List.getElem?_eq_getElem k1)) rx ry rux ruy (h1 j _ _ (List.getElem?_eq_getElem k1) (List.getElem?_eq_getElem k2))
          have hsz : is.size = js.size := by rw [l1, l2]; exact hl
          have hb : b = (List.range is.size).all f := by
            rw [h2, hl, Nat.min_self, l1, hl]; simp
          subst hb
          exact .lists t1 t2 hsz hu1 el
        · rename_i hl
          simp only [Option.some.injEq] at e
          subst e
          have hsz : (is.size != js.size) = true := by rw [l1, l2]; simpa using hl
          exact .lists_lengths t1 t2 hsz hu1
theorem eq_at {P : Program} (ok : HOk P B.w H s.heap) (hK : B.K.In s.heap) {n : Nat} (hu : A.units + n + 9 < cLine) {d d' : D} {x y : V} {v u : Value} {b : Bool} (nd : noD d = true) (h1 : Rep B Z H d x) (h2 : Rep B Z' H d' y) (h3 : RelV x v) (h4 : RelV y u) (h5 : eqD n d d' = some b) : EqAt A s v u b :=
  RcAt.eqAt (rcAt_is ok hK n A hu nd h1 h2 h3 h4 h5) (not_float h1 h3) fun q => by
    subst q
    cases h3.inj h4
    exact same_rep ok hK n h1 h2 h5
end

section
variable {B : Wd} {Z : Addr → Prop} {H : Hp} {X : Cx}
/-- whatever is owned, read as if it were shared -/
theorem RepO.read {o : OV} {v : V} {fp : List Addr} (h : RepO B Z H o v fp) : Rep B (fun _ => True) H o.view v :=
  RepO.share (.of (fun _ _ => trivial) (fun _ _ _ h => h) (fun _ _ h => h)) (fun _ _ => ⟨trivial, fun _ h => h⟩) h
/-- items, where they stand -/
theorem items_at (g : GX X B) {o : OV} {x : V} {fp : List Addr} {ds : List D} (h : RepO B Z H o x fp) (e : items o = some ds) : ∃ a vs, x = .ref a ∧ (SqL X.K H a vs ∨ SqT X.K H a vs) ∧ Reps B Z H ds vs := by
  cases o with
  | fr d =>
    simp only [RepO] at h
    cases d <;> simp [items] at e
    · subst e
      obtain ⟨h, _⟩ := h
      simp only [Rep] at h
      obtain ⟨a, vs, rfl, h1, h2⟩ := h
      exact ⟨a, vs, rfl, .inr (h1.sq g.K), h2⟩
    · subst e
      obtain ⟨h, _⟩ := h
      simp only [Rep] at h
      obtain ⟨a, vs, rfl, h1, h2⟩ := h
      exact ⟨a, vs, rfl, .inl (h1.sq g.K), h2⟩
  | lst os =>
    simp only [items] at e
    simp only [RepO] at h
    obtain ⟨a, vs, fps, rfl, h1, h2, _⟩ := h
    rw [frs_map e] at h2
    exact ⟨a, vs, rfl, .inl (.of h1), h2.reps.1⟩
  | dct _ => simp [items] at e
  | ins _ _ => simp [items] at e
theorem list_at (g : GX X B) {o : OV} {x : V} {fp : List Addr} {ds : List D} (h : RepO B Z H o x fp) (e : items o = some ds) (hl : isLst o = true) : ∃ a vs, x = .ref a ∧ SqL X.K H a vs ∧ Reps B Z H ds vs := by
  cases o with
  | fr d =>
    simp only [RepO] at h
    cases d <;> simp [isLst] at hl
    simp only [items, Option.some.injEq] at e
    subst e
    obtain ⟨h, _⟩ := h
    simp only [Rep] at h
    obtain ⟨a, vs, rfl, h1, h2⟩ := h
    exact ⟨a, vs, rfl, h1.sq g.K, h2⟩
  | lst os =>
    simp only [items] at e
    simp only [RepO] at h
    obtain ⟨a, vs, fps, rfl, h1, h2, _⟩ := h
    rw [frs_map e] at h2
    exact ⟨a, vs, rfl, .of h1, h2.reps.1⟩
  | _ => simp [isLst] at hl
theorem repO_frL {ds : List D} {vs : List V} {p : Addr} (hp : H p = none) (h : Reps B Z H ds vs) : RepO B Z (upd H p (.lst vs)) (frL ds) (.ref p) [p] := by
  have g := gr_upd (u := .lst vs) (Z := Z) (Z' := Z) hp fun _ h => h
  have h2 := h.mono g
  unfold frL
  simp only [RepO]
  exact ⟨p, vs, [], rfl, upd_same, RepOs.of_reps h2, rfl⟩
theorem rep_tupN {ds : List D} {vs : List V} {p : Addr} (hp : H p = none) (h : Reps B Z H ds vs) : Rep B (fun a => Z a ∨ a = p) (upd H p (.tup vs)) (.tup ds) (.ref p) := by
  have g := gr_upd (u := .tup vs) (Z := Z) (Z' := fun a => Z a ∨ a = p) hp fun _ h => .inl h
  have h2 := h.mono g
  simp only [Rep]
  exact ⟨p, vs, rfl, .inl ⟨.inr rfl, .inl upd_same⟩, h2⟩
end

section
variable {B : Wd} {X : Cx}
theorem v_eq (g : GX X B) {a b : E} : OpR X (compareOp .Eq) (fun x y H Q => rOp B .eq [a, b] [x, y] H Q) := by
  intro pins s σ H x y v u Q I rx ry ⟨Z, os, r, G, l, _, _, hz, hr, q⟩
  obtain ⟨o1, o2, f1, f2, rfl, h1, h2⟩ := looks2 l
  have ok := Inv.hok' g I
  have hK := Inv.kIn' g I
  have hu := g.units
  simp only [opR, oEq, Option.map_eq_some_iff] at hr
  obtain ⟨k, hk, rfl⟩ := hr
  have := (rc_is (A := X.A) ok hK eqN (by simp only [eqN]; omega) h1.read h2.read rx ry hk).eq
  rw [← g.w] at this
  refine this _ _ ⟨.bl k, H, I, rfl, ?_⟩
  have e : (k != false) = k := by cases k <;> rfl
  rw [e] at q
  exact give (o := .eq) (es := [a, b]) (us := []) hz rep_bl q
theorem v_ne (g : GX X B) {a b : E} : OpR X (compareOp .NotEq) (fun x y H Q => rOp B .ne [a, b] [x, y] H Q) := by
  intro pins s σ H x y v u Q I rx ry ⟨Z, os, r, G, l, _, _, hz, hr, q⟩
  obtain ⟨o1, o2, f1, f2, rfl, h1, h2⟩ := looks2 l
  have ok := Inv.hok' g I
  have hK := Inv.kIn' g I
  have hu := g.units
  simp only [opR, oEq, Option.map_eq_some_iff] at hr
  obtain ⟨k, hk, rfl⟩ := hr
  have := (rc_is (A := X.A) ok hK eqN (by simp only [eqN]; omega) h1.read h2.read rx ry hk).ne
  rw [← g.w] at this
  refine this _ _ ⟨.bl (!k), H, I, rfl, ?_⟩
  have e : (k != true) = !k := by cases k <;> rfl
  rw [e] at q
  exact give (o := .ne) (es := [a, b]) (us := []) hz rep_bl q
/-! ### + -/
theorem lst_raw (g : GX X B) {Z : Addr → Prop} {H : Hp} {pins : List (Addr × Obj)} {σ : L2.St} {s : Shared} (I : Inv X pins σ H s) {o : OV} {x : V} {fp : List Addr} {ds : List D} (h : RepO B Z H o x fp) (e : items o = some ds) (hl : isLst o = true) :
    ∃ (a : Addr) (vs : List V) (its : List Value) (n : Nat), x = .ref a ∧ Vals vs its ∧ s.heap.get? a = some { cls := .type "list", dict := none, data := .seq its.toArray n, slots := #[] } ∧ Reps B Z H ds vs ∧ vs.length ≤ sizeLine := by
  have ok := Inv.hok' g I
  have hK := Inv.kIn' g I
  cases o with
  | fr d =>
    simp only [RepO] at h
    cases d <;> simp [isLst] at hl
    simp only [items, Option.some.injEq] at e
    subst e
    obtain ⟨h, _⟩ := h
    simp only [Rep] at h
    obtain ⟨a, vs, rfl, h1, h2⟩ := h
    obtain ⟨its, n, r, ha, z⟩ := h1.raw ok hK
    exact ⟨a, vs, its, n, rfl, r, ha, h2, z⟩
  | lst os =>
    simp only [items] at e
    simp only [RepO] at h
    obtain ⟨a, vs, fps, rfl, h1, h2, _⟩ := h
    rw [frs_map e] at h2
    obtain ⟨z, its, n, r, ha⟩ := (show ObjOk X.prog B.w H s.heap a (.lst vs) from ok a _ h1)
    exact ⟨a, vs, its, n, rfl, r, ha, h2.reps.1, z⟩
  | _ => simp [isLst] at hl
theorem v_addL (g : GX X B) {Z : Addr → Prop} {H : Hp} {pins : List (Addr × Obj)} {σ : L2.St} {s : Shared} (I : Inv X pins σ H s) {o o' : OV} {x y : V} {v u : Value} {fp fp' : List Addr} {xs ys : List D} {Q : VK} (rx : RelV x v) (ry : RelV y u)
    (h : RepO B Z H o x fp) (h' : RepO B Z H o' y fp') (e : items o = some xs) (e' : items o' = some ys) (hl : isLst o = true) (hl' : isLst o' = true) (hz : xs.length + ys.length ≤ sizeLine)
    (q : ∀ vs us p, H p = none → Reps B Z H xs vs → Reps B Z H ys us → Q (.ref p) (upd H p (.lst (vs ++ us)))) : wpAny (model X.prog X.w) X.A (binaryOp .Add v u) (EP X pins σ Q) X.xe s := by
  obtain ⟨a, vs, i1, n1, rfl, r1, e1, p1, z1⟩ := lst_raw g I h e hl
  obtain ⟨b, us, i2, n2, rfl, r2, e2, p2, z2⟩ := lst_raw g I h' e' hl'
  cases rx
  cases ry
  have l1 := r1.length
  have l2 := r2.length
  have l3 := p1.length
  have l4 := p2.length
  refine PySem.P.add_list e1 e2 ?_ (by rw [List.size_toArray, List.size_toArray]; omega)
  have ea : i1.toArray ++ i2.toArray = (i1 ++ i2).toArray := by simp
  rw [ea]
  exact ⟨.ref _, _, I.lnew (t' := s.toks) (r1.append r2) (by rw [List.length_append]; omega), rfl, q _ _ _ I.fresh p1 p2⟩
theorem sizeB_le {n : Nat} (h : sizeB n = true) : n ≤ sizeLine := by
  have := of_decide_eq_true h
  rw [sizeLine_eq]; omega
theorem v_add (g : GX X B) {a b : E} : OpR X (binaryOp .Add) (fun x y H Q => rOp B .add [a, b] [x, y] H Q) := by
  intro pins s σ H x y v u Q I rx ry ⟨Z, os, r, G, l, _, _, hz, hr, q⟩
  obtain ⟨o1, o2, f1, f2, rfl, h1, h2⟩ := looks2 l
  simp only [opR] at hr
  -- two lists
  have lists : ∀ xs ys : List D, items o1 = some xs → items o2 = some ys → isLst o1 = true → isLst o2 = true → sizeB (xs.length + ys.length) = true → r = frL (xs ++ ys) → wpAny (model X.prog X.w) X.A (binaryOp .Add v u) (EP X pins σ Q) X.xe s := fun xs ys e1 e2 l1 l2 hs hr => by
    subst hr
    refine v_addL g I rx ry h1 h2 e1 e2 l1 l2 (sizeB_le hs) fun vs us p hp hv hu => ?_
    exact give_new hz hp (repO_frL hp (hv.append hu)) q
  unfold oAdd at hr
  split at hr
  · rename_i e0
    cases e0
    simp only [Option.some.injEq] at hr
    subst hr
    obtain rfl := repO_int h1
    obtain rfl := repO_int h2
    exact op_add pins s σ H _ _ v u Q I rx ry ⟨_, _, rfl, rfl, give (o := .add) (es := [a, b]) (us := []) hz rep_int q⟩
  · rename_i e0
    cases e0
    split at hr
    · rename_i hs
      simp only [Option.some.injEq] at hr
      subst hr
      simp only [RepO, Rep] at h1 h2
      obtain ⟨rfl, _⟩ := h1
      obtain ⟨rfl, _⟩ := h2
      exact op_add_str pins s σ H _ _ v u Q I rx ry ⟨_, _, rfl, rfl, sizeB_le hs, give (o := .add) (es := [a, b]) (us := []) hz rep_str q⟩
    · cases hr
  · rename_i xs ys e0
    cases e0
    split at hr
    · rename_i hs
      simp only [Option.some.injEq] at hr
      subst hr
      simp only [RepO, Rep] at h1 h2
      obtain ⟨⟨p, vs, rfl, t1, q1⟩, _⟩ := h1
      obtain ⟨⟨p', us, rfl, t2, q2⟩, _⟩ := h2
      have l1 := q1.length
      have l2 := q2.length
      have hs' := sizeB_le hs
      refine op_catA pins s σ H _ _ v u Q I rx ry ⟨p, p', vs, us, rfl, rfl, t1.sq g.K, t2.sq g.K, by omega, fun e => ?_, fun _ e => ?_, fun _ _ p hp => ?_⟩
      · subst e
        have : xs = [] := List.eq_nil_of_length_eq_zero l1.symm
        subst this
        refine give (o := .add) (es := [a, b]) (us := []) hz (d := .tup ([] ++ ys)) ?_ q
        simp only [Rep, List.nil_append]
        exact ⟨p', us, rfl, t2, q2⟩
      · subst e
        have : ys = [] := List.eq_nil_of_length_eq_zero l2.symm
        subst this
        refine give (o := .add) (es := [a, b]) (us := []) hz (d := .tup (xs ++ [])) ?_ q
        simp only [Rep, List.append_nil]
        exact ⟨_, vs, rfl, t1, q1⟩
      · exact give_newZ hz hp (rep_tupN hp (q1.append q2)) q
    · cases hr
  · rename_i e0
    cases e0
    split at hr
    · rename_i hs
      exact lists _ _ rfl rfl rfl rfl hs (Option.some.inj hr).symm
    · cases hr
  · rename_i e0
    cases e0
    obtain ⟨ys, e1, hr⟩ := Option.bind_eq_some_iff.mp hr
    split at hr
    · rename_i hs
      exact lists _ _ rfl e1 rfl rfl hs (Option.some.inj hr).symm
    · cases hr
  · rename_i e0
    cases e0
    obtain ⟨ys, e1, hr⟩ := Option.bind_eq_some_iff.mp hr
    split at hr
    · rename_i hs
      exact lists _ _ e1 rfl rfl rfl hs (Option.some.inj hr).symm
    · cases hr
  · rename_i e0
    cases e0
    obtain ⟨xs, e1, hr⟩ := Option.bind_eq_some_iff.mp hr
    obtain ⟨ys, e2, hr⟩ := Option.bind_eq_some_iff.mp hr
    split at hr
    · rename_i hs
      exact lists _ _ e1 e2 rfl rfl hs (Option.some.inj hr).symm
    · cases hr
  · cases hr
end
end Ev
/-! Ev16: operators by values: None, len, in, conversions, repr. -/
namespace Ev
open PySem PySem.Spec PyProof.Rows L2

section
variable {B : Wd} {Z Z' : Addr → Prop} {H : Hp} {P : Program} {h : Heap}
mutual
theorem rep_uniq (ok : HOk P B.w H h) (hK : B.K.In h) : ∀ {d d' : D} {x : V}, noD d = true → noD d' = true → Rep B Z H d x → Rep B Z' H d' x → d = d'
  | .tup ds, d', x, n, n', r, r' => by
    cases d' <;> simp only [Rep, noD] at r r' n n' <;> first
      | (obtain ⟨a, _, rfl, _⟩ := r; cases r'; done)
      | (cases n'; done)
      | skip
    · obtain ⟨a, xs, rfl, h1, q1⟩ := r
      obtain ⟨a', ys, e1, h2, q2⟩ := r'
      cases e1
      obtain ⟨is1, o, _, v1, g1, c1, d1, _⟩ := h1.at ok hK
      obtain ⟨is2, o', _, v2, g2, c2, d2, _⟩ := h2.at ok hK
      rw [g1] at g2; cases g2
      rw [d1] at d2
      have ei : is1 = is2 := by injection d2 with d2 _; simpa using congrArg Array.toList d2
      subst ei
      cases Vals.inj v1 v2
      rw [reps_uniq ok hK n n' q1 q2]
    · obtain ⟨a, xs, rfl, h1, _⟩ := r
      obtain ⟨a', ys, e1, h2, _⟩ := r'
      cases e1
      obtain ⟨_, o, _, _, g1, c1, _⟩ := h1.at ok hK
      obtain ⟨_, o', _, _, g2, c2, _⟩ := h2.at ok hK
      rw [g1] at g2; cases g2
      exact absurd (c1.symm.trans c2) (by intro z; injection z with z; exact absurd z (by decide))
  | .lst ds, d', x, n, n', r, r' => by
    cases d' <;> simp only [Rep, noD] at r r' n n' <;> first
      | (obtain ⟨a, _, rfl, _⟩ := r; cases r'; done)
      | (cases n'; done)
      | skip
    · obtain ⟨a, xs, rfl, h1, _⟩ := r
      obtain ⟨a', ys, e1, h2, _⟩ := r'
      cases e1
      obtain ⟨_, o, _, _, g1, c1, _⟩ := h1.at ok hK
      obtain ⟨_, o', _, _, g2, c2, _⟩ := h2.at ok hK
      rw [g1] at g2; cases g2
      exact absurd (c1.symm.trans c2) (by intro z; injection z with z; exact absurd z (by decide))
    · obtain ⟨a, xs, rfl, h1, q1⟩ := r
      obtain ⟨a', ys, e1, h2, q2⟩ := r'
      cases e1
      obtain ⟨is1, o, _, v1, g1, c1, d1, _⟩ := h1.at ok hK
      obtain ⟨is2, o', _, v2, g2, c2, d2, _⟩ := h2.at ok hK
      rw [g1] at g2; cases g2
      rw [d1] at d2
      have ei : is1 = is2 := by injection d2 with d2 _; simpa using congrArg Array.toList d2
      subst ei
      cases Vals.inj v1 v2
      rw [reps_uniq ok hK n n' q1 q2]
  | .non, d', x, n, n', r, r' => by
    simp only [Rep] at r; subst r
    cases d' <;> simp only [Rep, noD] at r' n' <;> first | rfl | (cases r'; done) | (obtain ⟨_, _, e, _⟩ := r'; cases e; done) | (cases n'; done)
  | .bl b, d', x, n, n', r, r' => by
    simp only [Rep] at r; subst r
    cases d' <;> simp only [Rep, noD] at r' n' <;> first | (cases r'; rfl) | (cases r'; done) | (obtain ⟨_, _, e, _⟩ := r'; cases e; done) | (cases n'; done)
  | .int b, d', x, n, n', r, r' => by
    simp only [Rep] at r; subst r
    cases d' <;> simp only [Rep, noD] at r' n' <;> first | (cases r'; rfl) | (cases r'; done) | (obtain ⟨_, _, e, _⟩ := r'; cases e; done) | (cases n'; done)
  | .str b, d', x, n, n', r, r' => by
    simp only [Rep] at r; subst r
    cases d' <;> simp only [Rep, noD] at r' n' <;> first | (cases r'; rfl) | (cases r'; done) | (obtain ⟨_, _, e, _⟩ := r'; cases e; done) | (cases n'; done)
  | .dct _, d', x, n, _, _, _ => by simp [noD] at n
  | .ins _ _, d', x, n, _, _, _ => by simp [noD] at n
  | .exn _ _, d', x, n, _, _, _ => by simp [noD] at n
theorem reps_uniq (ok : HOk P B.w H h) (hK : B.K.In h) : ∀ {ds ds' : List D} {xs : List V}, noDs ds = true → noDs ds' = true → Reps B Z H ds xs → Reps B Z' H ds' xs → ds = ds'
  | [], [], xs, _, _, _, _ => rfl
  | [], _ :: _, xs, _, _, r, r' => by
    simp only [Reps] at r r'
    obtain ⟨_, _, e, _⟩ := r'
    rw [r] at e; cases e
  | _ :: _, [], xs, _, _, r, r' => by
    simp only [Reps] at r r'
    obtain ⟨_, _, e, _⟩ := r
    rw [r'] at e; cases e
  | d :: ds, d' :: ds', xs, n, n', r, r' => by
    simp only [Reps, noDs, Bool.and_eq_true] at r r' n n'
    obtain ⟨x, xr, rfl, h1, h2⟩ := r
    obtain ⟨y, yr, e, h1', h2'⟩ := r'
    cases e
    rw [rep_uniq ok hK n.1 n'.1 h1 h1', reps_uniq ok hK n.2 n'.2 h2 h2']
end
end

section
variable {B : Wd} {X : Cx}
theorem isNon_dec {Z : Addr → Prop} {H : Hp} {o : OV} {x : V} {fp : List Addr} (h : RepO B Z H o x fp) : decide (x = .non) = isNon o := by
  cases o with
  | fr d =>
    simp only [RepO] at h
    obtain ⟨h, _⟩ := h
    cases d <;> simp only [Rep] at h <;> first
      | (subst h; rfl)
      | (obtain ⟨a, _, rfl, _⟩ := h; rfl)
      | (obtain ⟨a, _, _, rfl, _⟩ := h; rfl)
      | (obtain ⟨a, _, _, _, rfl, _⟩ := h; rfl)
  | lst os => simp only [RepO] at h; obtain ⟨a, _, _, rfl, _⟩ := h; rfl
  | dct os => simp only [RepO] at h; obtain ⟨a, _, _, rfl, _⟩ := h; rfl
  | ins c fs => simp only [RepO] at h; obtain ⟨a, _, _, _, _, rfl, _⟩ := h; rfl
theorem v_isN {e : E} : OpR X (compareOp .Is) (fun x y H Q => y = .non ∧ rOp B .isN [e] [x] H Q) := by
  intro pins s σ H x y v u Q I rx ry ⟨hy, Z, os, r, G, l, _, _, hz, hr, q⟩
  obtain ⟨o, fp, rfl, h1, _⟩ := looks1 l
  simp only [opR, oIsN, Option.some.injEq] at hr
  subst hr
  refine op_isN pins s σ H x y v u Q I rx ry ⟨hy, ?_⟩
  rw [isNon_dec h1]
  have e0 : (isNon o != false) = isNon o := by cases isNon o <;> rfl
  rw [e0] at q
  exact give (o := .isN) (es := [e]) (us := []) hz rep_bl q
theorem v_notN {e : E} : OpR X (compareOp .IsNot) (fun x y H Q => y = .non ∧ rOp B .notN [e] [x] H Q) := by
  intro pins s σ H x y v u Q I rx ry ⟨hy, Z, os, r, G, l, _, _, hz, hr, q⟩
  obtain ⟨o, fp, rfl, h1, _⟩ := looks1 l
  simp only [opR, oIsN, Option.some.injEq] at hr
  subst hr
  refine op_notN pins s σ H x y v u Q I rx ry ⟨hy, ?_⟩
  rw [isNon_dec h1]
  have e0 : (isNon o != true) = !isNon o := by cases isNon o <;> rfl
  rw [e0] at q
  exact give (o := .notN) (es := [e]) (us := []) hz rep_bl q
/-! ### dicts, where they stand -/
/-- the entries of a dict, shared or owned, to be read -/
theorem dict_at (g : GX X B) {Z : Addr → Prop} {H : Hp} {pins : List (Addr × Obj)} {σ : L2.St} {s : Shared} (I : Inv X pins σ H s) {o : OV} {x : V} {fp : List Addr} (h : RepO B Z H o x fp) (hd : isDct o = true) :
    ∃ (a : Addr) (ob : Obj) (ea : Array DictEntry) (ep : Nat) (kvs : List (D × D)), x = .ref a ∧ o.view = .dct kvs ∧ s.heap.get? a = some ob ∧ ob.ExactDict ∧ ob.data = .dict ea ep ∧ (a == sysModules) = false ∧ kvs.length ≤ sizeLine ∧ keysNd kvs = true ∧ Repk B (fun _ => True) H kvs ea.toList ∧ EntK B.w s.heap ea (kvs.map fun p => canon p.1) := by
  have ok := Inv.hok' g I
  have hK := Inv.kIn' g I
  have hv : ∃ kvs, o.view = .dct kvs := by
    cases o with
    | fr d => cases d <;> simp [isDct] at hd; exact ⟨_, rfl⟩
    | dct kvs => exact ⟨_, rfl⟩
    | _ => simp [isDct] at hd
  obtain ⟨kvs, hv⟩ := hv
  have r := h.read
  rw [hv] at r
  simp only [Rep] at r
  obtain ⟨a, es, rfl, ⟨_, h1⟩, h2, h3, h4, h5⟩ := r
  obtain ⟨ob, ea, ep, g1, g2, g3, g4⟩ := DH.at h1 ok
  refine ⟨a, ob, ea, ep, kvs, rfl, hv, g1, g2, g3, h2, h3, h4, by rw [g4]; exact h5, h5.entK ok hK h4 g4⟩
theorem inDict_view {o : OV} {kvs : List (D × D)} {k : D} (hv : o.view = .dct kvs) (hd : isDct o = true) : inDict o k = if keyOk k then some (dget k kvs).isSome else none := by
  have aux : ∀ ks : List (D × OV), (dget k ks).isSome = (dget k (viewsK ks)).isSome := by
    intro ks
    induction ks with
    | nil => rfl
    | cons p r ih =>
      obtain ⟨k', v⟩ := p
      simp only [dget, viewsK]
      split
      · rfl
      · exact ih
  cases o with
  | fr d =>
    cases d <;> simp [isDct] at hd
    simp only [OV.view, D.dct.injEq] at hv
    subst hv; rfl
  | dct ks =>
    simp only [OV.view, D.dct.injEq] at hv
    subst hv
    unfold inDict
    simp only [aux]
  | _ => simp [isDct] at hd
theorem dget_iff {kvs : List (D × D)} {k : D} (hk : keyOk k = true) (nd : keysNd kvs = true) : (dget k kvs).isSome = true ↔ ∃ (j : Nat), (kvs.map fun p => canon p.1)[j]? = some (canon k) := by
  have oks : ∀ p ∈ kvs, keyK p.1 = true := fun p hp => keyOk_k ((keysNd_at nd).1 p hp)
  constructor
  · intro h
    obtain ⟨v, hv⟩ := Option.isSome_iff_exists.mp h
    obtain ⟨j, k', hj, hc⟩ := dget_some (keyOk_k hk) oks hv
    exact ⟨j, by rw [List.getElem?_map, hj, Option.map_some, hc]⟩
  · intro ⟨j, hj⟩
    cases h : dget k kvs with
    | some v => rfl
    | none => exact absurd hj (dget_none (keyOk_k hk) oks h j)
theorem v_in (g : GX X B) {ng : Bool} {a b : E} : OpR X (compareOp (if ng then .NotIn else .In)) (fun x y H Q => rOp B (if ng then .notin else .isin) [a, b] [x, y] H Q) := by
  intro pins s σ H x y v u Q I rx ry ⟨Z, os, r, G, l, _, _, hz, hr, q⟩
  obtain ⟨o1, o2, f1, f2, rfl, h1, h2⟩ := looks2 l
  have ok := Inv.hok' g I
  have hK := Inv.kIn' g I
  have hu := g.units
  have hr' : oIn ng [o1, o2] = some r := by
    cases ng <;> simpa only [opR, Bool.false_eq_true, if_false, if_true] using hr
  cases o1 with
  | fr d =>
    simp only [RepO] at h1
    obtain ⟨h1, _⟩ := h1
    simp only [oIn, Option.map_eq_some_iff] at hr'
    obtain ⟨k, hk, rfl⟩ := hr'
    -- the answer
    have fin : ∀ s' : Shared, (∃ t, s' = { s with toks := t }) → EP X pins σ Q (.bool (k != ng)) s' := fun s' ⟨t, e⟩ => by
      subst e
      exact ⟨.bl (k != ng), H, I.tok t, rfl, give (o := .isin) (es := [a, b]) (us := []) hz rep_bl q⟩
    unfold isIn at hk
    by_cases hd : isDct o2 = true
    · rw [if_pos hd] at hk
      obtain ⟨p, ob, ea, ep, kvs, rfl, hv, g1, g2, g3, hs, hl, nd, rk, ent⟩ := dict_at g I h2 hd
      rw [inDict_view hv hd] at hk
      split at hk
      · rename_i hko
        simp only [Option.some.injEq] at hk
        cases (show u = Value.ref p from ry)
        have hkey := key_is ok hK (keyOk_k hko) h1 rx
        have ent' : EntK X.w s.heap ea (kvs.map fun p => canon p.1) := by rw [g.w]; exact ent
        have ans : ∀ b' : Bool, (b' = true ↔ ∃ (j : Nat), (kvs.map fun p => canon p.1)[j]? = some (canon d)) → b' = k := fun b' hb => by
          rw [← hk, Bool.eq_iff_iff, hb, dget_iff hko nd]
        cases ng with
        | false =>
          refine in_key (by rw [units_in1]; omega) hkey (keyOk_d hko) hs g1 g2 g3 ent' fun b' hb => ?_
          rw [ans b' hb]
          have e0 : (k != false) = k := by cases k <;> rfl
          rw [e0] at fin
          exact fin _ ⟨_, rfl⟩
        | true =>
          refine notIn_key (by rw [units_in1]; omega) hkey (keyOk_d hko) hs g1 g2 g3 ent' fun b' hb => ?_
          rw [ans b' hb]
          have e0 : (k != true) = !k := by cases k <;> rfl
          rw [e0] at fin
          exact fin _ ⟨_, rfl⟩
      · cases hk
    · rw [if_neg hd] at hk
      obtain ⟨ds, hi, hk⟩ := Option.bind_eq_some_iff.mp hk
      obtain ⟨p, vs, rfl, hq, rs⟩ := items_at g h2 hi
      cases (show u = Value.ref p from ry)
      split at hk
      · rename_i hall
        simp only [Option.some.injEq] at hk
        rw [List.all_eq_true] at hall
        -- the items' answers
        have each : ∀ (its : List Value), Vals vs its → ∃ e : Value → Bool, (∀ w ∈ its, SeqAt.EqAt X.A.in1 s w v (e w)) ∧ its.any e = k := by
          intro its rv
          classical
          refine ⟨fun w => decide (∃ dj ∈ ds, ∃ xj, Rep B Z H dj xj ∧ RelV xj w ∧ eqD eqN dj d = some true), fun w hw => ?_, ?_⟩
          · obtain ⟨j, hj⟩ := List.mem_iff_getElem?.mp hw
            have hl : j < ds.length := by
              rw [← rs.length, rv.length]; exact (List.getElem?_eq_some_iff.mp hj).1
            obtain ⟨xj, hxj, rj⟩ := rs.get (List.getElem?_eq_getElem hl)
            obtain ⟨w', hw', rw'⟩ := rv.get hxj
            rw [hj] at hw'; cases hw'
            have hm : ds[j] ∈ ds := List.getElem_mem hl
            have ha := hall _ hm
            rw [Bool.and_eq_true] at ha
            obtain ⟨c, hc⟩ := Option.isSome_iff_exists.mp ha.2
            have main := eq_at (A := X.A.in1) ok hK (n := eqN) (by rw [units_in1]; simp only [eqN]; omega) ha.1 rj h1 rw' rx hc
            have hd2 : decide (∃ dj ∈ ds, ∃ xj, Rep B Z H dj xj ∧ RelV xj w ∧ eqD eqN dj d = some true) = c := by
              cases c with
              | true => exact decide_eq_true ⟨_, hm, xj, rj, rw', hc⟩
              | false =>
                refine decide_eq_false ?_
                rintro ⟨dj, hdj, x', r', rel', e'⟩
                cases rel'.inj rw'
                have hb := hall _ hdj
                rw [Bool.and_eq_true] at hb
                rw [rep_uniq ok hK hb.1 ha.1 r' rj, hc] at e'
                cases e'
            show SeqAt.EqAt _ _ _ _ (decide _)
            rw [hd2]
            exact main
          · rw [← hk, Bool.eq_iff_iff, List.any_eq_true, List.any_eq_true]
            constructor
            · rintro ⟨w, hw, hp⟩
              obtain ⟨dj, hdj, xj, _, _, e⟩ := of_decide_eq_true hp
              exact ⟨dj, hdj, by rw [e]; rfl⟩
            · rintro ⟨dj, hdj, e⟩
              obtain ⟨j, hj⟩ := List.mem_iff_getElem?.mp hdj
              obtain ⟨xj, hxj, rj⟩ := rs.get hj
              obtain ⟨w, hw, rw'⟩ := rv.get hxj
              refine ⟨w, List.mem_of_getElem? hw, decide_eq_true ⟨dj, hdj, xj, rj, rw', ?_⟩⟩
              have ha := hall _ hdj
              rw [Bool.and_eq_true] at ha
              obtain ⟨c, hc⟩ := Option.isSome_iff_exists.mp ha.2
              rw [hc] at e ⊢
              simp only [Option.getD_some] at e
              rw [e]
        rcases hq with hq | hq
        · obtain ⟨its, rv, pl, _⟩ := I.list hq
          obtain ⟨e, he, hek⟩ := each its rv
          cases ng with
          | false =>
            refine SeqAt.in_listAt e pl.isList (fun w hw => he w (by simpa using hw)) ?_
            rw [show its.toArray.any e = its.any e by simp, hek]
            have e0 : (k != false) = k := by cases k <;> rfl
            rw [e0] at fin
            exact fin _ ⟨_, rfl⟩
          | true =>
            refine SeqAt.notIn_listAt e pl.isList (fun w hw => he w (by simpa using hw)) ?_
            rw [show its.toArray.any e = its.any e by simp, hek]
            have e0 : (k != true) = !k := by cases k <;> rfl
            rw [e0] at fin
            exact fin _ ⟨_, rfl⟩
        · obtain ⟨its, rv, pl, _⟩ := I.tuple hq
          obtain ⟨e, he, hek⟩ := each its rv
          cases ng with
          | false =>
            refine SeqAt.in_tupleAt e pl (fun w hw => he w (by simpa using hw)) ?_
            rw [show its.toArray.any e = its.any e by simp, hek]
            have e0 : (k != false) = k := by cases k <;> rfl
            rw [e0] at fin
            exact fin _ ⟨_, rfl⟩
          | true =>
            refine SeqAt.notIn_tupleAt e pl (fun w hw => he w (by simpa using hw)) ?_
            rw [show its.toArray.any e = its.any e by simp, hek]
            have e0 : (k != true) = !k := by cases k <;> rfl
            rw [e0] at fin
            exact fin _ ⟨_, rfl⟩
      · cases hk
  | _ => simp [oIn] at hr'
end
end Ev
/-! Ev17: operators by values: len, int, abs, neg, list, tuple, sum, all, any, repr. -/
namespace Ev
open PySem PySem.Spec PyProof.Rows L2

section
variable {prog : Program} {w : World} {A : Around} {E : Value → Shared → Prop} {s : Shared}
open Builtin in
/-- len of any dict -/
theorem dictLenB (d : Addr) (hd : (d == sysModules) = false) :
    MeetsIn prog w (Builtin.«dict.__len__» ⟨[.ref d], []⟩) (fun _ R s => ∃ (o : Obj) (es : Array DictEntry) (ep : Nat), s.heap.get? d = some o ∧ o.data = .dict es ep ∧ R (.ok (.ret (.int es.size s.toks))) { s with toks := s.toks + 1 }) :=
  .of_wp fun A R s ⟨o, es, ep, ho, hdat, h⟩ => by
    show wpAny _ _ (dictSize d >>= _) _ _ s
    unfold dictSize
    refine wpAny_bind (wpAny_bind (wpAny_dictEntries ho hdat (wpAny_pure ?_)))
    show wpAny _ _ (Builtin.Dict.pendingCount d >>= _) _ _ s
    refine wpAny_bind (wpAny_pendingCount_other hd ?_)
    refine wpAny_ret_mkInt ?_
    rw [Nat.add_zero]
    exact h
theorem len_bodyK {d : Addr} {o : Obj} {es : Array DictEntry} {ep : Nat} {Q : Value → Shared → Prop} (ho : s.heap.get? d = some o) (hc : o.ExactDict) (hdat : o.data = .dict es ep) (hd : (d == sysModules) = false) (hfit : (es.size : Int) < 2 ^ 63)
    (h : Q (.int es.size (s.toks + 1)) { s with toks := s.toks + 1 + 1 }) : wpAny (model prog w) A (Builtin.«len» ⟨[.ref d], []⟩) (fun fin s' => ∃ r, fin = .done (.ret r) ∧ Q r s') E s := by
  have hT : s.TypeIs (.ref d) "dict" := ⟨o, ho, hc.1⟩
  unfold Builtin.«len»
  refine wpAny_bind (m := oneArg "len" _) (wpAny_pure ?_)
  refine wpAny_bind (m := callSpecial? (.ref d) (Str.ofString "__len__")) (wpAny_callSpecial?_slot (name := Str.ofString "__len__") hT F.slot_dict_len
    (call_meetsIn F.slot_dict_len hT F.entry_dict_len (F.args_dict_len_1 _) (dictLenB d hd) ⟨o, es, ep, ho, hdat, ?_⟩))
  show wpAny _ _ _ _ _ { s with toks := s.toks + 1 }
  refine wpAny_bind (wpAny_holding (wpAny_pure ?_))
  refine wpAny_bind (wpAny_letGo ?_)
  show wpAny _ _ (if ((es.size : Nat) : Int) < 0 then _ else _) _ _ _
  rw [if_neg (by omega)]
  show wpAny _ _ (if ((es.size : Nat) : Int) ≥ 2 ^ 63 then _ else _) _ _ _
  rw [if_neg (by omega)]
  exact wpAny_bind (wpAny_mkInt (wpAny_pure ⟨_, rfl, h⟩))
theorem len_dictK {d : Addr} {o : Obj} {es : Array DictEntry} {ep : Nat} {Q : Value → Shared → Prop} (ho : s.heap.get? d = some o) (hc : o.ExactDict) (hdat : o.data = .dict es ep) (hd : (d == sysModules) = false) (hfit : (es.size : Int) < 2 ^ 63)
    (h : Q (.int es.size (s.toks + 1)) { s with toks := s.toks + 1 + 1 }) : wpAny (model prog w) A (call (.builtin "len") [.ref d]) Q E s := by
  exact Calls.call_function_entry kind_len plain_len entry_len (args_len1 _) (len_bodyK ho hc hdat hd hfit h)
theorem truthy_dictK {d : Addr} {o : Obj} {es : Array DictEntry} {ep : Nat} {Q : Bool → Shared → Prop} (ho : s.heap.get? d = some o) (hc : o.ExactDict) (hdat : o.data = .dict es ep) (hd : (d == sysModules) = false) (hfit : (es.size : Int) < 2 ^ 63)
    (h : Q (!es.isEmpty) { s with toks := s.toks + 1 + 1 }) : wpAny (model prog w) A (truthy (.ref d)) Q E s := by
  have hT : s.TypeIs (.ref d) "dict" := ⟨o, ho, hc.1⟩
  have hne : ((es.size : Int) != 0) = !es.isEmpty := by
    have : es.isEmpty = decide (es.size = 0) := rfl
    rw [this]
    by_cases z : es.size = 0
    · rw [z]; rfl
    · rw [decide_eq_false z]
      rw [Bool.not_false, bne_iff_ne]
      omega
  have key : wpAny (model prog w) A (runValue (.builtin "len" ⟨[.ref d], []⟩)) (fun r s' => r = .int es.size (s.toks + 1) ∧ Q (!es.isEmpty) s') E s := by
    refine wpAny_runValue (codeAny_builtin entry_len ?_)
    rw [Around.under_plainId plain_len _]
    exact wpAny_mono (len_bodyK (Q := fun r s' => r = .int es.size (s.toks + 1) ∧ Q (!es.isEmpty) s') ho hc hdat hd hfit ⟨rfl, h⟩)
      (fun fin s' h' => by obtain ⟨r, rfl, hq⟩ := h'; exact hq) fun _ _ e => e
  unfold truthy
  first
    | refine wpAny_bind (wpAny_callSpecial?_none (name := Str.ofString "__bool__") hT noBool_dict ?_)
    | refine wpAny_bind (wpAny_pure (wpAny_bind (wpAny_callSpecial?_none (name := Str.ofString "__bool__") hT noBool_dict ?_)))
  first
    | refine wpAny_bind (wpAny_specialOf (name := Str.ofString "__len__") hT F.slot_dict_len.lookup ?_)
    | refine wpAny_bind (wpAny_pure (wpAny_bind (wpAny_specialOf (name := Str.ofString "__len__") hT F.slot_dict_len.lookup ?_)))
  first
    | exact wpAny_bind (wpAny_mono key (fun r s' h' => by obtain ⟨rfl, hq⟩ := h'; exact wpAny_pure (hne ▸ hq)) fun _ _ e => e)
    | exact wpAny_bind (wpAny_pure (wpAny_bind (wpAny_mono key (fun r s' h' => by obtain ⟨rfl, hq⟩ := h'; exact wpAny_pure (hne ▸ hq)) fun _ _ e => e)))
end

section
variable {B : Wd} {X : Cx}
theorem looksC1 {Z : Addr → Prop} {H : Hp} {e : E} {os : List OV} {us : List V} {G : List Addr} (l : Looks B Z H [e] os us G) : ∃ o x fp, os = [o] ∧ us = [x] ∧ RepO B Z H o x fp := by
  obtain ⟨o, r, v, vr, fp, G1, G2, rfl, rfl, h1, rfl, h2, rfl, rfl, rfl⟩ := l
  exact ⟨o, v, fp, rfl, rfl, h1⟩
theorem looksC2 {Z : Addr → Prop} {H : Hp} {e f : E} {os : List OV} {us : List V} {G : List Addr} (l : Looks B Z H [e, f] os us G) : ∃ o o' x y fp fp', os = [o, o'] ∧ us = [x, y] ∧ RepO B Z H o x fp ∧ RepO B Z H o' y fp' := by
  obtain ⟨o, r, v, vr, fp, G1, G2, rfl, rfl, h1, rfl, h2, l2⟩ := l
  obtain ⟨o', x', fp', rfl, rfl, h3⟩ := looksC1 l2
  exact ⟨o, o', v, x', fp, fp', rfl, rfl, h1, h3⟩
/-- a call with one int that gives an int -/
theorem call_i1 {o : Op} {f : Value} {e : E} {fn : Int → Int} (ho : ∀ os, opR o os = oInt1 (fun i => .fr (.int (fn i))) os) (hm : CallR X f (fun xs H Q => ∃ i, xs = [.int i] ∧ Q (.int (fn i)) H)) : CallR X f (fun xs H Q => rOp B o [e] xs H Q) := by
  intro pins s σ H xs us Q I rs ⟨Z, os, r, G, l, _, _, hz, hr, q⟩
  obtain ⟨o1, x, fp, rfl, rfl, h1⟩ := looksC1 l
  rw [ho] at hr
  obtain ⟨i, e1, rfl⟩ := oInt1_inv hr
  cases e1
  obtain rfl := repO_int h1
  exact hm pins s σ H _ us Q I rs ⟨i, rfl, give (o := o) (es := [e]) (us := []) hz rep_int q⟩
theorem call_i2 {o : Op} {f : Value} {a b : E} {fn : Int → Int → Int} (ho : ∀ os, opR o os = oInt2 (fun _ _ => true) (fun i j => .fr (.int (fn i j))) os) (hm : CallR X f (fun xs H Q => ∃ i j, xs = [.int i, .int j] ∧ Q (.int (fn i j)) H)) : CallR X f (fun xs H Q => rOp B o [a, b] xs H Q) := by
  intro pins s σ H xs us Q I rs ⟨Z, os, r, G, l, _, _, hz, hr, q⟩
  obtain ⟨o1, o2, x, y, fp, fp', rfl, rfl, h1, h2⟩ := looksC2 l
  rw [ho] at hr
  obtain ⟨i, j, e1, _, rfl⟩ := oInt2_inv hr
  cases e1
  obtain rfl := repO_int h1
  obtain rfl := repO_int h2
  exact hm pins s σ H _ us Q I rs ⟨i, j, rfl, give (o := o) (es := [a, b]) (us := []) hz rep_int q⟩
theorem c_abs {e : E} : CallR X (.builtin "abs") (fun xs H Q => rOp B .abs [e] xs H Q) := call_i1 (fn := fun i => if i < 0 then -i else i) (fun _ => rfl) call_abs
theorem c_int {e : E} : CallR X (.type "int") (fun xs H Q => rOp B .int [e] xs H Q) := call_i1 (fn := fun i => i) (fun _ => rfl) fun pins s σ H xs us Q I rs h => call_int1 pins s σ H xs us Q I rs (.inl h)
theorem c_min2 (g : GX X B) {a b : E} : CallR X (.builtin "min") (fun xs H Q => rOp B .min2 [a, b] xs H Q) := call_i2 (fn := fun i j => if j < i then j else i) (fun _ => rfl) (call_min2 g.calm)
theorem c_max2 (g : GX X B) {a b : E} : CallR X (.builtin "max") (fun xs H Q => rOp B .max2 [a, b] xs H Q) := call_i2 (fn := fun i j => if i < j then j else i) (fun _ => rfl) (call_max2 g.calm)
theorem u_neg {e : E} : UnR X (unaryOp .USub) (fun x H Q => rOp B .neg [e] [x] H Q) := by
  intro pins s σ H x v Q I rx ⟨Z, os, r, G, l, _, _, hz, hr, q⟩
  obtain ⟨o1, x', fp, rfl, e1, h1⟩ := looksC1 l
  cases e1
  obtain ⟨i, e1, rfl⟩ := oInt1_inv (show oInt1 (fun i => .fr (.int (-i))) [o1] = some r from hr)
  cases e1
  obtain rfl := repO_int h1
  exact un_neg pins s σ H _ v Q I rx ⟨i, rfl, give (o := .neg) (es := [e]) (us := []) hz rep_int q⟩
/-- len -/
theorem c_len (g : GX X B) {e : E} : CallR X (.builtin "len") (fun xs H Q => rOp B .len [e] xs H Q) := by
  intro pins s σ H xs us Q I rs ⟨Z, os, r, G, l, _, _, hz, hr, q⟩
  obtain ⟨o, x, fp, rfl, rfl, h1⟩ := looksC1 l
  have hr' : oLen [o] = some r := hr
  simp only [oLen] at hr'
  cases hn : lenOV o with
  | none => rw [hn] at hr'; cases hr'
  | some n =>
  rw [hn] at hr'
  simp only [Option.some.injEq] at hr'
  subst hr'
  have done : Q (.int n) H := give (o := .len) (es := [e]) (us := []) hz rep_int q
  have seq : ∀ p ys, x = .ref p → (SqL X.K H p ys ∨ SqT X.K H p ys) → ys.length = n → wpAny (model X.prog X.w) X.A (call (.builtin "len") us) (EP X pins σ Q) X.xe s := fun p ys ex hq hl => by
    subst ex
    exact call_len_seq pins s σ H _ us Q I rs ⟨p, ys, rfl, hq, by rw [hl]; exact done⟩
  have dict : isDct o = true → lenOV o = some n → wpAny (model X.prog X.w) X.A (call (.builtin "len") us) (EP X pins σ Q) X.xe s := fun hd hn => by
    obtain ⟨p, ob, ea, ep, kvs, rfl, hv, g1, g2, g3, hs, hl, nd, rk, ent⟩ := dict_at g I h1 hd
    obtain ⟨u, rfl, ru⟩ := vals1 rs
    cases (show u = Value.ref p from ru)
    have hsz : ea.size = n := by
      rw [← Array.length_toList, rk.length]
      cases o with
      | fr d =>
        cases d <;> simp [isDct] at hd
        simp only [OV.view, D.dct.injEq] at hv
        subst hv
        simpa [lenOV] using hn
      | dct ks =>
        simp only [OV.view, D.dct.injEq] at hv
        subst hv
        rw [viewsK_length]
        simpa [lenOV] using hn
      | _ => simp [isDct] at hd
    have hle : ea.size ≤ sizeLine := by rw [← Array.length_toList, rk.length]; exact hl
    have h63 := line63
    refine len_dictK g1 g2 g3 hs (by omega) ?_
    rw [hsz]
    exact ⟨.int n, H, I.tok _, ⟨_, rfl⟩, done⟩
  cases o with
  | fr d =>
    simp only [RepO] at h1
    cases d <;> simp [lenOV] at hn
    · obtain ⟨h, _⟩ := h1
      simp only [Rep] at h
      subst h
      obtain ⟨hs, hn⟩ := hn
      exact call_len_str pins s σ H _ us Q I rs ⟨_, rfl, sizeB_le hs, by rw [hn]; exact done⟩
    · obtain ⟨h, _⟩ := h1
      simp only [Rep] at h
      obtain ⟨p, ys, ex, ht, hs⟩ := h
      exact seq p ys ex (.inr (ht.sq g.K)) (by rw [hs.length, hn])
    · obtain ⟨h, _⟩ := h1
      simp only [Rep] at h
      obtain ⟨p, ys, ex, ht, hs⟩ := h
      exact seq p ys ex (.inl (ht.sq g.K)) (by rw [hs.length, hn])
    · exact dict rfl (by simp [lenOV, hn])
  | lst os =>
    simp only [lenOV, Option.some.injEq] at hn
    simp only [RepO] at h1
    obtain ⟨p, ys, fps, ex, ha, hs, _⟩ := h1
    exact seq p ys ex (.inl (.of ha)) (by rw [hs.length, hn])
  | dct ks => exact dict rfl hn
  | ins _ _ => simp [lenOV] at hn
end
end Ev
/-! Ev18: repr by values; list, tuple, sum, all, any. -/
namespace Ev
open PySem PySem.Spec PyProof.Rows L2

section
variable {B : Wd} {Z : Addr → Prop} {H : Hp} {P : Program} {h : Heap}
theorem toPys_get : ∀ {ds : List D} {ps : List PyData}, toPys ds = some ps → ds.length = ps.length
  | [], ps, e => by simp only [toPys, Option.some.injEq] at e; subst e; rfl
  | d :: ds, ps, e => by
    simp only [toPys] at e
    cases e1 : toPy d with
    | none => rw [e1] at e; simp at e
    | some a =>
      cases e2 : toPys ds with
      | none => rw [e1, e2] at e; simp at e
      | some c =>
        rw [e1, e2] at e
        simp only [Option.some.injEq] at e
        subst e
        simp [toPys_get e2]
/-- addresses that are not sys.modules' -/
def Far (as : List Addr) : Prop := sysModules ∉ as
mutual
theorem reads_of (ok : HOk P B.w H h) (hK : B.K.In h) (sm : ∃ o, h.get? sysModules = some o ∧ o.cls = .type "dict") : ∀ {d : D} {p : PyData} {x : V} {v : Value}, toPy d = some p → Rep B Z H d x → RelV x v → ∃ as, Reads h v p as ∧ sysModules ∉ as
  | .non, p, x, v, e, r, rv => by
    simp only [toPy, Option.some.injEq] at e; subst e
    simp only [Rep] at r; subst r
    cases (show v = Value.none from rv); exact ⟨_, .none, by simp⟩
  | .bl b, p, x, v, e, r, rv => by
    simp only [toPy, Option.some.injEq] at e; subst e
    simp only [Rep] at r; subst r
    cases (show v = Value.bool b from rv); exact ⟨_, .bool b, by simp⟩
  | .int i, p, x, v, e, r, rv => by
    simp only [toPy, Option.some.injEq] at e; subst e
    simp only [Rep] at r; subst r
    obtain ⟨t, rfl⟩ := rv; exact ⟨_, .int i t, by simp⟩
  | .str i, p, x, v, e, r, rv => by
    simp only [toPy, Option.some.injEq] at e; subst e
    simp only [Rep] at r; subst r
    obtain ⟨t, rfl⟩ := rv; exact ⟨_, .str i t, by simp⟩
  | .tup ds, p, x, v, e, r, rv => by
    simp only [toPy, Option.map_eq_some_iff] at e
    obtain ⟨ps, e, rfl⟩ := e
    simp only [Rep] at r
    obtain ⟨a, xs, rfl, t, q⟩ := r
    obtain ⟨its, o, n, rr, g, c, dd, _⟩ := t.at ok hK
    cases (show v = Value.ref a from rv)
    obtain ⟨as, h1, h2⟩ := reads_all ok hK sm e q rr
    exact ⟨as, .tuple g c dd (by simpa using h1), h2⟩
  | .lst ds, p, x, v, e, r, rv => by
    simp only [toPy, Option.map_eq_some_iff] at e
    obtain ⟨ps, e, rfl⟩ := e
    simp only [Rep] at r
    obtain ⟨a, xs, rfl, t, q⟩ := r
    obtain ⟨its, o, n, rr, g, c, dd, _⟩ := t.at ok hK
    cases (show v = Value.ref a from rv)
    obtain ⟨as, h1, h2⟩ := reads_all ok hK sm e q rr
    refine ⟨a :: as, .list g c dd (by simpa using h1), fun hm => ?_⟩
    rcases List.mem_cons.mp hm with e1 | hm
    · subst e1
      obtain ⟨o', g', c'⟩ := sm
      rw [g] at g'; cases g'
      exact absurd (c.symm.trans c') (by intro z; injection z with z; exact absurd z (by decide))
    · exact h2 hm
  | .dct kvs, p, x, v, e, r, rv => by
    simp only [toPy, Option.map_eq_some_iff] at e
    obtain ⟨ps, e, rfl⟩ := e
    simp only [Rep] at r
    obtain ⟨a, es, rfl, ⟨_, t⟩, hs, _, nd, q⟩ := r
    obtain ⟨o, ea, ep, g, c, dd, el⟩ := DH.at t ok
    cases (show v = Value.ref a from rv)
    obtain ⟨as, bs, h1, h2, h3⟩ := reads_kvs ok hK sm e q
    rw [← el] at h1 h2
    refine ⟨a :: as ++ bs, .dict g c.1 dd h1 h2, fun hm => ?_⟩
    rcases List.mem_append.mp hm with hm | hm
    · rcases List.mem_cons.mp hm with e1 | hm
      · exact absurd e1.symm (beq_eq_false_iff_ne.mp hs)
      · exact h3 (List.mem_append_left _ hm)
    · exact h3 (List.mem_append_right _ hm)
  | .ins _ _, p, x, v, e, r, rv => by simp [toPy] at e
  | .exn _ _, p, x, v, e, r, rv => by simp [toPy] at e
theorem reads_all (ok : HOk P B.w H h) (hK : B.K.In h) (sm : ∃ o, h.get? sysModules = some o ∧ o.cls = .type "dict") : ∀ {ds : List D} {ps : List PyData} {xs : List V} {vs : List Value}, toPys ds = some ps → Reps B Z H ds xs → Vals xs vs → ∃ as, ReadsAll h vs ps as ∧ sysModules ∉ as
  | [], ps, xs, vs, e, r, rv => by
    simp only [toPys, Option.some.injEq] at e; subst e
    simp only [Reps] at r; subst r
    cases rv
    exact ⟨_, .nil, by simp⟩
  | d :: ds, ps, xs, vs, e, r, rv => by
    simp only [toPys] at e
    cases e1 : toPy d with
    | none => rw [e1] at e; simp at e
    | some a =>
      cases e2 : toPys ds with
      | none => rw [e1, e2] at e; simp at e
      | some c =>
        rw [e1, e2] at e
        simp only [Option.some.injEq] at e
        subst e
        simp only [Reps] at r
        obtain ⟨x, xr, rfl, h1, h2⟩ := r
        cases rv with
        | cons ra rb =>
          obtain ⟨as, q1, q2⟩ := reads_of ok hK sm e1 h1 ra
          obtain ⟨bs, q3, q4⟩ := reads_all ok hK sm e2 h2 rb
          exact ⟨as ++ bs, .cons q1 q3, fun hm => (List.mem_append.mp hm).elim q2 q4⟩
theorem reads_kvs (ok : HOk P B.w H h) (hK : B.K.In h) (sm : ∃ o, h.get? sysModules = some o ∧ o.cls = .type "dict") : ∀ {kvs : List (D × D)} {ps : List (PyData × PyData)} {es : List DictEntry}, toPyk kvs = some ps → Repk B Z H kvs es → ∃ as bs, ReadsAll h (es.map (·.key)) (ps.map (·.1)) as ∧ ReadsAll h (es.map (·.val)) (ps.map (·.2)) bs ∧ sysModules ∉ as ++ bs
  | [], ps, es, e, r => by
    simp only [toPyk, Option.some.injEq] at e; subst e
    simp only [Repk] at r; subst r
    exact ⟨_, _, .nil, .nil, by simp⟩
  | (k, d) :: kvs, ps, es, e, r => by
    simp only [toPyk] at e
    cases e0 : toPy k with
    | none => rw [e0] at e; simp at e
    | some k' =>
      cases e1 : toPy d with
      | none => rw [e0, e1] at e; simp at e
      | some a =>
        cases e2 : toPyk kvs with
        | none => rw [e0, e1, e2] at e; simp at e
        | some c =>
          rw [e0, e1, e2] at e
          simp only [Option.some.injEq] at e
          subst e
          simp only [Repk] at r
          obtain ⟨en, er, rfl, ⟨kv, rk, hk⟩, _, ⟨v, rv, hv⟩, h2⟩ := r
          obtain ⟨a1, q1, q2⟩ := reads_of ok hK sm e0 hk rk
          obtain ⟨a2, q3, q4⟩ := reads_of ok hK sm e1 hv rv
          obtain ⟨as, bs, q5, q6, q7⟩ := reads_kvs ok hK sm e2 h2
          refine ⟨a1 ++ as, a2 ++ bs, .cons q1 q5, .cons q3 q6, fun hm => ?_⟩
          rcases List.mem_append.mp hm with hm | hm
          · rcases List.mem_append.mp hm with hm | hm
            · exact q2 hm
            · exact q7 (List.mem_append_left _ hm)
          · rcases List.mem_append.mp hm with hm | hm
            · exact q4 hm
            · exact q7 (List.mem_append_right _ hm)
end
end

section
variable {B : Wd} {X : Cx}
theorem c_repr (g : GX X B) {e : E} : CallR X (.builtin "repr") (fun xs H Q => rOp B .repr [e] xs H Q) := by
  intro pins s σ H xs us Q I rs ⟨Z, os, r, G, l, _, _, hz, hr, q⟩
  obtain ⟨o, x, fp, rfl, rfl, h1⟩ := looksC1 l
  have ok := Inv.hok' g I
  have hK := Inv.kIn' g I
  have hu := g.units
  simp only [opR, oRepr, Option.map_eq_some_iff] at hr
  obtain ⟨t, ht, rfl⟩ := hr
  obtain ⟨u, rfl, ru⟩ := vals1 rs
  unfold reprD at ht
  cases hp : toPy o.view with
  | none => rw [hp] at ht; cases ht
  | some p =>
  rw [hp] at ht
  simp only at ht
  split at ht
  · rename_i hc
    simp only [Bool.and_eq_true, decide_eq_true_eq] at hc
    obtain ⟨⟨c1, c2⟩, c3⟩ := hc
    simp only [Option.some.injEq] at ht
    subst ht
    obtain ⟨so, sg, sc⟩ := g.sm
    obtain ⟨as, rd, far⟩ := reads_of ok hK ⟨so, I.bk _ _ sg, sc⟩ hp h1.read ru
    have done : Q (.str p.shown) H := give (o := .repr) (es := [e]) (us := []) hz rep_str q
    cases rd with
    | none => exact P.repr_of_none ⟨.str _, H, I.tok _, ⟨_, rfl⟩, done⟩
    | bool b => exact P.repr_of_bool ⟨.str _, H, I.tok _, ⟨_, rfl⟩, by cases b <;> exact done⟩
    | int i t => exact P.repr_of_int (by simpa [PyData.showable] using c1) ⟨.str _, H, I.tok _, ⟨_, rfl⟩, done⟩
    | str y t => exact P.repr_of_str ⟨.str _, H, I.tok _, ⟨_, rfl⟩, done⟩ (by simpa only [PyData.shown] using c3)
    | list a1 a2 a3 a4 =>
      refine repr_of_reads' (.list a1 a2 a3 a4) c1 (fun _ => far) g.guards (by omega) (fun _ _ z => z) (fun h' u tk hk => ?_) c3
      exact ⟨.str _, H, I.kept hk, ⟨_, rfl⟩, done⟩
    | tuple a1 a2 a3 a4 =>
      refine repr_of_reads' (.tuple a1 a2 a3 a4) c1 (fun _ => far) g.guards (by omega) (fun _ _ z => z) (fun h' u tk hk => ?_) c3
      exact ⟨.str _, H, I.kept hk, ⟨_, rfl⟩, done⟩
    | dict a1 a2 a3 a4 a5 =>
      refine repr_of_reads' (.dict a1 a2 a3 a4 a5) c1 (fun _ => far) g.guards (by omega) (fun _ _ z => z) (fun h' u tk hk => ?_) c3
      exact ⟨.str _, H, I.kept hk, ⟨_, rfl⟩, done⟩
  · cases ht
theorem c_list (g : GX X B) {e : E} : CallR X (.type "list") (fun xs H Q => ∃ Z os r G, Looks B Z H [e] os xs G ∧ (∀ a, Z a → ∃ u, H a = some u) ∧ (∃ o ds, os = [o] ∧ items o = some ds ∧ r = frL ds) ∧
    ∀ v Z' H' fp, RepO B Z' H' r v fp → Step Z H G Z' H' fp → (∀ a u, H a = some u → H' a = some u) → Q v H') := by
  intro pins s σ H xs us Q I rs ⟨Z, os, r, G, l, hz, ⟨o', ds, e1, hi, hr⟩, q⟩
  obtain ⟨o, x, fp, rfl, rfl, h1⟩ := looksC1 l
  cases e1
  subst hr
  obtain ⟨a, vs, rfl, hq, rs'⟩ := items_at g h1 hi
  refine call_list_of pins s σ H _ us Q I rs ⟨a, vs, rfl, hq, fun p hp => ?_⟩
  exact give_new hz hp (repO_frL hp rs') q
theorem c_tuple (g : GX X B) {e : E} : CallR X (.type "tuple") (fun xs H Q => rOp B .tuple [e] xs H Q) := by
  intro pins s σ H xs us Q I rs ⟨Z, os, r, G, l, _, _, hz, hr, q⟩
  obtain ⟨o, x, fp, rfl, rfl, h1⟩ := looksC1 l
  simp only [opR, oTuple, Option.map_eq_some_iff] at hr
  obtain ⟨ds, hi, rfl⟩ := hr
  have nl : ∀ a vs, x = .ref a → SqL X.K H a vs → Reps B Z H ds vs → wpAny (model X.prog X.w) X.A (call (.type "tuple") us) (EP X pins σ Q) X.xe s := fun a vs ex hq rs' => by
    subst ex
    refine call_tuple_of pins s σ H _ us Q I rs ⟨a, vs, rfl, .inl ⟨hq, fun p hp => ?_⟩⟩
    exact give_newZ hz hp (rep_tupN hp rs') q
  cases o with
  | fr d =>
    simp only [RepO] at h1
    cases d <;> simp [items] at hi
    · subst hi
      have h2 := h1.1
      simp only [Rep] at h2
      obtain ⟨a, vs, rfl, t, rs'⟩ := h2
      refine call_tuple_of pins s σ H _ us Q I rs ⟨a, vs, rfl, .inr ⟨t.sq g.K, ?_⟩⟩
      exact give (o := .tuple) (es := [e]) (us := []) hz h1.1 q
    · subst hi
      have h2 := h1.1
      simp only [Rep] at h2
      obtain ⟨a, vs, ex, t, rs'⟩ := h2
      exact nl a vs ex (t.sq g.K) rs'
  | lst os =>
    obtain ⟨a, vs, ex, hq, rs'⟩ := list_at g h1 hi rfl
    exact nl a vs ex hq rs'
  | dct _ => simp [items] at hi
  | ins _ _ => simp [items] at hi
theorem ints_at {Z : Addr → Prop} {H : Hp} : ∀ {ds : List D} {ns : List Int} {vs : List V}, intsOf ds = some ns → Reps B Z H ds vs → vs = ns.map V.int
  | [], ns, vs, e, r => by
    simp only [intsOf, Option.some.injEq] at e; subst e
    simp only [Reps] at r; subst r; rfl
  | d :: ds, ns, vs, e, r => by
    cases d <;> simp [intsOf] at e
    obtain ⟨ns', e, rfl⟩ := e
    simp only [Reps, Rep] at r
    obtain ⟨x, xr, rfl, rfl, h2⟩ := r
    rw [List.map_cons, ints_at e h2]
theorem bls_at {Z : Addr → Prop} {H : Hp} : ∀ {ds : List D} {ns : List Bool} {vs : List V}, blsOf ds = some ns → Reps B Z H ds vs → vs = ns.map V.bl
  | [], ns, vs, e, r => by
    simp only [blsOf, Option.some.injEq] at e; subst e
    simp only [Reps] at r; subst r; rfl
  | d :: ds, ns, vs, e, r => by
    cases d <;> simp [blsOf] at e
    obtain ⟨ns', e, rfl⟩ := e
    simp only [Reps, Rep] at r
    obtain ⟨x, xr, rfl, rfl, h2⟩ := r
    rw [List.map_cons, bls_at e h2]
end
end Ev
/-! Ev19: truth; what an expression keeps. -/
namespace Ev
open PySem PySem.Spec PyProof.Rows L2

section
variable {B : Wd} {X : Cx} {C : Cfg} {W : WX}
theorem truth_val (g : GX X B) {Z : Addr → Prop} {H : Hp} {pins : List (Addr × Obj)} {σ : L2.St} {s : Shared} (I : Inv X pins σ H s) {o : OV} {x : V} {v : Value} {fp : List Addr} {b : Bool} {Q : Bool → Hp → Prop} (h : RepO B Z H o x fp) (rx : RelV x v) (e : truth o = some b) (q : Q b H) :
    wpAny (model X.prog X.w) X.A (truthy v) (TP X pins σ Q) X.xe s := by
  have hl := line63
  have plain : TruV X.K x H b → wpAny (model X.prog X.w) X.A (truthy v) (TP X pins σ Q) X.xe s := fun t => tru_ok pins s σ H x v Q I rx ⟨b, t, q⟩
  have dict : isDct o = true → wpAny (model X.prog X.w) X.A (truthy v) (TP X pins σ Q) X.xe s := fun hd => by
    obtain ⟨p, ob, ea, ep, kvs, rfl, hv, g1, g2, g3, hs, hlen, nd, rk, ent⟩ := dict_at g I h hd
    cases (show v = Value.ref p from rx)
    have hsz : ea.size = kvs.length := by rw [← Array.length_toList, rk.length]
    have hb : (!ea.isEmpty) = b := by
      have h1 : ea.isEmpty = kvs.isEmpty := by
        have : ea.isEmpty = decide (ea.size = 0) := rfl
        rw [this, hsz]
        cases kvs <;> simp
      rw [h1]
      cases o with
      | fr d =>
        cases d <;> simp [isDct] at hd
        simp only [OV.view, D.dct.injEq] at hv
        subst hv
        simpa [truth] using e
      | dct ks =>
        simp only [OV.view, D.dct.injEq] at hv
        subst hv
        have : (viewsK ks).isEmpty = ks.isEmpty := by cases ks <;> rfl
        rw [this]
        simpa [truth] using e
      | _ => simp [isDct] at hd
    refine truthy_dictK g1 g2 g3 hs (by omega) ?_
    rw [hb]
    exact ⟨H, I.tok _, q⟩
  cases o with
  | fr d =>
    simp only [RepO] at h
    have h0 := h.1
    cases d <;> simp [truth] at e
    · simp only [Rep] at h0; subst h0; subst e; exact plain rfl
    · simp only [Rep] at h0; subst h0; subst e; exact plain rfl
    · simp only [Rep] at h0; subst h0; subst e; exact plain rfl
    · simp only [Rep] at h0; subst h0
      obtain ⟨e1, e⟩ := e
      refine plain ⟨by rw [sizeLine_eq]; omega, ?_⟩
      rw [← e]
      rename_i s0
      show _ = ((s0.length : Int) != 0)
      cases s0.length <;> simp <;> omega
    · simp only [Rep] at h0
      obtain ⟨p, ys, rfl, ht, hs⟩ := h0
      refine plain (.inr (.inl ⟨ys, ht.sq g.K, ?_⟩))
      have := hs.length
      rename_i ds
      cases ys <;> cases ds <;> simp_all
    · simp only [Rep] at h0
      obtain ⟨p, ys, rfl, ht, hs⟩ := h0
      refine plain (.inl ⟨ys, ht.sq g.K, ?_⟩)
      have := hs.length
      rename_i ds
      cases ys <;> cases ds <;> simp_all
    · exact dict rfl
  | lst os =>
    simp only [truth, Option.some.injEq] at e
    simp only [RepO] at h
    obtain ⟨p, ys, fps, rfl, ha, hs, _⟩ := h
    refine plain (.inl ⟨ys, .of ha, ?_⟩)
    rw [← e]
    have := hs.length
    cases ys <;> cases os <;> simp_all
  | dct ks => exact dict rfl
  | ins _ _ => simp [truth] at e

/-! ### tests -/
def PostT (B : Wd) (W : WX) (σ : L2.St) (Z : Addr → Prop) (H : Hp) (F : List Addr) (n : Bool) (env : Env) (Q : Bool → Hp → Prop) : R Bool → Prop
  | .ok b env' => ∀ Z' H' F', EnvR B Z' H' env' σ F' → Step Z H F Z' H' F' → Quiet n env env' F F' H H' → Q b H'
  | .exc x env' => PostX B W σ Z H F x env'
  | .bad => False
def tru (o : OV) (env : Env) : R Bool := match truth o with
  | some b => .ok b env
  | none => .bad
def tT (B : Wd) (C : Cfg) (W : WX) (e : E) (n : Bool) : TT := fun σ H Q => ∃ Z env F, Stt B Z H σ env F ∧ PostT B W σ Z H F n env Q ((pkOr e env (ev C e n env)).bind tru)
def tTe (B : Wd) (C : Cfg) (W : WX) (e : E) (n : Bool) : TT := fun σ H Q => ∃ Z env F, Stt B Z H σ env F ∧ PostT B W σ Z H F n env Q ((ev C e n env).bind tru)
/-- an expression that means e -/
structure OkE (X : Cx) (B : Wd) (C : Cfg) (W : WX) (x : Expr) (e : E) : Prop where
  ve : ∀ n, PE X x (tE B C W e n)
  vp : ∀ n, PE X x (tP B C W e n)
  t : ∀ n, PT X x (tT B C W e n)
  te : ∀ n, PT X x (tTe B C W e n)
/-- a path or a key that means e -/
structure OkP (X : Cx) (B : Wd) (x : Expr) (e : E) : Prop where
  at' : PE X x (tAt B e)
structure OkK (X : Cx) (B : Wd) (x : Expr) (e : E) : Prop where
  key : PE X x (tKey B e)
abbrev PlainT (x : Expr) (X : Cx) : Prop := ∀ whole, isTrue x X.env whole = (do let v ← whole; standAt x.pos; holding [v] (truthy v))
/-- what was owned is left -/
theorem Step.left {Z Z' : Addr → Prop} {H H' : Hp} {F G G' : List Addr} (t : Step Z H F Z' H' (G' ++ G)) : Step Z H F Z' H' G := t.drop
theorem te_plain (g : GX X B) {x : Expr} {e : E} {n : Bool} (he : PE X x (tE B C W e n)) (hp : PlainT x X) : PT X x (tTe B C W e n) := by
  refine ⟨fun pins s σ H Q I ⟨Z, env, F, st, q⟩ => ?_⟩
  refine isTrue_plain ?_ (hp _)
  cases h1 : ev C e n env with
  | bad => rw [h1] at q; exact q.elim
  | exc x' env' =>
    rw [h1] at q
    exact thn (he.run pins s σ H (fun _ _ => False) I ⟨Z, env, F, st, by rw [h1]; exact q⟩) fun u s1 ⟨_, _, _, _, z⟩ => z.elim
  | ok o env1 =>
    rw [h1] at q
    simp only [R.bind, tru] at q
    cases h2 : truth o with
    | none => rw [h2] at q; exact q.elim
    | some b =>
      rw [h2] at q
      refine thn (he.run pins s σ H (fun v H1 => (∃ Z1 fp, RepO B Z1 H1 o v fp) ∧ Q b H1) I ⟨Z, env, F, st, ?_⟩) fun u s1 ⟨v, H1, I1, rv, ⟨Z1, fp, r1⟩, q1⟩ => truth_val g I1 r1 rv h2 q1
      rw [h1]
      intro v Z1 H1 F1 fp r1 e1 t1 k1
      exact ⟨⟨Z1, fp, r1⟩, q Z1 H1 F1 e1 t1.drop k1⟩
theorem t_plain (g : GX X B) {x : Expr} {e : E} {n : Bool} (he : PE X x (tP B C W e n)) (hp : PlainT x X) : PT X x (tT B C W e n) := by
  refine ⟨fun pins s σ H Q I ⟨Z, env, F, st, q⟩ => ?_⟩
  refine isTrue_plain ?_ (hp _)
  cases h1 : pkOr e env (ev C e n env) with
  | bad => rw [h1] at q; exact q.elim
  | exc x' env' =>
    rw [h1] at q
    exact thn (he.run pins s σ H (fun _ _ => False) I ⟨Z, env, F, st, by rw [h1]; exact q⟩) fun u s1 ⟨_, _, _, _, z⟩ => z.elim
  | ok o env1 =>
    rw [h1] at q
    simp only [R.bind, tru] at q
    cases h2 : truth o with
    | none => rw [h2] at q; exact q.elim
    | some b =>
      rw [h2] at q
      refine thn (he.run pins s σ H (fun v H1 => (∃ Z1 fp, RepO B Z1 H1 o v fp) ∧ Q b H1) I ⟨Z, env, F, st, ?_⟩) fun u s1 ⟨v, H1, I1, rv, ⟨Z1, fp, r1⟩, q1⟩ => truth_val g I1 r1 rv h2 q1
      rw [h1]
      intro v Z1 H1 F1 fp G r1 hG e1 t1 k1
      exact ⟨⟨Z1, fp, r1⟩, q Z1 H1 F1 e1 t1.drop k1⟩
/-- a plain form, no path -/
theorem OkE.plain (g : GX X B) {x : Expr} {e : E} (hn : isPath e = false) (he : ∀ n, PE X x (tE B C W e n)) (hp : PlainT x X) : OkE X B C W x e where
  ve := he
  vp := fun n => p_of (he n) fun z => by rw [hn] at z; cases z
  t := fun n => t_plain g (p_of (he n) fun z => by rw [hn] at z; cases z) hp
  te := fun n => te_plain g (he n) hp
/-- a plain form, a path -/
theorem OkE.path (g : GX X B) {x : Expr} {e : E} (hn : isPath e = true) (he : ∀ n, PE X x (tE B C W e n)) (ha : PE X x (tAt B e)) (hp : PlainT x X) : OkE X B C W x e where
  ve := he
  vp := fun n => p_path (he n) ha hn
  t := fun n => t_plain g (p_path (he n) ha hn) hp
  te := fun n => te_plain g (he n) hp
/-- from the value reading for forms that are no path: both readings are one -/
theorem tT_te {e : E} {n : Bool} (hn : isPath e = false) : tT B C W e n = tTe B C W e n := by
  funext σ H Q
  unfold tT tTe pkOr
  rw [hn]
  simp
end
end Ev
/-! Ev20: names, constants, fields, items. -/
namespace Ev
open PySem PySem.Spec PyProof.Rows L2

section
variable {B : Wd} {X : Cx} {C : Cfg} {W : WX}
/-! ### constants and names -/
theorem ok_cst (g : GX X B) {d : D} {x : Expr} {v : V} (he : PE X x (tC v)) (hr : ∀ (Z : Addr → Prop) (H : Hp), Rep B Z H d v) (hp : PlainT x X) : OkE X B C W x (.cst d) :=
  OkE.plain g rfl (fun n => PE.imp he fun σ H Q ⟨Z, env, F, st, q⟩ => by
    simp only [ev] at q
    exact q v Z H F [] (by simp only [RepO]; exact ⟨hr Z H, trivial⟩) st.env st.refl .refl) hp
theorem ok_glo (g : GX X B) {d : D} {x : Expr} {y : String} {v : V} (he : PE X x (tC v)) (hr : ∀ (Z : Addr → Prop) (H : Hp), Rep B Z H d v) (hp : PlainT x X) : OkE X B C W x (.glo y d) :=
  OkE.plain g rfl (fun n => PE.imp he fun σ H Q ⟨Z, env, F, st, q⟩ => by
    simp only [ev] at q
    exact q v Z H F [] (by simp only [RepO]; exact ⟨hr Z H, trivial⟩) st.env st.refl .refl) hp
theorem ok_var (g : GX X B) {i : Nat} {x : Expr} (ha : PE X x (tAt B (.var i))) (hp : PlainT x X) : OkE X B C W x (.var i) :=
  OkE.path g rfl (fun n => e_var ha) ha hp
/-- a name's value, taken out -/
theorem e_mv {i : Nat} {n : Bool} {x : Expr} (ha : PE X x (tVar i)) : PE X x (tE B C W (.mv i) n) := by
  refine PE.imp ha fun σ H Q ⟨Z, env, F, st, q⟩ => ?_
  simp only [ev] at q
  split at q
  · exact q.elim
  · rename_i hn
    have hn' : n = false := by
      cases n with
      | false => rfl
      | true => simp at hn
    subst hn'
    cases hp : env.at i with
    | none => rw [hp] at q; exact q.elim
    | some o =>
      rw [hp] at q
      obtain ⟨v, fp, rest, hv, hr, hpm, hset, hdel⟩ := st.env.at hp
      obtain ⟨F', e1, e2⟩ := hdel Z H (.of (fun _ h => h) (fun _ _ _ h => h) (fun _ _ h => h)) (fun _ _ _ h => h)
      exact ⟨v, hv, q v Z H F' fp hr e1 (st.refl.perm (hpm.trans (e2.symm.append_left fp))) fun z => (Bool.false_ne_true z).elim⟩
theorem ok_mv (g : GX X B) {i : Nat} {x : Expr} (ha : PE X x (tVar i)) (hp : PlainT x X) : OkE X B C W x (.mv i) := OkE.plain g rfl (fun n => e_mv ha) hp

/-! ### what a function of looked-at values gives -/
def rF (B : Wd) (f : List OV → Option OV) (es : List E) : List V → Hp → VK → Prop := fun us H Q => ∃ Z os r G, Looks B Z H es os us G ∧ G.Nodup ∧ (∀ a ∈ G, ¬ Z a) ∧ (∀ a, Z a → ∃ u, H a = some u) ∧ f os = some r ∧
  ∀ v Z' H' fp, RepO B Z' H' r v fp → Step Z H G Z' H' fp → (∀ a u, H a = some u → H' a = some u) → Q v H'
theorem rF_of {f : List OV → Option OV} {es : List E} {n : Bool} {σ : L2.St} {Z : Addr → Prop} {H : Hp} {F : List Addr} {env : Env} {Q : VK} (st : Stt B Z H σ env F)
    (q : PostE B W σ Z H F n env Q ((evps C es n env).bind fun vs env1 => R.of (f vs) env1)) : PostPs B W σ Z H F n env es (fun us H' => rF B f es us H' Q) (evps C es n env) := by
  cases h : evps C es n env with
  | bad => rw [h] at q; exact q
  | exc x env' => rw [h] at q; exact q
  | ok os env1 =>
    rw [h] at q
    simp only [R.bind] at q
    intro vs Z1 H1 F1 G l e1 t1 k1
    cases hr : f os with
    | none => rw [hr] at q; exact q.elim
    | some r =>
      rw [hr] at q
      have hnd := List.nodup_append.mp t1.nd
      refine ⟨Z1, os, r, G, l, hnd.1, fun a ha => t1.dz a (List.mem_append_left _ ha), t1.trk, hr, fun v Z2 H2 fp hv u ext => ?_⟩
      have trk : ∀ a ∈ F1, ∃ u, H1 a = some u := fun a ha => by
        have := e1.mutb a ha
        cases e : H1 a with
        | none => rw [e] at this; exact this.elim
        | some u => exact ⟨u, rfl⟩
      have trG := l.trk
      have gr : Gr Z1 Z2 H1 H2 := .of u.sub (fun a o _ h => ext a o h) fun a xs h => ext a _ h
      exact q v Z2 H2 F1 fp hv (e1.mono gr fun a _ o h => ext a o h) (t1.more trk trG u) (k1.trans fun _ => ⟨rfl, rfl, ext⟩)
theorem pk_none {env : Env} : ∀ {e : E}, isPath e = false → pk env e = none
  | .var _, h => by cases h
  | .item b k, h => by
    simp only [isPath] at h
    simp only [pk, pk_none h]
  | .attr b f, h => by
    simp only [isPath] at h
    simp only [pk, pk_none h]
  | .mv _, _ => rfl
  | .cst _, _ => rfl
  | .glo _ _, _ => rfl
  | .op _ _, _ => rfl
  | .star _, _ => rfl
  | .and _ _, _ => rfl
  | .or _ _, _ => rfl
  | .not _, _ => rfl
  | .ifx _ _ _, _ => rfl
  | .chain _ _ _ _ _, _ => rfl
  | .isc _ _, _ => rfl
  | .call _ _, _ => rfl
  | .callk _ _ _, _ => rfl
  | .meth _ _ _, _ => rfl
  | .comp _ _ _ _ _, _ => rfl
  | .comp2 _ _ _ _ _ _ _ _ _, _ => rfl
  | .mut _ _ _, _ => rfl
  | .thunk _ _, _ => rfl
theorem evps2 {b k : E} {n : Bool} {env : Env} : evps C [b, k] n env = ((if simple k then pkOr b env (ev C b n env) else ev C b n env).bind fun o env1 => (pkOr k env1 (ev C k (n || (isPath b && owned o)) env1)).bind fun d env2 => .ok [o, d] env2) := by
  simp only [evps, simples, Bool.and_true]
  cases (if simple k = true then pkOr b env (ev C b n env) else ev C b n env) with
  | bad => rfl
  | exc x e => rfl
  | ok o env1 =>
    simp only [R.bind, if_true]
    cases pkOr k env1 (ev C k (n || isPath b && owned o) env1) with
    | bad => rfl
    | exc x e => rfl
    | ok d env2 => rfl
/-- o[d] that gives something shared -/
def itemF : List OV → Option OV
  | [o, .fr d] => match child o d with
    | some (.fr v) => some (.fr v)
    | _ => none
  | _ => none
theorem ev_item {b k : E} {n : Bool} {env : Env} (h : pk env (.item b k) = none) : ev C (.item b k) n env = (evps C [b, k] n env).bind fun vs env1 => R.of (itemF vs) env1 := by
  rw [evps2]
  rw [ev.eq_def]
  simp only [h]
  congr 1
  funext vs env2
  unfold itemF
  split <;> simp [R.of]
  · split <;> simp [*]
end
end Ev
/-! Ev21: items and fields. -/
namespace Ev
open PySem PySem.Spec PyProof.Rows L2

section
variable {B : Wd} {Z : Addr → Prop} {H : Hp}
theorem Repf.get : ∀ {fs : List (String × D)} {xs : List (Str × V)} {f : String} {d : D}, Repf B Z H fs xs → fget f fs = some d → ∃ v, xs.lookup (Str.ofString f) = some v ∧ Rep B Z H d v
  | [], xs, f, d, r, e => by simp [fget] at e
  | (f', d') :: fs, xs, f, d, r, e => by
    simp only [Repf] at r
    obtain ⟨x, xr, rfl, h1, h2⟩ := r
    simp only [fget] at e
    by_cases hf : f' = f
    · rw [if_pos hf] at e
      cases e
      subst hf
      exact ⟨x, by simp [List.lookup], h1⟩
    · rw [if_neg hf] at e
      obtain ⟨v, h3, h4⟩ := Repf.get h2 e
      refine ⟨v, ?_, h4⟩
      have : (Str.ofString f == Str.ofString f') = false := by
        rw [beq_eq_false_iff_ne]
        intro z
        exact hf (ofString_inj z).symm
      simp only [List.lookup, this, h3]
theorem RepOf.keys : ∀ {fs : List (String × OV)} {xs : List (Str × V)} {fp : List Addr}, RepOf B Z H fs xs fp → xs.length = fs.length
  | [], xs, fp, r => by simp only [RepOf] at r; rw [r.1]; rfl
  | (f, o) :: fs, xs, fp, r => by
    simp only [RepOf] at r
    obtain ⟨x, xr, fp1, fp2, rfl, h1, h2, rfl⟩ := r
    simp [RepOf.keys h2]
end

section
variable {B : Wd} {X : Cx} {C : Cfg} {W : WX}
theorem fld_val (g : GX X B) {Z : Addr → Prop} {H : Hp} {o c : OV} {f : String} {x : V} {fp : List Addr} (hr : RepO B Z H o x fp) (hfl : fld o f = some c) (hf : f ∈ B.flds)
    {pins : List (Addr × Obj)} {s : Shared} {σ : L2.St} {v : Value} {Q : VK} (I : Inv X pins σ H s) (rx : RelV x v) (h : ∀ vc, Kid B Z H (setFld o f) o x fp c vc → Q vc H) :
    wpAny (model X.prog X.w) X.A (getAttr v (Str.ofString f) true) (EP X pins σ Q) X.xe s := by
  have ok := Inv.hok' g I
  have hK := Inv.kIn' g I
  cases o with
  | fr d =>
    simp only [RepO] at hr
    obtain ⟨hr, hfp⟩ := hr
    subst hfp
    cases d <;> simp only [fld, Option.map_eq_some_iff, reduceCtorEq] at hfl
    · obtain ⟨d', hd, rfl⟩ := hfl
      simp only [Rep] at hr
      obtain ⟨a, Cl, dx, xs, rfl, ⟨hc1, hc2⟩, hz, ha, hrf⟩ := hr
      cases (show v = Value.ref a from rx)
      obtain ⟨vc, hl, hrc⟩ := hrf.get hd
      obtain ⟨c1, c2, _⟩ := g.obj _ _ hc1 hc2
      rw [← g.K] at c1 c2
      refine getattr_ok I ha c1 (c2 f hf) hl fun u s' I' ru => ⟨vc, H, I', ru, h vc (Kid.fr hrc fun c' => rfl)⟩
    · obtain ⟨d', hd, rfl⟩ := hfl
      simp only [Rep] at hr
      obtain ⟨a, Cl, xs, rfl, ⟨hc1, hc2⟩, hz, ⟨dd, hH, hx⟩, hrf⟩ := hr
      cases (show v = Value.ref a from rx)
      obtain ⟨vc, hl, hrc⟩ := hrf.get hd
      obtain ⟨c1, c2, _⟩ := g.exo _ _ hc1 hc2
      rcases hx with ⟨_, e⟩ | ⟨dx, rfl, hdx⟩
      · subst e; cases hl
      · obtain ⟨⟨oe, vs, ho, hcls, hdict, hdat, _⟩, _⟩ := (show ObjOk X.prog X.w H s.heap a _ from I.hok a _ hH)
        obtain ⟨mA, hns, hrr⟩ := (show ObjOk X.prog X.w H s.heap dx (.xd xs) from I.hok dx _ hdx)
        obtain ⟨od, ho2, hl2⟩ := lookIn_ns hns
        obtain ⟨u, hu, ru⟩ := RelO.some_of (v := vc) (o := mA (Str.ofString f)) (by rw [← hl]; exact hrr _)
        have J : PySem.W.InstAt s.heap a oe Cl (some od) := ⟨ho, hcls, by unfold PySem.W.notCls; rw [hdat] <;> rfl, by rw [hdict]; exact ho2⟩
        have T : XfC X.K Cl := by rw [g.K]; exact c1
        have hno : PySem.W.findIn X.K (.ref Cl) (Str.ofString f) = some none := by rw [g.K]; exact c2 f hf
        exact HandSPX.exc_get I.kIn J T.ga T.gg T.exC (PySem.W.findObj_own T.hdC hno rfl (by rw [hl2, hu])) (handed_of ru) ⟨vc, H, I.tok _, ru, h vc (Kid.fr hrc fun c' => rfl)⟩
  | ins cn fs =>
    simp only [fld] at hfl
    simp only [RepO] at hr
    obtain ⟨a, Cl, dx, xs, fps, rfl, ⟨hc1, hc2⟩, ha, hrf, rfl⟩ := hr
    cases (show v = Value.ref a from rx)
    obtain ⟨vc, fpc, rest, hl, hrc, hp, hset⟩ := hrf.split hfl
    obtain ⟨c1, c2, _⟩ := g.obj _ _ hc1 hc2
    rw [← g.K] at c1 c2
    refine getattr_ok I ha c1 (c2 f hf) hl fun u s' I' ru => ⟨vc, H, I', ru, h vc ⟨fpc, a :: rest, hrc, (hp.cons a).trans List.perm_middle.symm, ?_⟩⟩
    intro Z' H' c' o' fpc' gg kp hc' ho'
    unfold setFld at ho'
    simp only at ho'
    split at ho'
    · simp only [Option.some.injEq] at ho'
      subst ho'
      obtain ⟨fp', q1, q2⟩ := hset Z' H' c' fpc' gg (fun b hb => kp b (List.mem_cons_of_mem _ hb)) hc'
      refine ⟨a :: fp', ?_, (q2.cons a).trans List.perm_middle.symm⟩
      simp only [RepO]
      exact ⟨a, Cl, dx, xs, fp', rfl, ⟨hc1, hc2⟩, kp a List.mem_cons_self _ ha, q1, rfl⟩
    · cases ho'
  | _ => simp [fld] at hfl
theorem spot_attr {Z : Addr → Prop} {H : Hp} {σ : L2.St} {env : Env} {F : List Addr} {b : E} {f : String} {o c : OV} {v vc : V} {fp rest : List Addr} (hpk : pk env b = some o) (hch : fld o f = some c)
    (hr : RepO B Z H o v fp) (hp : F.Perm (fp ++ rest))
    (hb : ∀ (Z' : Addr → Prop) (H' : Hp) (o' : OV) (fp' : List Addr) (env' : Env), Gr Z Z' H H' → Kept rest H H' → RepO B Z' H' o' v fp' → pput env o' b = some env' → ∃ F', EnvR B Z' H' env' σ F' ∧ F'.Perm (fp' ++ rest))
    (kid : Kid B Z H (setFld o f) o v fp c vc) : Spot B Z H σ env F (.attr b f) c vc := by
  obtain ⟨fpc, rc, h1, h2, h3⟩ := kid
  refine ⟨fpc, rc ++ rest, h1, ?_, fun Z' H' c' fpc' env' g kp r ep => ?_⟩
  · rw [← List.append_assoc]
    exact hp.trans (h2.append_right rest)
  · simp only [pput, hpk, hch] at ep
    cases hs : setFld o f c' with
    | none => rw [hs] at ep; cases ep
    | some o' =>
      rw [hs] at ep
      obtain ⟨fp', q1, q2⟩ := h3 Z' H' c' o' fpc' g kp.l r hs
      obtain ⟨F', q3, q4⟩ := hb Z' H' o' fp' env' g kp.r q1 ep
      refine ⟨F', q3, ?_⟩
      rw [← List.append_assoc]
      exact q4.trans (q2.append_right rest)
theorem at_attr (g : GX X B) {b : E} {b' : Expr} {f : String} {pos : Pos} (hb : PE X b' (tAt B b)) (hf : f ∈ B.flds) (hs : attributeBase b' (Str.ofString f) X.env (eval b' X.env) = eval b' X.env) : PE X (.Attribute b' (Str.ofString f) pos) (tAt B (.attr b f)) := by
  refine ⟨fun pins s σ H Q I ⟨Z, env, F, c, st, hp, q⟩ => ?_⟩
  simp only [pk] at hp
  cases h1 : pk env b with
  | none => rw [h1] at hp; simp at hp
  | some o =>
    rw [h1] at hp
    refine attr_of hs (thn (hb.run pins s σ H (fun v H1 => H1 = H ∧ Spot B Z H σ env F b o v) I ⟨Z, env, F, o, st, h1, fun v sp => ⟨rfl, sp⟩⟩) fun u1 s1 ⟨v, H1, I1, r1, e1, fp, rest, hr, hpm, hset⟩ => ?_)
    subst e1
    exact fld_val g hr hp hf I1 r1 fun vc kid => q vc (spot_attr h1 hp hr hpm hset kid)
/-- o.f that gives something shared -/
def attrF (f : String) : List OV → Option OV
  | [o] => match fld o f with
    | some (.fr v) => some (.fr v)
    | _ => none
  | _ => none
theorem ev_attr {b : E} {f : String} {n : Bool} {env : Env} (h : pk env (.attr b f) = none) : ev C (.attr b f) n env = (evps C [b] n env).bind fun vs env1 => R.of (attrF f vs) env1 := by
  have e1 : evps C [b] n env = (pkOr b env (ev C b n env)).bind fun o env1 => .ok [o] env1 := by
    simp only [evps, simples, if_true]
    cases pkOr b env (ev C b n env) with
    | bad => rfl
    | exc x e => rfl
    | ok o env1 => rfl
  rw [e1, ev.eq_def]
  simp only [h]
  cases pkOr b env (ev C b n env) with
  | bad => rfl
  | exc x e => rfl
  | ok o env1 =>
    simp only [R.bind, attrF]
    split <;> simp [*, R.of]
theorem Looks.one {Z : Addr → Prop} {H : Hp} {e : E} {os : List OV} {x : V} {G : List Addr} (l : Looks B Z H [e] os [x] G) : ∃ o fp, os = [o] ∧ RepO B Z H o x fp := by
  obtain ⟨o, fp, h1, h2, _⟩ := looks1 l
  exact ⟨o, fp, h1, h2⟩
theorem e_attr (g : GX X B) {b : E} {b' : Expr} {f : String} {pos : Pos} {n : Bool} (hb : OkE X B C W b' b) (hat : isPath b = true → PE X b' (tAt B b)) (hf : f ∈ B.flds) (hs : attributeBase b' (Str.ofString f) X.env (eval b' X.env) = eval b' X.env) :
    PE X (.Attribute b' (Str.ofString f) pos) (tE B C W (.attr b f) n) := by
  refine ⟨fun pins s σ H Q I ⟨Z, env, F, st, q⟩ => ?_⟩
  cases hp : pk env (.attr b f) with
  | some o =>
    have hpath : isPath b = true := by
      cases h : isPath b with
      | true => rfl
      | false => rw [pk_none (show isPath (.attr b f) = false from h)] at hp; cases hp
    have e1 : ev C (.attr b f) n env = share n env (.attr b f) := by
      rw [ev.eq_def]
      simp only [hp]
    rw [e1] at q
    exact (at_attr g (hat hpath) hf hs).run pins s σ H Q I ⟨Z, env, F, o, st, hp, fun v sp => share_ok st hp sp q⟩
  | none =>
    rw [ev_attr hp] at q
    have q1 := rF_of st q
    refine attr_of hs (thn (ps_first (es := []) (hb.ve n) (hb.vp n) I ⟨Z, env, F, st, q1⟩) fun u s1 ⟨v, H1, m, I1, rv, q2⟩ => ?_)
    obtain ⟨Z1, os, r, G, l, _, _, hz, hr, q3⟩ := ps_end q2
    obtain ⟨o, fp, rfl, h1⟩ := l.one
    unfold attrF at hr
    simp only at hr
    split at hr
    · rename_i d hfl
      simp only [Option.some.injEq] at hr
      subst hr
      refine fld_val g h1 hfl hf I1 rv fun vc kid => ?_
      obtain ⟨fpc, rest, hc, _, _⟩ := kid
      simp only [RepO] at hc
      exact give (o := .isN) (es := []) (us := []) hz hc.1 q3
    · cases hr
theorem ok_attr (g : GX X B) {b : E} {b' : Expr} {f : String} {pos : Pos} (hb : OkE X B C W b' b) (hat : isPath b = true → PE X b' (tAt B b)) (hf : f ∈ B.flds) (hs : attributeBase b' (Str.ofString f) X.env (eval b' X.env) = eval b' X.env) :
    OkE X B C W (.Attribute b' (Str.ofString f) pos) (.attr b f) := by
  cases h : isPath b with
  | true => exact OkE.path g h (fun n => e_attr g hb hat hf hs) (at_attr g (hat h) hf hs) (fun _ => rfl)
  | false => exact OkE.plain g h (fun n => e_attr g hb hat hf hs) (fun _ => rfl)
/-! ### items -/
theorem e_item (g : GX X B) {b k : E} {b' k' : Expr} {pos : Pos} {n : Bool} (hb : OkE X B C W b' b) (hk : OkE X B C W k' k) (hat : isPath b = true → PE X b' (tAt B b)) (hkey : (∃ env d, keyOf env k = some d) → PE X k' (tKey B k)) (hs : PlainIx k') :
    PE X (.Subscript b' k' pos) (tE B C W (.item b k) n) := by
  refine ⟨fun pins s σ H Q I ⟨Z, env, F, st, q⟩ => ?_⟩
  cases hp : pk env (.item b k) with
  | some o =>
    have hpath : isPath b = true := by
      cases h : isPath b with
      | true => rfl
      | false => rw [pk_none (show isPath (.item b k) = false from h)] at hp; cases hp
    have hkk : ∃ env d, keyOf env k = some d := by
      simp only [pk] at hp
      cases h1 : keyOf env k with
      | some d => exact ⟨env, d, h1⟩
      | none => rw [h1] at hp; cases pk env b <;> simp at hp
    have e1 : ev C (.item b k) n env = share n env (.item b k) := by
      rw [ev.eq_def]
      simp only [hp]
    rw [e1] at q
    exact (at_item g (hat hpath) (hkey hkk) hs).run pins s σ H Q I ⟨Z, env, F, o, st, hp, fun v sp => share_ok st hp sp q⟩
  | none =>
    rw [ev_item hp] at q
    have q1 := rF_of st q
    refine Subscript_ (thn (two_ops (hb.ve n) (hb.vp n) (fun m => hk.ve m) (fun m => hk.vp m) I ⟨Z, env, F, st, q1⟩) fun u1 s1 h1 => thn h1 fun u2 s2 ⟨v, v', H2, I2, rv, rv', Z1, os, r, G, l, _, _, hz, hr, q3⟩ => ?_)
    obtain ⟨o1, o2, f1, f2, rfl, h1, h2⟩ := looks2 l
    unfold itemF at hr
    split at hr
    · rename_i o d e0
      cases e0
      split at hr
      · rename_i w hch
        simp only [Option.some.injEq] at hr
        subst hr
        simp only [RepO] at h2
        refine item_val g h1 h2.1 hch I2 rv rv' (fun vc kid => ?_) (hs _ _)
        obtain ⟨fpc, rest, hc, _, _⟩ := kid
        simp only [RepO] at hc
        exact give (o := .isN) (es := []) (us := []) hz hc.1 q3
      · cases hr
    · cases hr
theorem ok_item (g : GX X B) {b k : E} {b' k' : Expr} {pos : Pos} (hb : OkE X B C W b' b) (hk : OkE X B C W k' k) (hat : isPath b = true → PE X b' (tAt B b)) (hkey : (∃ env d, keyOf env k = some d) → PE X k' (tKey B k)) (hs : PlainIx k')
    (hat2 : isPath b = true → PE X (.Subscript b' k' pos) (tAt B (.item b k))) :
    OkE X B C W (.Subscript b' k' pos) (.item b k) := by
  cases h : isPath b with
  | true => exact OkE.path g h (fun n => e_item g hb hk hat hkey hs) (hat2 h) (fun _ => rfl)
  | false => exact OkE.plain g h (fun n => e_item g hb hk hat hkey hs) (fun _ => rfl)
end
end Ev
/-! Ev22: operators, calls of builtins, and, or, not, if. -/
namespace Ev
open PySem PySem.Spec PyProof.Rows L2

/-- no star ahead of it -/
def NoStar (x : Expr) : Prop := ∀ (xs : List Expr) (env : PySem.Env), starEach (x :: xs) env = (false, eval x env) :: starEach xs env
inductive NoStars : List Expr → Prop
  | nil : NoStars []
  | cons {x : Expr} {xs : List Expr} : NoStar x → NoStars xs → NoStars (x :: xs)
theorem NoStars.plain {pos : Pos} {env : PySem.Env} : ∀ {xs : List Expr}, NoStars xs → (backTo pos (starEach xs env)).any (·.1) = false
  | [], _ => rfl
  | x :: xs, h => by
    cases h with
    | cons h1 h2 =>
      rw [h1 xs env]
      show (false || (backTo pos (starEach xs env)).any (·.1)) = false
      rw [Bool.false_or]
      exact h2.plain

section
variable {B : Wd} {X : Cx} {C : Cfg} {W : WX}
/-- an expression, no star, that means e -/
structure OkA (X : Cx) (B : Wd) (C : Cfg) (W : WX) (xs : List Expr) (es : List E) : Prop where
  ps : ∀ n, PA X xs (tPs B C W es n)
  vs : ∀ n, PA X xs (tVs B C W es n)
  ns : NoStars xs
theorem OkA.nil : OkA X B C W [] [] := ⟨fun n => ps_nil, fun n => vs_nil, .nil⟩
theorem OkA.cons {x : Expr} {xs : List Expr} {e : E} {es : List E} (h : OkE X B C W x e) (hn : NoStar x) (hs : OkA X B C W xs es) : OkA X B C W (x :: xs) (e :: es) :=
  ⟨fun n => ps_cons (h.ve n) (h.vp n) hs.ps (hn xs X.env), fun n => vs_cons (h.ve n) (hs.vs n) (hn xs X.env), .cons hn hs.ns⟩

theorem OkE.both {x : Expr} {e : E} (hn : isPath e = false) (he : ∀ n, PE X x (tE B C W e n)) (ht : ∀ n, PT X x (tTe B C W e n)) : OkE X B C W x e where
  ve := he
  vp := fun n => p_of (he n) fun z => by rw [hn] at z; cases z
  t := fun n => by rw [tT_te hn]; exact ht n
  te := ht
abbrev EvOp (C : Cfg) (o : Op) (es : List E) : Prop := ∀ n env, ev C (.op o es) n env = (evps C es n env).bind fun vs env1 => R.of (opR o vs) env1
theorem ok_bin (g : GX X B) {op : Operator} {o : Op} {a b : E} {a' b' : Expr} {pos : Pos} (ho : OpR X (binaryOp op) (fun x y H Q => rOp B o [a, b] [x, y] H Q)) (ha : OkE X B C W a' a) (hb : OkE X B C W b' b) (hev : EvOp C o [a, b]) : OkE X B C W (.BinOp a' op b' pos) (.op o [a, b]) :=
  OkE.plain g rfl (fun n => ⟨fun pins s σ H Q I ⟨Z, env, F, st, q⟩ => by
    rw [hev] at q
    exact wpAny_BinOp (thn (two_ops (ha.ve n) (ha.vp n) hb.ve hb.vp I ⟨Z, env, F, st, rOp_of st q⟩) fun u1 s1 h1 => thn h1 fun u2 s2 ⟨v, v', H2, I2, rv, rv', q2⟩ => ho pins s2 σ H2 v v' u1 u2 Q I2 rv rv' q2)⟩) (fun _ => rfl)
theorem ok_un (g : GX X B) {op : UnaryOp} {o : Op} {a : E} {a' : Expr} {pos : Pos} (ho : UnR X (unaryOp op) (fun x H Q => rOp B o [a] [x] H Q)) (ha : OkE X B C W a' a) (hev : EvOp C o [a]) (hp : PlainT (.UnaryOp op a' pos) X) : OkE X B C W (.UnaryOp op a' pos) (.op o [a]) :=
  OkE.plain g rfl (fun n => ⟨fun pins s σ H Q I ⟨Z, env, F, st, q⟩ => by
    rw [hev] at q
    exact UnaryOp_ (thn (ps_first (es := []) (ha.ve n) (ha.vp n) I ⟨Z, env, F, st, rOp_of st q⟩) fun u s1 ⟨v, H1, m, I1, rv, q2⟩ => ho pins s1 σ H1 v u Q I1 rv (ps_end q2))⟩) hp
theorem ok_callB (g : GX X B) {o : Op} {es : List E} {e' : Expr} {es' : List Expr} {x : Str} {id : String} {p pos : Pos} (hc : CallR X (.builtin id) (fun xs H Q => rOp B o es xs H Q)) (hgl : Gl X x) (hm : X.mg x = none) (hv : bootBuiltins x = some (.builtin id)) (ha : OkA X B C W (e' :: es') es)
    (hn : x ≠ "__name__") (hdb : (x == ("__debug__" : Str)) = false) (hev : EvOp C o es) : OkE X B C W (.Call (.Name x p) (e' :: es') [] pos) (.op o es) :=
  OkE.plain g rfl (fun n => by
    have hst : starEach (e' :: es') X.env = (false, eval e' X.env) :: starEach es' X.env := by
      cases ha.ns with
      | cons h1 h2 => exact h1 es' X.env
    have hpl : (backTo pos (starEach es' X.env)).any (·.1) = false := by
      cases ha.ns with
      | cons h1 h2 => exact h2.plain
    refine PE.imp (pe_callB hc hgl hm hv (ha.ps n) hn hdb hst hpl) fun σ H Q ⟨Z, env, F, st, q⟩ => ?_
    rw [hev] at q
    exact ⟨Z, env, F, st, rOp_of st q⟩) (fun _ => rfl)
theorem ok_callTy (g : GX X B) {o : Op} {es : List E} {e' : Expr} {es' : List Expr} {x : Str} {id : String} {p pos : Pos} (hc : CallR X (.type id) (fun xs H Q => rOp B o es xs H Q)) (hgl : Gl X x) (hm : X.mg x = none) (hv : bootBuiltins x = some (.type id)) (ha : OkA X B C W (e' :: es') es)
    (hn : x ≠ "__name__") (hdb : (x == ("__debug__" : Str)) = false) (hev : EvOp C o es) : OkE X B C W (.Call (.Name x p) (e' :: es') [] pos) (.op o es) :=
  OkE.plain g rfl (fun n => by
    have hst : starEach (e' :: es') X.env = (false, eval e' X.env) :: starEach es' X.env := by
      cases ha.ns with
      | cons h1 h2 => exact h1 es' X.env
    have hpl : (backTo pos (starEach es' X.env)).any (·.1) = false := by
      cases ha.ns with
      | cons h1 h2 => exact h2.plain
    refine PE.imp (pe_callTy hc hgl hm hv (ha.ps n) hn hdb hst hpl) fun σ H Q ⟨Z, env, F, st, q⟩ => ?_
    rw [hev] at q
    exact ⟨Z, env, F, st, rOp_of st q⟩) (fun _ => rfl)
/-! ### comparisons: values and tests -/
def isCmp : Op → Bool
  | .eq => true | .ne => true | .lt => true | .le => true | .gt => true | .ge => true | .isin => true | .notin => true | .isN => true | .notN => true
  | _ => false
theorem cmp_bl {o : Op} (h : isCmp o = true) {os : List OV} {r : OV} (e : opR o os = some r) : ∃ b, r = .fr (.bl b) := by
  cases o <;> simp [isCmp] at h <;> simp only [opR] at e
  · unfold oEq at e
    split at e
    · simp only [Option.map_eq_some_iff] at e; obtain ⟨k, _, rfl⟩ := e; exact ⟨_, rfl⟩
    · cases e
  · unfold oEq at e
    split at e
    · simp only [Option.map_eq_some_iff] at e; obtain ⟨k, _, rfl⟩ := e; exact ⟨_, rfl⟩
    · cases e
  · unfold oLt at e
    split at e
    · simp only [Option.map_eq_some_iff] at e; obtain ⟨k, _, rfl⟩ := e; exact ⟨_, rfl⟩
    · cases e
  · obtain ⟨i, j, _, _, rfl⟩ := oInt2_inv e; exact ⟨_, rfl⟩
  · unfold oLt at e
    split at e
    · simp only [Option.map_eq_some_iff] at e; obtain ⟨k, _, rfl⟩ := e; exact ⟨_, rfl⟩
    · cases e
  · obtain ⟨i, j, _, _, rfl⟩ := oInt2_inv e; exact ⟨_, rfl⟩
  · unfold oIn at e
    split at e
    · simp only [Option.map_eq_some_iff] at e; obtain ⟨k, _, rfl⟩ := e; exact ⟨_, rfl⟩
    · cases e
  · unfold oIn at e
    split at e
    · simp only [Option.map_eq_some_iff] at e; obtain ⟨k, _, rfl⟩ := e; exact ⟨_, rfl⟩
    · cases e
  · unfold oIsN at e
    split at e
    · simp only [Option.some.injEq] at e; exact ⟨_, e.symm⟩
    · cases e
  · unfold oIsN at e
    split at e
    · simp only [Option.some.injEq] at e; exact ⟨_, e.symm⟩
    · cases e
/-- the test of what an operator gives, from its value -/
theorem post_bl {o : Op} {es : List E} {n : Bool} {σ : L2.St} {Z : Addr → Prop} {H : Hp} {F : List Addr} {env : Env} {Q : Bool → Hp → Prop} (hc : isCmp o = true)
    (q : PostT B W σ Z H F n env Q (((evps C es n env).bind fun vs env1 => R.of (opR o vs) env1).bind tru)) : PostE B W σ Z H F n env (fun v H' => ∃ b, v = .bl b ∧ Q b H') ((evps C es n env).bind fun vs env1 => R.of (opR o vs) env1) := by
  cases h : evps C es n env with
  | bad => rw [h] at q; exact q
  | exc x env' => rw [h] at q; exact q
  | ok os env1 =>
    rw [h] at q
    simp only [R.bind] at q ⊢
    cases hr : opR o os with
    | none => rw [hr] at q; exact q
    | some r =>
      rw [hr] at q
      obtain ⟨b, rfl⟩ := cmp_bl hc hr
      intro v Z1 H1 F1 fp r1 e1 t1 k1
      simp only [RepO, Rep] at r1
      obtain ⟨rfl, rfl⟩ := r1
      exact ⟨b, rfl, q Z1 H1 F1 e1 t1 k1⟩
/-- one comparison -/
theorem ok_cmp (g : GX X B) {op : CmpOp} {o : Op} {a b : E} {a' b' : Expr} {pos : Pos} (hc : isCmp o = true) (ho : OpR X (compareOp op) (fun x y H Q => rOp B o [a, b] [x, y] H Q)) (ha : OkE X B C W a' a) (hb : OkE X B C W b' b) (hev : EvOp C o [a, b]) (hm : behindInMarks op b' = false) :
    OkE X B C W (.Compare a' [op] [b'] pos) (.op o [a, b]) := by
  have he : ∀ n, PE X (.Compare a' [op] [b'] pos) (tE B C W (.op o [a, b]) n) := fun n => ⟨fun pins s σ H Q I ⟨Z, env, F, st, q⟩ => by
    rw [hev] at q
    exact wpAny_Compare1 (thn (two_ops (ha.ve n) (ha.vp n) hb.ve hb.vp I ⟨Z, env, F, st, rOp_of st q⟩) fun u1 s1 h1 => thn h1 fun u2 s2 ⟨v, v', H2, I2, rv, rv', q2⟩ => ho pins s2 σ H2 v v' u1 u2 Q I2 rv rv' q2) hm⟩
  have ht : ∀ n, PT X (.Compare a' [op] [b'] pos) (tTe B C W (.op o [a, b]) n) := fun n => ⟨fun pins s σ H Q I ⟨Z, env, F, st, q⟩ => by
    rw [hev] at q
    refine wpAny_isTrue_Compare1 (thn (two_ops (ha.ve n) (ha.vp n) hb.ve hb.vp I ⟨Z, env, F, st, rOp_of st (post_bl hc q)⟩) fun u1 s1 h1 => thn h1 fun u2 s2 ⟨v, v', H2, I2, rv, rv', q2⟩ => thn (ho pins s2 σ H2 v v' u1 u2 _ I2 rv rv' q2) fun c s3 ⟨z, H3, I3, r3, k, e, q3⟩ => ?_) hm
    subst e
    cases r3
    exact wpAny_truthy_bool ⟨H3, I3, q3⟩⟩
  exact OkE.both rfl he ht
/-- e is None, e is not None -/
theorem ok_cmpN (g : GX X B) {op : CmpOp} {o : Op} {a : E} {a' : Expr} {pos p2 : Pos} {j : Nat} (hc : isCmp o = true) (ho : OpR X (compareOp op) (fun x y H Q => y = .non ∧ rOp B o [a] [x] H Q)) (ha : OkE X B C W a' a) (hev : EvOp C o [a]) (hm : behindInMarks op (.Constant .none j p2) = false) :
    OkE X B C W (.Compare a' [op] [.Constant .none j p2] pos) (.op o [a]) := by
  have he : ∀ n, PE X (.Compare a' [op] [.Constant .none j p2] pos) (tE B C W (.op o [a]) n) := fun n => ⟨fun pins s σ H Q I ⟨Z, env, F, st, q⟩ => by
    rw [hev] at q
    exact wpAny_Compare1 (thn (ps_first (es := []) (ha.ve n) (ha.vp n) I ⟨Z, env, F, st, rOp_of st q⟩) fun u s1 ⟨v, H1, m, I1, rv, q2⟩ => Constant_none (ho pins s1 σ H1 v .non u .none Q I1 rv rfl ⟨rfl, ps_end q2⟩)) hm⟩
  have ht : ∀ n, PT X (.Compare a' [op] [.Constant .none j p2] pos) (tTe B C W (.op o [a]) n) := fun n => ⟨fun pins s σ H Q I ⟨Z, env, F, st, q⟩ => by
    rw [hev] at q
    refine wpAny_isTrue_Compare1 (thn (ps_first (es := []) (ha.ve n) (ha.vp n) I ⟨Z, env, F, st, rOp_of st (post_bl hc q)⟩) fun u s1 ⟨v, H1, m, I1, rv, q2⟩ => Constant_none (thn (ho pins s1 σ H1 v .non u .none _ I1 rv rfl ⟨rfl, ps_end q2⟩) fun c s3 ⟨z, H3, I3, r3, k, e, q3⟩ => ?_)) hm
    subst e
    cases r3
    exact wpAny_truthy_bool ⟨H3, I3, q3⟩⟩
  exact OkE.both rfl he ht
end
end Ev
/-! Ev23: and, or, not, if, chains; displays. -/
namespace Ev
open PySem PySem.Spec PyProof.Rows L2

section
variable {B : Wd} {X : Cx} {C : Cfg} {W : WX}
section
variable {σ : L2.St} {Z Z1 : Addr → Prop} {H H1 : Hp} {F F1 : List Addr} {n : Bool} {env env1 : Env}
theorem Step.trans0 {Z2 : Addr → Prop} {H2 : Hp} {G : List Addr} (t : Step Z H F Z1 H1 F1) (u : Step Z1 H1 F1 Z2 H2 G) : Step Z H F Z2 H2 G :=
  Step.trans (fp := []) t (fun _ z => by cases z) u
theorem PostE.shift {Q : VK} {r : R OV} (t : Step Z H F Z1 H1 F1) (k : Quiet n env env1 F F1 H H1) (q : PostE B W σ Z H F n env Q r) : PostE B W σ Z1 H1 F1 n env1 Q r := by
  cases r with
  | bad => exact q
  | exc x e => exact PostX.trans (G := []) t (fun _ z => by cases z) q
  | ok o e =>
    intro v Z2 H2 F2 fp r1 e1 t1 k1
    exact q v Z2 H2 F2 fp r1 e1 (t.trans0 t1) (k.trans k1)
theorem PostT.shift {Q : Bool → Hp → Prop} {r : R Bool} (t : Step Z H F Z1 H1 F1) (k : Quiet n env env1 F F1 H H1) (q : PostT B W σ Z H F n env Q r) : PostT B W σ Z1 H1 F1 n env1 Q r := by
  cases r with
  | bad => exact q
  | exc x e => exact PostX.trans (G := []) t (fun _ z => by cases z) q
  | ok o e =>
    intro Z2 H2 F2 e1 t1 k1
    exact q Z2 H2 F2 e1 (t.trans0 t1) (k.trans k1)
/-- a looked-at value, then more -/
theorem PostP.bindE {a : E} {f : OV → Env → R OV} {r : R OV} {Q : VK} {R' : V → Hp → Prop} (q : PostE B W σ Z H F n env Q (r.bind f))
    (h : ∀ o env1 v Z1 H1 F1 fp, RepO B Z1 H1 o v fp → Stt B Z1 H1 σ env1 F1 → Step Z H F Z1 H1 F1 → Quiet n env env1 F F1 H H1 → PostE B W σ Z1 H1 F1 n env1 Q (f o env1) → R' v H1) : PostP B W σ Z H F n env a R' r := by
  cases r with
  | bad => exact q
  | exc x e => exact q
  | ok o e =>
    intro v Z1 H1 F1 fp G r1 hG e1 t1 k1
    exact h o e v Z1 H1 F1 fp r1 (t1.stt e1) t1.drop k1 (PostE.shift t1.drop k1 q)
theorem PostP.bindT {a : E} {f : OV → Env → R Bool} {r : R OV} {Q : Bool → Hp → Prop} {R' : V → Hp → Prop} (q : PostT B W σ Z H F n env Q (r.bind f))
    (h : ∀ o env1 v Z1 H1 F1 fp, RepO B Z1 H1 o v fp → Stt B Z1 H1 σ env1 F1 → Step Z H F Z1 H1 F1 → Quiet n env env1 F F1 H H1 → PostT B W σ Z1 H1 F1 n env1 Q (f o env1) → R' v H1) : PostP B W σ Z H F n env a R' r := by
  cases r with
  | bad => exact q
  | exc x e => exact q
  | ok o e =>
    intro v Z1 H1 F1 fp G r1 hG e1 t1 k1
    exact h o e v Z1 H1 F1 fp r1 (t1.stt e1) t1.drop k1 (PostT.shift t1.drop k1 q)
/-- a test, then more -/
theorem PostT.bindE {f : Bool → Env → R OV} {r : R Bool} {Q : VK} {R' : Bool → Hp → Prop} (q : PostE B W σ Z H F n env Q (r.bind f))
    (h : ∀ b env1 Z1 H1 F1, Stt B Z1 H1 σ env1 F1 → PostE B W σ Z1 H1 F1 n env1 Q (f b env1) → R' b H1) : PostT B W σ Z H F n env R' r := by
  cases r with
  | bad => exact q
  | exc x e => exact q
  | ok b e =>
    intro Z1 H1 F1 e1 t1 k1
    exact h b e Z1 H1 F1 (Step.stt (fp := []) t1 e1) (PostE.shift t1 k1 q)
theorem PostT.bindT {f : Bool → Env → R Bool} {r : R Bool} {Q : Bool → Hp → Prop} {R' : Bool → Hp → Prop} (q : PostT B W σ Z H F n env Q (r.bind f))
    (h : ∀ b env1 Z1 H1 F1, Stt B Z1 H1 σ env1 F1 → PostT B W σ Z1 H1 F1 n env1 Q (f b env1) → R' b H1) : PostT B W σ Z H F n env R' r := by
  cases r with
  | bad => exact q
  | exc x e => exact q
  | ok b e =>
    intro Z1 H1 F1 e1 t1 k1
    exact h b e Z1 H1 F1 (Step.stt (fp := []) t1 e1) (PostT.shift t1 k1 q)
/-- a plain shared end -/
theorem PostE.fin {Q : VK} {d : D} {v : V} (st : Stt B Z H σ env F) (r : Rep B Z H d v) (q : PostE B W σ Z H F n env Q (.ok (.fr d) env)) : Q v H :=
  q v Z H F [] (by simp only [RepO]; exact ⟨r, trivial⟩) st.env st.refl .refl
end
theorem bind_bind {α β γ : Type} (r : R α) (f : α → Env → R β) (h : β → Env → R γ) : (r.bind f).bind h = r.bind fun a e => (f a e).bind h := by
  cases r <;> rfl

/-- a bool, or not one -/
theorem bl_or (o : OV) : o = .fr (.bl true) ∨ o = .fr (.bl false) ∨ (o ≠ .fr (.bl true) ∧ o ≠ .fr (.bl false)) := by
  by_cases h1 : o = .fr (.bl true)
  · exact .inl h1
  · by_cases h2 : o = .fr (.bl false)
    · exact .inr (.inl h2)
    · exact .inr (.inr ⟨h1, h2⟩)
theorem bl_ne {o : OV} {x y : R OV} (h : o ≠ .fr (.bl true) ∧ o ≠ .fr (.bl false)) : (match o with | .fr (.bl true) => x | .fr (.bl false) => y | _ => R.bad) = R.bad := by
  split
  · exact absurd rfl h.1
  · exact absurd rfl h.2
  · rfl
theorem bl_ne' {o : OV} {x y : R OV} (h : o ≠ .fr (.bl true) ∧ o ≠ .fr (.bl false)) : (match o with | .fr (.bl false) => x | .fr (.bl true) => y | _ => R.bad) = R.bad := by
  split
  · exact absurd rfl h.2
  · exact absurd rfl h.1
  · rfl
/-! ### and, or -/
structure OkB (X : Cx) (B : Wd) (C : Cfg) (W : WX) (op : BoolOp) (vals : List Expr) (e : E) (pos : Pos) : Prop where
  ve : ∀ n, PE X (.BoolOp op vals pos) (tE B C W e n)
  te : ∀ n, PW X (.BoolOp op vals pos) (tTe B C W e n)
theorem OkB.one {op : BoolOp} {a' : Expr} {a : E} {pos : Pos} (ha : OkE X B C W a' a) : OkB X B C W op [a'] a pos where
  ve := fun n => pe_one (ha.ve n)
  te := fun n => by
    cases op with
    | And => exact pw_and1 (ha.te n)
    | Or => exact pw_or1 (ha.te n)
theorem PW.imp {x : Expr} {t t' : TT} (h : PW X x t) (k : ∀ σ H Q, t' σ H Q → t σ H Q) : PW X x t' := ⟨fun w pins s σ H Q I q => h.run w pins s σ H Q I (k σ H Q q)⟩
theorem OkB.and {a' b' : Expr} {rest : List Expr} {a b : E} {pos : Pos} (ha : OkE X B C W a' a) (hb : OkB X B C W .And (b' :: rest) b pos) : OkB X B C W .And (a' :: b' :: rest) (.and a b) pos where
  ve := fun n => PE.imp (pe_and (ha.vp n) (hb.ve n)) fun σ H Q ⟨Z, env, F, st, q⟩ => by
    refine ⟨Z, env, F, st, ?_⟩
    simp only [ev] at q
    refine PostP.bindE q fun o env1 v Z1 H1 F1 fp r1 st1 t1 k1 q1 => ?_
    split at q1
    · simp only [RepO, Rep] at r1
      exact ⟨true, r1.1, by rw [if_pos rfl]; exact ⟨Z1, env1, F1, st1, q1⟩⟩
    · simp only [RepO, Rep] at r1
      exact ⟨false, r1.1, by rw [if_neg (by decide)]; exact PostE.fin st1 rep_bl q1⟩
    · exact q1.elim
  te := fun n => PW.imp (pw_and (ha.t n) (hb.te n)) fun σ H Q ⟨Z, env, F, st, q⟩ => by
    refine ⟨Z, env, F, st, ?_⟩
    simp only [ev] at q
    rw [bind_bind] at q
    cases h : pkOr a env (ev C a n env) with
    | bad => rw [h] at q; exact q.elim
    | exc x e => rw [h] at q; exact q
    | ok o env1 =>
      rw [h] at q
      rcases bl_or o with rfl | rfl | hne
      · simp only [R.bind, tru, truth] at q ⊢
        intro Z1 H1 F1 e1 t1 k1
        rw [if_pos rfl]
        exact ⟨Z1, env1, F1, Step.stt (fp := []) t1 e1, PostT.shift t1 k1 q⟩
      · simp only [R.bind, tru, truth] at q ⊢
        intro Z1 H1 F1 e1 t1 k1
        rw [if_neg (by decide)]
        exact q Z1 H1 F1 e1 t1 k1
      · exact absurd q (by show ¬ PostT B W σ Z H F n env Q (R.bind (match o with | .fr (.bl true) => ev C b n env1 | .fr (.bl false) => .ok (.fr (.bl false)) env1 | _ => .bad) tru); rw [bl_ne hne]; exact id)
theorem OkB.or {a' b' : Expr} {rest : List Expr} {a b : E} {pos : Pos} (ha : OkE X B C W a' a) (hb : OkB X B C W .Or (b' :: rest) b pos) : OkB X B C W .Or (a' :: b' :: rest) (.or a b) pos where
  ve := fun n => PE.imp (pe_or (ha.vp n) (hb.ve n)) fun σ H Q ⟨Z, env, F, st, q⟩ => by
    refine ⟨Z, env, F, st, ?_⟩
    simp only [ev] at q
    refine PostP.bindE q fun o env1 v Z1 H1 F1 fp r1 st1 t1 k1 q1 => ?_
    split at q1
    · simp only [RepO, Rep] at r1
      exact ⟨false, r1.1, by rw [if_neg (by decide)]; exact ⟨Z1, env1, F1, st1, q1⟩⟩
    · simp only [RepO, Rep] at r1
      exact ⟨true, r1.1, by rw [if_pos rfl]; exact PostE.fin st1 rep_bl q1⟩
    · exact q1.elim
  te := fun n => PW.imp (pw_or (ha.t n) (hb.te n)) fun σ H Q ⟨Z, env, F, st, q⟩ => by
    refine ⟨Z, env, F, st, ?_⟩
    simp only [ev] at q
    rw [bind_bind] at q
    cases h : pkOr a env (ev C a n env) with
    | bad => rw [h] at q; exact q.elim
    | exc x e => rw [h] at q; exact q
    | ok o env1 =>
      rw [h] at q
      rcases bl_or o with rfl | rfl | hne
      · simp only [R.bind, tru, truth] at q ⊢
        intro Z1 H1 F1 e1 t1 k1
        rw [if_pos rfl]
        exact q Z1 H1 F1 e1 t1 k1
      · simp only [R.bind, tru, truth] at q ⊢
        intro Z1 H1 F1 e1 t1 k1
        rw [if_neg (by decide)]
        exact ⟨Z1, env1, F1, Step.stt (fp := []) t1 e1, PostT.shift t1 k1 q⟩
      · exact absurd q (by show ¬ PostT B W σ Z H F n env Q (R.bind (match o with | .fr (.bl false) => ev C b n env1 | .fr (.bl true) => .ok (.fr (.bl true)) env1 | _ => .bad) tru); rw [bl_ne' hne]; exact id)
theorem OkB.ok {op : BoolOp} {vals : List Expr} {e : E} {pos : Pos} (h : OkB X B C W op vals e pos) (hn : isPath e = false) : OkE X B C W (.BoolOp op vals pos) e :=
  OkE.both hn h.ve fun n => (h.te n).pt
/-! ### not, if -/
theorem ok_not {a' : Expr} {a : E} {pos : Pos} (g : GX X B) (ha : OkE X B C W a' a) : OkE X B C W (.UnaryOp .Not a' pos) (.not a) := by
  refine OkE.both rfl (fun n => ⟨fun pins s σ H Q I ⟨Z, env, F, st, q⟩ => ?_⟩) (fun n => PT.imp (pt_not (ha.t n)) fun σ H Q ⟨Z, env, F, st, q⟩ => ?_)
  · simp only [ev] at q
    cases h : pkOr a env (ev C a n env) with
    | bad => rw [h] at q; exact q.elim
    | exc x e =>
      rw [h] at q
      refine UnaryOp_ (thn ((ha.vp n).run pins s σ H (fun _ _ => False) I ⟨Z, env, F, st, by rw [h]; exact q⟩) fun u s1 ⟨_, _, _, _, z⟩ => z.elim)
    | ok o env1 =>
      rw [h] at q
      simp only [R.bind] at q
      cases h2 : truth o with
      | none => rw [h2] at q; exact q.elim
      | some b =>
        rw [h2] at q
        refine UnaryOp_ (thn ((ha.vp n).run pins s σ H (fun v H1 => (∃ Z1 fp, RepO B Z1 H1 o v fp) ∧ Q (.bl (!b)) H1) I ⟨Z, env, F, st, ?_⟩) fun u s1 ⟨v, H1, I1, rv, ⟨Z1, fp, r1⟩, q1⟩ => ?_)
        · rw [h]
          intro v Z1 H1 F1 fp G r1 hG e1 t1 k1
          exact ⟨⟨Z1, fp, r1⟩, PostE.fin (t1.stt e1) rep_bl (PostE.shift t1.drop k1 q)⟩
        · exact not_of (thn (truth_val g I1 r1 rv h2 (Q := fun c H' => c = b ∧ Q (.bl (!b)) H') ⟨rfl, q1⟩) fun c s2 ⟨H2, I2, e, q2⟩ => by
            subst e
            exact ⟨.bl (!c), H2, I2, rfl, q2⟩)
  · refine ⟨Z, env, F, st, ?_⟩
    simp only [ev] at q
    cases h : pkOr a env (ev C a n env) with
    | bad => rw [h] at q; exact q.elim
    | exc x e => rw [h] at q; exact q
    | ok o env1 =>
      rw [h] at q
      simp only [R.bind, tru] at q ⊢
      cases h2 : truth o with
      | none => rw [h2] at q; exact q.elim
      | some b =>
        rw [h2] at q
        exact q
theorem ok_ifx {c' a' b' : Expr} {c a b : E} {pos : Pos} (hc : OkE X B C W c' c) (ha : OkE X B C W a' a) (hb : OkE X B C W b' b)
    (g : GX X B) : (∀ n, PE X (.IfExp c' a' b' pos) (tE B C W (.ifx c a b) n)) := fun n =>
  PE.imp (pe_ifExp (hc.t n) (ha.ve n) (hb.ve n)) fun σ H Q ⟨Z, env, F, st, q⟩ => by
    refine ⟨Z, env, F, st, ?_⟩
    simp only [ev] at q
    cases h : pkOr c env (ev C c n env) with
    | bad => rw [h] at q; exact q.elim
    | exc x e => rw [h] at q; exact q
    | ok o env1 =>
      rw [h] at q
      simp only [R.bind, tru] at q ⊢
      cases h2 : truth o with
      | none => rw [h2] at q; exact q.elim
      | some d =>
        rw [h2] at q
        intro Z1 H1 F1 e1 t1 k1
        cases d with
        | true => rw [if_pos rfl]; exact ⟨Z1, env1, F1, Step.stt (fp := []) t1 e1, PostE.shift t1 k1 q⟩
        | false => rw [if_neg (by decide)]; exact ⟨Z1, env1, F1, Step.stt (fp := []) t1 e1, PostE.shift t1 k1 q⟩
end
end Ev
/-! Ev24: displays; storing in a dict. -/
namespace Ev
open PySem PySem.Spec PyProof.Rows L2

section
variable {B : Wd} {X : Cx} {C : Cfg} {W : WX}
/-- an object that is written by itself -/
theorem gr_write {H : Hp} {Z : Addr → Prop} {a : Addr} {u : HO} (hz : ¬ Z a) (hm : Mut (H a)) : Gr Z Z H (upd H a u) :=
  .of (fun _ h => h) (fun b o hb h => by
    have hne : b ≠ a := fun e => by subst e; exact hz hb
    rw [upd_ne hne]; exact h) fun b xs h => by
    rw [upd_ne (fun e => by rw [e] at h; exact Mut.notXd hm h)]; exact h
theorem kept_write {H : Hp} {a : Addr} {u : HO} {R : List Addr} (ha : a ∉ R) : Kept R H (upd H a u) := fun b hb o h => by
  have hne : b ≠ a := fun e => by subst e; exact ha hb
  rw [upd_ne hne]; exact h
/-- how a stored entry lies: kvs' the dict behind it -/
def Stored (B : Wd) (Z : Addr → Prop) (H : Hp) (kvs : List (D × OV)) (fps : List Addr) (k : D) (y : V) (es' : List DictEntry) : Prop :=
  ∃ dropped rest, fps.Perm (dropped ++ rest) ∧ ∀ (Z' : Addr → Prop) (H' : Hp) (o : OV) (fpo : List Addr), Gr Z Z' H H' → Kept rest H H' → RepO B Z' H' o y fpo → ∃ fp', RepOk B Z' H' (dput k o kvs) es' fp' ∧ fp'.Perm (fpo ++ rest)
theorem store_ent (g : GX X B) {Z : Addr → Prop} {H : Hp} {pins : List (Addr × Obj)} {σ : L2.St} {s : Shared} (I : Inv X pins σ H s) {a : Addr} {es : List DictEntry} {kvs : List (D × OV)} {fps : List Addr} {k : D} {x y : V} {key u : Value}
    (ha : H a = some (DH a es)) (hr : RepOk B Z H kvs es fps) (nd : keysNd (viewsK kvs) = true) (hl : kvs.length ≤ sizeLine) (hk : keyOk k = true) (rk : Rep B Z H k x) (rx : RelV x key) (ry : RelV y u)
    {Q : Unit → Shared → Prop} (h : ∀ es' s', Inv X pins σ (upd H a (DH a es')) s' → Stored B Z H kvs fps k y es' → Q () s') :
    ∃ (o : Obj) (ea : Array DictEntry) (ep : Nat), s.heap.get? a = some o ∧ o.ExactDict ∧ o.data = .dict ea ep ∧ EntK X.w s.heap ea (kvs.map fun p => canon p.1) ∧ ea.size ≤ sizeLine ∧ NestedIs s.heap (canon k) key ∧
      (∀ (h' : Heap) (o' : Obj) (es' : Array DictEntry) (ep' : Nat), (∀ (j : Nat), (kvs.map fun p => canon p.1)[j]? ≠ some (canon k)) → h'.get? a = some o' → o'.ExactDict → o'.data = .dict es' ep' → es'.toList = ea.toList ++ [⟨(canon k).hash X.w, key, u⟩] → EntK X.w h' es' ((kvs.map fun p => canon p.1) ++ [canon k]) → Heap.SameBut a s.heap h' → Q () { s with heap := h', toks := s.toks + (canon k).draws }) ∧
      (∀ (h' : Heap) (o' : Obj) (es' : Array DictEntry) (ep' : Nat) (j : Nat) (e : DictEntry), (kvs.map fun p => canon p.1)[j]? = some (canon k) → ea[j]? = some e → h'.get? a = some o' → o'.ExactDict → o'.data = .dict es' ep' → es'.toList = ea.toList.set j { e with val := u } → EntK X.w h' es' (kvs.map fun p => canon p.1) → Heap.SameBut a s.heap h' → Q () { s with heap := h', toks := s.toks + (canon k).draws }) := by
  have ok := Inv.hok' g I
  have hK := Inv.kIn' g I
  obtain ⟨o, ea, ep, g1, g2, g3, g4⟩ := DH.at (.inl ha) ok
  have ent := hr.entK ok hK nd g4
  have oks : ∀ p ∈ kvs, keyK p.1 = true := fun p hp => keyOk_k ((keysNd_at nd).1 (p.1, p.2.view) (by rw [viewsK_eq]; exact List.mem_map.mpr ⟨p, hp, rfl⟩))
  have wr : ∀ (h' : Heap) (o' : Obj) (es' : Array DictEntry) (ep' : Nat) (tk : Nat), h'.get? a = some o' → o'.ExactDict → o'.data = .dict es' ep' → Heap.SameBut a s.heap h' → Inv X pins σ (upd H a (DH a es'.toList)) { s with heap := h', toks := tk } := fun h' o' es' ep' tk q1 q2 q3 sb =>
    I.write (x := a) (e := a) (by rw [ha]; trivial) (.inl rfl) (fun b q hb z => (sb.2 b hb).trans z) ⟨o', q1⟩ ⟨⟨o', es', ep', q1, q2, q3, rfl⟩, ⟨o', q1⟩, fun _ _ ⟨oo, ee, pp, r1, r2, r3, r4⟩ st => ⟨oo, ee, pp, st _ r1, r2, r3, r4⟩⟩
  refine ⟨o, ea, ep, g1, g2, g3, by rw [g.w]; exact ent, by rw [← Array.length_toList, g4, hr.length]; exact hl, key_is ok hK (keyOk_k hk) rk rx, ?_, ?_⟩
  · intro h' o' es' ep' hno q1 q2 q3 q4 q5 sb
    refine h es'.toList _ (wr h' o' es' ep' _ q1 q2 q3 sb) ⟨[], fps, .refl _, fun Z' H' o fpo gg kp ro => ⟨fps ++ fpo, ?_, List.perm_append_comm⟩⟩
    have hn : dget k kvs = none := by
      cases e : dget k kvs with
      | none => rfl
      | some c =>
        obtain ⟨j, k', hj, hc⟩ := dget_some (keyOk_k hk) oks e
        exact absurd (by rw [List.getElem?_map, hj, Option.map_some, hc]) (hno j)
    rw [q4, g4]
    refine (hr.mono gg kp).new hn ⟨x, rx, rk.mono gg⟩ ?_ ⟨y, ry, ro⟩
    show (canon k).hash X.w = hashD B.w k
    rw [g.w]; rfl
  · intro h' o' es' ep' j e hj he q1 q2 q3 q4 q5 sb
    have hs : ∃ c, dget k kvs = some c := by
      cases e : dget k kvs with
      | some c => exact ⟨c, rfl⟩
      | none => exact absurd hj (dget_none (keyOk_k hk) oks e j)
    obtain ⟨c, hc⟩ := hs
    obtain ⟨j', e', k', vc, fpc, rest, hej, hkj, hkq, hrv, hrc, hp, hset, _⟩ := hr.split hc
    have ejj : j' = j := by
      have hk'ok : keyK k' = true := oks _ (List.mem_of_getElem? hkj)
      have : (kvs.map fun p => canon p.1)[j']? = some (canon k) := by rw [List.getElem?_map, hkj, Option.map_some, (keq_iff hk'ok (keyOk_k hk)).mp hkq]
      exact key_uniq ent.nd this hj
    subst ejj
    have : e' = e := by
      rw [← g4, Array.getElem?_toList] at hej
      rw [hej] at he; cases he; rfl
    subst this
    refine h es'.toList _ (wr h' o' es' ep' _ q1 q2 q3 sb) ⟨fpc, rest, hp, fun Z' H' o fpo gg kp ro => ?_⟩
    rw [q4, g4]
    exact hset Z' H' o y u fpo gg kp ry ro
theorem dict_store (g : GX X B) {Z : Addr → Prop} {H : Hp} {pins : List (Addr × Obj)} {σ : L2.St} {s : Shared} (I : Inv X pins σ H s) {a : Addr} {es : List DictEntry} {kvs : List (D × OV)} {fps : List Addr} {k : D} {x y : V} {key u : Value}
    (ha : H a = some (DH a es)) (hr : RepOk B Z H kvs es fps) (nd : keysNd (viewsK kvs) = true) (hl : kvs.length ≤ sizeLine) (hk : keyOk k = true) (rk : Rep B Z H k x) (rx : RelV x key) (ry : RelV y u)
    {E : Value → Shared → Prop} {Q : Unit → Shared → Prop} (h : ∀ es' s', Inv X pins σ (upd H a (DH a es')) s' → Stored B Z H kvs fps k y es' → Q () s') : wpAny (model X.prog X.w) X.A (dictSet a key u) Q E s := by
  obtain ⟨o, ea, ep, g1, g2, g3, ent, hsz, hkey, q1, q2⟩ := store_ent g I ha hr nd hl hk rk rx ry h
  exact dictSet_key (by have := g.units; omega) hkey (keyOk_d hk) g1 g2 g3 ent hsz q1 q2
theorem dict_setItem (g : GX X B) {Z : Addr → Prop} {H : Hp} {pins : List (Addr × Obj)} {σ : L2.St} {s : Shared} (I : Inv X pins σ H s) {a : Addr} {es : List DictEntry} {kvs : List (D × OV)} {fps : List Addr} {k : D} {x y : V} {key u : Value}
    (ha : H a = some (DH a es)) (hr : RepOk B Z H kvs es fps) (nd : keysNd (viewsK kvs) = true) (hl : kvs.length ≤ sizeLine) (hk : keyOk k = true) (rk : Rep B Z H k x) (rx : RelV x key) (ry : RelV y u)
    {E : Value → Shared → Prop} {Q : Unit → Shared → Prop} (h : ∀ es' s', Inv X pins σ (upd H a (DH a es')) s' → Stored B Z H kvs fps k y es' → Q () s') : wpAny (model X.prog X.w) X.A (setItem (.ref a) key u) Q E s := by
  obtain ⟨o, ea, ep, g1, g2, g3, ent, hsz, hkey, q1, q2⟩ := store_ent g I ha hr nd hl hk rk rx ry h
  exact setItem_key (by rw [units_in1]; have := g.units; omega) hkey (keyOk_d hk) g1 g2 g3 ent hsz q1 q2
/-! ### lists and tuples, written -/
theorem frs_own {os : List OV} {vs : List V} {fp : List Addr} {Z : Addr → Prop} {H : Hp} (h : RepOs B Z H os vs fp) : RepOs B Z H os vs fp := h
theorem PostVs.bindR {es : List E} {n : Bool} {σ : L2.St} {Z : Addr → Prop} {H : Hp} {F : List Addr} {env : Env} {f : List OV → Option OV} {Q : VK} (q : PostE B W σ Z H F n env Q ((evs C es n env).bind fun vs env1 => R.of (f vs) env1)) {R' : List V → Hp → Prop}
    (h : ∀ os r env1 vs Z1 H1 F1 fp, f os = some r → RepOs B Z1 H1 os vs fp → EnvR B Z1 H1 env1 σ F1 → Step Z H F Z1 H1 (fp ++ F1) → Quiet n env env1 F F1 H H1 → (∀ v Z' H' F' fp', RepO B Z' H' r v fp' → EnvR B Z' H' env1 σ F' → Step Z H F Z' H' (fp' ++ F') → Quiet n env env1 F F' H H' → Q v H') → R' vs H1) : PostVs B W σ Z H F n env R' (evs C es n env) := by
  cases e : evs C es n env with
  | bad => rw [e] at q; exact q
  | exc x env' => rw [e] at q; exact q
  | ok os env1 =>
    rw [e] at q
    simp only [R.bind] at q
    intro vs Z1 H1 F1 fp r1 e1 t1 k1
    cases hr : f os with
    | none => rw [hr] at q; exact q.elim
    | some r =>
      rw [hr] at q
      exact h os r env1 vs Z1 H1 F1 fp hr r1 e1 t1 k1 fun v Z' H' F' fp' a b c d => q v Z' H' F' fp' a b c d
/-- a new object over what was made -/
theorem Step.made {Z Z1 : Addr → Prop} {H H1 : Hp} {F F1 fp : List Addr} {p : Addr} {u : HO} (t : Step Z H F Z1 H1 (fp ++ F1)) (m1 : ∀ a ∈ fp ++ F1, ∃ o, H1 a = some o) (hp : H1 p = none) : Step Z H F Z1 (upd H1 p u) ((p :: fp) ++ F1) where
  sub := t.sub
  new := fun a h => by
    rcases h with h | h
    · exact t.new a (.inl h)
    · rcases List.mem_cons.mp h with e | h
      · subst e
        by_cases hf : a ∈ F
        · exact .inr (.inl hf)
        · cases e : H a with
          | none => exact .inr (.inr rfl)
          | some o => rw [t.oth a o e hf] at hp; cases hp
      · exact t.new a (.inr h)
  oth := fun a o h hf => by
    have h1 := t.oth a o h hf
    rw [upd_ne (ne_of_none h1 hp)]; exact h1
  nd := by
    refine List.nodup_cons.mpr ⟨fun hm => ?_, t.nd⟩
    obtain ⟨o, ho⟩ := m1 p hm
    rw [hp] at ho; cases ho
  dz := fun a h => by
    rcases List.mem_cons.mp h with e | h
    · subst e
      intro hz
      obtain ⟨o, ho⟩ := t.trk a hz
      rw [hp] at ho; cases ho
    · exact t.dz a h
  trk := fun a h => by
    obtain ⟨o, ho⟩ := t.trk a h
    exact ⟨o, by rw [upd_ne (ne_of_none ho hp)]; exact ho⟩
theorem ok_lst (g : GX X B) {es' : List Expr} {es : List E} {pos : Pos} (h : OkA X B C W es' es) : OkE X B C W (.List es' pos) (.op .lst es) :=
  OkE.plain g rfl (fun n => PE.imp (pe_lst (h.vs n)) fun σ H Q ⟨Z, env, F, st, q⟩ => by
    have q' : PostE B W σ Z H F n env Q ((evs C es n env).bind fun vs env1 => R.of (opR .lst vs) env1) := q
    refine ⟨Z, env, F, st, PostVs.bindR q' fun os r env1 vs Z1 H1 F1 fp hr r1 e1 t1 k1 q1 => ?_⟩
    have hr' : oLst os = some r := hr
    unfold oLst at hr'
    split at hr'
    · rename_i hs
      simp only [Option.some.injEq] at hr'
      subst hr'
      refine ⟨by rw [r1.length]; exact sizeB_le hs, fun p hp => ?_⟩
      have mu : ∀ a ∈ fp ++ F1, ∃ o, H1 a = some o := fun a ha => by
        rcases List.mem_append.mp ha with ha | ha
        · exact r1.trk a ha
        · have := e1.mutb a ha
          cases e : H1 a with
          | none => rw [e] at this; exact this.elim
          | some u => exact ⟨u, rfl⟩
      have gr := gr_upd (u := .lst vs) (Z := Z1) (Z' := Z1) hp fun _ h => h
      have kp : ∀ R : List Addr, Kept R H1 (upd H1 p (.lst vs)) := fun R b hb o ho => by rw [upd_ne (ne_of_none ho hp)]; exact ho
      refine q1 (.ref p) Z1 _ F1 (p :: fp) ?_ (e1.mono gr (kp F1)) (t1.made mu hp) (k1.trans fun _ => ⟨rfl, rfl, fun a u hu => by rw [upd_ne (ne_of_none hu hp)]; exact hu⟩)
      simp only [RepO]
      exact ⟨p, vs, fp, rfl, upd_same, r1.mono gr (kp fp), rfl⟩
    · cases hr') (fun _ => rfl)
end
end Ev
/-! Ev25: tuples, isinstance. -/
namespace Ev
open PySem PySem.Spec PyProof.Rows L2

section
variable {B : Wd} {X : Cx} {C : Cfg} {W : WX}
theorem RepOs.share' {Z Z' : Addr → Prop} {H H' : Hp} (gr : Gr Z Z' H H') {os : List OV} {vs : List V} {fp : List Addr} (k : ∀ a ∈ fp, Z' a ∧ ∀ u, H a = some u → H' a = some u) (h : RepOs B Z H os vs fp) : Reps B Z' H' (os.map OV.view) vs := by
  rw [← views_eq]
  exact RepOs.share gr k h
/-- a new shared object over what was shared -/
theorem Step.madeZ {Z Z1 : Addr → Prop} {H H1 : Hp} {F G : List Addr} {p : Addr} {u : HO} (t : Step Z H F Z1 H1 G) (m1 : ∀ a ∈ G, ∃ o, H1 a = some o) (hp : H1 p = none) : Step Z H F (fun a => Z1 a ∨ a = p) (upd H1 p u) G where
  sub := fun a h => .inl (t.sub a h)
  new := fun a h => by
    rcases h with (h | e) | h
    · exact t.new a (.inl h)
    · subst e
      by_cases hf : a ∈ F
      · exact .inr (.inl hf)
      · cases e : H a with
        | none => exact .inr (.inr rfl)
        | some o => rw [t.oth a o e hf] at hp; cases hp
    · exact t.new a (.inr h)
  oth := fun a o h hf => by
    have h1 := t.oth a o h hf
    rw [upd_ne (ne_of_none h1 hp)]; exact h1
  nd := t.nd
  dz := fun a h q => by
    rcases q with q | q
    · exact t.dz a h q
    · subst q
      obtain ⟨o, ho⟩ := m1 a h
      rw [hp] at ho; cases ho
  trk := fun a h => by
    rcases h with h | h
    · obtain ⟨o, ho⟩ := t.trk a h
      exact ⟨o, by rw [upd_ne (ne_of_none ho hp)]; exact ho⟩
    · subst h; exact ⟨u, upd_same⟩
theorem EnvR.trk {Z : Addr → Prop} {H : Hp} {env : Env} {σ : L2.St} {F : List Addr} (e : EnvR B Z H env σ F) : ∀ a ∈ F, ∃ o, H a = some o := fun a ha => by
  have := e.mutb a ha
  cases h : H a with
  | none => rw [h] at this; exact this.elim
  | some u => exact ⟨u, rfl⟩
theorem frs_views (os : List OV) : frs (os.map fun v => OV.fr v.view) = some (os.map OV.view) := by
  induction os with
  | nil => rfl
  | cons o os ih => simp only [List.map_cons, frs, ih, Option.map_some]
theorem ok_tup (g : GX X B) {es' : List Expr} {es : List E} {x1 : Nat} {pos : Pos} (h : OkA X B C W es' es) : OkE X B C W (.Tuple es' x1 pos) (.op .tup es) :=
  OkE.plain g rfl (fun n => PE.imp (pe_tup (h.vs n)) fun σ H Q ⟨Z, env, F, st, q⟩ => by
    have q' : PostE B W σ Z H F n env Q ((evs C es n env).bind fun vs env1 => R.of (opR .tup (vs.map fun v => .fr v.view)) env1) := q
    refine ⟨Z, env, F, st, PostVs.bindR (f := fun vs => opR .tup (vs.map fun v => .fr v.view)) q' fun os r env1 vs Z1 H1 F1 fp hr r1 e1 t1 k1 q1 => ?_⟩
    simp only [opR, oTup, frs_views] at hr
    split at hr
    · rename_i hs
      simp only [Option.some.injEq] at hr
      subst hr
      rw [List.length_map] at hs
      refine ⟨by rw [r1.length]; exact sizeB_le hs, fun p hp => ?_⟩
      have t2 := t1.share r1.trk
      have g2 : Gr Z1 (fun a => Z1 a ∨ a ∈ fp) H1 H1 := .of (fun a h => .inl h) (fun _ _ _ h => h) (fun _ _ h => h)
      have r2 : Reps B (fun a => Z1 a ∨ a ∈ fp) H1 (os.map OV.view) vs := r1.share' g2 fun a ha => ⟨.inr ha, fun _ h => h⟩
      have e2 := e1.mono g2 fun a _ u h => h
      have g3 := gr_upd (u := .tup vs) (Z := fun a => Z1 a ∨ a ∈ fp) (Z' := fun a => (Z1 a ∨ a ∈ fp) ∨ a = p) hp fun _ h => .inl h
      refine q1 (.ref p) (fun a => (Z1 a ∨ a ∈ fp) ∨ a = p) _ F1 [] ?_ (e2.mono g3 fun a _ u hu => by rw [upd_ne (ne_of_none hu hp)]; exact hu) (t2.madeZ e1.trk hp) (k1.trans fun _ => ⟨rfl, rfl, fun a u hu => by rw [upd_ne (ne_of_none hu hp)]; exact hu⟩)
      simp only [RepO]
      exact ⟨rep_tupN hp r2, trivial⟩
    · cases hr) (fun _ => rfl)

/-! ### isinstance -/
/-- the type of a datum as a value -/
def tyVal (B : Wd) : D → Option Value
  | .non => some (.type "NoneType")
  | .bl _ => some (.type "bool")
  | .int _ => some (.type "int")
  | .str _ => some (.type "str")
  | .tup _ => some (.type "tuple")
  | .lst _ => some (.type "list")
  | .dct _ => some (.type "dict")
  | .ins c _ => if c ∈ B.objs then (B.cls c).map .ref else none
  | .exn c _ => if c ∈ B.excs then (B.cls c).map .ref else none
def isOne (B : Wd) (d : D) (cn : String) : Bool := match d with
  | .ins c _ => B.sub c cn
  | .exn c _ => B.sub c cn
  | d => isTy cn d
theorem bcomm (a b : String) : (a == b) = (b == a) := by
  rw [Bool.eq_iff_iff, beq_iff_eq, beq_iff_eq]
  exact eq_comm
theorem subTy_plain {t cn : String} (h : (t == "bool") = false) : subTy t cn = (cn == t) := by
  unfold subTy
  rw [h, bcomm t cn]
  simp
theorem subTy_bool {cn : String} : subTy "bool" cn = (cn == "bool" || cn == "int") := by
  unfold subTy
  rw [bcomm "bool" cn]
  simp
theorem kit_data (g : GX X B) {Z : Addr → Prop} {H : Hp} {pins : List (Addr × Obj)} {σ : L2.St} {s : Shared} (I : Inv X pins σ H s) {d : D} {x : V} {v : Value} (h : Rep B Z H d x) (rx : RelV x v) :
    ∃ t P, PySem.W.KitX X.K v t P ∧ P s.heap ∧ v ≠ .builtin "__main__.__loader__#opaque" ∧ ∀ p ∈ B.isas, PySem.W.kitOne X.K t p.2 = some (isOne B d p.1) := by
  have ok := Inv.hok' g I
  have hK := Inv.kIn' g I
  have ty : ∀ n ∈ tyNames, (∀ cn, subTy n cn = isOne B d cn) → ∀ p ∈ B.isas, PySem.W.kitOne X.K (.type n) p.2 = some (isOne B d p.1) := fun n hn he p hp => by
    rw [g.K, g.isaT p hp n hn, he]
  cases d with
  | non =>
    simp only [Rep] at h; subst h
    cases (show v = Value.none from rx)
    exact ⟨_, _, PySem.W.kitx_none, True.intro, (fun z => nomatch z), ty "NoneType" (by simp [tyNames]) fun cn => subTy_plain (by decide)⟩
  | bl b =>
    simp only [Rep] at h; subst h
    cases (show v = Value.bool b from rx)
    exact ⟨_, _, PySem.W.kitx_bool, True.intro, (fun z => nomatch z), ty "bool" (by simp [tyNames]) fun cn => subTy_bool⟩
  | int i =>
    simp only [Rep] at h; subst h
    obtain ⟨t, rfl⟩ := rx
    exact ⟨_, _, PySem.W.kitx_int, True.intro, (fun z => nomatch z), ty "int" (by simp [tyNames]) fun cn => subTy_plain (by decide)⟩
  | str i =>
    simp only [Rep] at h; subst h
    obtain ⟨t, rfl⟩ := rx
    exact ⟨_, _, PySem.W.kitx_str, True.intro, (fun z => nomatch z), ty "str" (by simp [tyNames]) fun cn => subTy_plain (by decide)⟩
  | tup ds =>
    simp only [Rep] at h
    obtain ⟨a, xs, rfl, h1, _⟩ := h
    cases (show v = Value.ref a from rx)
    obtain ⟨_, o, _, _, g1, c1, _⟩ := h1.at ok hK
    exact ⟨_, _, PySem.W.kitx_tuple, ⟨o, g1, c1⟩, (fun z => nomatch z), ty "tuple" (by simp [tyNames]) fun cn => subTy_plain (by decide)⟩
  | lst ds =>
    simp only [Rep] at h
    obtain ⟨a, xs, rfl, h1, _⟩ := h
    cases (show v = Value.ref a from rx)
    obtain ⟨_, o, _, _, g1, c1, _⟩ := h1.at ok hK
    exact ⟨_, _, PySem.W.kitx_list, ⟨o, g1, c1⟩, (fun z => nomatch z), ty "list" (by simp [tyNames]) fun cn => subTy_plain (by decide)⟩
  | dct kvs =>
    simp only [Rep] at h
    obtain ⟨a, es, rfl, ⟨_, h1⟩, _⟩ := h
    cases (show v = Value.ref a from rx)
    obtain ⟨o, _, _, g1, c1, _⟩ := DH.at h1 ok
    exact ⟨_, _, PySem.W.kitx_dict, ⟨o, g1, c1.1⟩, (fun z => nomatch z), ty "dict" (by simp [tyNames]) fun cn => subTy_plain (by decide)⟩
  | ins c fs =>
    simp only [Rep] at h
    obtain ⟨a, Cl, dx, xs, rfl, ⟨hc1, hc2⟩, hz, ha, _⟩ := h
    cases (show v = Value.ref a from rx)
    obtain ⟨c1, c2, c3⟩ := g.obj _ _ hc1 hc2
    rw [← g.K] at c1 c3
    obtain ⟨mA, O, _⟩ := ins_get I.hok ha
    obtain ⟨od, J, _⟩ := O.look
    exact ⟨_, _, PySem.W.kitx_own (c1.get _) c1.hd c3.ha c3.hn c3.ht c3.hm, J, (fun z => nomatch z), fun p hp => by rw [g.K]; exact g.isaC p hp c Cl (.inl hc1) hc2⟩
  | exn c fs =>
    simp only [Rep] at h
    obtain ⟨a, Cl, xs, rfl, ⟨hc1, hc2⟩, hz, ⟨dd, hH, hx⟩, _⟩ := h
    cases (show v = Value.ref a from rx)
    obtain ⟨_, _, T⟩ := g.exo _ _ hc1 hc2
    rw [← g.K] at T
    obtain ⟨⟨oe, vs, ho, hcls, hdict, hdat, _⟩, _⟩ := (show ObjOk X.prog X.w H s.heap a _ from I.hok a _ hH)
    obtain ⟨cdD, hcD, _⟩ := PySem.W.any_some T.hd
    have J : ∃ od, PySem.W.InstAt s.heap a oe Cl od := by
      rcases hx with ⟨e, _⟩ | ⟨dx, e, hdx⟩
      · refine ⟨none, ho, hcls, by unfold PySem.W.notCls; rw [hdat] <;> rfl, ?_⟩
        rw [hdict, e]; trivial
      · obtain ⟨mA, hns, hrr⟩ := (show ObjOk X.prog X.w H s.heap dx (.xd xs) from I.hok dx _ hdx)
        obtain ⟨od, ho2, hl2⟩ := lookIn_ns hns
        refine ⟨some od, ho, hcls, by unfold PySem.W.notCls; rw [hdat] <;> rfl, ?_⟩
        rw [hdict, e]; exact ho2
    obtain ⟨od, J⟩ := J
    exact ⟨_, _, PySem.W.kitx_exc (by rw [hcD]; rfl) T.hg T.hk T.hs T.ha T.hn T.ht T.hm, J, (fun z => nomatch z), fun p hp => by rw [g.K]; exact g.isaC p hp c Cl (.inr hc1) hc2⟩
end
end Ev
/-! Ev26: isinstance as an expression; dict displays. -/
namespace Ev
open PySem PySem.Spec PyProof.Rows L2

section
variable {B : Wd} {X : Cx} {C : Cfg} {W : WX}
def isF (B : Wd) (cs : List String) : List OV → Option OV
  | [o] => some (.fr (.bl (cs.any (isOne B o.view))))
  | _ => none
theorem ev_isc (hs : C.sub = B.sub) {e : E} {cs : List String} {n : Bool} {env : Env} : ev C (.isc e cs) n env = (evps C [e] n env).bind fun vs env1 => R.of (isF B cs vs) env1 := by
  have e1 : evps C [e] n env = (pkOr e env (ev C e n env)).bind fun o env1 => .ok [o] env1 := by
    simp only [evps, simples, if_true]
    cases pkOr e env (ev C e n env) with
    | bad => rfl
    | exc x e => rfl
    | ok o env1 => rfl
  rw [e1]
  simp only [ev]
  cases pkOr e env (ev C e n env) with
  | bad => rfl
  | exc x e => rfl
  | ok o env1 =>
    simp only [R.bind, isF, R.of]
    rw [hs]
    split
    · rename_i c fs h
      rw [h]
      congr 4
    · rename_i c fs h
      rw [h]
      congr 4
    · rename_i d h1 h2
      congr 3
      congr 1
      congr 1
      funext t
      unfold isOne
      split
      · rename_i c fs h; exact absurd h (h1 c fs)
      · rename_i c fs h; exact absurd h (h2 c fs)
      · rfl
theorem call_is (g : GX X B) {e : E} {cs : List String} : CallR X (.builtin "isinstance") (fun xs H Q => ∃ x cV cn cv, xs = [x, cV] ∧ cs = [cn] ∧ (∀ u, RelV cV u → u = cv) ∧ (cn, cv) ∈ B.isas ∧ rF B (isF B cs) [e] [x] H Q) := by
  intro pins s σ H xs us Q I r h
  obtain ⟨x, cV, cn, cv, rfl, rfl, hcv, hm, Z, os, rr, G, l, _, _, hz, hr, q⟩ := h
  obtain ⟨u1, u2, rfl, r1, r2⟩ := vals2 r
  have := hcv _ r2
  subst this
  obtain ⟨o, fp, rfl, h1⟩ := l.one
  simp only [isF, Option.some.injEq] at hr
  subst hr
  obtain ⟨t, P, K1, hP, hx, hk⟩ := kit_data g I h1.read r1
  have e1 := hk _ hm
  refine PySem.W.kia_one K1 I.kIn hP e1 hx fun tk => ⟨.bl (isOne B o.view cn), H, I.kept (t' := tk) fun _ _ z => z, rfl, ?_⟩
  have e2 : ([cn].any (isOne B o.view)) = isOne B o.view cn := by simp
  rw [e2] at q
  exact give (o := .isN) (es := []) (us := []) hz rep_bl q
theorem ok_isc (g : GX X B) (hs : C.sub = B.sub) {e : E} {cn : String} {e' c' : Expr} {cV : V} {cv : Value} {p pos : Pos} (he : OkE X B C W e' e) (hc : PE X c' (tC cV)) (hcv : ∀ u, RelV cV u → u = cv) (hm : (cn, cv) ∈ B.isas)
    (hn1 : NoStar e') (hn2 : NoStar c') (hgl : Gl X "isinstance") (hmg : X.mg "isinstance" = none) (hv : bootBuiltins "isinstance" = some (.builtin "isinstance")) : OkE X B C W (.Call (.Name "isinstance" p) [e', c'] [] pos) (.isc e [cn]) :=
  OkE.plain g rfl (fun n => by
    have hpa : PA X [e', c'] (fun σ H Q => tPs B C W [e] n σ H (fun us H1 => ∃ x, us = [x] ∧ Q [x, cV] H1)) := by
      refine ⟨fun pos pins s σ H Q I h => ?_⟩
      rw [hn1]
      show wpAny _ _ (spliced ((false, eval e' X.env) :: backTo pos (starEach [c'] X.env))) _ _ s
      refine Calls.spliced_cons (thn (ps_first (es := []) (he.ve n) (he.vp n) I h) fun u s1 ⟨v, H1, m, I1, rv, q2⟩ => ?_)
      obtain ⟨x, ex, q3⟩ := ps_end q2
      cases ex
      rw [hn2]
      show wpAny _ _ (spliced ((false, eval c' X.env) :: backTo pos (starEach [] X.env))) _ _ s1
      refine Calls.spliced_cons (thn (hc.run pins s1 σ H1 (fun v' H' => v' = cV ∧ Q [v, cV] H') I1 ⟨rfl, q3⟩) fun u2 s2 ⟨v2, H2, I2, rv2, e2, q4⟩ => ?_)
      subst e2
      exact Calls.spliced_nil ⟨[v, v2], H2, I2, .cons rv (.cons rv2 .nil), q4⟩
    refine PE.imp (pe_callB (call_is g (e := e) (cs := [cn])) hgl hmg hv hpa (by decide) (by decide) (hn1 [c'] X.env) (by rw [hn2]; rfl)) fun σ H Q ⟨Z, env, F, st, q⟩ => ?_
    rw [ev_isc hs] at q
    have q1 := rF_of st q
    refine ⟨Z, env, F, st, ?_⟩
    cases h : evps C [e] n env with
    | bad => rw [h] at q1; exact q1
    | exc x env' => rw [h] at q1; exact q1
    | ok os env1 =>
      rw [h] at q1
      intro vs Z' H' F' G l e1 t1 k1
      have q2 := q1 vs Z' H' F' G l e1 t1 k1
      obtain ⟨o, x, fp, _, rfl, _⟩ := looksC1 l
      exact ⟨x, rfl, x, cV, cn, cv, rfl, rfl, hcv, hm, q2⟩) (fun _ => rfl)

/-! ### dict displays -/
/-- keys and values, in turn -/
inductive OkD (X : Cx) (B : Wd) (C : Cfg) (W : WX) : List (Option Expr) → List Expr → List E → Prop
  | nil : OkD X B C W [] [] []
  | cons {k' v' : Expr} {ks : List (Option Expr)} {vs : List Expr} {k v : E} {es : List E} : OkE X B C W k' k → OkE X B C W v' v → OkD X B C W ks vs es → OkD X B C W (some k' :: ks) (v' :: vs) (k :: v :: es)
theorem OkD.all {ks : List (Option Expr)} {vs : List Expr} {es : List E} (h : OkD X B C W ks vs es) : ks.all (·.isSome) = true ∧ ks.length = vs.length := by
  induction h with
  | nil => exact ⟨rfl, rfl⟩
  | cons _ _ _ ih => exact ⟨by simpa using ih.1, by simpa using ih.2⟩
/-- the pairs' values, in one row -/
def flat : List (Value × Value) → List Value
  | [] => []
  | (a, b) :: r => a :: b :: flat r
theorem one_val {e : E} {es : List E} {n : Bool} {x : Expr} (he : PE X x (tE B C W e n)) {pins : List (Addr × Obj)} {s : Shared} {σ : L2.St} {H : Hp} {Q : List V → Hp → Prop} (I : Inv X pins σ H s) (h : tVs B C W (e :: es) n σ H Q) :
    wpAny (model X.prog X.w) X.A (eval x X.env) (fun u s1 => ∃ v H1, Inv X pins σ H1 s1 ∧ RelV v u ∧ tVs B C W es n σ H1 fun us H2 => Q (v :: us) H2) X.xe s := by
  obtain ⟨Z, env, F, st, q⟩ := h
  simp only [evs] at q
  cases h1 : ev C e n env with
  | bad => rw [h1] at q; exact q.elim
  | exc x' env' =>
    rw [h1] at q
    exact thn (he.run pins s σ H (fun _ _ => False) I ⟨Z, env, F, st, by rw [h1]; exact q⟩) fun u s1 ⟨_, _, _, _, z⟩ => z.elim
  | ok o env1 =>
    rw [h1] at q
    refine thn (he.run pins s σ H (fun v H1 => tVs B C W es n σ H1 fun us H2 => Q (v :: us) H2) I ⟨Z, env, F, st, ?_⟩) fun u s1 ⟨v, H1, I1, rv, q1⟩ => ⟨v, H1, I1, rv, q1⟩
    rw [h1]
    intro v Z1 H1 F1 fp1 r1 e1 t1 k1
    refine ⟨Z1, env1, F1, t1.stt e1, ?_⟩
    simp only [R.bind] at q
    cases h2 : evs C es n env1 with
    | bad => rw [h2] at q; exact q
    | exc x' env' => rw [h2] at q; exact PostX.trans t1 r1.trk q
    | ok os env2 =>
      rw [h2] at q
      intro vs Z2 H2 F2 fp2 r2 e2 t2 k2
      refine q (v :: vs) Z2 H2 F2 (fp1 ++ fp2) ?_ e2 ?_ (k1.trans k2)
      · simp only [RepOs]
        exact ⟨v, vs, fp1, fp2, rfl, r1.mono ((t1.stt e1).gr t2) (t1.keeps t2), r2, rfl⟩
      · rw [List.append_assoc]
        exact t1.trans r1.trk t2
theorem vs_end {n : Bool} {σ : L2.St} {H : Hp} {Q : List V → Hp → Prop} (h : tVs B C W [] n σ H Q) : Q [] H := by
  obtain ⟨Z, env, F, st, q⟩ := h
  exact q [] Z H F [] (by simp [RepOs]) st.env st.refl .refl
theorem pairs_run {ks : List (Option Expr)} {vs : List Expr} {es : List E} (h : OkD X B C W ks vs es) {n : Bool} {pos : Pos} {pins : List (Addr × Obj)} : ∀ {s : Shared} {σ : L2.St} {H : Hp} {Q : List V → Hp → Prop}, Inv X pins σ H s → tVs B C W es n σ H Q →
    wpAny (model X.prog X.w) X.A (evalPairs (pairTrees ks vs X.env pos)) (fun ps s' => ∃ ws H', Inv X pins σ H' s' ∧ Vals ws (flat ps) ∧ Q ws H') X.xe s := by
  induction h with
  | nil =>
    intro s σ H Q I q
    exact pairTrees_nil_walk ⟨[], H, I, .nil, vs_end q⟩
  | cons hk hv hr ih =>
    intro s σ H Q I q
    refine pairTrees_cons_walk (thn (one_val (hk.ve n) I q) fun u1 s1 ⟨v1, H1, I1, r1, q1⟩ => thn (one_val (hv.ve n) I1 q1) fun u2 s2 ⟨v2, H2, I2, r2, q2⟩ => thn (ih I2 q2) fun ps s3 ⟨ws, H3, I3, rw3, q3⟩ => ?_)
    exact ⟨v1 :: v2 :: ws, H3, I3, .cons r1 (.cons r2 rw3), q3⟩
end
end Ev
/-! Ev27: dict displays, made. -/
namespace Ev
open PySem PySem.Spec PyProof.Rows L2

section
variable {prog : Program} {w : World} {A : Around} {E : Value → Shared → Prop} {s : Shared}
theorem subDict_walk {pairs : List (Sem Value × Sem Value)} {Q : Addr → Shared → Prop} (hlen : pairs.length ≤ 15)
    (h : wpAny (model prog w) A (evalPairs pairs) (fun vs s₁ => wpAny (model prog w) A (forIn vs PUnit.unit fun (x : Value × Value) (_ : PUnit) => (do dictSet s.heap.objs.size x.1 x.2; pure (ForInStep.yield PUnit.unit) : Sem (ForInStep PUnit))) (fun _ s' => Q s.heap.objs.size s') E s₁) E
      { s with heap := s.heap.push { cls := .type "dict", data := .dict #[] } }) : wpAny (model prog w) A (subDict pairs) Q E s := by
  unfold subDict
  refine wpAny_bind (wpAny_alloc ?_)
  refine wpAny_bind (wpAny_holding ?_)
  rw [if_pos hlen]
  refine wpAny_bind (thn h fun vs s₁ h₁ => ?_)
  refine wpAny_holding ?_
  exact wpAny_bind (thn h₁ fun _ s' q => wpAny_pure (wpAny_pure q))
theorem dict_walk {env : PySem.Env} {keys : List (Option Expr)} {values : List Expr} {pos : Pos} {Q : Value → Shared → Prop}
    (hall : keys.all (·.isSome) = true) (hl : keys.length = values.length) (h0 : keys ≠ []) (hlen : keys.length ≤ 15)
    (h : wpAny (model prog w) A (evalPairs (pairTrees keys values env pos)) (fun vs s₁ => wpAny (model prog w) A (forIn vs PUnit.unit fun (x : Value × Value) (_ : PUnit) => (do dictSet s.heap.objs.size x.1 x.2; pure (ForInStep.yield PUnit.unit) : Sem (ForInStep PUnit))) (fun _ s' => Q (.ref s.heap.objs.size) s') E s₁) E
      { s with heap := s.heap.push { cls := .type "dict", data := .dict #[] } }) : wpAny (model prog w) A (eval (.Dict keys values pos) env) Q E s := by
  have hn := pairTrees_length keys values env pos hall hl
  have h0' : pairTrees keys values env pos ≠ [] := fun he => by
    rw [he] at hn
    exact h0 (List.length_eq_zero_iff.mp hn.symm)
  rw [arm_eval_Dict, zip_pairTrees keys values env pos hall hl, dictDisplay_pairs _ h0' (by omega)]
  refine wpAny_bind (wpAny_standAt (wpAny_bind (subDict_walk (Q := fun d s' => wpAny (model prog w) A (pure (Value.ref d)) Q E s') (by omega) (thn h fun vs s₁ h₁ => thn h₁ fun _ s' q => wpAny_pure q))))
end

section
variable {B : Wd} {X : Cx} {C : Cfg} {W : WX}
theorem store_all (g : GX X B) {p : Addr} {pins : List (Addr × Obj)} {σ : L2.St} {Z : Addr → Prop} (hz : ¬ Z p) (hsys : (p == sysModules) = false) {E : Value → Shared → Prop} :
    ∀ (ps : List (Value × Value)) {s : Shared} {H : Hp} {ws : List V} {os : List OV} {fps fpa : List Addr} {acc kvs : List (D × OV)} {es : List DictEntry} {Q : Shared → Prop},
      Inv X pins σ H s → Vals ws (flat ps) → RepOs B Z H os ws fps → dctR os acc = some kvs → H p = some (DH p es) → RepOk B Z H acc es fpa → keysNd (viewsK acc) = true → acc.length + ps.length ≤ sizeLine → p ∉ fpa ++ fps → (fpa ++ fps).Nodup →
      (∀ es' fpf s' H', Inv X pins σ H' s' → H' = upd H p (DH p es') → RepOk B Z H' kvs es' fpf → keysNd (viewsK kvs) = true → kvs.length ≤ sizeLine → fpf.Nodup → (∀ a ∈ fpf, a ∈ fpa ++ fps) → Q s') →
      wpAny (model X.prog X.w) X.A (forIn ps PUnit.unit fun (x : Value × Value) (_ : PUnit) => (do dictSet p x.1 x.2; pure (ForInStep.yield PUnit.unit) : Sem (ForInStep PUnit))) (fun _ s' => Q s') E s
  | [], s, H, ws, os, fps, fpa, acc, kvs, es, Q, I, rv, ro, hd, hp, ha, nd, hl, hnp, hnd, k => by
    cases rv
    cases os with
    | cons o r => simp only [RepOs] at ro; obtain ⟨_, _, _, _, e, _⟩ := ro; cases e
    | nil =>
      simp only [RepOs] at ro
      simp only [dctR, Option.some.injEq] at hd
      subst hd
      rw [List.forIn_nil]
      refine wpAny_pure (k es fpa s H I ?_ ha nd (by simpa using hl) (List.nodup_append.mp hnd).1 fun a h => List.mem_append_left _ h)
      funext b
      unfold upd
      split
      · rename_i e; rw [e]; exact hp
      · rfl
  | (key, u) :: ps, s, H, ws, os, fps, fpa, acc, kvs, es, Q, I, rv, ro, hd, hp, ha, nd, hl, hnp, hnd, k => by
    cases rv with
    | cons rk rv =>
    cases rv with
    | cons ry rv =>
    cases os with
    | nil => simp only [RepOs] at ro; cases ro.1
    | cons o1 os =>
    cases os with
    | nil => simp only [RepOs] at ro; obtain ⟨_, _, _, _, e, _, ⟨e2, _⟩, _⟩ := ro; rw [e2] at e; cases e
    | cons o2 os =>
    simp only [RepOs] at ro
    obtain ⟨x', _, f1, _, e, h1, ⟨y', ws'', f2, f3, e2, h2, h3, rfl⟩, rfl⟩ := ro
    subst e2
    cases e
    cases o1 with
    | fr d =>
      simp only [dctR] at hd
      split at hd
      · rename_i hk
        simp only [RepO] at h1
        obtain ⟨h1, rfl⟩ := h1
        rw [List.forIn_cons]
        rw [List.nil_append] at hnp hnd k
        rw [List.length_cons] at hl
        refine wpAny_bind (wpAny_bind (dict_store g I hp ha nd (by omega) hk h1 rk ry fun es' s' I' st => wpAny_pure ?_))
        obtain ⟨dropped, rest, hperm, hst⟩ := st
        have gr : Gr Z Z H (upd H p (DH p es')) := gr_write hz (by rw [hp]; trivial)
        have pno : ∀ {R : List Addr}, (∀ a ∈ R, a ∈ fpa ++ (f2 ++ f3)) → p ∉ R := fun hR hm => hnp (hR p hm)
        have inrest : ∀ a ∈ rest, a ∈ fpa := fun a h => hperm.symm.subset (List.mem_append_right _ h)
        have hk2 : Kept f2 H (upd H p (DH p es')) := kept_write (pno fun a h => List.mem_append_right _ (List.mem_append_left _ h))
        have hk3 : Kept f3 H (upd H p (DH p es')) := kept_write (pno fun a h => List.mem_append_right _ (List.mem_append_right _ h))
        have hkr : Kept rest H (upd H p (DH p es')) := kept_write (pno fun a h => List.mem_append_left _ (inrest a h))
        obtain ⟨fp', hr', hp'⟩ := hst Z _ o2 f2 gr hkr (h2.mono gr hk2)
        have hr3 := h3.mono gr hk3
        have mem' : ∀ a ∈ fp', a ∈ fpa ++ f2 := fun a h => by
          rcases List.mem_append.mp (hp'.subset h) with h | h
          · exact List.mem_append_right _ h
          · exact List.mem_append_left _ (inrest a h)
        have nd0 := List.nodup_append.mp hnd
        have nd1 := List.nodup_append.mp nd0.2.1
        have ndr : rest.Nodup := (List.nodup_append.mp (hperm.nodup_iff.mp nd0.1)).2.1
        have ndfp : fp'.Nodup := hp'.nodup_iff.mpr (List.nodup_append.mpr ⟨nd1.1, ndr, fun a ha b hb e => nd0.2.2 b (inrest b hb) a (List.mem_append_left _ ha) e.symm⟩)
        have ndn : (fp' ++ f3).Nodup := List.nodup_append.mpr ⟨ndfp, nd1.2.1, fun a ha b hb e => by
          rcases List.mem_append.mp (mem' a ha) with q | q
          · exact nd0.2.2 a q b (List.mem_append_right _ hb) e
          · exact nd1.2.2 a q b hb e⟩
        have mem2 : ∀ a ∈ fp' ++ f3, a ∈ fpa ++ (f2 ++ f3) := fun a h => by
          rcases List.mem_append.mp h with h | h
          · rcases List.mem_append.mp (mem' a h) with h | h
            · exact List.mem_append_left _ h
            · exact List.mem_append_right _ (List.mem_append_left _ h)
          · exact List.mem_append_right _ (List.mem_append_right _ h)
        refine store_all g hz hsys ps I' rv hr3 hd upd_same hr' (by rw [viewsK_dput]; exact keysNd_dput hk nd) ?_ (pno mem2) ndn fun es'' fpf s'' H'' I'' eH rK ndK lK nF mF => ?_
        · have := dput_length (k := d) (v := o2) (kvs := acc)
          omega
        · refine k es'' fpf s'' H'' I'' ?_ rK ndK lK nF fun a h => mem2 a (mF a h)
          rw [eH, upd_upd]
      · cases hd
    | _ => simp [dctR] at hd
theorem dctR_length : ∀ {os : List OV} {acc kvs : List (D × OV)}, dctR os acc = some kvs → kvs.length ≤ acc.length + os.length
  | [], acc, kvs, h => by simp only [dctR, Option.some.injEq] at h; subst h; simp
  | [o], acc, kvs, h => by cases o <;> simp [dctR] at h
  | o1 :: o2 :: os, acc, kvs, h => by
    cases o1 with
    | fr d =>
      simp only [dctR] at h
      split at h
      · have h1 := dctR_length h
        have h2 := dput_length (k := d) (v := o2) (kvs := acc)
        simp only [List.length_cons]
        omega
      · cases h
    | _ => simp [dctR] at h
theorem flat_length : ∀ ps : List (Value × Value), (flat ps).length = 2 * ps.length
  | [] => rfl
  | (a, b) :: ps => by simp only [flat, List.length_cons, flat_length ps]; omega
theorem OkD.length {ks : List (Option Expr)} {vs : List Expr} {es : List E} (h : OkD X B C W ks vs es) : es.length = 2 * ks.length := by
  induction h with
  | nil => rfl
  | cons _ _ _ ih => simp only [List.length_cons, ih]; omega
theorem evs_length : ∀ {es : List E} {n : Bool} {env env' : Env} {os : List OV}, evs C es n env = .ok os env' → os.length = es.length
  | [], n, env, env', os, h => by simp only [evs, R.ok.injEq] at h; rw [← h.1]; rfl
  | e :: es, n, env, env', os, h => by
    simp only [evs] at h
    cases h1 : ev C e n env with
    | bad => rw [h1] at h; simp [R.bind] at h
    | exc x e => rw [h1] at h; simp [R.bind] at h
    | ok o env1 =>
      rw [h1] at h
      simp only [R.bind] at h
      cases h2 : evs C es n env1 with
      | bad => rw [h2] at h; simp at h
      | exc x e => rw [h2] at h; simp at h
      | ok r env2 =>
        rw [h2] at h
        simp only [R.ok.injEq] at h
        rw [← h.1, List.length_cons, List.length_cons, evs_length h2]
theorem ok_dct (g : GX X B) {ks : List (Option Expr)} {vs : List Expr} {es : List E} {pos : Pos} (h : OkD X B C W ks vs es) (h0 : ks ≠ []) (h15 : ks.length ≤ 15) : OkE X B C W (.Dict ks vs pos) (.op .dct es) :=
  OkE.plain g rfl (fun n => ⟨fun pins s σ H Q I ⟨Z, env, F, st, q⟩ => by
    have hp : H s.heap.objs.size = none := I.hok.fresh (Nat.le_refl _)
    have hsys : (s.heap.objs.size == sysModules) = false := beq_eq_false_iff_ne.mpr (Nat.ne_of_gt I.big)
    have gr := gr_upd (u := DH s.heap.objs.size []) (Z := Z) (Z' := Z) hp fun _ h => h
    have hz : ¬ Z s.heap.objs.size := fun hz => by
      obtain ⟨o, ho⟩ := st.trk _ hz
      rw [hp] at ho; cases ho
    have hf : s.heap.objs.size ∉ F := fun hm => by
      obtain ⟨o, ho⟩ := st.env.trk _ hm
      rw [hp] at ho; cases ho
    have st' : Stt B Z (upd H s.heap.objs.size (DH s.heap.objs.size [])) σ env F := ⟨st.env.mono gr fun a _ u hu => by rw [upd_ne (ne_of_none hu hp)]; exact hu, st.nd, st.dz, fun a ha => by
      obtain ⟨o, ho⟩ := st.trk a ha
      exact ⟨o, by rw [upd_ne (ne_of_none ho hp)]; exact ho⟩⟩
    have I1 : Inv X pins σ (upd H s.heap.objs.size (DH s.heap.objs.size [])) { s with heap := s.heap.push { cls := .type "dict", data := .dict #[] } } :=
      I.laid (a := s.heap.objs.size) (t' := s.toks) (fun _ _ q => Heap.get?_push_of_some _ q) (Nat.le_refl _) ⟨⟨_, #[], 0, Heap.get?_push_size _ rfl, ⟨rfl, rfl, rfl⟩, rfl, rfl⟩, ⟨_, Heap.get?_push_size _ rfl⟩, fun _ _ ⟨oo, ee, pp, r1, r2, r3, r4⟩ st => ⟨oo, ee, pp, st _ r1, r2, r3, r4⟩⟩
    have q0 : PostE B W σ Z H F n env Q ((evs C es n env).bind fun vs env1 => match dctR vs [] with
      | some kvs => if sizeB kvs.length then .ok (.dct kvs) env1 else .bad
      | none => .bad) := q
    refine dict_walk h.all.1 h.all.2 h0 h15 (thn (pairs_run h (n := n) (Q := fun ws H2 => ∃ Z2 F2 fp os env1 kvs, RepOs B Z2 H2 os ws fp ∧ EnvR B Z2 H2 env1 σ F2 ∧ Step Z (upd H s.heap.objs.size (DH s.heap.objs.size [])) F Z2 H2 (fp ++ F2) ∧ Quiet n env env1 F F2 (upd H s.heap.objs.size (DH s.heap.objs.size [])) H2 ∧
      dctR os [] = some kvs ∧ os.length = es.length ∧ ∀ v Z' H' F' fp', RepO B Z' H' (.dct kvs) v fp' → EnvR B Z' H' env1 σ F' → Step Z H F Z' H' (fp' ++ F') → Quiet n env env1 F F' H H' → Q v H') I1 ⟨Z, env, F, st', ?_⟩) fun ps s2 ⟨ws, H2, I2, rv, Z2, F2, fp, os, env1, kvs, ro, e2, t2, k2, hd, hlen, q2⟩ => ?_)
    · cases he : evs C es n env with
      | bad => rw [he] at q0; exact q0
      | exc x env' =>
        rw [he] at q0
        intro cls d Z' H' F' xr er stp
        refine q0 cls d Z' H' F' xr er ⟨stp.sub, fun a ha => ?_, fun a o ho hf' => stp.oth a o (by rw [upd_ne (ne_of_none ho hp)]; exact ho) hf', stp.nd, stp.dz, stp.trk⟩
        rcases stp.new a ha with z | z | z
        · exact .inl z
        · exact .inr (.inl z)
        · refine .inr (.inr ?_)
          by_cases ea : a = s.heap.objs.size
          · subst ea; exact hp
          · rw [upd_ne ea] at z; exact z
      | ok os env1 =>
        rw [he] at q0
        simp only [R.bind] at q0
        intro ws Z2 H2 F2 fp r2 e2 t2 k2
        cases hd : dctR os [] with
        | none => rw [hd] at q0; exact q0.elim
        | some kvs =>
          rw [hd] at q0
          simp only at q0
          split at q0
          · exact ⟨Z2, F2, fp, os, env1, kvs, r2, e2, t2, k2, hd, evs_length he, q0⟩
          · exact q0.elim
    · have hp2 : H2 s.heap.objs.size = some (DH s.heap.objs.size []) := t2.oth _ _ upd_same hf
      have ndG := List.nodup_append.mp t2.nd
      have pG : s.heap.objs.size ∉ fp ++ F2 := fun hm => by
        rcases t2.new _ (.inr hm) with z | z | z
        · exact hz z
        · exact hf z
        · rw [upd_same] at z; cases z
      have pZ : ¬ Z2 s.heap.objs.size := fun hm => by
        rcases t2.new _ (.inl hm) with z | z | z
        · exact hz z
        · exact hf z
        · rw [upd_same] at z; cases z
      have hps : ps.length ≤ 15 := by
        have l1 := rv.length
        rw [flat_length] at l1
        have l2 := ro.length
        have l3 := h.length
        omega
      refine store_all g (fpa := []) (acc := []) pZ hsys ps I2 rv ro hd hp2 (by simp [RepOk]) rfl (by rw [sizeLine_eq]; simp; omega) (by simpa using fun hm => pG (List.mem_append_left _ hm)) (by simpa using ndG.1) fun es' fpf s' H' I' eH rK ndK lK nF mF => ?_
      have mF' : ∀ a ∈ fpf, a ∈ fp := fun a ha => by simpa using mF a ha
      have gr2 : Gr Z2 Z2 H2 H' := by rw [eH]; exact gr_write pZ (by rw [hp2]; trivial)
      have kpF : Kept F2 H2 H' := by rw [eH]; exact kept_write fun hm => pG (List.mem_append_right _ hm)
      refine ⟨.ref s.heap.objs.size, H', I', rfl, q2 _ Z2 H' F2 (s.heap.objs.size :: fpf) ?_ (e2.mono gr2 kpF) ?_ (fun hn => ?_)⟩
      · simp only [RepO]
        exact ⟨_, es', fpf, rfl, by rw [eH]; exact upd_same, hsys, lK, ndK, rK, rfl⟩
      · refine ⟨t2.sub, fun a ha => ?_, fun a o ho hf' => ?_, ?_, fun a ha => ?_, fun a ha => ?_⟩
        · have nn : ∀ b, (upd H s.heap.objs.size (DH s.heap.objs.size [])) b = none → H b = none := fun b z => by
            by_cases eb : b = s.heap.objs.size
            · subst eb; exact hp
            · rw [upd_ne eb] at z; exact z
          rcases ha with ha | ha
          · exact (t2.new a (.inl ha)).imp id (Or.imp id (nn a))
          · rcases List.mem_append.mp ha with ha | ha
            · rcases List.mem_cons.mp ha with e | ha
              · subst e; exact .inr (.inr hp)
              · exact (t2.new a (.inr (List.mem_append_left _ (mF' a ha)))).imp id (Or.imp id (nn a))
            · exact (t2.new a (.inr (List.mem_append_right _ ha))).imp id (Or.imp id (nn a))
        · have hne := ne_of_none ho hp
          have := t2.oth a o (by rw [upd_ne hne]; exact ho) hf'
          rw [eH, upd_ne hne]; exact this
        · refine List.nodup_append.mpr ⟨List.nodup_cons.mpr ⟨fun hm => pG (List.mem_append_left _ (mF' _ hm)), nF⟩, ndG.2.1, fun a ha b hb e => ?_⟩
          rcases List.mem_cons.mp ha with e1 | ha
          · subst e1; subst e; exact pG (List.mem_append_right _ hb)
          · exact ndG.2.2 a (mF' a ha) b hb e
        · rcases List.mem_append.mp ha with ha | ha
          · rcases List.mem_cons.mp ha with e1 | ha
            · subst e1; exact pZ
            · exact t2.dz a (List.mem_append_left _ (mF' a ha))
          · exact t2.dz a (List.mem_append_right _ ha)
        · obtain ⟨o, ho⟩ := t2.trk a ha
          by_cases ea : a = s.heap.objs.size
          · subst ea; exact absurd ha pZ
          · exact ⟨o, by rw [eH, upd_ne ea]; exact ho⟩
      · obtain ⟨a1, a2, a3⟩ := k2 hn
        refine ⟨a1, a2, fun a u hu => ?_⟩
        have hne := ne_of_none hu hp
        have := a3 a u (by rw [upd_ne hne]; exact hu)
        rw [eH, upd_ne hne]; exact this⟩) (fun _ => rfl)
end
end Ev
/-! Ev28: statements. -/
namespace Ev
open PySem PySem.Spec PyProof.Rows L2

section
variable {B : Wd} {Z : Addr → Prop} {H : Hp}
/-- a slot stored; what stood there is left -/
theorem EnvR.put : ∀ {env : Env} {σ : L2.St} {F : List Addr} {i : Nat} {o : OV} {v : V} {fp : List Addr}, EnvR B Z H env σ F → i < env.length → RepO B Z H o v fp → ∃ F2 dropped, EnvR B Z H (env.set i (some o)) (σ.set i (some v)) F2 ∧ (fp ++ F).Perm (dropped ++ F2)
  | [], σ, F, i, o, v, fp, h, hi, r => by simp at hi
  | none :: env, σ, F, i, o, v, fp, h, hi, r => by
    simp only [EnvR] at h
    obtain ⟨x, σr, rfl, h⟩ := h
    cases i with
    | zero =>
      refine ⟨fp ++ F, [], ?_, .refl _⟩
      simp only [List.set_cons_zero, EnvR]
      exact ⟨v, σr, fp, F, rfl, r, h, rfl⟩
    | succ i =>
      obtain ⟨F2, dr, h2, hp⟩ := EnvR.put h (by simpa using hi) r
      refine ⟨F2, dr, ?_, hp⟩
      simp only [List.set_cons_succ, EnvR]
      exact ⟨x, _, rfl, h2⟩
  | some o0 :: env, σ, F, i, o, v, fp, h, hi, r => by
    simp only [EnvR] at h
    obtain ⟨v0, σr, f0, F', rfl, h0, h, rfl⟩ := h
    cases i with
    | zero =>
      refine ⟨fp ++ F', f0, ?_, perm_mid _ _ _⟩
      simp only [List.set_cons_zero, EnvR]
      exact ⟨v, σr, fp, F', rfl, r, h, rfl⟩
    | succ i =>
      obtain ⟨F2, dr, h2, hp⟩ := EnvR.put h (by simpa using hi) r
      refine ⟨f0 ++ F2, dr, ?_, ?_⟩
      · simp only [List.set_cons_succ, EnvR]
        exact ⟨v0, _, f0, F2, rfl, h0, h2, rfl⟩
      · exact (perm_mid _ _ _).trans ((hp.append_left f0).trans (perm_mid _ _ _))
end

/-- slots that stay -/
def Fixed (P : List (Nat × V)) (σ : L2.St) : Prop := ∀ p ∈ P, σ[p.1]? = some (some p.2)
theorem Fixed.set {P : List (Nat × V)} {σ : L2.St} {i : Nat} {v : V} (h : Fixed P σ) (hi : ∀ p ∈ P, p.1 ≠ i) : Fixed P (σ.set i (some v)) := fun p hp => by
  rw [List.getElem?_set_ne (fun e => hi p hp e.symm)]
  exact h p hp
section
variable (B : Wd) (W : WX) (P : List (Nat × V)) (Z : Addr → Prop) (H : Hp) (F : List Addr) (D : Ends)
def PostS : Ro → Prop
  | .next env' => ∀ σ' Z' H' F', EnvR B Z' H' env' σ' F' → Fixed P σ' → Step Z H F Z' H' F' → D.nx σ' H'
  | .ret r env' => ∀ σ' v Z' H' F' fp, RepO B Z' H' r v fp → EnvR B Z' H' env' σ' F' → Fixed P σ' → Step Z H F Z' H' (fp ++ F') → D.rt v H'
  | .exc x env' => ∀ σ' cls d Z' H' F', XR B Z' H' x cls d → EnvR B Z' H' env' σ' F' → Fixed P σ' → Step Z H F Z' H' F' → W cls d σ' H'
  | .bad => False
end
section
variable (B : Wd) (C : Cfg) (W : WX) (P : List (Nat × V))
def tS1 (s : S) : TS := fun D σ H => ∃ Z env F, Stt B Z H σ env F ∧ Fixed P σ ∧ PostS B W P Z H F D (exec C s env)
def tSs (ss : List S) : TS := fun D σ H => ∃ Z env F, Stt B Z H σ env F ∧ Fixed P σ ∧ PostS B W P Z H F D (execs C ss env)
end
section
variable {B : Wd} {X : Cx} {C : Cfg} {W : WX} {P : List (Nat × V)}
theorem PostS.shift {Z Z1 : Addr → Prop} {H H1 : Hp} {F F1 : List Addr} {D : Ends} {r : Ro} (t : Step Z H F Z1 H1 F1) (q : PostS B W P Z H F D r) : PostS B W P Z1 H1 F1 D r := by
  cases r with
  | bad => exact q
  | next e => exact fun σ' Z' H' F' a b c => q σ' Z' H' F' a b (t.trans0 c)
  | ret r e => exact fun σ' v Z' H' F' fp a b c d => q σ' v Z' H' F' fp a b c (t.trans0 d)
  | exc x e => exact fun σ' cls d Z' H' F' a b c d' => q σ' cls d Z' H' F' a b c (t.trans0 d')
structure OkS (X : Cx) (B : Wd) (C : Cfg) (W : WX) (P : List (Nat × V)) (st : Stmt) (s : S) : Prop where
  run : PS X st (tS1 B C W P s)
structure OkSs (X : Cx) (B : Wd) (C : Cfg) (W : WX) (P : List (Nat × V)) (sts : List Stmt) (ss : List S) : Prop where
  run : PSs X sts (tSs B C W P ss)
theorem OkSs.nil : OkSs X B C W P [] [] := ⟨PSs.imp pss_nil fun D σ H ⟨Z, env, F, st, fx, q⟩ => by
  simp only [execs] at q
  exact q σ Z H F st.env fx st.refl⟩
theorem OkSs.cons {st : Stmt} {sts : List Stmt} {s : S} {ss : List S} (h1 : OkS X B C W P st s) (h2 : OkSs X B C W P sts ss) : OkSs X B C W P (st :: sts) (s :: ss) :=
  ⟨PSs.imp (pss_cons h1.run h2.run) fun D σ H ⟨Z, env, F, st, fx, q⟩ => by
    refine ⟨Z, env, F, st, fx, ?_⟩
    simp only [execs] at q
    cases h : exec C s env with
    | bad => rw [h] at q; exact q
    | ret r e => rw [h] at q; exact q
    | exc x e => rw [h] at q; exact q
    | next e =>
      rw [h] at q
      intro σ' Z' H' F' a b c
      exact ⟨Z', e, F', Step.stt (fp := []) c a, b, PostS.shift c q⟩⟩
/-- from an expression to the rest of a statement -/
theorem PostE.thnS {Z : Addr → Prop} {H : Hp} {F : List Addr} {D : Ends} {n : Bool} {σ : L2.St} {env : Env} {r : R OV} {f : OV → Env → Ro} {Q : VK} (fx : Fixed P σ) (q : PostS B W P Z H F D (r.thn f))
    (h : ∀ o env1 v Z' H' F' fp, RepO B Z' H' o v fp → EnvR B Z' H' env1 σ F' → Step Z H F Z' H' (fp ++ F') → PostS B W P Z H F D (f o env1) → Q v H') : PostE B W σ Z H F n env Q r := by
  cases r with
  | bad => exact q
  | exc x e => exact fun cls d Z' H' F' a b c => q σ cls d Z' H' F' a b fx c
  | ok o e => exact fun v Z' H' F' fp a b c _ => h o e v Z' H' F' fp a b c q
/-- a store -/
theorem put_step {Z Z1 : Addr → Prop} {H H1 : Hp} {F F1 fp : List Addr} {env env2 : Env} {σ : L2.St} {i : Nat} {o : OV} {v : V} (r : RepO B Z1 H1 o v fp) (e : EnvR B Z1 H1 env σ F1) (t : Step Z H F Z1 H1 (fp ++ F1)) (hp : env.put C.prot i o = some env2) :
    i ∉ C.prot ∧ ∃ F2, EnvR B Z1 H1 env2 (σ.set i (some v)) F2 ∧ Step Z H F Z1 H1 F2 := by
  unfold Env.put at hp
  split at hp
  · cases hp
  · rename_i hn
    split at hp
    · rename_i hi
      simp only [Option.some.injEq] at hp
      subst hp
      obtain ⟨F2, dr, h2, hpm⟩ := e.put hi r
      exact ⟨hn, F2, h2, (t.perm hpm).drop⟩
    · cases hp
theorem ok_asg {i : Nat} {x : Str} {e' : Expr} {e : E} {pos pos' : Pos} (hP : ∀ p ∈ P, p.1 ∈ C.prot) (he : PE X e' (tE B C W e false)) (hN : X.N.Nodup) (hi : X.N[i]? = some x) (hx : Loc X.env.scope x) (hs : swapsWith e' (some (.Name x pos')) pos.line X.env = pure false)
    (hf : X.fn x = true ∨ X.env.scope.names.lookup x = some .local) : OkS X B C W P (.Assign [.Name x pos'] e' pos) (.asg i e) :=
  ⟨PS.imp (ps_set hN hi hx he hs hf) fun D σ H ⟨Z, env, F, st, fx, q⟩ => by
    refine ⟨Z, env, F, st, ?_⟩
    simp only [exec] at q
    refine PostE.thnS fx q fun o env1 v Z' H' F' fp r1 e1 t1 q1 => ?_
    show D.nx (σ.set i (some v)) H'
    cases h : env1.put C.prot i o with
    | none => rw [h] at q1; exact q1.elim
    | some env2 =>
      rw [h] at q1
      obtain ⟨hn, F2, e2, t2⟩ := put_step r1 e1 t1 h
      exact q1 _ Z' H' F2 e2 (fx.set fun p hp e => hn (e ▸ hP p hp)) t2⟩
theorem ok_expr {e' : Expr} {e : E} {pos : Pos} (he : PE X e' (tE B C W e false)) (hs : swapsWith e' none pos.line X.env = pure false) : OkS X B C W P (.Expr e' pos) (.expr e) :=
  ⟨PS.imp (ps_expr he hs) fun D σ H ⟨Z, env, F, st, fx, q⟩ => by
    refine ⟨Z, env, F, st, ?_⟩
    simp only [exec] at q
    exact PostE.thnS fx q fun o env1 v Z' H' F' fp r1 e1 t1 q1 => q1 σ Z' H' F' e1 fx t1.drop⟩
theorem ok_ret {e' : Expr} {e : E} {pos : Pos} (he : PE X e' (tE B C W e false)) : OkS X B C W P (.Return (some e') pos) (.ret e) :=
  ⟨PS.imp (ps_ret he) fun D σ H ⟨Z, env, F, st, fx, q⟩ => by
    refine ⟨Z, env, F, st, ?_⟩
    simp only [exec] at q
    exact PostE.thnS fx q fun o env1 v Z' H' F' fp r1 e1 t1 q1 => q1 σ v Z' H' F' fp r1 e1 fx t1⟩
theorem ok_retN {pos : Pos} : OkS X B C W P (.Return none pos) .retN :=
  ⟨PS.imp ps_retN fun D σ H ⟨Z, env, F, st, fx, q⟩ => by
    simp only [exec] at q
    exact q σ .non Z H F [] (by simp only [RepO, Rep]; exact ⟨trivial, trivial⟩) st.env fx st.refl⟩
theorem ok_pass {pos : Pos} : OkS X B C W P (.Pass pos) .pass :=
  ⟨PS.imp ps_pass fun D σ H ⟨Z, env, F, st, fx, q⟩ => by
    simp only [exec] at q
    exact q σ Z H F st.env fx st.refl⟩
theorem ok_doc {x : Str} {j : Nat} {pos pos' : Pos} : OkS X B C W P (.Expr (.Constant (.str x) j pos) pos') .pass :=
  ⟨PS.imp ps_doc fun D σ H ⟨Z, env, F, st, fx, q⟩ => by
    simp only [exec] at q
    exact q σ Z H F st.env fx st.refl⟩
theorem test_tT {c : E} {env : Env} : test C c env = (pkOr c env (ev C c false env)).bind tru := rfl
theorem ok_ife {c' : Expr} {a' b' : List Stmt} {c : E} {a b : List S} {pos : Pos} (hc : PT X c' (tT B C W c false)) (ha : OkSs X B C W P a' a) (hb : OkSs X B C W P b' b) : OkS X B C W P (.If c' a' b' pos) (.ife c a b) :=
  ⟨PS.imp (ps_if hc ha.run hb.run) fun D σ H ⟨Z, env, F, st, fx, q⟩ => by
    refine ⟨Z, env, F, st, ?_⟩
    simp only [exec] at q
    rw [test_tT] at q
    cases h : (pkOr c env (ev C c false env)).bind tru with
    | bad => rw [h] at q; exact q
    | exc x e =>
      rw [h] at q
      exact fun cls d Z' H' F' a b c => q σ cls d Z' H' F' a b fx c
    | ok t env1 =>
      rw [h] at q
      intro Z' H' F' e1 t1 k1
      cases t with
      | true => rw [if_pos rfl]; exact ⟨Z', env1, F', Step.stt (fp := []) t1 e1, fx, PostS.shift t1 q⟩
      | false => rw [if_neg (by decide)]; exact ⟨Z', env1, F', Step.stt (fp := []) t1 e1, fx, PostS.shift t1 q⟩⟩
end
end Ev
/-! Ev29: iterators, targets, for. -/
namespace Ev
open PySem PySem.Spec PyProof.Rows L2

/-- only what is new comes in -/
structure Grow (Z : Addr → Prop) (H : Hp) (Z' : Addr → Prop) (H' : Hp) : Prop where
  sub : ∀ a, Z a → Z' a
  new : ∀ a, Z' a → Z a ∨ H a = none
  ext : ∀ a o, H a = some o → H' a = some o
  trk : ∀ a, Z' a → ∃ o, H' a = some o
theorem Grow.refl {Z : Addr → Prop} {H : Hp} (t : ∀ a, Z a → ∃ o, H a = some o) : Grow Z H Z H := ⟨fun _ h => h, fun _ h => .inl h, fun _ _ h => h, t⟩
theorem Grow.gr {Z Z' : Addr → Prop} {H H' : Hp} (g : Grow Z H Z' H') : Gr Z Z' H H' := .of g.sub (fun a o _ h => g.ext a o h) fun a xs h => g.ext a _ h
theorem Grow.step {B : Wd} {Z Z' : Addr → Prop} {H H' : Hp} {σ : L2.St} {env : Env} {F : List Addr} (g : Grow Z H Z' H') (s : Stt B Z H σ env F) : Step Z H F Z' H' F where
  sub := g.sub
  new := fun a h => h.elim (fun h => (g.new a h).imp id .inr) fun h => .inr (.inl h)
  oth := fun a o h _ => g.ext a o h
  nd := s.nd
  dz := fun a h hz => by
    rcases g.new a hz with q | q
    · exact s.dz a h q
    · have := s.env.mutb a h
      rw [q] at this; exact this
  trk := g.trk
theorem Grow.stt {B : Wd} {Z Z' : Addr → Prop} {H H' : Hp} {σ : L2.St} {env : Env} {F : List Addr} (g : Grow Z H Z' H') (s : Stt B Z H σ env F) : Stt B Z' H' σ env F :=
  Step.stt (fp := []) (g.step s) (s.env.mono g.gr fun a _ o h => g.ext a o h)
/-- the iterator J gives what means ds -/
def Yields (B : Wd) (J : It) (Z : Addr → Prop) (H : Hp) (ds : List D) : Prop := ∀ (Z' : Addr → Prop) (H' : Hp), Gr Z Z' H H' → (∀ a, Z' a → ∃ o, H' a = some o) →
  (∀ (i : Nat) (d : D), ds[i]? = some d → J.go i H' ∧ ∀ x H'', J.yld i H' x H'' → ∃ Z'', Grow Z' H' Z'' H'' ∧ Rep B Z'' H'' d x) ∧ J.stop ds.length H'

section
variable {B : Wd} {X : Cx} {C : Cfg} {W : WX} {P : List (Nat × V)}
/-- what an iterable means -/
def PostI (B : Wd) (W : WX) (σ : L2.St) (Z : Addr → Prop) (H : Hp) (F : List Addr) (n : Bool) (env : Env) (k : IK) (R' : It → Hp → Prop) : R (List OV) → Prop
  | .ok os env1 => match walkOf k (os.map fun v => .fr v.view) with
    | some ds => ∀ J Z' H' F', EnvR B Z' H' env1 σ F' → Step Z H F Z' H' F' → Quiet n env env1 F F' H H' → Yields B J Z' H' ds → R' J H'
    | none => False
  | .exc x env' => PostX B W σ Z H F x env'
  | .bad => False
def tI (B : Wd) (C : Cfg) (W : WX) (k : IK) (es : List E) (n : Bool) : TI := fun σ H R' => ∃ Z env F, Stt B Z H σ env F ∧ PostI B W σ Z H F n env k R' (evs C es n env)
/-- an iterable; tup: its target is a tuple -/
structure OkI (X : Cx) (B : Wd) (C : Cfg) (W : WX) (tg iter : Expr) (k : IK) (es : List E) : Prop where
  run : ∀ n, PI X tg iter (tI B C W k es n)
theorem yields_list (g : GX X B) {Z : Addr → Prop} {H : Hp} {a : Addr} {xs : List V} {ds : List D} (h : LstAt B Z H a xs) (r : Reps B Z H ds xs) : Yields B (Itl X.K a) Z H ds := fun Z' H' gr tr => by
  have h' := (h.mono gr).sq g.K
  have r' := r.mono gr
  refine ⟨fun i d hd => ?_, xs, h', by rw [r.length]; exact Nat.le_refl _⟩
  obtain ⟨x, hx, rx⟩ := r'.get hd
  refine ⟨⟨xs, x, h', hx⟩, fun x' H'' ⟨e, y⟩ => ?_⟩
  subst e
  have e2 := y xs h'
  rw [hx] at e2; cases e2
  exact ⟨Z', .refl tr, rx⟩
theorem yields_tup (g : GX X B) {Z : Addr → Prop} {H : Hp} {a : Addr} {xs : List V} {ds : List D} (h : TupAt B Z H a xs) (r : Reps B Z H ds xs) : Yields B (Itt X.K a) Z H ds := fun Z' H' gr tr => by
  have h' := (h.mono gr).sq g.K
  have r' := r.mono gr
  refine ⟨fun i d hd => ?_, xs, h', by rw [r.length]; exact Nat.le_refl _⟩
  obtain ⟨x, hx, rx⟩ := r'.get hd
  refine ⟨⟨xs, x, h', hx⟩, fun x' H'' ⟨e, y⟩ => ?_⟩
  subst e
  have e2 := y xs h'
  rw [hx] at e2; cases e2
  exact ⟨Z', .refl tr, rx⟩
theorem yields_range {Z : Addr → Prop} {H : Hp} {lo : Int} {m : Nat} : Yields B (Itr lo m) Z H (rangeD lo m) := fun Z' H' gr tr => by
  have hl : (rangeD lo m).length = m := by simp [rangeD]
  refine ⟨fun i d hd => ?_, show m ≤ (rangeD lo m).length by rw [hl]; exact Nat.le_refl _⟩
  have hi : i < m := by rw [← hl]; exact (List.getElem?_eq_some_iff.mp hd).1
  refine ⟨hi, fun x H'' ⟨e, e2⟩ => ?_⟩
  subst e; subst e2
  refine ⟨Z', .refl tr, ?_⟩
  have : d = .int (lo + (i : Int)) := by
    unfold rangeD at hd
    rw [List.getElem?_map, List.getElem?_range hi, Option.map_some, Option.some.injEq] at hd
    exact hd.symm
  subst this
  exact rep_int
theorem yields_enum (g : GX X B) {Z : Addr → Prop} {H : Hp} {a : Addr} {xs : List V} {ds : List D} (h : LstAt B Z H a xs) (r : Reps B Z H ds xs) : Yields B (Ite X.K a) Z H ((ds.zipIdx).map fun p => .tup [.int p.2, p.1]) := fun Z' H' gr tr => by
  have h' := (h.mono gr).sq g.K
  have r' := r.mono gr
  refine ⟨fun i d hd => ?_, xs, h', by simp [r.length]⟩
  rw [List.getElem?_map, List.getElem?_zipIdx] at hd
  cases hds : ds[i]? with
  | none => rw [hds] at hd; simp at hd
  | some d0 =>
    rw [hds] at hd
    simp only [Option.map_some, Option.some.injEq, Nat.zero_add] at hd
    subst hd
    obtain ⟨x, hx, rx⟩ := r'.get hds
    refine ⟨⟨xs, x, h', hx⟩, fun x' H'' ⟨T, x2, e1, hT, e2, y⟩ => ?_⟩
    subst e1; subst e2
    have e3 := y xs h'
    rw [hx] at e3; cases e3
    refine ⟨fun b => Z' b ∨ b = T, ⟨fun _ h => .inl h, fun b hb => hb.imp id fun e => by rw [e]; exact hT, fun b o ho => by rw [upd_ne (ne_of_none ho hT)]; exact ho, fun b hb => ?_⟩, ?_⟩
    · rcases hb with hb | hb
      · obtain ⟨o, ho⟩ := tr b hb
        exact ⟨o, by rw [upd_ne (ne_of_none ho hT)]; exact ho⟩
      · subst hb; exact ⟨_, upd_same⟩
    · have r2 : Reps B Z' H' [.int (i : Nat), d0] [.int (i : Nat), x] := by
        simp only [Reps]
        exact ⟨_, _, rfl, rep_int, _, _, rfl, rx, rfl⟩
      exact rep_tupN hT r2
/-- from the values of an iterable to what it means -/
theorem PostVs.toI {n : Bool} {σ : L2.St} {Z : Addr → Prop} {H : Hp} {F : List Addr} {env : Env} {k : IK} {R' : It → Hp → Prop} {Q : List V → Hp → Prop} {r : R (List OV)} (q : PostI B W σ Z H F n env k R' r)
    (h : ∀ (os : List OV) (env1 : Env) (ds : List D) (vs : List V) (Z' : Addr → Prop) (H' : Hp) (F' : List Addr), walkOf k (os.map fun v => .fr v.view) = some ds → Reps B Z' H' (os.map OV.view) vs → EnvR B Z' H' env1 σ F' → (∀ J, Yields B J Z' H' ds → R' J H') → Q vs H') : PostVs B W σ Z H F n env Q r := by
  cases r with
  | bad => exact q
  | exc x e => exact q
  | ok os env1 =>
    intro vs Z1 H1 F1 fp r1 e1 t1 k1
    have q' : match walkOf k (os.map fun v => .fr v.view) with
      | some ds => ∀ J Z' H' F', EnvR B Z' H' env1 σ F' → Step Z H F Z' H' F' → Quiet n env env1 F F' H H' → Yields B J Z' H' ds → R' J H'
      | none => False := q
    cases hw : walkOf k (os.map fun v => .fr v.view) with
    | none => rw [hw] at q'; exact q'.elim
    | some ds =>
      rw [hw] at q'
      have t2 := t1.share r1.trk
      have g2 : Gr Z1 (fun a => Z1 a ∨ a ∈ fp) H1 H1 := .of (fun a h => .inl h) (fun _ _ _ h => h) (fun _ _ h => h)
      have r2 : Reps B (fun a => Z1 a ∨ a ∈ fp) H1 (os.map OV.view) vs := r1.share' g2 fun a ha => ⟨.inr ha, fun _ h => h⟩
      have e2 := e1.mono g2 fun a _ u h => h
      exact h os env1 ds vs _ H1 F1 hw r2 e2 fun J y => q' J _ H1 F1 e2 t2 k1 y
theorem oki_seq (g : GX X B) {e' tg : Expr} {e : E} (he : OkE X B C W e' e) : OkI X B C W tg e' .seq [e] := ⟨fun n => ⟨fun pins s σ H R' I ⟨Z, env, F, st, q⟩ => by
  refine thn (one_val (he.ve n) I (Q := fun vs H1 => ∃ v ds Z', vs = [v] ∧ (∃ d, walkOf .seq [.fr d] = some ds ∧ Rep B Z' H1 d v) ∧ ∀ J, Yields B J Z' H1 ds → R' J H1) ⟨Z, env, F, st, PostVs.toI q fun os env1 ds vs Z' H' F' hw rs e1 hR => ?_⟩) fun u s1 ⟨v, H1, I1, rv, q1⟩ => ?_
  · cases os with
    | nil => simp [walkOf, wSeq] at hw
    | cons o os =>
      cases os with
      | cons o2 os => simp [walkOf, wSeq] at hw
      | nil =>
        simp only [List.map_cons, List.map_nil, Reps] at rs
        obtain ⟨v, _, rfl, r1, rfl⟩ := rs
        exact ⟨v, ds, Z', rfl, ⟨o.view, hw, r1⟩, hR⟩
  · obtain ⟨v', ds, Z', e0, ⟨d, hw, r1⟩, hR⟩ := vs_end q1
    cases e0
    simp only [walkOf, wSeq, items] at hw
    cases d with
    | lst xs =>
      simp only [Option.some.injEq] at hw
      subst hw
      simp only [Rep] at r1
      obtain ⟨a, vs, rfl, hl, hr⟩ := r1
      cases rv
      obtain ⟨its, rv, p, hz⟩ := I1.list (hl.sq g.K)
      refine wpAny_pyIter_list p.isList ?_
      refine ⟨s1.heap.objs.size, [s1.heap.objs.size], _, _, H1, rfl, I1.kept (t' := s1.toks) fun b o e => Heap.get?_push_of_some _ e, turn_list a _, ⟨_, Heap.get?_push_size _ rfl, rfl, rfl⟩, fun b hb => ?_, hR _ (yields_list g hl hr)⟩
      have e : b = s1.heap.objs.size := by simpa using hb
      subst e
      exact I1.fpOk (Nat.le_refl _) (I1.hok.fresh (Nat.le_refl _))
    | tup xs =>
      simp only [Option.some.injEq] at hw
      subst hw
      simp only [Rep] at r1
      obtain ⟨a, vs, rfl, hl, hr⟩ := r1
      cases rv
      obtain ⟨its, rv, p, hz⟩ := I1.tuple (hl.sq g.K)
      refine wpAny_pyIter_tuple (show s1.heap.IsTuple a its.toArray from p) ?_
      refine ⟨s1.heap.objs.size, [s1.heap.objs.size], _, _, H1, rfl, I1.kept (t' := s1.toks) fun b o e => Heap.get?_push_of_some _ e, turn_tuple a _, ⟨_, Heap.get?_push_size _ rfl, rfl, rfl⟩, fun b hb => ?_, hR _ (yields_tup g hl hr)⟩
      have e : b = s1.heap.objs.size := by simpa using hb
      subst e
      exact I1.fpOk (Nat.le_refl _) (I1.hok.fresh (Nat.le_refl _))
    | _ => simp at hw⟩⟩
theorem numOk_iff {i : Int} (h : numOk i = true) : -(2 ^ 62) ≤ i ∧ i < 2 ^ 62 := by
  unfold numOk at h
  rw [Bool.and_eq_true, decide_eq_true_eq, decide_eq_true_eq] at h
  exact h
theorem oki_range1 {a' tg : Expr} {a : E} {p pos : Pos} (ha : OkA X B C W [a'] [a]) (hg : Gl X "range") (hm : X.mg "range" = none) (hn : NoStar a') : OkI X B C W tg (.Call (.Name "range" p) [a'] [] pos) .range1 [a] := ⟨fun n => by
  have base := pi_range1 (tg := tg) (p := p) (pos := pos) hg hm (ha.vs n) (hn [] X.env)
  refine ⟨fun pins s σ H R' I ⟨Z, env, F, st, q⟩ => base.run pins s σ H R' I ⟨Z, env, F, st, PostVs.toI q fun os env1 ds vs Z' H' F' hw rs e1 hR => ?_⟩⟩
  have hw' : wRange1 (os.map fun v => .fr v.view) = some ds := hw
  unfold wRange1 at hw'
  split at hw'
  · rename_i j h2
    split at hw'
    · rename_i hb
      obtain ⟨b1, b2⟩ := numOk_iff hb
      simp only [Option.some.injEq] at hw'
      subst hw'
      have hos : os.map OV.view = [.int j] := by
        have := congrArg (List.map OV.view) h2
        simpa [List.map_map, Function.comp_def, OV.view] using this
      rw [hos] at rs
      simp only [Reps, Rep] at rs
      obtain ⟨v, _, rfl, rfl, rfl⟩ := rs
      exact ⟨j, rfl, b1, b2, hR _ yields_range⟩
    · cases hw'
  · cases hw'⟩
theorem oki_range2 {a' b' tg : Expr} {a b : E} {p pos : Pos} (ha : OkA X B C W [a', b'] [a, b]) (hg : Gl X "range") (hm : X.mg "range" = none) (hn : NoStar a') (hn2 : NoStar b') : OkI X B C W tg (.Call (.Name "range" p) [a', b'] [] pos) .range2 [a, b] := ⟨fun n => by
  have base := pi_range2 (tg := tg) (p := p) (pos := pos) hg hm (ha.vs n) (by rw [hn, hn2]; rfl) (hn2 [] X.env)
  refine ⟨fun pins s σ H R' I ⟨Z, env, F, st, q⟩ => base.run pins s σ H R' I ⟨Z, env, F, st, PostVs.toI q fun os env1 ds vs Z' H' F' hw rs e1 hR => ?_⟩⟩
  have hw' : wRange2 (os.map fun v => .fr v.view) = some ds := hw
  unfold wRange2 at hw'
  split at hw'
  · rename_i i j h2
    split at hw'
    · rename_i hb
      rw [Bool.and_eq_true] at hb
      obtain ⟨b1, b2⟩ := numOk_iff hb.1
      obtain ⟨b3, b4⟩ := numOk_iff hb.2
      simp only [Option.some.injEq] at hw'
      subst hw'
      have hos : os.map OV.view = [.int i, .int j] := by
        have := congrArg (List.map OV.view) h2
        simpa [List.map_map, Function.comp_def, OV.view] using this
      rw [hos] at rs
      simp only [Reps, Rep] at rs
      obtain ⟨v, _, rfl, rfl, u, _, rfl, rfl, rfl⟩ := rs
      exact ⟨i, j, rfl, ⟨b1, b2, b3, b4⟩, hR _ yields_range⟩
    · cases hw'
  · cases hw'⟩
theorem oki_enum (g : GX X B) {a' : Expr} {a : E} {p pos tpos : Pos} {elts : List Expr} {kk : Nat} (ha : OkA X B C W [a'] [a]) (hg : Gl X "enumerate") (hm : X.mg "enumerate" = none) (hn : NoStar a') : OkI X B C W (.Tuple elts kk tpos) (.Call (.Name "enumerate" p) [a'] [] pos) .enum [a] := ⟨fun n => by
  have base := pi_enum (elts := elts) (kk := kk) (tpos := tpos) (p := p) (pos := pos) hg hm (ha.vs n) (hn [] X.env)
  refine ⟨fun pins s σ H R' I ⟨Z, env, F, st, q⟩ => base.run pins s σ H R' I ⟨Z, env, F, st, PostVs.toI q fun os env1 ds vs Z' H' F' hw rs e1 hR => ?_⟩⟩
  have hw' : wEnum (os.map fun v => .fr v.view) = some ds := hw
  cases os with
  | nil => cases hw'
  | cons o os =>
    cases os with
    | cons o2 os => cases hw'
    | nil =>
      simp only [List.map_cons, List.map_nil, wEnum] at hw'
      simp only [List.map_cons, List.map_nil, Reps] at rs
      obtain ⟨v, _, rfl, r1, rfl⟩ := rs
      generalize o.view = d at hw' r1
      cases d with
      | lst xs =>
        simp only [isLst, items, Bool.true_eq_false, if_false, Option.map_some, Option.some.injEq] at hw'
        subst hw'
        simp only [Rep] at r1
        obtain ⟨a, vs, rfl, hl, hr⟩ := r1
        exact ⟨a, vs, rfl, hl.sq g.K, hR _ (yields_enum g hl hr)⟩
      | _ => simp [isLst] at hw'⟩

/-! ### targets -/
mutual
theorem bindT_length {prot : List Nat} : ∀ {t : T} {d : D} {env env' : Env}, bindT prot t d env = some env' → env'.length = env.length
  | .nm i, d, env, env', h => by
    simp only [bindT, Env.put] at h
    split at h
    · cases h
    · split at h
      · simp only [Option.some.injEq] at h
        subst h; simp
      · cases h
  | .tup ts, d, env, env', h => by
    cases d with
    | tup ds => simp only [bindT] at h; exact bindTs_length h
    | _ => simp [bindT] at h
theorem bindTs_length {prot : List Nat} : ∀ {t : List T} {d : List D} {env env' : Env}, bindTs prot t d env = some env' → env'.length = env.length
  | [], [], env, env', h => by simp only [bindTs, Option.some.injEq] at h; rw [h]
  | t :: ts, d :: ds, env, env', h => by
    simp only [bindTs] at h
    obtain ⟨e1, h1, h2⟩ := Option.bind_eq_some_iff.mp h
    rw [bindTs_length h2, bindT_length h1]
  | [], _ :: _, env, env', h => by simp [bindTs] at h
  | _ :: _, [], env, env', h => by simp [bindTs] at h
end
theorem bindTs_len {prot : List Nat} : ∀ {ts : List T} {ds : List D} {env env' : Env}, bindTs prot ts ds env = some env' → ds.length = ts.length
  | [], [], _, _, _ => rfl
  | t :: ts, d :: ds, env, env', h => by
    simp only [bindTs] at h
    obtain ⟨e1, _, h2⟩ := Option.bind_eq_some_iff.mp h
    simp [bindTs_len h2]
  | [], _ :: _, env, env', h => by simp [bindTs] at h
  | _ :: _, [], env, env', h => by simp [bindTs] at h
/-- the states agree off the slots is -/
theorem wipe_set {σ : L2.St} {i : Nat} {x : Option V} : ∀ {is : List Nat}, i ∈ is → wipe (σ.set i x) is = wipe σ is
  | [], h => by cases h
  | j :: is, h => by
    simp only [wipe]
    by_cases hm : i ∈ is
    · rw [wipe_set hm]
    · have hj : i = j := by
        rcases List.mem_cons.mp h with h | h
        · exact h
        · exact absurd h hm
      subst hj
      have : ∀ {ks : List Nat}, i ∉ ks → wipe (σ.set i x) ks = (wipe σ ks).set i x := fun {ks} hk => by
        induction ks with
        | nil => rfl
        | cons k ks ih =>
          simp only [List.mem_cons, not_or] at hk
          simp only [wipe]
          rw [ih hk.2, List.set_comm _ _ hk.1]
      rw [this hm, List.set_set]
def Agree (is : List Nat) (σ σ' : L2.St) : Prop := ∀ js : List Nat, (∀ i ∈ is, i ∈ js) → wipe σ' js = wipe σ js
/-- a target's reading -/
def tG (B : Wd) (C : Cfg) (P : List (Nat × V)) (t : T) : TG := fun v σ H Q => ∃ Z env F d env', Stt B Z H σ env F ∧ Fixed P σ ∧ Rep B Z H d v ∧ bindT C.prot t d env = some env' ∧ ∀ σ' F', EnvR B Z H env' σ' F' → Fixed P σ' → Step Z H F Z H F' → Agree t.slots σ σ' → Q σ' H
def tGs (B : Wd) (C : Cfg) (P : List (Nat × V)) (ts : List T) : TGs := fun vs σ H Q => ∃ Z env F ds env', Stt B Z H σ env F ∧ Fixed P σ ∧ Reps B Z H ds vs ∧ bindTs C.prot ts ds env = some env' ∧ ∀ σ' F', EnvR B Z H env' σ' F' → Fixed P σ' → Step Z H F Z H F' → Agree (T.slots.slotsOf ts) σ σ' → Q σ' H
structure OkG (X : Cx) (B : Wd) (C : Cfg) (P : List (Nat × V)) (x : Expr) (t : T) : Prop where
  run : PG X x (tG B C P t)
structure OkGs (X : Cx) (B : Wd) (C : Cfg) (P : List (Nat × V)) (xs : List Expr) (ts : List T) : Prop where
  run : PGs X xs (tGs B C P ts)
  len : (assignEach xs X.env).length = ts.length
  star : (assignEach xs X.env).findIdx? (·.1) = none
theorem PG.imp {x : Expr} {t t' : TG} (h : PG X x t) (k : ∀ v σ H Q, t' v σ H Q → t v σ H Q) : PG X x t' := ⟨fun pins s σ H v u Q I r q => h.run pins s σ H v u Q I r (k v σ H Q q)⟩
theorem PGs.imp {x : List Expr} {t t' : TGs} (h : PGs X x t) (k : ∀ v σ H Q, t' v σ H Q → t v σ H Q) : PGs X x t' := ⟨fun pins s σ H v u Q I r q => h.run pins s σ H v u Q I r (k v σ H Q q)⟩
theorem okg_name (hP : ∀ p ∈ P, p.1 ∈ C.prot) {i : Nat} {x : Str} {pos : Pos} (hN : X.N.Nodup) (hi : X.N[i]? = some x) (hx : Loc X.env.scope x) (hf : X.fn x = true ∨ X.env.scope.names.lookup x = some .local) : OkG X B C P (.Name x pos) (.nm i) :=
  ⟨PG.imp (pg_name hN hi hx hf) fun v σ H Q ⟨Z, env, F, d, env', st, fx, r, hb, q⟩ => by
    simp only [bindT] at hb
    have r' : RepO B Z H (.fr d) v [] := by simp only [RepO]; exact ⟨r, trivial⟩
    obtain ⟨hn, F2, e2, t2⟩ := put_step r' st.env (st.refl) hb
    exact q _ F2 e2 (fx.set fun p hp e => hn (e ▸ hP p hp)) t2 fun js h => wipe_set (h i (by simp [T.slots]))⟩
theorem okg_tup (g : GX X B) {xs : List Expr} {ts : List T} {k : Nat} {pos : Pos} (h : OkGs X B C P xs ts) : OkG X B C P (.Tuple xs k pos) (.tup ts) :=
  ⟨PG.imp (pg_tup g.calm h.run h.len h.star) fun v σ H Q ⟨Z, env, F, d, env', st, fx, r, hb, q⟩ => by
    cases d with
    | tup ds =>
      simp only [bindT] at hb
      simp only [Rep] at r
      obtain ⟨a, vs, rfl, t, rs⟩ := r
      have hl : ds.length = ts.length := bindTs_len hb
      exact ⟨a, vs, rfl, t.sq g.K, by rw [rs.length, hl], Z, env, F, ds, env', st, fx, rs, hb, fun σ' F' a b c d => q σ' F' a b c (by simpa only [T.slots] using d)⟩
    | _ => simp [bindT] at hb⟩
theorem okgs_nil : OkGs X B C P [] [] where
  run := PGs.imp pgs_nil fun vs σ H Q ⟨Z, env, F, ds, env', st, fx, r, hb, q⟩ => by
    cases ds with
    | nil =>
      simp only [Reps] at r
      simp only [bindTs, Option.some.injEq] at hb
      subst hb
      exact ⟨r, q σ F st.env fx st.refl fun _ _ => rfl⟩
    | cons d ds => simp [bindTs] at hb
  len := rfl
  star := rfl
end
end Ev
/-! Ev30: for, while. -/
namespace Ev
open PySem PySem.Spec PyProof.Rows L2

theorem Gr.trans {Z Z1 Z2 : Addr → Prop} {H H1 H2 : Hp} (a : Gr Z Z1 H H1) (b : Gr Z1 Z2 H1 H2) : Gr Z Z2 H H2 where
  z := fun x h => b.z x (a.z x h)
  rd := fun x u h r => b.rd x u (a.z x h) (a.rd x u h r)
  ins := fun x C dx xs h r => b.ins x C dx xs (a.z x h) (a.ins x C dx xs h r)
  exn := fun x C xs h r => b.exn x C xs (a.z x h) (a.exn x C xs h r)
theorem Gr.refl {Z : Addr → Prop} {H : Hp} : Gr Z Z H H := .of (fun _ h => h) (fun _ _ _ h => h) (fun _ _ h => h)
/-- no star ahead of a target -/
def NoStarG (x : Expr) : Prop := ∀ (xs : List Expr) (env : PySem.Env), assignEach (x :: xs) env = (false, assign x env) :: assignEach xs env
section
variable {B : Wd} {X : Cx} {C : Cfg} {W : WX} {P : List (Nat × V)}
theorem okgs_cons {x : Expr} {xs : List Expr} {t : T} {ts : List T} (h : OkG X B C P x t) (hn : NoStarG x) (hs : OkGs X B C P xs ts) : OkGs X B C P (x :: xs) (t :: ts) where
  run := PGs.imp (pgs_cons h.run hs.run (by rw [hn]; rfl)) fun vs σ H Q ⟨Z, env, F, ds, env', st, fx, r, hb, q⟩ => by
    cases ds with
    | nil => simp [bindTs] at hb
    | cons d ds =>
      simp only [bindTs] at hb
      obtain ⟨env1, hb1, hb2⟩ := Option.bind_eq_some_iff.mp hb
      simp only [Reps] at r
      obtain ⟨v, vr, rfl, r1, r2⟩ := r
      exact ⟨v, vr, rfl, Z, env, F, d, env1, st, fx, r1, hb1, fun σ' F' e' fx' t' ag => ⟨Z, env1, F', ds, env', Step.stt (fp := []) t' e', fx', r2, hb2, fun σ'' F'' e'' fx'' t'' ag2 => q σ'' F'' e'' fx'' (t'.trans0 t'') fun js h => (ag2 js fun i hi => h i (by simp only [T.slots.slotsOf, List.mem_append]; exact .inr hi)).trans (ag js fun i hi => h i (by simp only [T.slots.slotsOf, List.mem_append]; exact .inl hi))⟩⟩
  len := by rw [hn, List.length_cons, List.length_cons, hs.len]
  star := by
    rw [hn, List.findIdx?_cons]
    simp [hs.star]
theorem PostS.bind {Z : Addr → Prop} {H : Hp} {F : List Addr} {D : Ends} {N : L2.St → Hp → Prop} {r : Ro} {f : Env → Ro} (q : PostS B W P Z H F D (r.bind f))
    (h : ∀ env1 σ' Z' H' F', EnvR B Z' H' env1 σ' F' → Fixed P σ' → Step Z H F Z' H' F' → PostS B W P Z H F D (f env1) → N σ' H') : PostS B W P Z H F { D with nx := N, ct := N, bk := D.nx } r := by
  cases r with
  | bad => exact q
  | next e => exact fun σ' Z' H' F' a b c => h e σ' Z' H' F' a b c q
  | ret r e => exact q
  | exc x e => exact q
theorem ok_fore (g : GX X B) {tg iter : Expr} {body : List Stmt} {t : T} {k : IK} {es : List E} {b : List S} {pos : Pos} (hp : PassesOwn (model X.prog X.w) X.A X.env X.xe) (hi : OkI X B C W tg iter k es) (hg : OkG X B C P tg t) (hb : OkSs X B C W P body b)
    (hs : ∀ x, foldedSetIterable iter X.env x = pure x) : OkS X B C W P (.For tg iter body [] pos) (.fore t k es b) :=
  ⟨PS.imp (ps_for hp g.calm (hi.run false) hg.run hb.run hs) fun D σ H ⟨Z, env, F, st, fx, q⟩ => by
    refine ⟨Z, env, F, st, ?_⟩
    simp only [exec] at q
    cases he : evs C es false env with
    | bad => rw [he] at q; exact q
    | exc x e =>
      rw [he] at q
      exact fun cls d Z' H' F' a b c => q σ cls d Z' H' F' a b fx c
    | ok os env1 =>
      rw [he] at q
      simp only [R.thn] at q
      unfold PostI
      simp only
      cases hw : walkOf k (os.map fun v => .fr v.view) with
      | none => rw [hw] at q; exact q
      | some ds =>
        rw [hw] at q
        simp only at q
        intro J Z1 H1 F1 e1 t1 k1 hy
        refine ⟨fun i m σ H => i ≤ ds.length ∧ m = ds.length - i ∧ ∃ Z2 env2 F2, Stt B Z2 H σ env2 F2 ∧ Fixed P σ ∧ Gr Z1 Z2 H1 H ∧ PostS B W P Z2 H F2 D (forL C.prot t (execs C b) (ds.drop i) env2), ⟨ds.length, Nat.zero_le _, by simp, Z1, env1, F1, Step.stt (fp := []) t1 e1, fx, .refl, by rw [List.drop_zero]; exact PostS.shift t1 q⟩, ?_⟩
        rintro i m σ H ⟨hi, rfl, Z2, env2, F2, st2, fx2, gr2, q2⟩
        obtain ⟨yg, ys⟩ := hy Z2 H gr2 st2.trk
        by_cases hlt : i < ds.length
        · refine .inr ?_
          have hd : ds[i]? = some ds[i] := List.getElem?_eq_getElem hlt
          obtain ⟨go, yl⟩ := yg i _ hd
          refine ⟨go, _, fun σ' H' hN => ⟨ds.length - (i + 1), by omega, hN⟩, fun x H' y => ?_⟩
          obtain ⟨Z3, gw, rx⟩ := yl x H' y
          rw [List.drop_eq_getElem_cons hlt] at q2
          simp only [forL] at q2
          cases hbt : bindT C.prot t ds[i] env2 with
          | none => rw [hbt] at q2; exact q2.elim
          | some env3 =>
            rw [hbt] at q2
            simp only at q2
            have st3 := gw.stt st2
            have q3 := PostS.shift (gw.step st2) q2
            refine ⟨Z3, env2, F2, ds[i], env3, st3, fx2, rx, hbt, fun σ' F' e' fx' t' _ => ⟨Z3, env3, F', Step.stt (fp := []) t' e', fx', PostS.bind (PostS.shift t' q3) fun env4 σ4 Z4 H4 F4 e4 fx4 t4 q4 => ?_⟩⟩
            exact ⟨hlt, rfl, Z4, env4, F4, Step.stt (fp := []) t4 e4, fx4, (gr2.trans gw.gr).trans ((Step.stt (fp := []) t' e').gr t4), PostS.shift t4 q4⟩
        · have e : i = ds.length := by omega
          subst e
          rw [List.drop_length] at q2
          simp only [forL] at q2
          exact .inl ⟨ys, q2 σ Z2 H F2 st2.env fx2 st2.refl⟩⟩
theorem ok_whil (g : GX X B) {c' : Expr} {body : List Stmt} {c : E} {b : List S} {pos : Pos} (hp : PassesOwn (model X.prog X.w) X.A X.env X.xe) (hc : PT X c' (tT B C W c false)) (hb : OkSs X B C W P body b) : OkS X B C W P (.While c' body [] pos) (.whil c b) :=
  ⟨PS.imp (ps_while hp hc hb.run) fun D σ H ⟨Z, env, F, st, fx, q⟩ => by
    simp only [exec] at q
    refine ⟨fun m σ H => ∃ Z2 env2 F2, Stt B Z2 H σ env2 F2 ∧ Fixed P σ ∧ PostS B W P Z2 H F2 D (whileL (test C c) (execs C b) m env2), ⟨C.fuel, Z, env, F, st, fx, q⟩, ?_⟩
    rintro m σ H ⟨Z2, env2, F2, st2, fx2, q2⟩
    cases m with
    | zero => exact q2.elim
    | succ m =>
      simp only [whileL] at q2
      refine ⟨Z2, env2, F2, st2, ?_⟩
      rw [test_tT] at q2
      cases h : (pkOr c env2 (ev C c false env2)).bind tru with
      | bad => rw [h] at q2; exact q2
      | exc x e =>
        rw [h] at q2
        exact fun cls d Z' H' F' a b c => q2 σ cls d Z' H' F' a b fx2 c
      | ok t env3 =>
        rw [h] at q2
        intro Z3 H3 F3 e3 t3 k3
        cases t with
        | true =>
          rw [if_pos rfl]
          refine ⟨fun σ' H' => ∃ Z2 env2 F2, Stt B Z2 H' σ' env2 F2 ∧ Fixed P σ' ∧ PostS B W P Z2 H' F2 D (whileL (test C c) (execs C b) m env2), fun σ' H' hN => ⟨m, Nat.lt_succ_self _, hN⟩, ?_⟩
          simp only [R.thn, if_true] at q2
          exact ⟨Z3, env3, F3, Step.stt (fp := []) t3 e3, fx2, PostS.bind (PostS.shift t3 q2) fun env4 σ4 Z4 H4 F4 e4 fx4 t4 q4 => ⟨Z4, env4, F4, Step.stt (fp := []) t4 e4, fx4, PostS.shift t4 q4⟩⟩
        | false =>
          rw [if_neg (by decide)]
          simp only [R.thn, Bool.false_eq_true, if_false] at q2
          exact q2 σ Z3 H3 F3 e3 fx2 t3⟩
end
end Ev
/-! Ev31: what a def promises; a def's body keeps it. -/
namespace Ev
open PySem PySem.Spec PyProof.Rows L2

/-- a def of the text, called where no repr is under way -/
structure FnG (P : Program) (w : World) (K : PySem.W.Frag) (mg : Str → Option Value) (base : Heap) (k : Nat) (f : Addr) (fd : FuncData) (ps : List Str) (sp : Sp) : Prop where
  len : ∀ vs H Q E, sp vs H Q E → vs.length = ps.length
  run : ∀ (A : Around) (outer : List PySem.Env) (s : Shared) (H : Hp) (args : Args) (us : List Value) (vs : List V) (Q : VK) (E : XK), A.guards = some [] → Room k A → Env0 P w K mg base A outer s H → BindsTo s fd args (ps.zip us) → Vals vs us → sp vs H Q E →
    codeAny (model P w) A (.call (.ref f) args) (CR (CX P w) outer P w H s Q E) s
theorem FnG.mono {P : Program} {w : World} {K : PySem.W.Frag} {mg : Str → Option Value} {base : Heap} {j k : Nat} {f : Addr} {fd : FuncData} {ps : List Str} {sp : Sp} (F : FnG P w K mg base j f fd ps sp) (h : j ≤ k) : FnG P w K mg base k f fd ps sp :=
  ⟨F.len, fun A outer s H args us vs Q E hg hr => F.run A outer s H args us vs Q E hg (hr.mono h)⟩
/-- a body keeps the promise -/
theorem fnG_of {P : Program} {w : World} {K : PySem.W.Frag} {mg : Str → Option Value} {base : Heap} {k : Nat} {f : Addr} {name qual : Str} {params : Arguments} {body : List Stmt} {scope : Scope} {dV kV doc pm cdv ct oc : Value} {an od : Option Addr}
    {osl : Array (Option Value)} {N ps : List Str} {sp : Sp} (lk : K.lookup f = some ⟨oc, od, .func (PySem.W.fnOf name qual params body scope dV kV doc pm an cdv ct), osl⟩) (hcd : PySem.W.codeIn K cdv qual = true) (S : FnScope N ps scope)
    (len : ∀ vs H Q E, sp vs H Q E → vs.length = ps.length)
    (hbody : ∀ (A : Around) (outer : List PySem.Env) (s : Shared) (H : Hp) (vs : List V) (Q : VK) (E : XK), A.guards = some [] → Room k (A.deeper (envOfC qual scope s.heap.objs.size f cdv)) → sp vs H Q E →
      ∃ t, PSs (cxOf (CX P w) P w K mg base N qual scope f cdv A outer s H E) body t ∧ t { nx := fun _ H' => Q .non H', rt := Q } (start N vs) H) :
    FnG P w K mg base (k + 1) f (PySem.W.fnOf name qual params body scope dV kV doc pm an cdv ct) ps sp where
  len := len
  run := fun A outer s H args us vs Q E hgd hroom env0 binds rel want => by
    have kIn : K.In s.heap := env0.mod.kin.keeps fun b o e => (env0.bs b o e).1
    have noLim : s.heap.NoLimit := env0.mod.nolimit.keeps fun b o e => (env0.bs b o e).1
    have kinds : ∀ y ∈ ps.zip us, scope.names.lookup y.1 = some .local ∨ (scope.names.lookup y.1 = some .cell ∧ ((cellsFrom (s.heap.objs.size + 1) scope.names []).lookup y.1).isSome = true) := by
      rintro ⟨n, v⟩ hy
      exact (S.par n (List.of_mem_zip hy).1).imp id fun q => ⟨q, PySem.W.cellsFrom_some _ _ _ (.inl q)⟩
    refine codeAny_call_function hroom.depth (kIn _ _ lk) rfl S.co S.gen rfl (PySem.W.codeRec_of kIn hcd) (binds _ _ _ _ ?_)
    refine wpAny_newFunctionEnv_cells S.kind kinds fun env he s1 inC => ?_
    subst he
    refine ⟨noLim.keeps inC.toInCall.keep, codeAny_func ?_⟩
    obtain ⟨t, ht, hq⟩ := hbody A outer s H vs Q E hgd (hroom.deeper _) want
    have J0 : Inv (cxOf (CX P w) P w K mg base N qual scope f cdv A outer s H E) [] (start N vs) H s1 := inv_start S hroom.hd env0 (len _ _ _ _ want) rel inC
    refine wpAny_mono (ht.run [] s1 (start N vs) H _ J0 hq) (fun fl s' hs => ?_) fun e s' hs => hs
    cases fl with
    | ret u =>
      obtain ⟨v, σ', H', J, rv, q⟩ := hs
      exact ⟨v, H', J.os, J.bare, J.base, J.hok, rv, q⟩
    | next =>
      obtain ⟨σ', H', J, q⟩ := hs
      exact ⟨V.non, H', J.os, J.bare, J.base, J.hok, rfl, q⟩
    | brk => exact hs.choose_spec.choose_spec.2.elim
    | cont => exact hs.choose_spec.choose_spec.2.elim

/-- the values of arguments that go in and out -/
def ioVals (io : List Nat) : Nat → List V → List V
  | _, [] => []
  | i, v :: vs => if i ∈ io then v :: ioVals io (i + 1) vs else ioVals io (i + 1) vs
/-- what a caller has behind a call -/
def PostC (B : Wd) (io : List Nat) (vs : List V) (Z : Addr → Prop) (H : Hp) (fps : List Addr) (Q : VK) (E : XK) : Rc → Prop
  | .ok r os => ∀ v Z' H' fp fo, RepO B Z' H' r v fp → RepOs B Z' H' os (ioVals io 0 vs) fo → Step Z H fps Z' H' (fp ++ fo) → Q v H'
  | .exc x os => ∀ cls d Z' H' fo, XR B Z' H' x cls d → RepOs B Z' H' os (ioVals io 0 vs) fo → Step Z H fps Z' H' fo → E cls d H'
  | .bad => False
/-- a def's promise by an evaluator's answer -/
def spE (B : Wd) (io : List Nat) (n : Nat) (call : List OV → Rc) : Sp := fun vs H Q E => vs.length = n ∧ ∃ Z os fps, RepOs B Z H os vs fps ∧ fps.Nodup ∧ (∀ a ∈ fps, ¬ Z a) ∧ (∀ a, Z a → ∃ u, H a = some u) ∧ PostC B io vs Z H fps Q E (call os)
section
variable {B : Wd} {Z : Addr → Prop} {H : Hp}
theorem EnvR.args : ∀ {os : List OV} {vs : List V} {fps : List Addr} (m : Nat), RepOs B Z H os vs fps → EnvR B Z H (os.map some ++ List.replicate m none) (vs.map some ++ List.replicate m none) fps
  | [], vs, fps, m, h => by
    simp only [RepOs] at h
    obtain ⟨rfl, rfl⟩ := h
    induction m with
    | zero => simp [EnvR]
    | succ m ih =>
      simp only [List.map_nil, List.nil_append, List.replicate_succ, EnvR]
      exact ⟨none, _, rfl, by simpa using ih⟩
  | o :: os, vs, fps, m, h => by
    simp only [RepOs] at h
    obtain ⟨x, r, f1, f2, rfl, h1, h2, rfl⟩ := h
    simp only [List.map_cons, List.cons_append, EnvR]
    exact ⟨x, _, f1, f2, rfl, h1, EnvR.args m h2, rfl⟩
theorem EnvR.outs {io : List Nat} : ∀ {env : Env} {σ : L2.St} {F : List Addr} {i k : Nat} {os : List OV} {vs : List V}, EnvR B Z H env σ F → outs io i k env = some os → vs.length = k → (∀ (j : Nat) (v : V), vs[j]? = some v → i + j ∈ io → σ[j]? = some (some v)) →
    ∃ fo rest, RepOs B Z H os (ioVals io i vs) fo ∧ F.Perm (fo ++ rest)
  | env, σ, F, i, 0, os, vs, h, e, hl, fx => by
    have : vs = [] := List.eq_nil_of_length_eq_zero hl
    subst this
    unfold Ev.outs at e
    simp only [Option.some.injEq] at e
    subst e
    exact ⟨[], F, by simp [RepOs, ioVals], .refl _⟩
  | [], σ, F, i, k + 1, os, vs, h, e, hl, fx => by
    unfold Ev.outs at e
    cases e
  | o :: env, σ, F, i, k + 1, os, [], h, e, hl, fx => by simp at hl
  | o :: env, σ, F, i, k + 1, os, v :: vs, h, e, hl, fx => by
    have fx' : ∀ (σ1 : L2.St) (x : Option V), σ = x :: σ1 → ∀ (j : Nat) (v' : V), vs[j]? = some v' → i + 1 + j ∈ io → σ1[j]? = some (some v') := fun σ1 x es j v' hj hi => by
      have := fx (j + 1) v' (by simpa using hj) (by rw [← Nat.add_assoc, Nat.add_right_comm]; exact hi)
      rw [es] at this
      simpa using this
    have hl' : vs.length = k := by simpa using hl
    simp only [Ev.outs] at e
    by_cases hi : i ∈ io
    · rw [if_pos hi] at e
      cases o with
      | none => simp at e
      | some o =>
        cases hr : Ev.outs io (i + 1) k env with
        | none => rw [hr] at e; simp at e
        | some r =>
          rw [hr] at e
          simp only [Option.some.injEq] at e
          subst e
          simp only [EnvR] at h
          obtain ⟨v', σ1, f1, F', rfl, h1, h2, rfl⟩ := h
          obtain ⟨fo, rest, h3, hp⟩ := EnvR.outs h2 hr hl' (fx' σ1 _ rfl)
          have ev : v' = v := by
            have := fx 0 v rfl (by simpa using hi)
            simpa using this
          subst ev
          refine ⟨f1 ++ fo, rest, ?_, by rw [List.append_assoc]; exact hp.append_left f1⟩
          simp only [ioVals, if_pos hi, RepOs]
          exact ⟨v', _, f1, fo, rfl, h1, h3, rfl⟩
    · rw [if_neg hi] at e
      cases o with
      | none =>
        simp only [EnvR] at h
        obtain ⟨x, σ1, rfl, h⟩ := h
        obtain ⟨fo, rest, h3, hp⟩ := EnvR.outs h e hl' (fx' σ1 _ rfl)
        exact ⟨fo, rest, by simp only [ioVals, if_neg hi]; exact h3, hp⟩
      | some o =>
        simp only [EnvR] at h
        obtain ⟨v', σ1, f1, F', rfl, h1, h2, rfl⟩ := h
        obtain ⟨fo, rest, h3, hp⟩ := EnvR.outs h2 e hl' (fx' σ1 _ rfl)
        exact ⟨fo, f1 ++ rest, by simp only [ioVals, if_neg hi]; exact h3, (hp.append_left f1).trans (perm_mid _ _ _)⟩
/-- the slots of parameters that go out -/
def ioFix (io : List Nat) (vs : List V) : List (Nat × V) := io.filterMap fun i => (vs[i]?).map fun v => (i, v)
theorem ioFix_mem {io : List Nat} {vs : List V} {p : Nat × V} (h : p ∈ ioFix io vs) : p.1 ∈ io ∧ vs[p.1]? = some p.2 := by
  unfold ioFix at h
  obtain ⟨i, hi, e⟩ := List.mem_filterMap.mp h
  obtain ⟨v, hv, e⟩ := Option.map_eq_some_iff.mp e
  subst e
  exact ⟨hi, hv⟩
theorem ioFix_of {io : List Nat} {vs : List V} {i : Nat} {v : V} (hi : i ∈ io) (hv : vs[i]? = some v) : (i, v) ∈ ioFix io vs :=
  List.mem_filterMap.mpr ⟨i, hi, by rw [hv]; rfl⟩
/-- a body that means a stripped body keeps the promise -/
theorem body_post {C : Cfg} {Fn0 : Fn} {W0 : XK} {N : List Str} {vs : List V} {Q : VK} (hN : N.length = Fn0.slots) (hps : Fn0.ps ≤ Fn0.slots) (h : spE B Fn0.io Fn0.ps (runFn C Fn0) vs H Q W0) :
    tSs B { C with prot := Fn0.io } (fun cls d _ H => W0 cls d H) (ioFix Fn0.io vs) Fn0.body { nx := fun _ H' => Q .non H', rt := Q } (start N vs) H := by
  obtain ⟨hl, Z, os, fps, ro, nd, dz, trk, q⟩ := h
  have hol : os.length = Fn0.ps := by rw [← hl, ro.length]
  unfold runFn at q
  rw [if_pos hol] at q
  have e0 : EnvR B Z H (os.map some ++ List.replicate (Fn0.slots - Fn0.ps) none) (start N vs) fps := by
    unfold L2.start
    rw [hN, hl]
    exact EnvR.args _ ro
  have fx0 : Fixed (ioFix Fn0.io vs) (start N vs) := fun p hp => by
    obtain ⟨_, hv⟩ := ioFix_mem hp
    unfold L2.start
    rw [List.getElem?_append_left (by simpa using (List.getElem?_eq_some_iff.mp hv).1), List.getElem?_map, hv]
    rfl
  refine ⟨Z, _, fps, ⟨e0, nd, dz, trk⟩, fx0, ?_⟩
  have fixV : ∀ {σ' : L2.St}, Fixed (ioFix Fn0.io vs) σ' → ∀ (j : Nat) (v : V), vs[j]? = some v → 0 + j ∈ Fn0.io → σ'[j]? = some (some v) := fun {σ'} hf j v hv hj => by
    rw [Nat.zero_add] at hj
    exact hf (j, v) (ioFix_of hj hv)
  cases hx : execs { C with prot := Fn0.io } Fn0.body (os.map some ++ List.replicate (Fn0.slots - Fn0.ps) none) with
  | bad => rw [hx] at q; exact q
  | next env =>
    rw [hx] at q
    simp only at q
    cases ho : Ev.outs Fn0.io 0 Fn0.ps env with
    | none => rw [ho] at q; exact q.elim
    | some r =>
      rw [ho] at q
      intro σ' Z' H' F' e1 fx t1
      obtain ⟨fo, rest, h3, hp⟩ := e1.outs ho hl (fixV fx)
      exact q .non Z' H' [] fo (by simp only [RepO, Rep]; exact ⟨trivial, trivial⟩) h3 ((t1.perm (hp.trans List.perm_append_comm)).drop)
  | ret v env =>
    rw [hx] at q
    simp only at q
    cases ho : Ev.outs Fn0.io 0 Fn0.ps env with
    | none => rw [ho] at q; exact q.elim
    | some r =>
      rw [ho] at q
      intro σ' x Z' H' F' fp r1 e1 fx t1
      obtain ⟨fo, rest, h3, hp⟩ := e1.outs ho hl (fixV fx)
      refine q x Z' H' fp fo r1 h3 (Step.drop (G' := rest) (t1.perm ?_))
      exact ((hp.append_left fp).trans (by rw [← List.append_assoc]; exact List.perm_append_comm))
  | exc x env =>
    rw [hx] at q
    simp only at q
    cases ho : Ev.outs Fn0.io 0 Fn0.ps env with
    | none => rw [ho] at q; exact q.elim
    | some r =>
      rw [ho] at q
      intro σ' cls d Z' H' F' xr e1 fx t1
      obtain ⟨fo, rest, h3, hp⟩ := e1.outs ho hl (fixV fx)
      exact q cls d Z' H' fo xr h3 ((t1.perm (hp.trans List.perm_append_comm)).drop)
end
end Ev
/-! Ev32: slots taken out and put back; arguments. -/
namespace Ev
open PySem PySem.Spec PyProof.Rows L2

section
variable {B : Wd} {Z : Addr → Prop} {H : Hp}
/-- an empty slot filled -/
theorem EnvR.fill : ∀ {env : Env} {σ : L2.St} {F : List Addr} {i : Nat} {o : OV} {v : V} {fp : List Addr}, EnvR B Z H env σ F → env[i]? = some none → σ[i]? = some (some v) → RepO B Z H o v fp → ∃ F2, EnvR B Z H (env.set i (some o)) σ F2 ∧ F2.Perm (fp ++ F)
  | [], σ, F, i, o, v, fp, h, hi, hs, r => by simp at hi
  | none :: env, σ, F, i, o, v, fp, h, hi, hs, r => by
    simp only [EnvR] at h
    obtain ⟨x, σr, rfl, h⟩ := h
    cases i with
    | zero =>
      have : x = some v := by simpa using hs
      subst this
      refine ⟨fp ++ F, ?_, .refl _⟩
      simp only [List.set_cons_zero, EnvR]
      exact ⟨v, σr, fp, F, rfl, r, h, rfl⟩
    | succ i =>
      obtain ⟨F2, h2, hp⟩ := EnvR.fill h (by simpa using hi) (by simpa using hs) r
      refine ⟨F2, ?_, hp⟩
      simp only [List.set_cons_succ, EnvR]
      exact ⟨x, _, rfl, h2⟩
  | some o0 :: env, σ, F, i, o, v, fp, h, hi, hs, r => by
    simp only [EnvR] at h
    obtain ⟨v0, σr, f0, F', rfl, h0, h, rfl⟩ := h
    cases i with
    | zero => simp at hi
    | succ i =>
      obtain ⟨F2, h2, hp⟩ := EnvR.fill h (by simpa using hi) (by simpa using hs) r
      refine ⟨f0 ++ F2, ?_, (hp.append_left f0).trans (perm_mid _ _ _)⟩
      simp only [List.set_cons_succ, EnvR]
      exact ⟨v0, _, f0, F2, rfl, h0, h2, rfl⟩
def putSlots (env : Env) : List Nat → List OV → Env
  | i :: is, o :: os => putSlots (env.set i (some o)) is os
  | _, _ => env
def getSlots (env : Env) : List Nat → Option (List OV)
  | [] => some []
  | i :: is => match env.at i, getSlots env is with
    | some o, some r => some (o :: r)
    | _, _ => none
theorem at_set_ne {env : Env} {i j : Nat} {x : Option OV} (h : i ≠ j) : Env.at (env.set i x) j = env.at j := by
  unfold Env.at
  rw [List.getElem?_set_ne h]
theorem getSlots_set {env : Env} {i : Nat} {x : Option OV} : ∀ {is : List Nat}, i ∉ is → getSlots (env.set i x) is = getSlots env is
  | [], _ => rfl
  | j :: is, h => by
    simp only [List.mem_cons, not_or] at h
    simp only [getSlots, at_set_ne h.1, getSlots_set h.2]
theorem putSlots_set {i : Nat} {x : Option OV} : ∀ {is : List Nat} {os : List OV} {env : Env}, i ∉ is → (putSlots env is os).set i x = putSlots (env.set i x) is os
  | [], os, env, _ => by cases os <;> rfl
  | j :: is, [], env, _ => rfl
  | j :: is, o :: os, env, h => by
    simp only [List.mem_cons, not_or] at h
    simp only [putSlots]
    rw [putSlots_set h.2, List.set_comm _ _ h.1]
theorem putSlots_at {i : Nat} : ∀ {is : List Nat} {os : List OV} {env : Env}, i ∉ is → (putSlots env is os)[i]? = env[i]?
  | [], os, env, _ => by cases os <;> rfl
  | j :: is, [], env, _ => rfl
  | j :: is, o :: os, env, h => by
    simp only [List.mem_cons, not_or] at h
    simp only [putSlots]
    rw [putSlots_at h.2, List.getElem?_set_ne (Ne.symm h.1)]
/-- some slots taken out, to be put back -/
theorem EnvR.take : ∀ {is : List Nat} {env : Env} {σ : L2.St} {F : List Addr} {os : List OV}, EnvR B Z H env σ F → is.Nodup → getSlots env is = some os →
    ∃ vs fps rest, Paired (fun i v => σ[i]? = some (some v)) is vs ∧ RepOs B Z H os vs fps ∧ F.Perm (fps ++ rest) ∧
      ∀ (Z' : Addr → Prop) (H' : Hp) (os' : List OV) (fps' : List Addr), Gr Z Z' H H' → Kept rest H H' → RepOs B Z' H' os' vs fps' → ∃ F', EnvR B Z' H' (putSlots env is os') σ F' ∧ F'.Perm (fps' ++ rest)
  | [], env, σ, F, os, h, nd, e => by
    simp only [getSlots, Option.some.injEq] at e
    subst e
    refine ⟨[], [], F, .nil, by simp [RepOs], .refl _, fun Z' H' os' fps' g k r => ?_⟩
    cases os' with
    | nil =>
      simp only [RepOs] at r
      rw [r.2]
      exact ⟨F, h.mono g k, .refl _⟩
    | cons o os' => simp only [RepOs] at r; obtain ⟨_, _, _, _, e, _⟩ := r; cases e
  | i :: is, env, σ, F, os, h, nd, e => by
    rw [List.nodup_cons] at nd
    simp only [getSlots] at e
    cases h1 : env.at i with
    | none => rw [h1] at e; simp at e
    | some o =>
      cases h2 : getSlots env is with
      | none => rw [h1, h2] at e; simp at e
      | some r =>
        rw [h1, h2] at e
        simp only [Option.some.injEq] at e
        subst e
        obtain ⟨v, fp, rest1, hv, hr, hpm, hset, hdel⟩ := h.at h1
        obtain ⟨F1, e1, p1⟩ := hdel Z H .refl (fun _ _ _ h => h)
        obtain ⟨vs, fps, rest, hp, hrs, hpm2, hput⟩ := EnvR.take (is := is) e1 nd.2 (by rw [getSlots_set nd.1]; exact h2)
        refine ⟨v :: vs, fp ++ fps, rest, .cons hv hp, ?_, ?_, fun Z' H' os' fps' g k r' => ?_⟩
        · simp only [RepOs]
          exact ⟨v, vs, fp, fps, rfl, hr, hrs, rfl⟩
        · rw [List.append_assoc]
          exact hpm.trans ((p1.symm.trans hpm2).append_left fp)
        · cases os' with
          | nil => simp only [RepOs] at r'; cases r'.1
          | cons o' os' =>
            simp only [RepOs] at r'
            obtain ⟨v', vr, f1, f2, e0, q1, q2, rfl⟩ := r'
            cases e0
            obtain ⟨F2, e2, p2⟩ := hput Z' H' os' f2 g k q2
            have hnone : (putSlots (env.set i none) is os')[i]? = some none := by
              rw [putSlots_at nd.1, List.getElem?_set]
              have hl : i < env.length := by
                unfold Env.at at h1
                cases e3 : env[i]? with
                | none => rw [e3] at h1; cases h1
                | some x => exact (List.getElem?_eq_some_iff.mp e3).1
              simp [hl]
            obtain ⟨F3, e3, p3⟩ := e2.fill hnone hv q1
            refine ⟨F3, ?_, p3.trans ?_⟩
            · rw [putSlots_set nd.1, List.set_set] at e3
              exact e3
            · rw [List.append_assoc]
              exact p2.append_left f1
end

/-! ### arguments -/
/-- arguments, evaluated: those at the places io are names -/
def ArgR (B : Wd) (Z : Addr → Prop) (H : Hp) (σ : L2.St) (io : List Nat) : Nat → List E → List (Option OV) → List V → Prop
  | _, [], ws, vs => ws = [] ∧ vs = []
  | i, e :: es, ws, vs => ∃ w wr v vr, ws = w :: wr ∧ vs = v :: vr ∧ ((i ∈ io ∧ w = none ∧ ∃ j, e = .var j ∧ σ[j]? = some (some v)) ∨ (i ∉ io ∧ ∃ d, w = some (.fr d) ∧ Rep B Z H d v)) ∧ ArgR B Z H σ io (i + 1) es wr vr
theorem ArgR.mono {B : Wd} {Z Z' : Addr → Prop} {H H' : Hp} {σ : L2.St} {io : List Nat} (g : Gr Z Z' H H') : ∀ {es : List E} {i : Nat} {ws : List (Option OV)} {vs : List V}, ArgR B Z H σ io i es ws vs → ArgR B Z' H' σ io i es ws vs
  | [], i, ws, vs, h => h
  | e :: es, i, ws, vs, ⟨w, wr, v, vr, e1, e2, h, r⟩ => ⟨w, wr, v, vr, e1, e2, h.imp id fun ⟨hn, d, e3, q⟩ => ⟨hn, d, e3, q.mono g⟩, ArgR.mono g r⟩
section
variable {B : Wd} {X : Cx} {C : Cfg} {W : WX}
def PostA (B : Wd) (W : WX) (σ : L2.St) (Z : Addr → Prop) (H : Hp) (F : List Addr) (n : Bool) (env : Env) (io : List Nat) (i : Nat) (es : List E) (Q : List V → Hp → Prop) : R (List (Option OV)) → Prop
  | .ok ws env' => ∀ vs Z' H' F', ArgR B Z' H' σ io i es ws vs → EnvR B Z' H' env' σ F' → Step Z H F Z' H' F' → Quiet n env env' F F' H H' → Q vs H'
  | .exc x env' => PostX B W σ Z H F x env'
  | .bad => False
def tA (B : Wd) (C : Cfg) (W : WX) (io : List Nat) (i : Nat) (es : List E) (n : Bool) : TA := fun σ H Q => ∃ Z env F, Stt B Z H σ env F ∧ PostA B W σ Z H F n env io i es Q (evargs C io i es n env)
structure OkR (X : Cx) (B : Wd) (C : Cfg) (W : WX) (io : List Nat) (i : Nat) (xs : List Expr) (es : List E) : Prop where
  pa : ∀ n, PA X xs (tA B C W io i es n)
  ns : NoStars xs
theorem OkR.nil {io : List Nat} {i : Nat} : OkR X B C W io i [] [] where
  pa := fun n => PA.imp pa_nil fun σ H Q ⟨Z, env, F, st, q⟩ => by
    simp only [evargs] at q
    exact q [] Z H F ⟨rfl, rfl⟩ st.env st.refl .refl
  ns := .nil
theorem OkR.io {io : List Nat} {i j : Nat} {x : Expr} {xs : List Expr} {es : List E} (hi : i ∈ io) (h : PE X x (tVar j)) (hn : NoStar x) (hs : OkR X B C W io (i + 1) xs es) : OkR X B C W io i (x :: xs) (.var j :: es) where
  pa := fun n => PA.imp (pa_cons h (hs.pa n) (hn xs X.env)) fun σ H Q ⟨Z, env, F, st, q⟩ => by
    simp only [evargs, if_pos hi] at q
    cases ha : env.at j with
    | none =>
      rw [if_neg (show ¬ isSlot env (.var j) = true by simp [isSlot, ha])] at q
      exact q.elim
    | some o =>
      rw [if_pos (show isSlot env (.var j) = true by simp [isSlot, ha])] at q
      obtain ⟨v, fp, rest, hv, _⟩ := st.env.at ha
      refine ⟨v, hv, Z, env, F, st, ?_⟩
      cases h2 : evargs C io (i + 1) es n env with
      | bad => rw [h2] at q; exact q
      | exc x e => rw [h2] at q; exact q
      | ok ws env2 =>
        rw [h2] at q
        intro vs Z' H' F' r e1 t1 k1
        exact q (v :: vs) Z' H' F' ⟨none, ws, v, vs, rfl, rfl, .inl ⟨hi, rfl, j, rfl, hv⟩, r⟩ e1 t1 k1
  ns := .cons hn hs.ns
theorem OkR.val {io : List Nat} {i : Nat} {x : Expr} {xs : List Expr} {e : E} {es : List E} (hi : i ∉ io) (h : OkE X B C W x e) (hn : NoStar x) (hs : OkR X B C W io (i + 1) xs es) : OkR X B C W io i (x :: xs) (e :: es) where
  pa := fun n => PA.imp (pa_cons (h.ve n) (hs.pa n) (hn xs X.env)) fun σ H Q ⟨Z, env, F, st, q⟩ => by
    refine ⟨Z, env, F, st, ?_⟩
    simp only [evargs, if_neg hi] at q
    cases h1 : ev C e n env with
    | bad => rw [h1] at q; exact q
    | exc x' env' => rw [h1] at q; exact q
    | ok o env1 =>
      rw [h1] at q
      simp only [R.bind] at q
      intro v Z1 H1 F1 fp1 r1 e1 t1 k1
      have t2 := t1.share r1.trk
      have g2 : Gr Z1 (fun a => Z1 a ∨ a ∈ fp1) H1 H1 := .of (fun a h => .inl h) (fun _ _ _ h => h) (fun _ _ h => h)
      have rv : Rep B (fun a => Z1 a ∨ a ∈ fp1) H1 o.view v := RepO.share g2 (fun a ha => ⟨.inr ha, fun _ h => h⟩) r1
      have e2 := e1.mono g2 fun a _ u h => h
      have st2 := Step.stt (fp := []) t2 e2
      refine ⟨_, env1, F1, st2, ?_⟩
      cases h2 : evargs C io (i + 1) es n env1 with
      | bad => rw [h2] at q; exact q
      | exc x e =>
        rw [h2] at q
        exact PostX.trans (G := []) t2 (fun _ z => by cases z) q
      | ok ws env2 =>
        rw [h2] at q
        intro vs Z' H' F' r e3 t3 k3
        exact q (v :: vs) Z' H' F' ⟨some (.fr o.view), ws, v, vs, rfl, rfl, .inr ⟨hi, o.view, rfl, rv.mono (st2.gr t3)⟩, r⟩ e3 (t2.trans0 t3) (k1.trans k3)
  ns := .cons hn hs.ns
end
end Ev
/-! Ev33: calls of defs. -/
namespace Ev
open PySem PySem.Spec PyProof.Rows L2

section
variable {B : Wd} {Z : Addr → Prop} {H : Hp} {σ : L2.St} {io : List Nat}
theorem ArgR.slots : ∀ {es : List E} {i : Nat} {ws : List (Option OV)} {vs : List V}, ArgR B Z H σ io i es ws vs → ∃ is : List Nat, outsOf ws es = is.map E.var ∧ Paired (fun j v => σ[j]? = some (some v)) is (ioVals io i vs)
  | [], i, ws, vs, ⟨e1, e2⟩ => by subst e1; subst e2; exact ⟨[], rfl, .nil⟩
  | e :: es, i, ws, vs, ⟨w, wr, v, vr, e1, e2, h, r⟩ => by
    subst e1; subst e2
    obtain ⟨is, h1, h2⟩ := ArgR.slots r
    rcases h with ⟨hi, rfl, j, rfl, hv⟩ | ⟨hi, d, rfl, _⟩
    · refine ⟨j :: is, by simp only [outsOf, h1, List.map_cons], ?_⟩
      simp only [ioVals, if_pos hi]
      exact .cons hv h2
    · refine ⟨is, by simp only [outsOf, h1], ?_⟩
      simp only [ioVals, if_neg hi]
      exact h2
theorem ArgR.length : ∀ {es : List E} {i : Nat} {ws : List (Option OV)} {vs : List V}, ArgR B Z H σ io i es ws vs → vs.length = es.length
  | [], i, ws, vs, ⟨e1, e2⟩ => by subst e2; rfl
  | e :: es, i, ws, vs, ⟨w, wr, v, vr, e1, e2, h, r⟩ => by subst e2; simp [ArgR.length r]
theorem ArgR.reps {env : Env} : ∀ {es : List E} {i : Nat} {ws : List (Option OV)} {vs : List V} {as : List OV} {is : List Nat}, ArgR B Z H σ io i es ws vs → argsOf env ws es = some as → outsOf ws es = is.map E.var →
    ∃ os, getSlots env is = some os ∧ ∀ fps, RepOs B Z H os (ioVals io i vs) fps → RepOs B Z H as vs fps
  | [], i, ws, vs, as, is, ⟨e1, e2⟩, ha, ho => by
    subst e1; subst e2
    simp only [argsOf, Option.some.injEq] at ha
    subst ha
    cases is with
    | nil => exact ⟨[], rfl, fun fps h => h⟩
    | cons _ _ => simp [outsOf] at ho
  | e :: es, i, ws, vs, as, is, ⟨w, wr, v, vr, e1, e2, h, r⟩, ha, ho => by
    subst e1; subst e2
    rcases h with ⟨hi, rfl, j, rfl, hv⟩ | ⟨hi, d, rfl, hd⟩
    · simp only [outsOf] at ho
      cases is with
      | nil => simp at ho
      | cons j' is =>
        simp only [List.map_cons, List.cons.injEq, E.var.injEq] at ho
        obtain ⟨rfl, ho⟩ := ho
        simp only [argsOf, pk] at ha
        cases h1 : env.at j with
        | none => rw [h1] at ha; simp at ha
        | some o =>
          cases h2 : argsOf env wr es with
          | none => rw [h1, h2] at ha; simp at ha
          | some ar =>
            rw [h1, h2] at ha
            simp only [Option.some.injEq] at ha
            subst ha
            obtain ⟨os, h3, h4⟩ := ArgR.reps r h2 ho
            refine ⟨o :: os, by simp only [getSlots, h1, h3], fun fps hr => ?_⟩
            simp only [ioVals, if_pos hi, RepOs] at hr
            obtain ⟨v', vr', f1, f2, e0, q1, q2, rfl⟩ := hr
            cases e0
            simp only [RepOs]
            exact ⟨v, vr, f1, f2, rfl, q1, h4 f2 q2, rfl⟩
    · simp only [outsOf] at ho
      simp only [argsOf, Option.map_eq_some_iff] at ha
      obtain ⟨ar, h2, rfl⟩ := ha
      obtain ⟨os, h3, h4⟩ := ArgR.reps r h2 ho
      refine ⟨os, h3, fun fps hr => ?_⟩
      simp only [ioVals, if_neg hi] at hr
      simp only [RepOs]
      exact ⟨v, vr, [], fps, rfl, by simp only [RepO]; exact ⟨hd, trivial⟩, h4 fps hr, rfl⟩
theorem apart_nodup : ∀ {is : List Nat}, apart (is.map E.var) = true → is.Nodup
  | [], _ => List.nodup_nil
  | i :: is, h => by
    simp only [List.map_cons, apart, Bool.and_eq_true, List.all_eq_true] at h
    refine List.nodup_cons.mpr ⟨fun hm => ?_, apart_nodup h.2⟩
    have := h.1 (.var i) (List.mem_map.mpr ⟨i, hm, rfl⟩)
    simp [rootOf] at this
theorem putPaths_slots : ∀ {is : List Nat} {os : List OV} {env env' : Env}, putPaths env (is.map E.var) os = some env' → env' = putSlots env is os ∧ (is = [] → os = [])
  | [], [], env, env', h => by
    simp only [List.map_nil, putPaths, Option.some.injEq] at h
    exact ⟨h.symm, fun _ => rfl⟩
  | [], _ :: _, env, env', h => by simp [putPaths] at h
  | _ :: _, [], env, env', h => by simp [putPaths] at h
  | i :: is, o :: os, env, env', h => by
    simp only [List.map_cons, putPaths, pput] at h
    cases h1 : env.at i with
    | none => rw [h1] at h; simp at h
    | some x =>
      rw [h1] at h
      simp only at h
      exact ⟨(putPaths_slots h).1, fun z => by cases z⟩
theorem Paired.uniq {is : List Nat} {vs us : List V} (h : Paired (fun j v => σ[j]? = some (some v)) is vs) (h' : Paired (fun j v => σ[j]? = some (some v)) is us) : vs = us := by
  induction h generalizing us with
  | nil => cases h'; rfl
  | cons a b ih =>
    cases h' with
    | cons a' b' =>
      rw [a] at a'
      cases a'
      rw [ih b']
end
section
variable {B : Wd} {X : Cx} {C : Cfg} {W0 : XK}
abbrev W1 (W0 : XK) : WX := fun cls d _ H => W0 cls d H
theorem fin_post {σ : L2.St} {Z : Addr → Prop} {H : Hp} {F : List Addr} {n : Bool} {env : Env} {io : List Nat} {es : List E} {ws : List (Option OV)} {vs : List V} {Q : VK} {call : List OV → Rc} (st : Stt B Z H σ env F) (ar : ArgR B Z H σ io 0 es ws vs)
    (q : PostE B (W1 W0) σ Z H F n env Q (finish call n es ws env)) : ∃ os fps, RepOs B Z H os vs fps ∧ fps.Nodup ∧ (∀ a ∈ fps, ¬ Z a) ∧ (∀ a, Z a → ∃ u, H a = some u) ∧ PostC B io vs Z H fps Q W0 (call os) := by
  obtain ⟨is, ho, hp⟩ := ar.slots
  unfold finish at q
  simp only [ho] at q
  split at q
  · exact q.elim
  · rename_i hq
    split at q
    · rename_i hap
      have nd := apart_nodup hap
      cases ha : argsOf env ws es with
      | none => rw [ha] at q; exact q.elim
      | some as =>
        rw [ha] at q
        simp only at q
        obtain ⟨os, hg, hrep⟩ := ar.reps ha ho
        obtain ⟨us, fps, rest, hp2, hro, hpm, hput⟩ := st.env.take nd hg
        cases Paired.uniq hp2 hp
        have hra := hrep fps hro
        have ndF := List.nodup_append.mp (hpm.nodup_iff.mp st.nd)
        have dz : ∀ a ∈ fps, ¬ Z a := fun a h => st.dz a (hpm.symm.subset (List.mem_append_left _ h))
        refine ⟨as, fps, hra, ndF.1, dz, st.trk, ?_⟩
        have kp : ∀ {Z' : Addr → Prop} {H' : Hp} {G : List Addr}, Step Z H fps Z' H' G → Kept rest H H' := fun t b hb o h => t.oth b o h fun hf => ndF.2.2 b hf b hb rfl
        have trF : ∀ a ∈ rest, ∃ u, H a = some u := fun a h => st.env.trk a (hpm.symm.subset (List.mem_append_right _ h))
        have trP : ∀ a ∈ fps, ∃ u, H a = some u := fun a h => st.env.trk a (hpm.symm.subset (List.mem_append_left _ h))
        have quiet : ∀ {env' : Env} {F' : List Addr} {Z' : Addr → Prop} {H' : Hp} {G fo : List Addr} {rs : List OV} {ys : List V}, Step Z H fps Z' H' G → env' = putSlots env is rs → (is = [] → rs = []) → RepOs B Z' H' rs ys fo → EnvR B Z' H' env' σ F' → F'.Perm (fo ++ rest) → n = true → env' = env ∧ H = H ∧ (∀ a u, H a = some u → H' a = some u) ∧ is = [] := fun t e1 e2 _ _ _ hn => by
          have his : is = [] := by
            subst hn
            simp only [Bool.true_and, Bool.not_eq_true', Bool.not_eq_false, Bool.not_eq_true] at hq
            cases is with
            | nil => rfl
            | cons _ _ => simp at hq
          subst his
          have hf : fps = [] := by
            simp only [getSlots, Option.some.injEq] at hg
            subst hg
            simp only [RepOs] at hro
            exact hro.2
          subst hf
          refine ⟨?_, rfl, fun a u h => t.oth a u h (by simp), rfl⟩
          rw [e1, e2 rfl]; rfl
        cases hc : call as with
        | bad => rw [hc] at q; exact q
        | ok r outs =>
          rw [hc] at q
          simp only at q
          cases hpp : putPaths env (is.map E.var) outs with
          | none => rw [hpp] at q; exact q.elim
          | some env' =>
            rw [hpp] at q
            obtain ⟨e1, e2⟩ := putPaths_slots hpp
            intro v Z' H' fp fo r1 ro t1
            have gr := t1.gr (fun a ha => hro.mutb a ha) dz
            obtain ⟨F', e3, p3⟩ := hput Z' H' outs fo gr (kp t1) ro
            have t2 := Step.more (st.refl.perm hpm) trF trP t1
            by_cases hn : n = true
            · obtain ⟨q1, _, q3, his⟩ := quiet t1 e1 e2 ro (by rw [e1]; exact e3) p3 hn
              subst his
              have hfo : fo = [] := by
                rw [e2 rfl] at ro
                simp only [RepOs] at ro
                exact ro.2
              have hf : fps = [] := by
                simp only [getSlots, Option.some.injEq] at hg
                subst hg
                simp only [RepOs] at hro
                exact hro.2
              subst hfo
              subst hf
              rw [e1, e2 rfl] at q
              have eF : EnvR B Z' H' env σ F := st.env.mono gr fun a ha u hu => q3 a u hu
              refine q v Z' H' F fp r1 eF (t2.perm ?_) fun _ => ⟨rfl, rfl, q3⟩
              rw [List.append_assoc]
              exact (hpm.symm).append_left fp
            · refine q v Z' H' F' fp r1 (by rw [e1]; exact e3) (t2.perm ?_) fun z => absurd z hn
              rw [List.append_assoc]
              exact (p3.symm).append_left fp
        | exc x outs =>
          rw [hc] at q
          simp only at q
          cases hpp : putPaths env (is.map E.var) outs with
          | none => rw [hpp] at q; exact q.elim
          | some env' =>
            rw [hpp] at q
            obtain ⟨e1, e2⟩ := putPaths_slots hpp
            intro cls d Z' H' fo xr ro t1
            have gr := t1.gr (fun a ha => hro.mutb a ha) dz
            obtain ⟨F', e3, p3⟩ := hput Z' H' outs fo gr (kp t1) ro
            have t2 := Step.more (st.refl.perm hpm) trF trP t1
            exact q cls d Z' H' F' xr (by rw [e1]; exact e3) (t2.perm p3.symm)
    · exact q.elim
end
end Ev
/-! Ev34: calls of defs as expressions. -/
namespace Ev
open PySem PySem.Spec PyProof.Rows L2

section
variable {B : Wd} {X : Cx} {C : Cfg} {W0 : XK} {k : Nat} {f C0 : Addr} {fd : FuncData} {ps : List Str} {sp : Sp} {x : Str} {p pos : Pos}
/-- a def of the text is run -/
theorem runG {pins : List (Addr × Obj)} {σ : L2.St} {H : Hp} {s : Shared} {Q : VK} {E : XK} {us : List Value} {kw : List (Str × Value)} {ws : List Value} {vs : List V} (F : FnG X.prog X.w X.K X.mg X.base k f fd ps sp) (hg : X.A.guards = some []) (hr : Room k X.A) (hb : BindsTo s fd ⟨us, kw⟩ (ps.zip ws))
    (hx : Passes (CX X.prog X.w) X E) (I : Inv X pins σ H s) (r : Vals vs ws) (h : sp vs H Q E) : wpAny (model X.prog X.w) X.A (call (.ref f) us kw) (EP X pins σ Q) X.xe s :=
  wpAny_call (codeAny_mono (F.run X.A X.stack s H ⟨us, kw⟩ ws vs Q E hg hr I.env0 hb r h) fun res s' hq => by
    match res, hq with
    | .error e, hq => exact hx pins σ H s e s' I hq
    | .ok (.ret u), hq => exact I.after hq
    | .ok .next, hq => exact hq.elim
    | .ok .brk, hq => exact hq.elim
    | .ok .cont, hq => exact hq.elim)
theorem passes1 (tk : Takes X (W1 W0)) : Passes (CX X.prog X.w) X W0 := passes_call tk fun _ _ _ _ h => h
/-- from the arguments to the call -/
theorem args_sp {σ : L2.St} {H : Hp} {n : Bool} {es : List E} {io : List Nat} {Q : VK} {cl : List OV → Rc} (h : ∃ Z env F, Stt B Z H σ env F ∧ PostE B (W1 W0) σ Z H F n env Q ((evargs C io 0 es n env).bind fun vs env1 => finish cl n es vs env1)) :
    tA B C (W1 W0) io 0 es n σ H fun vs H1 => spE B io es.length cl vs H1 Q W0 := by
  obtain ⟨Z, env, F, st, q⟩ := h
  refine ⟨Z, env, F, st, ?_⟩
  cases h1 : evargs C io 0 es n env with
  | bad => rw [h1] at q; exact q
  | exc x e => rw [h1] at q; exact q
  | ok ws env1 =>
    rw [h1] at q
    intro vs Z' H' F' ar e1 t1 k1
    have st1 := Step.stt (fp := []) t1 e1
    obtain ⟨os, fps, a1, a2, a3, a4, a5⟩ := fin_post st1 ar (PostE.shift t1 k1 q)
    exact ⟨ar.length, Z', os, fps, a1, a2, a3, a4, a5⟩
theorem ok_call (g : GX X B) (tk : Takes X (W1 W0)) {nm : String} {e' : Expr} {es' : List Expr} {es : List E} (F : FnG X.prog X.w X.K X.mg X.base k f fd ps (spE B (C.io nm) es.length (C.call nm))) (hr : Room k X.A) (hgl : Gl X x) (hm : X.mg x = some (.ref f)) (hk : PySem.W.keepIn X.K (.ref f) = true) (hb : Binds X.K fd ps [])
    (ha : OkR X B C (W1 W0) (C.io nm) 0 (e' :: es') es) (hdb : (x == ("__debug__" : Str)) = false) : OkE X B C (W1 W0) (.Call (.Name x p) (e' :: es') [] pos) (.call nm es) :=
  OkE.plain g rfl (fun n => ⟨fun pins s σ H Q I ⟨Z, env, Fp, st, q⟩ => by
    have hst : starEach (e' :: es') X.env = (false, eval e' X.env) :: starEach es' X.env := by
      cases ha.ns with
      | cons h1 h2 => exact h1 es' X.env
    have hpl : (backTo pos (starEach es' X.env)).any (·.1) = false := by
      cases ha.ns with
      | cons h1 h2 => exact h2.plain
    simp only [ev] at q
    refine wpAny_Call_Name_kw (ld_glob I hgl hm ?_ hdb)
    refine PySem.W.callWith_K (h₀ := X.base) I.ok.mod.kin hk (thn ((ha.pa n).run pos pins s σ H _ I (args_sp ⟨Z, env, Fp, st, q⟩)) fun us s1 ⟨vs, H1, I1, r, q1⟩ => ⟨I1.kIn, ?_⟩) hst hpl
    have hl : (us ++ []).length = ps.length := by rw [List.append_nil, ← r.length]; exact F.len _ _ _ _ q1
    have b := hb s1 us I1.kIn hl
    rw [List.append_nil] at b
    exact runG F g.guards hr b (passes1 tk) I1 r q1⟩) (fun _ => rfl)
/-- without arguments -/
theorem ok_call0 (g : GX X B) (tk : Takes X (W1 W0)) {nm : String} (F : FnG X.prog X.w X.K X.mg X.base k f fd ps (spE B (C.io nm) 0 (C.call nm))) (hr : Room k X.A) (hgl : Gl X x) (hm : X.mg x = some (.ref f)) (hk : PySem.W.keepIn X.K (.ref f) = true) (hb : Binds X.K fd ps [])
    (hdb : (x == ("__debug__" : Str)) = false) : OkE X B C (W1 W0) (.Call (.Name x p) [] [] pos) (.call nm []) :=
  OkE.plain g rfl (fun n => ⟨fun pins s σ H Q I ⟨Z, env, Fp, st, q⟩ => by
    simp only [ev] at q
    have h1 := args_sp (C := C) (io := C.io nm) (cl := C.call nm) ⟨Z, env, Fp, st, q⟩
    obtain ⟨Z1, env1, F1, st1, q1⟩ := h1
    simp only [evargs] at q1
    have q2 := q1 [] Z1 H F1 ⟨rfl, rfl⟩ st1.env st1.refl .refl
    refine wpAny_Call_Name_kw (ld_glob I hgl hm ?_ hdb)
    have hl : (([] : List Value) ++ []).length = ps.length := by
      have := F.len _ _ _ _ q2
      simpa using this
    have b := hb s [] I.kIn hl
    exact PySem.W.callWith_K0 I.kIn hk (runG (us := []) F g.guards hr b (passes1 tk) I .nil q2)⟩) (fun _ => rfl)
end
end Ev
/-! Ev35: comprehensions. -/
namespace Ev
open PySem PySem.Spec PyProof.Rows L2

section
variable {B : Wd} {Z : Addr → Prop} {H : Hp}
/-- a slot emptied, on both sides or not -/
theorem EnvR.none1 : ∀ {env : Env} {σ : L2.St} {F : List Addr} {i : Nat} {x : Option V}, EnvR B Z H env σ F → ∃ F' dr, EnvR B Z H (env.set i none) (σ.set i x) F' ∧ F.Perm (dr ++ F')
  | [], σ, F, i, x, h => by
    simp only [EnvR] at h
    obtain ⟨rfl, rfl⟩ := h
    exact ⟨[], [], by simp [EnvR], .refl _⟩
  | none :: env, σ, F, i, x, h => by
    simp only [EnvR] at h
    obtain ⟨y, σr, rfl, h⟩ := h
    cases i with
    | zero => exact ⟨F, [], by simp only [List.set_cons_zero, EnvR]; exact ⟨x, σr, rfl, h⟩, .refl _⟩
    | succ i =>
      obtain ⟨F', dr, h2, hp⟩ := EnvR.none1 (i := i) (x := x) h
      exact ⟨F', dr, by simp only [List.set_cons_succ, EnvR]; exact ⟨y, _, rfl, h2⟩, hp⟩
  | some o :: env, σ, F, i, x, h => by
    simp only [EnvR] at h
    obtain ⟨v0, σr, f0, F1, rfl, h0, h, rfl⟩ := h
    cases i with
    | zero => exact ⟨F1, f0, by simp only [List.set_cons_zero, EnvR]; exact ⟨x, σr, rfl, h⟩, .refl _⟩
    | succ i =>
      obtain ⟨F', dr, h2, hp⟩ := EnvR.none1 (i := i) (x := x) h
      refine ⟨f0 ++ F', dr, ?_, (hp.append_left f0).trans (perm_mid _ _ _)⟩
      simp only [List.set_cons_succ, EnvR]
      exact ⟨v0, _, f0, F', rfl, h0, h2, rfl⟩
theorem wipe_comm {σ : L2.St} {v : Nat} : ∀ {is : List Nat}, (wipe σ is).set v none = wipe (σ.set v none) is
  | [] => rfl
  | i :: is => by
    simp only [wipe]
    rw [← wipe_comm (is := is)]
    by_cases h : i = v
    · subst h; rw [List.set_set]
    · rw [List.set_comm _ _ h]
theorem EnvR.wiped : ∀ {is : List Nat} {env : Env} {σ : L2.St} {F : List Addr}, EnvR B Z H env σ F → ∃ F' dr, EnvR B Z H (wipeE env is) (wipe σ is) F' ∧ F.Perm (dr ++ F')
  | [], env, σ, F, h => ⟨F, [], h, .refl _⟩
  | i :: is, env, σ, F, h => by
    obtain ⟨F1, d1, h1, p1⟩ := h.none1 (i := i) (x := none)
    obtain ⟨F2, d2, h2, p2⟩ := EnvR.wiped (is := is) h1
    refine ⟨F2, d1 ++ d2, ?_, p1.trans (by rw [List.append_assoc]; exact p2.append_left d1)⟩
    have e1 : wipeE env (i :: is) = wipeE (env.set i none) is := rfl
    have e2 : wipe σ (i :: is) = wipe (σ.set i none) is := by
      simp only [wipe]
      exact wipe_comm
    rw [e1, e2]
    exact h2
/-- where the slots have no value, any state will do -/
theorem EnvR.anyOf : ∀ {env : Env} {σ σ' : L2.St} {F : List Addr}, EnvR B Z H env σ F → σ'.length = σ.length → (∀ (i : Nat) (o : OV), env[i]? = some (some o) → σ'[i]? = σ[i]?) → EnvR B Z H env σ' F
  | [], σ, σ', F, h, hl, k => by
    simp only [EnvR] at h ⊢
    obtain ⟨rfl, rfl⟩ := h
    exact ⟨List.eq_nil_of_length_eq_zero (by simpa using hl), rfl⟩
  | none :: env, σ, σ', F, h, hl, k => by
    simp only [EnvR] at h ⊢
    obtain ⟨y, σr, rfl, h⟩ := h
    cases σ' with
    | nil => simp at hl
    | cons y' σ' => exact ⟨y', σ', rfl, EnvR.anyOf h (by simpa using hl) fun i o hi => by simpa using k (i + 1) o (by simpa using hi)⟩
  | some o :: env, σ, σ', F, h, hl, k => by
    simp only [EnvR] at h ⊢
    obtain ⟨v0, σr, f0, F1, rfl, h0, h, rfl⟩ := h
    cases σ' with
    | nil => simp at hl
    | cons y' σ' =>
      have := k 0 o rfl
      simp only [List.getElem?_cons_zero, Option.some.injEq] at this
      subst this
      exact ⟨v0, σ', f0, F1, rfl, h0, EnvR.anyOf h (by simpa using hl) fun i o hi => by simpa using k (i + 1) o (by simpa using hi), rfl⟩
theorem wipeE_at : ∀ {is : List Nat} {env : Env} {i : Nat} {o : OV}, (wipeE env is)[i]? = some (some o) → i ∉ is ∧ env[i]? = some (some o)
  | [], env, i, o, h => ⟨by simp, h⟩
  | j :: is, env, i, o, h => by
    have h' : (wipeE (env.set j none) is)[i]? = some (some o) := h
    obtain ⟨h1, h2⟩ := wipeE_at h'
    have hne : j ≠ i := fun e => by
      subst e
      rw [List.getElem?_set] at h2
      split at h2
      · split at h2 <;> simp at h2
      · exact absurd rfl ‹_›
    rw [List.getElem?_set_ne hne] at h2
    exact ⟨by simp only [List.mem_cons, not_or]; exact ⟨Ne.symm hne, h1⟩, h2⟩
theorem wipe_at : ∀ {is : List Nat} {σ : L2.St} {i : Nat}, i ∉ is → (wipe σ is)[i]? = σ[i]?
  | [], σ, i, _ => rfl
  | j :: is, σ, i, h => by
    simp only [List.mem_cons, not_or] at h
    simp only [wipe]
    rw [List.getElem?_set_ne (Ne.symm h.1), wipe_at h.2]
/-- back from a block: the names of its own have no value -/
theorem EnvR.back {env : Env} {σ σ2 : L2.St} {F : List Addr} {is : List Nat} (h : EnvR B Z H env σ2 F) (e : wipe σ2 is = wipe σ is) : ∃ F' dr, EnvR B Z H (wipeE env is) (wipe σ is) F' ∧ F.Perm (dr ++ F') := by
  obtain ⟨F', dr, h1, p1⟩ := h.wiped (is := is)
  rw [e] at h1
  exact ⟨F', dr, h1, p1⟩
theorem EnvR.out {env : Env} {σ : L2.St} {F : List Addr} {is : List Nat} (h : EnvR B Z H (wipeE env is) (wipe σ is) F) : EnvR B Z H (wipeE env is) σ F :=
  h.anyOf (by rw [wipe_length]) fun i o hi => (wipe_at (wipeE_at hi).1).symm
end
end Ev
/-! Ev36: list comprehensions with one for. -/
namespace Ev
open PySem PySem.Spec PyProof.Rows L2

abbrev WF : WX := fun _ _ _ _ => False
theorem wipe_idem {σ : L2.St} : ∀ {is : List Nat}, wipe (wipe σ is) is = wipe σ is
  | [] => rfl
  | i :: is => by
    have h : wipe ((wipe σ is).set i none) is = (wipe (wipe σ is) is).set i none := wipe_comm.symm
    show (wipe ((wipe σ is).set i none) is).set i none = _
    rw [h, wipe_idem, List.set_set]
    rfl
/-- what is owned elsewhere stays apart -/
theorem Step.apart {Z Z' : Addr → Prop} {H H' : Hp} {F G : List Addr} (t : Step Z H F Z' H' G) {a : Addr} {o : HO} (h : H a = some o) (hf : a ∉ F) (hz : ¬ Z a) : a ∉ G ∧ ¬ Z' a ∧ H' a = some o :=
  ⟨fun hm => (t.new a (.inr hm)).elim hz fun q => q.elim hf fun q => (by rw [h] at q; cases q), fun hm => (t.new a (.inl hm)).elim hz fun q => q.elim hf fun q => (by rw [h] at q; cases q), t.oth a o h hf⟩
/-- a write to what is owned -/
theorem Step.write {Z Z' : Addr → Prop} {H H' : Hp} {F G : List Addr} {a : Addr} {u : HO} (t : Step Z H F Z' H' G) (ha : a ∈ G) : Step Z H F Z' (upd H' a u) G where
  sub := t.sub
  new := t.new
  oth := fun b o h hf => by
    have hne : b ≠ a := fun e => by
      subst e
      rcases t.new b (.inr ha) with q | q | q
      · exact t.dz b ha (t.sub b q)
      · exact hf q
      · rw [h] at q; cases q
    rw [upd_ne hne]
    exact t.oth b o h hf
  nd := t.nd
  dz := t.dz
  trk := fun b hb => by
    have hne : b ≠ a := fun e => by subst e; exact t.dz b ha hb
    rw [upd_ne hne]
    exact t.trk b hb
section
variable {B : Wd} {X : Cx} {C : Cfg} {W : WX}
def tEv (B : Wd) (C : Cfg) (cond : List E) : TT := fun σ H Q => ∃ Z env F, Stt B Z H σ env F ∧ PostT B WF σ Z H F false env Q (evt C cond false env)
theorem pts_none {X : Cx} : PTs X [] (tEv B C []) := ⟨fun pins s σ H Q I ⟨Z, env, F, st, q⟩ => by
  simp only [evt] at q
  exact pts_nil.run pins s σ H Q I (q Z H F st.env st.refl .refl)⟩
theorem pts_cond {X : Cx} {c' : Expr} {c : E} (h : PT X c' (tT B C WF c false)) : PTs X [c'] (tEv B C [c]) := ⟨fun pins s σ H Q I ⟨Z, env, F, st, q⟩ => by
  refine (pts_one h).run pins s σ H Q I ⟨Z, env, F, st, ?_⟩
  simp only [evt] at q
  cases h1 : pkOr c env (ev C c false env) with
  | bad => rw [h1] at q; exact q
  | exc x e => rw [h1] at q; exact q
  | ok o env1 =>
    rw [h1] at q
    simp only [R.bind, tru] at q ⊢
    cases h2 : truth o with
    | none => rw [h2] at q; exact q
    | some b => rw [h2] at q; cases b <;> exact q⟩
/-- what a block needs -/
structure OkBlk (X : Cx) (B : Wd) (C : Cfg) (tg : Expr) (ifs : List Expr) (elt' : Expr) (scope : Scope) (t : T) (cond : List E) (elt : E) : Prop where
  hg : ∀ (s : Shared) (H : Hp) (C0 : Addr) (cl : List (Str × Addr)) (fp : List Addr), OkG (X.blk s H scope (compEnvC scope cl C0 X.env) fp) B C [] tg t
  ht : ∀ (s : Shared) (H : Hp) (C0 : Addr) (cl : List (Str × Addr)) (fp : List Addr), PTs (X.blk s H scope (compEnvC scope cl C0 X.env) fp) ifs (tEv B C cond)
  he : ∀ (s : Shared) (H : Hp) (C0 : Addr) (cl : List (Str × Addr)) (fp : List Addr), PE (X.blk s H scope (compEnvC scope cl C0 X.env) fp) elt' (tE B C WF elt false)
theorem comp_post {σ : L2.St} {Z : Addr → Prop} {H : Hp} {F : List Addr} {env : Env} {Q : VK} {elt : E} {t : T} {k : IK} {es cond : List E} (st : Stt B Z H σ env F) (q : PostE B W σ Z H F false env Q (ev C (.comp elt t k es cond) false env)) :
    tLc (tI B C W k es false) (tG B C [] t) (tEv B C cond) (tE B C WF elt false) t.slots σ H Q := by
  simp only [ev, Bool.false_eq_true, if_false] at q
  refine ⟨Z, env, F, st, ?_⟩
  cases he : evs C es false env with
  | bad => rw [he] at q; exact q
  | exc x e => rw [he] at q; exact q
  | ok os env1 =>
    rw [he] at q
    simp only [R.bind] at q
    unfold PostI
    simp only
    cases hw : walkOf k (os.map fun v => .fr v.view) with
    | none => rw [hw] at q; exact q
    | some ds =>
      rw [hw] at q
      simp only at q
      intro J Z1 H1 F1 e1 t1 k1 hy D hD
      obtain ⟨F0, d0, e0, p0⟩ := e1.wiped (is := t.slots)
      have t0 : Step Z H F Z1 H1 F0 := (t1.perm p0).drop
      have grD := gr_upd (u := .lst []) (Z := Z1) (Z' := Z1) hD fun _ h => h
      have extD : ∀ a u, H1 a = some u → upd H1 D (.lst []) a = some u := fun a u hu => by rw [upd_ne (ne_of_none hu hD)]; exact hu
      refine ⟨fun i m Hc => i ≤ ds.length ∧ m = ds.length - i ∧ ∃ Z2 env0 F2 acc accV fpa, EnvR B Z2 Hc (wipeE env0 t.slots) (wipe σ t.slots) F2 ∧ Step Z H F Z2 Hc ((D :: fpa) ++ F2) ∧ Hc D = some (.lst accV) ∧ RepOs B Z2 Hc acc accV fpa ∧ Gr Z1 Z2 H1 Hc ∧
        PostE B W σ Z H F false env Q ((turns C.prot t.slots t (oneStep false (fun _ env => evt C cond false env) (ev C elt false)) (ds.drop i) acc (wipeE env0 t.slots)).bind fun acc env2 => .ok (.lst acc) env2), ⟨ds.length, Nat.zero_le _, by simp, Z1, env1, F0, [], [], [], e0.mono grD fun a _ u hu => extD a u hu, ?_, upd_same, by simp [RepOs], grD, by rw [List.drop_zero]; exact q⟩, ?_⟩
      · exact t0.made (fp := []) (fun a ha => e0.trk a ha) hD
      · rintro i m Hc ⟨hi, rfl, Z2, env0, F2, acc, accV, fpa, e2, S2, hDc, rA, gr2, q2⟩
        have ndS := List.nodup_append.mp S2.nd
        have st2 : Stt B Z2 Hc (wipe σ t.slots) (wipeE env0 t.slots) F2 := ⟨e2, ndS.2.1, fun a h => S2.dz a (List.mem_append_right _ h), S2.trk⟩
        have dF2 : D ∉ F2 := fun h => ndS.2.2 D List.mem_cons_self D h rfl
        have dZ2 : ¬ Z2 D := S2.dz D (List.mem_append_left _ List.mem_cons_self)
        obtain ⟨yg, ys⟩ := hy Z2 Hc gr2 st2.trk
        by_cases hlt : i < ds.length
        · refine .inr ?_
          have hd : ds[i]? = some ds[i] := List.getElem?_eq_getElem hlt
          obtain ⟨go, yl⟩ := yg i _ hd
          refine ⟨go, _, fun H' hN => ⟨ds.length - (i + 1), by omega, hN⟩, fun x H' y => ?_⟩
          obtain ⟨Z3, gw, rx⟩ := yl x H' y
          rw [List.drop_eq_getElem_cons hlt] at q2
          simp only [turns] at q2
          cases hbt : bindT C.prot t ds[i] (wipeE env0 t.slots) with
          | none => rw [hbt] at q2; exact q2.elim
          | some env3 =>
            rw [hbt] at q2
            simp only at q2
            have st3 := gw.stt st2
            refine ⟨Z3, _, F2, ds[i], env3, st3, (fun p hp => by cases hp), rx, hbt, fun σ' F' e' _ t' ag => ⟨(ag t.slots fun i hi => hi).trans wipe_idem, ?_⟩⟩
            have st' := Step.stt (fp := []) t' e'
            have u1 : Step Z2 Hc F2 Z3 H' F' := (gw.step st2).trans0 t'
            have agw : wipe σ' t.slots = wipe σ t.slots := (ag t.slots fun i hi => hi).trans wipe_idem
            refine ⟨Z3, env3, F', st', ?_⟩
            cases hc : evt C cond false env3 with
            | bad => rw [oneStep, hc] at q2; exact q2.elim
            | exc x e => rw [oneStep, hc] at q2; exact q2.elim
            | ok b env4 =>
              rw [oneStep, hc] at q2
              intro Z4 H4 F4 e4 t4 k4
              have u2 := u1.trans0 t4
              have st4 := Step.stt (fp := []) t4 e4
              cases b with
              | false =>
                simp only [Bool.false_eq_true, if_false]
                simp only [R.bind, R.noexc, Bool.false_eq_true, if_false] at q2
                obtain ⟨F5, d5, e5, p5⟩ := e4.back agw
                obtain ⟨n4, z4, h4⟩ := u2.apart hDc dF2 dZ2
                have S4 : Step Z H F Z4 H4 ((D :: fpa) ++ F4) := S2.trans (fun a ha => by
                  rcases List.mem_cons.mp ha with e | ha
                  · subst e; exact ⟨_, hDc⟩
                  · exact rA.trk a ha) u2
                refine ⟨hlt, trivial, Z4, env4, F5, acc, accV, fpa, e5, ?_, h4, rA.mono (st2.gr u2) fun a ha u hu => u2.oth a u hu fun hf => ndS.2.2 a (List.mem_cons_of_mem _ ha) a hf rfl, gr2.trans (st2.gr u2), q2⟩
                exact Step.drop (G' := d5) (S4.perm ((p5.append_left _).trans (perm_mid _ _ _)))
              | true =>
                simp only [if_true]
                simp only [R.bind, if_true] at q2
                refine ⟨Z4, env4, F4, st4, ?_⟩
                cases hv : ev C elt false env4 with
                | bad => rw [hv] at q2; exact q2.elim
                | exc x e => rw [hv] at q2; exact q2.elim
                | ok v env5 =>
                  rw [hv] at q2
                  intro yv Z5 H5 F5 fpy r5 e5 t5 k5
                  have u3 := u2.trans0 t5
                  obtain ⟨n5, z5, h5⟩ := u3.apart hDc dF2 dZ2
                  simp only [R.noexc] at q2
                  by_cases hsz : sizeB (acc.length + 1) = true
                  · simp only [hsz, if_true] at q2
                    have hlen : accV.length < sizeLine := by
                      rw [rA.length]
                      have := sizeB_le hsz
                      omega
                    refine ⟨accV, h5, hlen, ?_⟩
                    obtain ⟨F6, d6, e6, p6⟩ := e5.back agw
                    have S5 : Step Z H F Z5 H5 ((D :: fpa) ++ (fpy ++ F5)) := S2.trans (fun a ha => by
                      rcases List.mem_cons.mp ha with e | ha
                      · subst e; exact ⟨_, hDc⟩
                      · exact rA.trk a ha) u3
                    have S6 : Step Z H F Z5 H5 ((D :: (fpa ++ fpy)) ++ F6) := by
                      refine Step.drop (G' := d6) (S5.perm ?_)
                      have p7 : ((D :: fpa) ++ (fpy ++ F5)).Perm ((D :: (fpa ++ fpy)) ++ (d6 ++ F6)) := by
                        rw [List.cons_append, List.cons_append, ← List.append_assoc]
                        exact (p6.append_left _).cons D
                      exact p7.trans (perm_mid _ _ _)
                    have nd6 := List.nodup_append.mp S6.nd
                    have ndc := List.nodup_cons.mp nd6.1
                    have d6F : D ∉ F6 := fun h => nd6.2.2 D List.mem_cons_self D h rfl
                    have mu : Mut (H5 D) := by rw [h5]; trivial
                    have grW : Gr Z5 Z5 H5 (upd H5 D (.lst (accV ++ [yv]))) := gr_write z5 mu
                    have kfa : Kept fpa Hc H5 := fun a ha u hu => u3.oth a u hu fun hf => ndS.2.2 a (List.mem_cons_of_mem _ ha) a hf rfl
                    have rA5 := (rA.mono (st2.gr u3) kfa).mono grW (kept_write (H := H5) (R := fpa) fun h => ndc.1 (List.mem_append_left _ h))
                    have ry5 := r5.mono grW (kept_write (H := H5) (R := fpy) fun h => ndc.1 (List.mem_append_right _ h))
                    refine ⟨hlt, trivial, Z5, env5, F6, acc ++ [v], accV ++ [yv], fpa ++ fpy, e6.mono grW (kept_write d6F), S6.write (List.mem_append_left _ List.mem_cons_self), upd_same, ?_, (gr2.trans (st2.gr u3)).trans grW, q2⟩
                    refine rA5.append ?_
                    simp only [RepOs]
                    exact ⟨yv, [], fpy, [], rfl, ry5, ⟨rfl, rfl⟩, by simp⟩
                  · simp only [hsz] at q2
                    exact absurd q2 id
        · have e : i = ds.length := by omega
          subst e
          rw [List.drop_length] at q2
          simp only [turns, R.bind] at q2
          refine .inl ⟨ys, q2 (.ref D) Z2 Hc F2 (D :: fpa) ?_ e2.out S2 fun z => (Bool.false_ne_true z).elim⟩
          simp only [RepO]
          exact ⟨D, accV, fpa, rfl, hDc, rA, rfl⟩
theorem ok_comp (g : GX X B) {elt' tg iter : Expr} {ifs : List Expr} {scope : Scope} {own : List (Str × Nat)} {pos : Pos} {t : T} {k : IK} {es cond : List E} {elt : E} (hN : X.N.Nodup) (hi : OkI X B C W tg iter k es) (ok : BlkOk X.N X.env.scope scope own) (hown : own.map (·.2) = t.slots)
    (hb : OkBlk X B C tg ifs elt' scope t cond elt) (hs : ∀ x, foldedSetIterable iter X.env x = pure x) : OkE X B C W (.ListComp elt' [⟨tg, iter, ifs, 0⟩] scope pos) (.comp elt t k es cond) :=
  OkE.plain g rfl (fun n => by
    cases n with
    | true => exact ⟨fun pins s σ H Q I ⟨Z, env, F, st, q⟩ => by simp only [ev, if_true] at q; exact q.elim⟩
    | false =>
      refine PE.imp (pe_lc g.calm hN (hi.run false) ok (fun s H C0 cl fp => (hb.hg s H C0 cl fp).run) hb.ht hb.he hs) fun σ H Q ⟨Z, env, F, st, q⟩ => ?_
      rw [hown]
      exact comp_post st q) (fun _ => rfl)
/-- name = [..] -/
theorem ok_asgC {P : List (Nat × V)} (g : GX X B) {i : Nat} {y : Str} {py spos : Pos} {elt' tg iter : Expr} {ifs : List Expr} {scope : Scope} {own : List (Str × Nat)} {pos : Pos} {t : T} {k : IK} {es cond : List E} {elt : E} (hP : ∀ p ∈ P, p.1 ∈ C.prot) (hN : X.N.Nodup) (hy : X.N[i]? = some y) (hyl : X.env.scope.names.lookup y = some .local)
    (hsw : swapsWith (.ListComp elt' [⟨tg, iter, ifs, 0⟩] scope pos) (some (.Name y py)) spos.line X.env = pure true) (hi : OkI X B C W tg iter k es) (ok : BlkOk X.N X.env.scope scope own) (hown : own.map (·.2) = t.slots)
    (hb : OkBlk X B C tg ifs elt' scope t cond elt) (hs : ∀ x, foldedSetIterable iter X.env x = pure x) : OkS X B C W P (.Assign [.Name y py] (.ListComp elt' [⟨tg, iter, ifs, 0⟩] scope pos) spos) (.asg i (.comp elt t k es cond)) :=
  ⟨PS.imp (ps_setLc g.calm hN hy hyl hsw (hi.run false) ok (fun s H C0 cl fp => (hb.hg s H C0 cl fp).run) hb.ht hb.he hs) fun D σ H ⟨Z, env, F, st, fx, q⟩ => by
    simp only [exec] at q
    rw [hown]
    refine comp_post (W := W) st (PostE.thnS fx q fun o env1 v Z' H' F' fp r1 e1 t1 q1 => ?_)
    show D.nx (σ.set i (some v)) H'
    cases h : env1.put C.prot i o with
    | none => rw [h] at q1; exact q1.elim
    | some env2 =>
      rw [h] at q1
      obtain ⟨hn, F2, e2, t2⟩ := put_step r1 e1 t1 h
      exact q1 _ Z' H' F2 e2 (fx.set fun p hp e => hn (e ▸ hP p hp)) t2⟩
end
end Ev
/-! Ev37: methods that change their object. -/
namespace Ev
open PySem PySem.Spec PyProof.Rows L2

section
variable {B : Wd} {X : Cx} {C : Cfg} {W : WX}
theorem Spot.later {Z Z1 : Addr → Prop} {H H1 : Hp} {σ : L2.St} {env : Env} {F : List Addr} {e : E} {o : OV} {v : V} (sp : Spot B Z H σ env F e o v) (g : Gr Z Z1 H H1) (ext : ∀ a u, H a = some u → H1 a = some u) : Spot B Z1 H1 σ env F e o v := by
  obtain ⟨fp, rest, hr, hp, hs⟩ := sp
  exact ⟨fp, rest, hr.mono g fun a _ u hu => ext a u hu, hp, fun Z' H' o' fp' env' g' k r ep => hs Z' H' o' fp' env' (g.trans g') (fun b hb u hu => k b hb u (ext b u hu)) r ep⟩
/-- a method on values: what it gives, what becomes of its object -/
def MutOk (X : Cx) (B : Wd) (id : String) (m : MOp) : Prop :=
  ∀ (pins : List (Addr × Obj)) (s : Shared) (σ : L2.St) (Z : Addr → Prop) (H : Hp) (o r o' : OV) (os : List OV) (x : V) (ys : List V) (v : Value) (us : List Value) (fp fpv : List Addr) (Q : VK), Inv X pins σ H s → RelV x v → Vals ys us → RepO B Z H o x fp → RepOs B Z H os ys fpv → mutR m o os = some (r, o') →
    (fp ++ fpv).Nodup → (∀ a ∈ fp ++ fpv, ¬ Z a) → (∀ a, Z a → ∃ u, H a = some u) →
    (∀ Z2 H2 rv fpr fp', RepO B Z2 H2 r rv fpr → RepO B Z2 H2 o' x fp' → Step Z H (fp ++ fpv) Z2 H2 (fpr ++ fp') → Q rv H2) → wpAny (model X.prog X.w) X.A (call (.builtin id) (v :: us)) (EP X pins σ Q) X.xe s
theorem Step.self {Z : Addr → Prop} {H : Hp} {F : List Addr} (nd : F.Nodup) (dz : ∀ a ∈ F, ¬ Z a) (tr : ∀ a, Z a → ∃ u, H a = some u) : Step Z H F Z H F := ⟨fun _ h => h, fun a h => h.elim .inl fun h => .inr (.inl h), fun _ _ h _ => h, nd, dz, tr⟩
/-- what lies beneath is kept when the list's own object is written -/
theorem under_write {Z : Addr → Prop} {H : Hp} {a : Addr} {u : HO} {os : List OV} {vs : List V} {fps : List Addr} (h : RepOs B Z H os vs fps) (hz : ¬ Z a) (hm : Mut (H a)) (ha : a ∉ fps) : RepOs B Z (upd H a u) os vs fps := h.mono (gr_write hz hm) (kept_write ha)
theorem m_append : MutOk X B "list.append" .append := by
  intro pins s σ Z H o r o' os x ys v us fp fpv Q I rx ry ho hs hm nd dz tr q
  cases o <;> simp only [mutR] at hm <;> try (cases os with
    | nil => cases hm
    | cons y os => cases os <;> cases hm)
  rename_i xs
  cases os with
  | nil => simp at hm
  | cons y os =>
    cases os with
    | cons _ _ => simp at hm
    | nil =>
      simp only at hm
      split at hm
      · rename_i hsz
        simp only [Option.some.injEq, Prod.mk.injEq] at hm
        obtain ⟨rfl, rfl⟩ := hm
        simp only [RepO] at ho
        obtain ⟨a, vs, fps, rfl, ha, hrs, rfl⟩ := ho
        simp only [RepOs] at hs
        obtain ⟨yv, _, f1, _, rfl, hy, ⟨rfl, rfl⟩, rfl⟩ := hs
        rw [List.append_nil] at nd dz
        have hza : ¬ Z a := dz a (List.mem_append_left _ List.mem_cons_self)
        have hmu : Mut (H a) := by rw [ha]; trivial
        have nd0 := List.nodup_append.mp nd
        have nda := List.nodup_cons.mp nd0.1
        have naf : a ∉ f1 := fun h => nd0.2.2 a List.mem_cons_self a h rfl
        refine mt_append pins s σ H _ _ v us Q I rx ry ⟨a, vs, yv, rfl, rfl, ha, by rw [hrs.length]; have := sizeB_le hsz; omega, ?_⟩
        refine q Z _ .non [] (a :: (fps ++ f1)) (by simp only [RepO, Rep]; exact ⟨trivial, trivial⟩) ?_ ?_
        · simp only [RepO]
          refine ⟨a, _, fps ++ f1, rfl, upd_same, (under_write hrs hza hmu nda.1).append ?_, rfl⟩
          simp only [RepOs]
          exact ⟨yv, [], f1, [], rfl, hy.mono (gr_write hza hmu) (kept_write naf), ⟨rfl, rfl⟩, by simp⟩
        · rw [List.append_nil]
          exact (Step.self nd dz tr).write (List.mem_append_left _ List.mem_cons_self)
      · cases hm
theorem m_pop0 {pins : List (Addr × Obj)} {s : Shared} {σ : L2.St} {Z : Addr → Prop} {H : Hp} {o r o' : OV} {x : V} {v : Value} {us : List Value} {fp : List Addr} {Q : VK} (I : Inv X pins σ H s) (rx : RelV x v) (ry : Vals [V.int 0] us) (ho : RepO B Z H o x fp) (hm : mutR .pop0 o [] = some (r, o'))
    (nd : fp.Nodup) (dz : ∀ a ∈ fp, ¬ Z a) (tr : ∀ a, Z a → ∃ u, H a = some u)
    (q : ∀ Z2 H2 rv fpr fp', RepO B Z2 H2 r rv fpr → RepO B Z2 H2 o' x fp' → Step Z H fp Z2 H2 (fpr ++ fp') → Q rv H2) : wpAny (model X.prog X.w) X.A (call (.builtin "list.pop") (v :: us)) (EP X pins σ Q) X.xe s := by
  cases o with
  | lst xs =>
    cases xs with
    | nil => simp [mutR] at hm
    | cons x0 xs =>
      simp only [mutR, Option.some.injEq, Prod.mk.injEq] at hm
      obtain ⟨rfl, rfl⟩ := hm
      simp only [RepO, RepOs] at ho
      obtain ⟨a, vs, fps, rfl, ha, ⟨v0, vr, f0, f1, rfl, h0, h1, rfl⟩, rfl⟩ := ho
      have hza : ¬ Z a := dz a List.mem_cons_self
      have hmu : Mut (H a) := by rw [ha]; trivial
      have nda := List.nodup_cons.mp nd
      refine mt_popAt pins s σ H _ _ v us Q I rx ry ⟨a, v0 :: vr, 0, 0, v0, rfl, rfl, ha, by decide, by decide, ?_, rfl, ?_⟩
      · simp [seqIndex?]
      · rw [List.eraseIdx_zero, List.tail_cons]
        refine q Z _ v0 f0 (a :: f1) (h0.mono (gr_write hza hmu) (kept_write fun h => nda.1 (List.mem_append_left _ h))) ?_ ?_
        · simp only [RepO]
          exact ⟨a, vr, f1, rfl, upd_same, under_write h1 hza hmu fun h => nda.1 (List.mem_append_right _ h), rfl⟩
        · exact ((Step.self nd dz tr).write List.mem_cons_self).perm List.perm_middle.symm
  | fr d => simp [mutR] at hm
  | dct _ => simp [mutR] at hm
  | ins _ _ => simp [mutR] at hm
/-- the path's state behind the arguments, the method, and what stands then -/
theorem mut_fin {σ : L2.St} {Z : Addr → Prop} {H : Hp} {env : Env} {m : MOp} {p : E} {os : List OV} {ys : List V} {fpv F1 : List Addr} {v : V} {Q : VK} {o : OV} {Z0 : Addr → Prop} {H0 : Hp} {F0 : List Addr} {n : Bool} {env0 : Env}
    (e1 : EnvR B Z H env σ F1) (t1 : Step Z0 H0 F0 Z H (fpv ++ F1)) (hs : RepOs B Z H os ys fpv) (sp : Spot B Z H σ env F1 p o v) (hp : pk env p = some o) (hn : n = false)
    (q : PostE B W σ Z0 H0 F0 n env0 Q (mutFin m p os env)) : ∃ r o' fp, mutR m o os = some (r, o') ∧ RepO B Z H o v fp ∧ (fp ++ fpv).Nodup ∧ (∀ a ∈ fp ++ fpv, ¬ Z a) ∧ (∀ a, Z a → ∃ u, H a = some u) ∧
      ∀ Z2 H2 rv fpr fp', RepO B Z2 H2 r rv fpr → RepO B Z2 H2 o' v fp' → Step Z H (fp ++ fpv) Z2 H2 (fpr ++ fp') → Q rv H2 := by
  unfold mutFin at q
  rw [hp] at q
  simp only at q
  cases hm : mutR m o os with
  | none => rw [hm] at q; exact q.elim
  | some ro =>
    obtain ⟨r, o'⟩ := ro
    rw [hm] at q
    simp only at q
    cases hput : pput env o' p with
    | none => rw [hput] at q; exact q.elim
    | some env2 =>
      rw [hput] at q
      obtain ⟨fp, rest, hr, hpm, hset⟩ := sp
      have P1 : (fpv ++ F1).Perm ((fp ++ fpv) ++ rest) := (hpm.append_left fpv).trans (by rw [List.append_assoc]; exact perm_mid _ _ _)
      have t2 := t1.perm P1
      have nd := List.nodup_append.mp t2.nd
      refine ⟨r, o', fp, rfl, hr, nd.1, fun a h => t2.dz a (List.mem_append_left _ h), t1.trk, fun Z2 H2 rv fpr fp' r2 ro2 st => ?_⟩
      have muts : ∀ a ∈ fp ++ fpv, Mut (H a) := fun a h => (List.mem_append.mp h).elim (fun h => hr.mutb a h) fun h => hs.mutb a h
      have gr := st.gr muts fun a h => t2.dz a (List.mem_append_left _ h)
      have kp : Kept rest H H2 := fun b hb u hu => st.oth b u hu fun hf => nd.2.2 b hf b hb rfl
      obtain ⟨F', e2, p2⟩ := hset Z2 H2 o' fp' env2 gr kp ro2 hput
      have trF : ∀ a ∈ rest, ∃ u, H a = some u := fun a h => e1.trk a (hpm.symm.subset (List.mem_append_right _ h))
      have trG : ∀ a ∈ fp ++ fpv, ∃ u, H a = some u := fun a h => by
        have := muts a h
        cases e : H a with
        | none => rw [e] at this; exact this.elim
        | some u => exact ⟨u, rfl⟩
      have t3 := Step.more t2 trF trG st
      refine q rv Z2 H2 F' fpr r2 e2 (t3.perm ?_) fun z => by rw [hn] at z; cases z
      rw [List.append_assoc]
      exact (p2.symm).append_left fpr
end
end Ev
/-! Ev38: method calls that change their object, as expressions. -/
namespace Ev
open PySem PySem.Spec PyProof.Rows L2

section
variable {B : Wd} {X : Cx} {C : Cfg} {W : WX}
def rMut (B : Wd) (m : MOp) : V → List V → Hp → VK → Prop := fun x ys H Q => ∃ Z o os r o' fp fpv, RepO B Z H o x fp ∧ RepOs B Z H os ys fpv ∧ mutR m o os = some (r, o') ∧ (fp ++ fpv).Nodup ∧ (∀ a ∈ fp ++ fpv, ¬ Z a) ∧ (∀ a, Z a → ∃ u, H a = some u) ∧
  ∀ Z2 H2 rv fpr fp', RepO B Z2 H2 r rv fpr → RepO B Z2 H2 o' x fp' → Step Z H (fp ++ fpv) Z2 H2 (fpr ++ fp') → Q rv H2
theorem MutOk.mt {id : String} {m : MOp} (h : MutOk X B id m) : MtR X id (rMut B m) := fun pins s σ H x xs v us Q I rx rxs ⟨Z, o, os, r, o', fp, fpv, h1, h2, h3, h4, h5, h6, h7⟩ =>
  h pins s σ Z H o r o' os x xs v us fp fpv Q I rx rxs h1 h2 h3 h4 h5 h6 h7
theorem mutStart_lst {o : Option OV} (h : mutStart o = true) : ∃ xs, o = some (.lst xs) := by
  unfold mutStart at h
  split at h
  · exact ⟨_, rfl⟩
  · cases h
theorem ev_mut {m : MOp} {p : E} {es : List E} {env : Env} {b : Bool} (hb : (match p with | .var _ => false | _ => true) = b) : ev C (.mut m p es) false env = if (!isPath p || !mutStart (pk env p)) = true then .bad else (evs C es b env).bind fun vs env1 => mutFin m p vs env1 := by
  subst hb
  simp only [ev, Bool.false_or]
  first | done | rfl
/-- name.m(e, ..) of a list -/
theorem ok_mutV (g : GX X B) {id : String} {m : MOp} {i : Nat} {p' e' : Expr} {es' : List Expr} {es : List E} {name : Str} {apos cpos : Pos} (hm : MutOk X B id m) (pa : PlainAttrs "list") (slot : Slot "list" name id) (hty : typeOf (.builtin id) = pure (.type "method_descriptor")) (ho : PE X p' (tVar i)) (ha : OkA X B C W (e' :: es') es)
    (hbase : attributeBase p' name X.env (eval p' X.env) = eval p' X.env)
    (hfew : ((backTo cpos (starEach (e' :: es') X.env)).all (fun x => !x.1) && (backToKw cpos (keywordEach [] X.env)).all (fun x => x.1.isSome)
      && decide ((e' :: es').length + ([] : List Keyword).length + (if ([] : List Keyword).isEmpty then 0 else 1) < 30)) = true)
    (hline : (apos.endLine == cpos.line) = true) : OkE X B C W (.Call (.Attribute p' name apos) (e' :: es') [] cpos) (.mut m (.var i) es) :=
  OkE.plain g rfl (fun n => by
    have hst : starEach (e' :: es') X.env = (false, eval e' X.env) :: starEach es' X.env := by
      cases ha.ns with
      | cons h1 h2 => exact h1 es' X.env
    have hpl : (backTo cpos (starEach es' X.env)).any (·.1) = false := by
      cases ha.ns with
      | cons h1 h2 => exact h2.plain
    cases n with
    | true => exact ⟨fun pins s σ H Q I ⟨Z, env, F, st, q⟩ => by simp only [ev, Bool.true_or, if_true] at q; exact q.elim⟩
    | false =>
      refine PE.imp (pe_bm pa slot hty hm.mt ho (ha.vs false) hbase hfew hline hst hpl) fun σ H Q ⟨Z, env, F, st, q⟩ => ?_
      rw [ev_mut rfl] at q
      split at q
      · exact q.elim
      · rename_i hc
        simp only [isPath, Bool.not_true, Bool.false_or, Bool.not_eq_true', Bool.not_eq_false, Bool.not_eq_true] at hc
        obtain ⟨xs, hx⟩ := mutStart_lst (by simpa using hc)
        have hx' : env.at i = some (.lst xs) := hx
        obtain ⟨v, fp0, rest0, hv, hr0, _⟩ := st.env.at hx'
        simp only [RepO] at hr0
        obtain ⟨a, vs0, fps0, rfl, ha0, _⟩ := hr0
        refine ⟨.ref a, hv, .inl ⟨rfl, vs0, .of ha0⟩, Z, env, F, st, ?_⟩
        cases he : evs C es false env with
        | bad => rw [he] at q; exact q
        | exc x e => rw [he] at q; exact q
        | ok os env1 =>
          rw [he] at q
          intro ys Z1 H1 F1 fpv ro e1 t1 k1
          cases hp1 : pk env1 (.var i) with
          | none =>
            simp only [R.bind, mutFin, hp1] at q
            exact q.elim
          | some o =>
            obtain ⟨v1, hv1, sp⟩ := spot_var e1 (show env1.at i = some o from hp1)
            rw [hv] at hv1
            cases hv1
            obtain ⟨r, o', fp, h3, h1, h4, h5, h6, h7⟩ := mut_fin e1 t1 ro sp hp1 rfl q
            exact ⟨Z1, o, os, r, o', fp, fpv, h1, ro, h3, h4, h5, h6, h7⟩) (fun _ => rfl)
/-- path.pop(0) of a list -/
theorem ok_pop0 (g : GX X B) {p : E} {p' : Expr} {apos cpos cp : Pos} {j : Nat} (pa : PlainAttrs "list") (slot : Slot "list" "pop" "list.pop") (hty : typeOf (.builtin "list.pop") = pure (.type "method_descriptor")) (ho : PE X p' (tAt B p)) (hpath : isPath p = true)
    (hbase : attributeBase p' "pop" X.env (eval p' X.env) = eval p' X.env) (hline : (apos.endLine == cpos.line) = true) : OkE X B C W (.Call (.Attribute p' "pop" apos) [.Constant (.int 0) j cp] [] cpos) (.mut .pop0 p []) :=
  OkE.plain g rfl (fun n => by
    cases n with
    | true => exact ⟨fun pins s σ H Q I ⟨Z, env, F, st, q⟩ => by simp only [ev, Bool.true_or, if_true] at q; exact q.elim⟩
    | false =>
      have hmt : MtR X "list.pop" (fun x ys H Q => ys = [.int 0] ∧ rMut B .pop0 x [] H Q) := fun pins s σ H x xs v us Q I rx rxs ⟨e0, Z, o, os, r, o', fp, fpv, h1, h2, h3, h4, h5, h6, h7⟩ => by
        subst e0
        cases os with
        | cons _ _ => simp only [RepOs] at h2; obtain ⟨_, _, _, _, e, _⟩ := h2; cases e
        | nil =>
          simp only [RepOs] at h2
          obtain ⟨_, rfl⟩ := h2
          rw [List.append_nil] at h4 h5 h7
          exact m_pop0 I rx rxs h1 h3 h4 h5 h6 h7
      have hpa : PA X [.Constant (.int 0) j cp] (fun σ H Q => Q [.int 0] H) := PA.imp (pa_cons pe_int pa_nil rfl) fun σ H Q h => h
      refine PE.imp (pe_bm pa slot hty hmt ho hpa hbase rfl hline rfl rfl) fun σ H Q ⟨Z, env, F, st, q⟩ => ?_
      rw [ev_mut rfl] at q
      split at q
      · exact q.elim
      · rename_i hc
        rw [hpath] at hc
        simp only [Bool.not_true, Bool.false_or, Bool.not_eq_true', Bool.not_eq_false, Bool.not_eq_true] at hc
        obtain ⟨xs, hx⟩ := mutStart_lst (by simpa using hc)
        refine ⟨Z, env, F, .lst xs, st, hx, fun v sp => ?_⟩
        have sp0 := sp
        obtain ⟨fp0, rest0, hr0, _⟩ := sp0
        simp only [RepO] at hr0
        obtain ⟨a, vs0, fps0, rfl, ha0, _⟩ := hr0
        refine ⟨.inl ⟨rfl, vs0, .of ha0⟩, rfl, ?_⟩
        simp only [evs, R.bind] at q
        have hnil : RepOs B Z H ([] : List OV) ([] : List V) [] := by simp [RepOs]
        obtain ⟨r, o', fp, h3, h1, h4, h5, h6, h7⟩ := mut_fin st.env (fpv := []) st.refl hnil sp hx rfl q
        exact ⟨Z, .lst xs, [], r, o', fp, [], h1, hnil, h3, h4, h5, h6, h7⟩) (fun _ => rfl)
end
end Ev
/-! Ev39: d[k] = v. -/
namespace Ev
open PySem PySem.Spec PyProof.Rows L2

section
variable {B : Wd} {X : Cx} {C : Cfg} {W : WX} {P : List (Nat × V)}
/-- a looked-at value, then the rest of a statement -/
theorem PostP.thnS {Z Z1 : Addr → Prop} {H H1 : Hp} {F F1 : List Addr} {D : Ends} {n : Bool} {σ : L2.St} {env : Env} {a : E} {r : R OV} {f : OV → Env → Ro} {Q : VK} (fx : Fixed P σ) (t : Step Z H F Z1 H1 F1) (q : PostS B W P Z H F D (r.thn f))
    (h : ∀ o env1 v Z' H' F' fp G, RepO B Z' H' o v fp → EnvR B Z' H' env1 σ F' → Step Z1 H1 F1 Z' H' (G ++ F') → Quiet n env env1 F1 F' H1 H' → PostS B W P Z H F D (f o env1) → Q v H') : PostP B W σ Z1 H1 F1 n env a Q r := by
  cases r with
  | bad => exact q
  | exc x e => exact fun cls d Z' H' F' a b c => q σ cls d Z' H' F' a b fx (t.trans0 c)
  | ok o e => exact fun v Z' H' F' fp G a _ b c d => h o e v Z' H' F' fp G a b c d q
theorem set_fin (g : GX X B) {pins : List (Addr × Obj)} {s : Shared} {σ : L2.St} {Z0 Z : Addr → Prop} {H0 H : Hp} {F0 F fpv : List Addr} {env env3 : Env} {Ds : Ends} {p : E} {kvs : List (D × OV)} {d : D} {o' vo : OV} {x kx yv : V} {xv kv uv : Value} (I : Inv X pins σ H s)
    (sp : Spot B Z H σ env F p (.dct kvs) x) (e1 : EnvR B Z H env σ F) (t1 : Step Z0 H0 F0 Z H (fpv ++ F)) (ro : RepO B Z H vo yv fpv) (rk : Rep B Z H d kx) (rx : RelV x xv) (rkv : RelV kx kv) (rv : RelV yv uv) (hsc : setChild (.dct kvs) d vo = some o') (hput : pput env o' p = some env3) (fx : Fixed P σ)
    (q : ∀ σ' Z' H' F', EnvR B Z' H' env3 σ' F' → Fixed P σ' → Step Z0 H0 F0 Z' H' F' → Ds.nx σ' H') : wpAny (model X.prog X.w) X.A (setItem xv kv uv) (fun _ s' => SP X pins Ds .next s') X.xe s := by
  obtain ⟨fp, rest, hr, hpm, hset⟩ := sp
  simp only [RepO] at hr
  obtain ⟨a, es, fps, rfl, ha, hsys, hlen, hnd, hrk, rfl⟩ := hr
  cases (show xv = Value.ref a from rx)
  have hsc' : keyOk d = true ∧ kvs.length < 1000000 ∧ o' = .dct (dput d vo kvs) := by
    unfold setChild at hsc
    by_cases e2 : (keyOk d && decide (kvs.length < 1000000)) = true
    · simp only [e2, if_true, Option.some.injEq] at hsc
      rw [Bool.and_eq_true] at e2
      exact ⟨e2.1, of_decide_eq_true e2.2, hsc.symm⟩
    · simp [e2] at hsc
  obtain ⟨hk, hl, rfl⟩ := hsc'
  have P1 : (fpv ++ F).Perm ((a :: fps) ++ (fpv ++ rest)) := (hpm.append_left fpv).trans (perm_mid _ _ _)
  have t2 := t1.perm P1
  have nd := List.nodup_append.mp t2.nd
  have nda := List.nodup_cons.mp nd.1
  have hza : ¬ Z a := t2.dz a (List.mem_append_left _ List.mem_cons_self)
  have hmu : Mut (H a) := by rw [ha]; trivial
  refine dict_setItem g I ha hrk hnd hlen hk rk rkv rv fun es' s' I' stt => ?_
  obtain ⟨dropped, keep, hperm, hst⟩ := stt
  have gr : Gr Z Z H (upd H a (DH a es')) := gr_write hza hmu
  have a_not : ∀ {R : List Addr}, (∀ b ∈ R, b ∈ fpv ++ rest) → a ∉ R := fun h hm => nd.2.2 a List.mem_cons_self a (h a hm) rfl
  have kk : Kept keep H (upd H a (DH a es')) := kept_write fun hm => nda.1 (hperm.symm.subset (List.mem_append_right _ hm))
  have rov := ro.mono gr (kept_write (a := a) (H := H) (u := DH a es') (a_not fun b h => List.mem_append_left _ h))
  obtain ⟨fp', hrk', hp'⟩ := hst Z _ vo fpv gr kk rov
  have rd : RepO B Z (upd H a (DH a es')) (.dct (dput d vo kvs)) (.ref a) (a :: fp') := by
    simp only [RepO]
    refine ⟨a, es', fp', rfl, upd_same, hsys, ?_, by rw [viewsK_dput]; exact keysNd_dput hk hnd, hrk', rfl⟩
    have := dput_length (k := d) (v := vo) (kvs := kvs)
    rw [sizeLine_eq]; omega
  obtain ⟨F', e3, p3⟩ := hset Z _ _ (a :: fp') env3 gr (kept_write (a_not fun b h => List.mem_append_right _ h)) rd hput
  have t3 : Step Z0 H0 F0 Z (upd H a (DH a es')) ((a :: fps) ++ (fpv ++ rest)) := t2.write (List.mem_append_left _ List.mem_cons_self)
  have P2 : ((a :: fps) ++ (fpv ++ rest)).Perm (dropped ++ F') := by
    -- a :: fps ++ fpv ++ rest ~ dropped ++ (a :: (fpv ++ keep) ++ rest)
    have h1 : ((a :: fps) ++ (fpv ++ rest)).Perm ((a :: (dropped ++ keep)) ++ (fpv ++ rest)) := (hperm.cons a).append_right _
    have h2 : ((a :: (dropped ++ keep)) ++ (fpv ++ rest)).Perm (dropped ++ ((a :: (fpv ++ keep)) ++ rest)) := by
      have h3 : (a :: (dropped ++ keep)).Perm (dropped ++ (a :: keep)) := List.perm_middle.symm
      refine (h3.append_right _).trans ?_
      rw [List.append_assoc]
      refine List.Perm.append_left dropped ?_
      rw [List.cons_append, List.cons_append, ← List.append_assoc]
      exact (List.Perm.append_right rest List.perm_append_comm).cons a
    have h4 : F'.Perm ((a :: (fpv ++ keep)) ++ rest) := p3.trans ((hp'.cons a).append_right rest)
    exact h1.trans (h2.trans (h4.symm.append_left dropped))
  exact ⟨σ, _, I', q σ Z _ F' e3 fx (Step.drop (t3.perm P2))⟩
def setIF (p : E) (vo kd : OV) (env2 : Env) : Ro := match pk env2 p, kd with
  | some (.dct kvs), .fr d => match setChild (.dct kvs) d vo with
    | some o' => match pput env2 o' p with
      | some env3 => .next env3
      | none => .bad
    | none => .bad
  | _, _ => .bad
theorem exec_setI {p k e : E} {env : Env} {b : Bool} (hb : (match p with | .var _ => false | _ => true) = b) : exec C (.setI p k e) env = (ev C e false env).thn fun v env1 => if (pk env1 p).isNone then .bad else (pkOr k env1 (ev C k b env1)).thn (setIF p v) := by
  subst hb
  rfl
theorem setIF_next {p : E} {vo kd : OV} {env2 : Env} {Z : Addr → Prop} {H : Hp} {F : List Addr} {Ds : Ends} (h : PostS B W P Z H F Ds (setIF p vo kd env2)) :
    ∃ kvs d o' env3, pk env2 p = some (.dct kvs) ∧ kd = .fr d ∧ setChild (.dct kvs) d vo = some o' ∧ pput env2 o' p = some env3 ∧ PostS B W P Z H F Ds (.next env3) := by
  unfold setIF at h
  split at h
  · split at h
    · split at h
      · exact ⟨_, _, _, _, by assumption, rfl, by assumption, by assumption, h⟩
      · exact h.elim
    · exact h.elim
  · exact h.elim
theorem ok_setI (g : GX X B) {p k e : E} {p' k' e' : Expr} {pos pos' : Pos} (he : PE X e' (tE B C W e false)) (hv : (∃ i, p = .var i ∧ PE X p' (tVar i)) ∨ ((∀ i, p ≠ .var i) ∧ PE X p' (tAt B p))) (hk : OkE X B C W k' k)
    (hs : swapsWith e' (some (.Subscript p' k' pos')) pos.line X.env = pure false) : OkS X B C W P (.Assign [.Subscript p' k' pos'] e' pos) (.setI p k e) := ⟨by
  refine ⟨fun pins s σ H Ds I ⟨Z, env, F, st, fx, q⟩ => ?_⟩
  obtain ⟨b, hb⟩ : ∃ b, (match p with | .var _ => false | _ => true) = b := ⟨_, rfl⟩
  rw [exec_setI hb] at q
  refine wpAny_Assign_Subscript (thn (he.run pins s σ H (fun yv H1 => ∃ Z1 F1 fpv vo env1, RepO B Z1 H1 vo yv fpv ∧ EnvR B Z1 H1 env1 σ F1 ∧ Step Z H F Z1 H1 (fpv ++ F1) ∧ PostS B W P Z H F Ds (if (pk env1 p).isNone then .bad else (pkOr k env1 (ev C k b env1)).thn (setIF p vo)))
    I ⟨Z, env, F, st, PostE.thnS fx q fun o env1 v Z' H' F' fp a b c d => ⟨Z', F', fp, o, env1, a, b, c, d⟩⟩) fun uv s1 ⟨yv, H1, I1, rv, Z1, F1, fpv, vo, env1, ro, e1, t1, q1⟩ => ?_) hs
  split at q1
  · exact q1.elim
  · rename_i hsome
    obtain ⟨o0, ho0⟩ : ∃ o, pk env1 p = some o := by
      cases h : pk env1 p with
      | none => rw [h] at hsome; exact absurd rfl hsome
      | some o => exact ⟨o, rfl⟩
    have st1 := t1.stt e1
    -- the key, behind any looking at the dict
    have key : ∀ {s2 : Shared} {x : V} {xv : Value}, Inv X pins σ H1 s2 → RelV x xv → (∀ {Z2 : Addr → Prop} {H2 : Hp} {F2 : List Addr} {env2 : Env} {kvs}, EnvR B Z2 H2 env2 σ F2 → Gr Z1 Z2 H1 H2 → Quiet b env1 env2 F1 F2 H1 H2 → pk env2 p = some (.dct kvs) → Spot B Z2 H2 σ env2 F2 p (.dct kvs) x) →
        wpAny (model X.prog X.w) X.A (eval k' X.env) (fun iv s3 => wpAny (model X.prog X.w) X.A (setItem xv iv uv) (fun _ s' => SP X pins Ds .next s') X.xe s3) X.xe s2 := by
      intro s2 x xv I2 rx sp
      refine thn (hk.vp b |>.run pins s2 σ H1 (fun kx H2 => ∃ Z2 F2 kd env2 fp G, RepO B Z2 H2 kd kx fp ∧ EnvR B Z2 H2 env2 σ F2 ∧ Step Z1 H1 F1 Z2 H2 (G ++ F2) ∧ Quiet b env1 env2 F1 F2 H1 H2 ∧ PostS B W P Z H F Ds (setIF p vo kd env2))
        I2 ⟨Z1, env1, F1, st1, PostP.thnS fx t1.drop q1 fun o env2 v Z' H' F' fp G a b c d e => ⟨Z', F', o, env2, fp, G, a, b, c, d, e⟩⟩) fun iv s3 ⟨kx, H2, I3, rk, Z2, F2, kd, env2, fp, G, rkd, e2, t2, qt, q3⟩ => ?_
      obtain ⟨kvs, d, o', env3, hp2, rfl, hsc, hput, q4⟩ := setIF_next q3
      have g2 := st1.gr t2
      have nd1 := List.nodup_append.mp t1.nd
      have ro2 := ro.mono g2 fun a ha u hu => t2.oth a u hu fun hm => nd1.2.2 a ha a hm rfl
      have t12 : Step Z H F Z2 H2 (fpv ++ F2) := (t1.trans ro.trk t2).sublist ((List.sublist_append_right G F2).append_left fpv)
      have rkd' : Rep B Z2 H2 d kx := by simp only [RepO] at rkd; exact rkd.1
      exact set_fin g I3 (sp e2 g2 qt hp2) e2 t12 ro2 rkd' rx rk rv hsc hput fx q4
    rcases hv with ⟨i, rfl, hvar⟩ | ⟨hne, hat⟩
    · obtain ⟨v, hvi, sp1⟩ := spot_var e1 (show env1.at i = some o0 from ho0)
      refine thn (hvar.run pins s1 σ H1 (fun x H2 => x = v ∧ H2 = H1) I1 ⟨v, hvi, rfl, rfl⟩) fun xv s2 ⟨x, H2, I2, rx, hx, hH⟩ => ?_
      subst hx; subst hH
      refine key I2 rx fun {Z2 H2 F2 env2 kvs} e2 _ _ hp2 => ?_
      obtain ⟨v2, hv2, sp2⟩ := spot_var e2 (show env2.at i = some _ from hp2)
      rw [hvi] at hv2
      cases hv2
      exact sp2
    · have hbt : b = true := by
        subst hb
        cases p <;> first | rfl | exact absurd rfl (hne _)
      subst hbt
      refine thn (hat.run pins s1 σ H1 (fun x H2 => H2 = H1 ∧ Spot B Z1 H1 σ env1 F1 p o0 x) I1 ⟨Z1, env1, F1, o0, st1, ho0, fun v sp => ⟨rfl, sp⟩⟩) fun xv s2 ⟨x, H2, I2, rx, hH, sp⟩ => ?_
      subst hH
      refine key I2 rx fun {Z2 H2 F2 env2 kvs} e2 g2 qt hp2 => ?_
      obtain ⟨rfl, rfl, hext⟩ := qt rfl
      rw [ho0] at hp2
      cases hp2
      exact sp.later g2 hext⟩
end
end Ev
/-! Ev40: a, b = x, y. -/
namespace Ev
open PySem PySem.Spec PyProof.Rows L2

section
variable {B : Wd} {X : Cx} {C : Cfg} {W : WX} {P : List (Nat × V)}
theorem PostVs.thnS {Z : Addr → Prop} {H : Hp} {F : List Addr} {D : Ends} {n : Bool} {σ : L2.St} {env : Env} {r : R (List OV)} {f : List OV → Env → Ro} {Q : List V → Hp → Prop} (fx : Fixed P σ) (q : PostS B W P Z H F D (r.thn f))
    (h : ∀ o env1 v Z' H' F' fp, RepOs B Z' H' o v fp → EnvR B Z' H' env1 σ F' → Step Z H F Z' H' (fp ++ F') → PostS B W P Z H F D (f o env1) → Q v H') : PostVs B W σ Z H F n env Q r := by
  cases r with
  | bad => exact q
  | exc x e => exact fun cls d Z' H' F' a b c => q σ cls d Z' H' F' a b fx c
  | ok o e => exact fun v Z' H' F' fp a b c _ => h o e v Z' H' F' fp a b c q
theorem put_env {Z : Addr → Prop} {H : Hp} {F fp : List Addr} {env env2 : Env} {σ : L2.St} {i : Nat} {o : OV} {v : V} (r : RepO B Z H o v fp) (e : EnvR B Z H env σ F) (hp : env.put C.prot i o = some env2) :
    i ∉ C.prot ∧ ∃ F2 dr, EnvR B Z H env2 (σ.set i (some v)) F2 ∧ (fp ++ F).Perm (dr ++ F2) := by
  unfold Env.put at hp
  split at hp
  · cases hp
  · rename_i hn
    split at hp
    · rename_i hi
      simp only [Option.some.injEq] at hp
      subst hp
      obtain ⟨F2, dr, h2, hpm⟩ := e.put hi r
      exact ⟨hn, F2, dr, h2, hpm⟩
    · cases hp
/-- stores from the left -/
def setAll : List Nat → List V → L2.St → L2.St
  | i :: is, v :: vs, σ => setAll is vs (σ.set i (some v))
  | _, _, σ => σ
theorem putAll_env {Z : Addr → Prop} {H : Hp} (hP : ∀ p ∈ P, p.1 ∈ C.prot) : ∀ {is : List Nat} {os : List OV} {vs : List V} {fp F : List Addr} {env env2 : Env} {σ : L2.St}, RepOs B Z H os vs fp → EnvR B Z H env σ F → Fixed P σ → putAll C.prot is os env = some env2 →
    ∃ F2 dr, EnvR B Z H env2 (setAll is vs σ) F2 ∧ Fixed P (setAll is vs σ) ∧ (fp ++ F).Perm (dr ++ F2)
  | [], [], vs, fp, F, env, env2, σ, r, e, fx, hp => by
    simp only [RepOs] at r
    obtain ⟨rfl, rfl⟩ := r
    simp only [putAll, Option.some.injEq] at hp
    subst hp
    exact ⟨F, [], e, fx, .refl _⟩
  | [], o :: os, vs, fp, F, env, env2, σ, r, e, fx, hp => by simp [putAll] at hp
  | i :: is, [], vs, fp, F, env, env2, σ, r, e, fx, hp => by simp [putAll] at hp
  | i :: is, o :: os, vs, fp, F, env, env2, σ, r, e, fx, hp => by
    simp only [RepOs] at r
    obtain ⟨x, rs, fp1, fp2, rfl, r1, r2, rfl⟩ := r
    simp only [putAll] at hp
    cases h1 : env.put C.prot i o with
    | none => rw [h1] at hp; cases hp
    | some env1 =>
      rw [h1] at hp
      obtain ⟨hn, F2, dr, e2, p2⟩ := put_env r1 e h1
      obtain ⟨F3, dr3, e3, fx3, p3⟩ := putAll_env hP r2 e2 (fx.set fun p hp e => hn (e ▸ hP p hp)) hp
      refine ⟨F3, dr ++ dr3, e3, fx3, ?_⟩
      have a1 : ((fp1 ++ fp2) ++ F).Perm (fp2 ++ (fp1 ++ F)) := by
        rw [List.append_assoc]; exact perm_mid _ _ _
      have a2 : (fp2 ++ (dr ++ F2)).Perm (dr ++ (fp2 ++ F2)) := perm_mid _ _ _
      refine a1.trans ((p2.append_left fp2).trans (a2.trans ((p3.append_left dr).trans ?_)))
      rw [List.append_assoc]
theorem ok_par {i j : Nat} {x y : Str} {a b : Expr} {ea eb : E} {px py pt pos : Pos} {kt k2 pt2} (hP : ∀ p ∈ P, p.1 ∈ C.prot) (hc : X.calm = true) (hN : X.N.Nodup) (hi : X.N[i]? = some x) (hj : X.N[j]? = some y) (hij : i ≠ j)
    (hx : X.env.scope.names.lookup x = some .local) (hy : X.env.scope.names.lookup y = some .local) (ha : OkA X B C W [a, b] [ea, eb])
    (hw : swappedStores [.Tuple [.Name x px, .Name y py] kt pt] (.Tuple [a, b] k2 pt2) X.env = pure (some [x, y]))
    (hs : swapsWithSole [.Tuple [.Name x px, .Name y py] kt pt] (.Tuple [a, b] k2 pt2) pos.line X.env = pure false) :
    OkS X B C W P (.Assign [.Tuple [.Name x px, .Name y py] kt pt] (.Tuple [a, b] k2 pt2) pos) (.par [i, j] [ea, eb]) :=
  ⟨PS.imp (ps_par hc hN hi hj hij hx hy (ha.vs false) hw hs) fun D σ H ⟨Z, env, F, st, fx, q⟩ => by
    refine ⟨Z, env, F, st, ?_⟩
    simp only [exec] at q
    refine PostVs.thnS fx q fun os env1 vs Z' H' F' fp r1 e1 t1 q1 => ?_
    split at q1
    · rename_i env2 hp
      obtain ⟨F2, dr, e2, fx2, p2⟩ := putAll_env hP r1 e1 fx hp
      have hl : ∃ v w, vs = [v, w] := by
        match os, hp with
        | [o1, o2], _ =>
          simp only [RepOs] at r1
          obtain ⟨v, _, _, _, rfl, _, ⟨w, _, _, _, rfl, _, ⟨rfl, _⟩, _⟩, _⟩ := r1
          exact ⟨v, w, rfl⟩
        | [], hp => simp [putAll] at hp
        | [o1], hp =>
          simp only [putAll] at hp
          cases h : env1.put C.prot i o1 with
          | none => rw [h] at hp; cases hp
          | some z => rw [h] at hp; simp [putAll] at hp
        | o1 :: o2 :: o3 :: r, hp =>
          simp only [putAll] at hp
          cases h : env1.put C.prot i o1 with
          | none => rw [h] at hp; cases hp
          | some z =>
            rw [h] at hp
            simp only [Option.bind_some] at hp
            cases h : z.put C.prot j o2 with
            | none => rw [h] at hp; cases hp
            | some z => rw [h] at hp; simp [putAll] at hp
      obtain ⟨v, w, rfl⟩ := hl
      exact ⟨v, w, rfl, q1 _ Z' H' F2 e2 fx2 (t1.perm p2).drop⟩
    · exact q1.elim⟩
end
end Ev
/-! Ev41: super().__init__(m) in an exception's __init__. -/
namespace Ev
open PySem PySem.Spec PyProof.Rows L2 PySem.W

/-- what the first statement of such an __init__ finds -/
structure SupOk (X : Cx) (C cc f : Addr) (sf : Str) : Prop where
  sup : X.env.kindOf "super" = some .globalImplicit
  kcl : X.env.kindOf "__class__" = some .free
  fn : X.env.func = some f
  fd : ∃ (oc : Value) (od : Option Addr) (fd : FuncData) (osl : Array (Option Value)) (ar : Arg), X.K.lookup f = some ⟨oc, od, .func fd, osl⟩ ∧ (fd.params.posonlyargs ++ fd.params.args).head? = some ar ∧ ar.arg = sf
  code : ∃ (cda : Addr) (oc : Obj) (vs : Array Value) (file : Str) (tf : Tok), X.env.code = .ref cda ∧ X.K.lookup cda = some oc ∧ oc.data = .fields vs ∧ vs[2]? = some (.str file tf) ∧ ((X.prog.main.file : Str) == file) = true
  top : (X.prog.main.scope.names.lookup ("super" : Str)).isSome = false
  mg : X.mg "super" = none
  cell : X.env.cells.lookup ("__class__" : Str) = some cc
  cellv : ∃ (oc : Obj), X.K.lookup cc = some oc ∧ oc.data = .cell (some (.ref C))
  par : X.N[0]? = some sf
  loc : X.env.kindOf sf = some .local
  init : ks_superIn X.K C C "__init__" = some (some (.builtin "ValueError.__init__"))
  isV : subIn X.K (.ref C) (.type "ValueError") = some true
  any : nsIn X.K cStatics "thirdparty.any" = some none
  slf : mroIn X.K C (.ref C) = some true
theorem sup_init {X : Cx} {C cc f : Addr} {sf : Str} (S : SupOk X C cc f sf) (T : OexC X.K C) {pins : List (Addr × Obj)} {σ : L2.St} {H : Hp} {s : Shared} {a : Addr} {body : List Stmt} {p0 p1 p2 p3 p4 p5 : Pos} {m : Str} {j : Nat} {pl : Sem Bool} {Q : Flow → Shared → Prop}
    (I : Inv X pins σ H s) (hself : σ[0]? = some (some (.ref a))) (ha : H a = some (exo a C none)) (h : ∀ s', Inv X pins σ H s' → Q .next s')
    (hi : interactive X.env = false) (hsw : swapsWith (.Call (.Attribute (.Call (.Name "super" p0) [] [] p1) "__init__" p2) [.Constant (.str m) j p3] [] p4) none p5.line X.env = pure false)
    (hc : eval (.Call (.Attribute (.Call (.Name "super" p0) [] [] p1) "__init__" p2) [.Constant (.str m) j p3] [] p4) X.env = (do
      let ov ← attributeBase (.Call (.Name "super" p0) [] [] p1) "__init__" X.env (eval (.Call (.Name "super" p0) [] [] p1) X.env)
      standAt p2.atName
      let (f, first) ← holding [ov] (getMethod ov "__init__" pl)
      callWith p4 f first (backTo p4 (starEach [.Constant (.str m) j p3] X.env)) [])) :
    PySem.wpAt (model X.prog X.w) X.A (.func body X.env) (PySem.exec (.Expr (.Call (.Attribute (.Call (.Name "super" p0) [] [] p1) "__init__" p2) [.Constant (.str m) j p3] [] p4) p5) X.env) Q X.xe s := by
  obtain ⟨oc, od, fd, osl, ar, hf, har, rfl⟩ := S.fd
  obtain ⟨cda, oco, vs, file, tf, hco, hcda, hvs0, hvs, hfile⟩ := S.code
  obtain ⟨occ, hcc, hccd⟩ := S.cellv
  obtain ⟨nm, q, N, bs, bm, sn, sub, ab, col, dd, k0, k1, k2, k3, k5, hC, hbm⟩ := T.cls
  have hcl : clsIn X.K C = some { name := nm, bases := bs, mro := .ref C :: bm, ns := N, qualname := q, hasDict := true, slotNames := sn, subclasses := sub, abstract := ab, collection := col, hasDel := false } := by unfold clsIn; rw [hC] <;> rfl
  refine ks_wpAt_Expr_any ?_ hi hsw
  refine ks_wpAt_MethodCall (pl := pl) ?_ hc
  refine ks_wpAt_super_base S.sup S.kcl rfl S.fn (I.kIn _ _ hf) rfl har hco (I.kIn _ _ hcda) hvs0 hvs hfile S.top ?_
  obtain ⟨mb, hb1, hb2⟩ := I.mod.blt
  refine ks_loadName_global I.ok.kind S.sup (Calls.loadGlobal_builtin (v := .type "super") (by rw [I.ok.glob]; exact I.mod.glob.keeps I.bk) S.mg (by rw [I.ok.blt]; exact hb1.keeps I.bk) ((hb2 "super" (by decide)).trans (by first | rfl | decide +kernel)) ⟨rfl, ?_⟩)
  refine wpAny_loadName_free I.ok.kind S.kcl S.cell ⟨_, I.kIn _ _ hcc, hccd⟩ ?_
  obtain ⟨mL, hn, hl⟩ := I.loc
  obtain ⟨u, ru, lk⟩ := hl 0 ar.arg (.ref a) S.par hself (.inl S.loc)
  obtain rfl : u = Value.ref a := ru
  have hm : mL ar.arg = some (.ref a) := by
    rcases lk with ⟨_, hm⟩ | ⟨hk, _⟩
    · exact hm
    · rw [S.loc] at hk
      rcases hk with hk | hk <;> cases hk
  refine wpAny_loadName_local I.ok.kind S.loc hn hm ?_
  obtain ⟨t1, ho⟩ := exo_at I.hok ha
  obtain ⟨hp, g, d, t, os⟩ := s
  refine ks_wpAny_isType_cls (I.kIn _ _ hC) rfl ⟨rfl, ?_⟩
  refine ks_wpAny_call_super (I.kIn _ _ hC) rfl ho rfl (fun c e => by cases e) (looks_mroIn I.kIn S.slf) (fun h1 e1 kk1 => ?_)
  have I1 : Inv X pins σ H ⟨h1, g, d, t, os⟩ := I.kept (t' := t) kk1
  have hI : InstAt h1 a { cls := .ref C, dict := none, data := .fields #[.ref t1, .none, .none, .none, .bool false, .none] } C none := ⟨kk1 _ _ ho, rfl, rfl, trivial⟩
  have hmi := S.init
  unfold ks_superIn at hmi
  rw [hcl] at hmi
  refine kxs_getMethod kxs_ValueError e1 (looks_opaque I1.kIn S.any) (l₀ := .ref C :: bm) (fun A Q E s k q => wpAny_bind ((looks_clsIn I1.kIn hcl) A _ E s k (wpAny_pure q))) rfl I1.kIn hmi (hI.type.andThen (looks_subIn I1.kIn S.isV)) (ks_ne I1.kIn hI hcl) (by decide) ?_
  have I2 : Inv X pins σ H ⟨h1.push (kxs_mw "ValueError.__init__" a), g, d, t + 1, os⟩ := I1.kept (t' := t + 1) fun b o e => Heap.get?_push_of_some _ e
  have hu : (h1.push (kxs_mw "ValueError.__init__" a)).get? h1.objs.size = some (kxs_mw "ValueError.__init__" a) := Heap.get?_push_at rfl rfl
  refine kxs_callWith (i := "ValueError.__init__") (x := a) rfl ?_
  show wpAny _ _ (evalArgs (.ref h1.objs.size) true ((false, eval (.Constant (.str m) j p3) X.env) :: backTo p4 (starEach [] X.env)) []) _ _ _
  refine Calls.evalArgs_plain ?_
  refine Calls.spliced_cons (Calls.Constant_str (Calls.spliced_nil ⟨hu, ?_⟩))
  have I3 : Inv X pins σ H ⟨h1.push (kxs_mw "ValueError.__init__" a), g, d, t + 1 + 1, os⟩ := I2.tok _
  obtain ⟨t2, ho2⟩ := exo_at I3.hok ha
  refine wpAny_call (codeAny_of_tree ?_)
  show wpAny _ _ (callAny (.ref h1.objs.size) ⟨[.str m _], []⟩) _ _ _
  simp only [callAny]
  refine wpAny_bind (wpAny_load hu ?_)
  simp only [kxs_mw, show (Value.type "method-wrapper" == Value.type "method" || Value.type "method-wrapper" == Value.type "builtin_function_or_method" || Value.type "method-wrapper" == Value.type "method-wrapper") = true by decide, if_true]
  refine KFB.if_so (by decide) ?_
  refine wpAny_bind (check_bound_init F.excBase_ValueError.toExcCallFacts (I3.kIn _ _ hC) ho2 rfl ?_)
  refine wpAny_bind (wpAny_pure (wpAny_pure ?_))
  refine ⟨plainId_quiet F.excBase_ValueError.init.plain _, codeAny_builtin F.excBase_ValueError.initEntry ?_⟩
  refine exc_init_tree (cls := .ref C) (t0 := t2) (dv := none) (c2 := .none) (c3 := .none) (b4 := .bool false) ho2 (by show 1 ≤ sizeLine; rw [sizeLine_eq]; omega) fun h' k hx _ => ?_
  have J := I3.write (t' := t + 1 + 1) (x := a) (e := a) (o := exo a C none) (by rw [ha]; exact True.intro) (.inl rfl) k ⟨_, hx⟩ (exo_ok hx)
  have eu : upd H a (exo a C none) = H := by
    funext b
    by_cases hb : b = a
    · rw [hb, upd_same, ha]
    · rw [upd_ne hb]
  rw [eu] at J
  exact h _ J
end Ev
/-! Ev42: an exception's __init__: super().__init__(m), then self.f = p. -/
namespace Ev
open PySem PySem.Spec PyProof.Rows L2 PySem.W

/-- what such an __init__ does -/
def spInit (C : Addr) (f : Str) : Sp := fun vs H Q _ => ∃ a u, vs = [.ref a, u] ∧ H a = some (exo a C none) ∧ ∀ dx, H dx = none → dx ≠ a → Q .non (upd (upd H dx (exd dx [(f, u)])) a (exo a C (some dx)))
abbrev supE (p0 p1 p2 p3 p4 : Pos) (m : Str) (j : Nat) : Expr := .Call (.Attribute (.Call (.Name "super" p0) [] [] p1) "__init__" p2) [.Constant (.str m) j p3] [] p4
abbrev asgE (q0 q1 q2 q3 : Pos) (sf f pn : Str) : Stmt := .Assign [.Attribute (.Name sf q0) f q1] (.Name pn q2) q3
theorem fnI_of {P : Program} {w : World} {K : PySem.W.Frag} {mg : Str → Option Value} {base : Heap} {CX : CXT} {k : Nat} {fI C cc cda : Addr} {name qual : Str} {params : Arguments} {scope : Scope} {dV kV doc pm ct oc : Value} {an od : Option Addr}
    {osl : Array (Option Value)} {sf pn f m : Str} {j : Nat} {p0 p1 p2 p3 p4 p5 q0 q1 q2 q3 : Pos} {ar : Arg}
    (lk : K.lookup fI = some ⟨oc, od, .func (ksFn name qual params [.Expr (supE p0 p1 p2 p3 p4 m j) p5, asgE q0 q1 q2 q3 sf f pn] scope dV kV doc pm an (.ref cda) ct cc), osl⟩)
    (hcd : codeIn K (.ref cda) qual = true) (S : NdefX.NScope [sf, pn, "__class__"] [sf, pn] ["__class__"] scope) (T : OexC K C)
    (har : (params.posonlyargs ++ params.args).head? = some ar) (hsf : ar.arg = sf)
    (hcode : ∃ (oc : Obj) (vs : Array Value) (file : Str) (tf : Tok), K.lookup cda = some oc ∧ oc.data = .fields vs ∧ vs[2]? = some (.str file tf) ∧ ((P.main.file : Str) == file) = true)
    (hcell : ∃ oc : Obj, K.lookup cc = some oc ∧ oc.data = .cell (some (.ref C)))
    (htop : (P.main.scope.names.lookup ("super" : Str)).isSome = false) (hmg : mg "super" = none) (hsup : scope.names.lookup ("super" : Str) = some .globalImplicit)
    (hini : ks_superIn K C C "__init__" = some (some (.builtin "ValueError.__init__"))) (hV : subIn K (.ref C) (.type "ValueError") = some true) (hany : nsIn K cStatics "thirdparty.any" = some none) (hself : mroIn K C (.ref C) = some true)
    (hnf : findIn K (.ref C) f = some none)
    (hsw1 : ∀ env : PySem.Env, swapsWith (supE p0 p1 p2 p3 p4 m j) none p5.line env = pure false) (hint : ∀ (L : Addr), interactive (ksEnv qual scope L fI (.ref cda) cc) = false)
    (hpl : ∃ pl : Sem Bool, ∀ env : PySem.Env, eval (supE p0 p1 p2 p3 p4 m j) env = (do
      let ov ← attributeBase (.Call (.Name "super" p0) [] [] p1) "__init__" env (eval (.Call (.Name "super" p0) [] [] p1) env)
      standAt p2.atName
      let (f, first) ← holding [ov] (getMethod ov "__init__" pl)
      callWith p4 f first (backTo p4 (starEach [.Constant (.str m) j p3] env)) []))
    (hsw2 : ∀ env : PySem.Env, swapsWith (.Name pn q2) (some (.Attribute (.Name sf q0) f q1)) q3.line env = pure false)
    (hd1 : (sf == ("__debug__" : Str)) = false) (hd2 : (pn == ("__debug__" : Str)) = false) (hd3 : (sf == ("__classdict__" : Str)) = false) (hd4 : (pn == ("__classdict__" : Str)) = false) :
    FnOk P w K mg base CX (k + 1) fI (ksFn name qual params [.Expr (supE p0 p1 p2 p3 p4 m j) p5, asgE q0 q1 q2 q3 sf f pn] scope dV kV doc pm an (.ref cda) ct cc) [sf, pn] (spInit C f) where
  len := fun vs H Q E h => by
    obtain ⟨a, u, rfl, _⟩ := h
    rfl
  run := fun A outer s H args us vs Q E hroom env0 binds rel want => by
    have kIn : K.In s.heap := env0.mod.kin.keeps fun b o e => (env0.bs b o e).1
    have noLim : s.heap.NoLimit := env0.mod.nolimit.keeps fun b o e => (env0.bs b o e).1
    obtain ⟨a, u, rfl, ha, hq⟩ := want
    obtain ⟨pl, hpl⟩ := hpl
    let body : List Stmt := [.Expr (supE p0 p1 p2 p3 p4 m j) p5, asgE q0 q1 q2 q3 sf f pn]
    let NFx : NdefX.NF := ⟨name, qual, params, body, scope, [("__class__", cc)], cda⟩
    have hC : NdefX.CellsAt NFx.cl ["__class__"] [some (.ref C)] s.heap H := by
      obtain ⟨occ, hcc, hcd⟩ := hcell
      have one : ∀ (y : Str) (c : Addr), List.lookup y [(("__class__" : Str), cc)] = some c → y = "__class__" ∧ c = cc := fun y c e => by
        have q := PySem.mem_of_lookup e
        simp only [List.mem_singleton, Prod.mk.injEq] at q
        exact q
      have hb := env0.mod.kin _ _ hcc
      have hcl : s.heap.IsCell cc (some (.ref C)) := ⟨occ, (env0.bs _ _ hb).1, hcd⟩
      refine ⟨rfl, fun y c hy => ?_, fun x y c hx hy => (one x c hx).1.trans (one y c hy).1.symm, fun i y hy => ?_⟩
      · obtain ⟨rfl, rfl⟩ := one y c hy
        exact ⟨(env0.bs _ _ hb).2, _, hcl⟩
      · cases i with
        | zero =>
          simp only [List.getElem?_cons_zero, Option.some.injEq] at hy
          subst hy
          refine ⟨cc, by show List.lookup ("__class__" : Str) [("__class__", cc)] = some cc; simp [List.lookup], fun v hv => ?_⟩
          simp only [List.getElem?_cons_zero, Option.some.injEq] at hv
          subst hv
          exact ⟨.ref C, rfl, hcl⟩
        | succ i => simp at hy
    refine ks_codeAny_call_defAt (fd := ksFn name qual params body scope dV kV doc pm an (.ref cda) ct cc) (body := body) (binds := [sf, pn].zip us) hroom.depth (kIn _ _ lk) rfl noLim (codeRec_of kIn hcd) rfl binds S.nocell (fun x hx => S.par _ (List.of_mem_zip hx).1) (fun h₀ hns kp => ?_) S.co S.gen S.kind
    let X := NdefX.ncx CX P w K mg base [sf, pn, "__class__"] NFx fI A outer s H E
    have I : Inv X [] (NdefX.startF [sf, pn, "__class__"] [.ref a, u] [some (.ref C)]) H { s with heap := h₀, toks := s.toks + ([sf, pn].zip us).length } := NdefX.inv_startN S hroom.hd env0 rfl rel hC hns kp
    have SO : SupOk X C cc fI sf := by
      obtain ⟨occ, hcc, hcd⟩ := hcell
      obtain ⟨oco, vs, file, tf, h1, h2, h3, h4⟩ := hcode
      exact ⟨hsup, S.frk _ (.head _), rfl, ⟨oc, od, _, osl, ar, lk, har, hsf⟩, ⟨cda, oco, vs, file, tf, rfl, h1, h2, h3, h4⟩, htop, hmg, by show List.lookup ("__class__" : Str) [("__class__", cc)] = some cc; simp [List.lookup], ⟨occ, hcc, hcd⟩, rfl, S.par _ (.head _), hini, hV, hany, hself⟩
    refine ks_wpAt_execs_cons (sup_init SO T I rfl ha (fun s' I' => ?_) (hint _) (hsw1 _) (hpl _))
    have hps : PSs X [asgE q0 q1 q2 q3 sf f pn] _ := pss_one (ps_ost (pe_var (i := 0) rfl (.inl (S.par _ (.head _))) hd1 hd3) (pe_var (i := 1) rfl (.inl (S.par _ (.tail _ (.head _)))) hd2 hd4) (hsw2 _))
    refine wpAt_of_wpAny (wpAny_mono (hps.run [] s' _ H { nx := fun _ H' => Q .non H', rt := Q } I' ?_) (fun fl s' hs => ?_) fun e s' hs => hs)
    · refine ⟨u, rfl, .ref a, rfl, a, C, rfl, T, hnf, .inl ⟨ha, fun dx hn hne => hq dx hn hne⟩⟩
    · cases fl with
      | ret u =>
        obtain ⟨v, σ', H', J, rv, q⟩ := hs
        exact ⟨v, H', J.os, J.bare, J.base, J.hok, rv, q⟩
      | next =>
        obtain ⟨σ', H', J, q⟩ := hs
        exact ⟨V.non, H', J.os, J.bare, J.base, J.hok, rfl, q⟩
      | brk => exact hs.choose_spec.choose_spec.2.elim
      | cont => exact hs.choose_spec.choose_spec.2.elim
end Ev
/-! Ev43: raise C(e). -/
namespace Ev
open PySem PySem.Spec PyProof.Rows L2

section
variable {B : Wd} {X : Cx} {C : Cfg} {W : WX} {P : List (Nat × V)}
theorem Step.lay {Z Z' : Addr → Prop} {H H' : Hp} {F G : List Addr} {dx : Addr} {u : HO} (t : Step Z H F Z' H' G) (hn : H' dx = none) : Step Z H F Z' (upd H' dx u) G where
  sub := t.sub
  new := t.new
  oth := fun a o h hf => by
    have := t.oth a o h hf
    by_cases e : a = dx
    · rw [e, hn] at this; cases this
    · rw [upd_ne e]; exact this
  nd := t.nd
  dz := t.dz
  trk := fun a h => by
    by_cases e : a = dx
    · exact ⟨u, by rw [e, upd_same]⟩
    · obtain ⟨o, ho⟩ := t.trk a h
      exact ⟨o, by rw [upd_ne e]; exact ho⟩
theorem lay_ext {H : Hp} {dx : Addr} {u : HO} (hn : H dx = none) : ∀ a o, H a = some o → upd H dx u a = some o := fun a o h => by
  by_cases e : a = dx
  · rw [e, hn] at h; cases h
  · rw [upd_ne e]; exact h
theorem exec_raise1 {nm : String} {e : E} {env : Env} {fs : D → List (String × D)} (hio : C.io nm = []) (hcall : ∀ d, C.call nm [.fr d] = .ok (.fr (.exn nm (fs d))) []) : exec C (.raise (.call nm [e])) env = (ev C e false env).thn fun v env1 => .exc (.exn nm (fs v.view)) env1 := by
  simp only [exec, ev, hio, evargs]
  cases ev C e false env with
  | bad => rfl
  | exc x e1 => rfl
  | ok o e1 =>
    have h1 : finish (C.call nm) false [e] [some (.fr o.view)] e1 = .ok (.fr (.exn nm (fs o.view))) e1 := by
      simp [finish, outsOf, argsOf, apart, hcall, putPaths]
    simp only [R.bind, List.not_mem_nil, if_false, h1]
    rfl
/-- raise of a class without own __init__ -/
theorem ok_raiseP (g : GX X B) (tk : Takes X W) {nm : String} {Cx0 : Addr} {bmB : List Value} {B0 newId initId : String} {x : Str} {e : Expr} {e0 : E} {p pos rpos : Pos} (hio : C.io nm = []) (hcall : ∀ d, C.call nm [.fr d] = .ok (.fr (.exn nm [])) []) (hcls : B.cls nm = some Cx0)
    (F0 : ExcBaseFacts B0 newId initId bmB) (q0 : PySem.W.excIn X.K Cx0 bmB newId = true) (gC : X.mg x = some (.ref Cx0)) (kC : PySem.W.keepIn X.K (.ref Cx0) = true) (r : Raises X (.ref Cx0)) (hg : Gl X x)
    (he : PE X e (tE B C W e0 false)) (hs : starEach [e] X.env = (false, eval e X.env) :: starEach [] X.env) (hdb : (x == ("__debug__" : Str)) = false) :
    OkS X B C W P (.Raise (some (.Call (.Name x p) [e] [] pos)) none rpos) (.raise (.call nm [e0])) :=
  ⟨PS.imp (ps_raise g.calm tk (SkE.pmk_own1 F0 q0 gC kC r hg he hs hdb)) fun D σ H ⟨Z, env, F, st, fx, q⟩ => by
    refine ⟨Z, env, F, st, ?_⟩
    rw [exec_raise1 (fs := fun _ => []) hio hcall] at q
    refine PostE.thnS fx q fun o env1 v Z' H' F' fp r1 e1 t1 q1 => ?_
    exact q1 σ (.ref Cx0) none Z' H' F' ⟨nm, [], Cx0, rfl, hcls, rfl, .inl ⟨rfl, rfl⟩⟩ e1 fx t1.drop⟩
/-- raise of a class with an attribute -/
theorem ok_raiseI (g : GX X B) (tk : Takes X W) {nm : String} {fn : String} {Cx0 fI : Addr} {CX0 : CXT} {x : Str} {e : Expr} {e0 : E} {p pos rpos : Pos} {k : Nat} {fd : FuncData} {ps : List Str} (hio : C.io nm = []) (hcall : ∀ d, C.call nm [.fr d] = .ok (.fr (.exn nm [(fn, d)])) []) (hcls : B.cls nm = some Cx0)
    (T : OexC X.K Cx0) (iC : PySem.W.findIn X.K (.ref Cx0) "__init__" = some (some (.ref fI))) (tI : PySem.W.typeIn X.K (.ref fI) = some (.type "function")) (F1 : FnOk X.prog X.w X.K X.mg X.base CX0 k fI fd ps (spInit Cx0 (Str.ofString fn))) (hr : Room (k + 1) X.A) (hb : Binds X.K fd ps [])
    (hx : Passes CX0 X (fun _ _ _ => False)) (hg : Gl X x) (hm : X.mg x = some (.ref Cx0)) (he : PE X e (tE B C W e0 false)) (hn : NoStar e) (hdb : (x == ("__debug__" : Str)) = false) :
    OkS X B C W P (.Raise (some (.Call (.Name x p) [e] [] pos)) none rpos) (.raise (.call nm [e0])) :=
  ⟨PS.imp (ps_raise g.calm tk (pmk_oex (pos := pos) (p := p) T iC tI F1 hr hb .nil hx hg hm (pa_cons he pa_nil (hn [] X.env)) hdb (hn [] X.env) rfl)) fun D σ H ⟨Z, env, F, st, fx, q⟩ => by
    refine ⟨Z, env, F, st, ?_⟩
    rw [exec_raise1 (fs := fun d => [(fn, d)]) hio hcall] at q
    refine PostE.thnS fx q fun o env1 v Z' H' F' fp r1 e1 t1 q1 => ?_
    refine ⟨(show 1 ≤ 1000 by decide), fun a ha => ⟨a, v, rfl, upd_same, fun dx hdx hne => ⟨rfl, dx, [(Str.ofString fn, v)], upd_same, by rw [upd_ne hne, upd_same], ?_, ?_⟩⟩⟩
    · rw [upd_ne hne] at hdx; exact hdx
    · have hdx' : H' dx = none := by rw [upd_ne hne] at hdx; exact hdx
      have eH : upd (del (upd (upd (upd H' a (exo a Cx0 none)) dx (exd dx [(Str.ofString fn, v)])) a (exo a Cx0 (some dx))) a) dx (.xd [(Str.ofString fn, v)]) = upd H' dx (.xd [(Str.ofString fn, v)]) := by
        funext b
        by_cases h1 : b = dx
        · rw [h1, upd_same, upd_same]
        · rw [upd_ne h1, upd_ne h1]
          by_cases h2 : b = a
          · rw [h2, del_same, ha]
          · rw [del_ne h2, upd_ne h2, upd_ne h1, upd_ne h2]
      rw [eH]
      have tS := (t1.share r1.trk).lay (u := .xd [(Str.ofString fn, v)]) hdx'
      have gs : Gr Z' (fun b => Z' b ∨ b ∈ fp) H' (upd H' dx (.xd [(Str.ofString fn, v)])) := .of (fun _ h => .inl h) (fun b o _ h => lay_ext hdx' b o h) fun b xs h => lay_ext hdx' b _ h
      have rs : Rep B (fun b => Z' b ∨ b ∈ fp) (upd H' dx (.xd [(Str.ofString fn, v)])) o.view v := RepO.share gs (fun b hb => ⟨.inr hb, fun u hu => lay_ext hdx' b u hu⟩) r1
      refine q1 σ (.ref Cx0) (some dx) _ _ F' ⟨nm, [(fn, o.view)], Cx0, rfl, hcls, rfl, .inr ⟨dx, _, rfl, upd_same, ?_⟩⟩ (e1.mono gs fun b _ u hu => lay_ext hdx' b u hu) fx tS
      simp only [Repf]
      exact ⟨v, [], rfl, rs, rfl⟩⟩
end
end Ev
/-! Ev44: exceptions made as values. -/
namespace Ev
open PySem PySem.Spec PyProof.Rows L2

/-- an exception object, its class and dict told -/
def ExH (a C : Addr) (d : Option Addr) : HO := .ext fun h => ∃ (oe : Obj) (vs : Array Value), h.get? a = some oe ∧ oe.cls = .ref C ∧ oe.dict = d ∧ oe.data = .fields vs ∧ vs[1]? = some .none ∧ vs[2]? = some .none ∧ 4 < vs.size
theorem exH_ok {P : Program} {w : World} {H : Hp} {h : Heap} {a C : Addr} {d : Option Addr} {oe : Obj} {vs : Array Value} (e : h.get? a = some oe) (z : oe.cls = .ref C) (zd : oe.dict = d) (hd : oe.data = .fields vs) (h1 : vs[1]? = some .none) (h2 : vs[2]? = some .none) (h5 : 4 < vs.size) : ObjOk P w H h a (ExH a C d) :=
  ⟨⟨oe, vs, e, z, zd, hd, h1, h2, h5⟩, ⟨_, e⟩, fun h1' h2' q k => by
    obtain ⟨oe, vs, e, r⟩ := q
    exact ⟨oe, vs, k _ e, r⟩⟩
theorem exO_exH {C a : Addr} : ExO (.ref C) a = ExH a C none := by
  unfold ExO ExH Zc
  congr 1
  funext h
  simp only [and_assoc]
section
variable {X : Cx}
/-- C(e), C's own __init__ keeping its argument at f -/
def tMkV (C : Addr) (f : Str) (ta : TA) : TE := fun σ H Q => ta σ H fun vs H1 => ∃ u, vs = [u] ∧ ∀ a dx, H1 a = none → H1 dx = none → dx ≠ a → Q (.ref a) (upd (upd H1 dx (.xd [(f, u)])) a (ExH a C (some dx)))
/-- an exception in the making, made -/
theorem exo_done {pins : List (Addr × Obj)} {σ : L2.St} {H1 : Hp} {s : Shared} {a C dx : Addr} {fs : List (Str × V)} (I : Inv X pins σ (upd (upd (upd H1 a (exo a C none)) dx (exd dx fs)) a (exo a C (some dx))) s) (hne : dx ≠ a) :
    Inv X pins σ (upd (upd H1 dx (.xd fs)) a (ExH a C (some dx))) s := by
  have ea : upd (upd (upd H1 a (exo a C none)) dx (exd dx fs)) a (exo a C (some dx)) a = some (exo a C (some dx)) := upd_same
  have ed : upd (upd (upd H1 a (exo a C none)) dx (exd dx fs)) a (exo a C (some dx)) dx = some (exd dx fs) := by rw [upd_ne hne, upd_same]
  obtain ⟨t0, hoe⟩ := exo_at I.hok ea
  obtain ⟨mA, hns, rel⟩ := exd_at I.hok ed
  obtain ⟨od, es, ep, hod, hr⟩ := id hns
  have I1 := I.write (t' := s.toks) (h' := s.heap) (x := dx) (e := dx) (o := .xd fs) (by rw [ed]; exact True.intro) (.inl rfl) (fun _ _ _ h => h) ⟨_, hod⟩ ⟨mA, hns, rel⟩
  have I2 := I1.write (t' := s.toks) (h' := s.heap) (x := a) (e := a) (o := ExH a C (some dx)) (by rw [upd_ne (Ne.symm hne), ea]; exact True.intro) (.inl rfl) (fun _ _ _ h => h) ⟨_, hoe⟩ (exH_ok hoe rfl rfl rfl rfl rfl (show 4 < 6 by decide))
  have eH : upd (upd (upd (upd (upd H1 a (exo a C none)) dx (exd dx fs)) a (exo a C (some dx))) dx (.xd fs)) a (ExH a C (some dx)) = upd (upd H1 dx (.xd fs)) a (ExH a C (some dx)) := by
    funext b
    by_cases h1 : b = a
    · rw [h1, upd_same, upd_same]
    · rw [upd_ne h1, upd_ne h1]
      by_cases h2 : b = dx
      · rw [h2, upd_same, upd_same]
      · rw [upd_ne h2, upd_ne h2, upd_ne h1, upd_ne h2, upd_ne h1]
  rw [eH] at I2
  exact I2
theorem pe_oex {CX0 : CXT} {x f : Str} {C fI : Addr} {k : Nat} {fd : FuncData} {ps : List Str} {e : Expr} {p pos : Pos} {te : TE} (T : OexC X.K C) (iC : PySem.W.findIn X.K (.ref C) "__init__" = some (some (.ref fI))) (tI : PySem.W.typeIn X.K (.ref fI) = some (.type "function"))
    (F1 : FnOk X.prog X.w X.K X.mg X.base CX0 k fI fd ps (spInit C f)) (hr : Room (k + 1) X.A) (hb : Binds X.K fd ps []) (hx : Passes CX0 X (fun _ _ _ => False)) (hg : Gl X x) (hm : X.mg x = some (.ref C)) (he : PE X e te)
    (hdb : (x == ("__debug__" : Str)) = false) (hs : starEach [e] X.env = (false, eval e X.env) :: starEach [] X.env) :
    PE X (.Call (.Name x p) [e] [] pos) (tMkV C f (tCons te tNil)) := by
  have ha : PA X [e] (tCons te tNil) := pa_cons he pa_nil hs
  constructor
  intro pins s σ H Q I h
  obtain ⟨nm, q, N, bs, bm, sn, sub, ab, col, dd, k0, k1, k2, k3, k5, hC, hbm⟩ := T.cls
  refine wpAny_Call_Name_kw (ld_glob I hg hm ?_ hdb)
  refine PySem.W.callWith_K (h₀ := X.base) I.ok.mod.kin T.kC (thn (ha.run pos pins s σ H _ I h) fun us s1 ⟨vs, H1, I1, r1, u, hvs, q1⟩ => ⟨I1.kIn, ?_⟩) hs rfl
  subst hvs
  show wpAny _ _ (call (.ref C) us) _ _ _
  obtain ⟨hp, g, dr, tk, os⟩ := s1
  have a0 : hp.objs.size ≤ hp.objs.size + 1 := Nat.le_succ _
  have n0 : H1 (hp.objs.size + 1) = none := I1.hok.fresh a0
  have kk : ∀ b o, hp.get? b = some o → ((hp.push (PySem.W.kdv_tup us)).push (PySem.HandSPX.excO C hp.objs.size)).get? b = some o := fun b o z => Heap.get?_push_of_some _ (Heap.get?_push_of_some _ z)
  have ge : ((hp.push (PySem.W.kdv_tup us)).push (PySem.HandSPX.excO C hp.objs.size)).get? (hp.objs.size + 1) = some (PySem.HandSPX.excO C hp.objs.size) := by heap_get
  have I2 := I1.laid (t' := tk) (a := hp.objs.size + 1) (o := exo (hp.objs.size + 1) C none) kk a0 (exo_ok ge)
  have want : spInit C f [.ref (hp.objs.size + 1), u] (upd H1 (hp.objs.size + 1) (exo (hp.objs.size + 1) C none)) (fun v H2 => v = .non ∧ ∃ dx, dx ≠ hp.objs.size + 1 ∧ H1 dx = none ∧ H2 = upd (upd (upd H1 (hp.objs.size + 1) (exo (hp.objs.size + 1) C none)) dx (exd dx [(f, u)])) (hp.objs.size + 1) (exo (hp.objs.size + 1) C (some dx))) (fun _ _ _ => False) :=
    ⟨_, u, rfl, upd_same, fun dx h1 h2 => ⟨rfl, dx, h2, by rw [upd_ne h2] at h1; exact h1, rfl⟩⟩
  have r2 : Vals [V.ref (hp.objs.size + 1), u] (Value.ref (hp.objs.size + 1) :: us) := .cons rfl r1
  have hl : (Value.ref (hp.objs.size + 1) :: us ++ ([] : List Value)).length = ps.length := by
    rw [List.append_nil, ← r2.length]
    exact F1.len _ _ _ _ want
  have hus : us.length ≤ sizeLine := by
    rw [← Paired.length r1, sizeLine_eq]
    show 1 ≤ _
    omega
  have bd := hb _ (Value.ref (hp.objs.size + 1) :: us) I2.kIn hl
  rw [List.append_nil] at bd
  refine wpAny_call (PySem.HandSPX.call_own F.excBase_ValueError (fun Y => PySem.HandSPX.refsVE_contains Y bm hbm) (I1.kIn _ _ hC) (PySem.W.looks_findIn I1.kIn iC) (fun slf => PySem.W.bind_fn I1.kIn slf tI) hus
    (codeAny_mono (F1.run _ X.stack _ _ ⟨Value.ref (hp.objs.size + 1) :: us, []⟩ _ _ _ (fun _ _ _ => False) (hr.make C us []) (I2.env0.make C us []) bd r2 want) fun r s' hq => ?_))
  cases r with
  | error er => exact hx pins σ _ _ er s' I2 hq
  | ok fl =>
    cases fl with
    | ret uu =>
      obtain ⟨v, H2, J, rv, ev, dx, hne, hn1, rfl⟩ := I2.after hq
      subst ev
      exact ⟨rv, .ref (hp.objs.size + 1), _, exo_done J hne, rfl, q1 _ dx n0 hn1 hne⟩
    | next => exact False.elim hq
    | brk => exact False.elim hq
    | cont => exact False.elim hq
end
end Ev
/-! Ev45: C(e) of an exception's class, as an expression. -/
namespace Ev
open PySem PySem.Spec PyProof.Rows L2

section
variable {B : Wd} {X : Cx} {C : Cfg} {W : WX}
theorem ev_call1 {nm : String} {e : E} {env : Env} {n : Bool} {fs : D → List (String × D)} (hio : C.io nm = []) (hcall : ∀ d, C.call nm [.fr d] = .ok (.fr (.exn nm (fs d))) []) : ev C (.call nm [e]) n env = (ev C e n env).bind fun v env1 => .ok (.fr (.exn nm (fs v.view))) env1 := by
  simp only [ev, hio, evargs]
  cases ev C e n env with
  | bad => rfl
  | exc x e1 => rfl
  | ok o e1 =>
    have h1 : finish (C.call nm) n [e] [some (.fr o.view)] e1 = .ok (.fr (.exn nm (fs o.view))) e1 := by
      simp [finish, outsOf, argsOf, apart, hcall, putPaths]
    simp only [R.bind, List.not_mem_nil, if_false, h1]
/-- of a class with an attribute -/
theorem ok_excI (g : GX X B) {nm : String} {fn : String} {Cx0 fI : Addr} {CX0 : CXT} {x : Str} {e : Expr} {e0 : E} {p pos : Pos} {k : Nat} {fd : FuncData} {ps : List Str} (hio : C.io nm = []) (hcall : ∀ d, C.call nm [.fr d] = .ok (.fr (.exn nm [(fn, d)])) []) (hcls : B.cls nm = some Cx0) (hexc : nm ∈ B.excs)
    (T : OexC X.K Cx0) (iC : PySem.W.findIn X.K (.ref Cx0) "__init__" = some (some (.ref fI))) (tI : PySem.W.typeIn X.K (.ref fI) = some (.type "function")) (F1 : FnOk X.prog X.w X.K X.mg X.base CX0 k fI fd ps (spInit Cx0 (Str.ofString fn))) (hr : Room (k + 1) X.A) (hb : Binds X.K fd ps [])
    (hx : Passes CX0 X (fun _ _ _ => False)) (hg : Gl X x) (hm : X.mg x = some (.ref Cx0)) (he : OkE X B C W e e0) (hn : NoStar e) (hdb : (x == ("__debug__" : Str)) = false) :
    OkE X B C W (.Call (.Name x p) [e] [] pos) (.call nm [e0]) :=
  OkE.plain g rfl (fun n => PE.imp (pe_oex T iC tI F1 hr hb hx hg hm (he.ve n) hdb (hn [] X.env)) fun σ H Q ⟨Z, env, F, st, q⟩ => by
    refine ⟨Z, env, F, st, ?_⟩
    rw [ev_call1 (fs := fun d => [(fn, d)]) hio hcall] at q
    cases h1 : ev C e0 n env with
    | bad => rw [h1] at q; exact q
    | exc x e => rw [h1] at q; exact q
    | ok o env1 =>
      rw [h1] at q
      intro v Z' H' F' fp r1 e1 t1 k1
      refine ⟨v, rfl, fun a dx ha hdx hne => ?_⟩
      have ha1 : upd H' dx (.xd [(Str.ofString fn, v)]) a = none := by rw [upd_ne (Ne.symm hne)]; exact ha
      have ext : ∀ b u, H' b = some u → upd (upd H' dx (.xd [(Str.ofString fn, v)])) a (ExH a Cx0 (some dx)) b = some u := fun b u h => lay_ext ha1 b u (lay_ext hdx b u h)
      have gs : Gr Z' (fun b => (Z' b ∨ b ∈ fp) ∨ b = a) H' (upd (upd H' dx (.xd [(Str.ofString fn, v)])) a (ExH a Cx0 (some dx))) := .of (fun _ h => .inl (.inl h)) (fun b o _ h => ext b o h) fun b xs h => ext b _ h
      have rs : Rep B _ _ o.view v := RepO.share gs (fun b hb => ⟨.inl (.inr hb), fun u hu => ext b u hu⟩) r1
      refine q (.ref a) _ _ F' [] ?_ (e1.mono gs fun b _ u hu => ext b u hu) (((t1.share r1.trk).lay hdx).madeZ (fun b hb => (e1.trk b hb).imp fun u hu => lay_ext hdx b u hu) ha1) (k1.trans fun _ => ⟨rfl, rfl, fun b u hu => ext b u hu⟩)
      simp only [RepO, Rep]
      refine ⟨⟨a, Cx0, [(Str.ofString fn, v)], rfl, ⟨hexc, hcls⟩, .inr rfl, ⟨some dx, upd_same, .inr ⟨dx, rfl, by rw [upd_ne hne, upd_same]⟩⟩, ?_⟩, trivial⟩
      simp only [Repf]
      exact ⟨v, [], rfl, rs, rfl⟩) (fun _ => rfl)
/-- of a class without own __init__ -/
theorem ok_excP (g : GX X B) {nm : String} {Cx0 : Addr} {bmB : List Value} {B0 newId initId : String} {x : Str} {e : Expr} {e0 : E} {p pos : Pos} (hio : C.io nm = []) (hcall : ∀ d, C.call nm [.fr d] = .ok (.fr (.exn nm [])) []) (hcls : B.cls nm = some Cx0) (hexc : nm ∈ B.excs)
    (F0 : ExcBaseFacts B0 newId initId bmB) (q0 : PySem.W.excIn X.K Cx0 bmB newId = true) (gC : X.mg x = some (.ref Cx0)) (kC : PySem.W.keepIn X.K (.ref Cx0) = true) (hg : Gl X x)
    (he : OkE X B C W e e0) (hn : NoStar e) (hdb : (x == ("__debug__" : Str)) = false) :
    OkE X B C W (.Call (.Name x p) [e] [] pos) (.call nm [e0]) :=
  OkE.plain g rfl (fun n => PE.imp (pe_exc1 F0 q0 gC kC hg (he.ve n) (hn [] X.env) hdb) fun σ H Q ⟨Z, env, F, st, q⟩ => by
    refine ⟨Z, env, F, st, ?_⟩
    rw [ev_call1 (fs := fun _ => []) hio hcall] at q
    cases h1 : ev C e0 n env with
    | bad => rw [h1] at q; exact q
    | exc x e => rw [h1] at q; exact q
    | ok o env1 =>
      rw [h1] at q
      intro v Z' H' F' fp r1 e1 t1 k1 a ha
      rw [exO_exH]
      have ext : ∀ b u, H' b = some u → upd H' a (ExH a Cx0 none) b = some u := fun b u h => lay_ext ha b u h
      have gs : Gr Z' (fun b => (Z' b ∨ b ∈ fp) ∨ b = a) H' (upd H' a (ExH a Cx0 none)) := .of (fun _ h => .inl (.inl h)) (fun b o _ h => ext b o h) fun b xs h => ext b _ h
      refine q (.ref a) _ _ F' [] ?_ (e1.mono gs fun b _ u hu => ext b u hu) ((t1.share r1.trk).madeZ (fun b hb => e1.trk b hb) ha) (k1.trans fun _ => ⟨rfl, rfl, fun b u hu => ext b u hu⟩)
      simp only [RepO, Rep]
      exact ⟨⟨a, Cx0, [], rfl, ⟨hexc, hcls⟩, .inr rfl, ⟨none, upd_same, .inl ⟨rfl, rfl⟩⟩, by simp only [Repf]⟩, trivial⟩) (fun _ => rfl)
end
end Ev
/-! Ev46: the rules in the shapes that the printed proofs use. -/
namespace Ev
open PySem PySem.Spec PyProof.Rows L2

section
variable {B : Wd} {X : Cx} {C : Cfg} {W : WX}
theorem at_itemN {b k : E} {e : Expr} (h : ∀ env, keyOf env k = none) : PE X e (tAt B (.item b k)) :=
  ⟨fun pins s σ H Q I ⟨Z, env, F, o, st, hp, q⟩ => by
    have : pk env (.item b k) = none := by
      simp only [pk, h]
      cases pk env b <;> rfl
    rw [this] at hp
    cases hp⟩
/-- b[k], k no key that can be read beforehand -/
theorem ok_itemN (g : GX X B) {b k : E} {b' k' : Expr} {pos : Pos} (hb : OkE X B C W b' b) (hat : isPath b = true → PE X b' (tAt B b)) (hk : OkE X B C W k' k) (h : ∀ env, keyOf env k = none) (hs : PlainIx k') : OkE X B C W (.Subscript b' k' pos) (.item b k) :=
  ok_item g hb hk hat (fun ⟨env, d, e⟩ => by rw [h env] at e; cases e) hs fun _ => at_itemN h
/-- b[k], k a constant or a name -/
theorem ok_itemK (g : GX X B) {b k : E} {b' k' : Expr} {pos : Pos} (hb : OkE X B C W b' b) (hat : isPath b = true → PE X b' (tAt B b)) (hk : OkE X B C W k' k) (h : PE X k' (tKey B k)) (hs : PlainIx k') : OkE X B C W (.Subscript b' k' pos) (.item b k) :=
  ok_item g hb hk hat (fun _ => h) hs fun hp => at_item g (hat hp) h hs
end
end Ev
/-! Ev47: a comprehension's block keeps the facts of its context. -/
namespace Ev
open PySem PySem.Spec PyProof.Rows L2

section
variable {B : Wd} {X : Cx} {C : Cfg}
theorem GX.blk (g : GX X B) {s : Shared} {H : Hp} {scope : Scope} {env : PySem.Env} {fp : List Addr} : GX (X.blk s H scope env fp) B := ⟨g.w, g.K, g.units, g.calm, g.guards, g.sm, g.obj, g.exo, g.isaT, g.isaC⟩
end
end Ev
namespace Ev
open PySem PySem.Spec PyProof.Rows L2
theorem paList : PlainAttrs "list" := F.plainAttrs_list
theorem tyPop : typeOf (.builtin "list.pop") = pure (.type "method_descriptor") := by kernel_rfl
theorem tyApp : typeOf (.builtin "list.append") = pure (.type "method_descriptor") := by kernel_rfl
end Ev
namespace Ev
open PySem PySem.Spec PyProof.Rows L2
section
variable {B : Wd} {X : Cx} {C : Cfg} {W0 : XK} {k : Nat} {f : Addr} {fd : FuncData} {ps : List Str} {x : Str} {p pos : Pos}
/-- a call, the parameters that go in and out told -/
theorem ok_callN (nm : String) (io : List Nat) (hio : C.io nm = io) (n : Nat) (g : GX X B) (tk : Takes X (W1 W0)) {e' : Expr} {es' : List Expr} {es : List E} (hn : es.length = n) (F : FnG X.prog X.w X.K X.mg X.base k f fd ps (spE B io n (C.call nm))) (hr : Room k X.A) (hgl : Gl X x) (hm : X.mg x = some (.ref f)) (hk : PySem.W.keepIn X.K (.ref f) = true) (hb : Binds X.K fd ps [])
    (ha : OkR X B C (W1 W0) io 0 (e' :: es') es) (hdb : (x == ("__debug__" : Str)) = false) : OkE X B C (W1 W0) (.Call (.Name x p) (e' :: es') [] pos) (.call nm es) := by
  subst hio
  subst hn
  exact ok_call g tk F hr hgl hm hk hb ha hdb
end
end Ev
/-! Ev48: an exception's class with an own __init__, called by keywords. -/
namespace Ev
open PySem PySem.Spec PyProof.Rows L2 PySem.HandSPX

section
variable {M : Model} {A : Around} {E : Value → Shared → Prop} {h : Heap} {g : Array GenState} {d : Drawn} {t : Nat} {os : OsState}
variable {nm q : Str} {C N : Addr} {bs bm bmB : List Value} {hdct : Bool} {sn : List Str} {sub : List Value} {ab : Bool} {col : Option Bool} {dd : Option Addr} {k0 k1 k2 k3 k5 : Option Value} {B newId initId : String}
theorem kw_check_new (F : ExcBaseFacts B newId initId bmB) (hT : ∀ X : String, bm.contains (.type X) = bmB.contains (.type X)) {kw : List (Str × Value)} {Q : Unit → Shared → Prop}
    (hC : h.get? C = some (excClassObj nm q C N bs bm hdct sn sub ab col dd k0 k1 k2 k3 k5 newId)) (hq : Q () ⟨h, g, d, t, os⟩) : wpAny M A (checkBuiltinCall newId ⟨[.ref C], kw⟩) Q E ⟨h, g, d, t, os⟩ := by
  have z1 : (Value.ref C :: bm).contains (.type B) = true := by rw [List.contains_cons, hT, F.hasB, Bool.or_true]
  have z2 := F.noStar
  simp only [checkBuiltinCall, F.newKind, F.newSplit, F.newRow]
  repeat (first | refine wpAny_loadPart_at hC ?_ | (refine wpAny_isSubtype_exc hC ?_; rw [z1]) | refine wpAny_staticBase_exc hC ?_ | refine wpAny_madeBy_exc hC ?_ | simp only [bne_self_eq_false, Bool.false_eq_true, if_false] | wp_step)
  exact hq
end
section
variable {prog : Program} {w : World} {A : Around} {E : Value → Shared → Prop} {R : Result → Shared → Prop} {h : Heap} {g : Array GenState} {d : Drawn} {t : Nat} {os : OsState}
variable {nm q : Str} {C N : Addr} {bs bm bmB : List Value} {hdct : Bool} {sn : List Str} {sub : List Value} {ab : Bool} {col : Option Bool} {dd : Option Addr} {k0 k1 k2 k3 k5 : Option Value} {B newId initId : String}
theorem kw_new (F : ExcBaseFacts B newId initId bmB) (hT : ∀ X : String, bm.contains (.type X) = bmB.contains (.type X)) {kw : List (Str × Value)}
    (hC : h.get? C = some (excClassObj nm q C N bs bm hdct sn sub ab col dd k0 k1 k2 k3 k5 newId))
    (hq : R (.ok (.ret (.ref (h.objs.size + 1)))) ⟨(h.push { cls := .type "tuple", data := .seq ([] : List Value).toArray }).push
      { cls := .ref C, data := .fields #[.ref h.objs.size, .none, .none, .none, .bool false, .none] }, g, d, t, os⟩) :
    codeAny (model prog w) A (.builtin newId ⟨[.ref C], kw⟩) R ⟨h, g, d, t, os⟩ := by
  have hrest : ([] : List Value).length ≤ sizeLine := Nat.zero_le _
  have z0 := F.ends
  have z1 : (Value.ref C :: bm).contains (.type B) = true := by rw [List.contains_cons, hT, F.hasB, Bool.or_true]
  have z2 : (Value.ref C :: bm).contains (.type "AttributeError") = false := by rw [List.contains_cons, hT, F.noAttr]; rfl
  have z3 : (Value.ref C :: bm).contains (.type "NameError") = false := by rw [List.contains_cons, hT, F.noName]; rfl
  refine codeAny_builtinAt F.entry ?_
  unfold Builtin.«BaseException.__new__»
  refine PySem.wpAt_bind ?_
  show PySem.wpAt _ _ _ (stack >>= _) _ _ _
  refine PySem.wpAt_bind (PySem.wpAt_stack fun p below => PySem.wpAt_of_wpAny ?_)
  wp_walk
  refine PySem.wpAt_of_wpAny ?_
  rw [F.owner]
  repeat (first | with_reducible refine wpAny_madeHere_exc F.canon hC ?_ | with_reducible refine wpAny_loadPart_at hC ?_ | (with_reducible refine wpAny_isSubtype_exc hC ?_; first | rw [z1] | rw [z2] | rw [z3]) | wp_step)
  show R _ _
  rw [Heap.size_push]
  exact hq
theorem kw_type_call (F : ExcBaseFacts B newId initId bmB) (hT : ∀ X : String, bm.contains (.type X) = bmB.contains (.type X)) {kw : List (Str × Value)} {fI : Addr} {Q : Fin → Shared → Prop}
    (hC : h.get? C = some (excClassObj nm q C N bs bm hdct sn sub ab col dd k0 k1 k2 k3 k5 newId))
    (hi : W.Looks (model prog w) h (typeLookup (.ref C) "__init__") (some (.ref fI))) (hb : ∀ self, W.Looks (model prog w) h (bindSpecial (.ref fI) self) (.ref fI, [self]))
    (hq : codeAny (model prog w) A (.call (.ref fI) ⟨[.ref (h.objs.size + 1)], kw⟩)
      (fun r s' => match r with | .ok (.ret v) => v = .none ∧ Q (.done (.ret (.ref (h.objs.size + 1)))) s' | .ok _ => False | .error e => E e s')
      ⟨(h.push (W.kdv_tup [])).push (excO C h.objs.size), g, d, t, os⟩) :
    wpAny (model prog w) A (Builtin.«type.__call__» ⟨[.ref C], kw⟩) Q E ⟨h, g, d, t, os⟩ := by
  repeat (first | with_reducible refine wpAny_loadPart_at hC ?_ | with_reducible refine wpAny_madeBy_exc hC ?_ | wp_step)
  refine codeAny_call_builtin_code (Code.quiet_builtin _ F.quiet) (kw_check_new F hT hC ?_)
  refine kw_new F hT hC ?_
  show wpAny _ _ _ _ _ _
  have k : ∀ b o, h.get? b = some o → ((h.push (W.kdv_tup [])).push (excO C h.objs.size)).get? b = some o := fun b o e => Heap.get?_push_of_some _ (Heap.get?_push_of_some _ e)
  have z1 := k _ _ hC
  have z2 : ((h.push (W.kdv_tup [])).push (excO C h.objs.size)).get? (h.objs.size + 1) = some (excO C h.objs.size) := by heap_get
  have z3 : (Value.ref C :: bm).contains (.ref C) = true := by simp
  have i1 := hi.keeps k
  have b1 := (hb (.ref (h.objs.size + 1))).keeps k
  unfold isInstance
  repeat (first | with_reducible refine wpAny_loadPart_at z2 ?_ | (with_reducible refine wpAny_isSubtype_exc z1 ?_; rw [z3]) | wp_step)
  show wpAny _ _ (typeLookup (.ref C) _) _ _ _
  refine i1.at ?_
  refine wpAny_holding (wpAny_bind (b1.at ?_))
  refine wpAny_bind (wpAny_call (codeAny_mono hq fun r s' z => ?_))
  rcases r with e | (v | _ | _ | _) <;> first | exact z | exact z.elim | skip
  obtain ⟨rfl, z⟩ := z
  first
    | exact wpAny_pure (wpAny_pure z)
    | (wp_walk; exact z)
theorem kw_check_call {M : Model} {kw : List (Str × Value)} {Q : Unit → Shared → Prop} (hC : h.get? C = some (excClassObj nm q C N bs bm hdct sn sub ab col dd k0 k1 k2 k3 k5 newId))
    (hq : Q () ⟨h, g, d, t, os⟩) : wpAny M A (checkBuiltinCall "type.__call__" ⟨[.ref C], kw⟩) Q E ⟨h, g, d, t, os⟩ := by
  have z1 := tc_sub
  have z2 : (⟨h, g, d, t, os⟩ : Shared).TypeIs (.ref C) "type" := ⟨_, hC, rfl⟩
  simp only [checkBuiltinCall, tc_kind, tc_split]
  repeat (any_goals (first | assumption | with_reducible refine wpAny_loadPart_at hC ?_ | with_reducible refine wpAny_onRaise ?_ | with_reducible refine wpAny_map ?_ | wp_step))
theorem kw_call (F : ExcBaseFacts B newId initId bmB) (hT : ∀ X : String, bm.contains (.type X) = bmB.contains (.type X)) {kw : List (Str × Value)} {fI : Addr}
    (hC : h.get? C = some (excClassObj nm q C N bs bm hdct sn sub ab col dd k0 k1 k2 k3 k5 newId))
    (hi : W.Looks (model prog w) h (typeLookup (.ref C) "__init__") (some (.ref fI))) (hb : ∀ self, W.Looks (model prog w) h (bindSpecial (.ref fI) self) (.ref fI, [self]))
    (hq : codeAny (model prog w) (A.under (.builtin "type.__call__" ⟨[.ref C], kw⟩)) (.call (.ref fI) ⟨[.ref (h.objs.size + 1)], kw⟩) (W.InitBack (h.objs.size + 1) R)
      ⟨(h.push (W.kdv_tup [])).push (excO C h.objs.size), g, d, t, os⟩) :
    codeAny (model prog w) A (.call (.ref C) ⟨[], kw⟩) R ⟨h, g, d, t, os⟩ := by
  have f1 := tc_lookup
  have f2 := tc_bind (.ref C)
  have hTy : (⟨h, g, d, t, os⟩ : Shared).TypeIs (.ref C) "type" := ⟨_, hC, rfl⟩
  refine codeAny_of_tree ?_
  show wpAny _ _ (callAny (.ref C) _) _ _ _
  repeat (any_goals (first | assumption | with_reducible refine wpAny_loadPart_at hC ?_ | wp_step))
  refine ⟨rfl, ?_⟩
  refine codeAny_call_builtin_at (Code.quiet_builtin _ (by decide +kernel)) entry_typeCall (kw_check_call hC (kw_type_call F hT hC hi hb ?_))
  refine codeAny_mono hq fun r s' z => ?_
  rcases r with e | (v | _ | _ | _) <;> exact z
end
section
variable {X : Cx}
/-- C(f = e), C's own __init__ keeping its argument at f -/
theorem pe_oexK {CX0 : CXT} {x f kn : Str} {C fI : Addr} {k : Nat} {fd : FuncData} {ps : List Str} {e : Expr} {p pos kpos : Pos} {te : TE} (T : OexC X.K C) (iC : PySem.W.findIn X.K (.ref C) "__init__" = some (some (.ref fI))) (tI : PySem.W.typeIn X.K (.ref fI) = some (.type "function"))
    (F1 : FnOk X.prog X.w X.K X.mg X.base CX0 k fI fd ps (spInit C f)) (hr : Room (k + 1) X.A) (hb : KBn X.K fd ps 1 [kn] (fun us ws => us ++ ws) (fun us ws => us ++ ws)) (hx : Passes CX0 X (fun _ _ _ => False)) (hg : Gl X x) (hm : X.mg x = some (.ref C)) (he : PE X e te)
    (hdb : (x == ("__debug__" : Str)) = false) (hks : (backToKw pos (keywordEach [⟨some kn, e, kpos⟩] X.env)).filterMap (·.1) = [kn]) (hall : (backToKw pos (keywordEach [⟨some kn, e, kpos⟩] X.env)).all (·.1.isSome) = true)
    (hpl : ((backTo pos (starEach [] X.env)).any (·.1) || (backToKw pos (keywordEach [⟨some kn, e, kpos⟩] X.env)).any (·.1.isNone)) = false) :
    PE X (.Call (.Name x p) [] [⟨some kn, e, kpos⟩] pos) (tMkV C f (tCons te tNil)) := by
  have ha : PK X [⟨some kn, e, kpos⟩] (tCons te tNil) := pk_cons he pk_nil
  constructor
  intro pins s σ H Q I h
  obtain ⟨nm, q, N, bs, bm, sn, sub, ab, col, dd, k0, k1, k2, k3, k5, hC, hbm⟩ := T.cls
  refine wpAny_Call_Name_kw (ld_glob I hg hm ?_ hdb)
  refine PySem.W.callWith_KW0 (h₀ := X.base) I.ok.mod.kin T.kC hall (thn (ha.run pos pins s σ H _ I h) fun us s1 ⟨vs, H1, I1, r1, u, hvs, q1⟩ => ⟨I1.kIn, ?_⟩) hpl
  subst hvs
  rw [hks]
  show wpAny _ _ (call (.ref C) [] _) _ _ _
  obtain ⟨hp, g, dr, tk, os⟩ := s1
  have a0 : hp.objs.size ≤ hp.objs.size + 1 := Nat.le_succ _
  have n0 : H1 (hp.objs.size + 1) = none := I1.hok.fresh a0
  have kk : ∀ b o, hp.get? b = some o → ((hp.push (PySem.W.kdv_tup [])).push (excO C hp.objs.size)).get? b = some o := fun b o z => Heap.get?_push_of_some _ (Heap.get?_push_of_some _ z)
  have ge : ((hp.push (PySem.W.kdv_tup [])).push (excO C hp.objs.size)).get? (hp.objs.size + 1) = some (excO C hp.objs.size) := by heap_get
  have I2 := I1.laid (t' := tk) (a := hp.objs.size + 1) (o := exo (hp.objs.size + 1) C none) kk a0 (exo_ok ge)
  have want : spInit C f [.ref (hp.objs.size + 1), u] (upd H1 (hp.objs.size + 1) (exo (hp.objs.size + 1) C none)) (fun v H2 => v = .non ∧ ∃ dx, dx ≠ hp.objs.size + 1 ∧ H1 dx = none ∧ H2 = upd (upd (upd H1 (hp.objs.size + 1) (exo (hp.objs.size + 1) C none)) dx (exd dx [(f, u)])) (hp.objs.size + 1) (exo (hp.objs.size + 1) C (some dx))) (fun _ _ _ => False) :=
    ⟨_, u, rfl, upd_same, fun dx h1 h2 => ⟨rfl, dx, h2, by rw [upd_ne h2] at h1; exact h1, rfl⟩⟩
  have r2 : Vals [V.ref (hp.objs.size + 1), u] (Value.ref (hp.objs.size + 1) :: us) := .cons rfl r1
  have bd := hb.to _ [Value.ref (hp.objs.size + 1)] us I2.kIn rfl (by rw [← Paired.length r1]; rfl)
  refine wpAny_call (kw_call F.excBase_ValueError (fun Y => refsVE_contains Y bm hbm) (I1.kIn _ _ hC) (PySem.W.looks_findIn I1.kIn iC) (fun slf => PySem.W.bind_fn I1.kIn slf tI)
    (codeAny_mono (F1.run _ X.stack _ _ ⟨[Value.ref (hp.objs.size + 1)], [kn].zip us⟩ _ _ _ (fun _ _ _ => False) (hr.make C [] ([kn].zip us)) (I2.env0.make C [] ([kn].zip us)) bd r2 want) fun r s' hq => ?_))
  cases r with
  | error er => exact hx pins σ _ _ er s' I2 hq
  | ok fl =>
    cases fl with
    | ret uu =>
      obtain ⟨v, H2, J, rv, ev, dx, hne, hn1, rfl⟩ := I2.after hq
      subst ev
      exact ⟨rv, .ref (hp.objs.size + 1), _, exo_done J hne, rfl, q1 _ dx n0 hn1 hne⟩
    | next => exact False.elim hq
    | brk => exact False.elim hq
    | cont => exact False.elim hq
end
section
variable {B : Wd} {X : Cx} {C : Cfg} {W : WX}
theorem ev_callk1 {nm kn : String} {e : E} {env : Env} {n : Bool} {fs : D → List (String × D)} (hcall : ∀ d, C.call nm [.fr d] = .ok (.fr (.exn nm (fs d))) []) : ev C (.callk nm [] [(kn, e)]) n env = (ev C e n env).bind fun v env1 => .ok (.fr (.exn nm (fs v.view))) env1 := by
  simp only [ev, evargs, evks]
  show (((ev C e n env).bind fun v env1 => (R.ok ([] : List OV) env1).bind fun vs env2 => R.ok (OV.fr v.view :: vs) env2).bind fun ws env2 => finish (fun as => C.call nm (as ++ ws)) n [] [] env2) = _
  cases ev C e n env with
  | bad => rfl
  | exc x e1 => rfl
  | ok o e1 =>
    have h1 : finish (fun as => C.call nm (as ++ [.fr o.view])) n [] [] e1 = .ok (.fr (.exn nm (fs o.view))) e1 := by
      simp [finish, outsOf, argsOf, apart, hcall, putPaths]
    show finish (fun as => C.call nm (as ++ [.fr o.view])) n [] [] e1 = _
    rw [h1]
    rfl
/-- C(f = e) of a class with an attribute -/
theorem ok_excK (g : GX X B) {nm : String} {fn kn : String} {Cx0 fI : Addr} {CX0 : CXT} {x : Str} {e : Expr} {e0 : E} {p pos kpos : Pos} {k : Nat} {fd : FuncData} {ps : List Str} (hcall : ∀ d, C.call nm [.fr d] = .ok (.fr (.exn nm [(fn, d)])) []) (hcls : B.cls nm = some Cx0) (hexc : nm ∈ B.excs)
    (T : OexC X.K Cx0) (iC : PySem.W.findIn X.K (.ref Cx0) "__init__" = some (some (.ref fI))) (tI : PySem.W.typeIn X.K (.ref fI) = some (.type "function")) (F1 : FnOk X.prog X.w X.K X.mg X.base CX0 k fI fd ps (spInit Cx0 (Str.ofString fn))) (hr : Room (k + 1) X.A)
    (hb : KBn X.K fd ps 1 [Str.ofString kn] (fun us ws => us ++ ws) (fun us ws => us ++ ws))
    (hx : Passes CX0 X (fun _ _ _ => False)) (hg : Gl X x) (hm : X.mg x = some (.ref Cx0)) (he : OkE X B C W e e0) (hdb : (x == ("__debug__" : Str)) = false)
    (hks : (backToKw pos (keywordEach [⟨some (Str.ofString kn), e, kpos⟩] X.env)).filterMap (·.1) = [Str.ofString kn]) (hall : (backToKw pos (keywordEach [⟨some (Str.ofString kn), e, kpos⟩] X.env)).all (·.1.isSome) = true)
    (hpl : ((backTo pos (starEach [] X.env)).any (·.1) || (backToKw pos (keywordEach [⟨some (Str.ofString kn), e, kpos⟩] X.env)).any (·.1.isNone)) = false) :
    OkE X B C W (.Call (.Name x p) [] [⟨some (Str.ofString kn), e, kpos⟩] pos) (.callk nm [] [(kn, e0)]) :=
  OkE.plain g rfl (fun n => PE.imp (pe_oexK T iC tI F1 hr hb hx hg hm (he.ve n) hdb hks hall hpl) fun σ H Q ⟨Z, env, F, st, q⟩ => by
    refine ⟨Z, env, F, st, ?_⟩
    rw [ev_callk1 (fs := fun d => [(fn, d)]) hcall] at q
    cases h1 : ev C e0 n env with
    | bad => rw [h1] at q; exact q
    | exc x e => rw [h1] at q; exact q
    | ok o env1 =>
      rw [h1] at q
      intro v Z' H' F' fp r1 e1 t1 k1
      refine ⟨v, rfl, fun a dx ha hdx hne => ?_⟩
      have ha1 : upd H' dx (.xd [(Str.ofString fn, v)]) a = none := by rw [upd_ne (Ne.symm hne)]; exact ha
      have ext : ∀ b u, H' b = some u → upd (upd H' dx (.xd [(Str.ofString fn, v)])) a (ExH a Cx0 (some dx)) b = some u := fun b u h => lay_ext ha1 b u (lay_ext hdx b u h)
      have gs : Gr Z' (fun b => (Z' b ∨ b ∈ fp) ∨ b = a) H' (upd (upd H' dx (.xd [(Str.ofString fn, v)])) a (ExH a Cx0 (some dx))) := .of (fun _ h => .inl (.inl h)) (fun b o _ h => ext b o h) fun b xs h => ext b _ h
      have rs : Rep B _ _ o.view v := RepO.share gs (fun b hb => ⟨.inl (.inr hb), fun u hu => ext b u hu⟩) r1
      refine q (.ref a) _ _ F' [] ?_ (e1.mono gs fun b _ u hu => ext b u hu) (((t1.share r1.trk).lay hdx).madeZ (fun b hb => (e1.trk b hb).imp fun u hu => lay_ext hdx b u hu) ha1) (k1.trans fun _ => ⟨rfl, rfl, fun b u hu => ext b u hu⟩)
      simp only [RepO, Rep]
      refine ⟨⟨a, Cx0, [(Str.ofString fn, v)], rfl, ⟨hexc, hcls⟩, .inr rfl, ⟨some dx, upd_same, .inr ⟨dx, rfl, by rw [upd_ne hne, upd_same]⟩⟩, ?_⟩, trivial⟩
      simp only [Repf]
      exact ⟨v, [], rfl, rs, rfl⟩) (fun _ => rfl)
end
end Ev
/-! Ev49: the empty dict. -/
namespace Ev
open PySem PySem.Spec PyProof.Rows L2

section
variable {B : Wd} {X : Cx} {C : Cfg} {W : WX}
theorem ok_dct0 (g : GX X B) {pos : Pos} : OkE X B C W (.Dict [] [] pos) (.op .dct []) :=
  OkE.plain g rfl (fun n => ⟨fun pins s σ H Q I ⟨Z, env, F, st, q⟩ => by
    have hp : H s.heap.objs.size = none := I.hok.fresh (Nat.le_refl _)
    have hsys : (s.heap.objs.size == sysModules) = false := beq_eq_false_iff_ne.mpr (Nat.ne_of_gt I.big)
    have gr := gr_upd (u := DH s.heap.objs.size []) (Z := Z) (Z' := Z) hp fun _ h => h
    have I1 : Inv X pins σ (upd H s.heap.objs.size (DH s.heap.objs.size [])) { s with heap := s.heap.push { cls := .type "dict", data := .dict #[] } } :=
      I.laid (a := s.heap.objs.size) (t' := s.toks) (fun _ _ q => Heap.get?_push_of_some _ q) (Nat.le_refl _) ⟨⟨_, #[], 0, Heap.get?_push_size _ rfl, ⟨rfl, rfl, rfl⟩, rfl, rfl⟩, ⟨_, Heap.get?_push_size _ rfl⟩, fun _ _ ⟨oo, ee, pp, r1, r2, r3, r4⟩ st => ⟨oo, ee, pp, st _ r1, r2, r3, r4⟩⟩
    have q0 : PostE B W σ Z H F n env Q (.ok (.dct []) env) := by
      simp only [ev, evs, R.bind, dctR, List.length_nil, sizeB] at q
      exact q
    have ext : ∀ b u, H b = some u → upd H s.heap.objs.size (DH s.heap.objs.size []) b = some u := fun b u h => lay_ext hp b u h
    have t : Step Z H F Z (upd H s.heap.objs.size (DH s.heap.objs.size [])) ([s.heap.objs.size] ++ F) := st.refl.made (fp := []) (fun a ha => st.env.trk a ha) hp
    refine wpAny_Dict_empty ⟨.ref s.heap.objs.size, _, I1, rfl, q0 _ Z _ F [s.heap.objs.size] ?_ (st.env.mono gr fun b _ u hu => ext b u hu) t fun _ => ⟨rfl, rfl, ext⟩⟩
    simp only [RepO]
    refine ⟨_, [], [], rfl, upd_same, hsys, Nat.zero_le _, rfl, ?_, rfl⟩
    simp only [RepOk]
    exact ⟨trivial, trivial⟩⟩) (fun _ => rfl)
end
end Ev
/-! Ev50: a law's def called at the end of the top, by a promise that holds where no repr is under way. -/
namespace Ev
open PySem PySem.Spec PyProof.Rows L2

/-- the script's heap: nothing, or the script alone, read only -/
def scrH (c : Option Obj) (a : Addr) (vs : List Value) (ns : List Int) : Hp := fun b => match c with
  | some _ => none
  | none => if b = a then some (.frz { cls := .type "list", data := .seq vs.toArray } (.lst (ns.map V.int))) else none
theorem scrH_at {c : Option Obj} {a b : Addr} {vs : List Value} {ns : List Int} {u : HO} (h : scrH c a vs ns b = some u) : c = none ∧ b = a ∧ u = .frz { cls := .type "list", data := .seq vs.toArray } (.lst (ns.map V.int)) := by
  unfold scrH at h
  cases c with
  | some o => cases h
  | none =>
    simp only at h
    split at h
    · rename_i e
      exact ⟨rfl, e, (Option.some.inj h).symm⟩
    · cases h
/-- where the script stands -/
def ScrAt (K : PySem.W.Frag) (H : Hp) (a : Addr) (ns : List Int) : Prop :=
  (∃ o, H a = some (.frz o (.lst (ns.map V.int)))) ∨ ∃ vs : List Value, K.lookup a = some { cls := .type "list", data := .seq vs.toArray } ∧ Vals (ns.map V.int) vs ∧ vs.length ≤ sizeLine
/-- the call of the law's def -/
theorem call_law {P : Program} {w : World} {K : PySem.W.Frag} {mg mb : Str → Option Value} {k : Nat} {fa a : Addr} {fd : FuncData} {x : Str} {sp : Sp} {t0 : Shared} {vs : List Value} {ns : List Int}
    (hK : K.In t0.heap) (hm : t0.heap.Ns mainGlobals mg) (hB : t0.heap.Ns builtinsNs mb) (hB2 : ∀ y : Str, y ≠ "__name__" → mb y = bootBuiltins y) (hL : t0.heap.NoLimit) (hG : t0.gens = #[])
    (hA : t0.heap.get? a = some { cls := .type "list", data := .seq vs.toArray }) (hI : IntsAre vs ns) (hS : ns.length ≤ sizeLine) (hr : Room k callerA)
    (F : ∀ base : Heap, K.In base → base.Ns mainGlobals mg → FnG P w K mg base k fa fd [x] sp) (hb : ∀ (s : Shared) (u : Value), BindsTo s fd ⟨[u], []⟩ [(x, u)])
    (hsp : ∀ H : Hp, ScrAt K H a ns → sp [.ref a] H (fun v _ => v = .bl true) fun _ _ _ => False) :
    codeAny (model P w) callerA (.call (.ref fa) ⟨[.ref a], []⟩) (fun r u => r = .ok (.ret (.bool true)) ∧ OldK t0.heap u.heap ∧ u.os = t0.os ∧ AllBare u.gens) t0 := by
  have rv := vals_ints hI
  have hlen := hI.length
  let H := scrH (K.lookup a) a vs ns
  have up : ∀ {b : Addr} {o : Obj}, t0.heap.get? b = some o → H b = none → (hidT t0.heap H).get? b = some o := fun e n => hidT_get e n
  have hok : HOk P w H t0.heap := fun b u z => by
    obtain ⟨_, rfl, rfl⟩ := scrH_at z
    exact ⟨hA, by rw [List.length_map]; exact hS, vs, _, rv, hA⟩
  have away : ∀ {b : Addr} {o : Obj} {es : Array DictEntry} {ep : Nat}, t0.heap.get? b = some o → o.data = .dict es ep → H b = none := fun {b o es ep} e d => by
    cases z : H b with
    | none => rfl
    | some u =>
      obtain ⟨_, rfl, _⟩ := scrH_at z
      rw [hA] at e
      cases e
      have d2 : Data.seq vs.toArray _ = Data.dict es ep := d
      cases d2
  have nsUp : ∀ {b : Addr} {m : Str → Option Value}, t0.heap.Ns b m → (hidT t0.heap H).Ns b m := fun {b m} ⟨o, es, ep, e, d, r⟩ => ⟨o, es, ep, up e (away e d), d, r⟩
  have kUp : K.In (hidT t0.heap H) := fun b o e => up (hK b o e) (by
    cases z : H b with
    | none => rfl
    | some u =>
      obtain ⟨z1, rfl, _⟩ := scrH_at z
      rw [e] at z1
      cases z1)
  have md : Mod K mg (hidT t0.heap H) := ⟨kUp, nsUp hm, ⟨mb, nsUp hB, hB2⟩, let ⟨mc, h1, h2⟩ := hL; ⟨mc, nsUp h1, h2⟩⟩
  have en : Env0 P w K mg (hidT t0.heap H) callerA [] t0 H := ⟨rfl, md, fun b o e => of_hidT e, Nat.le_of_eq (hidT_size _ _), trivial, fun b hb => absurd (show b ∈ ([] : List Addr) from hb) (by simp), hok, .of_eq hG⟩
  have want : sp [.ref a] H (fun v _ => v = .bl true) fun _ _ _ => False := by
    refine hsp H ?_
    cases hk : K.lookup a with
    | some o =>
      have e := hK a o hk
      rw [hA] at e
      cases e
      exact .inr ⟨vs, hk, rv, by rw [hlen]; exact hS⟩
    | none => exact .inl ⟨{ cls := .type "list", data := .seq vs.toArray }, by show scrH (K.lookup a) a vs ns a = _; rw [hk]; exact if_pos rfl⟩
  refine codeAny_mono ((F _ kUp (nsUp hm)).run callerA [] t0 H ⟨[.ref a], []⟩ [.ref a] [.ref a] _ _ rfl hr en (hb t0 (.ref a)) (.cons rfl .nil) want) fun r u h => ?_
  cases r with
  | error e =>
    obtain ⟨_, _, _, _, _, _, _, _, _, _, _, _, z⟩ := h
    exact z.elim
  | ok fl =>
    cases fl with
    | next => exact False.elim h
    | brk => exact False.elim h
    | cont => exact False.elim h
    | ret y =>
      obtain ⟨v, H2, os, bare, un, hok2, rr, q⟩ := h
      have q2 : v = .bl true := q
      subst q2
      obtain rfl : y = Value.bool true := rr
      refine ⟨rfl, OldK.of_keep fun b o e => ?_, os, bare⟩
      cases z : H b with
      | none => exact un.keep b o e z (by intro z; exact absurd (show b ∈ ([] : List Addr) from z) (by simp)) (by simp)
      | some g =>
        obtain ⟨_, rfl, rfl⟩ := scrH_at z
        have z2 := un.frzs b _ _ z
        obtain ⟨e2, _⟩ := hok2 b _ z2
        rw [hA] at e
        cases e
        exact e2
theorem walk_law {l : PySem.W.OpenLaw} {n k : Nat} {q : Program} {loose : List Str} {XP : (Str → Option Value) → Heap → Prop} {YP : World → Heap → Prop} {d : DefRec} {x : Str}
    (hn : l.most = some n) (hn2 : n ≤ sizeLine) (hdf : d.params.defaults = []) (hr : Room k callerA)
    (F : ∀ (w : World) (mg : Str → Option Value) (fa : Addr) (h : Heap), YP w h → h.Ns mainGlobals mg → mg d.name = some (.ref fa) →
      ∃ (K : PySem.W.Frag) (fd : FuncData) (sp : Sp), K.In h ∧ (∀ (s : Shared) (u : Value), BindsTo s fd ⟨[u], []⟩ [(x, u)]) ∧
        (∀ (H : Hp) (a : Addr) (ns : List Int), ns.length ≤ n → (∀ k ∈ ns, Builtin.Int.intBits k ≤ 1048576) → ScrAt K H a ns → sp [.ref a] H (fun v _ => v = .bl true) fun _ _ _ => False) ∧
        ∀ base : Heap, K.In base → base.Ns mainGlobals mg → FnG l.prog w K mg base k fa fd [x] sp) :
    PySem.W.WalkO q loose XP YP l.row.toRowW d [] (fun f vs => PySem.call f vs) := by
  refine Att.attach_callB hn hdf fun w s0 t0 mg mb fa o pm cd doc a vs ns G Y ho hd hcd hmg hobj hints hlen hbits hg => ?_
  obtain ⟨K, fd, sp, hK, hb, hsp, hF⟩ := F w mg fa _ Y G.T.g hmg
  exact call_law hK G.T.g G.T.b G.T.builtins G.T.nolimit hg hobj hints (Nat.le_trans hlen hn2) hr hF hb fun H z => hsp H a ns hlen hbits z
/-- the law's promise, asked of the script -/
theorem spE_law {B : Wd} {H : Hp} {a : Addr} {ns : List Int} {call : List OV → Rc} (h : ScrAt B.K H a ns) (e : call [.fr (.lst (ns.map .int))] = .ok (.fr (.bl true)) []) : spE B [] 1 call [.ref a] H (fun v _ => v = .bl true) fun _ _ _ => False := by
  have rs : ∀ (Z : Addr → Prop) (l : List Int), Reps B Z H (l.map .int) (l.map V.int) := fun Z l => by
    induction l with
    | nil => simp only [List.map_nil, Reps]
    | cons n l ih =>
      simp only [List.map_cons, Reps, Rep]
      exact ⟨_, _, rfl, rfl, ih⟩
  have fin : ∀ Z : Addr → Prop, PostC B [] [V.ref a] Z H [] (fun v _ => v = .bl true) (fun _ _ _ => False) (call [.fr (.lst (ns.map .int))]) := fun Z => by
    rw [e]
    intro v Z' H' fp fo r _ _
    simp only [RepO, Rep] at r
    exact r.1
  rcases h with ⟨o, ho⟩ | ⟨vs, hk, rv, hl⟩
  · refine ⟨rfl, fun b => b = a, [.fr (.lst (ns.map .int))], [], ?_, List.nodup_nil, fun b hb => (List.not_mem_nil hb).elim, fun b hb => ⟨_, (congrArg H hb).trans ho⟩, fin _⟩
    simp only [RepOs, RepO, Rep]
    exact ⟨_, [], [], [], rfl, ⟨⟨a, _, rfl, .inl ⟨rfl, .inr ⟨o, ho⟩⟩, rs _ ns⟩, rfl⟩, ⟨rfl, rfl⟩, rfl⟩
  · refine ⟨rfl, fun _ => False, [.fr (.lst (ns.map .int))], [], ?_, List.nodup_nil, fun b hb => (List.not_mem_nil hb).elim, fun b hb => False.elim hb, fin _⟩
    simp only [RepOs, RepO, Rep]
    exact ⟨_, [], [], [], rfl, ⟨⟨a, _, rfl, .inr ⟨_, vs.toArray, _, hk, rfl, fun _ => ⟨rfl, rfl⟩, rfl, by simpa using hl, by simpa using rv⟩, rs _ ns⟩, rfl⟩, ⟨rfl, rfl⟩, rfl⟩
end Ev
/-! Ev51: what a law's text must say, as a check of the written part; from it the facts of a context. -/
namespace Ev
open PySem PySem.Spec PyProof.Rows L2

/-- what a law's text names: exception classes without and with an own __init__ (the field it keeps), own classes, fields, names asked for by isinstance, built-in names -/
structure Lw where
  excP : List String
  excI : List (String × String)
  objs : List String
  flds : List String
  isas : List String
  free : List Str
  sub : String → String → Bool
def Lw.excs (L : Lw) : List String := L.excP ++ L.excI.map (·.1)
def Lw.own (L : Lw) : List String := L.excs ++ L.objs
abbrev cAt (K : PySem.W.Frag) (c : String) : Addr := He.ga K (Str.ofString c)
def Lw.val (L : Lw) (K : PySem.W.Frag) (c : String) : Value := if L.own.contains c then .ref (cAt K c) else .type c
def Lw.wd (L : Lw) (w : World) (K : PySem.W.Frag) : Wd where
  w := w
  K := K
  cls := fun c => if L.own.contains c then some (cAt K c) else none
  objs := L.objs
  excs := L.excs
  flds := L.flds
  isas := L.isas.map fun c => (c, L.val K c)
  sub := L.sub
def bmVE : List Value := [.type "ValueError", .type "Exception", .type "BaseException", .type "object"]
def eqOB (a b : Option Bool) : Bool := match a, b with
  | some x, some y => x == y
  | none, none => true
  | _, _ => false
theorem eqOB_ok {a b : Option Bool} (h : eqOB a b = true) : a = b := by
  cases a <;> cases b <;> simp [eqOB] at h <;> simp [h]
/-- a class's place -/
def gloB (K : PySem.W.Frag) (c : String) : Bool := He.eqO (PySem.W.nsIn K mainGlobals (Str.ofString c)) (some (some (.ref (cAt K c)))) && PySem.W.keepIn K (.ref (cAt K c))
/-- what isinstance asks of a class -/
def clsIB (K : PySem.W.Frag) (C : Addr) : Bool := He.eqO (PySem.W.findIn K (.ref C) "__class__") (some (some (.builtin "object.__class__"))) && (He.eqO (PySem.W.specialIn K (.builtin "object.__class__") "__get__") (some (some (.builtin "getset_descriptor.__get__"))) && (eqOB (PySem.W.takesIn K (.builtin "object.__class__")) (some true) && eqOB (PySem.W.mroIn K C (.type "object")) (some true)))
theorem clsIB_ok {K : PySem.W.Frag} {C : Addr} (h : clsIB K C = true) : ClsI K C := by
  obtain ⟨h1, h⟩ := He.ba h
  obtain ⟨h2, h⟩ := He.ba h
  obtain ⟨h3, h4⟩ := He.ba h
  exact ⟨He.eqO_ok h1, He.eqO_ok h2, eqOB_ok h3, eqOB_ok h4⟩
def noatB (K : PySem.W.Frag) (C : Addr) (fs : List String) : Bool := fs.all fun f => He.eqO (PySem.W.findIn K (.ref C) (Str.ofString f)) (some none)
theorem noatB_ok {K : PySem.W.Frag} {C : Addr} {fs : List String} (h : noatB K C fs = true) : ∀ f ∈ fs, NoAttr K C (Str.ofString f) := fun f hf => He.eqO_ok (List.all_eq_true.mp h f hf)
/-- an exception's class -/
def excB (K : PySem.W.Frag) (C : Addr) (fs : List String) : Bool := xfB K C && (clsIB K C && noatB K C fs)
theorem excB_ok {K : PySem.W.Frag} {C : Addr} {fs : List String} (h : excB K C fs = true) : XfC K C ∧ (∀ f ∈ fs, NoAttr K C (Str.ofString f)) ∧ ExcC K C := by
  obtain ⟨h1, h⟩ := He.ba h
  obtain ⟨h2, h3⟩ := He.ba h
  have x := xfB_ok h1
  have y := clsIB_ok h2
  exact ⟨x, noatB_ok h3, ⟨x.ga, x.gg, x.exC, x.hdC, y.ha, y.hn, y.ht, y.hm⟩⟩
/-- an own class -/
def objB (K : PySem.W.Frag) (C : Addr) (fs : List String) : Bool := (PySem.W.plainGet K C Str.empty && (PySem.W.hasDictIn K C && (PySem.W.plainOver K C && He.eqO (PySem.W.findIn K (.ref C) "__setattr__") (some (some (.builtin "object.__setattr__")))))) && (clsIB K C && noatB K C fs)
theorem objB_ok {K : PySem.W.Frag} {C : Addr} {fs : List String} (h : objB K C fs = true) : Cls K C ∧ (∀ f ∈ fs, NoAttr K C (Str.ofString f)) ∧ ClsI K C := by
  obtain ⟨c, h⟩ := He.ba h
  obtain ⟨h2, h3⟩ := He.ba h
  obtain ⟨c1, c⟩ := He.ba c
  obtain ⟨c2, c⟩ := He.ba c
  obtain ⟨c3, c4⟩ := He.ba c
  exact ⟨⟨c1, c2, c3, He.eqO_ok c4⟩, noatB_ok h3, clsIB_ok h2⟩
def smB (K : PySem.W.Frag) : Bool := match K.lookup sysModules with
  | some ⟨.type t, _, _, _⟩ => t == "dict"
  | _ => false
def kitB (L : Lw) (K : PySem.W.Frag) : Bool := L.isas.all fun p => (tyNames.all fun t => eqOB (PySem.W.kitOne K (.type t) (L.val K p)) (some (subTy t p))) && (L.own.all fun c => eqOB (PySem.W.kitOne K (.ref (cAt K c)) (L.val K p)) (some (L.sub c p)))
/-- an exception's class with an own __init__, without its text -/
def oexB (K : PySem.W.Frag) (C : Addr) : Bool := (match K.lookup C with
    | some ⟨.type "type", _, .cls cd, sl⟩ => (match cd.mro, sl.toList with
      | .ref C' :: bm, [_, _, _, _, some (.builtin n), _] => C' == C && (n == "ValueError.__new__" && (!cd.hasDel && (cd.hasDict && PySem.HandSPX.refsVE bm)))
      | _, _ => false)
    | _ => false) && (He.eqO (PySem.W.findIn K (.ref C) "__setattr__") (some (some (.builtin "object.__setattr__"))) && (eqOB (PySem.W.subIn K (.ref C) (.type "BaseException")) (some true) && (decide (PySem.W.typeIn K (.ref C) = some (.type "type")) && PySem.W.keepIn K (.ref C))))
theorem oexB_ok {K : PySem.W.Frag} {C : Addr} (h : oexB K C = true) : OexC K C := by
  obtain ⟨h0, h⟩ := He.ba h
  obtain ⟨h1, h⟩ := He.ba h
  obtain ⟨h2, h⟩ := He.ba h
  obtain ⟨h3, h4⟩ := He.ba h
  refine ⟨?_, He.eqO_ok h1, eqOB_ok h2, of_decide_eq_true h3, h4⟩
  split at h0
  · rename_i dd cd sl ho
    split at h0
    · rename_i C' bm k0 k1 k2 k3 n k5 hm hs
      simp only [Bool.and_eq_true, beq_iff_eq, Bool.not_eq_true'] at h0
      obtain ⟨rfl, rfl, hdel, hdct, hb⟩ := h0
      obtain ⟨nm, bs, mro, ns, qn, hd, sn, sub, ab, col, del⟩ := cd
      dsimp only at hm hdel hdct
      subst hm hdel hdct
      have hsl : sl = #[k0, k1, k2, k3, some (.builtin "ValueError.__new__"), k5] := by
        obtain ⟨l⟩ := sl
        simp only at hs
        rw [hs]
      subst hsl
      exact ⟨nm, qn, ns, bs, bm, sn, sub, ab, col, dd, k0, k1, k2, k3, k5, ho, hb⟩
    · cases h0
  · cases h0
def Lw.chk (L : Lw) (K : PySem.W.Frag) : Bool := (L.own.all fun c => gloB K c) && ((L.excs.all fun c => excB K (cAt K c) L.flds) && ((L.objs.all fun c => objB K (cAt K c) L.flds) && (kitB L K && ((L.excP.all fun c => PySem.W.excIn K (cAt K c) bmVE "ValueError.__new__") && ((L.excI.all fun c => oexB K (cAt K c.1)) && ((L.free.all fun x => He.eqO (PySem.W.nsIn K mainGlobals x) (some none)) && smB K))))))
structure Lw.Ok (L : Lw) (K : PySem.W.Frag) : Prop where
  glo : ∀ c ∈ L.own, gloB K c = true
  exc : ∀ c ∈ L.excs, excB K (cAt K c) L.flds = true
  obj : ∀ c ∈ L.objs, objB K (cAt K c) L.flds = true
  kit : kitB L K = true
  pl : ∀ c ∈ L.excP, PySem.W.excIn K (cAt K c) bmVE "ValueError.__new__" = true
  ini : ∀ c ∈ L.excI, oexB K (cAt K c.1) = true
  fr : ∀ x ∈ L.free, He.eqO (PySem.W.nsIn K mainGlobals x) (some none) = true
  sm : smB K = true
theorem Lw.ok_of {L : Lw} {K : PySem.W.Frag} (h : L.chk K = true) : L.Ok K := by
  obtain ⟨h1, h⟩ := He.ba h
  obtain ⟨h2, h⟩ := He.ba h
  obtain ⟨h3, h⟩ := He.ba h
  obtain ⟨h4, h⟩ := He.ba h
  obtain ⟨h5, h⟩ := He.ba h
  obtain ⟨h6, h⟩ := He.ba h
  obtain ⟨h7, h8⟩ := He.ba h
  exact ⟨List.all_eq_true.mp h1, List.all_eq_true.mp h2, List.all_eq_true.mp h3, h4, List.all_eq_true.mp h5, List.all_eq_true.mp h6, List.all_eq_true.mp h7, h8⟩
section
variable {L : Lw} {K : PySem.W.Frag} {w : World} {mg : Str → Option Value} {base : Heap}
theorem Lw.cls_of {c : String} (h : c ∈ L.own) : (L.wd w K).cls c = some (cAt K c) := if_pos (List.contains_iff_mem.mpr h)
theorem Lw.cls_inv {c : String} {C : Addr} (h : (L.wd w K).cls c = some C) : c ∈ L.own ∧ C = cAt K c := by
  unfold Lw.wd at h
  simp only at h
  split at h
  · rename_i e
    exact ⟨List.contains_iff_mem.mp e, (Option.some.inj h).symm⟩
  · cases h
theorem exc_own {c : String} (h : c ∈ L.excs) : c ∈ L.own := List.mem_append_left _ h
theorem obj_own {c : String} (h : c ∈ L.objs) : c ∈ L.own := List.mem_append_right _ h
/-- the facts of a context -/
theorem Lw.gx (o : L.Ok K) {X : Cx} (hw : X.w = w) (hK : X.K = K) (hb : K.In X.base) (hu : X.A.units + 64 < cLine) (hc : X.calm = true) (hg : X.A.guards = some []) : GX X (L.wd w K) where
  w := hw
  K := hK
  units := hu
  calm := hc
  guards := hg
  sm := by
    have s := o.sm
    unfold smB at s
    split at s
    · rename_i t d dt sl e
      exact ⟨_, hb _ _ e, congrArg Value.type (eq_of_beq s)⟩
    · cases s
  obj := fun c C hc hC => by
    obtain ⟨_, rfl⟩ := Lw.cls_inv hC
    exact objB_ok (o.obj c hc)
  exo := fun c C hc hC => by
    obtain ⟨_, rfl⟩ := Lw.cls_inv hC
    exact excB_ok (o.exc c hc)
  isaT := fun p hp t ht => by
    obtain ⟨c, hc, rfl⟩ := List.mem_map.mp hp
    exact eqOB_ok (List.all_eq_true.mp (He.ba (List.all_eq_true.mp o.kit c hc)).1 t ht)
  isaC := fun p hp c C h hC => by
    obtain ⟨q, hq, rfl⟩ := List.mem_map.mp hp
    obtain ⟨h1, rfl⟩ := Lw.cls_inv hC
    exact eqOB_ok (List.all_eq_true.mp (He.ba (List.all_eq_true.mp o.kit q hq)).2 c h1)
theorem Lw.mg_cls (o : L.Ok K) (kin : K.In base) (hm : base.Ns mainGlobals mg) {c : String} (h : c ∈ L.own) : mg (Str.ofString c) = some (.ref (cAt K c)) ∧ PySem.W.keepIn K (.ref (cAt K c)) = true := by
  obtain ⟨h1, h2⟩ := He.ba (o.glo c h)
  exact ⟨PySem.W.mg_of kin hm (He.eqO_ok h1), h2⟩
theorem Lw.mg_free (o : L.Ok K) (kin : K.In base) (hm : base.Ns mainGlobals mg) {x : Str} (h : x ∈ L.free) : mg x = none := PySem.W.mg_none_of kin hm (He.eqO_ok (o.fr x h))
end
end Ev
/-! Ev52: promises by names. -/
namespace Ev
open PySem PySem.Spec PyProof.Rows L2

section
variable {P : Program} {w : World} {K : PySem.W.Frag} {mg : Str → Option Value} {base : Heap} {B : Wd} {k : Nat}
theorem fnG_bad {f : Addr} {fd : FuncData} {ps : List Str} {io : List Nat} {n : Nat} {call : List OV → Rc} (hn : n = ps.length) (h : ∀ os, call os = .bad) : FnG P w K mg base k f fd ps (spE B io n call) where
  len := fun vs H Q E z => z.1.trans hn
  run := fun A outer s H args us vs Q E hg hr en hb r z => by
    obtain ⟨_, Z, os, fps, _, _, _, _, q⟩ := z
    rw [h os] at q
    exact q.elim
/-- a def by its text -/
theorem fnG_def {x qual : Str} {params : Arguments} {body : List Stmt} {scope : Scope} {f : Addr} {fd : FuncData} {N ps : List Str} {C : Cfg} {F0 : Fn} {call : List OV → Rc}
    (F : FunD K x qual params body scope [] [] f fd) (S : FnScope N ps scope) (hN : N.length = F0.slots) (hps : F0.ps ≤ F0.slots) (hpl : ps.length = F0.ps) (hcall : call = runFn C F0)
    (hb : ∀ (cdv : Value) (A : Around) (outer : List PySem.Env) (s : Shared) (H : Hp) (E : XK) (Pn : List (Nat × V)), A.guards = some [] → Room k (A.deeper (envOfC qual scope s.heap.objs.size f cdv)) → (∀ p ∈ Pn, p.1 ∈ F0.io) →
      OkSs (cxOf (CX P w) P w K mg base N qual scope f cdv A outer s H E) B { C with prot := F0.io } (W1 E) Pn body F0.body) :
    FnG P w K mg base (k + 1) f fd ps (spE B F0.io F0.ps call) := by
  obtain ⟨oc, od, dV, kV, doc, pm, an, cdv, ct, osl, rfl, lk, hcd, _, _⟩ := F.ex
  subst hcall
  exact fnG_of lk hcd S (fun vs H Q E z => z.1.trans hpl.symm) fun A outer s H vs Q E hg hr z => ⟨_, (hb cdv A outer s H E (ioFix F0.io vs) hg hr fun p hp => (ioFix_mem hp).1).run, body_post hN hps z⟩
theorem room_units {k : Nat} {A : Around} (r : Room k A) : A.units + 64 < cLine := by
  have := r.un
  omega
theorem FunD.lk {x qual : Str} {params : Arguments} {body : List Stmt} {scope : Scope} {dvs : List V} {kws : List (Str × V)} {f : Addr} {fd : FuncData} (F : FunD K x qual params body scope dvs kws f fd) : ∃ oc od sl, K.lookup f = some ⟨oc, od, .func fd, sl⟩ := by
  obtain ⟨oc, od, dV, kV, doc, pm, an, cdv, ct, osl, rfl, lk, _⟩ := F.ex
  exact ⟨_, _, _, lk⟩
theorem fd_uniq {K : PySem.W.Frag} {a : Addr} {f1 f2 : FuncData} (h1 : ∃ oc od sl, K.lookup a = some ⟨oc, od, .func f1, sl⟩) (h2 : ∃ oc od sl, K.lookup a = some ⟨oc, od, .func f2, sl⟩) : f1 = f2 := by
  obtain ⟨_, _, _, e1⟩ := h1
  obtain ⟨_, _, _, e2⟩ := h2
  rw [e1] at e2
  cases e2
  rfl
/-- a def of the text, by its name: what it promises, where it stands -/
structure GD (P : Program) (w : World) (K : PySem.W.Frag) (mg : Str → Option Value) (base : Heap) (B : Wd) (call : String → List OV → Rc) (k : Nat) (g : String) (io : List Nat) (ps : List Str) : Prop where
  ex : ∃ fd, (∃ oc od sl, K.lookup (cAt K g) = some ⟨oc, od, .func fd, sl⟩) ∧ FnG P w K mg base k (cAt K g) fd ps (spE B io ps.length (call g)) ∧ Binds K fd ps []
  mg : mg (Str.ofString g) = some (.ref (cAt K g))
  kp : PySem.W.keepIn K (.ref (cAt K g)) = true
end
section
variable {B : Wd} {X : Cx} {C : Cfg} {W0 : XK} {k : Nat} {p pos : Pos}
theorem ok_callD {nm : String} {io : List Nat} {ps : List Str} (hio : C.io nm = io) (g : GX X B) (tk : Takes X (W1 W0)) (d : GD X.prog X.w X.K X.mg X.base B C.call k nm io ps) (hr : Room k X.A) {e' : Expr} {es' : List Expr} {es : List E} (hn : es.length = ps.length)
    (hgl : Gl X (Str.ofString nm)) (ha : OkR X B C (W1 W0) io 0 (e' :: es') es) (hdb : (Str.ofString nm == ("__debug__" : Str)) = false) : OkE X B C (W1 W0) (.Call (.Name (Str.ofString nm) p) (e' :: es') [] pos) (.call nm es) := by
  obtain ⟨fd, _, F, hb⟩ := d.ex
  subst hio
  rw [← hn] at F
  exact ok_call g tk F hr hgl d.mg d.kp hb ha hdb
theorem ok_call0D {nm : String} {io : List Nat} {ps : List Str} (hio : C.io nm = io) (g : GX X B) (tk : Takes X (W1 W0)) (d : GD X.prog X.w X.K X.mg X.base B C.call k nm io ps) (hr : Room k X.A) (hn : ps = [])
    (hgl : Gl X (Str.ofString nm)) (hdb : (Str.ofString nm == ("__debug__" : Str)) = false) : OkE X B C (W1 W0) (.Call (.Name (Str.ofString nm) p) [] [] pos) (.call nm []) := by
  obtain ⟨fd, _, F, hb⟩ := d.ex
  subst hio
  subst hn
  exact ok_call0 g tk F hr hgl d.mg d.kp hb hdb
end

/-! ### exception classes with an own __init__ -/
abbrev IniV : Type := Option (Str × Str × Arguments × FuncBody × Scope × Addr × List Str × Addr)
def iniAt (K : PySem.W.Frag) (c : String) : Addr := He.ma K (cAt K c) "__init__"
def iniOb (K : PySem.W.Frag) (c : String) : IniV := match K.lookup (iniAt K c) with
  | some ⟨_, _, .func fd, _⟩ => some (fd.name, fd.qualname, fd.params, fd.body, fd.scope, fd.globals, fd.closure.map (·.1), fd.builtins)
  | _ => none
def iniVal (qual : Str) (params : Arguments) (body : List Stmt) (scope : Scope) : IniV := some ("__init__", qual, params, .stmts body, scope, mainGlobals, ["__class__"], builtinsNs)
/-- the rest of what must be told of it -/
def iniB (file : Str) (K : PySem.W.Frag) (c fld : String) : Bool := He.eqO (PySem.W.findIn K (.ref (cAt K c)) "__init__") (some (some (.ref (iniAt K c)))) && (decide (PySem.W.typeIn K (.ref (iniAt K c)) = some (.type "function")) && ((match K.lookup (iniAt K c) with
    | some ⟨_, _, .func ⟨_, q, _, _, _, _, cl, .none, .none, _, _, _, .ref cda, _, _⟩, _⟩ => PySem.W.codeIn K (.ref cda) q && ((match K.lookup cda with
      | some ⟨_, _, .fields vs, _⟩ => (match (vs[2]? : Option Value) with
        | some (Value.str fl _) => file == fl
        | _ => false)
      | _ => false) && (match cl with
        | [(_, cc)] => (match K.lookup cc with
          | some ⟨_, _, .cell (some (.ref C)), _⟩ => C == cAt K c
          | _ => false)
        | _ => false))
    | _ => false) && (He.eqO (PySem.W.ks_superIn K (cAt K c) (cAt K c) "__init__") (some (some (.builtin "ValueError.__init__"))) && (eqOB (PySem.W.subIn K (.ref (cAt K c)) (.type "ValueError")) (some true) && (He.eqO (PySem.W.nsIn K cStatics "thirdparty.any") (some none) && (eqOB (PySem.W.mroIn K (cAt K c) (.ref (cAt K c))) (some true) && He.eqO (PySem.W.findIn K (.ref (cAt K c)) (Str.ofString fld)) (some none)))))))
/-- what such a class's call needs -/
structure GI (P : Program) (w : World) (K : PySem.W.Frag) (mg : Str → Option Value) (base : Heap) (c fn kn : String) : Prop where
  ex : ∃ (fd : FuncData) (ps : List Str), PySem.W.findIn K (.ref (cAt K c)) "__init__" = some (some (.ref (iniAt K c))) ∧ PySem.W.typeIn K (.ref (iniAt K c)) = some (.type "function") ∧ FnOk P w K mg base CX0 1 (iniAt K c) fd ps (spInit (cAt K c) (Str.ofString fn)) ∧ Binds K fd ps [] ∧
    KBn K fd ps 1 [Str.ofString kn] (fun us ws => us ++ ws) (fun us ws => us ++ ws)
theorem gi_of {L : Lw} {P : Program} {w : World} {K : PySem.W.Frag} {mg : Str → Option Value} {base : Heap} {c fn kn : String} (o : L.Ok K) (hc : (c, fn) ∈ L.excI) {qual : Str} {params : Arguments} {body : List Stmt} {scope : Scope} (e : iniOb K c = iniVal qual params body scope) (hB : iniB P.main.file K c fn = true)
    {sf m : Str} {j : Nat} {p0 p1 p2 p3 p4 p5 q0 q1 q2 q3 : Pos} {ar : Arg} (hbody : body = [.Expr (supE p0 p1 p2 p3 p4 m j) p5, asgE q0 q1 q2 q3 sf (Str.ofString fn) (Str.ofString kn)]) (S : NdefX.NScope [sf, Str.ofString kn, "__class__"] [sf, Str.ofString kn] ["__class__"] scope)
    (har : (params.posonlyargs ++ params.args).head? = some ar) (hsf : ar.arg = sf) (htop : (P.main.scope.names.lookup ("super" : Str)).isSome = false) (hmg : mg "super" = none) (hsup : scope.names.lookup ("super" : Str) = some .globalImplicit)
    (hsw1 : ∀ env : PySem.Env, swapsWith (supE p0 p1 p2 p3 p4 m j) none p5.line env = pure false) (hint : ∀ (L f cda cc : Addr), interactive (PySem.W.ksEnv qual scope L f (.ref cda) cc) = false)
    (hpl : ∃ pl : Sem Bool, ∀ env : PySem.Env, eval (supE p0 p1 p2 p3 p4 m j) env = (do
      let ov ← attributeBase (.Call (.Name "super" p0) [] [] p1) "__init__" env (eval (.Call (.Name "super" p0) [] [] p1) env)
      standAt p2.atName
      let (f, first) ← holding [ov] (getMethod ov "__init__" pl)
      callWith p4 f first (backTo p4 (starEach [.Constant (.str m) j p3] env)) []))
    (hsw2 : ∀ env : PySem.Env, swapsWith (.Name (Str.ofString kn) q2) (some (.Attribute (.Name sf q0) (Str.ofString fn) q1)) q3.line env = pure false)
    (hd1 : (sf == ("__debug__" : Str)) = false) (hd2 : (Str.ofString kn == ("__debug__" : Str)) = false) (hd3 : (sf == ("__classdict__" : Str)) = false) (hd4 : (Str.ofString kn == ("__classdict__" : Str)) = false)
    (hbd : ∀ (doc pm cdv ct : Value) (an : Option Addr) (cc : Addr) (a b : Value), bindArgs (PySem.W.ksFn "__init__" qual params body scope .none .none doc pm an cdv ct cc) ⟨[a, b], []⟩ = pure [(sf, a), (Str.ofString kn, b)])
    (hbk : ∀ (doc pm cdv ct : Value) (an : Option Addr) (cc : Addr) (a b : Value), bindArgs (PySem.W.ksFn "__init__" qual params body scope .none .none doc pm an cdv ct cc) ⟨[a], [(Str.ofString kn, b)]⟩ = pure [(sf, a), (Str.ofString kn, b)]) :
    GI P w K mg base c fn kn := by
  obtain ⟨h1, h⟩ := He.ba hB
  obtain ⟨h2, h⟩ := He.ba h
  obtain ⟨h3, h⟩ := He.ba h
  obtain ⟨h4, h⟩ := He.ba h
  obtain ⟨h5, h⟩ := He.ba h
  obtain ⟨h6, h⟩ := He.ba h
  obtain ⟨h7, h8⟩ := He.ba h
  have T := oexB_ok (o.ini _ hc)
  unfold iniOb at e
  split at h3
  · rename_i oc od qn q pr bd sc gl cl doc pm an cda ct bt osl lk
    rw [lk] at e
    have e2 : (some (qn, q, pr, bd, sc, gl, cl.map (·.1), bt) : IniV) = iniVal qual params body scope := e
    simp only [iniVal, Option.some.injEq, Prod.mk.injEq] at e2
    obtain ⟨rfl, rfl, rfl, rfl, rfl, rfl, ecl, rfl⟩ := e2
    obtain ⟨h31, h3⟩ := He.ba h3
    obtain ⟨h32, h33⟩ := He.ba h3
    split at h33
    · rename_i cn cc
      simp only [List.map_cons, List.map_nil, List.cons.injEq, and_true] at ecl
      subst ecl
      split at h33
      · rename_i oc2 od2 C sl2 lkc
        have eC := eq_of_beq h33
        subst eC
        split at h32
        · rename_i oc3 od3 vs sl3 lkd
          split at h32
          · rename_i fl tf hfl
            subst hbody
            have F := fnI_of (P := P) (w := w) (mg := mg) (base := base) (CX := CX0) (k := 0) lk h31 S T har hsf ⟨_, vs, fl, tf, lkd, rfl, hfl, h32⟩ ⟨_, lkc, rfl⟩ htop hmg hsup (He.eqO_ok h4) (eqOB_ok h5) (He.eqO_ok h6) (eqOB_ok h7) (He.eqO_ok h8) hsw1 (fun L => hint L _ _ _) hpl hsw2 hd1 hd2 hd3 hd4
            refine ⟨_, _, He.eqO_ok h1, of_decide_eq_true h2, F, .all fun us hl => ?_, fun s us ws _ l1 l2 => .of_eq ?_, fun r1 r2 => r1.append r2⟩
            · match us, hl with
              | [a, b], _ => exact hbd _ _ _ _ _ _ a b
            · match us, ws, l1, l2 with
              | [a], [b], _, _ => exact hbk _ _ _ _ _ _ a b
          · cases h32
        · cases h32
      · cases h33
    · cases h33
  · cases h3
end Ev
/-! Ev53: the rules of classes, by names. -/
namespace Ev
open PySem PySem.Spec PyProof.Rows L2

structure HX (L : Lw) (w : World) (K : PySem.W.Frag) (X : Cx) : Prop where
  hw : X.w = w
  hK : X.K = K
  o : L.Ok K
  kin : K.In X.base
  ns : X.base.Ns mainGlobals X.mg
section
variable {L : Lw} {w : World} {K : PySem.W.Frag} {X : Cx} {C : Cfg} {W : WX}
theorem HX.free (h : HX L w K X) {x : Str} (hx : x ∈ L.free) : X.mg x = none := Lw.mg_free h.o h.kin h.ns hx
theorem HX.cls (h : HX L w K X) {c : String} (hc : c ∈ L.own) : X.mg (Str.ofString c) = some (.ref (cAt K c)) := (Lw.mg_cls h.o h.kin h.ns hc).1
theorem HX.keep (h : HX L w K X) {c : String} (hc : c ∈ L.own) : PySem.W.keepIn X.K (.ref (cAt K c)) = true := by rw [h.hK]; exact (Lw.mg_cls h.o h.kin h.ns hc).2
theorem ref_val {a : Addr} (u : Value) (r : RelV (V.ref a) u) : u = .ref a := r
theorem ty_val {t : String} (u : Value) (r : RelV (V.ty t) u) : u = .type t := r
/-- isinstance(e, C), C of the text -/
theorem ok_iscO (h : HX L w K X) (g : GX X (L.wd w K)) (hs : C.sub = L.sub) {e : E} {c : String} {e' : Expr} {p pos pc : Pos} (he : OkE X (L.wd w K) C W e' e) (hc : c ∈ L.own) (hi : c ∈ L.isas) (hgc : Gl X (Str.ofString c)) (hn1 : NoStar e') (hgl : Gl X "isinstance") (hf : ("isinstance" : Str) ∈ L.free)
    (hd : (Str.ofString c == ("__debug__" : Str)) = false) : OkE X (L.wd w K) C W (.Call (.Name "isinstance" p) [e', .Name (Str.ofString c) pc] [] pos) (.isc e [c]) :=
  ok_isc g hs he (pe_glob (v := .ref (cAt K c)) hgc (h.cls hc) rfl hd) ref_val (List.mem_map.mpr ⟨c, hi, by rw [Lw.val, if_pos (List.contains_iff_mem.mpr hc)]⟩) hn1 (fun _ _ => rfl) hgl (h.free hf) (by decide +kernel)
/-- isinstance(e, t), t a built-in class -/
theorem ok_iscT (h : HX L w K X) (g : GX X (L.wd w K)) (hs : C.sub = L.sub) {e : E} {t : String} {e' : Expr} {p pos pc : Pos} (he : OkE X (L.wd w K) C W e' e) (hc : t ∉ L.own) (hi : t ∈ L.isas) (hgc : Gl X (Str.ofString t)) (hn1 : NoStar e') (hgl : Gl X "isinstance") (hf : ("isinstance" : Str) ∈ L.free)
    (hft : Str.ofString t ∈ L.free) (hv : bootBuiltins (Str.ofString t) = some (.type t)) (hn : Str.ofString t ≠ "__name__") (hd : (Str.ofString t == ("__debug__" : Str)) = false) : OkE X (L.wd w K) C W (.Call (.Name "isinstance" p) [e', .Name (Str.ofString t) pc] [] pos) (.isc e [t]) :=
  ok_isc g hs he (pe_bltn (v := .ty t) hgc (h.free hft) hv rfl hn hd) ty_val (List.mem_map.mpr ⟨t, hi, by rw [Lw.val, if_neg (fun z => hc (List.contains_iff_mem.mp z))]⟩) hn1 (fun _ _ => rfl) hgl (h.free hf) (by decide +kernel)
theorem ok_excPG (h : HX L w K X) (g : GX X (L.wd w K)) {c : String} {e : Expr} {e0 : E} {p pos : Pos} (hc : c ∈ L.excP) (hio : C.io c = []) (hcall : ∀ d, C.call c [.fr d] = .ok (.fr (.exn c [])) []) (hg : Gl X (Str.ofString c)) (he : OkE X (L.wd w K) C W e e0) (hn : NoStar e)
    (hdb : (Str.ofString c == ("__debug__" : Str)) = false) : OkE X (L.wd w K) C W (.Call (.Name (Str.ofString c) p) [e] [] pos) (.call c [e0]) := by
  have m := List.mem_append_left (L.excI.map (·.1)) hc
  have q := h.o.pl c hc
  rw [← h.hK] at q
  have m2 := exc_own m
  have cl := Lw.cls_of (w := w) (K := K) m2
  have gc := h.cls m2
  rw [← h.hK] at gc
  have cl2 : (L.wd w K).cls c = some (cAt X.K c) := by rw [h.hK]; exact cl
  have kp := h.keep m2
  rw [← h.hK] at kp
  exact ok_excP g hio hcall cl2 m F.excBase_ValueError q gc kp hg he hn hdb
theorem ok_excIG (h : HX L w K X) (g : GX X (L.wd w K)) {c fn kn : String} {e : Expr} {e0 : E} {p pos : Pos} (hc : (c, fn) ∈ L.excI) (I : GI X.prog X.w K X.mg X.base c fn kn) (hr : Room 2 X.A) (hio : C.io c = []) (hcall : ∀ d, C.call c [.fr d] = .ok (.fr (.exn c [(fn, d)])) []) (hg : Gl X (Str.ofString c)) (he : OkE X (L.wd w K) C W e e0) (hn : NoStar e)
    (hdb : (Str.ofString c == ("__debug__" : Str)) = false) : OkE X (L.wd w K) C W (.Call (.Name (Str.ofString c) p) [e] [] pos) (.call c [e0]) := by
  have m : c ∈ L.excs := List.mem_append_right L.excP (List.mem_map.mpr ⟨_, hc, rfl⟩)
  have m2 := exc_own m
  obtain ⟨fd, ps, h1, h2, F1, hb, _⟩ := I.ex
  have T := oexB_ok (h.o.ini _ hc)
  have cl := Lw.cls_of (w := w) (K := K) m2
  have gc := h.cls m2
  have hK := h.hK
  subst hK
  exact ok_excI g hio hcall cl m T h1 h2 F1 hr hb pass0 hg gc he hn hdb
theorem ok_excKG (h : HX L w K X) (g : GX X (L.wd w K)) {c fn kn : String} {e : Expr} {e0 : E} {p pos kpos : Pos} (hc : (c, fn) ∈ L.excI) (I : GI X.prog X.w K X.mg X.base c fn kn) (hr : Room 2 X.A) (hcall : ∀ d, C.call c [.fr d] = .ok (.fr (.exn c [(fn, d)])) []) (hg : Gl X (Str.ofString c)) (he : OkE X (L.wd w K) C W e e0)
    (hdb : (Str.ofString c == ("__debug__" : Str)) = false) (hks : (backToKw pos (keywordEach [⟨some (Str.ofString kn), e, kpos⟩] X.env)).filterMap (·.1) = [Str.ofString kn]) (hall : (backToKw pos (keywordEach [⟨some (Str.ofString kn), e, kpos⟩] X.env)).all (·.1.isSome) = true)
    (hpl : ((backTo pos (starEach [] X.env)).any (·.1) || (backToKw pos (keywordEach [⟨some (Str.ofString kn), e, kpos⟩] X.env)).any (·.1.isNone)) = false) : OkE X (L.wd w K) C W (.Call (.Name (Str.ofString c) p) [] [⟨some (Str.ofString kn), e, kpos⟩] pos) (.callk c [] [(kn, e0)]) := by
  have m : c ∈ L.excs := List.mem_append_right L.excP (List.mem_map.mpr ⟨_, hc, rfl⟩)
  have m2 := exc_own m
  obtain ⟨fd, ps, h1, h2, F1, _, hb⟩ := I.ex
  have T := oexB_ok (h.o.ini _ hc)
  have cl := Lw.cls_of (w := w) (K := K) m2
  have gc := h.cls m2
  have hK := h.hK
  subst hK
  exact ok_excK g hcall cl m T h1 h2 F1 hr hb pass0 hg gc he hdb hks hall hpl
end
end Ev
/-! Ev54: the head's Hook: a check, the defs, the __init__ of exception classes. -/
namespace Ev
open PySem PySem.Spec PyProof.Rows L2

theorem HX.blk {L : Lw} {w : World} {K : PySem.W.Frag} {X : Cx} (h : HX L w K X) {s : Shared} {H : Hp} {scope : Scope} {env : PySem.Env} {fp : List Addr} : HX L w K (X.blk s H scope env fp) := ⟨h.hw, h.hK, h.o, h.kin, h.ns⟩
abbrev AlH : Type := Bool × He.AlD × List IniV
def obsH (ex : PySem.W.Frag → Bool) (fn : List He.DefD) (is : List String) (K : PySem.W.Frag) : AlH := (ex K, He.obsD [] fn K, is.map (iniOb K))
def valH (fn : List He.DefD) (iv : List IniV) : AlH := (true, He.valD fn, iv)
def frH (g : Addr → Option Obj) (n : Nat) : PySem.W.Frag := He.frG g (He.asD g n ++ [sysModules, cStatics])
def obsHG (n : Nat) (ex : PySem.W.Frag → Bool) (fn : List He.DefD) (is : List String) (g : Addr → Option Obj) : AlH := obsH ex fn is (frH g n)
def hookH (n : Nat) (ex : PySem.W.Frag → Bool) (fn : List He.DefD) (is : List String) (iv : List IniV) : PySem.W.Hook where
  α := AlH
  obs := fun s => obsHG n ex fn is s.heap.get?
  val := fun _ => valH fn iv
  says := fun _ h => ∃ K : PySem.W.Frag, K.In h ∧ obsH ex fn is K = valH fn iv
  of := fun _ _ e => ⟨_, He.frG_in, e⟩
  keeps := fun _ _ _ ⟨K, hK, c⟩ k => ⟨K, PySem.W.Frag.In.keeps hK k, c⟩
theorem obsHG_eq {n : Nat} {ex : PySem.W.Frag → Bool} {fn : List He.DefD} {is : List String} {iv : List IniV} {g : Addr → Option Obj} {s : Shared} (h : ∀ a, g a = s.heap.get? a) : obsHG n ex fn is g = (hookH n ex fn is iv).obs s := by
  have e : g = s.heap.get? := funext h
  rw [e] <;> rfl
section
variable {ex : PySem.W.Frag → Bool} {fn : List He.DefD} {is : List String} {iv : List IniV} {K : PySem.W.Frag}
theorem says_ex (c : obsH ex fn is K = valH fn iv) : ex K = true := congrArg (fun z : AlH => z.1) c
theorem says_fn (c : obsH ex fn is K = valH fn iv) : He.SaysD [] fn K := congrArg (fun z : AlH => z.2.1) c
theorem says_ini (c : obsH ex fn is K = valH fn iv) (i : Nat) {x : String} {v : IniV} (h : is[i]? = some x) (hv : iv[i]? = some v) : iniOb K x = v := by
  have e : is.map (iniOb K) = iv := congrArg (fun z : AlH => z.2.2) c
  have e2 : (is.map (iniOb K))[i]? = iv[i]? := by rw [e]
  rw [List.getElem?_map, h, hv] at e2
  exact Option.some.inj e2
end
/-- a method's text in a class -/
def methS (s : Stmt) (j : Nat) : Stmt := match s with
  | .ClassDef _ _ _ b _ _ _ _ _ _ _ => b.getD j (.Pass ⟨0, 0, 0, 0⟩)
  | _ => .Pass ⟨0, 0, 0, 0⟩
end Ev
/-! Ev55: a, b, .. = x, y, .. for any names; in, not in. -/
namespace Ev
open PySem PySem.Spec PyProof.Rows L2

section
variable {B : Wd} {X : Cx} {C : Cfg} {W : WX} {P : List (Nat × V)}
def gNames (is : List Nat) : TGs := fun vs σ H Q => vs.length = is.length ∧ Q (setAll is vs σ) H
inductive OkN (X : Cx) : List Expr → List Nat → Prop
  | nil : OkN X [] []
  | cons {i : Nat} {x : Str} {pos : Pos} {ts : List Expr} {is : List Nat} : X.N[i]? = some x → Loc X.env.scope x → (X.fn x = true ∨ X.env.scope.names.lookup x = some .local) → OkN X ts is → OkN X (.Name x pos :: ts) (i :: is)
theorem OkN.run {ts : List Expr} {is : List Nat} (hN : X.N.Nodup) (h : OkN X ts is) : PGs X ts (gNames is) ∧ (assignEach ts X.env).length = is.length ∧ (assignEach ts X.env).findIdx? (·.1) = none := by
  induction h with
  | nil =>
    refine ⟨PGs.imp pgs_nil fun vs σ H Q ⟨hl, q⟩ => ?_, rfl, rfl⟩
    cases vs with
    | nil => exact ⟨rfl, q⟩
    | cons v r => simp at hl
  | @cons i x pos ts is hi hx hf _ ih =>
    obtain ⟨h1, h2, h3⟩ := ih
    have e : assignEach (.Name x pos :: ts) X.env = (false, assign (.Name x pos) X.env) :: assignEach ts X.env := rfl
    refine ⟨PGs.imp (pgs_cons (pg_name hN hi hx hf) h1 (by rw [e]; rfl)) fun vs σ H Q ⟨hl, q⟩ => ?_, by rw [e, List.length_cons, List.length_cons, h2], by rw [e, List.findIdx?_cons, h3]; rfl⟩
    cases vs with
    | nil => simp at hl
    | cons v r => exact ⟨v, r, rfl, by simpa using hl, q⟩
theorem putAll_len {prot : List Nat} : ∀ {is : List Nat} {os : List OV} {env env2 : Env}, putAll prot is os env = some env2 → os.length = is.length
  | [], [], _, _, _ => rfl
  | i :: is, o :: os, env, env2, h => by
    simp only [putAll] at h
    cases e : env.put prot i o with
    | none => rw [e] at h; cases h
    | some z => rw [e] at h; simp only [List.length_cons, putAll_len h]
  | [], _ :: _, _, _, h => by simp [putAll] at h
  | _ :: _, [], _, _, h => by simp [putAll] at h
theorem RepOs.len {Z : Addr → Prop} {H : Hp} : ∀ {os : List OV} {vs : List V} {fp : List Addr}, RepOs B Z H os vs fp → vs.length = os.length
  | [], vs, fp, h => by simp only [RepOs] at h; rw [h.1]; rfl
  | o :: os, vs, fp, h => by
    simp only [RepOs] at h
    obtain ⟨x, r, f1, f2, rfl, _, h2, _⟩ := h
    simp only [List.length_cons, RepOs.len h2]
theorem ok_parC (g : GX X B) {is : List Nat} {ts es' : List Expr} {es : List E} {kt k2 : Nat} {pt pt2 pos : Pos} (hP : ∀ p ∈ P, p.1 ∈ C.prot) (hN : X.N.Nodup) (hn : OkN X ts is) (ha : OkA X B C W es' es) (hk : is.length ≤ 100)
    (hs : swapsWithSole [.Tuple ts kt pt] (.Tuple es' k2 pt2) pos.line X.env = pure false) (hw : swappedStores [.Tuple ts kt pt] (.Tuple es' k2 pt2) X.env = pure none) :
    OkS X B C W P (.Assign [.Tuple ts kt pt] (.Tuple es' k2 pt2) pos) (.par is es) := by
  obtain ⟨h1, h2, h3⟩ := hn.run hN
  refine ⟨PS.imp (ps_asg (pe_tup (ha.vs false)) (pg_tup g.calm h1 h2 h3) hs hw rfl) fun D σ H ⟨Z, env, F, st, fx, q⟩ => ?_⟩
  refine ⟨Z, env, F, st, ?_⟩
  simp only [exec] at q
  refine PostVs.thnS fx q fun os env1 vs Z' H' F' fp r1 e1 t1 q1 => ?_
  split at q1
  · rename_i env2 hp
    have hl : vs.length = is.length := by rw [r1.len, putAll_len hp]
    refine ⟨by rw [hl, sizeLine_eq]; omega, fun p hpn => ⟨p, vs, rfl, .inl (.inl upd_same), hl, hl, ?_⟩⟩
    have gs : Gr Z' Z' H' (upd H' p (.tup vs)) := .of (fun _ h => h) (fun b o _ h => lay_ext hpn b o h) fun b xs h => lay_ext hpn b _ h
    obtain ⟨F2, dr, e2, fx2, p2⟩ := putAll_env hP (r1.mono gs fun b _ u hu => lay_ext hpn b u hu) (e1.mono gs fun b _ u hu => lay_ext hpn b u hu) fx hp
    exact q1 _ Z' _ F2 e2 fx2 ((t1.lay hpn).perm p2).drop
  · exact q1.elim
theorem v_isin (g : GX X B) {a b : E} : OpR X (compareOp .In) (fun x y H Q => rOp B .isin [a, b] [x, y] H Q) := v_in g (ng := false)
theorem v_notin (g : GX X B) {a b : E} : OpR X (compareOp .NotIn) (fun x y H Q => rOp B .notin [a, b] [x, y] H Q) := v_in g (ng := true)
end
end Ev
/-! Px1: symbolic evaluation by simp: each part in a form in which the head alone is looked at. -/
namespace Ev
open PySem
section
variable {α β γ : Type}
/-- what is there, or else -/
def TU {α β : Type} (f : α) (g : β) : Type := Unit
/-- what is there, or else; simp looks at o alone -/
def oc (o : Option α) (f : α → β) (g : β) (_ : TU f g := ()) : β := match o with
  | some a => f a
  | none => g
def R.bd (r : R α) (f : α → Env → R β) (_ : TU f () := ()) : R β := r.bind f
def R.th (r : R α) (f : α → Env → Ro) (_ : TU f () := ()) : Ro := r.thn f
def Ro.bd (r : Ro) (f : Env → Ro) (_ : TU f () := ()) : Ro := r.bind f
def pkO (e : E) (env : Env) (k : R OV) (_ : TU k () := ()) : R OV := pkOr e env k
theorem oc_some (a : α) (f : α → β) (g : β) : oc (some a) f g = f a := rfl
theorem oc_none (f : α → β) (g : β) : oc none f g = g := rfl
theorem bind_ok (a : α) (e : Env) (f : α → Env → R β) : (R.ok a e).bd f = f a e := rfl
theorem bind_exc (a : D) (e : Env) (f : α → Env → R β) : (R.exc a e).bd f = .exc a e := rfl
theorem thn_ok (a : α) (e : Env) (f : α → Env → Ro) : (R.ok a e).th f = f a e := rfl
theorem thn_exc (a : D) (e : Env) (f : α → Env → Ro) : (R.exc a e).th f = .exc a e := rfl
theorem ro_next (e : Env) (f : Env → Ro) : (Ro.next e).bd f = f e := rfl
theorem ro_ret (v : OV) (e : Env) (f : Env → Ro) : (Ro.ret v e).bd f = .ret v e := rfl
theorem ro_exc (v : D) (e : Env) (f : Env → Ro) : (Ro.exc v e).bd f = .exc v e := rfl
theorem of_oc (o : Option α) (e : Env) : R.of o e = oc o (fun a => .ok a e) .bad := by cases o <;> rfl
theorem noexc_ok (a : α) (e : Env) : (R.ok a e).noexc = .ok a e := rfl
theorem at_zero (o : Option OV) (env : Env) : Env.at (o :: env) 0 = o := by cases o <;> rfl
theorem at_succ (o : Option OV) (env : Env) (n : Nat) : Env.at (o :: env) (n + 1) = Env.at env n := rfl
end
/-! paths -/
theorem keyOf_var (env : Env) (i : Nat) : keyOf env (.var i) = oc (env.at i) (fun o => match o with | .fr d => some d | _ => none) none := by
  rw [keyOf.eq_def]
  simp only [oc]
  cases env.at i with
  | none => rfl
  | some o => cases o <;> rfl
theorem keyOf_cst (env : Env) (d : D) : keyOf env (.cst d) = some d := rfl
theorem pk_var (env : Env) (i : Nat) : pk env (.var i) = env.at i := rfl
theorem pk_item (env : Env) (b k : E) : pk env (.item b k) = oc (pk env b) (fun o => oc (keyOf env k) (fun d => child o d) none) none := by
  rw [pk.eq_def]
  simp only [oc]
  cases pk env b <;> cases keyOf env k <;> rfl
theorem pk_attr (env : Env) (b : E) (f : String) : pk env (.attr b f) = oc (pk env b) (fun o => fld o f) none := by
  rw [pk.eq_def]
  simp only [oc]
  cases pk env b <;> rfl
theorem pput_var (env : Env) (v : OV) (i : Nat) : pput env v (.var i) = oc (env.at i) (fun _ => some (env.set i (some v))) none := by
  rw [pput.eq_def]
  simp only [oc]
  cases env.at i <;> rfl
theorem pput_item (env : Env) (v : OV) (b k : E) : pput env v (.item b k) = oc (pk env b) (fun o => oc (keyOf env k) (fun d => oc (child o d) (fun _ => oc (setChild o d v) (fun o' => pput env o' b) none) none) none) none := by
  rw [pput.eq_def]
  simp only [oc]
  cases pk env b with
  | none => rfl
  | some o =>
    cases keyOf env k with
    | none => rfl
    | some d =>
      simp only
      cases child o d <;> cases setChild o d v <;> rfl
theorem pput_attr (env : Env) (v : OV) (b : E) (f : String) : pput env v (.attr b f) = oc (pk env b) (fun o => oc (fld o f) (fun _ => oc (setFld o f v) (fun o' => pput env o' b) none) none) none := by
  rw [pput.eq_def]
  simp only [oc]
  cases pk env b with
  | none => rfl
  | some o =>
    simp only
    cases fld o f <;> cases setFld o f v <;> rfl
/-- what is found at a path, shared -/
def shareO (n : Bool) (env : Env) (e : E) (o : OV) : R OV := match o with
  | .fr d => .ok (.fr d) env
  | o => if n then .bad else oc (pput env (.fr o.view) e) (fun env' => .ok (.fr o.view) env') .bad
theorem share_eq (n : Bool) (env : Env) (e : E) : share n env e = oc (pk env e) (shareO n env e) .bad := by
  unfold share
  cases pk env e with
  | none => rfl
  | some o =>
    cases o with
    | fr d => rfl
    | lst xs =>
      simp only [oc, shareO]
      split
      · rfl
      · cases pput env (.fr (OV.lst xs).view) e <;> rfl
    | dct xs =>
      simp only [oc, shareO]
      split
      · rfl
      · cases pput env (.fr (OV.dct xs).view) e <;> rfl
    | ins c xs =>
      simp only [oc, shareO]
      split
      · rfl
      · cases pput env (.fr (OV.ins c xs).view) e <;> rfl
theorem shareO_fr (n : Bool) (env : Env) (e : E) (d : D) : shareO n env e (.fr d) = .ok (.fr d) env := rfl
theorem shareO_lst (env : Env) (e : E) (xs : List OV) : shareO false env e (.lst xs) = oc (pput env (.fr (.lst (views xs))) e) (fun env' => .ok (.fr (.lst (views xs))) env') .bad := by
  simp only [shareO, OV.view, Bool.false_eq_true, if_false]
theorem shareO_dct (env : Env) (e : E) (xs : List (D × OV)) : shareO false env e (.dct xs) = oc (pput env (.fr (.dct (viewsK xs))) e) (fun env' => .ok (.fr (.dct (viewsK xs))) env') .bad := by
  simp only [shareO, OV.view, Bool.false_eq_true, if_false]
theorem shareO_ins (env : Env) (e : E) (c : String) (xs : List (String × OV)) : shareO false env e (.ins c xs) = oc (pput env (.fr (.ins c (viewsF xs))) e) (fun env' => .ok (.fr (.ins c (viewsF xs))) env') .bad := by
  simp only [shareO, OV.view, Bool.false_eq_true, if_false]
theorem pkOr_eq (e : E) (env : Env) (k : R OV) : pkO e env k = if isPath e = true then oc (pk env e) (fun o => .ok o env) k else k := by
  unfold pkO pkOr
  split
  · cases pk env e <;> rfl
  · rfl
/-! expressions -/
section
variable {C : Cfg}
theorem ev_var (i : Nat) (n : Bool) (env : Env) : Ev.ev C (.var i) n env = oc (env.at i) (shareO n env (.var i)) .bad := by
  rw [ev.eq_def]
  exact share_eq n env (.var i)
theorem ev_mv (i : Nat) (n : Bool) (env : Env) : Ev.ev C (.mv i) n env = if (n || C.prot.contains i) = true then .bad else oc (env.at i) (fun o => .ok o (env.set i none)) .bad := by
  rw [ev.eq_def]
  simp only
  split
  · rfl
  · cases env.at i <;> rfl
theorem ev_cst (d : D) (n : Bool) (env : Env) : Ev.ev C (.cst d) n env = .ok (.fr d) env := by rw [ev.eq_def]; first | done | rfl
theorem ev_glo (x : String) (d : D) (n : Bool) (env : Env) : Ev.ev C (.glo x d) n env = .ok (.fr d) env := by rw [ev.eq_def]; first | done | rfl
/-- o[d], shared -/
def itemR (vs : List OV) (env : Env) : R OV := match vs with
  | [o, .fr d] => match child o d with
    | some (.fr v) => .ok (.fr v) env
    | _ => .bad
  | _ => .bad
theorem itemR_eq (o : OV) (d : D) (env : Env) : itemR [o, .fr d] env = oc (child o d) (fun v => match v with | .fr v => .ok (.fr v) env | _ => .bad) .bad := by
  simp only [itemR]
  cases child o d with
  | none => rfl
  | some v => cases v <;> rfl
theorem ev_item' (b k : E) (n : Bool) (env : Env) : Ev.ev C (.item b k) n env = oc (pk env (.item b k)) (shareO n env (.item b k))
    (((if simple k = true then pkO b env (Ev.ev C b n env) else Ev.ev C b n env).bd fun o env1 => (pkO k env1 (Ev.ev C k (n || (isPath b && owned o)) env1)).bd fun d env2 => .ok [o, d] env2).bd itemR) := by
  rw [ev.eq_def]
  simp only
  rw [share_eq]
  cases pk env (.item b k) with
  | some o => rfl
  | none => rfl
theorem ev_attr' (b : E) (f : String) (n : Bool) (env : Env) : Ev.ev C (.attr b f) n env = oc (pk env (.attr b f)) (shareO n env (.attr b f))
    ((pkO b env (Ev.ev C b n env)).bd fun o env1 => oc (fld o f) (fun v => match v with | .fr v => .ok (.fr v) env1 | _ => .bad) .bad) := by
  rw [ev.eq_def]
  simp only
  rw [share_eq]
  cases pk env (.attr b f) with
  | some o => rfl
  | none =>
    simp only [oc]
    refine congrArg (R.bind _) ?_
    funext o env1
    cases fld o f with
    | none => rfl
    | some v => cases v <;> rfl
theorem ev_tup (es : List E) (n : Bool) (env : Env) : Ev.ev C (.op .tup es) n env = (Ev.evs C es n env).bd fun vs env1 => R.of (oTup (vs.map fun v => .fr v.view)) env1 := by rw [ev.eq_def]; rfl
theorem ev_lst (es : List E) (n : Bool) (env : Env) : Ev.ev C (.op .lst es) n env = (Ev.evs C es n env).bd fun vs env1 => R.of (oLst vs) env1 := by rw [ev.eq_def]; rfl
theorem ev_dct (es : List E) (n : Bool) (env : Env) : Ev.ev C (.op .dct es) n env = (Ev.evs C es n env).bd fun vs env1 => oc (dctR vs []) (fun kvs => if sizeB kvs.length = true then .ok (.dct kvs) env1 else .bad) .bad := by
  rw [ev.eq_def]
  simp only
  refine congrArg (R.bind _) ?_
  funext vs env1
  cases dctR vs [] <;> rfl
def plainOp : Op → Bool
  | .tup => false | .lst => false | .dct => false
  | _ => true
theorem ev_op (o : Op) (h : plainOp o = true) (es : List E) (n : Bool) (env : Env) : Ev.ev C (.op o es) n env = (Ev.evps C es n env).bd fun vs env1 => R.of (opR o vs) env1 := by
  rw [ev.eq_def]
  cases o <;> first | rfl | cases h
theorem evs_nil (n : Bool) (env : Env) : Ev.evs C [] n env = .ok [] env := by rw [evs.eq_def]; first | done | rfl
theorem evs_cons (e : E) (es : List E) (n : Bool) (env : Env) : Ev.evs C (e :: es) n env = (Ev.ev C e n env).bd fun v env1 => (Ev.evs C es n env1).bd fun vs env2 => .ok (v :: vs) env2 := by rw [evs.eq_def]; first | done | rfl
theorem evps_nil (n : Bool) (env : Env) : Ev.evps C [] n env = .ok [] env := by rw [evps.eq_def]; first | done | rfl
theorem evps_cons (e : E) (es : List E) (n : Bool) (env : Env) : Ev.evps C (e :: es) n env = (if simples es = true then pkO e env (Ev.ev C e n env) else Ev.ev C e n env).bd fun v env1 => (Ev.evps C es (n || (isPath e && owned v)) env1).bd fun vs env2 => .ok (v :: vs) env2 := by rw [evps.eq_def]; first | done | rfl
/-- and, or: by the first value -/
def andK (x : OV) (k : R OV) (env : Env) (_ : TU k () := ()) : R OV := match x with
  | .fr (.bl true) => k
  | .fr (.bl false) => .ok (.fr (.bl false)) env
  | _ => .bad
def orK (x : OV) (k : R OV) (env : Env) (_ : TU k () := ()) : R OV := match x with
  | .fr (.bl false) => k
  | .fr (.bl true) => .ok (.fr (.bl true)) env
  | _ => .bad
theorem andK_bl (b : Bool) (k : R OV) (env : Env) : andK (.fr (.bl b)) k env = if b = true then k else .ok (.fr (.bl false)) env := by cases b <;> rfl
theorem orK_bl (b : Bool) (k : R OV) (env : Env) : orK (.fr (.bl b)) k env = if b = true then .ok (.fr (.bl true)) env else k := by cases b <;> rfl
theorem ev_and (a b : E) (n : Bool) (env : Env) : Ev.ev C (.and a b) n env = (pkO a env (Ev.ev C a n env)).bd fun x env1 => andK x (Ev.ev C b n env1) env1 := by
  rw [ev.eq_def]
  simp only
  refine congrArg (R.bind _) ?_
  funext x env1
  first | done | rfl | (rcases x with d | _ | _ | _ <;> first | rfl | (cases d <;> first | rfl | (rename_i b; cases b <;> rfl)))
theorem ev_or (a b : E) (n : Bool) (env : Env) : Ev.ev C (.or a b) n env = (pkO a env (Ev.ev C a n env)).bd fun x env1 => orK x (Ev.ev C b n env1) env1 := by
  rw [ev.eq_def]
  simp only
  refine congrArg (R.bind _) ?_
  funext x env1
  first | done | rfl | (rcases x with d | _ | _ | _ <;> first | rfl | (cases d <;> first | rfl | (rename_i b; cases b <;> rfl)))
theorem ev_not (a : E) (n : Bool) (env : Env) : Ev.ev C (.not a) n env = (pkO a env (Ev.ev C a n env)).bd fun x env1 => oc (truth x) (fun b => .ok (.fr (.bl (!b))) env1) .bad := by
  rw [ev.eq_def]
  simp only
  refine congrArg (R.bind _) ?_
  funext x env1
  cases truth x <;> rfl
theorem ev_ifx (c a b : E) (n : Bool) (env : Env) : Ev.ev C (.ifx c a b) n env = (pkO c env (Ev.ev C c n env)).bd fun x env1 => oc (truth x) (fun t => if t = true then Ev.ev C a n env1 else Ev.ev C b n env1) .bad := by
  rw [ev.eq_def]
  simp only
  refine congrArg (R.bind _) ?_
  funext x env1
  cases truth x with
  | none => rfl
  | some t => cases t <;> rfl
/-- isinstance, told -/
def iscB (C : Cfg) (d : D) (cs : List String) : Bool := match d with
  | .ins c _ => cs.any (C.sub c)
  | .exn c _ => cs.any (C.sub c)
  | d => cs.any fun t => isTy t d
theorem ev_iscE (e : E) (cs : List String) (n : Bool) (env : Env) : Ev.ev C (.isc e cs) n env = (pkO e env (Ev.ev C e n env)).bd fun o env1 => .ok (.fr (.bl (iscB C o.view cs))) env1 := by
  rw [ev.eq_def]
  simp only
  refine congrArg (R.bind _) ?_
  funext o env1
  unfold iscB
  cases o.view <;> rfl
/-- a call's answer, put back -/
def backR (ps : List E) (env : Env) (r : Rc) : R OV := match r with
  | .ok r outs => oc (putPaths env ps outs) (fun env' => .ok r env') .bad
  | .exc x outs => oc (putPaths env ps outs) (fun env' => .exc x env') .bad
  | .bad => .bad
theorem backR_ok (ps : List E) (env : Env) (r : OV) (outs : List OV) : backR ps env (.ok r outs) = oc (putPaths env ps outs) (fun env' => .ok r env') .bad := rfl
theorem backR_exc (ps : List E) (env : Env) (r : D) (outs : List OV) : backR ps env (.exc r outs) = oc (putPaths env ps outs) (fun env' => .exc r env') .bad := rfl
theorem finish_eq (call : List OV → Rc) (n : Bool) (es : List E) (vs : List (Option OV)) (env : Env) : finish call n es vs env =
    if (n && !(outsOf vs es).isEmpty) = true then .bad else if apart (outsOf vs es) = true then oc (argsOf env vs es) (fun as => backR (outsOf vs es) env (call as)) .bad else .bad := by
  unfold finish backR oc
  simp only
  by_cases h1 : (n && !(outsOf vs es).isEmpty) = true
  · rw [if_pos h1, if_pos h1]
  · rw [if_neg h1, if_neg h1]
    by_cases h2 : apart (outsOf vs es) = true
    · rw [if_pos h2, if_pos h2]
      cases argsOf env vs es with
      | none => rfl
      | some as =>
        simp only
        cases call as with
        | ok r o => simp only; cases putPaths env (outsOf vs es) o <;> rfl
        | exc r o => simp only; cases putPaths env (outsOf vs es) o <;> rfl
        | bad => rfl
    · rw [if_neg h2, if_neg h2]
theorem ev_call (f : String) (es : List E) (n : Bool) (env : Env) : Ev.ev C (.call f es) n env = (Ev.evargs C (C.io f) 0 es n env).bd fun vs env1 => finish (C.call f) n es vs env1 := by rw [ev.eq_def]; first | done | rfl
theorem evargs_nil (io : List Nat) (i : Nat) (n : Bool) (env : Env) : Ev.evargs C io i [] n env = .ok [] env := by rw [evargs.eq_def]; first | done | rfl
theorem evargs_cons (io : List Nat) (i : Nat) (e : E) (es : List E) (n : Bool) (env : Env) : Ev.evargs C io i (e :: es) n env = if i ∈ io then (if isSlot env e = true then (Ev.evargs C io (i + 1) es n env).bd fun vs env2 => .ok (none :: vs) env2 else .bad)
    else (Ev.ev C e n env).bd fun v env1 => (Ev.evargs C io (i + 1) es n env1).bd fun vs env2 => .ok (some (.fr v.view) :: vs) env2 := by rw [evargs.eq_def]; first | done | rfl
theorem ev_callk (f : String) (es : List E) (ks : List (String × E)) (n : Bool) (env : Env) : Ev.ev C (.callk f es ks) n env = (Ev.evargs C [] 0 es n env).bd fun vs env1 => (Ev.evks C ks n env1).bd fun ws env2 => finish (fun as => C.call f (as ++ ws)) n es vs env2 := by rw [ev.eq_def]; first | done | rfl
theorem evks_nil (n : Bool) (env : Env) : Ev.evks C [] n env = .ok [] env := by rw [evks.eq_def]; first | done | rfl
theorem evks_cons (x : String) (e : E) (es : List (String × E)) (n : Bool) (env : Env) : Ev.evks C ((x, e) :: es) n env = (Ev.ev C e n env).bd fun v env1 => (Ev.evks C es n env1).bd fun vs env2 => .ok (.fr v.view :: vs) env2 := by rw [evks.eq_def]; first | done | rfl
theorem evt_nil (n : Bool) (env : Env) : Ev.evt C [] n env = .ok true env := by rw [evt.eq_def]; first | done | rfl
theorem evt_cons (e : E) (es : List E) (n : Bool) (env : Env) : Ev.evt C (e :: es) n env = (pkO e env (Ev.ev C e n env)).bd fun v env1 => oc (truth v) (fun t => if t = true then Ev.evt C es n env1 else .ok false env1) .bad := by
  rw [evt.eq_def]
  simp only
  refine congrArg (R.bind _) ?_
  funext v env1
  cases truth v with
  | none => rfl
  | some t => cases t <;> rfl
theorem ev_comp (elt : E) (t : T) (k : IK) (es cond : List E) (env : Env) : Ev.ev C (.comp elt t k es cond) false env = (Ev.evs C es false env).bd fun vs env1 => oc (walkOf k (vs.map fun v => .fr v.view))
    (fun ds => (turns C.prot t.slots t (oneStep false (fun _ env => Ev.evt C cond false env) (Ev.ev C elt false)) ds [] (wipeE env1 t.slots)).bd fun acc env2 => .ok (.lst acc) env2) .bad := by
  rw [ev.eq_def]
  simp only [Bool.false_eq_true, if_false]
  refine congrArg (R.bind _) ?_
  funext vs env1
  cases walkOf k (vs.map fun v => .fr v.view) <;> rfl
/-- a path that may be changed -/
theorem ev_mutE (m : MOp) (p : E) (es : List E) (env : Env) : Ev.ev C (.mut m p es) false env = if (!isPath p || !mutStart (pk env p)) = true then .bad else (Ev.evs C es (match p with | .var _ => false | _ => true) env).bd fun vs env1 => mutFin m p vs env1 := by
  rw [ev.eq_def]
  simp only [Bool.false_or]
  rfl
theorem mutFin_eq (m : MOp) (p : E) (vs : List OV) (env : Env) : mutFin m p vs env = oc (pk env p) (fun o => oc (mutR m o vs) (fun ro => oc (pput env ro.2 p) (fun env2 => .ok ro.1 env2) .bad) .bad) .bad := by
  unfold mutFin oc
  cases pk env p with
  | none => rfl
  | some o =>
    simp only
    cases mutR m o vs with
    | none => rfl
    | some ro =>
      obtain ⟨r, o'⟩ := ro
      simp only
      cases pput env o' p <;> rfl
/-! statements -/
theorem test_eq (c : E) (env : Env) : Ev.test C c env = (pkO c env (Ev.ev C c false env)).bd fun v env1 => oc (truth v) (fun b => .ok b env1) .bad := by
  unfold test
  refine congrArg (R.bind _) ?_
  funext v env1
  cases truth v <;> rfl
theorem ex_pass (env : Env) : Ev.exec C .pass env = .next env := by rw [exec.eq_def]; first | done | rfl
theorem ex_asg (i : Nat) (e : E) (env : Env) : Ev.exec C (.asg i e) env = (Ev.ev C e false env).th fun v env1 => oc (env1.put C.prot i v) .next .bad := by
  rw [exec.eq_def]
  simp only
  refine congrArg (R.thn _) ?_
  funext v env1
  cases env1.put C.prot i v <;> rfl
theorem ex_asgT (ts : List Nat) (e : E) (env : Env) : Ev.exec C (.asgT ts e) env = (Ev.ev C e false env).th fun v env1 => oc (unpack v ts.length) (fun xs => oc (putAll C.prot ts (xs.map .fr) env1) .next .bad) .bad := by
  rw [exec.eq_def]
  simp only
  refine congrArg (R.thn _) ?_
  funext v env1
  cases unpack v ts.length with
  | none => rfl
  | some xs =>
    simp only [oc]
    cases putAll C.prot ts (xs.map .fr) env1 <;> rfl
theorem ex_par (is : List Nat) (es : List E) (env : Env) : Ev.exec C (.par is es) env = (Ev.evs C es false env).th fun vs env1 => oc (putAll C.prot is vs env1) .next .bad := by
  rw [exec.eq_def]
  simp only
  refine congrArg (R.thn _) ?_
  funext v env1
  cases putAll C.prot is v env1 <;> rfl
/-- d[k] = v, told -/
def setIR (p : E) (v kd : OV) (env : Env) : Ro := match kd with
  | .fr d => oc (pk env p) (fun o => match o with | .dct kvs => oc (setChild (.dct kvs) d v) (fun o' => oc (pput env o' p) .next .bad) .bad | _ => .bad) .bad
  | _ => .bad
theorem setIR_fr (p : E) (v : OV) (d : D) (env : Env) : setIR p v (.fr d) env = oc (pk env p) (fun o => match o with | .dct kvs => oc (setChild (.dct kvs) d v) (fun o' => oc (pput env o' p) .next .bad) .bad | _ => .bad) .bad := rfl
theorem ex_setI (p k e : E) (env : Env) : Ev.exec C (.setI p k e) env = (Ev.ev C e false env).th fun v env1 => oc (pk env1 p) (fun _ => (pkO k env1 (Ev.ev C k (match p with | .var _ => false | _ => true) env1)).th (setIR p v)) .bad := by
  rw [exec.eq_def]
  simp only
  refine congrArg (R.thn _) ?_
  funext v env1
  cases hp : pk env1 p with
  | none => rfl
  | some o =>
    simp only [Option.isNone_some, Bool.false_eq_true, if_false, oc]
    refine congrArg (R.thn _) ?_
    funext kd env2
    unfold setIR oc
    cases hp2 : pk env2 p with
    | none => cases kd <;> rfl
    | some o2 =>
      cases kd with
      | fr d =>
        cases o2 with
        | dct kvs =>
          simp only
          cases setChild (.dct kvs) d v with
          | none => rfl
          | some o' =>
            simp only
            cases pput env2 o' p <;> rfl
        | _ => rfl
      | _ => cases o2 <;> rfl
theorem ex_expr (e : E) (env : Env) : Ev.exec C (.expr e) env = (Ev.ev C e false env).th fun _ env1 => .next env1 := by rw [exec.eq_def]; first | done | rfl
theorem ex_ife (c : E) (a b : List S) (env : Env) : Ev.exec C (.ife c a b) env = (Ev.test C c env).th fun t env1 => if t = true then Ev.execs C a env1 else Ev.execs C b env1 := by rw [exec.eq_def]; first | done | rfl
theorem ex_fore (t : T) (k : IK) (es : List E) (b : List S) (env : Env) : Ev.exec C (.fore t k es b) env = (Ev.evs C es false env).th fun vs env1 => oc (walkOf k (vs.map fun v => .fr v.view)) (fun ds => forL C.prot t (Ev.execs C b) ds env1) .bad := by
  rw [exec.eq_def]
  simp only
  refine congrArg (R.thn _) ?_
  funext v env1
  cases walkOf k (v.map fun v => .fr v.view) <;> rfl
theorem ex_whil (c : E) (b : List S) (env : Env) : Ev.exec C (.whil c b) env = whileL (Ev.test C c) (Ev.execs C b) C.fuel env := by rw [exec.eq_def]; first | done | rfl
theorem ex_ret (e : E) (env : Env) : Ev.exec C (.ret e) env = (Ev.ev C e false env).th fun v env1 => .ret v env1 := by rw [exec.eq_def]; first | done | rfl
theorem ex_retN (env : Env) : Ev.exec C .retN env = .ret (.fr .non) env := by rw [exec.eq_def]; first | done | rfl
theorem exs_nil (env : Env) : Ev.execs C [] env = .next env := by rw [execs.eq_def]; first | done | rfl
theorem exs_cons (s : S) (ss : List S) (env : Env) : Ev.execs C (s :: ss) env = (Ev.exec C s env).bd fun env1 => Ev.execs C ss env1 := by rw [execs.eq_def]; first | done | rfl
theorem forL_nil (prot : List Nat) (t : T) (body : Env → Ro) (env : Env) : forL prot t body [] env = .next env := rfl
theorem forL_cons (prot : List Nat) (t : T) (body : Env → Ro) (d : D) (ds : List D) (env : Env) : forL prot t body (d :: ds) env = oc (bindT prot t d env) (fun env1 => (body env1).bd fun env2 => forL prot t body ds env2) .bad := by
  rw [forL]
  cases bindT prot t d env <;> rfl
theorem turns_nil (prot is : List Nat) (t : T) (step : List OV → Env → R (List OV)) (acc : List OV) (env : Env) : turns prot is t step [] acc env = .ok acc env := rfl
theorem turns_cons (prot is : List Nat) (t : T) (step : List OV → Env → R (List OV)) (d : D) (ds : List D) (acc : List OV) (env : Env) : turns prot is t step (d :: ds) acc env =
    oc (bindT prot t d env) (fun env1 => (step acc env1).noexc.bd fun acc' env2 => turns prot is t step ds acc' (wipeE env2 is)) .bad := by
  rw [turns]
  cases bindT prot t d env <;> rfl
theorem oneStep_eq (cond : List OV → Env → R Bool) (elt : Env → R OV) (acc : List OV) (env : Env) : oneStep false cond elt acc env =
    (cond acc env).bd fun b env1 => if b = true then (elt env1).bd fun v env2 => if sizeB (acc.length + 1) = true then .ok (acc ++ [v]) env2 else .bad else .ok acc env1 := rfl
/-- the end of a def -/
def endF (F : Fn) : Ro → Rc
  | .next env => oc (outs F.io 0 F.ps env) (fun o => .ok (.fr .non) o) .bad
  | .ret v env => oc (outs F.io 0 F.ps env) (fun o => .ok v o) .bad
  | .exc x env => oc (outs F.io 0 F.ps env) (fun o => .exc x o) .bad
  | .bad => .bad
theorem runFn_eq (F : Fn) (as : List OV) (h : as.length = F.ps) : runFn C F as = endF F (Ev.execs { C with prot := F.io } F.body (as.map some ++ List.replicate (F.slots - F.ps) none)) := by
  unfold runFn endF
  rw [if_pos h]
  cases Ev.execs { C with prot := F.io } F.body (as.map some ++ List.replicate (F.slots - F.ps) none) with
  | bad => rfl
  | next env => simp only; cases outs F.io 0 F.ps env <;> rfl
  | ret v env => simp only; cases outs F.io 0 F.ps env <;> rfl
  | exc x env => simp only; cases outs F.io 0 F.ps env <;> rfl
theorem endF_ret (F : Fn) (v : OV) (env : Env) : endF F (.ret v env) = oc (outs F.io 0 F.ps env) (fun o => .ok v o) .bad := rfl
theorem endF_next (F : Fn) (env : Env) : endF F (.next env) = oc (outs F.io 0 F.ps env) (fun o => .ok (.fr .non) o) .bad := rfl
theorem endF_exc (F : Fn) (v : D) (env : Env) : endF F (.exc v env) = oc (outs F.io 0 F.ps env) (fun o => .exc v o) .bad := rfl
end
end Ev
/-! Px2: what an evaluation ends in: rules that look at the head. -/
namespace Ev
open PySem
section
variable {α β : Type}
structure WR (r : R α) (Q : α → Env → Prop) (X : D → Env → Prop) : Prop where
  out : match r with
    | .ok a e => Q a e
    | .exc x e => X x e
    | .bad => False
structure WO (o : Option α) (Q : α → Prop) : Prop where
  out : match o with
    | some a => Q a
    | none => False
structure WS (r : Ro) (N : Env → Prop) (T : OV → Env → Prop) (X : D → Env → Prop) : Prop where
  out : match r with
    | .next e => N e
    | .ret v e => T v e
    | .exc x e => X x e
    | .bad => False
structure WC (r : Rc) (Q : OV → List OV → Prop) (X : D → List OV → Prop) : Prop where
  out : match r with
    | .ok v o => Q v o
    | .exc x o => X x o
    | .bad => False
abbrev noX {γ : Type} : D → γ → Prop := fun _ _ => False
variable {Q : α → Env → Prop} {X : D → Env → Prop} {N : Env → Prop} {T : OV → Env → Prop}
theorem w_ok {a : α} {e : Env} (h : Q a e) : WR (R.ok a e) Q X := ⟨h⟩
theorem w_eq {r : R α} {a : α} {e : Env} (h : r = .ok a e) (q : Q a e) : WR r Q X := by rw [h]; exact ⟨q⟩
theorem w_some {a : α} {Q : α → Prop} (h : Q a) : WO (some a) Q := ⟨h⟩
theorem w_next {e : Env} (h : N e) : WS (.next e) N T X := ⟨h⟩
theorem w_ret {v : OV} {e : Env} (h : T v e) : WS (.ret v e) N T X := ⟨h⟩
theorem w_excS {v : D} {e : Env} (h : X v e) : WS (.exc v e) N T X := ⟨h⟩
theorem w_exc {v : D} {e : Env} (h : X v e) : WR (R.exc v e : R α) Q X := ⟨h⟩
theorem WR.imp {r : R α} {Q' : α → Env → Prop} {X' : D → Env → Prop} (h : WR r Q X) (k : ∀ a e, Q a e → Q' a e) (k2 : ∀ x e, X x e → X' x e) : WR r Q' X' := by
  cases r with
  | ok a e => exact ⟨k a e h.out⟩
  | exc x e => exact ⟨k2 x e h.out⟩
  | bad => exact h.out.elim
theorem WS.imp {r : Ro} {N' : Env → Prop} {T' : OV → Env → Prop} {X' : D → Env → Prop} (h : WS r N T X) (k : ∀ e, N e → N' e) (k1 : ∀ v e, T v e → T' v e) (k2 : ∀ x e, X x e → X' x e) : WS r N' T' X' := by
  cases r with
  | next e => exact ⟨k e h.out⟩
  | ret v e => exact ⟨k1 v e h.out⟩
  | exc x e => exact ⟨k2 x e h.out⟩
  | bad => exact h.out.elim
theorem WO.imp {o : Option α} {Q Q' : α → Prop} (h : WO o Q) (k : ∀ a, Q a → Q' a) : WO o Q' := by
  cases o with
  | some a => exact ⟨k a h.out⟩
  | none => exact h.out.elim
theorem w_ocN {o : Option Env} {g : Ro} (h : WO o N) : WS (oc o (fun e => .next e) g) N T X := by
  cases o with
  | some a => exact ⟨h.out⟩
  | none => exact h.out.elim
theorem w_bind {r : R β} {f : β → Env → R α} (h : WR r (fun a e => WR (f a e) Q X) X) : WR (r.bd f) Q X := by
  cases r with
  | ok a e => exact h.out
  | exc x e => exact ⟨h.out⟩
  | bad => exact h.out.elim
theorem w_thn {r : R β} {f : β → Env → Ro} (h : WR r (fun a e => WS (f a e) N T X) X) : WS (r.th f) N T X := by
  cases r with
  | ok a e => exact h.out
  | exc x e => exact ⟨h.out⟩
  | bad => exact h.out.elim
theorem w_seq {r : Ro} {f : Env → Ro} (h : WS r (fun e => WS (f e) N T X) T X) : WS (r.bd f) N T X := by
  cases r with
  | next e => exact h.out
  | ret v e => exact ⟨h.out⟩
  | exc x e => exact ⟨h.out⟩
  | bad => exact h.out.elim
theorem w_noexc {r : R α} (h : WR r Q noX) : WR r.noexc Q X := by
  cases r with
  | ok a e => exact ⟨h.out⟩
  | exc x e => exact h.out.elim
  | bad => exact h.out.elim
theorem w_oc {o : Option β} {f : β → R α} {g : R α} (h : WO o (fun a => WR (f a) Q X)) : WR (oc o f g) Q X := by
  cases o with
  | some a => exact h.out
  | none => exact h.out.elim
theorem w_ocS {o : Option β} {f : β → Ro} {g : Ro} (h : WO o (fun a => WS (f a) N T X)) : WS (oc o f g) N T X := by
  cases o with
  | some a => exact h.out
  | none => exact h.out.elim
theorem w_ocO {o : Option β} {f : β → Option α} {g : Option α} {Q : α → Prop} (h : WO o (fun a => WO (f a) Q)) : WO (oc o f g) Q := by
  cases o with
  | some a => exact h.out
  | none => exact h.out.elim
theorem w_if {c : Prop} [Decidable c] {a b : R α} (h1 : c → WR a Q X) (h2 : ¬ c → WR b Q X) : WR (if c then a else b) Q X := by
  split
  · exact h1 ‹_›
  · exact h2 ‹_›
theorem w_ifS {c : Prop} [Decidable c] {a b : Ro} (h1 : c → WS a N T X) (h2 : ¬ c → WS b N T X) : WS (if c then a else b) N T X := by
  split
  · exact h1 ‹_›
  · exact h2 ‹_›
theorem WC.imp {r : Rc} {Q Q' : OV → List OV → Prop} {X X' : D → List OV → Prop} (h : WC r Q X) (k : ∀ v o, Q v o → Q' v o) (k2 : ∀ v o, X v o → X' v o) : WC r Q' X' := by
  cases r with
  | ok a e => exact ⟨k a e h.out⟩
  | exc x e => exact ⟨k2 x e h.out⟩
  | bad => exact h.out.elim
theorem WC.ok {r : Rc} {Q : OV → List OV → Prop} (h : WC r Q noX) : ∃ v o, r = .ok v o ∧ Q v o := by
  cases r with
  | ok a e => exact ⟨a, e, rfl, h.out⟩
  | exc x e => exact h.out.elim
  | bad => exact h.out.elim
/-- a call's answer -/
theorem w_back {ps : List E} {env : Env} {rc : Rc} {Q : OV → Env → Prop} {Q0 : OV → List OV → Prop} {X0 : D → List OV → Prop} (h : WC rc Q0 X0) (k : ∀ r outs, Q0 r outs → WO (putPaths env ps outs) fun env' => Q r env') (k2 : ∀ x outs, X0 x outs → WO (putPaths env ps outs) fun env' => X x env') : WR (backR ps env rc) Q X := by
  cases rc with
  | ok r o =>
    rw [backR_ok]
    exact w_oc ((k r o h.out).imp fun _ z => w_ok z)
  | exc x o =>
    rw [backR_exc]
    exact w_oc ((k2 x o h.out).imp fun _ z => w_exc z)
  | bad => exact h.out.elim
variable {C : Cfg}
theorem x_nil {env : Env} (h : N env) : WS (Ev.execs C [] env) N T X := by rw [exs_nil]; exact w_next h
theorem x_cons {s : S} {ss : List S} {env : Env} (h : WS (Ev.exec C s env) (fun e => WS (Ev.execs C ss e) N T X) T X) : WS (Ev.execs C (s :: ss) env) N T X := by rw [exs_cons]; exact w_seq h
theorem x_pass {env : Env} (h : N env) : WS (Ev.exec C .pass env) N T X := by rw [ex_pass]; exact w_next h
theorem x_asg {i : Nat} {e : E} {env : Env} (h : WR (Ev.ev C e false env) (fun v env1 => WO (env1.put C.prot i v) N) X) : WS (Ev.exec C (.asg i e) env) N T X := by
  rw [ex_asg]
  exact w_thn (h.imp (fun _ _ q => w_ocN q) fun _ _ q => q)
theorem x_asgT {ts : List Nat} {e : E} {env : Env} (h : WR (Ev.ev C e false env) (fun v env1 => WO (unpack v ts.length) fun xs => WO (putAll C.prot ts (xs.map .fr) env1) N) X) : WS (Ev.exec C (.asgT ts e) env) N T X := by
  rw [ex_asgT]
  exact w_thn (h.imp (fun _ _ q => w_ocS (q.imp fun _ z => w_ocN z)) fun _ _ q => q)
theorem x_par {is : List Nat} {es : List E} {env : Env} (h : WR (Ev.evs C es false env) (fun vs env1 => WO (putAll C.prot is vs env1) N) X) : WS (Ev.exec C (.par is es) env) N T X := by
  rw [ex_par]
  exact w_thn (h.imp (fun _ _ q => w_ocN q) fun _ _ q => q)
def isDctO : OV → Bool
  | .dct _ => true
  | _ => false
/-- what d[k] = v leaves -/
def setIO (p : E) (v kd : OV) (env : Env) : Option Env := match kd with
  | .fr d => oc (pk env p) (fun o => if isDctO o = true then oc (setChild o d v) (fun o' => pput env o' p) none else none) none
  | _ => none
theorem setIO_fr (p : E) (v : OV) (d : D) (env : Env) : setIO p v (.fr d) env = oc (pk env p) (fun o => if isDctO o = true then oc (setChild o d v) (fun o' => pput env o' p) none else none) none := rfl
theorem setIR_O {p : E} {v kd : OV} {env : Env} (h : WO (setIO p v kd env) N) : WS (setIR p v kd env) N T X := by
  cases kd with
  | fr d =>
    rw [setIO_fr] at h
    rw [setIR_fr]
    cases hp : pk env p with
    | none => rw [hp] at h; exact h.out.elim
    | some o =>
      rw [hp] at h
      simp only [oc_some] at h ⊢
      cases o with
      | dct kvs =>
        simp only [isDctO, if_true] at h ⊢
        cases hs : setChild (.dct kvs) d v with
        | none => rw [hs] at h; exact h.out.elim
        | some o' =>
          rw [hs] at h
          simp only [oc_some] at h ⊢
          exact w_ocN h
      | _ => exact h.out.elim
  | _ => exact h.out.elim
theorem x_setI {p k e : E} {env : Env} (h : WR (Ev.ev C e false env) (fun v env1 => WO (pk env1 p) fun _ => WR (pkO k env1 (Ev.ev C k (match p with | .var _ => false | _ => true) env1)) (fun kd env2 => WO (setIO p v kd env2) N) X) X) : WS (Ev.exec C (.setI p k e) env) N T X := by
  rw [ex_setI]
  exact w_thn (h.imp (fun v env1 q => w_ocS (q.imp fun _ z => w_thn (z.imp (fun _ _ q => setIR_O q) fun _ _ q => q))) fun _ _ q => q)
theorem x_expr {e : E} {env : Env} (h : WR (Ev.ev C e false env) (fun _ env1 => N env1) X) : WS (Ev.exec C (.expr e) env) N T X := by
  rw [ex_expr]
  exact w_thn (h.imp (fun _ _ q => w_next q) fun _ _ q => q)
theorem x_ret {e : E} {env : Env} (h : WR (Ev.ev C e false env) T X) : WS (Ev.exec C (.ret e) env) N T X := by
  rw [ex_ret]
  exact w_thn (h.imp (fun _ _ q => w_ret q) fun _ _ q => q)
theorem x_retN {env : Env} (h : T (.fr .non) env) : WS (Ev.exec C .retN env) N T X := by
  rw [ex_retN]
  exact w_ret h
theorem x_ife {c : E} {a b : List S} {env : Env} (h : WR (Ev.test C c env) (fun t env1 => (t = true → WS (Ev.execs C a env1) N T X) ∧ (t = false → WS (Ev.execs C b env1) N T X)) X) : WS (Ev.exec C (.ife c a b) env) N T X := by
  rw [ex_ife]
  refine w_thn (h.imp (fun t env1 q => ?_) fun _ _ q => q)
  cases t with
  | true => exact q.1 rfl
  | false => exact q.2 rfl
theorem x_fore {t : Ev.T} {k : IK} {es : List E} {b : List S} {env : Env} (h : WR (Ev.evs C es false env) (fun vs env1 => WO (walkOf k (vs.map fun v => .fr v.view)) fun ds => WS (forL C.prot t (Ev.execs C b) ds env1) N T X) X) : WS (Ev.exec C (.fore t k es b) env) N T X := by
  rw [ex_fore]
  exact w_thn (h.imp (fun _ _ q => w_ocS q) fun _ _ q => q)
theorem x_for {prot : List Nat} {t : Ev.T} {body : Env → Ro} (I : List D → Env → Prop) : ∀ {ds pre : List D} {env : Env}, I pre env → (∀ pre' d post env, pre' ++ d :: post = pre ++ ds → I pre' env → WO (bindT prot t d env) fun env1 => WS (body env1) (fun env2 => I (pre' ++ [d]) env2) T X) → (∀ env, I (pre ++ ds) env → N env) → WS (forL prot t body ds env) N T X
  | [], pre, env, h0, hs, he => w_next (he env (by rw [List.append_nil]; exact h0))
  | d :: ds, pre, env, h0, hs, he => by
    rw [forL_cons]
    refine w_ocS (WO.imp (hs pre d ds env rfl h0) fun env1 z => ?_)
    refine w_seq (WS.imp z (fun env2 q => ?_) (fun _ _ q => q) fun _ _ q => q)
    exact x_for I (pre := pre ++ [d]) q (fun pre' d' post env e => hs pre' d' post env (by rw [e, List.append_assoc]; rfl)) fun env q => he env (by rw [List.append_assoc] at q; exact q)
/-- a def, run -/
theorem w_fn {F : Fn} {as : List OV} {Q : OV → List OV → Prop} {X0 : D → List OV → Prop} (hl : as.length = F.ps)
    (h : WS (Ev.execs { C with prot := F.io } F.body (as.map some ++ List.replicate (F.slots - F.ps) none)) (fun env => WO (outs F.io 0 F.ps env) (Q (.fr .non))) (fun v env => WO (outs F.io 0 F.ps env) (Q v)) (fun x env => WO (outs F.io 0 F.ps env) (X0 x))) : WC (runFn C F as) Q X0 := by
  rw [runFn_eq F as hl]
  revert h
  cases Ev.execs { C with prot := F.io } F.body (as.map some ++ List.replicate (F.slots - F.ps) none) with
  | next env =>
    intro h
    rw [endF_next]
    have h' : WO (outs F.io 0 F.ps env) (Q (.fr .non)) := h.out
    revert h'
    cases outs F.io 0 F.ps env with
    | none => exact fun z => z.out.elim
    | some o => exact fun z => ⟨z.out⟩
  | ret v env =>
    intro h
    rw [endF_ret]
    have h' : WO (outs F.io 0 F.ps env) (Q v) := h.out
    revert h'
    cases outs F.io 0 F.ps env with
    | none => exact fun z => z.out.elim
    | some o => exact fun z => ⟨z.out⟩
  | exc x env =>
    intro h
    rw [endF_exc]
    have h' : WO (outs F.io 0 F.ps env) (X0 x) := h.out
    revert h'
    cases outs F.io 0 F.ps env with
    | none => exact fun z => z.out.elim
    | some o => exact fun z => ⟨z.out⟩
  | bad => exact fun z => z.out.elim
theorem w_fnB {ps slots : Nat} {io : List Nat} {body : List S} {as : List OV} {Q : OV → List OV → Prop} {X0 : D → List OV → Prop} (hl : as.length = ps)
    (h : WS (Ev.execs { C with prot := io } body (as.map some ++ List.replicate (slots - ps) none)) (fun env => WO (outs io 0 ps env) (Q (.fr .non))) (fun v env => WO (outs io 0 ps env) (Q v)) (fun x env => WO (outs io 0 ps env) (X0 x))) : WC (runFn C ⟨ps, slots, io, body⟩ as) Q X0 := w_fn hl h
/-- the turns of a comprehension -/
theorem w_turns {prot is : List Nat} {t : Ev.T} {step : List OV → Env → R (List OV)} (I : List D → List OV → Env → Prop) {Q : List OV → Env → Prop} : ∀ {ds pre : List D} {acc : List OV} {env : Env}, I pre acc env →
    (∀ pre' d post acc env, pre' ++ d :: post = pre ++ ds → I pre' acc env → WO (bindT prot t d env) fun env1 => WR (step acc env1) (fun acc' env2 => I (pre' ++ [d]) acc' (wipeE env2 is)) noX) → (∀ acc env, I (pre ++ ds) acc env → Q acc env) → WR (turns prot is t step ds acc env) Q X
  | [], pre, acc, env, h0, hs, he => w_ok (he acc env (by rw [List.append_nil]; exact h0))
  | d :: ds, pre, acc, env, h0, hs, he => by
    rw [turns_cons]
    refine w_oc (WO.imp (hs pre d ds acc env rfl h0) fun env1 z => ?_)
    refine w_bind (w_noexc (WR.imp z (fun acc' env2 q => ?_) fun _ _ q => q))
    exact w_turns I (pre := pre ++ [d]) q (fun pre' d' post acc env e => hs pre' d' post acc env (by rw [e, List.append_assoc]; rfl)) fun acc env q => he acc env (by rw [List.append_assoc] at q; exact q)
end
end Ev
/-! Px3: the operators at known forms. -/
namespace Ev
open PySem
section
variable {C : Cfg} {es : List E} {n : Bool} {env : Env}
theorem ev_add : Ev.ev C (.op .add es) n env = (Ev.evps C es n env).bd fun vs env1 => R.of (opR .add vs) env1 := ev_op _ rfl _ _ _
theorem ev_sub : Ev.ev C (.op .sub es) n env = (Ev.evps C es n env).bd fun vs env1 => R.of (opR .sub vs) env1 := ev_op _ rfl _ _ _
theorem ev_mul : Ev.ev C (.op .mul es) n env = (Ev.evps C es n env).bd fun vs env1 => R.of (opR .mul vs) env1 := ev_op _ rfl _ _ _
theorem ev_mod : Ev.ev C (.op .mod es) n env = (Ev.evps C es n env).bd fun vs env1 => R.of (opR .mod vs) env1 := ev_op _ rfl _ _ _
theorem ev_fdiv : Ev.ev C (.op .fdiv es) n env = (Ev.evps C es n env).bd fun vs env1 => R.of (opR .fdiv vs) env1 := ev_op _ rfl _ _ _
theorem ev_pow : Ev.ev C (.op .pow es) n env = (Ev.evps C es n env).bd fun vs env1 => R.of (opR .pow vs) env1 := ev_op _ rfl _ _ _
theorem ev_neg : Ev.ev C (.op .neg es) n env = (Ev.evps C es n env).bd fun vs env1 => R.of (opR .neg vs) env1 := ev_op _ rfl _ _ _
theorem ev_eq : Ev.ev C (.op .eq es) n env = (Ev.evps C es n env).bd fun vs env1 => R.of (opR .eq vs) env1 := ev_op _ rfl _ _ _
theorem ev_ne : Ev.ev C (.op .ne es) n env = (Ev.evps C es n env).bd fun vs env1 => R.of (opR .ne vs) env1 := ev_op _ rfl _ _ _
theorem ev_lt : Ev.ev C (.op .lt es) n env = (Ev.evps C es n env).bd fun vs env1 => R.of (opR .lt vs) env1 := ev_op _ rfl _ _ _
theorem ev_le : Ev.ev C (.op .le es) n env = (Ev.evps C es n env).bd fun vs env1 => R.of (opR .le vs) env1 := ev_op _ rfl _ _ _
theorem ev_gt : Ev.ev C (.op .gt es) n env = (Ev.evps C es n env).bd fun vs env1 => R.of (opR .gt vs) env1 := ev_op _ rfl _ _ _
theorem ev_ge : Ev.ev C (.op .ge es) n env = (Ev.evps C es n env).bd fun vs env1 => R.of (opR .ge vs) env1 := ev_op _ rfl _ _ _
theorem ev_isin : Ev.ev C (.op .isin es) n env = (Ev.evps C es n env).bd fun vs env1 => R.of (opR .isin vs) env1 := ev_op _ rfl _ _ _
theorem ev_notin : Ev.ev C (.op .notin es) n env = (Ev.evps C es n env).bd fun vs env1 => R.of (opR .notin vs) env1 := ev_op _ rfl _ _ _
theorem ev_isN : Ev.ev C (.op .isN es) n env = (Ev.evps C es n env).bd fun vs env1 => R.of (opR .isN vs) env1 := ev_op _ rfl _ _ _
theorem ev_notN : Ev.ev C (.op .notN es) n env = (Ev.evps C es n env).bd fun vs env1 => R.of (opR .notN vs) env1 := ev_op _ rfl _ _ _
theorem ev_slice (lo hi : Bool) : Ev.ev C (.op (.slice lo hi) es) n env = (Ev.evps C es n env).bd fun vs env1 => R.of (opR (.slice lo hi) vs) env1 := ev_op _ rfl _ _ _
theorem ev_len : Ev.ev C (.op .len es) n env = (Ev.evps C es n env).bd fun vs env1 => R.of (opR .len vs) env1 := ev_op _ rfl _ _ _
theorem ev_int : Ev.ev C (.op .int es) n env = (Ev.evps C es n env).bd fun vs env1 => R.of (opR .int vs) env1 := ev_op _ rfl _ _ _
theorem ev_abs : Ev.ev C (.op .abs es) n env = (Ev.evps C es n env).bd fun vs env1 => R.of (opR .abs vs) env1 := ev_op _ rfl _ _ _
theorem ev_repr : Ev.ev C (.op .repr es) n env = (Ev.evps C es n env).bd fun vs env1 => R.of (opR .repr vs) env1 := ev_op _ rfl _ _ _
theorem ev_list : Ev.ev C (.op .list es) n env = (Ev.evps C es n env).bd fun vs env1 => R.of (opR .list vs) env1 := ev_op _ rfl _ _ _
theorem ev_tuple : Ev.ev C (.op .tuple es) n env = (Ev.evps C es n env).bd fun vs env1 => R.of (opR .tuple vs) env1 := ev_op _ rfl _ _ _
theorem ev_dict : Ev.ev C (.op .dict es) n env = (Ev.evps C es n env).bd fun vs env1 => R.of (opR .dict vs) env1 := ev_op _ rfl _ _ _
theorem ev_sorted : Ev.ev C (.op .sorted es) n env = (Ev.evps C es n env).bd fun vs env1 => R.of (opR .sorted vs) env1 := ev_op _ rfl _ _ _
theorem ev_sum : Ev.ev C (.op .sum es) n env = (Ev.evps C es n env).bd fun vs env1 => R.of (opR .sum vs) env1 := ev_op _ rfl _ _ _
theorem ev_all : Ev.ev C (.op .all es) n env = (Ev.evps C es n env).bd fun vs env1 => R.of (opR .all vs) env1 := ev_op _ rfl _ _ _
theorem ev_any : Ev.ev C (.op .any es) n env = (Ev.evps C es n env).bd fun vs env1 => R.of (opR .any vs) env1 := ev_op _ rfl _ _ _
theorem ev_min2 : Ev.ev C (.op .min2 es) n env = (Ev.evps C es n env).bd fun vs env1 => R.of (opR .min2 vs) env1 := ev_op _ rfl _ _ _
theorem ev_max2 : Ev.ev C (.op .max2 es) n env = (Ev.evps C es n env).bd fun vs env1 => R.of (opR .max2 vs) env1 := ev_op _ rfl _ _ _
theorem ev_get1 : Ev.ev C (.op .get1 es) n env = (Ev.evps C es n env).bd fun vs env1 => R.of (opR .get1 vs) env1 := ev_op _ rfl _ _ _
theorem ev_get2 : Ev.ev C (.op .get2 es) n env = (Ev.evps C es n env).bd fun vs env1 => R.of (opR .get2 vs) env1 := ev_op _ rfl _ _ _
end
section
variable {i j : Int} {a b : OV} {s t : Str} {xs ys : List D}
theorem truth_bl {b : Bool} : truth (.fr (.bl b)) = some b := rfl
theorem truth_int : truth (.fr (.int i)) = some (i != 0) := rfl
theorem truth_non : truth (.fr .non) = some false := rfl
theorem truth_lstF : truth (.fr (.lst xs)) = some (!xs.isEmpty) := rfl
theorem truth_tup : truth (.fr (.tup xs)) = some (!xs.isEmpty) := rfl
theorem truth_lst {xs : List OV} : truth (.lst xs) = some (!xs.isEmpty) := rfl
theorem o_add_ii : opR .add [.fr (.int i), .fr (.int j)] = some (.fr (.int (i + j))) := rfl
theorem o_sub_ii : opR .sub [.fr (.int i), .fr (.int j)] = some (.fr (.int (i - j))) := rfl
theorem o_mul_ii : opR .mul [.fr (.int i), .fr (.int j)] = if mulOk i j = true then some (.fr (.int (i * j))) else none := rfl
theorem o_mod_ii : opR .mod [.fr (.int i), .fr (.int j)] = if j ≠ 0 then some (.fr (.int (i.fmod j))) else none := by
  show (if decide (j ≠ 0) = true then _ else _) = _
  simp only [decide_eq_true_eq]
theorem o_fdiv_ii : opR .fdiv [.fr (.int i), .fr (.int j)] = if j ≠ 0 ∧ j.natAbs < 1073741824 then some (.fr (.int (i.fdiv j))) else none := by
  show (if decide _ = true then _ else _) = _
  simp only [decide_eq_true_eq]
theorem o_pow_ii : opR .pow [.fr (.int i), .fr (.int j)] = if 0 ≤ j ∧ j ≤ 1000 ∧ i.natAbs < 2 ^ 64 then some (.fr (.int (i ^ j.toNat))) else none := by
  show (if decide _ = true then _ else _) = _
  simp only [decide_eq_true_eq]
theorem o_neg_i : opR .neg [.fr (.int i)] = some (.fr (.int (-i))) := rfl
theorem o_eq_ab : opR .eq [a, b] = (eqD eqN a.view b.view).map fun r => .fr (.bl r) := by
  show (eqD eqN a.view b.view).map (fun r => OV.fr (.bl (r != false))) = _
  congr 1
  funext r
  cases r <;> rfl
theorem o_ne_ab : opR .ne [a, b] = (eqD eqN a.view b.view).map fun r => .fr (.bl (!r)) := by
  show (eqD eqN a.view b.view).map (fun r => OV.fr (.bl (r != true))) = _
  congr 1
  funext r
  cases r <;> rfl
theorem eqD_ii : eqD eqN (.int i) (.int j) = some (i == j) := rfl
theorem o_le_ii : opR .le [.fr (.int i), .fr (.int j)] = some (.fr (.bl (decide (i ≤ j)))) := rfl
theorem o_ge_ii : opR .ge [.fr (.int i), .fr (.int j)] = some (.fr (.bl (decide (j ≤ i)))) := rfl
theorem o_lt_ii : opR .lt [.fr (.int i), .fr (.int j)] = some (.fr (.bl (decide (i < j)))) := rfl
theorem o_gt_ii : opR .gt [.fr (.int i), .fr (.int j)] = some (.fr (.bl (decide (j < i)))) := rfl
theorem o_len_o {o : OV} : opR .len [o] = oc (lenOV o) (fun n => some (.fr (.int ((n : Nat) : Int)))) none := by
  show oLen [o] = _
  simp only [oLen]
  cases lenOV o <;> rfl
theorem o_int_i : opR .int [.fr (.int i)] = some (.fr (.int i)) := rfl
theorem o_abs_i : opR .abs [.fr (.int i)] = some (.fr (.int (if i < 0 then -i else i))) := rfl
theorem o_repr_o {o : OV} : opR .repr [o] = (reprD o.view).map fun s => .fr (.str s) := rfl
theorem o_min_ii : opR .min2 [.fr (.int i), .fr (.int j)] = some (.fr (.int (if j < i then j else i))) := rfl
theorem o_max_ii : opR .max2 [.fr (.int i), .fr (.int j)] = some (.fr (.int (if i < j then j else i))) := rfl
theorem o_isN_o {o : OV} : opR .isN [o] = some (.fr (.bl (isNon o))) := by
  show oIsN false [o] = _
  simp only [oIsN]
  cases isNon o <;> rfl
theorem o_notN_o {o : OV} : opR .notN [o] = some (.fr (.bl (!isNon o))) := by
  show oIsN true [o] = _
  simp only [oIsN]
  cases isNon o <;> rfl
theorem lenOV_lst {xs : List OV} : lenOV (.lst xs) = some xs.length := rfl
theorem lenOV_lstF : lenOV (.fr (.lst xs)) = some xs.length := rfl
theorem lenOV_tup : lenOV (.fr (.tup xs)) = some xs.length := rfl
theorem view_fr {d : D} : (OV.fr d).view = d := rfl
theorem view_lst {xs : List OV} : (OV.lst xs).view = .lst (views xs) := rfl
theorem walk_seq {o : OV} : walkOf .seq [o] = items o := rfl
theorem items_fl : items (.fr (.lst xs)) = some xs := rfl
theorem items_ft : items (.fr (.tup xs)) = some xs := rfl
theorem oLst_eq {xs : List OV} : oLst xs = if xs.length ≤ 1000000 then some (.lst xs) else none := by
  unfold oLst sizeB
  simp only [decide_eq_true_eq]
theorem mutS_lst {xs : List OV} : mutStart (some (.lst xs)) = true := rfl
theorem mut_pop0 {x : OV} {xs : List OV} : mutR .pop0 (.lst (x :: xs)) [] = some (x, .lst xs) := rfl
theorem mut_append {v : OV} {xs : List OV} : mutR .append (.lst xs) [v] = if xs.length + 1 ≤ 1000000 then some (.fr .non, .lst (xs ++ [v])) else none := by
  show (if sizeB (xs.length + 1) = true then _ else _) = _
  unfold sizeB
  simp only [decide_eq_true_eq]
theorem eqD_lnil {xs : List D} : eqD eqN (.lst xs) (.lst []) = some xs.isEmpty := by
  cases xs with
  | nil => rfl
  | cons x xs => rfl
theorem mulOk_r {i j : Int} (h : j.natAbs < 2 ^ 64) : mulOk i j = true := by
  unfold mulOk
  rw [decide_eq_true h, Bool.or_true]
theorem mulOk_l {i j : Int} (h : i.natAbs < 2 ^ 64) : mulOk i j = true := by
  unfold mulOk
  rw [decide_eq_true h, Bool.true_or]
theorem items_lst {xs : List OV} : items (.lst xs) = frs xs := rfl
theorem slots_nm {i : Nat} : T.slots (.nm i) = [i] := rfl
theorem wipe_nil {env : Env} : wipeE env [] = env := rfl
theorem wipe_cons {env : Env} {i : Nat} {is : List Nat} : wipeE env (i :: is) = wipeE (env.set i none) is := rfl
theorem sizeB_iff {n : Nat} : (sizeB n = true) = (n ≤ 1000000) := by
  unfold sizeB
  rw [decide_eq_true_eq]
theorem keyOf_op (env : Env) (o : Op) (es : List E) : keyOf env (.op o es) = none := rfl
theorem keyOf_call (env : Env) (f : String) (es : List E) : keyOf env (.call f es) = none := rfl
theorem keyOf_item (env : Env) (a b : E) : keyOf env (.item a b) = none := rfl
theorem keyOf_attr (env : Env) (a : E) (f : String) : keyOf env (.attr a f) = none := rfl
theorem keyOf_mv (env : Env) (i : Nat) : keyOf env (.mv i) = none := rfl
theorem keyOf_glo (env : Env) (x : String) (d : D) : keyOf env (.glo x d) = none := rfl
theorem views_mapfr {l : List D} : views (l.map OV.fr) = l := by
  induction l with
  | nil => rfl
  | cons x l ih => exact congrArg (x :: ·) ih
theorem walk_enumF {xs : List D} : walkOf .enum [.fr (.lst xs)] = some (xs.zipIdx.map fun p => .tup [.int p.2, p.1]) := rfl
theorem walk_range1 {n : Int} : walkOf .range1 [.fr (.int n)] = if numOk n = true then some (rangeD 0 n.toNat) else none := rfl
theorem bind_tup {prot : List Nat} {ts : List Ev.T} {ds : List D} {env : Env} : bindT prot (.tup ts) (.tup ds) env = bindTs prot ts ds env := rfl
theorem binds_nil {prot : List Nat} {env : Env} : bindTs prot [] [] env = some env := rfl
theorem binds_cons {prot : List Nat} {t : Ev.T} {ts : List Ev.T} {d : D} {ds : List D} {env : Env} : bindTs prot (t :: ts) (d :: ds) env = oc (bindT prot t d env) (bindTs prot ts ds) none := by
  rw [bindTs]
  cases bindT prot t d env <;> rfl
theorem isc_exn {c : Cfg} {k : String} {fs : List (String × D)} {cs : List String} : iscB c (.exn k fs) cs = cs.any (c.sub k) := rfl
theorem eqD_ss {a b : Str} : eqD eqN (.str a) (.str b) = some (a == b) := rfl
theorem views_nil : views [] = [] := rfl
theorem views_cons {x : OV} {xs : List OV} : views (x :: xs) = x.view :: views xs := rfl
theorem putAll_nil {prot : List Nat} {env : Env} : putAll prot [] [] env = some env := rfl
theorem putAll_cons {prot is : List Nat} {i : Nat} {v : OV} {vs : List OV} {env : Env} : putAll prot (i :: is) (v :: vs) env = oc (env.put prot i v) (putAll prot is vs) none := by
  simp only [putAll]
  cases env.put prot i v <;> rfl
theorem cfg_call {P : Prog} {fuel : Nat} {c : String → List OV → Rc} : (P.cfg fuel c).call = c := rfl
theorem cfg_sub {P : Prog} {fuel : Nat} {c : String → List OV → Rc} : (P.cfg fuel c).sub = P.sub := rfl
theorem cfg_io {P : Prog} {fuel : Nat} {c : String → List OV → Rc} : (P.cfg fuel c).io = P.io := rfl
theorem bind_nm {prot : List Nat} {k : Nat} {d : D} {env : Env} : bindT prot (.nm k) d env = env.put prot k (.fr d) := rfl
end
end Ev
set_option maxHeartbeats 0
namespace K00
open PySem PySem.Spec PyProof.Rows L2 Ev
def top (i : Nat) : Stmt := PySem.Challenge.pw_leftproducts_k00_errors_of_all_parts.main.body.getD i (.Pass ⟨0, 0, 0, 0⟩)
def f__law_begun : Fn := ⟨1, 3, [], [(.asg 1 (.comp (.op .sub [(.op .abs [(.var 2)]), (.op .pow [(.cst (.int 10)), (.cst (.int 18))])]) (.nm 2) .seq [(.var 0)] [(.op .ge [(.op .abs [(.var 2)]), (.op .pow [(.cst (.int 10)), (.cst (.int 18))])])])),
  (.ret (.op .dct [(.cst (.str "large")), (.mv 1), (.cst (.str "rest")), (.cst (.int 0)), (.cst (.str "cells")), (.comp (.op .abs [(.var 2)]) (.nm 2) .seq [(.var 0)] []), (.cst (.str "turn")), (.cst (.int 0))]))]⟩
def f__law_mixed : Fn := ⟨1, 6, [0], [(.setI (.var 0) (.cst (.str "turn")) (.op .add [(.item (.var 0) (.cst (.str "turn"))), (.cst (.int 1))])),
  (.par [2, 3] [(.op .int [(.item (.var 0) (.cst (.str "turn")))]), (.cst (.int 0))]),
  (.fore (.nm 1) .seq [(.op .lst [(.cst (.int 2147483629)), (.cst (.int 2147483587)), (.cst (.int 2147483579))])] [(.asg 4 (.op .mod [(.op .add [(.op .mul [(.var 2), (.cst (.int 69621))]), (.op .fdiv [(.var 1), (.cst (.int 7))])]), (.var 1)])),
  (.fore (.nm 5) .seq [(.item (.var 0) (.cst (.str "cells")))] [(.asg 4 (.op .mod [(.op .add [(.op .mul [(.var 4), (.cst (.int 48271))]), (.op .int [(.var 5)])]), (.var 1)]))]),
  (.asg 3 (.op .add [(.op .mul [(.var 3), (.cst (.int 2147483647))]), (.op .mod [(.op .pow [(.var 4), (.cst (.int 5))]), (.var 1)])]))]),
  (.ret (.mv 3))]⟩
def f__law_take : Fn := ⟨2, 3, [0], [(.ife (.op .eq [(.item (.var 0) (.cst (.str "rest"))), (.cst (.int 0))]) [(.setI (.var 0) (.cst (.str "rest")) (.ifx (.op .ne [(.item (.var 0) (.cst (.str "large"))), (.op .lst [])]) (.mut .pop0 (.item (.var 0) (.cst (.str "large"))) []) (.call "_law_mixed" [(.var 0)])))] []),
  (.asg 2 (.op .mod [(.op .int [(.item (.var 0) (.cst (.str "rest")))]), (.var 1)])),
  (.setI (.var 0) (.cst (.str "rest")) (.op .fdiv [(.op .int [(.item (.var 0) (.cst (.str "rest")))]), (.var 1)])),
  (.ret (.mv 2))]⟩
def f__law_pick : Fn := ⟨2, 2, [0], [(.ret (.item (.var 1) (.call "_law_take" [(.var 0), (.op .len [(.var 1)])])))]⟩
def f__law_any : Fn := ⟨1, 2, [0], [(.asg 1 (.op .lst [(.cst .non), (.cst (.bl false)), (.op .neg [(.cst (.int 5))]), (.op .pow [(.cst (.int 10)), (.cst (.int 45))]), (.cst (.str "")), (.cst (.str "wide")), (.cst (.str "two words")), (.op .lst []), (.op .lst [(.op .tup [(.cst (.int 0)), (.cst (.int 2))])]), (.op .tup []), (.op .tup [(.cst (.int 4))]), (.op .dct []), (.op .dct [(.cst (.str "a")), (.op .tup [(.cst (.int 1))])]), (.op .lst [(.op .lst [(.cst .non)])])])),
  (.ret (.call "_law_pick" [(.var 0), (.mv 1)]))]⟩
def f__law_kinds : Fn := ⟨1, 2, [], [(.asg 1 (.op .lst [])),
  (.asg 1 (.op .add [(.var 1), (.op .lst [(.isc (.var 0) ["BadPrime"]), (.isc (.var 0) ["BadRow"]), (.isc (.var 0) ["BadTable"])])])),
  (.asg 1 (.op .add [(.var 1), (.op .lst [(.isc (.var 0) ["BadChoice"]), (.isc (.var 0) ["BadWord"]), (.isc (.var 0) ["NotFrame"])])])),
  (.asg 1 (.op .add [(.var 1), (.op .lst [(.isc (.var 0) ["NotUndone"]), (.isc (.var 0) ["BadDeed"]), (.isc (.var 0) ["BadLive"])])])),
  (.asg 1 (.op .add [(.var 1), (.op .lst [(.isc (.var 0) ["BadName"]), (.isc (.var 0) ["NothingLeft"]), (.isc (.var 0) ["BadWords"])])])),
  (.asg 1 (.op .add [(.var 1), (.op .lst [(.isc (.var 0) ["BadEnd"]), (.isc (.var 0) ["NotOdd"]), (.isc (.var 0) ["BadRules"])])])),
  (.asg 1 (.op .add [(.var 1), (.op .lst [(.isc (.var 0) ["BadLengths"]), (.isc (.var 0) ["NotLeast"]), (.isc (.var 0) ["BadChange"])])])),
  (.asg 1 (.op .add [(.var 1), (.op .lst [(.isc (.var 0) ["BadNumber"]), (.isc (.var 0) ["BadFrame"]), (.isc (.var 0) ["TooMany"])])])),
  (.asg 1 (.op .add [(.var 1), (.op .lst [(.isc (.var 0) ["BadMany"]), (.isc (.var 0) ["BadLead"]), (.isc (.var 0) ["BadText"])])])),
  (.asg 1 (.op .add [(.var 1), (.op .lst [(.isc (.var 0) ["NoWatch"])])])),
  (.ret (.mv 1))]⟩
def f__law_plain_errors : Fn := ⟨1, 2, [], [(.asg 1 (.op .lst [])),
  (.asg 1 (.op .add [(.var 1), (.op .lst [(.call "BadPrime" [(.var 0)]), (.call "BadRow" [(.var 0)]), (.call "BadTable" [(.var 0)]), (.call "BadChoice" [(.var 0)])])])),
  (.asg 1 (.op .add [(.var 1), (.op .lst [(.call "BadWord" [(.var 0)]), (.call "NotFrame" [(.var 0)]), (.call "NotUndone" [(.var 0)]), (.call "BadDeed" [(.var 0)])])])),
  (.asg 1 (.op .add [(.var 1), (.op .lst [(.call "BadLive" [(.var 0)]), (.call "BadName" [(.var 0)]), (.call "NothingLeft" [(.var 0)]), (.call "BadWords" [(.var 0)])])])),
  (.asg 1 (.op .add [(.var 1), (.op .lst [(.call "BadEnd" [(.var 0)]), (.call "NotOdd" [(.var 0)]), (.call "BadRules" [(.var 0)]), (.call "BadLengths" [(.var 0)])])])),
  (.asg 1 (.op .add [(.var 1), (.op .lst [(.call "NotLeast" [(.var 0)]), (.call "BadChange" [(.var 0)])])])),
  (.ret (.mv 1))]⟩
def f__law_errors_of : Fn := ⟨1, 2, [], [(.asg 1 (.op .lst [])),
  (.expr (.mut .append (.var 1) [(.op .tup [(.call "BadNumber" [(.var 0)]), (.attr (.call "BadNumber" [(.var 0)]) "part"), (.attr (.callk "BadNumber" [] [("part", (.var 0))]) "part")])])),
  (.expr (.mut .append (.var 1) [(.op .tup [(.call "BadFrame" [(.var 0)]), (.attr (.call "BadFrame" [(.var 0)]) "part"), (.attr (.callk "BadFrame" [] [("part", (.var 0))]) "part")])])),
  (.expr (.mut .append (.var 1) [(.op .tup [(.call "TooMany" [(.var 0)]), (.attr (.call "TooMany" [(.var 0)]) "most"), (.attr (.callk "TooMany" [] [("most", (.var 0))]) "most")])])),
  (.expr (.mut .append (.var 1) [(.op .tup [(.call "BadMany" [(.var 0)]), (.attr (.call "BadMany" [(.var 0)]) "part"), (.attr (.callk "BadMany" [] [("part", (.var 0))]) "part")])])),
  (.expr (.mut .append (.var 1) [(.op .tup [(.call "BadLead" [(.var 0)]), (.attr (.call "BadLead" [(.var 0)]) "part"), (.attr (.callk "BadLead" [] [("part", (.var 0))]) "part")])])),
  (.expr (.mut .append (.var 1) [(.op .tup [(.call "BadText" [(.var 0)]), (.attr (.call "BadText" [(.var 0)]) "at"), (.attr (.callk "BadText" [] [("at", (.var 0))]) "at")])])),
  (.expr (.mut .append (.var 1) [(.op .tup [(.call "NoWatch" [(.var 0)]), (.attr (.call "NoWatch" [(.var 0)]) "name"), (.attr (.callk "NoWatch" [] [("name", (.var 0))]) "name")])])),
  (.ret (.mv 1))]⟩
def f_law : Fn := ⟨1, 11, [], [(.asg 1 (.call "_law_begun" [(.var 0)])),
  (.par [5, 6] [(.call "_law_pick" [(.var 1), (.op .lst [(.cst (.str "")), (.cst (.str "w")), (.cst (.str "nothing of the kind"))])]), (.call "_law_any" [(.var 1)])]),
  (.asg 2 (.call "_law_errors_of" [(.var 6)])),
  (.asg 3 (.op .add [(.call "_law_plain_errors" [(.var 5)]), (.comp (.item (.var 9) (.cst (.int 0))) (.nm 9) .seq [(.var 2)] [])])),
  (.fore (.tup [(.nm 7), (.nm 8)]) .enum [(.var 3)] [(.ife (.op .ne [(.call "_law_kinds" [(.var 8)]), (.comp (.op .eq [(.var 10), (.var 7)]) (.nm 10) .range1 [(.cst (.int 25))] [])]) [(.ret (.cst (.bl false)))] []),
  (.ife (.or (.not (.isc (.var 8) ["LeftError"])) (.not (.isc (.var 8) ["ValueError"]))) [(.ret (.cst (.bl false)))] [])]),
  (.ife (.op .ne [(.comp (.cst (.int 1)) (.nm 9) .seq [(.var 2)] [(.op .ne [(.op .repr [(.op .lst [(.item (.var 9) (.cst (.int 1))), (.item (.var 9) (.cst (.int 2)))])]), (.op .repr [(.op .lst [(.var 6), (.var 6)])])])]), (.op .lst [])]) [(.ret (.cst (.bl false)))] []),
  (.asg 4 (.call "LeftError" [(.cst (.str "w"))])),
  (.ret (.and (.op .notin [(.cst (.bl true)), (.call "_law_kinds" [(.var 4)])]) (.isc (.var 4) ["ValueError"])))]⟩
def fns : List (String × Fn) := [("_law_begun", f__law_begun),
 ("_law_mixed", f__law_mixed),
 ("_law_take", f__law_take),
 ("_law_pick", f__law_pick),
 ("_law_any", f__law_any),
 ("_law_kinds", f__law_kinds),
 ("_law_plain_errors", f__law_plain_errors),
 ("_law_errors_of", f__law_errors_of),
 ("law", f_law)]
def cls : List (String × Cl) := [("LeftError", .plain),
 ("BadPrime", .plain),
 ("BadNumber", .exc ["part"]),
 ("BadFrame", .exc ["part"]),
 ("BadRow", .plain),
 ("BadTable", .plain),
 ("BadChoice", .plain),
 ("TooMany", .exc ["most"]),
 ("BadMany", .exc ["part"]),
 ("BadLead", .exc ["part"]),
 ("BadWord", .plain),
 ("NotFrame", .plain),
 ("NotUndone", .plain),
 ("BadDeed", .plain),
 ("BadLive", .plain),
 ("BadName", .plain),
 ("BadText", .exc ["at"]),
 ("NoWatch", .exc ["name"]),
 ("NothingLeft", .plain),
 ("BadWords", .plain),
 ("BadEnd", .plain),
 ("NotOdd", .plain),
 ("BadRules", .plain),
 ("BadLengths", .plain),
 ("NotLeast", .plain),
 ("BadChange", .plain)]
def mro : List (String × List String) := [("LeftError", ["LeftError", "ValueError", "Exception"]),
 ("BadPrime", ["BadPrime", "LeftError", "ValueError", "Exception"]),
 ("BadNumber", ["BadNumber", "LeftError", "ValueError", "Exception"]),
 ("BadFrame", ["BadFrame", "LeftError", "ValueError", "Exception"]),
 ("BadRow", ["BadRow", "LeftError", "ValueError", "Exception"]),
 ("BadTable", ["BadTable", "LeftError", "ValueError", "Exception"]),
 ("BadChoice", ["BadChoice", "LeftError", "ValueError", "Exception"]),
 ("TooMany", ["TooMany", "LeftError", "ValueError", "Exception"]),
 ("BadMany", ["BadMany", "LeftError", "ValueError", "Exception"]),
 ("BadLead", ["BadLead", "LeftError", "ValueError", "Exception"]),
 ("BadWord", ["BadWord", "LeftError", "ValueError", "Exception"]),
 ("NotFrame", ["NotFrame", "LeftError", "ValueError", "Exception"]),
 ("NotUndone", ["NotUndone", "LeftError", "ValueError", "Exception"]),
 ("BadDeed", ["BadDeed", "LeftError", "ValueError", "Exception"]),
 ("BadLive", ["BadLive", "LeftError", "ValueError", "Exception"]),
 ("BadName", ["BadName", "LeftError", "ValueError", "Exception"]),
 ("BadText", ["BadText", "LeftError", "ValueError", "Exception"]),
 ("NoWatch", ["NoWatch", "LeftError", "ValueError", "Exception"]),
 ("NothingLeft", ["NothingLeft", "LeftError", "ValueError", "Exception"]),
 ("BadWords", ["BadWords", "LeftError", "ValueError", "Exception"]),
 ("BadEnd", ["BadEnd", "LeftError", "ValueError", "Exception"]),
 ("NotOdd", ["NotOdd", "LeftError", "ValueError", "Exception"]),
 ("BadRules", ["BadRules", "LeftError", "ValueError", "Exception"]),
 ("BadLengths", ["BadLengths", "LeftError", "ValueError", "Exception"]),
 ("NotLeast", ["NotLeast", "LeftError", "ValueError", "Exception"]),
 ("BadChange", ["BadChange", "LeftError", "ValueError", "Exception"])]
def prog : Prog := ⟨fns, cls, mro⟩
def L : Lw := ⟨["LeftError", "BadPrime", "BadRow", "BadTable", "BadChoice", "BadWord", "NotFrame", "NotUndone", "BadDeed", "BadLive", "BadName", "NothingLeft", "BadWords", "BadEnd", "NotOdd", "BadRules", "BadLengths", "NotLeast", "BadChange"], [("BadNumber", "part"), ("BadFrame", "part"), ("TooMany", "most"), ("BadMany", "part"), ("BadLead", "part"), ("BadText", "at"), ("NoWatch", "name")], [], ["at", "most", "name", "part"], ["NoWatch", "BadText", "BadLead", "BadMany", "TooMany", "BadFrame", "BadNumber", "BadChange", "NotLeast", "BadLengths", "BadRules", "NotOdd", "BadEnd", "BadWords", "NothingLeft", "BadName", "BadLive", "BadDeed", "NotUndone", "NotFrame", "BadWord", "BadChoice", "BadTable", "BadRow", "BadPrime", "ValueError", "LeftError"], ["super", "abs", "int", "len", "isinstance", "ValueError", "repr", "enumerate", "range"], prog.sub⟩
theorem own_P {c : String} (h : c ∈ L.excP) : c ∈ L.own := exc_own (List.mem_append_left _ h)
theorem own_I {c f : String} (h : (c, f) ∈ L.excI) : c ∈ L.own := exc_own (List.mem_append_right _ (List.mem_map.mpr ⟨_, h, rfl⟩))
theorem fr_super : ("super" : Str) ∈ L.free := List.mem_of_getElem? (i := 0) rfl
theorem fr_abs : ("abs" : Str) ∈ L.free := List.mem_of_getElem? (i := 1) rfl
theorem fr_int : ("int" : Str) ∈ L.free := List.mem_of_getElem? (i := 2) rfl
theorem fr_len : ("len" : Str) ∈ L.free := List.mem_of_getElem? (i := 3) rfl
theorem fr_isinstance : ("isinstance" : Str) ∈ L.free := List.mem_of_getElem? (i := 4) rfl
theorem fr_ValueError : ("ValueError" : Str) ∈ L.free := List.mem_of_getElem? (i := 5) rfl
theorem fr_repr : ("repr" : Str) ∈ L.free := List.mem_of_getElem? (i := 6) rfl
theorem fr_enumerate : ("enumerate" : Str) ∈ L.free := List.mem_of_getElem? (i := 7) rfl
theorem fr_range : ("range" : Str) ∈ L.free := List.mem_of_getElem? (i := 8) rfl
theorem fl_at : "at" ∈ L.flds := List.mem_of_getElem? (i := 0) rfl
theorem fl_most : "most" ∈ L.flds := List.mem_of_getElem? (i := 1) rfl
theorem fl_name : "name" ∈ L.flds := List.mem_of_getElem? (i := 2) rfl
theorem fl_part : "part" ∈ L.flds := List.mem_of_getElem? (i := 3) rfl
theorem mP_LeftError : "LeftError" ∈ L.excP := List.mem_of_getElem? (i := 0) rfl
theorem mo_LeftError : "LeftError" ∈ L.own := own_P mP_LeftError
theorem mP_BadPrime : "BadPrime" ∈ L.excP := List.mem_of_getElem? (i := 1) rfl
theorem mo_BadPrime : "BadPrime" ∈ L.own := own_P mP_BadPrime
theorem mP_BadRow : "BadRow" ∈ L.excP := List.mem_of_getElem? (i := 2) rfl
theorem mo_BadRow : "BadRow" ∈ L.own := own_P mP_BadRow
theorem mP_BadTable : "BadTable" ∈ L.excP := List.mem_of_getElem? (i := 3) rfl
theorem mo_BadTable : "BadTable" ∈ L.own := own_P mP_BadTable
theorem mP_BadChoice : "BadChoice" ∈ L.excP := List.mem_of_getElem? (i := 4) rfl
theorem mo_BadChoice : "BadChoice" ∈ L.own := own_P mP_BadChoice
theorem mP_BadWord : "BadWord" ∈ L.excP := List.mem_of_getElem? (i := 5) rfl
theorem mo_BadWord : "BadWord" ∈ L.own := own_P mP_BadWord
theorem mP_NotFrame : "NotFrame" ∈ L.excP := List.mem_of_getElem? (i := 6) rfl
theorem mo_NotFrame : "NotFrame" ∈ L.own := own_P mP_NotFrame
theorem mP_NotUndone : "NotUndone" ∈ L.excP := List.mem_of_getElem? (i := 7) rfl
theorem mo_NotUndone : "NotUndone" ∈ L.own := own_P mP_NotUndone
theorem mP_BadDeed : "BadDeed" ∈ L.excP := List.mem_of_getElem? (i := 8) rfl
theorem mo_BadDeed : "BadDeed" ∈ L.own := own_P mP_BadDeed
theorem mP_BadLive : "BadLive" ∈ L.excP := List.mem_of_getElem? (i := 9) rfl
theorem mo_BadLive : "BadLive" ∈ L.own := own_P mP_BadLive
theorem mP_BadName : "BadName" ∈ L.excP := List.mem_of_getElem? (i := 10) rfl
theorem mo_BadName : "BadName" ∈ L.own := own_P mP_BadName
theorem mP_NothingLeft : "NothingLeft" ∈ L.excP := List.mem_of_getElem? (i := 11) rfl
theorem mo_NothingLeft : "NothingLeft" ∈ L.own := own_P mP_NothingLeft
theorem mP_BadWords : "BadWords" ∈ L.excP := List.mem_of_getElem? (i := 12) rfl
theorem mo_BadWords : "BadWords" ∈ L.own := own_P mP_BadWords
theorem mP_BadEnd : "BadEnd" ∈ L.excP := List.mem_of_getElem? (i := 13) rfl
theorem mo_BadEnd : "BadEnd" ∈ L.own := own_P mP_BadEnd
theorem mP_NotOdd : "NotOdd" ∈ L.excP := List.mem_of_getElem? (i := 14) rfl
theorem mo_NotOdd : "NotOdd" ∈ L.own := own_P mP_NotOdd
theorem mP_BadRules : "BadRules" ∈ L.excP := List.mem_of_getElem? (i := 15) rfl
theorem mo_BadRules : "BadRules" ∈ L.own := own_P mP_BadRules
theorem mP_BadLengths : "BadLengths" ∈ L.excP := List.mem_of_getElem? (i := 16) rfl
theorem mo_BadLengths : "BadLengths" ∈ L.own := own_P mP_BadLengths
theorem mP_NotLeast : "NotLeast" ∈ L.excP := List.mem_of_getElem? (i := 17) rfl
theorem mo_NotLeast : "NotLeast" ∈ L.own := own_P mP_NotLeast
theorem mP_BadChange : "BadChange" ∈ L.excP := List.mem_of_getElem? (i := 18) rfl
theorem mo_BadChange : "BadChange" ∈ L.own := own_P mP_BadChange
theorem mI_BadNumber : ("BadNumber", "part") ∈ L.excI := List.mem_of_getElem? (i := 0) rfl
theorem mo_BadNumber : "BadNumber" ∈ L.own := own_I mI_BadNumber
theorem mI_BadFrame : ("BadFrame", "part") ∈ L.excI := List.mem_of_getElem? (i := 1) rfl
theorem mo_BadFrame : "BadFrame" ∈ L.own := own_I mI_BadFrame
theorem mI_TooMany : ("TooMany", "most") ∈ L.excI := List.mem_of_getElem? (i := 2) rfl
theorem mo_TooMany : "TooMany" ∈ L.own := own_I mI_TooMany
theorem mI_BadMany : ("BadMany", "part") ∈ L.excI := List.mem_of_getElem? (i := 3) rfl
theorem mo_BadMany : "BadMany" ∈ L.own := own_I mI_BadMany
theorem mI_BadLead : ("BadLead", "part") ∈ L.excI := List.mem_of_getElem? (i := 4) rfl
theorem mo_BadLead : "BadLead" ∈ L.own := own_I mI_BadLead
theorem mI_BadText : ("BadText", "at") ∈ L.excI := List.mem_of_getElem? (i := 5) rfl
theorem mo_BadText : "BadText" ∈ L.own := own_I mI_BadText
theorem mI_NoWatch : ("NoWatch", "name") ∈ L.excI := List.mem_of_getElem? (i := 6) rfl
theorem mo_NoWatch : "NoWatch" ∈ L.own := own_I mI_NoWatch
theorem mi_NoWatch : "NoWatch" ∈ L.isas := List.mem_of_getElem? (i := 0) rfl
theorem mi_BadText : "BadText" ∈ L.isas := List.mem_of_getElem? (i := 1) rfl
theorem mi_BadLead : "BadLead" ∈ L.isas := List.mem_of_getElem? (i := 2) rfl
theorem mi_BadMany : "BadMany" ∈ L.isas := List.mem_of_getElem? (i := 3) rfl
theorem mi_TooMany : "TooMany" ∈ L.isas := List.mem_of_getElem? (i := 4) rfl
theorem mi_BadFrame : "BadFrame" ∈ L.isas := List.mem_of_getElem? (i := 5) rfl
theorem mi_BadNumber : "BadNumber" ∈ L.isas := List.mem_of_getElem? (i := 6) rfl
theorem mi_BadChange : "BadChange" ∈ L.isas := List.mem_of_getElem? (i := 7) rfl
theorem mi_NotLeast : "NotLeast" ∈ L.isas := List.mem_of_getElem? (i := 8) rfl
theorem mi_BadLengths : "BadLengths" ∈ L.isas := List.mem_of_getElem? (i := 9) rfl
theorem mi_BadRules : "BadRules" ∈ L.isas := List.mem_of_getElem? (i := 10) rfl
theorem mi_NotOdd : "NotOdd" ∈ L.isas := List.mem_of_getElem? (i := 11) rfl
theorem mi_BadEnd : "BadEnd" ∈ L.isas := List.mem_of_getElem? (i := 12) rfl
theorem mi_BadWords : "BadWords" ∈ L.isas := List.mem_of_getElem? (i := 13) rfl
theorem mi_NothingLeft : "NothingLeft" ∈ L.isas := List.mem_of_getElem? (i := 14) rfl
theorem mi_BadName : "BadName" ∈ L.isas := List.mem_of_getElem? (i := 15) rfl
theorem mi_BadLive : "BadLive" ∈ L.isas := List.mem_of_getElem? (i := 16) rfl
theorem mi_BadDeed : "BadDeed" ∈ L.isas := List.mem_of_getElem? (i := 17) rfl
theorem mi_NotUndone : "NotUndone" ∈ L.isas := List.mem_of_getElem? (i := 18) rfl
theorem mi_NotFrame : "NotFrame" ∈ L.isas := List.mem_of_getElem? (i := 19) rfl
theorem mi_BadWord : "BadWord" ∈ L.isas := List.mem_of_getElem? (i := 20) rfl
theorem mi_BadChoice : "BadChoice" ∈ L.isas := List.mem_of_getElem? (i := 21) rfl
theorem mi_BadTable : "BadTable" ∈ L.isas := List.mem_of_getElem? (i := 22) rfl
theorem mi_BadRow : "BadRow" ∈ L.isas := List.mem_of_getElem? (i := 23) rfl
theorem mi_BadPrime : "BadPrime" ∈ L.isas := List.mem_of_getElem? (i := 24) rfl
theorem mi_ValueError : "ValueError" ∈ L.isas := List.mem_of_getElem? (i := 25) rfl
theorem mi_LeftError : "LeftError" ∈ L.isas := List.mem_of_getElem? (i := 26) rfl
/-! ### the defs' bodies -/
section
variable {P : Program} {w : World} {K : PySem.W.Frag} {mg : Str → Option Value} {base : Heap} {f : Addr} {cdv : Value} {A : Around} {outer : List PySem.Env} {s : Shared} {H : Hp} {W0 : XK} {Pn : List (Nat × V)} {call : String → List OV → Rc} {kk fuel : Nat}
abbrev Cc (fuel : Nat) (call : String → List OV → Rc) (io : List Nat) : Cfg := { prog.cfg fuel call with prot := io }
abbrev Xof (P : Program) (w : World) (K : PySem.W.Frag) (mg : Str → Option Value) (base : Heap) (N : List Str) (q : Str) (st : Stmt) (f : Addr) (cdv : Value) (A : Around) (outer : List PySem.Env) (s : Shared) (H : Hp) (E : XK) : Cx := cxOf (CX P w) P w K mg base N q (defScope st) f cdv A outer s H E
theorem b__law_begun (h : HX L w K (Xof P w K mg base ["_law_script", "_law_large", "_law_grain"] "_law_begun" (top 28) f cdv A outer s H W0)) (g : GX (Xof P w K mg base ["_law_script", "_law_large", "_law_grain"] "_law_begun" (top 28) f cdv A outer s H W0) (L.wd w K)) (tk : Takes (Xof P w K mg base ["_law_script", "_law_large", "_law_grain"] "_law_begun" (top 28) f cdv A outer s H W0) (W1 W0)) (hr : Room kk (Xof P w K mg base ["_law_script", "_law_large", "_law_grain"] "_law_begun" (top 28) f cdv A outer s H W0).A) (hr2 : Room 2 (Xof P w K mg base ["_law_script", "_law_large", "_law_grain"] "_law_begun" (top 28) f cdv A outer s H W0).A) (hex : ∀ f as r, prog.excMake f as = some r → call f as = r) (hP : ∀ p ∈ Pn, p.1 ∈ ([] : List Nat)) : OkSs (Xof P w K mg base ["_law_script", "_law_large", "_law_grain"] "_law_begun" (top 28) f cdv A outer s H W0) (L.wd w K) (Cc fuel call []) (W1 W0) Pn (defBody (top 28)) f__law_begun.body := by
  have hN : (["_law_script", "_law_large", "_law_grain"] : List PySem.Str).Nodup := by decide
  exact (OkSs.cons (ok_asgC g hP hN (by rfl) (by rfl) (by rfl) (oki_seq g (ok_var g (at_var (i := 0) (by rfl) (by first | exact .inl rfl | exact .inr (.inl rfl) | exact .inr (.inr rfl)) (by rfl) (by rfl)) (fun _ => (by rfl)))) (own := [("_law_grain", 2)]) (blkOk_by (by rfl)) (by rfl) ⟨fun _ _ _ _ _ => (okg_name (fun _ z => by cases z) hN (by rfl) (by first | exact .inl rfl | exact .inr rfl) (by first | exact .inl rfl | exact .inr rfl)), fun _ _ _ _ _ => (pts_cond (OkE.t (ok_cmp g.blk (by rfl) (v_ge) (ok_callB g.blk c_abs (by rfl) (h.blk.free fr_abs) (by rfl) (OkA.cons (ok_var g.blk (at_var (i := 2) (by rfl) (by first | exact .inl rfl | exact .inr (.inl rfl) | exact .inr (.inr rfl)) (by rfl) (by rfl)) (fun _ => (by rfl))) (fun _ _ => (by rfl)) OkA.nil) (by decide) (by rfl) (fun _ _ => (by rfl))) (ok_bin g.blk (v_pow) (ok_cst g.blk pe_int (fun _ _ => (by rfl)) (fun _ => (by rfl))) (ok_cst g.blk pe_int (fun _ _ => (by rfl)) (fun _ => (by rfl))) (fun _ _ => (by rfl))) (fun _ _ => (by rfl)) (by rfl)) false)), fun _ _ _ _ _ => (OkE.ve (ok_bin g.blk (v_sub) (ok_callB g.blk c_abs (by rfl) (h.blk.free fr_abs) (by rfl) (OkA.cons (ok_var g.blk (at_var (i := 2) (by rfl) (by first | exact .inl rfl | exact .inr (.inl rfl) | exact .inr (.inr rfl)) (by rfl) (by rfl)) (fun _ => (by rfl))) (fun _ _ => (by rfl)) OkA.nil) (by decide) (by rfl) (fun _ _ => (by rfl))) (ok_bin g.blk (v_pow) (ok_cst g.blk pe_int (fun _ _ => (by rfl)) (fun _ => (by rfl))) (ok_cst g.blk pe_int (fun _ _ => (by rfl)) (fun _ => (by rfl))) (fun _ _ => (by rfl))) (fun _ _ => (by rfl))) false)⟩ (fun _ => (by rfl)))
  (OkSs.cons (ok_ret (OkE.ve (ok_dct g (OkD.cons (ok_cst g pe_str (fun _ _ => (by rfl)) (fun _ => (by rfl))) (ok_mv g (pe_var (i := 1) (by rfl) (by first | exact .inl rfl | exact .inr (.inl rfl) | exact .inr (.inr rfl)) (by rfl) (by rfl)) (fun _ => (by rfl))) (OkD.cons (ok_cst g pe_str (fun _ _ => (by rfl)) (fun _ => (by rfl))) (ok_cst g pe_int (fun _ _ => (by rfl)) (fun _ => (by rfl))) (OkD.cons (ok_cst g pe_str (fun _ _ => (by rfl)) (fun _ => (by rfl))) (ok_comp g hN (oki_seq g (ok_var g (at_var (i := 0) (by rfl) (by first | exact .inl rfl | exact .inr (.inl rfl) | exact .inr (.inr rfl)) (by rfl) (by rfl)) (fun _ => (by rfl)))) (own := [("_law_grain", 2)]) (blkOk_by (by rfl)) (by rfl) ⟨fun _ _ _ _ _ => (okg_name (fun _ z => by cases z) hN (by rfl) (by first | exact .inl rfl | exact .inr rfl) (by first | exact .inl rfl | exact .inr rfl)), fun _ _ _ _ _ => pts_none, fun _ _ _ _ _ => (OkE.ve (ok_callB g.blk c_abs (by rfl) (h.blk.free fr_abs) (by rfl) (OkA.cons (ok_var g.blk (at_var (i := 2) (by rfl) (by first | exact .inl rfl | exact .inr (.inl rfl) | exact .inr (.inr rfl)) (by rfl) (by rfl)) (fun _ => (by rfl))) (fun _ _ => (by rfl)) OkA.nil) (by decide) (by rfl) (fun _ _ => (by rfl))) false)⟩ (fun _ => (by rfl))) (OkD.cons (ok_cst g pe_str (fun _ _ => (by rfl)) (fun _ => (by rfl))) (ok_cst g pe_int (fun _ _ => (by rfl)) (fun _ => (by rfl))) OkD.nil)))) (by simp) (by decide)) false))
  OkSs.nil))
theorem b__law_mixed (h : HX L w K (Xof P w K mg base ["_law_draw", "_law_great", "_law_turn", "_law_found", "_law_blend", "_law_grain"] "_law_mixed" (top 29) f cdv A outer s H W0)) (g : GX (Xof P w K mg base ["_law_draw", "_law_great", "_law_turn", "_law_found", "_law_blend", "_law_grain"] "_law_mixed" (top 29) f cdv A outer s H W0) (L.wd w K)) (tk : Takes (Xof P w K mg base ["_law_draw", "_law_great", "_law_turn", "_law_found", "_law_blend", "_law_grain"] "_law_mixed" (top 29) f cdv A outer s H W0) (W1 W0)) (hr : Room kk (Xof P w K mg base ["_law_draw", "_law_great", "_law_turn", "_law_found", "_law_blend", "_law_grain"] "_law_mixed" (top 29) f cdv A outer s H W0).A) (hr2 : Room 2 (Xof P w K mg base ["_law_draw", "_law_great", "_law_turn", "_law_found", "_law_blend", "_law_grain"] "_law_mixed" (top 29) f cdv A outer s H W0).A) (hex : ∀ f as r, prog.excMake f as = some r → call f as = r) (hP : ∀ p ∈ Pn, p.1 ∈ ([0] : List Nat)) : OkSs (Xof P w K mg base ["_law_draw", "_law_great", "_law_turn", "_law_found", "_law_blend", "_law_grain"] "_law_mixed" (top 29) f cdv A outer s H W0) (L.wd w K) (Cc fuel call [0]) (W1 W0) Pn (defBody (top 29)) f__law_mixed.body := by
  have hN : (["_law_draw", "_law_great", "_law_turn", "_law_found", "_law_blend", "_law_grain"] : List PySem.Str).Nodup := by decide
  exact (OkSs.cons (ok_setI g (OkE.ve (ok_bin g (v_add g) (ok_itemK g (ok_var g (at_var (i := 0) (by rfl) (by first | exact .inl rfl | exact .inr (.inl rfl) | exact .inr (.inr rfl)) (by rfl) (by rfl)) (fun _ => (by rfl))) (fun _ => (at_var (i := 0) (by rfl) (by first | exact .inl rfl | exact .inr (.inl rfl) | exact .inr (.inr rfl)) (by rfl) (by rfl))) (ok_cst g pe_str (fun _ _ => (by rfl)) (fun _ => (by rfl))) (key_cst pe_str (fun _ _ => (by rfl))) (fun _ _ => (by rfl))) (ok_cst g pe_int (fun _ _ => (by rfl)) (fun _ => (by rfl))) (fun _ _ => (by rfl))) false) (.inl ⟨0, (by rfl), (pe_var (i := 0) (by rfl) (by first | exact .inl rfl | exact .inr (.inl rfl) | exact .inr (.inr rfl)) (by rfl) (by rfl))⟩) (ok_cst g pe_str (fun _ _ => (by rfl)) (fun _ => (by rfl))) (by rfl))
  (OkSs.cons (ok_par hP (by rfl) hN (by rfl) (by rfl) (by decide) (by rfl) (by rfl) (OkA.cons (ok_callTy g c_int (by rfl) (h.free fr_int) (by rfl) (OkA.cons (ok_itemK g (ok_var g (at_var (i := 0) (by rfl) (by first | exact .inl rfl | exact .inr (.inl rfl) | exact .inr (.inr rfl)) (by rfl) (by rfl)) (fun _ => (by rfl))) (fun _ => (at_var (i := 0) (by rfl) (by first | exact .inl rfl | exact .inr (.inl rfl) | exact .inr (.inr rfl)) (by rfl) (by rfl))) (ok_cst g pe_str (fun _ _ => (by rfl)) (fun _ => (by rfl))) (key_cst pe_str (fun _ _ => (by rfl))) (fun _ _ => (by rfl))) (fun _ _ => (by rfl)) OkA.nil) (by decide) (by rfl) (fun _ _ => (by rfl))) (fun _ _ => (by rfl)) (OkA.cons (ok_cst g pe_int (fun _ _ => (by rfl)) (fun _ => (by rfl))) (fun _ _ => (by rfl)) OkA.nil)) (by rfl) (by rfl))
  (OkSs.cons (ok_fore g (passes_of (by rfl)) (oki_seq g (ok_lst g (OkA.cons (ok_cst g pe_int (fun _ _ => (by rfl)) (fun _ => (by rfl))) (fun _ _ => (by rfl)) (OkA.cons (ok_cst g pe_int (fun _ _ => (by rfl)) (fun _ => (by rfl))) (fun _ _ => (by rfl)) (OkA.cons (ok_cst g pe_int (fun _ _ => (by rfl)) (fun _ => (by rfl))) (fun _ _ => (by rfl)) OkA.nil))))) (okg_name hP hN (by rfl) (by first | exact .inl rfl | exact .inr rfl) (by first | exact .inl rfl | exact .inr rfl)) (OkSs.cons (ok_asg (x := "_law_blend") hP (OkE.ve (ok_bin g (v_mod) (ok_bin g (v_add g) (ok_bin g (v_mul) (ok_var g (at_var (i := 2) (by rfl) (by first | exact .inl rfl | exact .inr (.inl rfl) | exact .inr (.inr rfl)) (by rfl) (by rfl)) (fun _ => (by rfl))) (ok_cst g pe_int (fun _ _ => (by rfl)) (fun _ => (by rfl))) (fun _ _ => (by rfl))) (ok_bin g (v_fdiv) (ok_var g (at_var (i := 1) (by rfl) (by first | exact .inl rfl | exact .inr (.inl rfl) | exact .inr (.inr rfl)) (by rfl) (by rfl)) (fun _ => (by rfl))) (ok_cst g pe_int (fun _ _ => (by rfl)) (fun _ => (by rfl))) (fun _ _ => (by rfl))) (fun _ _ => (by rfl))) (ok_var g (at_var (i := 1) (by rfl) (by first | exact .inl rfl | exact .inr (.inl rfl) | exact .inr (.inr rfl)) (by rfl) (by rfl)) (fun _ => (by rfl))) (fun _ _ => (by rfl))) false) hN (by rfl) (by first | exact .inl rfl | exact .inr rfl) (by rfl) (by first | exact .inl rfl | exact .inr rfl))
  (OkSs.cons (ok_fore g (passes_of (by rfl)) (oki_seq g (ok_itemK g (ok_var g (at_var (i := 0) (by rfl) (by first | exact .inl rfl | exact .inr (.inl rfl) | exact .inr (.inr rfl)) (by rfl) (by rfl)) (fun _ => (by rfl))) (fun _ => (at_var (i := 0) (by rfl) (by first | exact .inl rfl | exact .inr (.inl rfl) | exact .inr (.inr rfl)) (by rfl) (by rfl))) (ok_cst g pe_str (fun _ _ => (by rfl)) (fun _ => (by rfl))) (key_cst pe_str (fun _ _ => (by rfl))) (fun _ _ => (by rfl)))) (okg_name hP hN (by rfl) (by first | exact .inl rfl | exact .inr rfl) (by first | exact .inl rfl | exact .inr rfl)) (OkSs.cons (ok_asg (x := "_law_blend") hP (OkE.ve (ok_bin g (v_mod) (ok_bin g (v_add g) (ok_bin g (v_mul) (ok_var g (at_var (i := 4) (by rfl) (by first | exact .inl rfl | exact .inr (.inl rfl) | exact .inr (.inr rfl)) (by rfl) (by rfl)) (fun _ => (by rfl))) (ok_cst g pe_int (fun _ _ => (by rfl)) (fun _ => (by rfl))) (fun _ _ => (by rfl))) (ok_callTy g c_int (by rfl) (h.free fr_int) (by rfl) (OkA.cons (ok_var g (at_var (i := 5) (by rfl) (by first | exact .inl rfl | exact .inr (.inl rfl) | exact .inr (.inr rfl)) (by rfl) (by rfl)) (fun _ => (by rfl))) (fun _ _ => (by rfl)) OkA.nil) (by decide) (by rfl) (fun _ _ => (by rfl))) (fun _ _ => (by rfl))) (ok_var g (at_var (i := 1) (by rfl) (by first | exact .inl rfl | exact .inr (.inl rfl) | exact .inr (.inr rfl)) (by rfl) (by rfl)) (fun _ => (by rfl))) (fun _ _ => (by rfl))) false) hN (by rfl) (by first | exact .inl rfl | exact .inr rfl) (by rfl) (by first | exact .inl rfl | exact .inr rfl))
  OkSs.nil) (fun _ => (by rfl)))
  (OkSs.cons (ok_asg (x := "_law_found") hP (OkE.ve (ok_bin g (v_add g) (ok_bin g (v_mul) (ok_var g (at_var (i := 3) (by rfl) (by first | exact .inl rfl | exact .inr (.inl rfl) | exact .inr (.inr rfl)) (by rfl) (by rfl)) (fun _ => (by rfl))) (ok_cst g pe_int (fun _ _ => (by rfl)) (fun _ => (by rfl))) (fun _ _ => (by rfl))) (ok_bin g (v_mod) (ok_bin g (v_pow) (ok_var g (at_var (i := 4) (by rfl) (by first | exact .inl rfl | exact .inr (.inl rfl) | exact .inr (.inr rfl)) (by rfl) (by rfl)) (fun _ => (by rfl))) (ok_cst g pe_int (fun _ _ => (by rfl)) (fun _ => (by rfl))) (fun _ _ => (by rfl))) (ok_var g (at_var (i := 1) (by rfl) (by first | exact .inl rfl | exact .inr (.inl rfl) | exact .inr (.inr rfl)) (by rfl) (by rfl)) (fun _ => (by rfl))) (fun _ _ => (by rfl))) (fun _ _ => (by rfl))) false) hN (by rfl) (by first | exact .inl rfl | exact .inr rfl) (by rfl) (by first | exact .inl rfl | exact .inr rfl))
  OkSs.nil))) (fun _ => (by rfl)))
  (OkSs.cons (ok_ret (OkE.ve (ok_mv g (pe_var (i := 3) (by rfl) (by first | exact .inl rfl | exact .inr (.inl rfl) | exact .inr (.inr rfl)) (by rfl) (by rfl)) (fun _ => (by rfl))) false))
  OkSs.nil))))
theorem b__law_take (h : HX L w K (Xof P w K mg base ["_law_draw", "_law_amount", "_law_found"] "_law_take" (top 30) f cdv A outer s H W0)) (g : GX (Xof P w K mg base ["_law_draw", "_law_amount", "_law_found"] "_law_take" (top 30) f cdv A outer s H W0) (L.wd w K)) (tk : Takes (Xof P w K mg base ["_law_draw", "_law_amount", "_law_found"] "_law_take" (top 30) f cdv A outer s H W0) (W1 W0)) (hr : Room kk (Xof P w K mg base ["_law_draw", "_law_amount", "_law_found"] "_law_take" (top 30) f cdv A outer s H W0).A) (hr2 : Room 2 (Xof P w K mg base ["_law_draw", "_law_amount", "_law_found"] "_law_take" (top 30) f cdv A outer s H W0).A) (hex : ∀ f as r, prog.excMake f as = some r → call f as = r) (D__law_mixed : GD P w K mg base (L.wd w K) call kk "_law_mixed" [0] ["_law_draw"]) (hP : ∀ p ∈ Pn, p.1 ∈ ([0] : List Nat)) : OkSs (Xof P w K mg base ["_law_draw", "_law_amount", "_law_found"] "_law_take" (top 30) f cdv A outer s H W0) (L.wd w K) (Cc fuel call [0]) (W1 W0) Pn (defBody (top 30)) f__law_take.body := by
  have hN : (["_law_draw", "_law_amount", "_law_found"] : List PySem.Str).Nodup := by decide
  exact (OkSs.cons (ok_ife (OkE.t (ok_cmp g (by rfl) (v_eq g) (ok_itemK g (ok_var g (at_var (i := 0) (by rfl) (by first | exact .inl rfl | exact .inr (.inl rfl) | exact .inr (.inr rfl)) (by rfl) (by rfl)) (fun _ => (by rfl))) (fun _ => (at_var (i := 0) (by rfl) (by first | exact .inl rfl | exact .inr (.inl rfl) | exact .inr (.inr rfl)) (by rfl) (by rfl))) (ok_cst g pe_str (fun _ _ => (by rfl)) (fun _ => (by rfl))) (key_cst pe_str (fun _ _ => (by rfl))) (fun _ _ => (by rfl))) (ok_cst g pe_int (fun _ _ => (by rfl)) (fun _ => (by rfl))) (fun _ _ => (by rfl)) (by rfl)) false) (OkSs.cons (ok_setI g (ok_ifx (ok_cmp g (by rfl) (v_ne g) (ok_itemK g (ok_var g (at_var (i := 0) (by rfl) (by first | exact .inl rfl | exact .inr (.inl rfl) | exact .inr (.inr rfl)) (by rfl) (by rfl)) (fun _ => (by rfl))) (fun _ => (at_var (i := 0) (by rfl) (by first | exact .inl rfl | exact .inr (.inl rfl) | exact .inr (.inr rfl)) (by rfl) (by rfl))) (ok_cst g pe_str (fun _ _ => (by rfl)) (fun _ => (by rfl))) (key_cst pe_str (fun _ _ => (by rfl))) (fun _ _ => (by rfl))) (ok_lst g OkA.nil) (fun _ _ => (by rfl)) (by rfl)) (ok_pop0 g paList F.slot_list_pop tyPop (at_item g (at_var (i := 0) (by rfl) (by first | exact .inl rfl | exact .inr (.inl rfl) | exact .inr (.inr rfl)) (by rfl) (by rfl)) (key_cst pe_str (fun _ _ => (by rfl))) (fun _ _ => (by rfl))) (by rfl) (by rfl) (by rfl)) (ok_callD (C := Cc fuel call [0]) (io := [0]) (by rfl) g tk D__law_mixed hr (by rfl) (by rfl) (OkR.io (by decide) (pe_var (i := 0) (by rfl) (by first | exact .inl rfl | exact .inr (.inl rfl) | exact .inr (.inr rfl)) (by rfl) (by rfl)) (fun _ _ => (by rfl)) OkR.nil) (by rfl)) g false) (.inl ⟨0, (by rfl), (pe_var (i := 0) (by rfl) (by first | exact .inl rfl | exact .inr (.inl rfl) | exact .inr (.inr rfl)) (by rfl) (by rfl))⟩) (ok_cst g pe_str (fun _ _ => (by rfl)) (fun _ => (by rfl))) (by rfl))
  OkSs.nil) OkSs.nil)
  (OkSs.cons (ok_asg (x := "_law_found") hP (OkE.ve (ok_bin g (v_mod) (ok_callTy g c_int (by rfl) (h.free fr_int) (by rfl) (OkA.cons (ok_itemK g (ok_var g (at_var (i := 0) (by rfl) (by first | exact .inl rfl | exact .inr (.inl rfl) | exact .inr (.inr rfl)) (by rfl) (by rfl)) (fun _ => (by rfl))) (fun _ => (at_var (i := 0) (by rfl) (by first | exact .inl rfl | exact .inr (.inl rfl) | exact .inr (.inr rfl)) (by rfl) (by rfl))) (ok_cst g pe_str (fun _ _ => (by rfl)) (fun _ => (by rfl))) (key_cst pe_str (fun _ _ => (by rfl))) (fun _ _ => (by rfl))) (fun _ _ => (by rfl)) OkA.nil) (by decide) (by rfl) (fun _ _ => (by rfl))) (ok_var g (at_var (i := 1) (by rfl) (by first | exact .inl rfl | exact .inr (.inl rfl) | exact .inr (.inr rfl)) (by rfl) (by rfl)) (fun _ => (by rfl))) (fun _ _ => (by rfl))) false) hN (by rfl) (by first | exact .inl rfl | exact .inr rfl) (by rfl) (by first | exact .inl rfl | exact .inr rfl))
  (OkSs.cons (ok_setI g (OkE.ve (ok_bin g (v_fdiv) (ok_callTy g c_int (by rfl) (h.free fr_int) (by rfl) (OkA.cons (ok_itemK g (ok_var g (at_var (i := 0) (by rfl) (by first | exact .inl rfl | exact .inr (.inl rfl) | exact .inr (.inr rfl)) (by rfl) (by rfl)) (fun _ => (by rfl))) (fun _ => (at_var (i := 0) (by rfl) (by first | exact .inl rfl | exact .inr (.inl rfl) | exact .inr (.inr rfl)) (by rfl) (by rfl))) (ok_cst g pe_str (fun _ _ => (by rfl)) (fun _ => (by rfl))) (key_cst pe_str (fun _ _ => (by rfl))) (fun _ _ => (by rfl))) (fun _ _ => (by rfl)) OkA.nil) (by decide) (by rfl) (fun _ _ => (by rfl))) (ok_var g (at_var (i := 1) (by rfl) (by first | exact .inl rfl | exact .inr (.inl rfl) | exact .inr (.inr rfl)) (by rfl) (by rfl)) (fun _ => (by rfl))) (fun _ _ => (by rfl))) false) (.inl ⟨0, (by rfl), (pe_var (i := 0) (by rfl) (by first | exact .inl rfl | exact .inr (.inl rfl) | exact .inr (.inr rfl)) (by rfl) (by rfl))⟩) (ok_cst g pe_str (fun _ _ => (by rfl)) (fun _ => (by rfl))) (by rfl))
  (OkSs.cons (ok_ret (OkE.ve (ok_mv g (pe_var (i := 2) (by rfl) (by first | exact .inl rfl | exact .inr (.inl rfl) | exact .inr (.inr rfl)) (by rfl) (by rfl)) (fun _ => (by rfl))) false))
  OkSs.nil))))
theorem b__law_pick (h : HX L w K (Xof P w K mg base ["_law_draw", "_law_some"] "_law_pick" (top 31) f cdv A outer s H W0)) (g : GX (Xof P w K mg base ["_law_draw", "_law_some"] "_law_pick" (top 31) f cdv A outer s H W0) (L.wd w K)) (tk : Takes (Xof P w K mg base ["_law_draw", "_law_some"] "_law_pick" (top 31) f cdv A outer s H W0) (W1 W0)) (hr : Room kk (Xof P w K mg base ["_law_draw", "_law_some"] "_law_pick" (top 31) f cdv A outer s H W0).A) (hr2 : Room 2 (Xof P w K mg base ["_law_draw", "_law_some"] "_law_pick" (top 31) f cdv A outer s H W0).A) (hex : ∀ f as r, prog.excMake f as = some r → call f as = r) (D__law_take : GD P w K mg base (L.wd w K) call kk "_law_take" [0] ["_law_draw", "_law_amount"]) (hP : ∀ p ∈ Pn, p.1 ∈ ([0] : List Nat)) : OkSs (Xof P w K mg base ["_law_draw", "_law_some"] "_law_pick" (top 31) f cdv A outer s H W0) (L.wd w K) (Cc fuel call [0]) (W1 W0) Pn (defBody (top 31)) f__law_pick.body := by
  have hN : (["_law_draw", "_law_some"] : List PySem.Str).Nodup := by decide
  exact (OkSs.cons (ok_ret (OkE.ve (ok_itemN g (ok_var g (at_var (i := 1) (by rfl) (by first | exact .inl rfl | exact .inr (.inl rfl) | exact .inr (.inr rfl)) (by rfl) (by rfl)) (fun _ => (by rfl))) (fun _ => (at_var (i := 1) (by rfl) (by first | exact .inl rfl | exact .inr (.inl rfl) | exact .inr (.inr rfl)) (by rfl) (by rfl))) (ok_callD (C := Cc fuel call [0]) (io := [0]) (by rfl) g tk D__law_take hr (by rfl) (by rfl) (OkR.io (by decide) (pe_var (i := 0) (by rfl) (by first | exact .inl rfl | exact .inr (.inl rfl) | exact .inr (.inr rfl)) (by rfl) (by rfl)) (fun _ _ => (by rfl)) (OkR.val (by decide) (ok_callB g (c_len g) (by rfl) (h.free fr_len) (by rfl) (OkA.cons (ok_var g (at_var (i := 1) (by rfl) (by first | exact .inl rfl | exact .inr (.inl rfl) | exact .inr (.inr rfl)) (by rfl) (by rfl)) (fun _ => (by rfl))) (fun _ _ => (by rfl)) OkA.nil) (by decide) (by rfl) (fun _ _ => (by rfl))) (fun _ _ => (by rfl)) OkR.nil)) (by rfl)) (fun _ => (by rfl)) (fun _ _ => (by rfl))) false))
  OkSs.nil)
theorem b__law_any (h : HX L w K (Xof P w K mg base ["_law_draw", "_law_some"] "_law_any" (top 32) f cdv A outer s H W0)) (g : GX (Xof P w K mg base ["_law_draw", "_law_some"] "_law_any" (top 32) f cdv A outer s H W0) (L.wd w K)) (tk : Takes (Xof P w K mg base ["_law_draw", "_law_some"] "_law_any" (top 32) f cdv A outer s H W0) (W1 W0)) (hr : Room kk (Xof P w K mg base ["_law_draw", "_law_some"] "_law_any" (top 32) f cdv A outer s H W0).A) (hr2 : Room 2 (Xof P w K mg base ["_law_draw", "_law_some"] "_law_any" (top 32) f cdv A outer s H W0).A) (hex : ∀ f as r, prog.excMake f as = some r → call f as = r) (D__law_pick : GD P w K mg base (L.wd w K) call kk "_law_pick" [0] ["_law_draw", "_law_some"]) (hP : ∀ p ∈ Pn, p.1 ∈ ([0] : List Nat)) : OkSs (Xof P w K mg base ["_law_draw", "_law_some"] "_law_any" (top 32) f cdv A outer s H W0) (L.wd w K) (Cc fuel call [0]) (W1 W0) Pn (defBody (top 32)) f__law_any.body := by
  have hN : (["_law_draw", "_law_some"] : List PySem.Str).Nodup := by decide
  exact (OkSs.cons (ok_asg (x := "_law_some") hP (OkE.ve (ok_lst g (OkA.cons (ok_cst g pe_non (fun _ _ => (by rfl)) (fun _ => (by rfl))) (fun _ _ => (by rfl)) (OkA.cons (ok_cst g pe_bl (fun _ _ => (by rfl)) (fun _ => (by rfl))) (fun _ _ => (by rfl)) (OkA.cons (ok_un g u_neg (ok_cst g pe_int (fun _ _ => (by rfl)) (fun _ => (by rfl))) (fun _ _ => (by rfl)) (fun _ => (by rfl))) (fun _ _ => (by rfl)) (OkA.cons (ok_bin g (v_pow) (ok_cst g pe_int (fun _ _ => (by rfl)) (fun _ => (by rfl))) (ok_cst g pe_int (fun _ _ => (by rfl)) (fun _ => (by rfl))) (fun _ _ => (by rfl))) (fun _ _ => (by rfl)) (OkA.cons (ok_cst g pe_str (fun _ _ => (by rfl)) (fun _ => (by rfl))) (fun _ _ => (by rfl)) (OkA.cons (ok_cst g pe_str (fun _ _ => (by rfl)) (fun _ => (by rfl))) (fun _ _ => (by rfl)) (OkA.cons (ok_cst g pe_str (fun _ _ => (by rfl)) (fun _ => (by rfl))) (fun _ _ => (by rfl)) (OkA.cons (ok_lst g OkA.nil) (fun _ _ => (by rfl)) (OkA.cons (ok_lst g (OkA.cons (ok_tup g (OkA.cons (ok_cst g pe_int (fun _ _ => (by rfl)) (fun _ => (by rfl))) (fun _ _ => (by rfl)) (OkA.cons (ok_cst g pe_int (fun _ _ => (by rfl)) (fun _ => (by rfl))) (fun _ _ => (by rfl)) OkA.nil))) (fun _ _ => (by rfl)) OkA.nil)) (fun _ _ => (by rfl)) (OkA.cons (ok_tup g OkA.nil) (fun _ _ => (by rfl)) (OkA.cons (ok_tup g (OkA.cons (ok_cst g pe_int (fun _ _ => (by rfl)) (fun _ => (by rfl))) (fun _ _ => (by rfl)) OkA.nil)) (fun _ _ => (by rfl)) (OkA.cons (ok_dct0 g) (fun _ _ => (by rfl)) (OkA.cons (ok_dct g (OkD.cons (ok_cst g pe_str (fun _ _ => (by rfl)) (fun _ => (by rfl))) (ok_tup g (OkA.cons (ok_cst g pe_int (fun _ _ => (by rfl)) (fun _ => (by rfl))) (fun _ _ => (by rfl)) OkA.nil)) OkD.nil) (by simp) (by decide)) (fun _ _ => (by rfl)) (OkA.cons (ok_lst g (OkA.cons (ok_lst g (OkA.cons (ok_cst g pe_non (fun _ _ => (by rfl)) (fun _ => (by rfl))) (fun _ _ => (by rfl)) OkA.nil)) (fun _ _ => (by rfl)) OkA.nil)) (fun _ _ => (by rfl)) OkA.nil))))))))))))))) false) hN (by rfl) (by first | exact .inl rfl | exact .inr rfl) (by rfl) (by first | exact .inl rfl | exact .inr rfl))
  (OkSs.cons (ok_ret (OkE.ve (ok_callD (C := Cc fuel call [0]) (io := [0]) (by rfl) g tk D__law_pick hr (by rfl) (by rfl) (OkR.io (by decide) (pe_var (i := 0) (by rfl) (by first | exact .inl rfl | exact .inr (.inl rfl) | exact .inr (.inr rfl)) (by rfl) (by rfl)) (fun _ _ => (by rfl)) (OkR.val (by decide) (ok_mv g (pe_var (i := 1) (by rfl) (by first | exact .inl rfl | exact .inr (.inl rfl) | exact .inr (.inr rfl)) (by rfl) (by rfl)) (fun _ => (by rfl))) (fun _ _ => (by rfl)) OkR.nil)) (by rfl)) false))
  OkSs.nil))
theorem b__law_kinds (h : HX L w K (Xof P w K mg base ["_law_error", "_law_found"] "_law_kinds" (top 33) f cdv A outer s H W0)) (g : GX (Xof P w K mg base ["_law_error", "_law_found"] "_law_kinds" (top 33) f cdv A outer s H W0) (L.wd w K)) (tk : Takes (Xof P w K mg base ["_law_error", "_law_found"] "_law_kinds" (top 33) f cdv A outer s H W0) (W1 W0)) (hr : Room kk (Xof P w K mg base ["_law_error", "_law_found"] "_law_kinds" (top 33) f cdv A outer s H W0).A) (hr2 : Room 2 (Xof P w K mg base ["_law_error", "_law_found"] "_law_kinds" (top 33) f cdv A outer s H W0).A) (hex : ∀ f as r, prog.excMake f as = some r → call f as = r) (hP : ∀ p ∈ Pn, p.1 ∈ ([] : List Nat)) : OkSs (Xof P w K mg base ["_law_error", "_law_found"] "_law_kinds" (top 33) f cdv A outer s H W0) (L.wd w K) (Cc fuel call []) (W1 W0) Pn (defBody (top 33)) f__law_kinds.body := by
  have hN : (["_law_error", "_law_found"] : List PySem.Str).Nodup := by decide
  exact (OkSs.cons (ok_asg (x := "_law_found") hP (OkE.ve (ok_lst g OkA.nil) false) hN (by rfl) (by first | exact .inl rfl | exact .inr rfl) (by rfl) (by first | exact .inl rfl | exact .inr rfl))
  (OkSs.cons (ok_asg (x := "_law_found") hP (OkE.ve (ok_bin g (v_add g) (ok_var g (at_var (i := 1) (by rfl) (by first | exact .inl rfl | exact .inr (.inl rfl) | exact .inr (.inr rfl)) (by rfl) (by rfl)) (fun _ => (by rfl))) (ok_lst g (OkA.cons (ok_iscO h g (by rfl) (ok_var g (at_var (i := 0) (by rfl) (by first | exact .inl rfl | exact .inr (.inl rfl) | exact .inr (.inr rfl)) (by rfl) (by rfl)) (fun _ => (by rfl))) mo_BadPrime mi_BadPrime (by rfl) (fun _ _ => (by rfl)) (by rfl) fr_isinstance (by rfl)) (fun _ _ => (by rfl)) (OkA.cons (ok_iscO h g (by rfl) (ok_var g (at_var (i := 0) (by rfl) (by first | exact .inl rfl | exact .inr (.inl rfl) | exact .inr (.inr rfl)) (by rfl) (by rfl)) (fun _ => (by rfl))) mo_BadRow mi_BadRow (by rfl) (fun _ _ => (by rfl)) (by rfl) fr_isinstance (by rfl)) (fun _ _ => (by rfl)) (OkA.cons (ok_iscO h g (by rfl) (ok_var g (at_var (i := 0) (by rfl) (by first | exact .inl rfl | exact .inr (.inl rfl) | exact .inr (.inr rfl)) (by rfl) (by rfl)) (fun _ => (by rfl))) mo_BadTable mi_BadTable (by rfl) (fun _ _ => (by rfl)) (by rfl) fr_isinstance (by rfl)) (fun _ _ => (by rfl)) OkA.nil)))) (fun _ _ => (by rfl))) false) hN (by rfl) (by first | exact .inl rfl | exact .inr rfl) (by rfl) (by first | exact .inl rfl | exact .inr rfl))
  (OkSs.cons (ok_asg (x := "_law_found") hP (OkE.ve (ok_bin g (v_add g) (ok_var g (at_var (i := 1) (by rfl) (by first | exact .inl rfl | exact .inr (.inl rfl) | exact .inr (.inr rfl)) (by rfl) (by rfl)) (fun _ => (by rfl))) (ok_lst g (OkA.cons (ok_iscO h g (by rfl) (ok_var g (at_var (i := 0) (by rfl) (by first | exact .inl rfl | exact .inr (.inl rfl) | exact .inr (.inr rfl)) (by rfl) (by rfl)) (fun _ => (by rfl))) mo_BadChoice mi_BadChoice (by rfl) (fun _ _ => (by rfl)) (by rfl) fr_isinstance (by rfl)) (fun _ _ => (by rfl)) (OkA.cons (ok_iscO h g (by rfl) (ok_var g (at_var (i := 0) (by rfl) (by first | exact .inl rfl | exact .inr (.inl rfl) | exact .inr (.inr rfl)) (by rfl) (by rfl)) (fun _ => (by rfl))) mo_BadWord mi_BadWord (by rfl) (fun _ _ => (by rfl)) (by rfl) fr_isinstance (by rfl)) (fun _ _ => (by rfl)) (OkA.cons (ok_iscO h g (by rfl) (ok_var g (at_var (i := 0) (by rfl) (by first | exact .inl rfl | exact .inr (.inl rfl) | exact .inr (.inr rfl)) (by rfl) (by rfl)) (fun _ => (by rfl))) mo_NotFrame mi_NotFrame (by rfl) (fun _ _ => (by rfl)) (by rfl) fr_isinstance (by rfl)) (fun _ _ => (by rfl)) OkA.nil)))) (fun _ _ => (by rfl))) false) hN (by rfl) (by first | exact .inl rfl | exact .inr rfl) (by rfl) (by first | exact .inl rfl | exact .inr rfl))
  (OkSs.cons (ok_asg (x := "_law_found") hP (OkE.ve (ok_bin g (v_add g) (ok_var g (at_var (i := 1) (by rfl) (by first | exact .inl rfl | exact .inr (.inl rfl) | exact .inr (.inr rfl)) (by rfl) (by rfl)) (fun _ => (by rfl))) (ok_lst g (OkA.cons (ok_iscO h g (by rfl) (ok_var g (at_var (i := 0) (by rfl) (by first | exact .inl rfl | exact .inr (.inl rfl) | exact .inr (.inr rfl)) (by rfl) (by rfl)) (fun _ => (by rfl))) mo_NotUndone mi_NotUndone (by rfl) (fun _ _ => (by rfl)) (by rfl) fr_isinstance (by rfl)) (fun _ _ => (by rfl)) (OkA.cons (ok_iscO h g (by rfl) (ok_var g (at_var (i := 0) (by rfl) (by first | exact .inl rfl | exact .inr (.inl rfl) | exact .inr (.inr rfl)) (by rfl) (by rfl)) (fun _ => (by rfl))) mo_BadDeed mi_BadDeed (by rfl) (fun _ _ => (by rfl)) (by rfl) fr_isinstance (by rfl)) (fun _ _ => (by rfl)) (OkA.cons (ok_iscO h g (by rfl) (ok_var g (at_var (i := 0) (by rfl) (by first | exact .inl rfl | exact .inr (.inl rfl) | exact .inr (.inr rfl)) (by rfl) (by rfl)) (fun _ => (by rfl))) mo_BadLive mi_BadLive (by rfl) (fun _ _ => (by rfl)) (by rfl) fr_isinstance (by rfl)) (fun _ _ => (by rfl)) OkA.nil)))) (fun _ _ => (by rfl))) false) hN (by rfl) (by first | exact .inl rfl | exact .inr rfl) (by rfl) (by first | exact .inl rfl | exact .inr rfl))
  (OkSs.cons (ok_asg (x := "_law_found") hP (OkE.ve (ok_bin g (v_add g) (ok_var g (at_var (i := 1) (by rfl) (by first | exact .inl rfl | exact .inr (.inl rfl) | exact .inr (.inr rfl)) (by rfl) (by rfl)) (fun _ => (by rfl))) (ok_lst g (OkA.cons (ok_iscO h g (by rfl) (ok_var g (at_var (i := 0) (by rfl) (by first | exact .inl rfl | exact .inr (.inl rfl) | exact .inr (.inr rfl)) (by rfl) (by rfl)) (fun _ => (by rfl))) mo_BadName mi_BadName (by rfl) (fun _ _ => (by rfl)) (by rfl) fr_isinstance (by rfl)) (fun _ _ => (by rfl)) (OkA.cons (ok_iscO h g (by rfl) (ok_var g (at_var (i := 0) (by rfl) (by first | exact .inl rfl | exact .inr (.inl rfl) | exact .inr (.inr rfl)) (by rfl) (by rfl)) (fun _ => (by rfl))) mo_NothingLeft mi_NothingLeft (by rfl) (fun _ _ => (by rfl)) (by rfl) fr_isinstance (by rfl)) (fun _ _ => (by rfl)) (OkA.cons (ok_iscO h g (by rfl) (ok_var g (at_var (i := 0) (by rfl) (by first | exact .inl rfl | exact .inr (.inl rfl) | exact .inr (.inr rfl)) (by rfl) (by rfl)) (fun _ => (by rfl))) mo_BadWords mi_BadWords (by rfl) (fun _ _ => (by rfl)) (by rfl) fr_isinstance (by rfl)) (fun _ _ => (by rfl)) OkA.nil)))) (fun _ _ => (by rfl))) false) hN (by rfl) (by first | exact .inl rfl | exact .inr rfl) (by rfl) (by first | exact .inl rfl | exact .inr rfl))
  (OkSs.cons (ok_asg (x := "_law_found") hP (OkE.ve (ok_bin g (v_add g) (ok_var g (at_var (i := 1) (by rfl) (by first | exact .inl rfl | exact .inr (.inl rfl) | exact .inr (.inr rfl)) (by rfl) (by rfl)) (fun _ => (by rfl))) (ok_lst g (OkA.cons (ok_iscO h g (by rfl) (ok_var g (at_var (i := 0) (by rfl) (by first | exact .inl rfl | exact .inr (.inl rfl) | exact .inr (.inr rfl)) (by rfl) (by rfl)) (fun _ => (by rfl))) mo_BadEnd mi_BadEnd (by rfl) (fun _ _ => (by rfl)) (by rfl) fr_isinstance (by rfl)) (fun _ _ => (by rfl)) (OkA.cons (ok_iscO h g (by rfl) (ok_var g (at_var (i := 0) (by rfl) (by first | exact .inl rfl | exact .inr (.inl rfl) | exact .inr (.inr rfl)) (by rfl) (by rfl)) (fun _ => (by rfl))) mo_NotOdd mi_NotOdd (by rfl) (fun _ _ => (by rfl)) (by rfl) fr_isinstance (by rfl)) (fun _ _ => (by rfl)) (OkA.cons (ok_iscO h g (by rfl) (ok_var g (at_var (i := 0) (by rfl) (by first | exact .inl rfl | exact .inr (.inl rfl) | exact .inr (.inr rfl)) (by rfl) (by rfl)) (fun _ => (by rfl))) mo_BadRules mi_BadRules (by rfl) (fun _ _ => (by rfl)) (by rfl) fr_isinstance (by rfl)) (fun _ _ => (by rfl)) OkA.nil)))) (fun _ _ => (by rfl))) false) hN (by rfl) (by first | exact .inl rfl | exact .inr rfl) (by rfl) (by first | exact .inl rfl | exact .inr rfl))
  (OkSs.cons (ok_asg (x := "_law_found") hP (OkE.ve (ok_bin g (v_add g) (ok_var g (at_var (i := 1) (by rfl) (by first | exact .inl rfl | exact .inr (.inl rfl) | exact .inr (.inr rfl)) (by rfl) (by rfl)) (fun _ => (by rfl))) (ok_lst g (OkA.cons (ok_iscO h g (by rfl) (ok_var g (at_var (i := 0) (by rfl) (by first | exact .inl rfl | exact .inr (.inl rfl) | exact .inr (.inr rfl)) (by rfl) (by rfl)) (fun _ => (by rfl))) mo_BadLengths mi_BadLengths (by rfl) (fun _ _ => (by rfl)) (by rfl) fr_isinstance (by rfl)) (fun _ _ => (by rfl)) (OkA.cons (ok_iscO h g (by rfl) (ok_var g (at_var (i := 0) (by rfl) (by first | exact .inl rfl | exact .inr (.inl rfl) | exact .inr (.inr rfl)) (by rfl) (by rfl)) (fun _ => (by rfl))) mo_NotLeast mi_NotLeast (by rfl) (fun _ _ => (by rfl)) (by rfl) fr_isinstance (by rfl)) (fun _ _ => (by rfl)) (OkA.cons (ok_iscO h g (by rfl) (ok_var g (at_var (i := 0) (by rfl) (by first | exact .inl rfl | exact .inr (.inl rfl) | exact .inr (.inr rfl)) (by rfl) (by rfl)) (fun _ => (by rfl))) mo_BadChange mi_BadChange (by rfl) (fun _ _ => (by rfl)) (by rfl) fr_isinstance (by rfl)) (fun _ _ => (by rfl)) OkA.nil)))) (fun _ _ => (by rfl))) false) hN (by rfl) (by first | exact .inl rfl | exact .inr rfl) (by rfl) (by first | exact .inl rfl | exact .inr rfl))
  (OkSs.cons (ok_asg (x := "_law_found") hP (OkE.ve (ok_bin g (v_add g) (ok_var g (at_var (i := 1) (by rfl) (by first | exact .inl rfl | exact .inr (.inl rfl) | exact .inr (.inr rfl)) (by rfl) (by rfl)) (fun _ => (by rfl))) (ok_lst g (OkA.cons (ok_iscO h g (by rfl) (ok_var g (at_var (i := 0) (by rfl) (by first | exact .inl rfl | exact .inr (.inl rfl) | exact .inr (.inr rfl)) (by rfl) (by rfl)) (fun _ => (by rfl))) mo_BadNumber mi_BadNumber (by rfl) (fun _ _ => (by rfl)) (by rfl) fr_isinstance (by rfl)) (fun _ _ => (by rfl)) (OkA.cons (ok_iscO h g (by rfl) (ok_var g (at_var (i := 0) (by rfl) (by first | exact .inl rfl | exact .inr (.inl rfl) | exact .inr (.inr rfl)) (by rfl) (by rfl)) (fun _ => (by rfl))) mo_BadFrame mi_BadFrame (by rfl) (fun _ _ => (by rfl)) (by rfl) fr_isinstance (by rfl)) (fun _ _ => (by rfl)) (OkA.cons (ok_iscO h g (by rfl) (ok_var g (at_var (i := 0) (by rfl) (by first | exact .inl rfl | exact .inr (.inl rfl) | exact .inr (.inr rfl)) (by rfl) (by rfl)) (fun _ => (by rfl))) mo_TooMany mi_TooMany (by rfl) (fun _ _ => (by rfl)) (by rfl) fr_isinstance (by rfl)) (fun _ _ => (by rfl)) OkA.nil)))) (fun _ _ => (by rfl))) false) hN (by rfl) (by first | exact .inl rfl | exact .inr rfl) (by rfl) (by first | exact .inl rfl | exact .inr rfl))
  (OkSs.cons (ok_asg (x := "_law_found") hP (OkE.ve (ok_bin g (v_add g) (ok_var g (at_var (i := 1) (by rfl) (by first | exact .inl rfl | exact .inr (.inl rfl) | exact .inr (.inr rfl)) (by rfl) (by rfl)) (fun _ => (by rfl))) (ok_lst g (OkA.cons (ok_iscO h g (by rfl) (ok_var g (at_var (i := 0) (by rfl) (by first | exact .inl rfl | exact .inr (.inl rfl) | exact .inr (.inr rfl)) (by rfl) (by rfl)) (fun _ => (by rfl))) mo_BadMany mi_BadMany (by rfl) (fun _ _ => (by rfl)) (by rfl) fr_isinstance (by rfl)) (fun _ _ => (by rfl)) (OkA.cons (ok_iscO h g (by rfl) (ok_var g (at_var (i := 0) (by rfl) (by first | exact .inl rfl | exact .inr (.inl rfl) | exact .inr (.inr rfl)) (by rfl) (by rfl)) (fun _ => (by rfl))) mo_BadLead mi_BadLead (by rfl) (fun _ _ => (by rfl)) (by rfl) fr_isinstance (by rfl)) (fun _ _ => (by rfl)) (OkA.cons (ok_iscO h g (by rfl) (ok_var g (at_var (i := 0) (by rfl) (by first | exact .inl rfl | exact .inr (.inl rfl) | exact .inr (.inr rfl)) (by rfl) (by rfl)) (fun _ => (by rfl))) mo_BadText mi_BadText (by rfl) (fun _ _ => (by rfl)) (by rfl) fr_isinstance (by rfl)) (fun _ _ => (by rfl)) OkA.nil)))) (fun _ _ => (by rfl))) false) hN (by rfl) (by first | exact .inl rfl | exact .inr rfl) (by rfl) (by first | exact .inl rfl | exact .inr rfl))
  (OkSs.cons (ok_asg (x := "_law_found") hP (OkE.ve (ok_bin g (v_add g) (ok_var g (at_var (i := 1) (by rfl) (by first | exact .inl rfl | exact .inr (.inl rfl) | exact .inr (.inr rfl)) (by rfl) (by rfl)) (fun _ => (by rfl))) (ok_lst g (OkA.cons (ok_iscO h g (by rfl) (ok_var g (at_var (i := 0) (by rfl) (by first | exact .inl rfl | exact .inr (.inl rfl) | exact .inr (.inr rfl)) (by rfl) (by rfl)) (fun _ => (by rfl))) mo_NoWatch mi_NoWatch (by rfl) (fun _ _ => (by rfl)) (by rfl) fr_isinstance (by rfl)) (fun _ _ => (by rfl)) OkA.nil)) (fun _ _ => (by rfl))) false) hN (by rfl) (by first | exact .inl rfl | exact .inr rfl) (by rfl) (by first | exact .inl rfl | exact .inr rfl))
  (OkSs.cons (ok_ret (OkE.ve (ok_mv g (pe_var (i := 1) (by rfl) (by first | exact .inl rfl | exact .inr (.inl rfl) | exact .inr (.inr rfl)) (by rfl) (by rfl)) (fun _ => (by rfl))) false))
  OkSs.nil)))))))))))
theorem b__law_plain_errors (h : HX L w K (Xof P w K mg base ["_law_words_here", "_law_found"] "_law_plain_errors" (top 34) f cdv A outer s H W0)) (g : GX (Xof P w K mg base ["_law_words_here", "_law_found"] "_law_plain_errors" (top 34) f cdv A outer s H W0) (L.wd w K)) (tk : Takes (Xof P w K mg base ["_law_words_here", "_law_found"] "_law_plain_errors" (top 34) f cdv A outer s H W0) (W1 W0)) (hr : Room kk (Xof P w K mg base ["_law_words_here", "_law_found"] "_law_plain_errors" (top 34) f cdv A outer s H W0).A) (hr2 : Room 2 (Xof P w K mg base ["_law_words_here", "_law_found"] "_law_plain_errors" (top 34) f cdv A outer s H W0).A) (hex : ∀ f as r, prog.excMake f as = some r → call f as = r) (hP : ∀ p ∈ Pn, p.1 ∈ ([] : List Nat)) : OkSs (Xof P w K mg base ["_law_words_here", "_law_found"] "_law_plain_errors" (top 34) f cdv A outer s H W0) (L.wd w K) (Cc fuel call []) (W1 W0) Pn (defBody (top 34)) f__law_plain_errors.body := by
  have hN : (["_law_words_here", "_law_found"] : List PySem.Str).Nodup := by decide
  exact (OkSs.cons (ok_asg (x := "_law_found") hP (OkE.ve (ok_lst g OkA.nil) false) hN (by rfl) (by first | exact .inl rfl | exact .inr rfl) (by rfl) (by first | exact .inl rfl | exact .inr rfl))
  (OkSs.cons (ok_asg (x := "_law_found") hP (OkE.ve (ok_bin g (v_add g) (ok_var g (at_var (i := 1) (by rfl) (by first | exact .inl rfl | exact .inr (.inl rfl) | exact .inr (.inr rfl)) (by rfl) (by rfl)) (fun _ => (by rfl))) (ok_lst g (OkA.cons (ok_excPG (C := Cc fuel call []) h g mP_BadPrime (by rfl) (fun _ => hex _ _ _ (by rfl)) (by rfl) (ok_var g (at_var (i := 0) (by rfl) (by first | exact .inl rfl | exact .inr (.inl rfl) | exact .inr (.inr rfl)) (by rfl) (by rfl)) (fun _ => (by rfl))) (fun _ _ => (by rfl)) (by rfl)) (fun _ _ => (by rfl)) (OkA.cons (ok_excPG (C := Cc fuel call []) h g mP_BadRow (by rfl) (fun _ => hex _ _ _ (by rfl)) (by rfl) (ok_var g (at_var (i := 0) (by rfl) (by first | exact .inl rfl | exact .inr (.inl rfl) | exact .inr (.inr rfl)) (by rfl) (by rfl)) (fun _ => (by rfl))) (fun _ _ => (by rfl)) (by rfl)) (fun _ _ => (by rfl)) (OkA.cons (ok_excPG (C := Cc fuel call []) h g mP_BadTable (by rfl) (fun _ => hex _ _ _ (by rfl)) (by rfl) (ok_var g (at_var (i := 0) (by rfl) (by first | exact .inl rfl | exact .inr (.inl rfl) | exact .inr (.inr rfl)) (by rfl) (by rfl)) (fun _ => (by rfl))) (fun _ _ => (by rfl)) (by rfl)) (fun _ _ => (by rfl)) (OkA.cons (ok_excPG (C := Cc fuel call []) h g mP_BadChoice (by rfl) (fun _ => hex _ _ _ (by rfl)) (by rfl) (ok_var g (at_var (i := 0) (by rfl) (by first | exact .inl rfl | exact .inr (.inl rfl) | exact .inr (.inr rfl)) (by rfl) (by rfl)) (fun _ => (by rfl))) (fun _ _ => (by rfl)) (by rfl)) (fun _ _ => (by rfl)) OkA.nil))))) (fun _ _ => (by rfl))) false) hN (by rfl) (by first | exact .inl rfl | exact .inr rfl) (by rfl) (by first | exact .inl rfl | exact .inr rfl))
  (OkSs.cons (ok_asg (x := "_law_found") hP (OkE.ve (ok_bin g (v_add g) (ok_var g (at_var (i := 1) (by rfl) (by first | exact .inl rfl | exact .inr (.inl rfl) | exact .inr (.inr rfl)) (by rfl) (by rfl)) (fun _ => (by rfl))) (ok_lst g (OkA.cons (ok_excPG (C := Cc fuel call []) h g mP_BadWord (by rfl) (fun _ => hex _ _ _ (by rfl)) (by rfl) (ok_var g (at_var (i := 0) (by rfl) (by first | exact .inl rfl | exact .inr (.inl rfl) | exact .inr (.inr rfl)) (by rfl) (by rfl)) (fun _ => (by rfl))) (fun _ _ => (by rfl)) (by rfl)) (fun _ _ => (by rfl)) (OkA.cons (ok_excPG (C := Cc fuel call []) h g mP_NotFrame (by rfl) (fun _ => hex _ _ _ (by rfl)) (by rfl) (ok_var g (at_var (i := 0) (by rfl) (by first | exact .inl rfl | exact .inr (.inl rfl) | exact .inr (.inr rfl)) (by rfl) (by rfl)) (fun _ => (by rfl))) (fun _ _ => (by rfl)) (by rfl)) (fun _ _ => (by rfl)) (OkA.cons (ok_excPG (C := Cc fuel call []) h g mP_NotUndone (by rfl) (fun _ => hex _ _ _ (by rfl)) (by rfl) (ok_var g (at_var (i := 0) (by rfl) (by first | exact .inl rfl | exact .inr (.inl rfl) | exact .inr (.inr rfl)) (by rfl) (by rfl)) (fun _ => (by rfl))) (fun _ _ => (by rfl)) (by rfl)) (fun _ _ => (by rfl)) (OkA.cons (ok_excPG (C := Cc fuel call []) h g mP_BadDeed (by rfl) (fun _ => hex _ _ _ (by rfl)) (by rfl) (ok_var g (at_var (i := 0) (by rfl) (by first | exact .inl rfl | exact .inr (.inl rfl) | exact .inr (.inr rfl)) (by rfl) (by rfl)) (fun _ => (by rfl))) (fun _ _ => (by rfl)) (by rfl)) (fun _ _ => (by rfl)) OkA.nil))))) (fun _ _ => (by rfl))) false) hN (by rfl) (by first | exact .inl rfl | exact .inr rfl) (by rfl) (by first | exact .inl rfl | exact .inr rfl))
  (OkSs.cons (ok_asg (x := "_law_found") hP (OkE.ve (ok_bin g (v_add g) (ok_var g (at_var (i := 1) (by rfl) (by first | exact .inl rfl | exact .inr (.inl rfl) | exact .inr (.inr rfl)) (by rfl) (by rfl)) (fun _ => (by rfl))) (ok_lst g (OkA.cons (ok_excPG (C := Cc fuel call []) h g mP_BadLive (by rfl) (fun _ => hex _ _ _ (by rfl)) (by rfl) (ok_var g (at_var (i := 0) (by rfl) (by first | exact .inl rfl | exact .inr (.inl rfl) | exact .inr (.inr rfl)) (by rfl) (by rfl)) (fun _ => (by rfl))) (fun _ _ => (by rfl)) (by rfl)) (fun _ _ => (by rfl)) (OkA.cons (ok_excPG (C := Cc fuel call []) h g mP_BadName (by rfl) (fun _ => hex _ _ _ (by rfl)) (by rfl) (ok_var g (at_var (i := 0) (by rfl) (by first | exact .inl rfl | exact .inr (.inl rfl) | exact .inr (.inr rfl)) (by rfl) (by rfl)) (fun _ => (by rfl))) (fun _ _ => (by rfl)) (by rfl)) (fun _ _ => (by rfl)) (OkA.cons (ok_excPG (C := Cc fuel call []) h g mP_NothingLeft (by rfl) (fun _ => hex _ _ _ (by rfl)) (by rfl) (ok_var g (at_var (i := 0) (by rfl) (by first | exact .inl rfl | exact .inr (.inl rfl) | exact .inr (.inr rfl)) (by rfl) (by rfl)) (fun _ => (by rfl))) (fun _ _ => (by rfl)) (by rfl)) (fun _ _ => (by rfl)) (OkA.cons (ok_excPG (C := Cc fuel call []) h g mP_BadWords (by rfl) (fun _ => hex _ _ _ (by rfl)) (by rfl) (ok_var g (at_var (i := 0) (by rfl) (by first | exact .inl rfl | exact .inr (.inl rfl) | exact .inr (.inr rfl)) (by rfl) (by rfl)) (fun _ => (by rfl))) (fun _ _ => (by rfl)) (by rfl)) (fun _ _ => (by rfl)) OkA.nil))))) (fun _ _ => (by rfl))) false) hN (by rfl) (by first | exact .inl rfl | exact .inr rfl) (by rfl) (by first | exact .inl rfl | exact .inr rfl))
  (OkSs.cons (ok_asg (x := "_law_found") hP (OkE.ve (ok_bin g (v_add g) (ok_var g (at_var (i := 1) (by rfl) (by first | exact .inl rfl | exact .inr (.inl rfl) | exact .inr (.inr rfl)) (by rfl) (by rfl)) (fun _ => (by rfl))) (ok_lst g (OkA.cons (ok_excPG (C := Cc fuel call []) h g mP_BadEnd (by rfl) (fun _ => hex _ _ _ (by rfl)) (by rfl) (ok_var g (at_var (i := 0) (by rfl) (by first | exact .inl rfl | exact .inr (.inl rfl) | exact .inr (.inr rfl)) (by rfl) (by rfl)) (fun _ => (by rfl))) (fun _ _ => (by rfl)) (by rfl)) (fun _ _ => (by rfl)) (OkA.cons (ok_excPG (C := Cc fuel call []) h g mP_NotOdd (by rfl) (fun _ => hex _ _ _ (by rfl)) (by rfl) (ok_var g (at_var (i := 0) (by rfl) (by first | exact .inl rfl | exact .inr (.inl rfl) | exact .inr (.inr rfl)) (by rfl) (by rfl)) (fun _ => (by rfl))) (fun _ _ => (by rfl)) (by rfl)) (fun _ _ => (by rfl)) (OkA.cons (ok_excPG (C := Cc fuel call []) h g mP_BadRules (by rfl) (fun _ => hex _ _ _ (by rfl)) (by rfl) (ok_var g (at_var (i := 0) (by rfl) (by first | exact .inl rfl | exact .inr (.inl rfl) | exact .inr (.inr rfl)) (by rfl) (by rfl)) (fun _ => (by rfl))) (fun _ _ => (by rfl)) (by rfl)) (fun _ _ => (by rfl)) (OkA.cons (ok_excPG (C := Cc fuel call []) h g mP_BadLengths (by rfl) (fun _ => hex _ _ _ (by rfl)) (by rfl) (ok_var g (at_var (i := 0) (by rfl) (by first | exact .inl rfl | exact .inr (.inl rfl) | exact .inr (.inr rfl)) (by rfl) (by rfl)) (fun _ => (by rfl))) (fun _ _ => (by rfl)) (by rfl)) (fun _ _ => (by rfl)) OkA.nil))))) (fun _ _ => (by rfl))) false) hN (by rfl) (by first | exact .inl rfl | exact .inr rfl) (by rfl) (by first | exact .inl rfl | exact .inr rfl))
  (OkSs.cons (ok_asg (x := "_law_found") hP (OkE.ve (ok_bin g (v_add g) (ok_var g (at_var (i := 1) (by rfl) (by first | exact .inl rfl | exact .inr (.inl rfl) | exact .inr (.inr rfl)) (by rfl) (by rfl)) (fun _ => (by rfl))) (ok_lst g (OkA.cons (ok_excPG (C := Cc fuel call []) h g mP_NotLeast (by rfl) (fun _ => hex _ _ _ (by rfl)) (by rfl) (ok_var g (at_var (i := 0) (by rfl) (by first | exact .inl rfl | exact .inr (.inl rfl) | exact .inr (.inr rfl)) (by rfl) (by rfl)) (fun _ => (by rfl))) (fun _ _ => (by rfl)) (by rfl)) (fun _ _ => (by rfl)) (OkA.cons (ok_excPG (C := Cc fuel call []) h g mP_BadChange (by rfl) (fun _ => hex _ _ _ (by rfl)) (by rfl) (ok_var g (at_var (i := 0) (by rfl) (by first | exact .inl rfl | exact .inr (.inl rfl) | exact .inr (.inr rfl)) (by rfl) (by rfl)) (fun _ => (by rfl))) (fun _ _ => (by rfl)) (by rfl)) (fun _ _ => (by rfl)) OkA.nil))) (fun _ _ => (by rfl))) false) hN (by rfl) (by first | exact .inl rfl | exact .inr rfl) (by rfl) (by first | exact .inl rfl | exact .inr rfl))
  (OkSs.cons (ok_ret (OkE.ve (ok_mv g (pe_var (i := 1) (by rfl) (by first | exact .inl rfl | exact .inr (.inl rfl) | exact .inr (.inr rfl)) (by rfl) (by rfl)) (fun _ => (by rfl))) false))
  OkSs.nil)))))))
theorem b__law_errors_of (h : HX L w K (Xof P w K mg base ["_law_each", "_law_found"] "_law_errors_of" (top 35) f cdv A outer s H W0)) (g : GX (Xof P w K mg base ["_law_each", "_law_found"] "_law_errors_of" (top 35) f cdv A outer s H W0) (L.wd w K)) (tk : Takes (Xof P w K mg base ["_law_each", "_law_found"] "_law_errors_of" (top 35) f cdv A outer s H W0) (W1 W0)) (hr : Room kk (Xof P w K mg base ["_law_each", "_law_found"] "_law_errors_of" (top 35) f cdv A outer s H W0).A) (hr2 : Room 2 (Xof P w K mg base ["_law_each", "_law_found"] "_law_errors_of" (top 35) f cdv A outer s H W0).A) (hex : ∀ f as r, prog.excMake f as = some r → call f as = r) (I_NoWatch : GI P w K mg base "NoWatch" "name" "name") (I_BadText : GI P w K mg base "BadText" "at" "at") (I_BadLead : GI P w K mg base "BadLead" "part" "part") (I_BadMany : GI P w K mg base "BadMany" "part" "part") (I_TooMany : GI P w K mg base "TooMany" "most" "most") (I_BadFrame : GI P w K mg base "BadFrame" "part" "part") (I_BadNumber : GI P w K mg base "BadNumber" "part" "part") (hP : ∀ p ∈ Pn, p.1 ∈ ([] : List Nat)) : OkSs (Xof P w K mg base ["_law_each", "_law_found"] "_law_errors_of" (top 35) f cdv A outer s H W0) (L.wd w K) (Cc fuel call []) (W1 W0) Pn (defBody (top 35)) f__law_errors_of.body := by
  have hN : (["_law_each", "_law_found"] : List PySem.Str).Nodup := by decide
  exact (OkSs.cons (ok_asg (x := "_law_found") hP (OkE.ve (ok_lst g OkA.nil) false) hN (by rfl) (by first | exact .inl rfl | exact .inr rfl) (by rfl) (by first | exact .inl rfl | exact .inr rfl))
  (OkSs.cons (ok_expr (OkE.ve (ok_mutV g m_append paList F.slot_list_append tyApp (pe_var (i := 1) (by rfl) (by first | exact .inl rfl | exact .inr (.inl rfl) | exact .inr (.inr rfl)) (by rfl) (by rfl)) (OkA.cons (ok_tup g (OkA.cons (ok_excIG (C := Cc fuel call []) h g mI_BadNumber I_BadNumber hr2 (by rfl) (fun _ => hex _ _ _ (by rfl)) (by rfl) (ok_var g (at_var (i := 0) (by rfl) (by first | exact .inl rfl | exact .inr (.inl rfl) | exact .inr (.inr rfl)) (by rfl) (by rfl)) (fun _ => (by rfl))) (fun _ _ => (by rfl)) (by rfl)) (fun _ _ => (by rfl)) (OkA.cons (ok_attr g (ok_excIG (C := Cc fuel call []) h g mI_BadNumber I_BadNumber hr2 (by rfl) (fun _ => hex _ _ _ (by rfl)) (by rfl) (ok_var g (at_var (i := 0) (by rfl) (by first | exact .inl rfl | exact .inr (.inl rfl) | exact .inr (.inr rfl)) (by rfl) (by rfl)) (fun _ => (by rfl))) (fun _ _ => (by rfl)) (by rfl)) (fun z => by cases z) fl_part (by rfl)) (fun _ _ => (by rfl)) (OkA.cons (ok_attr g (ok_excKG (C := Cc fuel call []) h g mI_BadNumber I_BadNumber hr2 (fun _ => hex _ _ _ (by rfl)) (by rfl) (ok_var g (at_var (i := 0) (by rfl) (by first | exact .inl rfl | exact .inr (.inl rfl) | exact .inr (.inr rfl)) (by rfl) (by rfl)) (fun _ => (by rfl))) (by rfl) (by rfl) (by rfl) (by rfl)) (fun z => by cases z) fl_part (by rfl)) (fun _ _ => (by rfl)) OkA.nil)))) (fun _ _ => (by rfl)) OkA.nil) (by rfl) (by rfl) (by rfl)) false) (by rfl))
  (OkSs.cons (ok_expr (OkE.ve (ok_mutV g m_append paList F.slot_list_append tyApp (pe_var (i := 1) (by rfl) (by first | exact .inl rfl | exact .inr (.inl rfl) | exact .inr (.inr rfl)) (by rfl) (by rfl)) (OkA.cons (ok_tup g (OkA.cons (ok_excIG (C := Cc fuel call []) h g mI_BadFrame I_BadFrame hr2 (by rfl) (fun _ => hex _ _ _ (by rfl)) (by rfl) (ok_var g (at_var (i := 0) (by rfl) (by first | exact .inl rfl | exact .inr (.inl rfl) | exact .inr (.inr rfl)) (by rfl) (by rfl)) (fun _ => (by rfl))) (fun _ _ => (by rfl)) (by rfl)) (fun _ _ => (by rfl)) (OkA.cons (ok_attr g (ok_excIG (C := Cc fuel call []) h g mI_BadFrame I_BadFrame hr2 (by rfl) (fun _ => hex _ _ _ (by rfl)) (by rfl) (ok_var g (at_var (i := 0) (by rfl) (by first | exact .inl rfl | exact .inr (.inl rfl) | exact .inr (.inr rfl)) (by rfl) (by rfl)) (fun _ => (by rfl))) (fun _ _ => (by rfl)) (by rfl)) (fun z => by cases z) fl_part (by rfl)) (fun _ _ => (by rfl)) (OkA.cons (ok_attr g (ok_excKG (C := Cc fuel call []) h g mI_BadFrame I_BadFrame hr2 (fun _ => hex _ _ _ (by rfl)) (by rfl) (ok_var g (at_var (i := 0) (by rfl) (by first | exact .inl rfl | exact .inr (.inl rfl) | exact .inr (.inr rfl)) (by rfl) (by rfl)) (fun _ => (by rfl))) (by rfl) (by rfl) (by rfl) (by rfl)) (fun z => by cases z) fl_part (by rfl)) (fun _ _ => (by rfl)) OkA.nil)))) (fun _ _ => (by rfl)) OkA.nil) (by rfl) (by rfl) (by rfl)) false) (by rfl))
  (OkSs.cons (ok_expr (OkE.ve (ok_mutV g m_append paList F.slot_list_append tyApp (pe_var (i := 1) (by rfl) (by first | exact .inl rfl | exact .inr (.inl rfl) | exact .inr (.inr rfl)) (by rfl) (by rfl)) (OkA.cons (ok_tup g (OkA.cons (ok_excIG (C := Cc fuel call []) h g mI_TooMany I_TooMany hr2 (by rfl) (fun _ => hex _ _ _ (by rfl)) (by rfl) (ok_var g (at_var (i := 0) (by rfl) (by first | exact .inl rfl | exact .inr (.inl rfl) | exact .inr (.inr rfl)) (by rfl) (by rfl)) (fun _ => (by rfl))) (fun _ _ => (by rfl)) (by rfl)) (fun _ _ => (by rfl)) (OkA.cons (ok_attr g (ok_excIG (C := Cc fuel call []) h g mI_TooMany I_TooMany hr2 (by rfl) (fun _ => hex _ _ _ (by rfl)) (by rfl) (ok_var g (at_var (i := 0) (by rfl) (by first | exact .inl rfl | exact .inr (.inl rfl) | exact .inr (.inr rfl)) (by rfl) (by rfl)) (fun _ => (by rfl))) (fun _ _ => (by rfl)) (by rfl)) (fun z => by cases z) fl_most (by rfl)) (fun _ _ => (by rfl)) (OkA.cons (ok_attr g (ok_excKG (C := Cc fuel call []) h g mI_TooMany I_TooMany hr2 (fun _ => hex _ _ _ (by rfl)) (by rfl) (ok_var g (at_var (i := 0) (by rfl) (by first | exact .inl rfl | exact .inr (.inl rfl) | exact .inr (.inr rfl)) (by rfl) (by rfl)) (fun _ => (by rfl))) (by rfl) (by rfl) (by rfl) (by rfl)) (fun z => by cases z) fl_most (by rfl)) (fun _ _ => (by rfl)) OkA.nil)))) (fun _ _ => (by rfl)) OkA.nil) (by rfl) (by rfl) (by rfl)) false) (by rfl))
  (OkSs.cons (ok_expr (OkE.ve (ok_mutV g m_append paList F.slot_list_append tyApp (pe_var (i := 1) (by rfl) (by first | exact .inl rfl | exact .inr (.inl rfl) | exact .inr (.inr rfl)) (by rfl) (by rfl)) (OkA.cons (ok_tup g (OkA.cons (ok_excIG (C := Cc fuel call []) h g mI_BadMany I_BadMany hr2 (by rfl) (fun _ => hex _ _ _ (by rfl)) (by rfl) (ok_var g (at_var (i := 0) (by rfl) (by first | exact .inl rfl | exact .inr (.inl rfl) | exact .inr (.inr rfl)) (by rfl) (by rfl)) (fun _ => (by rfl))) (fun _ _ => (by rfl)) (by rfl)) (fun _ _ => (by rfl)) (OkA.cons (ok_attr g (ok_excIG (C := Cc fuel call []) h g mI_BadMany I_BadMany hr2 (by rfl) (fun _ => hex _ _ _ (by rfl)) (by rfl) (ok_var g (at_var (i := 0) (by rfl) (by first | exact .inl rfl | exact .inr (.inl rfl) | exact .inr (.inr rfl)) (by rfl) (by rfl)) (fun _ => (by rfl))) (fun _ _ => (by rfl)) (by rfl)) (fun z => by cases z) fl_part (by rfl)) (fun _ _ => (by rfl)) (OkA.cons (ok_attr g (ok_excKG (C := Cc fuel call []) h g mI_BadMany I_BadMany hr2 (fun _ => hex _ _ _ (by rfl)) (by rfl) (ok_var g (at_var (i := 0) (by rfl) (by first | exact .inl rfl | exact .inr (.inl rfl) | exact .inr (.inr rfl)) (by rfl) (by rfl)) (fun _ => (by rfl))) (by rfl) (by rfl) (by rfl) (by rfl)) (fun z => by cases z) fl_part (by rfl)) (fun _ _ => (by rfl)) OkA.nil)))) (fun _ _ => (by rfl)) OkA.nil) (by rfl) (by rfl) (by rfl)) false) (by rfl))
  (OkSs.cons (ok_expr (OkE.ve (ok_mutV g m_append paList F.slot_list_append tyApp (pe_var (i := 1) (by rfl) (by first | exact .inl rfl | exact .inr (.inl rfl) | exact .inr (.inr rfl)) (by rfl) (by rfl)) (OkA.cons (ok_tup g (OkA.cons (ok_excIG (C := Cc fuel call []) h g mI_BadLead I_BadLead hr2 (by rfl) (fun _ => hex _ _ _ (by rfl)) (by rfl) (ok_var g (at_var (i := 0) (by rfl) (by first | exact .inl rfl | exact .inr (.inl rfl) | exact .inr (.inr rfl)) (by rfl) (by rfl)) (fun _ => (by rfl))) (fun _ _ => (by rfl)) (by rfl)) (fun _ _ => (by rfl)) (OkA.cons (ok_attr g (ok_excIG (C := Cc fuel call []) h g mI_BadLead I_BadLead hr2 (by rfl) (fun _ => hex _ _ _ (by rfl)) (by rfl) (ok_var g (at_var (i := 0) (by rfl) (by first | exact .inl rfl | exact .inr (.inl rfl) | exact .inr (.inr rfl)) (by rfl) (by rfl)) (fun _ => (by rfl))) (fun _ _ => (by rfl)) (by rfl)) (fun z => by cases z) fl_part (by rfl)) (fun _ _ => (by rfl)) (OkA.cons (ok_attr g (ok_excKG (C := Cc fuel call []) h g mI_BadLead I_BadLead hr2 (fun _ => hex _ _ _ (by rfl)) (by rfl) (ok_var g (at_var (i := 0) (by rfl) (by first | exact .inl rfl | exact .inr (.inl rfl) | exact .inr (.inr rfl)) (by rfl) (by rfl)) (fun _ => (by rfl))) (by rfl) (by rfl) (by rfl) (by rfl)) (fun z => by cases z) fl_part (by rfl)) (fun _ _ => (by rfl)) OkA.nil)))) (fun _ _ => (by rfl)) OkA.nil) (by rfl) (by rfl) (by rfl)) false) (by rfl))
  (OkSs.cons (ok_expr (OkE.ve (ok_mutV g m_append paList F.slot_list_append tyApp (pe_var (i := 1) (by rfl) (by first | exact .inl rfl | exact .inr (.inl rfl) | exact .inr (.inr rfl)) (by rfl) (by rfl)) (OkA.cons (ok_tup g (OkA.cons (ok_excIG (C := Cc fuel call []) h g mI_BadText I_BadText hr2 (by rfl) (fun _ => hex _ _ _ (by rfl)) (by rfl) (ok_var g (at_var (i := 0) (by rfl) (by first | exact .inl rfl | exact .inr (.inl rfl) | exact .inr (.inr rfl)) (by rfl) (by rfl)) (fun _ => (by rfl))) (fun _ _ => (by rfl)) (by rfl)) (fun _ _ => (by rfl)) (OkA.cons (ok_attr g (ok_excIG (C := Cc fuel call []) h g mI_BadText I_BadText hr2 (by rfl) (fun _ => hex _ _ _ (by rfl)) (by rfl) (ok_var g (at_var (i := 0) (by rfl) (by first | exact .inl rfl | exact .inr (.inl rfl) | exact .inr (.inr rfl)) (by rfl) (by rfl)) (fun _ => (by rfl))) (fun _ _ => (by rfl)) (by rfl)) (fun z => by cases z) fl_at (by rfl)) (fun _ _ => (by rfl)) (OkA.cons (ok_attr g (ok_excKG (C := Cc fuel call []) h g mI_BadText I_BadText hr2 (fun _ => hex _ _ _ (by rfl)) (by rfl) (ok_var g (at_var (i := 0) (by rfl) (by first | exact .inl rfl | exact .inr (.inl rfl) | exact .inr (.inr rfl)) (by rfl) (by rfl)) (fun _ => (by rfl))) (by rfl) (by rfl) (by rfl) (by rfl)) (fun z => by cases z) fl_at (by rfl)) (fun _ _ => (by rfl)) OkA.nil)))) (fun _ _ => (by rfl)) OkA.nil) (by rfl) (by rfl) (by rfl)) false) (by rfl))
  (OkSs.cons (ok_expr (OkE.ve (ok_mutV g m_append paList F.slot_list_append tyApp (pe_var (i := 1) (by rfl) (by first | exact .inl rfl | exact .inr (.inl rfl) | exact .inr (.inr rfl)) (by rfl) (by rfl)) (OkA.cons (ok_tup g (OkA.cons (ok_excIG (C := Cc fuel call []) h g mI_NoWatch I_NoWatch hr2 (by rfl) (fun _ => hex _ _ _ (by rfl)) (by rfl) (ok_var g (at_var (i := 0) (by rfl) (by first | exact .inl rfl | exact .inr (.inl rfl) | exact .inr (.inr rfl)) (by rfl) (by rfl)) (fun _ => (by rfl))) (fun _ _ => (by rfl)) (by rfl)) (fun _ _ => (by rfl)) (OkA.cons (ok_attr g (ok_excIG (C := Cc fuel call []) h g mI_NoWatch I_NoWatch hr2 (by rfl) (fun _ => hex _ _ _ (by rfl)) (by rfl) (ok_var g (at_var (i := 0) (by rfl) (by first | exact .inl rfl | exact .inr (.inl rfl) | exact .inr (.inr rfl)) (by rfl) (by rfl)) (fun _ => (by rfl))) (fun _ _ => (by rfl)) (by rfl)) (fun z => by cases z) fl_name (by rfl)) (fun _ _ => (by rfl)) (OkA.cons (ok_attr g (ok_excKG (C := Cc fuel call []) h g mI_NoWatch I_NoWatch hr2 (fun _ => hex _ _ _ (by rfl)) (by rfl) (ok_var g (at_var (i := 0) (by rfl) (by first | exact .inl rfl | exact .inr (.inl rfl) | exact .inr (.inr rfl)) (by rfl) (by rfl)) (fun _ => (by rfl))) (by rfl) (by rfl) (by rfl) (by rfl)) (fun z => by cases z) fl_name (by rfl)) (fun _ _ => (by rfl)) OkA.nil)))) (fun _ _ => (by rfl)) OkA.nil) (by rfl) (by rfl) (by rfl)) false) (by rfl))
  (OkSs.cons (ok_ret (OkE.ve (ok_mv g (pe_var (i := 1) (by rfl) (by first | exact .inl rfl | exact .inr (.inl rfl) | exact .inr (.inr rfl)) (by rfl) (by rfl)) (fun _ => (by rfl))) false))
  OkSs.nil)))))))))
theorem b_law (h : HX L w K (Xof P w K mg base ["_law_script", "_law_draw", "_law_threes_here", "_law_errors_here", "_law_base_here", "_law_words_here", "_law_each", "_law_spot", "_law_error", "_law_item", "_law_k"] "law" (top 36) f cdv A outer s H W0)) (g : GX (Xof P w K mg base ["_law_script", "_law_draw", "_law_threes_here", "_law_errors_here", "_law_base_here", "_law_words_here", "_law_each", "_law_spot", "_law_error", "_law_item", "_law_k"] "law" (top 36) f cdv A outer s H W0) (L.wd w K)) (tk : Takes (Xof P w K mg base ["_law_script", "_law_draw", "_law_threes_here", "_law_errors_here", "_law_base_here", "_law_words_here", "_law_each", "_law_spot", "_law_error", "_law_item", "_law_k"] "law" (top 36) f cdv A outer s H W0) (W1 W0)) (hr : Room kk (Xof P w K mg base ["_law_script", "_law_draw", "_law_threes_here", "_law_errors_here", "_law_base_here", "_law_words_here", "_law_each", "_law_spot", "_law_error", "_law_item", "_law_k"] "law" (top 36) f cdv A outer s H W0).A) (hr2 : Room 2 (Xof P w K mg base ["_law_script", "_law_draw", "_law_threes_here", "_law_errors_here", "_law_base_here", "_law_words_here", "_law_each", "_law_spot", "_law_error", "_law_item", "_law_k"] "law" (top 36) f cdv A outer s H W0).A) (hex : ∀ f as r, prog.excMake f as = some r → call f as = r) (D__law_kinds : GD P w K mg base (L.wd w K) call kk "_law_kinds" [] ["_law_error"]) (D__law_plain_errors : GD P w K mg base (L.wd w K) call kk "_law_plain_errors" [] ["_law_words_here"]) (D__law_errors_of : GD P w K mg base (L.wd w K) call kk "_law_errors_of" [] ["_law_each"]) (D__law_any : GD P w K mg base (L.wd w K) call kk "_law_any" [0] ["_law_draw"]) (D__law_pick : GD P w K mg base (L.wd w K) call kk "_law_pick" [0] ["_law_draw", "_law_some"]) (D__law_begun : GD P w K mg base (L.wd w K) call kk "_law_begun" [] ["_law_script"]) (hP : ∀ p ∈ Pn, p.1 ∈ ([] : List Nat)) : OkSs (Xof P w K mg base ["_law_script", "_law_draw", "_law_threes_here", "_law_errors_here", "_law_base_here", "_law_words_here", "_law_each", "_law_spot", "_law_error", "_law_item", "_law_k"] "law" (top 36) f cdv A outer s H W0) (L.wd w K) (Cc fuel call []) (W1 W0) Pn (defBody (top 36)) f_law.body := by
  have hN : (["_law_script", "_law_draw", "_law_threes_here", "_law_errors_here", "_law_base_here", "_law_words_here", "_law_each", "_law_spot", "_law_error", "_law_item", "_law_k"] : List PySem.Str).Nodup := by decide
  exact (OkSs.cons (ok_asg (x := "_law_draw") hP (OkE.ve (ok_callD (C := Cc fuel call []) (io := []) (by rfl) g tk D__law_begun hr (by rfl) (by rfl) (OkR.val (by decide) (ok_var g (at_var (i := 0) (by rfl) (by first | exact .inl rfl | exact .inr (.inl rfl) | exact .inr (.inr rfl)) (by rfl) (by rfl)) (fun _ => (by rfl))) (fun _ _ => (by rfl)) OkR.nil) (by rfl)) false) hN (by rfl) (by first | exact .inl rfl | exact .inr rfl) (by rfl) (by first | exact .inl rfl | exact .inr rfl))
  (OkSs.cons (ok_parC g hP hN (.cons (by rfl) (by first | exact .inl rfl | exact .inr rfl) (by first | exact .inl rfl | exact .inr rfl) (.cons (by rfl) (by first | exact .inl rfl | exact .inr rfl) (by first | exact .inl rfl | exact .inr rfl) .nil)) (OkA.cons (ok_callD (C := Cc fuel call []) (io := [0]) (by rfl) g tk D__law_pick hr (by rfl) (by rfl) (OkR.io (by decide) (pe_var (i := 1) (by rfl) (by first | exact .inl rfl | exact .inr (.inl rfl) | exact .inr (.inr rfl)) (by rfl) (by rfl)) (fun _ _ => (by rfl)) (OkR.val (by decide) (ok_lst g (OkA.cons (ok_cst g pe_str (fun _ _ => (by rfl)) (fun _ => (by rfl))) (fun _ _ => (by rfl)) (OkA.cons (ok_cst g pe_str (fun _ _ => (by rfl)) (fun _ => (by rfl))) (fun _ _ => (by rfl)) (OkA.cons (ok_cst g pe_str (fun _ _ => (by rfl)) (fun _ => (by rfl))) (fun _ _ => (by rfl)) OkA.nil)))) (fun _ _ => (by rfl)) OkR.nil)) (by rfl)) (fun _ _ => (by rfl)) (OkA.cons (ok_callD (C := Cc fuel call []) (io := [0]) (by rfl) g tk D__law_any hr (by rfl) (by rfl) (OkR.io (by decide) (pe_var (i := 1) (by rfl) (by first | exact .inl rfl | exact .inr (.inl rfl) | exact .inr (.inr rfl)) (by rfl) (by rfl)) (fun _ _ => (by rfl)) OkR.nil) (by rfl)) (fun _ _ => (by rfl)) OkA.nil)) (by decide) (by rfl) (by rfl))
  (OkSs.cons (ok_asg (x := "_law_threes_here") hP (OkE.ve (ok_callD (C := Cc fuel call []) (io := []) (by rfl) g tk D__law_errors_of hr (by rfl) (by rfl) (OkR.val (by decide) (ok_var g (at_var (i := 6) (by rfl) (by first | exact .inl rfl | exact .inr (.inl rfl) | exact .inr (.inr rfl)) (by rfl) (by rfl)) (fun _ => (by rfl))) (fun _ _ => (by rfl)) OkR.nil) (by rfl)) false) hN (by rfl) (by first | exact .inl rfl | exact .inr rfl) (by rfl) (by first | exact .inl rfl | exact .inr rfl))
  (OkSs.cons (ok_asg (x := "_law_errors_here") hP (OkE.ve (ok_bin g (v_add g) (ok_callD (C := Cc fuel call []) (io := []) (by rfl) g tk D__law_plain_errors hr (by rfl) (by rfl) (OkR.val (by decide) (ok_var g (at_var (i := 5) (by rfl) (by first | exact .inl rfl | exact .inr (.inl rfl) | exact .inr (.inr rfl)) (by rfl) (by rfl)) (fun _ => (by rfl))) (fun _ _ => (by rfl)) OkR.nil) (by rfl)) (ok_comp g hN (oki_seq g (ok_var g (at_var (i := 2) (by rfl) (by first | exact .inl rfl | exact .inr (.inl rfl) | exact .inr (.inr rfl)) (by rfl) (by rfl)) (fun _ => (by rfl)))) (own := [("_law_item", 9)]) (blkOk_by (by rfl)) (by rfl) ⟨fun _ _ _ _ _ => (okg_name (fun _ z => by cases z) hN (by rfl) (by first | exact .inl rfl | exact .inr rfl) (by first | exact .inl rfl | exact .inr rfl)), fun _ _ _ _ _ => pts_none, fun _ _ _ _ _ => (OkE.ve (ok_itemK g.blk (ok_var g.blk (at_var (i := 9) (by rfl) (by first | exact .inl rfl | exact .inr (.inl rfl) | exact .inr (.inr rfl)) (by rfl) (by rfl)) (fun _ => (by rfl))) (fun _ => (at_var (i := 9) (by rfl) (by first | exact .inl rfl | exact .inr (.inl rfl) | exact .inr (.inr rfl)) (by rfl) (by rfl))) (ok_cst g.blk pe_int (fun _ _ => (by rfl)) (fun _ => (by rfl))) (key_cst pe_int (fun _ _ => (by rfl))) (fun _ _ => (by rfl))) false)⟩ (fun _ => (by rfl))) (fun _ _ => (by rfl))) false) hN (by rfl) (by first | exact .inl rfl | exact .inr rfl) (by rfl) (by first | exact .inl rfl | exact .inr rfl))
  (OkSs.cons (ok_fore g (passes_of (by rfl)) (oki_enum g (OkA.cons (ok_var g (at_var (i := 3) (by rfl) (by first | exact .inl rfl | exact .inr (.inl rfl) | exact .inr (.inr rfl)) (by rfl) (by rfl)) (fun _ => (by rfl))) (fun _ _ => (by rfl)) OkA.nil) (by rfl) (h.free fr_enumerate) (fun _ _ => (by rfl))) (okg_tup g (okgs_cons (okg_name hP hN (by rfl) (by first | exact .inl rfl | exact .inr rfl) (by first | exact .inl rfl | exact .inr rfl)) (fun _ _ => (by rfl)) (okgs_cons (okg_name hP hN (by rfl) (by first | exact .inl rfl | exact .inr rfl) (by first | exact .inl rfl | exact .inr rfl)) (fun _ _ => (by rfl)) okgs_nil))) (OkSs.cons (ok_ife (OkE.t (ok_cmp g (by rfl) (v_ne g) (ok_callD (C := Cc fuel call []) (io := []) (by rfl) g tk D__law_kinds hr (by rfl) (by rfl) (OkR.val (by decide) (ok_var g (at_var (i := 8) (by rfl) (by first | exact .inl rfl | exact .inr (.inl rfl) | exact .inr (.inr rfl)) (by rfl) (by rfl)) (fun _ => (by rfl))) (fun _ _ => (by rfl)) OkR.nil) (by rfl)) (ok_comp g hN (oki_range1 (OkA.cons (ok_cst g pe_int (fun _ _ => (by rfl)) (fun _ => (by rfl))) (fun _ _ => (by rfl)) OkA.nil) (by rfl) (h.free fr_range) (fun _ _ => (by rfl))) (own := [("_law_k", 10)]) (blkOk_by (by rfl)) (by rfl) ⟨fun _ _ _ _ _ => (okg_name (fun _ z => by cases z) hN (by rfl) (by first | exact .inl rfl | exact .inr rfl) (by first | exact .inl rfl | exact .inr rfl)), fun _ _ _ _ _ => pts_none, fun _ _ _ _ _ => (OkE.ve (ok_cmp g.blk (by rfl) (v_eq g.blk) (ok_var g.blk (at_var (i := 10) (by rfl) (by first | exact .inl rfl | exact .inr (.inl rfl) | exact .inr (.inr rfl)) (by rfl) (by rfl)) (fun _ => (by rfl))) (ok_var g.blk (at_var (i := 7) (by rfl) (by first | exact .inl rfl | exact .inr (.inl rfl) | exact .inr (.inr rfl)) (by rfl) (by rfl)) (fun _ => (by rfl))) (fun _ _ => (by rfl)) (by rfl)) false)⟩ (fun _ => (by rfl))) (fun _ _ => (by rfl)) (by rfl)) false) (OkSs.cons (ok_ret (OkE.ve (ok_cst g pe_bl (fun _ _ => (by rfl)) (fun _ => (by rfl))) false))
  OkSs.nil) OkSs.nil)
  (OkSs.cons (ok_ife (OkE.t (OkB.ok (OkB.or (ok_not g (ok_iscO h g (by rfl) (ok_var g (at_var (i := 8) (by rfl) (by first | exact .inl rfl | exact .inr (.inl rfl) | exact .inr (.inr rfl)) (by rfl) (by rfl)) (fun _ => (by rfl))) mo_LeftError mi_LeftError (by rfl) (fun _ _ => (by rfl)) (by rfl) fr_isinstance (by rfl))) (OkB.one (ok_not g (ok_iscT h g (by rfl) (ok_var g (at_var (i := 8) (by rfl) (by first | exact .inl rfl | exact .inr (.inl rfl) | exact .inr (.inr rfl)) (by rfl) (by rfl)) (fun _ => (by rfl))) (by decide) mi_ValueError (by rfl) (fun _ _ => (by rfl)) (by rfl) fr_isinstance fr_ValueError (by decide +kernel) (by decide) (by rfl))))) (by rfl)) false) (OkSs.cons (ok_ret (OkE.ve (ok_cst g pe_bl (fun _ _ => (by rfl)) (fun _ => (by rfl))) false))
  OkSs.nil) OkSs.nil)
  OkSs.nil)) (fun _ => (by rfl)))
  (OkSs.cons (ok_ife (OkE.t (ok_cmp g (by rfl) (v_ne g) (ok_comp g hN (oki_seq g (ok_var g (at_var (i := 2) (by rfl) (by first | exact .inl rfl | exact .inr (.inl rfl) | exact .inr (.inr rfl)) (by rfl) (by rfl)) (fun _ => (by rfl)))) (own := [("_law_item", 9)]) (blkOk_by (by rfl)) (by rfl) ⟨fun _ _ _ _ _ => (okg_name (fun _ z => by cases z) hN (by rfl) (by first | exact .inl rfl | exact .inr rfl) (by first | exact .inl rfl | exact .inr rfl)), fun _ _ _ _ _ => (pts_cond (OkE.t (ok_cmp g.blk (by rfl) (v_ne g.blk) (ok_callB g.blk (c_repr g.blk) (by rfl) (h.blk.free fr_repr) (by rfl) (OkA.cons (ok_lst g.blk (OkA.cons (ok_itemK g.blk (ok_var g.blk (at_var (i := 9) (by rfl) (by first | exact .inl rfl | exact .inr (.inl rfl) | exact .inr (.inr rfl)) (by rfl) (by rfl)) (fun _ => (by rfl))) (fun _ => (at_var (i := 9) (by rfl) (by first | exact .inl rfl | exact .inr (.inl rfl) | exact .inr (.inr rfl)) (by rfl) (by rfl))) (ok_cst g.blk pe_int (fun _ _ => (by rfl)) (fun _ => (by rfl))) (key_cst pe_int (fun _ _ => (by rfl))) (fun _ _ => (by rfl))) (fun _ _ => (by rfl)) (OkA.cons (ok_itemK g.blk (ok_var g.blk (at_var (i := 9) (by rfl) (by first | exact .inl rfl | exact .inr (.inl rfl) | exact .inr (.inr rfl)) (by rfl) (by rfl)) (fun _ => (by rfl))) (fun _ => (at_var (i := 9) (by rfl) (by first | exact .inl rfl | exact .inr (.inl rfl) | exact .inr (.inr rfl)) (by rfl) (by rfl))) (ok_cst g.blk pe_int (fun _ _ => (by rfl)) (fun _ => (by rfl))) (key_cst pe_int (fun _ _ => (by rfl))) (fun _ _ => (by rfl))) (fun _ _ => (by rfl)) OkA.nil))) (fun _ _ => (by rfl)) OkA.nil) (by decide) (by rfl) (fun _ _ => (by rfl))) (ok_callB g.blk (c_repr g.blk) (by rfl) (h.blk.free fr_repr) (by rfl) (OkA.cons (ok_lst g.blk (OkA.cons (ok_var g.blk (at_var (i := 6) (by rfl) (by first | exact .inl rfl | exact .inr (.inl rfl) | exact .inr (.inr rfl)) (by rfl) (by rfl)) (fun _ => (by rfl))) (fun _ _ => (by rfl)) (OkA.cons (ok_var g.blk (at_var (i := 6) (by rfl) (by first | exact .inl rfl | exact .inr (.inl rfl) | exact .inr (.inr rfl)) (by rfl) (by rfl)) (fun _ => (by rfl))) (fun _ _ => (by rfl)) OkA.nil))) (fun _ _ => (by rfl)) OkA.nil) (by decide) (by rfl) (fun _ _ => (by rfl))) (fun _ _ => (by rfl)) (by rfl)) false)), fun _ _ _ _ _ => (OkE.ve (ok_cst g.blk pe_int (fun _ _ => (by rfl)) (fun _ => (by rfl))) false)⟩ (fun _ => (by rfl))) (ok_lst g OkA.nil) (fun _ _ => (by rfl)) (by rfl)) false) (OkSs.cons (ok_ret (OkE.ve (ok_cst g pe_bl (fun _ _ => (by rfl)) (fun _ => (by rfl))) false))
  OkSs.nil) OkSs.nil)
  (OkSs.cons (ok_asg (x := "_law_base_here") hP (OkE.ve (ok_excPG (C := Cc fuel call []) h g mP_LeftError (by rfl) (fun _ => hex _ _ _ (by rfl)) (by rfl) (ok_cst g pe_str (fun _ _ => (by rfl)) (fun _ => (by rfl))) (fun _ _ => (by rfl)) (by rfl)) false) hN (by rfl) (by first | exact .inl rfl | exact .inr rfl) (by rfl) (by first | exact .inl rfl | exact .inr rfl))
  (OkSs.cons (ok_ret (OkE.ve (OkB.ok (OkB.and (ok_cmp g (by rfl) (v_notin g) (ok_cst g pe_bl (fun _ _ => (by rfl)) (fun _ => (by rfl))) (ok_callD (C := Cc fuel call []) (io := []) (by rfl) g tk D__law_kinds hr (by rfl) (by rfl) (OkR.val (by decide) (ok_var g (at_var (i := 4) (by rfl) (by first | exact .inl rfl | exact .inr (.inl rfl) | exact .inr (.inr rfl)) (by rfl) (by rfl)) (fun _ => (by rfl))) (fun _ _ => (by rfl)) OkR.nil) (by rfl)) (fun _ _ => (by rfl)) (by rfl)) (OkB.one (ok_iscT h g (by rfl) (ok_var g (at_var (i := 4) (by rfl) (by first | exact .inl rfl | exact .inr (.inl rfl) | exact .inr (.inr rfl)) (by rfl) (by rfl)) (fun _ => (by rfl))) (by decide) mi_ValueError (by rfl) (fun _ _ => (by rfl)) (by rfl) fr_isinstance fr_ValueError (by decide +kernel) (by decide) (by rfl)))) (by rfl)) false))
  OkSs.nil))))))))
end
/-! ### the exception classes with an own __init__ -/
theorem gi_BadNumber {w : World} {K : PySem.W.Frag} {mg : Str → Option Value} {base : Heap} (o : L.Ok K) (e : iniOb K "BadNumber" = iniVal "BadNumber.__init__" (defArgs (methS (top 3) 0)) (defBody (methS (top 3) 0)) (defScope (methS (top 3) 0))) (hB : iniB PySem.Challenge.pw_leftproducts_k00_errors_of_all_parts.main.file K "BadNumber" "part" = true) (hmg : mg "super" = none) : GI PySem.Challenge.pw_leftproducts_k00_errors_of_all_parts w K mg base "BadNumber" "part" "part" :=
  gi_of o mI_BadNumber e hB (sf := "self") rfl (NdefX.nscope_by (by decide +kernel)) rfl rfl (by decide +kernel) hmg rfl (fun _ => rfl) (fun _ _ _ _ => rfl) ⟨_, fun _ => rfl⟩ (fun _ => rfl) (by decide) (by decide) (by decide) (by decide) (fun _ _ _ _ _ _ _ _ => rfl) (fun _ _ _ _ _ _ _ _ => rfl)
theorem gi_BadFrame {w : World} {K : PySem.W.Frag} {mg : Str → Option Value} {base : Heap} (o : L.Ok K) (e : iniOb K "BadFrame" = iniVal "BadFrame.__init__" (defArgs (methS (top 4) 0)) (defBody (methS (top 4) 0)) (defScope (methS (top 4) 0))) (hB : iniB PySem.Challenge.pw_leftproducts_k00_errors_of_all_parts.main.file K "BadFrame" "part" = true) (hmg : mg "super" = none) : GI PySem.Challenge.pw_leftproducts_k00_errors_of_all_parts w K mg base "BadFrame" "part" "part" :=
  gi_of o mI_BadFrame e hB (sf := "self") rfl (NdefX.nscope_by (by decide +kernel)) rfl rfl (by decide +kernel) hmg rfl (fun _ => rfl) (fun _ _ _ _ => rfl) ⟨_, fun _ => rfl⟩ (fun _ => rfl) (by decide) (by decide) (by decide) (by decide) (fun _ _ _ _ _ _ _ _ => rfl) (fun _ _ _ _ _ _ _ _ => rfl)
theorem gi_TooMany {w : World} {K : PySem.W.Frag} {mg : Str → Option Value} {base : Heap} (o : L.Ok K) (e : iniOb K "TooMany" = iniVal "TooMany.__init__" (defArgs (methS (top 8) 0)) (defBody (methS (top 8) 0)) (defScope (methS (top 8) 0))) (hB : iniB PySem.Challenge.pw_leftproducts_k00_errors_of_all_parts.main.file K "TooMany" "most" = true) (hmg : mg "super" = none) : GI PySem.Challenge.pw_leftproducts_k00_errors_of_all_parts w K mg base "TooMany" "most" "most" :=
  gi_of o mI_TooMany e hB (sf := "self") rfl (NdefX.nscope_by (by decide +kernel)) rfl rfl (by decide +kernel) hmg rfl (fun _ => rfl) (fun _ _ _ _ => rfl) ⟨_, fun _ => rfl⟩ (fun _ => rfl) (by decide) (by decide) (by decide) (by decide) (fun _ _ _ _ _ _ _ _ => rfl) (fun _ _ _ _ _ _ _ _ => rfl)
theorem gi_BadMany {w : World} {K : PySem.W.Frag} {mg : Str → Option Value} {base : Heap} (o : L.Ok K) (e : iniOb K "BadMany" = iniVal "BadMany.__init__" (defArgs (methS (top 9) 0)) (defBody (methS (top 9) 0)) (defScope (methS (top 9) 0))) (hB : iniB PySem.Challenge.pw_leftproducts_k00_errors_of_all_parts.main.file K "BadMany" "part" = true) (hmg : mg "super" = none) : GI PySem.Challenge.pw_leftproducts_k00_errors_of_all_parts w K mg base "BadMany" "part" "part" :=
  gi_of o mI_BadMany e hB (sf := "self") rfl (NdefX.nscope_by (by decide +kernel)) rfl rfl (by decide +kernel) hmg rfl (fun _ => rfl) (fun _ _ _ _ => rfl) ⟨_, fun _ => rfl⟩ (fun _ => rfl) (by decide) (by decide) (by decide) (by decide) (fun _ _ _ _ _ _ _ _ => rfl) (fun _ _ _ _ _ _ _ _ => rfl)
theorem gi_BadLead {w : World} {K : PySem.W.Frag} {mg : Str → Option Value} {base : Heap} (o : L.Ok K) (e : iniOb K "BadLead" = iniVal "BadLead.__init__" (defArgs (methS (top 10) 0)) (defBody (methS (top 10) 0)) (defScope (methS (top 10) 0))) (hB : iniB PySem.Challenge.pw_leftproducts_k00_errors_of_all_parts.main.file K "BadLead" "part" = true) (hmg : mg "super" = none) : GI PySem.Challenge.pw_leftproducts_k00_errors_of_all_parts w K mg base "BadLead" "part" "part" :=
  gi_of o mI_BadLead e hB (sf := "self") rfl (NdefX.nscope_by (by decide +kernel)) rfl rfl (by decide +kernel) hmg rfl (fun _ => rfl) (fun _ _ _ _ => rfl) ⟨_, fun _ => rfl⟩ (fun _ => rfl) (by decide) (by decide) (by decide) (by decide) (fun _ _ _ _ _ _ _ _ => rfl) (fun _ _ _ _ _ _ _ _ => rfl)
theorem gi_BadText {w : World} {K : PySem.W.Frag} {mg : Str → Option Value} {base : Heap} (o : L.Ok K) (e : iniOb K "BadText" = iniVal "BadText.__init__" (defArgs (methS (top 17) 0)) (defBody (methS (top 17) 0)) (defScope (methS (top 17) 0))) (hB : iniB PySem.Challenge.pw_leftproducts_k00_errors_of_all_parts.main.file K "BadText" "at" = true) (hmg : mg "super" = none) : GI PySem.Challenge.pw_leftproducts_k00_errors_of_all_parts w K mg base "BadText" "at" "at" :=
  gi_of o mI_BadText e hB (sf := "self") rfl (NdefX.nscope_by (by decide +kernel)) rfl rfl (by decide +kernel) hmg rfl (fun _ => rfl) (fun _ _ _ _ => rfl) ⟨_, fun _ => rfl⟩ (fun _ => rfl) (by decide) (by decide) (by decide) (by decide) (fun _ _ _ _ _ _ _ _ => rfl) (fun _ _ _ _ _ _ _ _ => rfl)
theorem gi_NoWatch {w : World} {K : PySem.W.Frag} {mg : Str → Option Value} {base : Heap} (o : L.Ok K) (e : iniOb K "NoWatch" = iniVal "NoWatch.__init__" (defArgs (methS (top 18) 0)) (defBody (methS (top 18) 0)) (defScope (methS (top 18) 0))) (hB : iniB PySem.Challenge.pw_leftproducts_k00_errors_of_all_parts.main.file K "NoWatch" "name" = true) (hmg : mg "super" = none) : GI PySem.Challenge.pw_leftproducts_k00_errors_of_all_parts w K mg base "NoWatch" "name" "name" :=
  gi_of o mI_NoWatch e hB (sf := "self") rfl (NdefX.nscope_by (by decide +kernel)) rfl rfl (by decide +kernel) hmg rfl (fun _ => rfl) (fun _ _ _ _ => rfl) ⟨_, fun _ => rfl⟩ (fun _ => rfl) (by decide) (by decide) (by decide) (by decide) (fun _ _ _ _ _ _ _ _ => rfl) (fun _ _ _ _ _ _ _ _ => rfl)
/-! ### what the head tells -/
def fn0 : List He.DefD := [⟨("_law_begun", none), "_law_begun", "_law_begun", defArgs (top 28), defBody (top 28), defScope (top 28), [], []⟩,
 ⟨("_law_mixed", none), "_law_mixed", "_law_mixed", defArgs (top 29), defBody (top 29), defScope (top 29), [], []⟩,
 ⟨("_law_take", none), "_law_take", "_law_take", defArgs (top 30), defBody (top 30), defScope (top 30), [], []⟩,
 ⟨("_law_pick", none), "_law_pick", "_law_pick", defArgs (top 31), defBody (top 31), defScope (top 31), [], []⟩,
 ⟨("_law_any", none), "_law_any", "_law_any", defArgs (top 32), defBody (top 32), defScope (top 32), [], []⟩,
 ⟨("_law_kinds", none), "_law_kinds", "_law_kinds", defArgs (top 33), defBody (top 33), defScope (top 33), [], []⟩,
 ⟨("_law_plain_errors", none), "_law_plain_errors", "_law_plain_errors", defArgs (top 34), defBody (top 34), defScope (top 34), [], []⟩,
 ⟨("_law_errors_of", none), "_law_errors_of", "_law_errors_of", defArgs (top 35), defBody (top 35), defScope (top 35), [], []⟩,
 ⟨("law", none), "law", "law", defArgs (top 36), defBody (top 36), defScope (top 36), [], []⟩]
def fn : List He.DefD := fn0
def defNames : List String := ["_law_begun", "_law_mixed", "_law_take", "_law_pick", "_law_any", "_law_kinds", "_law_plain_errors", "_law_errors_of", "law"]
def iniNames : List String := ["BadNumber", "BadFrame", "TooMany", "BadMany", "BadLead", "BadText", "NoWatch"]
def iniVals : List IniV := [iniVal "BadNumber.__init__" (defArgs (methS (top 3) 0)) (defBody (methS (top 3) 0)) (defScope (methS (top 3) 0)),
 iniVal "BadFrame.__init__" (defArgs (methS (top 4) 0)) (defBody (methS (top 4) 0)) (defScope (methS (top 4) 0)),
 iniVal "TooMany.__init__" (defArgs (methS (top 8) 0)) (defBody (methS (top 8) 0)) (defScope (methS (top 8) 0)),
 iniVal "BadMany.__init__" (defArgs (methS (top 9) 0)) (defBody (methS (top 9) 0)) (defScope (methS (top 9) 0)),
 iniVal "BadLead.__init__" (defArgs (methS (top 10) 0)) (defBody (methS (top 10) 0)) (defScope (methS (top 10) 0)),
 iniVal "BadText.__init__" (defArgs (methS (top 17) 0)) (defBody (methS (top 17) 0)) (defScope (methS (top 17) 0)),
 iniVal "NoWatch.__init__" (defArgs (methS (top 18) 0)) (defBody (methS (top 18) 0)) (defScope (methS (top 18) 0))]
def chk (K : PySem.W.Frag) : Bool := L.chk K && ((defNames.all fun c => gloB K c) && (L.excI.all fun c => iniB PySem.Challenge.pw_leftproducts_k00_errors_of_all_parts.main.file K c.1 c.2))
structure Fx (w : World) (K : PySem.W.Frag) (mg : Str → Option Value) (base : Heap) : Prop where
  o : L.Ok K
  kin : K.In base
  ns : base.Ns mainGlobals mg
  d__law_begun : (∃ fd, FunD K "_law_begun" "_law_begun" (defArgs (top 28)) (defBody (top 28)) (defScope (top 28)) [] [] (cAt K "_law_begun") fd) ∧ mg (Str.ofString "_law_begun") = some (.ref (cAt K "_law_begun"))
  d__law_mixed : (∃ fd, FunD K "_law_mixed" "_law_mixed" (defArgs (top 29)) (defBody (top 29)) (defScope (top 29)) [] [] (cAt K "_law_mixed") fd) ∧ mg (Str.ofString "_law_mixed") = some (.ref (cAt K "_law_mixed"))
  d__law_take : (∃ fd, FunD K "_law_take" "_law_take" (defArgs (top 30)) (defBody (top 30)) (defScope (top 30)) [] [] (cAt K "_law_take") fd) ∧ mg (Str.ofString "_law_take") = some (.ref (cAt K "_law_take"))
  d__law_pick : (∃ fd, FunD K "_law_pick" "_law_pick" (defArgs (top 31)) (defBody (top 31)) (defScope (top 31)) [] [] (cAt K "_law_pick") fd) ∧ mg (Str.ofString "_law_pick") = some (.ref (cAt K "_law_pick"))
  d__law_any : (∃ fd, FunD K "_law_any" "_law_any" (defArgs (top 32)) (defBody (top 32)) (defScope (top 32)) [] [] (cAt K "_law_any") fd) ∧ mg (Str.ofString "_law_any") = some (.ref (cAt K "_law_any"))
  d__law_kinds : (∃ fd, FunD K "_law_kinds" "_law_kinds" (defArgs (top 33)) (defBody (top 33)) (defScope (top 33)) [] [] (cAt K "_law_kinds") fd) ∧ mg (Str.ofString "_law_kinds") = some (.ref (cAt K "_law_kinds"))
  d__law_plain_errors : (∃ fd, FunD K "_law_plain_errors" "_law_plain_errors" (defArgs (top 34)) (defBody (top 34)) (defScope (top 34)) [] [] (cAt K "_law_plain_errors") fd) ∧ mg (Str.ofString "_law_plain_errors") = some (.ref (cAt K "_law_plain_errors"))
  d__law_errors_of : (∃ fd, FunD K "_law_errors_of" "_law_errors_of" (defArgs (top 35)) (defBody (top 35)) (defScope (top 35)) [] [] (cAt K "_law_errors_of") fd) ∧ mg (Str.ofString "_law_errors_of") = some (.ref (cAt K "_law_errors_of"))
  d_law : (∃ fd, FunD K "law" "law" (defArgs (top 36)) (defBody (top 36)) (defScope (top 36)) [] [] (cAt K "law") fd) ∧ mg (Str.ofString "law") = some (.ref (cAt K "law"))
  i_BadNumber : GI PySem.Challenge.pw_leftproducts_k00_errors_of_all_parts w K mg base "BadNumber" "part" "part"
  i_BadFrame : GI PySem.Challenge.pw_leftproducts_k00_errors_of_all_parts w K mg base "BadFrame" "part" "part"
  i_TooMany : GI PySem.Challenge.pw_leftproducts_k00_errors_of_all_parts w K mg base "TooMany" "most" "most"
  i_BadMany : GI PySem.Challenge.pw_leftproducts_k00_errors_of_all_parts w K mg base "BadMany" "part" "part"
  i_BadLead : GI PySem.Challenge.pw_leftproducts_k00_errors_of_all_parts w K mg base "BadLead" "part" "part"
  i_BadText : GI PySem.Challenge.pw_leftproducts_k00_errors_of_all_parts w K mg base "BadText" "at" "at"
  i_NoWatch : GI PySem.Challenge.pw_leftproducts_k00_errors_of_all_parts w K mg base "NoWatch" "name" "name"
theorem fx_of {w : World} {K : PySem.W.Frag} {mg : Str → Option Value} {base : Heap} (c : obsH chk fn iniNames K = valH fn iniVals) (kin : K.In base) (ns : base.Ns mainGlobals mg) : Fx w K mg base := by
  obtain ⟨c1, c2⟩ := He.ba (says_ex c)
  obtain ⟨c2, c3⟩ := He.ba c2
  have o := Lw.ok_of c1
  have gl : ∀ x ∈ defNames, mg (Str.ofString x) = some (.ref (cAt K x)) := fun x hx => PySem.W.mg_of kin ns (He.eqO_ok (He.ba (List.all_eq_true.mp c2 x hx)).1)
  have ib : ∀ x ∈ L.excI, iniB PySem.Challenge.pw_leftproducts_k00_errors_of_all_parts.main.file K x.1 x.2 = true := fun x hx => List.all_eq_true.mp c3 x hx
  have hs : mg "super" = none := Lw.mg_free o kin ns fr_super
  exact ⟨o, kin, ns,
    ⟨He.SaysD.def_ (says_fn c) 0 rfl, gl _ (List.mem_of_getElem? (i := 0) rfl)⟩,
    ⟨He.SaysD.def_ (says_fn c) 1 rfl, gl _ (List.mem_of_getElem? (i := 1) rfl)⟩,
    ⟨He.SaysD.def_ (says_fn c) 2 rfl, gl _ (List.mem_of_getElem? (i := 2) rfl)⟩,
    ⟨He.SaysD.def_ (says_fn c) 3 rfl, gl _ (List.mem_of_getElem? (i := 3) rfl)⟩,
    ⟨He.SaysD.def_ (says_fn c) 4 rfl, gl _ (List.mem_of_getElem? (i := 4) rfl)⟩,
    ⟨He.SaysD.def_ (says_fn c) 5 rfl, gl _ (List.mem_of_getElem? (i := 5) rfl)⟩,
    ⟨He.SaysD.def_ (says_fn c) 6 rfl, gl _ (List.mem_of_getElem? (i := 6) rfl)⟩,
    ⟨He.SaysD.def_ (says_fn c) 7 rfl, gl _ (List.mem_of_getElem? (i := 7) rfl)⟩,
    ⟨He.SaysD.def_ (says_fn c) 8 rfl, gl _ (List.mem_of_getElem? (i := 8) rfl)⟩,
    gi_BadNumber o (says_ini c 0 rfl rfl) (ib _ mI_BadNumber) hs,
    gi_BadFrame o (says_ini c 1 rfl rfl) (ib _ mI_BadFrame) hs,
    gi_TooMany o (says_ini c 2 rfl rfl) (ib _ mI_TooMany) hs,
    gi_BadMany o (says_ini c 3 rfl rfl) (ib _ mI_BadMany) hs,
    gi_BadLead o (says_ini c 4 rfl rfl) (ib _ mI_BadLead) hs,
    gi_BadText o (says_ini c 5 rfl rfl) (ib _ mI_BadText) hs,
    gi_NoWatch o (says_ini c 6 rfl rfl) (ib _ mI_NoWatch) hs⟩
/-! ### promises -/
section
variable {w : World} {K : PySem.W.Frag} {mg : Str → Option Value} {base : Heap} {fuel : Nat}
def Gs (w : World) (K : PySem.W.Frag) (mg : Str → Option Value) (base : Heap) (fuel k : Nat) : Prop :=
  GD PySem.Challenge.pw_leftproducts_k00_errors_of_all_parts w K mg base (L.wd w K) (Prog.call prog fuel k) (k + 3) "_law_begun" [] ["_law_script"] ∧
  GD PySem.Challenge.pw_leftproducts_k00_errors_of_all_parts w K mg base (L.wd w K) (Prog.call prog fuel k) (k + 3) "_law_mixed" [0] ["_law_draw"] ∧
  GD PySem.Challenge.pw_leftproducts_k00_errors_of_all_parts w K mg base (L.wd w K) (Prog.call prog fuel k) (k + 3) "_law_take" [0] ["_law_draw", "_law_amount"] ∧
  GD PySem.Challenge.pw_leftproducts_k00_errors_of_all_parts w K mg base (L.wd w K) (Prog.call prog fuel k) (k + 3) "_law_pick" [0] ["_law_draw", "_law_some"] ∧
  GD PySem.Challenge.pw_leftproducts_k00_errors_of_all_parts w K mg base (L.wd w K) (Prog.call prog fuel k) (k + 3) "_law_any" [0] ["_law_draw"] ∧
  GD PySem.Challenge.pw_leftproducts_k00_errors_of_all_parts w K mg base (L.wd w K) (Prog.call prog fuel k) (k + 3) "_law_kinds" [] ["_law_error"] ∧
  GD PySem.Challenge.pw_leftproducts_k00_errors_of_all_parts w K mg base (L.wd w K) (Prog.call prog fuel k) (k + 3) "_law_plain_errors" [] ["_law_words_here"] ∧
  GD PySem.Challenge.pw_leftproducts_k00_errors_of_all_parts w K mg base (L.wd w K) (Prog.call prog fuel k) (k + 3) "_law_errors_of" [] ["_law_each"] ∧
  GD PySem.Challenge.pw_leftproducts_k00_errors_of_all_parts w K mg base (L.wd w K) (Prog.call prog fuel k) (k + 3) "law" [] ["_law_script"] ∧ True
theorem sc__law_begun : FnScope ["_law_script", "_law_large", "_law_grain"] ["_law_script"] (defScope (top 28)) := ⟨rfl, rfl, rfl, by decide +kernel, rfl, by decide +kernel, by decide +kernel⟩
theorem z__law_begun (x : Fx w K mg base) : GD PySem.Challenge.pw_leftproducts_k00_errors_of_all_parts w K mg base (L.wd w K) (Prog.call prog fuel 0) 3 "_law_begun" [] ["_law_script"] := by
  obtain ⟨⟨fd, F⟩, hm⟩ := x.d__law_begun
  exact ⟨⟨fd, Ev.FunD.lk F, fnG_bad rfl fun _ => rfl, (F.bindsN (ps := ["_law_script"]) fun _ _ _ _ _ _ us hl => match us, hl with | [_], _ => rfl)⟩, hm, F.kp⟩
theorem s__law_begun {k : Nat} (x : Fx w K mg base) (a : Gs w K mg base fuel k) : GD PySem.Challenge.pw_leftproducts_k00_errors_of_all_parts w K mg base (L.wd w K) (Prog.call prog fuel (k + 1)) (k + 4) "_law_begun" [] ["_law_script"] := by
  obtain ⟨⟨fd, F⟩, hm⟩ := x.d__law_begun
  refine ⟨⟨fd, Ev.FunD.lk F, ?_, (F.bindsN (ps := ["_law_script"]) fun _ _ _ _ _ _ us hl => match us, hl with | [_], _ => rfl)⟩, hm, F.kp⟩
  refine fnG_def (C := prog.cfg fuel (Prog.call prog fuel k)) F sc__law_begun (F0 := f__law_begun) rfl (by decide) rfl (Prog.call_fn (fun _ => rfl) rfl) fun cdv A outer s H E Pn hg hr hP => ?_
  have h : HX L w K (Xof PySem.Challenge.pw_leftproducts_k00_errors_of_all_parts w K mg base ["_law_script", "_law_large", "_law_grain"] "_law_begun" (top 28) (cAt K "_law_begun") cdv A outer s H E) := ⟨rfl, rfl, x.o, x.kin, x.ns⟩
  exact b__law_begun h (Lw.gx x.o rfl rfl x.kin (room_units hr) rfl hg) (takes_of rfl rfl rfl rfl) hr (hr.mono (by omega)) (fun _ _ _ z => Prog.call_exc z) hP
theorem sc__law_mixed : FnScope ["_law_draw", "_law_great", "_law_turn", "_law_found", "_law_blend", "_law_grain"] ["_law_draw"] (defScope (top 29)) := ⟨rfl, rfl, rfl, by decide +kernel, rfl, by decide +kernel, by decide +kernel⟩
theorem z__law_mixed (x : Fx w K mg base) : GD PySem.Challenge.pw_leftproducts_k00_errors_of_all_parts w K mg base (L.wd w K) (Prog.call prog fuel 0) 3 "_law_mixed" [0] ["_law_draw"] := by
  obtain ⟨⟨fd, F⟩, hm⟩ := x.d__law_mixed
  exact ⟨⟨fd, Ev.FunD.lk F, fnG_bad rfl fun _ => rfl, (F.bindsN (ps := ["_law_draw"]) fun _ _ _ _ _ _ us hl => match us, hl with | [_], _ => rfl)⟩, hm, F.kp⟩
theorem s__law_mixed {k : Nat} (x : Fx w K mg base) (a : Gs w K mg base fuel k) : GD PySem.Challenge.pw_leftproducts_k00_errors_of_all_parts w K mg base (L.wd w K) (Prog.call prog fuel (k + 1)) (k + 4) "_law_mixed" [0] ["_law_draw"] := by
  obtain ⟨⟨fd, F⟩, hm⟩ := x.d__law_mixed
  refine ⟨⟨fd, Ev.FunD.lk F, ?_, (F.bindsN (ps := ["_law_draw"]) fun _ _ _ _ _ _ us hl => match us, hl with | [_], _ => rfl)⟩, hm, F.kp⟩
  refine fnG_def (C := prog.cfg fuel (Prog.call prog fuel k)) F sc__law_mixed (F0 := f__law_mixed) rfl (by decide) rfl (Prog.call_fn (fun _ => rfl) rfl) fun cdv A outer s H E Pn hg hr hP => ?_
  have h : HX L w K (Xof PySem.Challenge.pw_leftproducts_k00_errors_of_all_parts w K mg base ["_law_draw", "_law_great", "_law_turn", "_law_found", "_law_blend", "_law_grain"] "_law_mixed" (top 29) (cAt K "_law_mixed") cdv A outer s H E) := ⟨rfl, rfl, x.o, x.kin, x.ns⟩
  exact b__law_mixed h (Lw.gx x.o rfl rfl x.kin (room_units hr) rfl hg) (takes_of rfl rfl rfl rfl) hr (hr.mono (by omega)) (fun _ _ _ z => Prog.call_exc z) hP
theorem sc__law_take : FnScope ["_law_draw", "_law_amount", "_law_found"] ["_law_draw", "_law_amount"] (defScope (top 30)) := ⟨rfl, rfl, rfl, by decide +kernel, rfl, by decide +kernel, by decide +kernel⟩
theorem z__law_take (x : Fx w K mg base) : GD PySem.Challenge.pw_leftproducts_k00_errors_of_all_parts w K mg base (L.wd w K) (Prog.call prog fuel 0) 3 "_law_take" [0] ["_law_draw", "_law_amount"] := by
  obtain ⟨⟨fd, F⟩, hm⟩ := x.d__law_take
  exact ⟨⟨fd, Ev.FunD.lk F, fnG_bad rfl fun _ => rfl, (F.bindsN (ps := ["_law_draw", "_law_amount"]) fun _ _ _ _ _ _ us hl => match us, hl with | [_, _], _ => rfl)⟩, hm, F.kp⟩
theorem s__law_take {k : Nat} (x : Fx w K mg base) (a : Gs w K mg base fuel k) : GD PySem.Challenge.pw_leftproducts_k00_errors_of_all_parts w K mg base (L.wd w K) (Prog.call prog fuel (k + 1)) (k + 4) "_law_take" [0] ["_law_draw", "_law_amount"] := by
  obtain ⟨⟨fd, F⟩, hm⟩ := x.d__law_take
  refine ⟨⟨fd, Ev.FunD.lk F, ?_, (F.bindsN (ps := ["_law_draw", "_law_amount"]) fun _ _ _ _ _ _ us hl => match us, hl with | [_, _], _ => rfl)⟩, hm, F.kp⟩
  refine fnG_def (C := prog.cfg fuel (Prog.call prog fuel k)) F sc__law_take (F0 := f__law_take) rfl (by decide) rfl (Prog.call_fn (fun _ => rfl) rfl) fun cdv A outer s H E Pn hg hr hP => ?_
  have h : HX L w K (Xof PySem.Challenge.pw_leftproducts_k00_errors_of_all_parts w K mg base ["_law_draw", "_law_amount", "_law_found"] "_law_take" (top 30) (cAt K "_law_take") cdv A outer s H E) := ⟨rfl, rfl, x.o, x.kin, x.ns⟩
  exact b__law_take h (Lw.gx x.o rfl rfl x.kin (room_units hr) rfl hg) (takes_of rfl rfl rfl rfl) hr (hr.mono (by omega)) (fun _ _ _ z => Prog.call_exc z) (a.2.1) hP
theorem sc__law_pick : FnScope ["_law_draw", "_law_some"] ["_law_draw", "_law_some"] (defScope (top 31)) := ⟨rfl, rfl, rfl, by decide +kernel, rfl, by decide +kernel, by decide +kernel⟩
theorem z__law_pick (x : Fx w K mg base) : GD PySem.Challenge.pw_leftproducts_k00_errors_of_all_parts w K mg base (L.wd w K) (Prog.call prog fuel 0) 3 "_law_pick" [0] ["_law_draw", "_law_some"] := by
  obtain ⟨⟨fd, F⟩, hm⟩ := x.d__law_pick
  exact ⟨⟨fd, Ev.FunD.lk F, fnG_bad rfl fun _ => rfl, (F.bindsN (ps := ["_law_draw", "_law_some"]) fun _ _ _ _ _ _ us hl => match us, hl with | [_, _], _ => rfl)⟩, hm, F.kp⟩
theorem s__law_pick {k : Nat} (x : Fx w K mg base) (a : Gs w K mg base fuel k) : GD PySem.Challenge.pw_leftproducts_k00_errors_of_all_parts w K mg base (L.wd w K) (Prog.call prog fuel (k + 1)) (k + 4) "_law_pick" [0] ["_law_draw", "_law_some"] := by
  obtain ⟨⟨fd, F⟩, hm⟩ := x.d__law_pick
  refine ⟨⟨fd, Ev.FunD.lk F, ?_, (F.bindsN (ps := ["_law_draw", "_law_some"]) fun _ _ _ _ _ _ us hl => match us, hl with | [_, _], _ => rfl)⟩, hm, F.kp⟩
  refine fnG_def (C := prog.cfg fuel (Prog.call prog fuel k)) F sc__law_pick (F0 := f__law_pick) rfl (by decide) rfl (Prog.call_fn (fun _ => rfl) rfl) fun cdv A outer s H E Pn hg hr hP => ?_
  have h : HX L w K (Xof PySem.Challenge.pw_leftproducts_k00_errors_of_all_parts w K mg base ["_law_draw", "_law_some"] "_law_pick" (top 31) (cAt K "_law_pick") cdv A outer s H E) := ⟨rfl, rfl, x.o, x.kin, x.ns⟩
  exact b__law_pick h (Lw.gx x.o rfl rfl x.kin (room_units hr) rfl hg) (takes_of rfl rfl rfl rfl) hr (hr.mono (by omega)) (fun _ _ _ z => Prog.call_exc z) (a.2.2.1) hP
theorem sc__law_any : FnScope ["_law_draw", "_law_some"] ["_law_draw"] (defScope (top 32)) := ⟨rfl, rfl, rfl, by decide +kernel, rfl, by decide +kernel, by decide +kernel⟩
theorem z__law_any (x : Fx w K mg base) : GD PySem.Challenge.pw_leftproducts_k00_errors_of_all_parts w K mg base (L.wd w K) (Prog.call prog fuel 0) 3 "_law_any" [0] ["_law_draw"] := by
  obtain ⟨⟨fd, F⟩, hm⟩ := x.d__law_any
  exact ⟨⟨fd, Ev.FunD.lk F, fnG_bad rfl fun _ => rfl, (F.bindsN (ps := ["_law_draw"]) fun _ _ _ _ _ _ us hl => match us, hl with | [_], _ => rfl)⟩, hm, F.kp⟩
theorem s__law_any {k : Nat} (x : Fx w K mg base) (a : Gs w K mg base fuel k) : GD PySem.Challenge.pw_leftproducts_k00_errors_of_all_parts w K mg base (L.wd w K) (Prog.call prog fuel (k + 1)) (k + 4) "_law_any" [0] ["_law_draw"] := by
  obtain ⟨⟨fd, F⟩, hm⟩ := x.d__law_any
  refine ⟨⟨fd, Ev.FunD.lk F, ?_, (F.bindsN (ps := ["_law_draw"]) fun _ _ _ _ _ _ us hl => match us, hl with | [_], _ => rfl)⟩, hm, F.kp⟩
  refine fnG_def (C := prog.cfg fuel (Prog.call prog fuel k)) F sc__law_any (F0 := f__law_any) rfl (by decide) rfl (Prog.call_fn (fun _ => rfl) rfl) fun cdv A outer s H E Pn hg hr hP => ?_
  have h : HX L w K (Xof PySem.Challenge.pw_leftproducts_k00_errors_of_all_parts w K mg base ["_law_draw", "_law_some"] "_law_any" (top 32) (cAt K "_law_any") cdv A outer s H E) := ⟨rfl, rfl, x.o, x.kin, x.ns⟩
  exact b__law_any h (Lw.gx x.o rfl rfl x.kin (room_units hr) rfl hg) (takes_of rfl rfl rfl rfl) hr (hr.mono (by omega)) (fun _ _ _ z => Prog.call_exc z) (a.2.2.2.1) hP
theorem sc__law_kinds : FnScope ["_law_error", "_law_found"] ["_law_error"] (defScope (top 33)) := ⟨rfl, rfl, rfl, by decide +kernel, rfl, by decide +kernel, by decide +kernel⟩
theorem z__law_kinds (x : Fx w K mg base) : GD PySem.Challenge.pw_leftproducts_k00_errors_of_all_parts w K mg base (L.wd w K) (Prog.call prog fuel 0) 3 "_law_kinds" [] ["_law_error"] := by
  obtain ⟨⟨fd, F⟩, hm⟩ := x.d__law_kinds
  exact ⟨⟨fd, Ev.FunD.lk F, fnG_bad rfl fun _ => rfl, (F.bindsN (ps := ["_law_error"]) fun _ _ _ _ _ _ us hl => match us, hl with | [_], _ => rfl)⟩, hm, F.kp⟩
theorem s__law_kinds {k : Nat} (x : Fx w K mg base) (a : Gs w K mg base fuel k) : GD PySem.Challenge.pw_leftproducts_k00_errors_of_all_parts w K mg base (L.wd w K) (Prog.call prog fuel (k + 1)) (k + 4) "_law_kinds" [] ["_law_error"] := by
  obtain ⟨⟨fd, F⟩, hm⟩ := x.d__law_kinds
  refine ⟨⟨fd, Ev.FunD.lk F, ?_, (F.bindsN (ps := ["_law_error"]) fun _ _ _ _ _ _ us hl => match us, hl with | [_], _ => rfl)⟩, hm, F.kp⟩
  refine fnG_def (C := prog.cfg fuel (Prog.call prog fuel k)) F sc__law_kinds (F0 := f__law_kinds) rfl (by decide) rfl (Prog.call_fn (fun _ => rfl) rfl) fun cdv A outer s H E Pn hg hr hP => ?_
  have h : HX L w K (Xof PySem.Challenge.pw_leftproducts_k00_errors_of_all_parts w K mg base ["_law_error", "_law_found"] "_law_kinds" (top 33) (cAt K "_law_kinds") cdv A outer s H E) := ⟨rfl, rfl, x.o, x.kin, x.ns⟩
  exact b__law_kinds h (Lw.gx x.o rfl rfl x.kin (room_units hr) rfl hg) (takes_of rfl rfl rfl rfl) hr (hr.mono (by omega)) (fun _ _ _ z => Prog.call_exc z) hP
theorem sc__law_plain_errors : FnScope ["_law_words_here", "_law_found"] ["_law_words_here"] (defScope (top 34)) := ⟨rfl, rfl, rfl, by decide +kernel, rfl, by decide +kernel, by decide +kernel⟩
theorem z__law_plain_errors (x : Fx w K mg base) : GD PySem.Challenge.pw_leftproducts_k00_errors_of_all_parts w K mg base (L.wd w K) (Prog.call prog fuel 0) 3 "_law_plain_errors" [] ["_law_words_here"] := by
  obtain ⟨⟨fd, F⟩, hm⟩ := x.d__law_plain_errors
  exact ⟨⟨fd, Ev.FunD.lk F, fnG_bad rfl fun _ => rfl, (F.bindsN (ps := ["_law_words_here"]) fun _ _ _ _ _ _ us hl => match us, hl with | [_], _ => rfl)⟩, hm, F.kp⟩
theorem s__law_plain_errors {k : Nat} (x : Fx w K mg base) (a : Gs w K mg base fuel k) : GD PySem.Challenge.pw_leftproducts_k00_errors_of_all_parts w K mg base (L.wd w K) (Prog.call prog fuel (k + 1)) (k + 4) "_law_plain_errors" [] ["_law_words_here"] := by
  obtain ⟨⟨fd, F⟩, hm⟩ := x.d__law_plain_errors
  refine ⟨⟨fd, Ev.FunD.lk F, ?_, (F.bindsN (ps := ["_law_words_here"]) fun _ _ _ _ _ _ us hl => match us, hl with | [_], _ => rfl)⟩, hm, F.kp⟩
  refine fnG_def (C := prog.cfg fuel (Prog.call prog fuel k)) F sc__law_plain_errors (F0 := f__law_plain_errors) rfl (by decide) rfl (Prog.call_fn (fun _ => rfl) rfl) fun cdv A outer s H E Pn hg hr hP => ?_
  have h : HX L w K (Xof PySem.Challenge.pw_leftproducts_k00_errors_of_all_parts w K mg base ["_law_words_here", "_law_found"] "_law_plain_errors" (top 34) (cAt K "_law_plain_errors") cdv A outer s H E) := ⟨rfl, rfl, x.o, x.kin, x.ns⟩
  exact b__law_plain_errors h (Lw.gx x.o rfl rfl x.kin (room_units hr) rfl hg) (takes_of rfl rfl rfl rfl) hr (hr.mono (by omega)) (fun _ _ _ z => Prog.call_exc z) hP
theorem sc__law_errors_of : FnScope ["_law_each", "_law_found"] ["_law_each"] (defScope (top 35)) := ⟨rfl, rfl, rfl, by decide +kernel, rfl, by decide +kernel, by decide +kernel⟩
theorem z__law_errors_of (x : Fx w K mg base) : GD PySem.Challenge.pw_leftproducts_k00_errors_of_all_parts w K mg base (L.wd w K) (Prog.call prog fuel 0) 3 "_law_errors_of" [] ["_law_each"] := by
  obtain ⟨⟨fd, F⟩, hm⟩ := x.d__law_errors_of
  exact ⟨⟨fd, Ev.FunD.lk F, fnG_bad rfl fun _ => rfl, (F.bindsN (ps := ["_law_each"]) fun _ _ _ _ _ _ us hl => match us, hl with | [_], _ => rfl)⟩, hm, F.kp⟩
theorem s__law_errors_of {k : Nat} (x : Fx w K mg base) (a : Gs w K mg base fuel k) : GD PySem.Challenge.pw_leftproducts_k00_errors_of_all_parts w K mg base (L.wd w K) (Prog.call prog fuel (k + 1)) (k + 4) "_law_errors_of" [] ["_law_each"] := by
  obtain ⟨⟨fd, F⟩, hm⟩ := x.d__law_errors_of
  refine ⟨⟨fd, Ev.FunD.lk F, ?_, (F.bindsN (ps := ["_law_each"]) fun _ _ _ _ _ _ us hl => match us, hl with | [_], _ => rfl)⟩, hm, F.kp⟩
  refine fnG_def (C := prog.cfg fuel (Prog.call prog fuel k)) F sc__law_errors_of (F0 := f__law_errors_of) rfl (by decide) rfl (Prog.call_fn (fun _ => rfl) rfl) fun cdv A outer s H E Pn hg hr hP => ?_
  have h : HX L w K (Xof PySem.Challenge.pw_leftproducts_k00_errors_of_all_parts w K mg base ["_law_each", "_law_found"] "_law_errors_of" (top 35) (cAt K "_law_errors_of") cdv A outer s H E) := ⟨rfl, rfl, x.o, x.kin, x.ns⟩
  exact b__law_errors_of h (Lw.gx x.o rfl rfl x.kin (room_units hr) rfl hg) (takes_of rfl rfl rfl rfl) hr (hr.mono (by omega)) (fun _ _ _ z => Prog.call_exc z) x.i_NoWatch x.i_BadText x.i_BadLead x.i_BadMany x.i_TooMany x.i_BadFrame x.i_BadNumber hP
theorem sc_law : FnScope ["_law_script", "_law_draw", "_law_threes_here", "_law_errors_here", "_law_base_here", "_law_words_here", "_law_each", "_law_spot", "_law_error", "_law_item", "_law_k"] ["_law_script"] (defScope (top 36)) := ⟨rfl, rfl, rfl, by decide +kernel, rfl, by decide +kernel, by decide +kernel⟩
theorem z_law (x : Fx w K mg base) : GD PySem.Challenge.pw_leftproducts_k00_errors_of_all_parts w K mg base (L.wd w K) (Prog.call prog fuel 0) 3 "law" [] ["_law_script"] := by
  obtain ⟨⟨fd, F⟩, hm⟩ := x.d_law
  exact ⟨⟨fd, Ev.FunD.lk F, fnG_bad rfl fun _ => rfl, (F.bindsN (ps := ["_law_script"]) fun _ _ _ _ _ _ us hl => match us, hl with | [_], _ => rfl)⟩, hm, F.kp⟩
theorem s_law {k : Nat} (x : Fx w K mg base) (a : Gs w K mg base fuel k) : GD PySem.Challenge.pw_leftproducts_k00_errors_of_all_parts w K mg base (L.wd w K) (Prog.call prog fuel (k + 1)) (k + 4) "law" [] ["_law_script"] := by
  obtain ⟨⟨fd, F⟩, hm⟩ := x.d_law
  refine ⟨⟨fd, Ev.FunD.lk F, ?_, (F.bindsN (ps := ["_law_script"]) fun _ _ _ _ _ _ us hl => match us, hl with | [_], _ => rfl)⟩, hm, F.kp⟩
  refine fnG_def (C := prog.cfg fuel (Prog.call prog fuel k)) F sc_law (F0 := f_law) rfl (by decide) rfl (Prog.call_fn (fun _ => rfl) rfl) fun cdv A outer s H E Pn hg hr hP => ?_
  have h : HX L w K (Xof PySem.Challenge.pw_leftproducts_k00_errors_of_all_parts w K mg base ["_law_script", "_law_draw", "_law_threes_here", "_law_errors_here", "_law_base_here", "_law_words_here", "_law_each", "_law_spot", "_law_error", "_law_item", "_law_k"] "law" (top 36) (cAt K "law") cdv A outer s H E) := ⟨rfl, rfl, x.o, x.kin, x.ns⟩
  exact b_law h (Lw.gx x.o rfl rfl x.kin (room_units hr) rfl hg) (takes_of rfl rfl rfl rfl) hr (hr.mono (by omega)) (fun _ _ _ z => Prog.call_exc z) (a.2.2.2.2.2.1) (a.2.2.2.2.2.2.1) (a.2.2.2.2.2.2.2.1) (a.2.2.2.2.1) (a.2.2.2.1) (a.1) hP
theorem gs (x : Fx w K mg base) : ∀ k, Gs w K mg base fuel k
  | 0 => ⟨z__law_begun x, z__law_mixed x, z__law_take x, z__law_pick x, z__law_any x, z__law_kinds x, z__law_plain_errors x, z__law_errors_of x, z_law x, trivial⟩
  | k + 1 => ⟨s__law_begun x (gs x k), s__law_mixed x (gs x k), s__law_take x (gs x k), s__law_pick x (gs x k), s__law_any x (gs x k), s__law_kinds x (gs x k), s__law_plain_errors x (gs x k), s__law_errors_of x (gs x k), s_law x (gs x k), trivial⟩
end
def nm0 : List PySem.Str := ["LeftError", "BadPrime", "BadNumber", "BadFrame", "BadRow", "BadTable", "BadChoice", "TooMany", "BadMany", "BadLead", "BadWord", "NotFrame", "NotUndone", "BadDeed", "BadLive", "BadName", "BadText", "NoWatch", "NothingLeft", "BadWords"]
def nm1 : List PySem.Str := ["BadEnd", "NotOdd", "BadRules", "BadLengths", "NotLeast", "BadChange", "_law_begun", "_law_mixed", "_law_take", "_law_pick", "_law_any", "_law_kinds", "_law_plain_errors", "_law_errors_of"]
def names : List PySem.Str := nm0 ++ nm1
abbrev R : PySem.W.OpenRow := PySem.W.OpenLaw.row PySem.Challenge.rw_leftproducts_k00_errors_of_all_parts
abbrev hk : PySem.W.Hook := hookH 5 chk fn iniNames iniVals
def ob (s : PySem.W.SharedT) : AlH := obsHG 5 chk fn iniNames (HandSHeadRun.getT s)
theorem ob_eq (s : PySem.W.SharedT) : ob s = hk.obs s.abs := obsHG_eq (HandSHeadRun.getT_eq s)
end K00
namespace P00
open PySem Ev K00
/-! ### the draws -/
structure Dr where
  large : List Int
  rest : Int
  fz : Bool
  cells : List Int
  turn : Int
def intsO (l : List Int) : List OV := l.map fun i => .fr (.int i)
def cellsO (fz : Bool) (l : List Int) : OV := if fz = true then .fr (.lst (l.map .int)) else .lst (intsO l)
def Dr.mk' (s : Dr) : OV := .dct [(.str "large", .lst (intsO s.large)), (.str "rest", .fr (.int s.rest)), (.str "cells", cellsO s.fz s.cells), (.str "turn", .fr (.int s.turn))]
theorem ch_rest (s : Dr) : child s.mk' (.str "rest") = some (.fr (.int s.rest)) := rfl
theorem ch_large (s : Dr) : child s.mk' (.str "large") = some (.lst (intsO s.large)) := rfl
theorem ch_turn (s : Dr) : child s.mk' (.str "turn") = some (.fr (.int s.turn)) := rfl
theorem ch_cells (s : Dr) : child s.mk' (.str "cells") = some (cellsO s.fz s.cells) := rfl
theorem st_rest (s : Dr) (i : Int) : setChild s.mk' (.str "rest") (.fr (.int i)) = some (Dr.mk' {s with rest := i}) := rfl
theorem st_cells (s : Dr) (l : List Int) : setChild s.mk' (.str "cells") (.fr (.lst (l.map .int))) = some (Dr.mk' {s with fz := true, cells := l}) := rfl
theorem st_turn (s : Dr) (i : Int) : setChild s.mk' (.str "turn") (.fr (.int i)) = some (Dr.mk' {s with turn := i}) := rfl
theorem st_large (s : Dr) (i : List Int) : setChild s.mk' (.str "large") (.lst (intsO i)) = some (Dr.mk' {s with large := i}) := rfl
theorem dc_mk (s : Dr) : isDctO s.mk' = true := rfl
theorem io_mixed : prog.io "_law_mixed" = [0] := rfl
theorem io_take : prog.io "_law_take" = [0] := rfl
theorem io_pick : prog.io "_law_pick" = [0] := rfl
theorem io_any : prog.io "_law_any" = [0] := rfl
theorem io_begun : prog.io "_law_begun" = [] := rfl
theorem io_errs : prog.io "_law_errors_of" = [] := rfl
theorem io_kinds : prog.io "_law_kinds" = [] := rfl
theorem views_ints (l : List Int) : views (intsO l) = l.map .int := by
  induction l with
  | nil => rfl
  | cons i l ih => exact congrArg (D.int i :: ·) ih
theorem intsO_nil : intsO [] = [] := rfl
theorem intsO_cons (x : Int) (l : List Int) : intsO (x :: l) = .fr (.int x) :: intsO l := rfl
theorem intsO_app (l : List Int) (i : Int) : intsO (l ++ [i]) = intsO l ++ [.fr (.int i)] := by simp [intsO]
theorem emp_map (l : List Int) : (l.map D.int).isEmpty = l.isEmpty := by cases l <;> rfl
local macro_rules | `(tactic| walk_at "ev") => `(tactic| (conv => arg 1; simp only [oc_some, oc_none, bind_ok, bind_exc, thn_ok, thn_exc, ro_next, ro_ret, ro_exc, of_oc, noexc_ok, at_zero, at_succ, keyOf_var, keyOf_cst, pk_var, pk_item, pk_attr, pput_var, pput_item, pput_attr, share_eq, shareO_fr, shareO_lst, shareO_dct, shareO_ins, pkOr_eq, ev_var, ev_mv, ev_cst, ev_glo, itemR_eq, ev_item', ev_attr', ev_tup, ev_lst, ev_dct, evs_nil, evs_cons, evps_nil, evps_cons, andK_bl, orK_bl, ev_and, ev_or, ev_not, ev_ifx, ev_iscE, finish_eq, ev_call, evargs_nil, evargs_cons, ev_callk, evks_nil, evks_cons, evt_nil, evt_cons, ev_comp, ev_mutE, mutFin_eq, test_eq, turns_nil, oneStep_eq, isPath, simple, simples, ↓reduceIte, Bool.and_true, Bool.true_and, Bool.and_false, Bool.false_and, Bool.or_false, Bool.false_or, Bool.or_true, Bool.true_or, Bool.false_eq_true, Bool.not_true, Bool.not_false, owned, isSlot, outsOf, argsOf, apart, putPaths, List.isEmpty_nil, List.isEmpty_cons, Option.isSome_some, Option.isSome_none, List.set_cons_zero, List.set_cons_succ, List.mem_cons, List.not_mem_nil, List.map_cons, List.map_nil, view_fr, view_lst, Env.put, List.length_cons, List.length_nil, rootOf, List.all_cons, List.all_nil, Bool.and_self, outs, Nat.reduceAdd, Nat.zero_add, or_false, false_or, or_true, true_or, or_self, if_true, if_false, Nat.reduceLT, decide_true, decide_false, mutS_lst, mut_pop0, mut_append, eqD_lnil, oLst_eq, items_lst, slots_nm, wipe_nil, wipe_cons, sizeB_iff, keyOf_op, keyOf_call, keyOf_item, keyOf_attr, keyOf_mv, keyOf_glo, views_nil, views_cons, putAll_nil, putAll_cons, cfg_call, cfg_sub, cfg_io, Nat.reduceSub, List.replicate, List.cons_append, List.nil_append, Nat.reduceEqDiff, Nat.reduceLeDiff, Option.map_some, Option.map_none, setIO_fr, List.contains_cons, List.contains_nil, Nat.reduceBEq, Bool.or_self, ev_add, ev_sub, ev_mul, ev_mod, ev_fdiv, ev_pow, ev_neg, ev_eq, ev_ne, ev_lt, ev_le, ev_gt, ev_ge, ev_isin, ev_notin, ev_isN, ev_notN, ev_slice, ev_len, ev_int, ev_abs, ev_repr, ev_list, ev_tuple, ev_dict, ev_sorted, ev_sum, ev_all, ev_any, ev_min2, ev_max2, ev_get1, ev_get2, truth_bl, truth_int, truth_non, truth_lstF, truth_tup, truth_lst, o_add_ii, o_sub_ii, o_mul_ii, o_mod_ii, o_fdiv_ii, o_pow_ii, o_neg_i, o_eq_ab, o_ne_ab, eqD_ii, o_le_ii, o_ge_ii, o_lt_ii, o_gt_ii, o_len_o, o_int_i, o_abs_i, o_repr_o, o_min_ii, o_max_ii, o_isN_o, o_notN_o, lenOV_lst, lenOV_lstF, lenOV_tup, walk_seq, items_fl, items_ft, bind_nm, views_mapfr, walk_enumF, walk_range1, bind_tup, binds_nil, binds_cons, isc_exn, eqD_ss, backR_ok, backR_exc, List.any_cons, List.any_nil, Option.some.injEq, ch_rest, ch_large, ch_turn, ch_cells, st_rest, st_turn, st_large, st_cells, dc_mk, io_mixed, io_take, io_pick, io_any, io_begun, io_errs, io_kinds, views_ints, emp_map, intsO_nil, intsO_cons]))
local macro_rules | `(tactic| walk_at "go") => `(tactic| (walk_at "ev"; first | refine w_ok ?_ | refine w_some ?_))
local macro_rules | `(tactic| walk_at "fn") => `(tactic| (conv => arg 1; simp only [List.map_cons, List.map_nil, Nat.reduceSub, List.replicate_succ, List.replicate_zero, List.cons_append, List.nil_append]))
theorem mem_mid {α : Type} {pre post xs : List α} {d : α} (h : pre ++ d :: post = [] ++ xs) : d ∈ xs := by
  rw [List.nil_append] at h
  rw [← h]
  simp
theorem mixed_ok (fuel k : Nat) (s : Dr) : WC (Prog.call prog fuel (k + 1) "_law_mixed" [s.mk']) (fun v o => ∃ i s', v = .fr (.int i) ∧ o = [Dr.mk' s']) noX := by
  rw [Prog.call_fn (F := f__law_mixed) (fun _ => rfl) rfl]
  refine w_fnB rfl ?_
  walk_at "fn"
  refine x_cons (x_setI ?_)
  walk_at "go"
  walk_at "go"
  walk_at "go"
  walk_at "go"
  refine x_cons (x_par ?_)
  walk_at "go"
  walk_at "go"
  refine x_cons (x_fore ?_)
  walk_at "go"
  walk_at "go"
  generalize hs1 : (⟨s.large, s.rest, s.fz, s.cells, s.turn + 1⟩ : Dr) = s1
  clear hs1
  refine x_for (fun _ env => ∃ (s1 : Dr) (g1 g4 g5 : Option OV) (turn found : Int), env = [some s1.mk', g1, some (.fr (.int turn)), some (.fr (.int found)), g4, g5]) (pre := []) ⟨_, _, _, _, _, _, rfl⟩ (fun pre d post env e h => ?_) (fun env h => ?_)
  · obtain ⟨s1, g1, g4, g5, turn, found, rfl⟩ := h
    have hd := mem_mid e
    obtain ⟨g, rfl, hg0, hg1⟩ : ∃ g : Int, d = .int g ∧ 0 < g ∧ g < 2147483648 := by
      simp only [List.mem_cons, List.not_mem_nil, or_false] at hd
      rcases hd with rfl | rfl | rfl
      · exact ⟨_, rfl, by decide, by decide⟩
      · exact ⟨_, rfl, by decide, by decide⟩
      · exact ⟨_, rfl, by decide, by decide⟩
    have hgn : g ≠ 0 := by omega
    walk_at "go"
    refine x_cons (x_asg ?_)
    walk_at "ev"
    rw [if_pos (mulOk_r (by decide))]
    walk_at "ev"
    rw [if_pos (by decide)]
    walk_at "ev"
    rw [if_pos hgn]
    walk_at "go"
    walk_at "go"
    have cells : ∃ s2 : Dr, WR (Ev.evs { prog.cfg fuel (Prog.call prog fuel k) with prot := [0] } [.item (.var 0) (.cst (.str "cells"))] false [some s1.mk', some (.fr (.int g)), some (.fr (.int turn)), some (.fr (.int found)), some (.fr (.int ((turn * 69621 + g.fdiv 7).fmod g))), g5])
        (fun vs env => vs = [.fr (.lst (s2.cells.map .int))] ∧ env = [some s2.mk', some (.fr (.int g)), some (.fr (.int turn)), some (.fr (.int found)), some (.fr (.int ((turn * 69621 + g.fdiv 7).fmod g))), g5]) (fun x env => WO (outs [0] 0 1 env) (noX x)) := by
      cases hf : s1.fz with
      | true =>
        refine ⟨s1, ?_⟩
        walk_at "ev"
        simp only [hf, cellsO, if_true]
        walk_at "go"
        exact ⟨rfl, rfl⟩
      | false =>
        refine ⟨{ s1 with fz := true }, ?_⟩
        walk_at "ev"
        simp only [hf, cellsO, Bool.false_eq_true, if_false]
        walk_at "go"
        exact ⟨rfl, rfl⟩
    obtain ⟨s3, hc⟩ := cells
    refine x_cons (x_fore (hc.imp (fun vs env2 q => ?_) fun _ _ z => z))
    obtain ⟨rfl, rfl⟩ := q
    walk_at "go"
    refine x_for (fun _ env => ∃ (s2 : Dr) (b : Int) (g5 : Option OV), 0 ≤ b ∧ b < g ∧ env = [some s2.mk', some (.fr (.int g)), some (.fr (.int turn)), some (.fr (.int found)), some (.fr (.int b)), g5]) (pre := []) ⟨_, _, _, Int.fmod_nonneg_of_pos _ hg0, Int.fmod_lt_of_pos _ hg0, rfl⟩ (fun pre d post env e h => ?_) (fun env h => ?_)
    · obtain ⟨s2, b, g5, hb0, hb1, rfl⟩ := h
      obtain ⟨c, _, rfl⟩ := List.mem_map.mp (mem_mid e)
      walk_at "go"
      refine x_cons (x_asg ?_)
      walk_at "ev"
      rw [if_pos (mulOk_r (by decide))]
      walk_at "ev"
      rw [if_pos hgn]
      walk_at "go"
      walk_at "go"
      exact x_nil ⟨_, _, _, Int.fmod_nonneg_of_pos _ hg0, Int.fmod_lt_of_pos _ hg0, rfl⟩
    · obtain ⟨s2, b, g5, hb0, hb1, rfl⟩ := h
      refine x_cons (x_asg ?_)
      walk_at "ev"
      rw [if_pos (mulOk_r (by decide))]
      walk_at "ev"
      rw [if_pos ⟨by decide, by decide, by omega⟩]
      walk_at "ev"
      rw [if_pos hgn]
      walk_at "go"
      walk_at "go"
      exact x_nil ⟨_, _, _, _, _, _, rfl⟩
  · obtain ⟨s1, g1, g4, g5, turn, found, rfl⟩ := h
    refine x_cons (x_ret ?_)
    walk_at "go"
    walk_at "go"
    exact ⟨_, _, rfl, rfl⟩
theorem take_ok (fuel k : Nat) (s : Dr) (n : Int) (h0 : 0 < n) (h1 : n < 1000000) :
   WC (Prog.call prog fuel (k + 2) "_law_take" [s.mk', .fr (.int n)]) (fun v o => ∃ r s', v = .fr (.int r) ∧ o = [Dr.mk' s'] ∧ 0 ≤ r ∧ r < n) noX := by
  rw [Prog.call_fn (F := f__law_take) (fun _ => rfl) rfl]
  refine w_fnB rfl ?_
  walk_at "fn"
  refine x_cons (x_ife ?_)
  walk_at "go"
  have key : ∀ s : Dr, WS (Ev.execs { prog.cfg fuel (Prog.call prog fuel (k + 1)) with prot := [0] } [.asg 2 (.op .mod [.op .int [.item (.var 0) (.cst (.str "rest"))], .var 1]), .setI (.var 0) (.cst (.str "rest")) (.op .fdiv [.op .int [.item (.var 0) (.cst (.str "rest"))], .var 1]), .ret (.mv 2)] [some s.mk', some (.fr (.int n)), none])
      (fun _ => False) (fun v env => WO (outs [0] 0 2 env) fun o => ∃ r s', v = .fr (.int r) ∧ o = [Dr.mk' s'] ∧ 0 ≤ r ∧ r < n) (fun _ _ => False) := by
    intro s
    have hn : n ≠ 0 := by omega
    have hb : n ≠ 0 ∧ n.natAbs < 1073741824 := ⟨hn, by omega⟩
    refine x_cons (x_asg ?_)
    walk_at "ev"
    rw [if_pos hn]
    walk_at "go"
    walk_at "go"
    refine x_cons (x_setI ?_)
    walk_at "ev"
    rw [if_pos hb]
    walk_at "go"
    walk_at "go"
    walk_at "go"
    walk_at "go"
    refine x_cons (x_ret ?_)
    walk_at "go"
    walk_at "go"
    exact ⟨_, _, rfl, rfl, Int.fmod_nonneg_of_pos _ h0, Int.fmod_lt_of_pos _ h0⟩
  refine ⟨fun hr => ?_, fun hr => ?_⟩
  · refine x_cons (x_setI ?_)
    walk_at "ev"
    cases hl : s.large with
    | nil =>
      walk_at "ev"
      refine w_back (mixed_ok fuel k s) (fun r o q => ?_) (fun _ _ z => z.elim)
      obtain ⟨i, s', rfl, rfl⟩ := q
      walk_at "go"
      walk_at "go"
      walk_at "go"
      walk_at "go"
      exact x_nil ((key _).imp (fun _ z => z.elim) (fun _ _ z => z) fun _ _ z => z.elim)
    | cons x l =>
      walk_at "go"
      walk_at "go"
      walk_at "go"
      walk_at "go"
      exact x_nil ((key _).imp (fun _ z => z.elim) (fun _ _ z => z) fun _ _ z => z.elim)
  · refine x_nil ((key s).imp (fun _ z => z.elim) (fun _ _ z => z) fun _ _ z => z.elim)
theorem begun_ok (fuel k : Nat) (ns : List Int) (hn : ns.length ≤ 63) : WC (Prog.call prog fuel (k + 1) "_law_begun" [.fr (.lst (ns.map .int))]) (fun v o => ∃ s : Dr, v = s.mk' ∧ o = []) noX := by
  rw [Prog.call_fn (F := f__law_begun) (fun _ => rfl) rfl]
  refine w_fnB rfl ?_
  walk_at "fn"
  refine x_cons (x_asg ?_)
  walk_at "ev"
  refine w_bind (w_turns (fun pre acc env => ∃ l : List Int, acc = intsO l ∧ l.length ≤ pre.length ∧ env = [some (.fr (.lst (ns.map .int))), none, none]) (pre := []) ⟨[], rfl, Nat.le_refl _, rfl⟩ (fun pre d post acc env e h => ?_) (fun acc env h => ?_))
  · obtain ⟨l, rfl, hl, rfl⟩ := h
    obtain ⟨c, _, rfl⟩ := List.mem_map.mp (mem_mid e)
    walk_at "go"
    walk_at "ev"
    rw [if_pos (show 0 ≤ (18 : Int) ∧ (18 : Int) ≤ 1000 ∧ Int.natAbs 10 < 2 ^ 64 by decide)]
    walk_at "ev"
    generalize decide (10 ^ Int.toNat 18 ≤ if c < 0 then -c else c) = b
    cases b with
    | false =>
      walk_at "go"
      refine ⟨l, rfl, ?_, rfl⟩
      simp only [List.length_append, List.length_cons, List.length_nil]
      omega
    | true =>
      walk_at "ev"
      rw [if_pos (show 0 ≤ (18 : Int) ∧ (18 : Int) ≤ 1000 ∧ Int.natAbs 10 < 2 ^ 64 by decide)]
      walk_at "ev"
      have hl2 : pre.length < ns.length := by
        have := congrArg List.length e
        simp only [List.length_append, List.length_cons, List.length_nil, List.length_map] at this
        omega
      rw [if_pos (by simp only [intsO, List.length_map]; omega)]
      walk_at "go"
      refine ⟨l ++ [_], (intsO_app l _).symm, ?_, rfl⟩
      simp only [List.length_append, List.length_cons, List.length_nil]
      omega
  · obtain ⟨l, rfl, hl, rfl⟩ := h
    walk_at "go"
    walk_at "go"
    refine x_cons (x_ret ?_)
    walk_at "ev"
    repeat refine w_bind ?_
    refine w_turns (fun pre acc env => ∃ l : List Int, acc = intsO l ∧ l.length ≤ pre.length ∧ env = [some (.fr (.lst (ns.map .int))), none, none]) (pre := []) ⟨[], rfl, Nat.le_refl _, rfl⟩ (fun pre d post acc env e h => ?_) (fun acc env h => ?_)
    · obtain ⟨l, rfl, hl, rfl⟩ := h
      obtain ⟨c, _, rfl⟩ := List.mem_map.mp (mem_mid e)
      walk_at "go"
      walk_at "ev"
      have hl2 : pre.length < ns.length := by
        have := congrArg List.length e
        simp only [List.length_append, List.length_cons, List.length_nil, List.length_map] at this
        omega
      rw [if_pos (by simp only [intsO, List.length_map]; omega)]
      walk_at "go"
      refine ⟨l ++ [_], (intsO_app l _).symm, ?_, rfl⟩
      simp only [List.length_append, List.length_cons, List.length_nil]
      omega
    · obtain ⟨l2, rfl, hl2, rfl⟩ := h
      refine w_ok ?_
      refine w_ok ?_
      refine w_ok ?_
      refine w_ok ?_
      refine w_ok ?_
      refine w_ok ?_
      refine w_ok ?_
      refine w_ok ?_
      refine w_some ?_
      exact ⟨⟨l, 0, false, l2, 0⟩, rfl, rfl⟩
theorem pick_ok (fuel k : Nat) (s : Dr) (xs : List D) (h0 : xs ≠ []) (h1 : xs.length < 1000000) : WC (Prog.call prog fuel (k + 3) "_law_pick" [s.mk', .fr (.lst xs)]) (fun v o => ∃ x s', x ∈ xs ∧ v = .fr x ∧ o = [Dr.mk' s']) noX := by
  rw [Prog.call_fn (F := f__law_pick) (fun _ => rfl) rfl]
  refine w_fnB rfl ?_
  walk_at "fn"
  refine x_cons (x_ret ?_)
  walk_at "ev"
  refine w_bind (w_bind ?_)
  have hl : 0 < xs.length := List.length_pos_iff.mpr h0
  refine w_back (take_ok fuel k s xs.length (by omega) (by omega)) (fun r o q => ?_) (fun _ _ z => z.elim)
  obtain ⟨i, s', rfl, rfl, hi0, hi1⟩ := q
  obtain ⟨j, rfl⟩ := Int.eq_ofNat_of_zero_le hi0
  have hj : j < xs.length := by omega
  walk_at "go"
  refine w_ok ?_
  have hc : child (.fr (.lst xs)) (.int (j : Int)) = some (.fr xs[j]) := by
    simp only [child, seqIx]
    rw [if_pos (by omega), if_pos (by simpa using hj)]
    simp [hj]
  rw [itemR_eq, hc]
  refine w_oc (w_some (w_ok ?_))
  walk_at "go"
  exact ⟨_, s', List.getElem_mem hj, rfl, rfl⟩
def vals : List D := [.non, .bl false, .int (-5), .int (10 ^ 45), .str "", .str "wide", .str "two words", .lst [], .lst [.tup [.int 0, .int 2]], .tup [], .tup [.int 4], .dct [], .dct [(.str "a", .tup [.int 1])], .lst [.lst [.non]]]
theorem any_ok (fuel k : Nat) (s : Dr) : WC (Prog.call prog fuel (k + 4) "_law_any" [s.mk']) (fun v o => ∃ x s', x ∈ vals ∧ v = .fr x ∧ o = [Dr.mk' s']) noX := by
  rw [Prog.call_fn (F := f__law_any) (fun _ => rfl) rfl]
  refine w_fnB rfl ?_
  walk_at "fn"
  refine x_cons (x_asg (w_eq (a := .lst [.fr .non, .fr (.bl false), .fr (.int (-5)), .fr (.int (10 ^ 45)), .fr (.str ""), .fr (.str "wide"), .fr (.str "two words"), .lst [], .lst [.fr (.tup [.int 0, .int 2])], .fr (.tup []), .fr (.tup [.int 4]), .dct [], .dct [(.str "a", .fr (.tup [.int 1]))], .lst [.lst [.fr .non]]]) (e := [some s.mk', none]) (by kernel_rfl) ?_))
  walk_at "go"
  refine x_cons (x_ret ?_)
  walk_at "ev"
  refine w_back (pick_ok fuel k s _ ?_ ?_) (fun r o q => ?_) (fun _ _ z => z.elim)
  · intro z; cases z
  · decide
  obtain ⟨x, s', hx, rfl, rfl⟩ := q
  walk_at "go"
  walk_at "go"
  exact ⟨x, s', hx, rfl, rfl⟩
def isTrue : Ro → Bool
  | .ret (.fr (.bl true)) (_ :: _) => true
  | _ => false
theorem isTrue_ws {r : Ro} {N : Ev.Env → Prop} {X : D → Ev.Env → Prop} (h : isTrue r = true) : WS r N (fun v env => WO (outs [] 0 1 env) (fun o => v = .fr (.bl true) ∧ o = [])) X := by
  unfold isTrue at h
  split at h
  · exact w_ret (w_some ⟨rfl, rfl⟩)
  · cases h
def flagsB (i : Nat) : List Bool := (List.range 25).map fun k => ((k : Nat) : Int) == (i : Int)
def flags (i : Nat) : List OV := (flagsB i).map fun b => .fr (.bl b)
def IsErr (cl : String → List OV → Rc) (i : Nat) (c : String) : Prop :=
  (∀ fs, cl "_law_kinds" [.fr (.exn c fs)] = .ok (.lst (flags i)) []) ∧ prog.sub c "LeftError" = true ∧ prog.sub c "ValueError" = true
theorem ki_0 (fuel : Nat) : IsErr (Prog.call prog fuel 19) 0 "BadPrime" := ⟨fun fs => by kernel_rfl, by decide, by decide⟩
theorem ki_1 (fuel : Nat) : IsErr (Prog.call prog fuel 19) 1 "BadRow" := ⟨fun fs => by kernel_rfl, by decide, by decide⟩
theorem ki_2 (fuel : Nat) : IsErr (Prog.call prog fuel 19) 2 "BadTable" := ⟨fun fs => by kernel_rfl, by decide, by decide⟩
theorem ki_3 (fuel : Nat) : IsErr (Prog.call prog fuel 19) 3 "BadChoice" := ⟨fun fs => by kernel_rfl, by decide, by decide⟩
theorem ki_4 (fuel : Nat) : IsErr (Prog.call prog fuel 19) 4 "BadWord" := ⟨fun fs => by kernel_rfl, by decide, by decide⟩
theorem ki_5 (fuel : Nat) : IsErr (Prog.call prog fuel 19) 5 "NotFrame" := ⟨fun fs => by kernel_rfl, by decide, by decide⟩
theorem ki_6 (fuel : Nat) : IsErr (Prog.call prog fuel 19) 6 "NotUndone" := ⟨fun fs => by kernel_rfl, by decide, by decide⟩
theorem ki_7 (fuel : Nat) : IsErr (Prog.call prog fuel 19) 7 "BadDeed" := ⟨fun fs => by kernel_rfl, by decide, by decide⟩
theorem ki_8 (fuel : Nat) : IsErr (Prog.call prog fuel 19) 8 "BadLive" := ⟨fun fs => by kernel_rfl, by decide, by decide⟩
theorem ki_9 (fuel : Nat) : IsErr (Prog.call prog fuel 19) 9 "BadName" := ⟨fun fs => by kernel_rfl, by decide, by decide⟩
theorem ki_10 (fuel : Nat) : IsErr (Prog.call prog fuel 19) 10 "NothingLeft" := ⟨fun fs => by kernel_rfl, by decide, by decide⟩
theorem ki_11 (fuel : Nat) : IsErr (Prog.call prog fuel 19) 11 "BadWords" := ⟨fun fs => by kernel_rfl, by decide, by decide⟩
theorem ki_12 (fuel : Nat) : IsErr (Prog.call prog fuel 19) 12 "BadEnd" := ⟨fun fs => by kernel_rfl, by decide, by decide⟩
theorem ki_13 (fuel : Nat) : IsErr (Prog.call prog fuel 19) 13 "NotOdd" := ⟨fun fs => by kernel_rfl, by decide, by decide⟩
theorem ki_14 (fuel : Nat) : IsErr (Prog.call prog fuel 19) 14 "BadRules" := ⟨fun fs => by kernel_rfl, by decide, by decide⟩
theorem ki_15 (fuel : Nat) : IsErr (Prog.call prog fuel 19) 15 "BadLengths" := ⟨fun fs => by kernel_rfl, by decide, by decide⟩
theorem ki_16 (fuel : Nat) : IsErr (Prog.call prog fuel 19) 16 "NotLeast" := ⟨fun fs => by kernel_rfl, by decide, by decide⟩
theorem ki_17 (fuel : Nat) : IsErr (Prog.call prog fuel 19) 17 "BadChange" := ⟨fun fs => by kernel_rfl, by decide, by decide⟩
theorem ki_18 (fuel : Nat) : IsErr (Prog.call prog fuel 19) 18 "BadNumber" := ⟨fun fs => by kernel_rfl, by decide, by decide⟩
theorem ki_19 (fuel : Nat) : IsErr (Prog.call prog fuel 19) 19 "BadFrame" := ⟨fun fs => by kernel_rfl, by decide, by decide⟩
theorem ki_20 (fuel : Nat) : IsErr (Prog.call prog fuel 19) 20 "TooMany" := ⟨fun fs => by kernel_rfl, by decide, by decide⟩
theorem ki_21 (fuel : Nat) : IsErr (Prog.call prog fuel 19) 21 "BadMany" := ⟨fun fs => by kernel_rfl, by decide, by decide⟩
theorem ki_22 (fuel : Nat) : IsErr (Prog.call prog fuel 19) 22 "BadLead" := ⟨fun fs => by kernel_rfl, by decide, by decide⟩
theorem ki_23 (fuel : Nat) : IsErr (Prog.call prog fuel 19) 23 "BadText" := ⟨fun fs => by kernel_rfl, by decide, by decide⟩
theorem ki_24 (fuel : Nat) : IsErr (Prog.call prog fuel 19) 24 "NoWatch" := ⟨fun fs => by kernel_rfl, by decide, by decide⟩
theorem errs_ok (fuel : Nat) (x : D) : Prog.call prog fuel 19 "_law_errors_of" [.fr x] = .ok (.lst [.fr (.tup [.exn "BadNumber" [("part", x)], x, x]), .fr (.tup [.exn "BadFrame" [("part", x)], x, x]), .fr (.tup [.exn "TooMany" [("most", x)], x, x]), .fr (.tup [.exn "BadMany" [("part", x)], x, x]), .fr (.tup [.exn "BadLead" [("part", x)], x, x]), .fr (.tup [.exn "BadText" [("at", x)], x, x]), .fr (.tup [.exn "NoWatch" [("name", x)], x, x])]) [] := by kernel_rfl
def exns (x : D) : List D := [.exn "BadPrime" [], .exn "BadRow" [], .exn "BadTable" [], .exn "BadChoice" [], .exn "BadWord" [], .exn "NotFrame" [], .exn "NotUndone" [], .exn "BadDeed" [], .exn "BadLive" [], .exn "BadName" [], .exn "NothingLeft" [], .exn "BadWords" [], .exn "BadEnd" [], .exn "NotOdd" [], .exn "BadRules" [], .exn "BadLengths" [], .exn "NotLeast" [], .exn "BadChange" [], .exn "BadNumber" [("part", x)], .exn "BadFrame" [("part", x)], .exn "TooMany" [("most", x)], .exn "BadMany" [("part", x)], .exn "BadLead" [("part", x)], .exn "BadText" [("at", x)], .exn "NoWatch" [("name", x)]]
def threes (x : D) : List D := [.tup [.exn "BadNumber" [("part", x)], x, x], .tup [.exn "BadFrame" [("part", x)], x, x], .tup [.exn "TooMany" [("most", x)], x, x], .tup [.exn "BadMany" [("part", x)], x, x], .tup [.exn "BadLead" [("part", x)], x, x], .tup [.exn "BadText" [("at", x)], x, x], .tup [.exn "NoWatch" [("name", x)], x, x]]
def S3 : Ev.E := .op .add [.call "_law_plain_errors" [.var 5], .comp (.item (.var 9) (.cst (.int 0))) (.nm 9) .seq [.var 2] []]
theorem asg3 (fuel : Nat) (sc dr : OV) (w x : D) : Ev.ev {prog.cfg fuel (Prog.call prog fuel 19) with prot := []} S3 false [some sc, some dr, some (.lst ((threes x).map .fr)), none, none, some (.fr w), some (.fr x), none, none, none, none] = .ok (.lst ((exns x).map .fr)) [some sc, some dr, some (.fr (.lst (threes x))), none, none, some (.fr w), some (.fr x), none, none, none, none] := by kernel_rfl
theorem isErr_all (fuel : Nat) (x : D) : ∀ d ∈ ((exns x).zipIdx).map (fun p => D.tup [.int p.2, p.1]), ∃ i c fs, d = .tup [.int ((i:Nat):Int), .exn c fs] ∧ IsErr (Prog.call prog fuel 19) i c := by
  intro d h
  simp only [exns, List.zipIdx_cons, List.zipIdx_nil, List.map_cons, List.map_nil, List.mem_cons, List.not_mem_nil, or_false, Nat.reduceAdd, Nat.zero_add] at h
  rcases h with rfl | rfl | rfl | rfl | rfl | rfl | rfl | rfl | rfl | rfl | rfl | rfl | rfl | rfl | rfl | rfl | rfl | rfl | rfl | rfl | rfl | rfl | rfl | rfl | rfl
  · exact ⟨0, _, _, rfl, ki_0 fuel⟩
  · exact ⟨1, _, _, rfl, ki_1 fuel⟩
  · exact ⟨2, _, _, rfl, ki_2 fuel⟩
  · exact ⟨3, _, _, rfl, ki_3 fuel⟩
  · exact ⟨4, _, _, rfl, ki_4 fuel⟩
  · exact ⟨5, _, _, rfl, ki_5 fuel⟩
  · exact ⟨6, _, _, rfl, ki_6 fuel⟩
  · exact ⟨7, _, _, rfl, ki_7 fuel⟩
  · exact ⟨8, _, _, rfl, ki_8 fuel⟩
  · exact ⟨9, _, _, rfl, ki_9 fuel⟩
  · exact ⟨10, _, _, rfl, ki_10 fuel⟩
  · exact ⟨11, _, _, rfl, ki_11 fuel⟩
  · exact ⟨12, _, _, rfl, ki_12 fuel⟩
  · exact ⟨13, _, _, rfl, ki_13 fuel⟩
  · exact ⟨14, _, _, rfl, ki_14 fuel⟩
  · exact ⟨15, _, _, rfl, ki_15 fuel⟩
  · exact ⟨16, _, _, rfl, ki_16 fuel⟩
  · exact ⟨17, _, _, rfl, ki_17 fuel⟩
  · exact ⟨18, _, _, rfl, ki_18 fuel⟩
  · exact ⟨19, _, _, rfl, ki_19 fuel⟩
  · exact ⟨20, _, _, rfl, ki_20 fuel⟩
  · exact ⟨21, _, _, rfl, ki_21 fuel⟩
  · exact ⟨22, _, _, rfl, ki_22 fuel⟩
  · exact ⟨23, _, _, rfl, ki_23 fuel⟩
  · exact ⟨24, _, _, rfl, ki_24 fuel⟩
def fl (i : Int) : D → OV
  | .int j => .fr (.bl (j == i))
  | _ => .fr .non
theorem fl_flags (i : Nat) : (rangeD 0 25).map (fl i) = flags i := by
  simp only [rangeD, flags, flagsB, List.map_map]
  apply List.map_congr_left
  intro k _
  simp only [Function.comp, fl, Int.zero_add]
theorem views_flags (i : Nat) : views (flags i) = (flagsB i).map .bl := by
  unfold flags
  induction flagsB i with
  | nil => rfl
  | cons b l ih => exact congrArg (D.bl b :: ·) ih
theorem eqDs_bls (n : Nat) (l : List Bool) : eqDs n (l.map .bl) (l.map .bl) = some true := by
  induction l with
  | nil => cases n <;> rfl
  | cons b l ih =>
    rw [List.map_cons, eqDs, ih]
    have : eqD n (.bl b) (.bl b) = some true := by
      cases n <;> (cases b <;> rfl)
    rw [this]
    rfl
theorem eqD_bls (l : List Bool) : eqD eqN (.lst (l.map .bl)) (.lst (l.map .bl)) = some true := by
  show (if (l.map D.bl).length = (l.map D.bl).length then eqDs 29 (l.map .bl) (l.map .bl) else some false) = _
  rw [if_pos rfl]
  exact eqDs_bls 29 l
theorem repr_ok (x : D) (hx : x ∈ vals) : ∃ r, reprD (.lst [x, x]) = some r := by
  refine Option.isSome_iff_exists.mp ?_
  simp only [vals, List.mem_cons, List.not_mem_nil, or_false] at hx
  rcases hx with rfl | rfl | rfl | rfl | rfl | rfl | rfl | rfl | rfl | rfl | rfl | rfl | rfl | rfl <;> kernel_rfl
theorem end_ok (fuel : Nat) (sc dr t e w x : OV) (g7 g8 g9 g10 : Option OV) : isTrue (Ev.execs {prog.cfg fuel (Prog.call prog fuel 19) with prot := []} (f_law.body.drop 6) [some sc, some dr, some t, some e, none, some w, some x, g7, g8, g9, g10]) = true := by kernel_rfl
end P00
namespace P00
open PySem Ev K00
theorem ch_t1 {a b c : D} : child (.fr (.tup [a, b, c])) (.int 1) = some (.fr b) := rfl
theorem ch_t2 {a b c : D} : child (.fr (.tup [a, b, c])) (.int 2) = some (.fr c) := rfl
local macro_rules | `(tactic| walk_at "ev") => `(tactic| (conv => arg 1; simp only [oc_some, oc_none, bind_ok, bind_exc, thn_ok, thn_exc, ro_next, ro_ret, ro_exc, of_oc, noexc_ok, at_zero, at_succ, keyOf_var, keyOf_cst, pk_var, pk_item, pk_attr, pput_var, pput_item, pput_attr, share_eq, shareO_fr, shareO_lst, shareO_dct, shareO_ins, pkOr_eq, ev_var, ev_mv, ev_cst, ev_glo, itemR_eq, ev_item', ev_attr', ev_tup, ev_lst, ev_dct, evs_nil, evs_cons, evps_nil, evps_cons, andK_bl, orK_bl, ev_and, ev_or, ev_not, ev_ifx, ev_iscE, finish_eq, ev_call, evargs_nil, evargs_cons, ev_callk, evks_nil, evks_cons, evt_nil, evt_cons, ev_comp, ev_mutE, mutFin_eq, test_eq, turns_nil, oneStep_eq, isPath, simple, simples, ↓reduceIte, Bool.and_true, Bool.true_and, Bool.and_false, Bool.false_and, Bool.or_false, Bool.false_or, Bool.or_true, Bool.true_or, Bool.false_eq_true, Bool.not_true, Bool.not_false, owned, isSlot, outsOf, argsOf, apart, putPaths, List.isEmpty_nil, List.isEmpty_cons, Option.isSome_some, Option.isSome_none, List.set_cons_zero, List.set_cons_succ, List.mem_cons, List.not_mem_nil, List.map_cons, List.map_nil, view_fr, view_lst, Env.put, List.length_cons, List.length_nil, rootOf, List.all_cons, List.all_nil, Bool.and_self, outs, Nat.reduceAdd, Nat.zero_add, or_false, false_or, or_true, true_or, or_self, if_true, if_false, Nat.reduceLT, decide_true, decide_false, mutS_lst, mut_pop0, mut_append, eqD_lnil, oLst_eq, items_lst, slots_nm, wipe_nil, wipe_cons, sizeB_iff, keyOf_op, keyOf_call, keyOf_item, keyOf_attr, keyOf_mv, keyOf_glo, views_nil, views_cons, putAll_nil, putAll_cons, cfg_call, cfg_sub, cfg_io, Nat.reduceSub, List.replicate, List.cons_append, List.nil_append, Nat.reduceEqDiff, Nat.reduceLeDiff, Option.map_some, Option.map_none, setIO_fr, List.contains_cons, List.contains_nil, Nat.reduceBEq, Bool.or_self, ev_add, ev_sub, ev_mul, ev_mod, ev_fdiv, ev_pow, ev_neg, ev_eq, ev_ne, ev_lt, ev_le, ev_gt, ev_ge, ev_isin, ev_notin, ev_isN, ev_notN, ev_slice, ev_len, ev_int, ev_abs, ev_repr, ev_list, ev_tuple, ev_dict, ev_sorted, ev_sum, ev_all, ev_any, ev_min2, ev_max2, ev_get1, ev_get2, truth_bl, truth_int, truth_non, truth_lstF, truth_tup, truth_lst, o_add_ii, o_sub_ii, o_mul_ii, o_mod_ii, o_fdiv_ii, o_pow_ii, o_neg_i, o_eq_ab, o_ne_ab, eqD_ii, o_le_ii, o_ge_ii, o_lt_ii, o_gt_ii, o_len_o, o_int_i, o_abs_i, o_repr_o, o_min_ii, o_max_ii, o_isN_o, o_notN_o, lenOV_lst, lenOV_lstF, lenOV_tup, walk_seq, items_fl, items_ft, bind_nm, views_mapfr, walk_enumF, walk_range1, bind_tup, binds_nil, binds_cons, isc_exn, eqD_ss, backR_ok, backR_exc, List.any_cons, List.any_nil, Option.some.injEq, ch_rest, ch_large, ch_turn, ch_cells, st_rest, st_turn, st_large, st_cells, dc_mk, io_mixed, io_take, io_pick, io_any, io_begun, io_errs, io_kinds, views_ints, emp_map, intsO_nil, intsO_cons, ch_t1, ch_t2]))
local macro_rules | `(tactic| walk_at "go") => `(tactic| (walk_at "ev"; first | refine w_ok ?_ | refine w_some ?_))
local macro_rules | `(tactic| walk_at "fn") => `(tactic| (conv => arg 1; simp only [List.map_cons, List.map_nil, Nat.reduceSub, List.replicate_succ, List.replicate_zero, List.cons_append, List.nil_append]))
def B7 : List Ev.S := [(.ife (.op .ne [(.call "_law_kinds" [(.var 8)]), (.comp (.op .eq [(.var 10), (.var 7)]) (.nm 10) .range1 [(.cst (.int 25))] [])]) [(.ret (.cst (.bl false)))] []),
  (.ife (.or (.not (.isc (.var 8) ["LeftError"])) (.not (.isc (.var 8) ["ValueError"]))) [(.ret (.cst (.bl false)))] [])]
theorem body_ok (cl : String → List OV → Rc) (fuel : Nat) (o0 o1 o2 o3 o5 o6 : OV) (g9 g10 : Option OV) (i : Nat) (c : String) (fs : List (String × D)) (hk : IsErr cl i c) :
    WS (Ev.execs {prog.cfg fuel cl with prot := []} B7 [some o0, some o1, some o2, some o3, none, some o5, some o6, some (.fr (.int (i : Int))), some (.fr (.exn c fs)), g9, g10])
      (fun env => ∃ g7 g8 g9 g10, env = [some o0, some o1, some o2, some o3, none, some o5, some o6, g7, g8, g9, g10]) (fun _ _ => False) (fun _ _ => False) := by
  obtain ⟨hk, h1, h2⟩ := hk
  unfold B7
  refine x_cons (x_ife ?_)
  walk_at "ev"
  rw [hk fs]
  walk_at "ev"
  rw [if_pos (show numOk 25 = true from rfl)]
  walk_at "ev"
  refine w_bind ?_
  refine w_bind ?_
  refine w_bind ?_
  refine w_bind ?_
  refine w_bind ?_
  refine w_turns (fun pre acc env => acc = pre.map (fl i) ∧ env = [some o0, some o1, some o2, some o3, none, some o5, some o6, some (.fr (.int (i : Int))), some (.fr (.exn c fs)), g9, none]) (pre := []) ⟨rfl, rfl⟩ (fun pre d post acc env e h => ?_) (fun acc env h => ?_)
  · obtain ⟨rfl, rfl⟩ := h
    obtain ⟨j, hj, rfl⟩ := List.mem_map.mp (mem_mid e)
    walk_at "go"
    walk_at "ev"
    have hl : (pre.map (fl i)).length ≤ 999999 := by
      have := congrArg List.length e
      simp only [List.length_append, List.length_cons, List.length_nil, rangeD, List.length_map, List.length_range] at this
      rw [List.length_map]
      have h25 : Int.toNat 25 = 25 := rfl
      omega
    rw [if_pos hl]
    refine w_ok ⟨?_, rfl⟩
    rw [List.map_append]
    rfl
  · obtain ⟨rfl, rfl⟩ := h
    rw [List.nil_append, show Int.toNat 25 = 25 from rfl, fl_flags]
    refine w_ok ?_
    refine w_ok ?_
    refine w_ok ?_
    walk_at "ev"
    simp only [views_flags, eqD_bls]
    walk_at "go"
    walk_at "go"
    refine ⟨fun z => (by cases z), fun _ => x_nil ?_⟩
    refine x_cons (x_ife ?_)
    walk_at "ev"
    rw [h1, h2]
    walk_at "go"
    refine ⟨fun z => (by cases z), fun _ => x_nil (x_nil ?_)⟩
    exact ⟨_, _, _, _, rfl⟩
theorem gap_ok (cl : String → List OV → Rc) (fuel : Nat) (o0 o1 e w : OV) (x : D) (rx : Str) (hr : reprD (.lst [x, x]) = some rx) (g7 g8 g9 g10 : Option OV) :
    WR (Ev.test {prog.cfg fuel cl with prot := []} (.op .ne [(.comp (.cst (.int 1)) (.nm 9) .seq [(.var 2)] [(.op .ne [(.op .repr [(.op .lst [(.item (.var 9) (.cst (.int 1))), (.item (.var 9) (.cst (.int 2)))])]), (.op .repr [(.op .lst [(.var 6), (.var 6)])])])]), (.op .lst [])]) [some o0, some o1, some (.fr (.lst (threes x))), some e, none, some w, some (.fr x), g7, g8, g9, g10])
      (fun t env => t = false ∧ ∃ g9, env = [some o0, some o1, some (.fr (.lst (threes x))), some e, none, some w, some (.fr x), g7, g8, g9, g10]) noX := by
  walk_at "ev"
  refine w_bind ?_
  refine w_bind ?_
  refine w_bind ?_
  refine w_bind ?_
  refine w_turns (fun pre acc env => acc = [] ∧ env = [some o0, some o1, some (.fr (.lst (threes x))), some e, none, some w, some (.fr x), g7, g8, none, g10]) (pre := []) ⟨rfl, rfl⟩ (fun pre d post acc env e h => ?_) (fun acc env h => ?_)
  · obtain ⟨rfl, rfl⟩ := h
    obtain ⟨c, fs, rfl⟩ : ∃ c fs, d = .tup [.exn c fs, x, x] := by
      have hd := mem_mid e
      simp only [threes, List.mem_cons, List.not_mem_nil, or_false] at hd
      rcases hd with rfl | rfl | rfl | rfl | rfl | rfl | rfl <;> exact ⟨_, _, rfl⟩
    walk_at "go"
    walk_at "ev"
    simp only [hr]
    walk_at "ev"
    simp only [hr]
    walk_at "ev"
    simp only [beq_self_eq_true, Bool.not_true]
    walk_at "go"
    exact ⟨rfl, rfl⟩
  · obtain ⟨rfl, rfl⟩ := h
    refine w_ok ?_
    refine w_ok ?_
    refine w_ok ?_
    walk_at "go"
    exact ⟨rfl, _, rfl⟩
theorem law_rest (cl : String → List OV → Rc) (fuel : Nat) (sc dr : OV) (w x : D) (rx : Str) (hr : reprD (.lst [x, x]) = some rx)
    (f1 : cl "_law_errors_of" [.fr x] = .ok (.lst ((threes x).map .fr)) [])
    (f2 : ∀ d ∈ ((exns x).zipIdx).map (fun p => D.tup [.int p.2, p.1]), ∃ i c fs, d = .tup [.int ((i:Nat):Int), .exn c fs] ∧ IsErr cl i c)
    (f3 : Ev.ev {prog.cfg fuel cl with prot := []} S3 false [some sc, some dr, some (.lst ((threes x).map .fr)), none, none, some (.fr w), some (.fr x), none, none, none, none] = .ok (.lst ((exns x).map .fr)) [some sc, some dr, some (.fr (.lst (threes x))), none, none, some (.fr w), some (.fr x), none, none, none, none])
    (f4 : ∀ g7 g8 g9 g10, isTrue (Ev.execs {prog.cfg fuel cl with prot := []} (f_law.body.drop 6) [some sc, some dr, some (.fr (.lst (threes x))), some (.fr (.lst (exns x))), none, some (.fr w), some (.fr x), g7, g8, g9, g10]) = true) :
    WS (Ev.execs {prog.cfg fuel cl with prot := []} (f_law.body.drop 2) [some sc, some dr, none, none, none, some (.fr w), some (.fr x), none, none, none, none])
      (fun env => WO (outs [] 0 1 env) (fun o => OV.fr D.non = .fr (.bl true) ∧ o = [])) (fun v env => WO (outs [] 0 1 env) (fun o => v = .fr (.bl true) ∧ o = [])) (fun x env => WO (outs [] 0 1 env) (noX x)) := by
  simp only [f_law, List.drop_succ_cons, List.drop_zero] at f4 ⊢
  refine x_cons (x_asg ?_)
  walk_at "ev"
  rw [f1]
  walk_at "go"
  walk_at "go"
  refine x_cons (x_asg (w_eq f3 ?_))
  walk_at "go"
  refine x_cons (x_fore ?_)
  walk_at "go"
  walk_at "go"
  refine x_for (fun _ env => ∃ g7 g8 g9 g10, env = [some sc, some dr, some (.fr (.lst (threes x))), some (.fr (.lst (exns x))), none, some (.fr w), some (.fr x), g7, g8, g9, g10]) (pre := []) ⟨_, _, _, _, rfl⟩ (fun pre d post env e h => ?_) (fun env h => ?_)
  · obtain ⟨g7, g8, g9, g10, rfl⟩ := h
    obtain ⟨i, c, fs, rfl, hk⟩ := f2 d (mem_mid e)
    walk_at "go"
    exact (body_ok cl fuel sc dr _ _ _ _ g9 g10 i c fs hk).imp (fun _ z => z) (fun _ _ z => z.elim) (fun _ _ z => z.elim)
  · obtain ⟨g7, g8, g9, g10, rfl⟩ := h
    refine x_cons (x_ife ((gap_ok cl fuel sc dr _ _ x rx hr g7 g8 g9 g10).imp (fun t env q => ?_) (fun _ _ z => z.elim)))
    obtain ⟨rfl, g9, rfl⟩ := q
    refine ⟨fun z => (by cases z), fun _ => x_nil ?_⟩
    exact isTrue_ws (f4 g7 g8 g9 g10)
theorem law_at (cl : String → List OV → Rc) (fuel : Nat) (ns : List Int)
    (d1 : WC (cl "_law_begun" [.fr (.lst (ns.map .int))]) (fun v o => ∃ s : Dr, v = s.mk' ∧ o = []) noX)
    (d2 : ∀ (s : Dr) (xs : List D), xs ≠ [] → xs.length < 1000000 → WC (cl "_law_pick" [s.mk', .fr (.lst xs)]) (fun v o => ∃ x s', x ∈ xs ∧ v = .fr x ∧ o = [Dr.mk' s']) noX)
    (d3 : ∀ s : Dr, WC (cl "_law_any" [s.mk']) (fun v o => ∃ x s', x ∈ vals ∧ v = .fr x ∧ o = [Dr.mk' s']) noX)
    (f1 : ∀ x, cl "_law_errors_of" [.fr x] = .ok (.lst ((threes x).map .fr)) [])
    (f2 : ∀ x, ∀ d ∈ ((exns x).zipIdx).map (fun p => D.tup [.int p.2, p.1]), ∃ i c fs, d = .tup [.int ((i:Nat):Int), .exn c fs] ∧ IsErr cl i c)
    (f3 : ∀ sc dr w x, Ev.ev {prog.cfg fuel cl with prot := []} S3 false [some sc, some dr, some (.lst ((threes x).map .fr)), none, none, some (.fr w), some (.fr x), none, none, none, none] = .ok (.lst ((exns x).map .fr)) [some sc, some dr, some (.fr (.lst (threes x))), none, none, some (.fr w), some (.fr x), none, none, none, none])
    (f4 : ∀ sc dr t e w x g7 g8 g9 g10, isTrue (Ev.execs {prog.cfg fuel cl with prot := []} (f_law.body.drop 6) [some sc, some dr, some t, some e, none, some w, some x, g7, g8, g9, g10]) = true) :
    WC (runFn (prog.cfg fuel cl) f_law [.fr (.lst (ns.map .int))]) (fun v o => v = .fr (.bl true) ∧ o = []) noX := by
  refine w_fnB rfl ?_
  walk_at "fn"
  refine x_cons (x_asg ?_)
  walk_at "ev"
  refine w_back d1 (fun r o q => ?_) (fun _ _ z => z.elim)
  obtain ⟨s, rfl, rfl⟩ := q
  walk_at "go"
  walk_at "go"
  refine x_cons (x_par ?_)
  walk_at "ev"
  refine w_bind ?_
  refine w_back (d2 s _ ?_ ?_) (fun r o q => ?_) (fun _ _ z => z.elim)
  · intro z; cases z
  · decide
  obtain ⟨w, s1, _, rfl, rfl⟩ := q
  walk_at "go"
  walk_at "ev"
  refine w_bind (w_bind ?_)
  refine w_back (d3 s1) (fun r o q => ?_) (fun _ _ z => z.elim)
  obtain ⟨x, s2, hx, rfl, rfl⟩ := q
  walk_at "go"
  refine w_ok ?_
  refine w_ok ?_
  walk_at "go"
  obtain ⟨rx, hr⟩ := repr_ok x hx
  exact law_rest cl fuel _ _ w x rx hr (f1 x) (f2 x) (f3 _ _ w x) (fun g7 g8 g9 g10 => f4 _ _ _ _ _ _ g7 g8 g9 g10)
theorem law_ok (fuel : Nat) (ns : List Int) (hn : ns.length ≤ 63) : WC (Prog.call prog fuel 20 "law" [.fr (.lst (ns.map .int))]) (fun v o => v = .fr (.bl true) ∧ o = []) noX := by
  rw [Prog.call_fn (F := f_law) (fun _ => rfl) rfl]
  exact law_at (Prog.call prog fuel 19) fuel ns (begun_ok fuel 18 ns hn) (pick_ok fuel 16) (any_ok fuel 15) (errs_ok fuel) (isErr_all fuel) (asg3 fuel) (end_ok fuel)
theorem ev_ok (ns : List Int) (hn : ns.length ≤ 63) : Prog.call prog 1000000 20 "law" [.fr (.lst (ns.map .int))] = .ok (.fr (.bl true)) [] := by
  obtain ⟨v, o, h, rfl, rfl⟩ := (law_ok 1000000 ns hn).ok
  exact h
end P00
set_option maxHeartbeats 0
namespace K00
open PySem PySem.Spec PyProof.Rows L2 Ev
theorem run (w : World) : HandSHeadRun.RunEq R (PySem.W.view R.prog [36]) hk ob 30000 names w := by
  intro os
  kernel_rfl
end K00
set_option maxHeartbeats 0
namespace K00
end K00
open PySem PySem.W PySem.Calls PyProof.Rows
theorem K00.holds_of (ev_ok : ∀ ns : List Int, ns.length ≤ 63 → (∀ k ∈ ns, Builtin.Int.intBits k ≤ 1048576) → Ev.Prog.call K00.prog 1000000 20 "law" [.fr (.lst (ns.map .int))] = .ok (.fr (.bl true)) []) : PySem.Challenge.rw_leftproducts_k00_errors_of_all_parts.Holds := by
  w_on; o_law
  refine HandSHeadRun.head_any (r := OpenLaw.row PySem.Challenge.rw_leftproducts_k00_errors_of_all_parts) (q := view (OpenLaw.row PySem.Challenge.rw_leftproducts_k00_errors_of_all_parts).prog [36]) (H := K00.hk) (ob := K00.ob) (M := 30000) (loose := K00.names) (d := HandSHeadRun.topDef (OpenLaw.row PySem.Challenge.rw_leftproducts_k00_errors_of_all_parts).prog 36) (kwd := []) K00.ob_eq
    (by kernel_rfl) (fun s => by kernel_rfl) K00.run (by kernel_rfl) (by kernel_rfl) (by kernel_rfl) (by rfl) (by first | assumption | decide +kernel) (by decide +kernel) ⟨rfl, rfl, rfl, rfl, rfl, by decide +kernel⟩ ?hw ?hc
  case hw => w_witness2
  case hc =>
    refine Ev.walk_law (l := PySem.Challenge.rw_leftproducts_k00_errors_of_all_parts) (n := 63) (k := 23) (x := "_law_script") rfl (by decide) (by kernel_rfl) ⟨rfl, by decide, by decide⟩ ?F
    intro w mg fa h Y G hmg0
    obtain ⟨K, KX, c⟩ := Y
    have hn : (HandSHeadRun.topDef (OpenLaw.row PySem.Challenge.rw_leftproducts_k00_errors_of_all_parts).prog 36).name = ("law" : PySem.Str) := by kernel_rfl
    rw [hn] at hmg0
    have x0 : K00.Fx w K mg h := K00.fx_of c KX G
    obtain ⟨⟨fd, F⟩, hm⟩ := x0.d_law
    have ea : fa = Ev.cAt K "law" := by
      have z := hmg0.symm.trans hm
      cases z
      rfl
    subst ea
    refine ⟨K, fd, Ev.spE (K00.L.wd w K) [] 1 (Ev.Prog.call K00.prog 1000000 20 "law"), KX, fun s u => F.bindsA (ps := ["_law_script"]) (fun _ _ _ _ _ _ us hl => match us, hl with | [_], _ => rfl) s [u] rfl, fun H a ns hl hb hS => Ev.spE_law hS (ev_ok ns hl hb), fun base hkb hns => ?_⟩
    obtain ⟨fd2, l2, F2, _⟩ := (K00.gs (fuel := 1000000) (K00.fx_of c hkb hns) 20).2.2.2.2.2.2.2.2.1.ex
    have e := Ev.fd_uniq l2 (Ev.FunD.lk F)
    subst e
    exact F2
theorem PySem.Challenge.cw_leftproducts_k00_errors_of_all_parts_holds : PySem.Challenge.rw_leftproducts_k00_errors_of_all_parts.Holds := by
  exact K00.holds_of (fun ns h _ => P00.ev_ok ns h)
