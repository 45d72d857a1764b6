import PyProof.Rows.All
import Wide.All
import OpenK.AllK
import Wide.FinOn
import HandS.ForMost
import HandS.ForExc
import HandS.Codes
import HandS.IsInst
import HandS.Style
import HandS.Flow
import HandS.Lambda
import HandS.DictComp
import HandS.Star
import HandS.CallSlots
import HandS.ExcField
import HandS.ExcInit
import HandS.TryOnly
import HandS.Walk
import HandS.Deep
import HandS.HeadWalk
import HandS.Zip
import HandS.Iter
import HandS.OwnEq
import HandS.HeadHook4
import HandS.Head0
import HandS.Head1
import HandS.Head2
import HandS.HeadEnd
import PySem.Challenge.RW_stepwisekinds_k05_whole_terms
set_option Elab.async false
set_option linter.all false
set_option maxRecDepth 100000

section
set_option maxRecDepth 512
/-! Ev0: values, an IR of a Python subset, its evaluator. Plain Lean. -/
set_option autoImplicit false
namespace Ev

/-- a text by its codes -/
abbrev Nm := List Nat

/-- data: trees -/
inductive D where
  | non
  | bl (b : Bool)
  | int (i : Int)
  | str (s : Nm)
  | tup (xs : List D)
  | lst (xs : List D)
  | dct (kvs : List (D × D))
  | ins (c : Nat) (fs : List (Nm × D))
  deriving Inhabited

/-- what a slot holds: a tree, a reference to a cell, a lambda of the frame, a caught exception -/
inductive E where
  | v (d : D)
  | r (n : Nat)
  | clo (j : Nat)
  | exn (c : Nat) (fs : List (Nm × D))
  deriving Inhabited

/-- what may change -/
inductive Cell where
  | lst (xs : List D)
  | lkd (xs : List D)
  | dct (kvs : List (D × D))
  | ins (c : Nat) (fs : List (Nm × E))
  deriving Inhabited

abbrev Env := List (Option E)
abbrev Cells := List (Option Cell)

/-- the model's line of sizes -/
abbrev line : Nat := 16777216

inductive R (α : Type) where
  | ok (a : α) (C : Cells)
  | exc (c : Nat) (fs : List (Nm × D)) (C : Cells)
  | bad
def R.bind {α β : Type} (x : R α) (f : α → Cells → R β) : R β :=
  match x with
  | .ok a C => f a C
  | .exc c fs C => .exc c fs C
  | .bad => .bad
def R.of {α : Type} (o : Option α) (C : Cells) : R α :=
  match o with
  | some a => .ok a C
  | none => .bad
@[simp] theorem R.bind_ok {α β : Type} (a : α) (C : Cells) (f : α → Cells → R β) : (R.ok a C).bind f = f a C := Eq.trans rfl rfl
@[simp] theorem R.bind_exc {α β : Type} (c : Nat) (fs : List (Nm × D)) (C : Cells) (f : α → Cells → R β) : (R.exc c fs C).bind f = .exc c fs C := Eq.trans rfl rfl
@[simp] theorem R.bind_bad {α β : Type} (f : α → Cells → R β) : (R.bad : R α).bind f = .bad := Eq.trans rfl rfl
@[simp] theorem R.of_some {α : Type} (a : α) (C : Cells) : R.of (some a) C = .ok a C := Eq.trans rfl rfl
@[simp] theorem R.of_none {α : Type} (C : Cells) : R.of (none : Option α) C = .bad := Eq.trans rfl rfl

/-! ### data -/
mutual
/-- None, bools, ints, texts, tuples and lists of such -/
def pd : D → Bool
  | .tup xs => pds xs
  | .lst xs => pds xs
  | .dct _ => false
  | .ins _ _ => false
  | .str s => s.all (· < 1114112)
  | _ => true
def pds : List D → Bool
  | [] => true
  | x :: xs => pd x && pds xs
end
mutual
def dep : D → Nat
  | .tup xs => deps xs + 1
  | .lst xs => deps xs + 1
  | _ => 0
def deps : List D → Nat
  | [] => 0
  | x :: xs => max (dep x) (deps xs)
end
mutual
/-- == of data -/
def eqD : D → D → Bool
  | .non, .non => true
  | .bl a, .bl b => a == b
  | .bl a, .int j => (if a then 1 else 0) == j
  | .int i, .bl b => i == (if b then 1 else 0)
  | .int i, .int j => i == j
  | .str x, .str y => x == y
  | .tup xs, .tup ys => eqDs xs ys
  | .lst xs, .lst ys => eqDs xs ys
  | _, _ => false
def eqDs : List D → List D → Bool
  | [], [] => true
  | x :: xs, y :: ys => eqD x y && eqDs xs ys
  | _, _ => false
end

/-! ### operators -/
inductive Bop where
  | add | sub | mul | fdiv | mod | pow
  deriving DecidableEq
inductive Cop where
  | eq | ne | lt | le | gt | ge | isin | notin
  deriving DecidableEq

def smallI (i : Int) : Bool := decide (-(2 ^ 64) < i ∧ i < 2 ^ 64)
def bopV : Bop → D → D → Option D
  | .add, .int i, .int j => some (.int (i + j))
  | .add, .str x, .str y => if x.length + y.length ≤ line then some (.str (x ++ y)) else none
  | .add, .lst x, .lst y => if x.length + y.length ≤ line then some (.lst (x ++ y)) else none
  | .add, .tup x, .tup y => if x.length + y.length ≤ line then some (.tup (x ++ y)) else none
  | .sub, .int i, .int j => some (.int (i - j))
  | .mul, .int i, .int j => if smallI i || smallI j then some (.int (i * j)) else none
  | .mul, .lst x, .int n => if 0 ≤ n ∧ n ≤ 1000000 ∧ x.length * n.toNat ≤ line then some (.lst (List.replicate n.toNat x).flatten) else none
  | .fdiv, .int i, .int j => if 0 < j ∧ j < 1073741824 then some (.int (i / j)) else none
  | .mod, .int i, .int j => if 0 < j then some (.int (i % j)) else none
  | .pow, .int i, .int j => if 0 ≤ j ∧ j ≤ 1000000 ∧ i.natAbs < 2 ^ 64 then some (.int (i ^ j.toNat)) else none
  | _, _, _ => none

/-- op= of what isn't changed in place -/
def augV : Bop → D → D → Option D
  | .add, .int i, .int j => some (.int (i + j))
  | .sub, .int i, .int j => some (.int (i - j))
  | .mul, .int i, .int j => if smallI i || smallI j then some (.int (i * j)) else none
  | .add, .str x, .str y => if x.length + y.length ≤ line then some (.str (x ++ y)) else none
  | _, _, _ => none
def memD (x : D) : List D → Bool
  | [] => false
  | y :: ys => eqD y x || memD x ys

/-! ### dicts: keys are ints, texts -/
def keyB : D → Bool
  | .int _ => true
  | .str _ => true
  | _ => false
def kEq : D → D → Bool
  | .int i, .int j => i == j
  | .str a, .str b => a == b
  | _, _ => false
/-- a dict's look -/
def lookK (k : D) : List (D × D) → Option D
  | [] => none
  | (a, b) :: r => if kEq a k then some b else lookK k r
def setK (k v : D) : List (D × D) → List (D × D)
  | [] => []
  | (a, b) :: r => (a, if kEq a k then v else b) :: setK k v r
def putKd (k v : D) (kvs : List (D × D)) : List (D × D) := if (lookK k kvs).isSome then setK k v kvs else kvs ++ [(k, v)]
/-- of what isn't laid elsewhere: alike -/
def sameF : D → D → Bool
  | .non, .non => true
  | .bl a, .bl b => a == b
  | .int i, .int j => i == j
  | .str a, .str b => a == b
  | _, _ => false
def allKV (ls : List (D × D)) : List (D × D) → Bool
  | [] => true
  | (k, v) :: r => (match lookK k ls with
    | some w => sameF v w
    | none => false) && allKV ls r
/-- dicts that are alike -/
def eqKV (ks ls : List (D × D)) : Bool := ks.length == ls.length && allKV ls ks
def dEq : D → D → Option Bool
  | .dct ks, .dct ls => if eqKV ks ls then some true else none
  | _, _ => none
def dixV : D → D → Option D
  | .dct kvs, k => if keyB k then lookK k kvs else none
  | _, _ => none
def dgtV : D → D → D → Option D
  | .dct kvs, k, d => if keyB k then some ((lookK k kvs).getD d) else none
  | _, _, _ => none
/-- texts in order -/
def leN : Nm → Nm → Bool
  | [], _ => true
  | _ :: _, [] => false
  | a :: x, b :: y => decide (a < b) || (a == b && leN x y)
def insN (x : Nm) : List Nm → List Nm
  | [] => [x]
  | y :: r => if leN x y then x :: y :: r else y :: insN x r
def sortN : List Nm → List Nm
  | [] => []
  | x :: r => insN x (sortN r)
def strsD : List D → Option (List Nm)
  | [] => some []
  | .str s :: r => (strsD r).map (s :: ·)
  | _ => none

/-- room for a deep look -/
def shp (d : D) : Bool := pd d && decide (dep d ≤ 50)
def shps : List D → Bool
  | [] => true
  | x :: xs => shp x && shps xs

def copV : Cop → D → D → Option Bool
  | .eq, x, y => if shp x && shp y then some (eqD x y) else dEq x y
  | .ne, x, y => if shp x && shp y then some (!eqD x y) else (dEq x y).map (!·)
  | .lt, .int i, .int j => some (decide (i < j))
  | .le, .int i, .int j => some (decide (i ≤ j))
  | .gt, .int i, .int j => some (decide (j < i))
  | .ge, .int i, .int j => some (decide (j ≤ i))
  | .isin, x, .tup ys => if shp x && shps ys then some (memD x ys) else none
  | .isin, x, .lst ys => if shp x && shps ys then some (memD x ys) else none
  | .isin, .str [c], .str y => some (decide (c ∈ y))
  | .notin, x, .tup ys => if shp x && shps ys then some (!memD x ys) else none
  | .notin, x, .lst ys => if shp x && shps ys then some (!memD x ys) else none
  | .notin, .str [c], .str y => some (!decide (c ∈ y))
  | .isin, k, .dct kvs => if keyB k then some (lookK k kvs).isSome else none
  | .notin, k, .dct kvs => if keyB k then some (!(lookK k kvs).isSome) else none
  | _, _, _ => none

/-- truth -/
def truV : D → Option Bool
  | .non => some false
  | .bl b => some b
  | .int i => some (i != 0)
  | .str s => if s.length ≤ line then some (!s.isEmpty) else none
  | .tup xs => some (!xs.isEmpty)
  | .lst xs => some (!xs.isEmpty)
  | .dct _ => none
  | .ins _ _ => none

/-- a place in a sequence of n -/
def ixN (n : Nat) (i : Int) : Option Nat :=
  if 0 ≤ i then (if i < n then some i.toNat else none) else if -(n : Int) ≤ i then some (i + n).toNat else none
def atD (xs : List D) (i : Int) : Option D := (ixN xs.length i).bind fun j => xs[j]?
def idxV : D → D → Option D
  | .tup xs, .int i => atD xs i
  | .lst xs, .int i => atD xs i
  | .str s, .int i => if s.length ≤ line then (ixN s.length i).bind fun j => s[j]?.map fun c => .str [c] else none
  | _, _ => none

/-- a slice's bound -/
def sIx (n d : Nat) : Option Int → Nat
  | none => d
  | some v => if v < 0 then (v + (n : Int)).toNat else min v.toNat n
def cutL {α : Type} (xs : List α) (lo hi : Option Int) : List α := (xs.drop (sIx xs.length 0 lo)).take (sIx xs.length xs.length hi - sIx xs.length 0 lo)
def slV : D → Option Int → Option Int → Option D
  | .tup xs, lo, hi => some (.tup (cutL xs lo hi))
  | .lst xs, lo, hi => some (.lst (cutL xs lo hi))
  | .str s, lo, hi => if s.length ≤ line then some (.str (cutL s lo hi)) else none
  | _, _, _ => none

/-- classes that isinstance is asked of -/
inductive Ty where
  | str | int | bool | list | tuple | dict | cls (c : Nat)
  deriving DecidableEq
def isT : D → Ty → Bool
  | .str _, .str => true
  | .int _, .int => true
  | .bl _, .int => true
  | .bl _, .bool => true
  | .lst _, .list => true
  | .tup _, .tuple => true
  | .dct _, .dict => true
  | .ins c _, .cls c' => c == c'
  | _, _ => false

/-- built-in functions of values -/
inductive Bi where
  | len | int | list | tuple | any | all | max | min | sum | sorted | keys
  deriving DecidableEq
def bools : List D → Option (List Bool)
  | [] => some []
  | .bl b :: r => (bools r).map (b :: ·)
  | _ => none
def intsD : List D → Option (List Int)
  | [] => some []
  | .int i :: r => (intsD r).map (i :: ·)
  | _ => none
def insI (x : Int) : List Int → List Int
  | [] => [x]
  | y :: r => if x ≤ y then x :: y :: r else y :: insI x r
def sortI : List Int → List Int
  | [] => []
  | x :: r => insI x (sortI r)
def sortV (s : Option (List Nm)) (i : Option (List Int)) : Option D := match s with
  | some ns => some (.lst ((sortN ns).map .str))
  | none => i.map fun ns => .lst ((sortI ns).map .int)
def biV : Bi → List D → Option D
  | .len, [.tup xs] => some (.int xs.length)
  | .len, [.lst xs] => some (.int xs.length)
  | .len, [.str s] => if s.length ≤ line then some (.int s.length) else none
  | .int, [.int i] => some (.int i)
  | .int, [.bl b] => some (.int (if b then 1 else 0))
  | .list, [.tup xs] => some (.lst xs)
  | .list, [.lst xs] => some (.lst xs)
  | .tuple, [.tup xs] => some (.tup xs)
  | .tuple, [.lst xs] => some (.tup xs)
  | .any, [.lst xs] => (bools xs).map fun bs => .bl (bs.any id)
  | .all, [.lst xs] => (bools xs).map fun bs => .bl (bs.all id)
  | .max, [.int i, .int j] => some (.int (if j > i then j else i))
  | .min, [.int i, .int j] => some (.int (if j < i then j else i))
  | .sum, [.lst xs] => (intsD xs).map fun ns => .int ns.sum
  | .len, [.dct kvs] => some (.int kvs.length)
  | .keys, [.dct kvs] => some (.lst (kvs.map (·.1)))
  | .sorted, [.dct kvs] => (strsD (kvs.map (·.1))).bind fun ns => if ns.length < 64 then some (.lst ((sortN ns).map .str)) else none
  | .sorted, [.lst xs] => if xs.length < 64 then sortV (strsD xs) (intsD xs) else none
  | _, _ => none

/-- built-in methods that read -/
inductive Bm where
  | count | index
  deriving DecidableEq
def countD (x : D) : List D → Nat
  | [] => 0
  | y :: ys => (if eqD y x then 1 else 0) + countD x ys
def indexD (x : D) : List D → Option Nat
  | [] => none
  | y :: ys => if eqD y x then some 0 else (indexD x ys).map (· + 1)
def bmV : Bm → D → List D → Option D
  | .count, .lst xs, [x] => if shp x && shps xs then some (.int (countD x xs)) else none
  | .index, .lst xs, [x] => if shp x && shps xs then (indexD x xs).map fun n => .int n else none
  | _, _, _ => none

/-- methods that change a cell -/
inductive Mm where
  | append | pop | popAt
  deriving DecidableEq
def mmV : Mm → Cell → List D → Option (Cell × D)
  | .append, .lst xs, [x] => if xs.length < line then some (.lst (xs ++ [x]), .non) else none
  | .pop, .lst xs, [] => xs[xs.length - 1]?.map fun y => (.lst xs.dropLast, y)
  | .popAt, .lst xs, [.int i] => if -1000000 ≤ i ∧ i ≤ 1000000 then (ixN xs.length i).bind fun k => xs[k]?.map fun y => (.lst (xs.eraseIdx k), y) else none
  | _, _, _ => none

/-! ### cells -/
def cellAt (C : Cells) (n : Nat) : Option Cell := (C[n]?).join
def cellD : Cell → Option D
  | .lst xs => some (.lst xs)
  | .lkd xs => some (.lst xs)
  | .dct kvs => some (.dct kvs)
  | .ins _ _ => none
/-- the tree that a value shows -/
def see (C : Cells) : E → Option D
  | .v d => some d
  | .r n => (cellAt C n).bind cellD
  | _ => none
def vals : List E → Option (List D)
  | [] => some []
  | .v d :: r => (vals r).map (d :: ·)
  | _ => none
def sees (C : Cells) : List E → Option (List D)
  | [] => some []
  | e :: r => (see C e).bind fun d => (sees C r).map (d :: ·)

/-! ### the IR -/
mutual
inductive Tg where
  | nm (i : Nat)
  | tup (ts : Tgs)
inductive Tgs where
  | nil
  | cons (t : Tg) (ts : Tgs)
end
mutual
/-- the slots of a target -/
def tsl : Tg → List Nat
  | .nm i => [i]
  | .tup ts => tsls ts
def tsls : Tgs → List Nat
  | .nil => []
  | .cons t ts => tsl t ++ tsls ts
end
/-- constants -/
inductive K where
  | non | bl (b : Bool) | int (i : Int) | str (s : Nm)
  deriving DecidableEq
def K.d : K → D
  | .non => .non
  | .bl b => .bl b
  | .int i => .int i
  | .str s => .str s

mutual
inductive Ex where
  | slot (i : Nat)
  | cst (k : K)
  | glob (g : Nat)
  | tup (es : Es)
  | lst (m : Bool) (es : Es)
  | bop (o : Bop) (a b : Ex)
  | cmp (o : Cop) (a b : Ex)
  | cmp2 (o o' : Cop) (a b c : Ex)
  | isN (neg : Bool) (a : Ex)
  | and (a b : Ex)
  | or (a b : Ex)
  | one (a : Ex)
  | not (a : Ex)
  | ite (c a b : Ex)
  | idx (a i : Ex)
  | sl (a : Ex) (lo hi : Eo)
  | xf (i : Nat) (f : Nm)
  | attr (a : Ex) (f : Nm)
  | call (f : Nat) (es : Es)
  | callP (f : Nat) (es : Es)
  | meth (o : Ex) (m : Nm) (es : Es)
  | new (c : Nat) (es : Es)
  | bi (b : Bi) (es : Es)
  | isi (a : Ex) (ts : List Ty)
  | isc (a : Ex) (c : Nat)
  | neg (a : Ex)
  | rev (a : Ex)
  | bm (m : Bm) (a : Ex) (es : Es)
  | mm (m : Mm) (a : Ex) (es : Es)
  | comp (own : List Nat) (t : Tg) (it : It) (ifs : Eo) (r : Gn)
  | cp (a : Ex)
  | frz (a : Ex)
  | callL (i : Nat)
  | dnew
  | dix (a k : Ex)
  | dgt (a k x : Ex)
  | dcomp (own : List Nat) (t : Tg) (it : It) (ifs : Eo) (k v : Ex)
  | gix (g : Nat) (k : Ex)
  | gin (neg : Bool) (g : Nat) (k : Ex)
  | eqI (neg : Bool) (a b : Ex)
inductive Gn where
  | elt (e : Ex)
  | gen (t : Tg) (it : It) (ifs : Eo) (r : Gn)
inductive Es where
  | nil
  | cons (e : Ex) (es : Es)
  | star (e : Ex) (es : Es)
inductive Eo where
  | none
  | some (e : Ex)
inductive It where
  | seq (e : Ex)
  | range1 (a : Ex)
  | range2 (a b : Ex)
  | enum (e : Ex)
  | zip (a b : Ex)
  | range3 (a b : Ex) (s : Int)
end

/-- the slots of the clauses within -/
def gsl : Gn → List Nat
  | .elt _ => []
  | .gen t _ _ r => tsl t ++ gsl r
mutual
inductive Sm where
  | exp (e : Ex)
  | ret (e : Ex)
  | retN
  | pass
  | brk
  | cont
  | asg (t : Tg) (e : Ex)
  | par (i j : Nat) (a b : Ex)
  | aug (i : Nat) (o : Bop) (e : Ex)
  | augI (o i : Ex) (op : Bop) (e : Ex)
  | setI (o i e : Ex)
  | setA (o : Ex) (f : Nm) (e : Ex)
  | setD (o k e : Ex)
  | augA (o : Ex) (f : Nm) (op : Bop) (e : Ex)
  | ife (c : Ex) (a b : Sms)
  | for (t : Tg) (it : It) (b : Sms)
  | forL (i : Nat) (js : List Nat) (b : Sms)
  | while (c : Ex) (b : Sms)
  | raise (c : Nat) (es : Es)
  | try (b : Sms) (hs : Hs)
inductive Sms where
  | nil
  | cons (s : Sm) (r : Sms)
inductive Hs where
  | nil
  | cons (c : Nat) (as : Option Nat) (b : Sms) (r : Hs)
end

structure Fn where
  ps : Nat
  ns : Nat
  body : Sms
structure Cl where
  /-- __init__ -/
  init : Option Nat
  /-- its instances stay as they are made -/
  val : Bool
  ms : List (Nm × Nat)
  /-- of an exception: it is one; its fields; what it is under -/
  exn : Bool
  flds : List Nm
  ups : List Nat
structure Prog where
  fns : List Fn
  cls : List Cl
  globs : List D
  /-- dicts of the top, their keys texts -/
  gd : List (List (Nm × D))
  lams : List Ex
  /-- turns of a while -/
  most : Nat

/-! ### the evaluator -/
mutual
/-- a tree is stored at a target -/
def asgT : Tg → D → Env → Option Env
  | .nm i, d, env => some (env.set i (some (.v d)))
  | .tup ts, .tup xs, env => asgTs ts xs env
  | .tup ts, .lst xs, env => asgTs ts xs env
  | .tup _, _, _ => none
def asgTs : Tgs → List D → Env → Option Env
  | .nil, [], env => some env
  | .cons t ts, x :: xs, env => (asgT t x env).bind fun e => asgTs ts xs e
  | _, _, _ => none
end
def asgE : Tg → E → Env → Option Env
  | .nm i, e, env => some (env.set i (some e))
  | .tup ts, .v d, env => asgT (.tup ts) d env
  | .tup _, _, _ => none
def wipeE (env : Env) : List Nat → Env
  | [] => env
  | i :: is => (wipeE env is).set i none

/-- lo, lo + s, .., n of them -/
def rangeD (lo s : Int) : Nat → List D
  | 0 => []
  | n + 1 => .int lo :: rangeD (lo + s) s n
def rngOk (i : Int) : Bool := decide (-(2 ^ 62) ≤ i ∧ i < 2 ^ 62)
def enumD (k : Nat) : List D → List D
  | [] => []
  | x :: xs => .tup [.int k, x] :: enumD (k + 1) xs
def zipD : List D → List D → List D
  | x :: xs, y :: ys => .tup [x, y] :: zipD xs ys
  | _, _ => []
/-- what a list, a tuple, a text yields -/
def seqD : D → Option (List D)
  | .lst xs => some xs
  | .tup xs => some xs
  | .str s => some (s.map fun c => .str [c])
  | _ => none
def lsD : D → Option (List D)
  | .lst xs => some xs
  | _ => none
def zipV : D → D → Option (List D)
  | .lst xs, .lst ys => some (zipD xs ys)
  | .tup xs, .tup ys => some (zipD xs ys)
  | _, _ => none
/-- steps from i to below j by s -/
def cntR (i j s : Int) : Nat := if 0 < s ∧ i < j then ((j - i - 1) / s).toNat + 1 else 0
def revV : D → Option D
  | .lst xs => some (.lst xs.reverse)
  | _ => none
def negV : D → Option D
  | .int i => some (.int (-i))
  | _ => none
/-- what is walked stays as it is -/
def lock (C : Cells) : E → Cells
  | .r n => match cellAt C n with
    | some (.lst xs) => C.set n (some (.lkd xs))
    | _ => C
  | _ => C
def unlock (C0 C : Cells) : E → Cells
  | .r n => match cellAt C0 n with
    | some (.lst xs) => C.set n (some (.lst xs))
    | _ => C
  | _ => C

/-- no exception leaves a comprehension -/
def noexc {α : Type} : R α → R α
  | .ok a C => .ok a C
  | _ => .bad
/-- a turn of a comprehension's walk: the items, what is made so far -/
def compL (env : Env) (t : Tg) (body : Env → Cells → List D → R (List D)) : List D → Cells → List D → R (List D)
  | [], C, acc => .ok acc C
  | x :: xs, C, acc =>
    match asgT t x env with
    | none => .bad
    | some e => (body e C acc).bind fun a C => compL env t body xs C a

/-- the same of a dict -/
def compD (env : Env) (t : Tg) (body : Env → Cells → List (D × D) → R (List (D × D))) : List D → Cells → List (D × D) → R (List (D × D))
  | [], C, acc => .ok acc C
  | x :: xs, C, acc =>
    match asgT t x env with
    | none => .bad
    | some e => (body e C acc).bind fun a C => compD env t body xs C a
def pushKV (r : R E) (f : Cells → R E) (acc : List (D × D)) : R (List (D × D)) := r.bind fun x C => (f C).bind fun y C => match x, y with
  | .v k, .v v => if keyB k && decide (acc.length < line) then .ok (putKd k v acc) C else .bad
  | _, _ => .bad
def stepD (t : R Bool) (e : Cells → R (List (D × D))) (acc : List (D × D)) : R (List (D × D)) := t.bind fun b C => if b then e C else .ok acc C
def pushD (r : R E) (acc : List D) : R (List D) := r.bind fun x C => match x with
  | .v d => if acc.length < line then .ok (acc ++ [d]) C else .bad
  | _ => .bad
/-- a turn's test, then its element -/
def stepC (t : R Bool) (e : Cells → R (List D)) (acc : List D) : R (List D) := t.bind fun b C => if b then e C else .ok acc C
/-- an inner walk -/
def walkC (w : R (List D × E)) (f : List D → Cells → R (List D)) : R (List D) := w.bind fun w C => (f w.1 (lock C w.2)).bind fun ds C' => .ok ds (unlock C C' w.2)

def lookF (f : Nm) : List (Nm × E) → Option E
  | [] => none
  | (g, e) :: r => if g = f then some e else lookF f r
def lookFD (f : Nm) : List (Nm × D) → Option D
  | [] => none
  | (g, e) :: r => if g = f then some e else lookFD f r
def putF (f : Nm) (e : E) : List (Nm × E) → List (Nm × E)
  | [] => [(f, e)]
  | (g, x) :: r => if g = f then (g, e) :: r else (g, x) :: putF f e r
def lookM (m : Nm) : List (Nm × Nat) → Option Nat
  | [] => none
  | (g, e) :: r => if g = m then some e else lookM m r
def valF : List (Nm × E) → Option (List (Nm × D))
  | [] => some []
  | (f, .v d) :: r => (valF r).map ((f, d) :: ·)
  | _ => none
def attrE (C : Cells) (f : Nm) : E → Option E
  | .v (.ins _ fs) => (lookFD f fs).map .v
  | .r n => match cellAt C n with
    | some (.ins _ fs) => lookF f fs
    | _ => none
  | _ => none
def clsE (C : Cells) : E → Option Nat
  | .v (.ins c _) => some c
  | .r n => match cellAt C n with
    | some (.ins c _) => some c
    | _ => none
  | _ => none
/-- the class of a value, for isinstance -/
def isE (C : Cells) (e : E) (t : Ty) : Option Bool :=
  match see C e with
  | some d => some (isT d t)
  | none => match e with
    | .r n => match cellAt C n with
      | some (.ins c _) => some (match t with
        | .cls c' => c == c'
        | _ => false)
      | _ => none
    | _ => none
def isEs (C : Cells) (e : E) : List Ty → Option Bool
  | [] => some false
  | t :: ts => (isE C e t).bind fun b => if b then some true else isEs C e ts
def dOk : D → Bool
  | .ins _ _ => false
  | .dct _ => false
  | _ => true
def isiE (C : Cells) (e : E) (ts : List Ty) : Option Bool :=
  match see C e with
  | some d => if dOk d then isEs [] (.v d) ts else none
  | none => none
def isDct (C : Cells) (x : E) : Bool := match see C x with
  | some (.dct _) => true
  | _ => false
def lookS (k : Nm) : List (Nm × D) → Option D
  | [] => none
  | (a, b) :: r => if a = k then some b else lookS k r
def isLst (C : Cells) (x : E) : Bool := match see C x with
  | some (.lst _) => true
  | _ => false
def isNone (neg : Bool) : E → Bool
  | .v .non => !neg
  | _ => neg
def truE (C : Cells) (e : E) : Option Bool := (see C e).bind truV

def truR (r : R E) : R Bool := r.bind fun x C => R.of (truE C x) C
section
variable (P : Prog) (call : Nat → List E → Cells → R E) (lamc : Nat → Env → Cells → R E)

/-- a call whose arguments and answer are trees: it sees no cells -/
def pureCall (f : Nat) (ds : List D) (C : Cells) : R E :=
  match call f (ds.map .v) [] with
  | .ok (.v d) _ => .ok (.v d) C
  | .ok _ _ => .bad
  | .exc c fs _ => .exc c fs C
  | .bad => .bad
/-- a call: one that is given trees alone sees no cells -/
def callAny (f : Nat) (es : List E) (C : Cells) : R E :=
  match vals es with
  | some ds => pureCall call f ds C
  | none => call f es C
/-- a new instance that is given trees alone, and stays: its __init__ sees no other cells -/
def makeP (c f : Nat) (es : List E) (C : Cells) : R E :=
  match call f (.r 0 :: es) [some (.ins c [])] with
  | .ok (.v .non) C1 => match cellAt C1 0 with
    | some (.ins c' fs) => match valF fs with
      | some ds => .ok (.v (.ins c' ds)) C
      | none => .bad
    | _ => .bad
  | .ok _ _ => .bad
  | .exc k fs _ => .exc k fs C
  | .bad => .bad
/-- f is a field of the own class c (no exception) -/
def fldOk (c : Nat) (f : Nm) : Bool := match P.cls[c]? with
  | some cl => !cl.exn && cl.flds.contains f
  | none => false
def attrP (C : Cells) (f : Nm) (x : E) : Option E := (clsE C x).bind fun c => if fldOk P c f then attrE C f x else none
/-- a new instance of the class c: its cell, __init__, then a tree where the class says so -/
def make (c : Nat) (es : List E) (C : Cells) : R E :=
  match P.cls[c]? with
  | none => .bad
  | some cl => if cl.exn then .bad else
    let n := C.length
    let fin : Cells → R E := fun C => if cl.val then
        match cellAt C n with
        | some (.ins c' fs) => match valF fs with
          | some ds => .ok (.v (.ins c' ds)) (C.set n none)
          | none => .bad
        | _ => .bad
      else .ok (.r n) C
    match cl.init with
    | none => if es.isEmpty then fin (C ++ [some (.ins c [])]) else .bad
    | some f => if cl.val && (vals es).isSome then makeP call c f es C else (call f (.r n :: es) (C ++ [some (.ins c [])])).bind fun e C => match e with
      | .v .non => fin C
      | _ => .bad
/-- isinstance of the own class c -/
def iscE (C : Cells) (x : E) (c : Nat) : Option Bool := match clsE C x with
  | some c' => match P.cls[c']? with
    | some cl => if cl.exn then none else some (c' == c)
    | none => none
  | none => match see C x with
    | some d => if dOk d then some false else none
    | none => none
/-- the def that o.m means -/
def methOf (C : Cells) (m : Nm) (o : E) : Option Nat := (clsE C o).bind fun c => match P.cls[c]? with
    | none => none
    | some cl => if cl.exn then none else match attrE C m o with
      | none => lookM m cl.ms
      | some _ => none

/-- two instances of one own class: the def of its == -/
def eqOf (C : Cells) (x y : E) : Option Nat := match clsE C x, clsE C y with
  | some c, some c' => if c = c' then methOf P C [95, 95, 101, 113, 95, 95] x else none
  | _, _ => none
/-- what the own == answers -/
def eqAns (neg : Bool) : E → Cells → R E
  | .v (.bl t), C => .ok (.v (.bl (t != neg))) C
  | _, _ => .bad

mutual
def evE : Ex → Env → Cells → R E
  | .slot i, env, C => match (env[i]?).join with
    | some (.v d) => .ok (.v d) C
    | some (.r n) => .ok (.r n) C
    | _ => .bad
  | .cst k, _, C => .ok (.v k.d) C
  | .glob g, _, C => R.of ((P.globs[g]?).map .v) C
  | .tup es, env, C => (evEs es env C).bind fun xs C => R.of ((vals xs).bind fun ds => if ds.length ≤ line then some (.v (.tup ds)) else none) C
  | .lst m es, env, C => (evEs es env C).bind fun xs C => match vals xs with
    | none => .bad
    | some ds => if ds.length ≤ line then (if m then .ok (.r C.length) (C ++ [some (.lst ds)]) else .ok (.v (.lst ds)) C) else .bad
  | .bop o a b, env, C => (evE a env C).bind fun x C => (evE b env C).bind fun y C =>
      R.of ((see C x).bind fun x => (see C y).bind fun y => (bopV o x y).map .v) C
  | .cmp o a b, env, C => (evE a env C).bind fun x C => (evE b env C).bind fun y C =>
      R.of ((see C x).bind fun x => (see C y).bind fun y => (copV o x y).map fun b => .v (.bl b)) C
  | .cmp2 o o' a b c, env, C => (evE a env C).bind fun x C => (evE b env C).bind fun y C =>
      match (see C x).bind fun x => (see C y).bind fun y => copV o x y with
      | none => .bad
      | some false => .ok (.v (.bl false)) C
      | some true => (evE c env C).bind fun z C => R.of ((see C y).bind fun y => (see C z).bind fun z => (copV o' y z).map fun b => .v (.bl b)) C
  | .isN neg a, env, C => (evE a env C).bind fun x C => .ok (.v (.bl (isNone neg x))) C
  | .and a b, env, C => (evE a env C).bind fun x C => match truE C x with
    | none => .bad
    | some true => evE b env C
    | some false => .ok x C
  | .or a b, env, C => (evE a env C).bind fun x C => match truE C x with
    | none => .bad
    | some true => .ok x C
    | some false => evE b env C
  | .one a, env, C => evE a env C
  | .not a, env, C => (evE a env C).bind fun x C => match truE C x with
    | none => .bad
    | some b => .ok (.v (.bl (!b))) C
  | .ite c a b, env, C => (evE c env C).bind fun x C => match truE C x with
    | none => .bad
    | some true => evE a env C
    | some false => evE b env C
  | .idx a i, env, C => (evE a env C).bind fun x C => (evE i env C).bind fun y C =>
      R.of ((see C x).bind fun x => (see C y).bind fun y => (idxV x y).map .v) C
  | .sl a lo hi, env, C => (evE a env C).bind fun x C => (evO lo env C).bind fun l C => (evO hi env C).bind fun h C =>
      R.of ((see C x).bind fun x => (slV x l h).map .v) C
  | .xf i f, env, C => match (env[i]?).join with
    | some (.exn c fs) => match P.cls[c]? with
      | some cl => if cl.exn && cl.flds.contains f then R.of ((lookFD f fs).map .v) C else .bad
      | none => .bad
    | _ => .bad
  | .attr a f, env, C => (evE a env C).bind fun x C => R.of (attrP P C f x) C
  | .call f es, env, C => (evEs es env C).bind fun xs C => callAny call f xs C
  | .callP f es, env, C => (evEs es env C).bind fun xs C => match vals xs with
    | none => .bad
    | some ds => pureCall call f ds C
  | .meth o m es, env, C => (evE o env C).bind fun x C => match methOf P C m x with
    | none => .bad
    | some f => (evEs es env C).bind fun xs C => callAny call f (x :: xs) C
  | .new c es, env, C => (evEs es env C).bind fun xs C => make P call c xs C
  | .bi b es, env, C => (evEs es env C).bind fun xs C => R.of ((sees C xs).bind fun ds => (biV b ds).map .v) C
  | .isi a ts, env, C => (evE a env C).bind fun x C => R.of ((isiE C x ts).map fun b => .v (.bl b)) C
  | .neg a, env, C => (evE a env C).bind fun x C => R.of (((see C x).bind negV).map .v) C
  | .rev a, env, C => (evE a env C).bind fun x C => R.of (((see C x).bind revV).map .v) C
  | .isc a c, env, C => (evE a env C).bind fun x C => R.of ((iscE P C x c).map fun b => .v (.bl b)) C
  | .bm m a es, env, C => (evE a env C).bind fun x C => if isLst C x then (evEs es env C).bind fun xs C =>
      R.of ((see C x).bind fun x => (sees C xs).bind fun ds => (bmV m x ds).map .v) C else .bad
  | .mm m a es, env, C => (evE a env C).bind fun x C => if isLst C x then (evEs es env C).bind fun xs C => match x with
    | .r n => match (cellAt C n).bind fun c => (vals xs).bind fun ds => mmV m c ds with
      | some (c, d) => .ok (.v d) (C.set n (some c))
      | none => .bad
    | _ => .bad else .bad
  | .comp own t it ifs r, env, C => (evI it env C).bind fun w C =>
      (noexc (compL (wipeE env own) t (fun env C acc => stepC (evC ifs env C) (fun C => evG r env C acc) acc) w.1 (lock C w.2) [])).bind fun ds C' => .ok (.v (.lst ds)) (unlock C C' w.2)
  | .cp a, env, C => (evE a env C).bind fun x C => match see C x with
    | some (.lst xs) => .ok (.r C.length) (C ++ [some (.lst xs)])
    | some (.tup xs) => .ok (.r C.length) (C ++ [some (.lst xs)])
    | _ => .bad
  | .frz a, env, C => (evE a env C).bind fun x C => match x with
    | .v d => .ok (.v d) C
    | .r n => match cellAt C n with
      | some (.lst xs) => .ok (.v (.lst xs)) (C.set n none)
      | some (.dct kvs) => .ok (.v (.dct kvs)) (C.set n none)
      | _ => .bad
    | _ => .bad
  | .dnew, _, C => .ok (.r C.length) (C ++ [some (.dct [])])
  | .dix a k, env, C => (evE a env C).bind fun x C => (evE k env C).bind fun y C =>
      R.of ((see C x).bind fun x => (see C y).bind fun y => (dixV x y).map .v) C
  | .dgt a k d, env, C => (evE a env C).bind fun x C => if isDct C x then (evE k env C).bind fun y C => (evE d env C).bind fun z C =>
      R.of ((see C x).bind fun x => (see C y).bind fun y => (vals [z]).bind fun zs => (dgtV x y (zs.headD .non)).map .v) C else .bad
  | .dcomp own t it ifs k v, env, C => (evI it env C).bind fun w C =>
      (noexc (compD (wipeE env own) t (fun env C acc => stepD (evC ifs env C) (fun C => pushKV (evE k env C) (fun C => evE v env C) acc) acc) w.1 (lock C w.2) [])).bind fun kvs C' => .ok (.v (.dct kvs)) (unlock C C' w.2)
  | .gix g k, env, C => (evE k env C).bind fun y C => match y, P.gd[g]? with
    | .v (.str s), some kvs => R.of ((lookS s kvs).map .v) C
    | _, _ => .bad
  | .gin neg g k, env, C => (evE k env C).bind fun y C => match y, P.gd[g]? with
    | .v (.str s), some kvs => .ok (.v (.bl ((lookS s kvs).isSome != neg))) C
    | _, _ => .bad
  | .eqI neg a b, env, C => (evE a env C).bind fun x C => (evE b env C).bind fun y C => match eqOf P C x y with
    | none => .bad
    | some f => (callAny call f [x, y] C).bind fun r C => eqAns neg r C
  | .callL i, env, C => match (env[i]?).join with
    | some (.clo j) => lamc j env C
    | _ => .bad
/-- what a comprehension's innermost turn makes; a generator within another -/
def evG : Gn → Env → Cells → List D → R (List D)
  | .elt e, env, C, acc => pushD (evE e env C) acc
  | .gen t it ifs r, env, C, acc => walkC (evI it env C) fun ds C =>
      compL (wipeE env (tsl t ++ gsl r)) t (fun env C acc => stepC (evC ifs env C) (fun C => evG r env C acc) acc) ds C acc
def evC : Eo → Env → Cells → R Bool
  | .none, _, C => .ok true C
  | .some c, env, C => truR (evE c env C)
def evEs : Es → Env → Cells → R (List E)
  | .nil, _, C => .ok [] C
  | .cons e es, env, C => (evE e env C).bind fun x C => (evEs es env C).bind fun xs C => .ok (x :: xs) C
  | .star e es, env, C => (evE e env C).bind fun x C => match (see C x).bind seqD with
    | none => .bad
    | some ds => match see C x with
      | some (.str _) => .bad
      | _ => (evEs es env C).bind fun xs C => .ok (ds.map .v ++ xs) C
def evO : Eo → Env → Cells → R (Option Int)
  | .none, _, C => .ok none C
  | .some e, env, C => (evE e env C).bind fun x C => match x with
    | .v (.int i) => .ok (some i) C
    | _ => .bad
/-- the items of what is walked; what is locked for it -/
def evI : It → Env → Cells → R (List D × E)
  | .seq e, env, C => (evE e env C).bind fun x C => match (see C x).bind seqD with
    | none => .bad
    | some ds => .ok (ds, x) C
  | .range1 a, env, C => (evE a env C).bind fun x C => match x with
    | .v (.int j) => if rngOk j then .ok (rangeD 0 1 j.toNat, .v .non) C else .bad
    | _ => .bad
  | .range2 a b, env, C => (evE a env C).bind fun x C => (evE b env C).bind fun y C => match x, y with
    | .v (.int i), .v (.int j) => if rngOk i && rngOk j then .ok (rangeD i 1 (j - i).toNat, .v .non) C else .bad
    | _, _ => .bad
  | .enum e, env, C => (evE e env C).bind fun x C => match (see C x).bind lsD with
    | none => .bad
    | some ds => .ok (enumD 0 ds, x) C
  | .zip a b, env, C => (evE a env C).bind fun x C => (evE b env C).bind fun y C => match x, y with
    | .v x, .v y => match zipV x y with
      | some ds => .ok (ds, .v .non) C
      | none => .bad
    | _, _ => .bad
  | .range3 a b s, env, C => (evE a env C).bind fun x C => (evE b env C).bind fun y C => match x, y with
    | .v (.int i), .v (.int j) => if rngOk i && rngOk j && decide (0 < s ∧ s < 1000000) then .ok (rangeD i s (cntR i j s), .v .non) C else .bad
    | _, _ => .bad
end

/-- what a statement comes to -/
inductive RS where
  | next (env : Env) (C : Cells)
  | ret (e : E) (C : Cells)
  | brk (env : Env) (C : Cells)
  | ct (env : Env) (C : Cells)
  | exc (c : Nat) (fs : List (Nm × D)) (env : Env) (C : Cells)
  | bad

def R.st {α : Type} (x : R α) (env : Env) (f : α → Cells → RS) : RS :=
  match x with
  | .ok a C => f a C
  | .exc c fs C => .exc c fs env C
  | .bad => .bad
def RS.map (x : RS) (f : Cells → Cells) : RS :=
  match x with
  | .next env C => .next env (f C)
  | .ret e C => .ret e (f C)
  | .brk env C => .brk env (f C)
  | .ct env C => .ct env (f C)
  | .exc c fs env C => .exc c fs env (f C)
  | .bad => .bad

def forL (t : Tg) (body : Env → Cells → RS) : List D → Env → Cells → RS
  | [], env, C => .next env C
  | x :: xs, env, C =>
    match asgT t x env with
    | none => .bad
    | some e => match body e C with
      | .next env C => forL t body xs env C
      | .ct env C => forL t body xs env C
      | .brk env C => .next env C
      | .ret e C => .ret e C
      | .exc c fs env C => .exc c fs env C
      | .bad => .bad
def forLam (i : Nat) (body : Env → Cells → RS) : List Nat → Env → Cells → RS
  | [], env, C => .next env C
  | j :: js, env, C =>
    match body (env.set i (some (.clo j))) C with
    | .next env C => forLam i body js env C
    | .ct env C => forLam i body js env C
    | .brk env C => .next env C
    | .ret e C => .ret e C
    | .exc c fs env C => .exc c fs env C
    | .bad => .bad
def whileL (test : Env → Cells → R Bool) (body : Env → Cells → RS) : Nat → Env → Cells → RS
  | 0, _, _ => .bad
  | n + 1, env, C => (test env C).st env fun b C => if b then
      match body env C with
      | .next env C => whileL test body n env C
      | .ct env C => whileL test body n env C
      | .brk env C => .next env C
      | .ret e C => .ret e C
      | .exc c fs env C => .exc c fs env C
      | .bad => .bad
    else .next env C
def cleanE (env : Env) : Bool := env.all fun o => match o with
  | some (.exn _ _) => false
  | _ => true
def under (c d : Nat) : Bool := c == d || match P.cls[c]? with
  | some cl => cl.ups.contains d
  | none => false

mutual
def exS : Sm → Env → Cells → RS
  | .exp e, env, C => (evE P call lamc e env C).st env fun _ C => .next env C
  | .ret e, env, C => (evE P call lamc e env C).st env fun x C => .ret x C
  | .retN, _, C => .ret (.v .non) C
  | .pass, env, C => .next env C
  | .brk, env, C => .brk env C
  | .cont, env, C => .ct env C
  | .asg t e, env, C => (evE P call lamc e env C).st env fun x C => match asgE t x env with
    | none => .bad
    | some env => .next env C
  | .par i j a b, env, C => (evE P call lamc a env C).st env fun x C => (evE P call lamc b env C).st env fun y C => .next ((env.set i (some x)).set j (some y)) C
  | .aug i o e, env, C => match (env[i]?).join with
    | some (.v x) => (evE P call lamc e env C).st env fun y C => match (see C y).bind fun y => augV o x y with
      | none => .bad
      | some z => .next (env.set i (some (.v z))) C
    | some (.r n) => (evE P call lamc e env C).st env fun y C => match o, cellAt C n, see C y with
      | .add, some (.lst xs), some (.lst ys) => if xs.length + ys.length ≤ line then .next (env.set i (some (.r n))) (C.set n (some (.lst (xs ++ ys)))) else .bad
      | _, _, _ => .bad
    | _ => .bad
  | .augI o i op e, env, C => (evE P call lamc o env C).st env fun x C => (evE P call lamc i env C).st env fun y C => match x, y with
    | .r n, .v (.int k) => match cellAt C n with
      | some (.lst xs) => match atD xs k with
        | none => .bad
        | some old => (evE P call lamc e env C).st env fun z C => match z with
          | .v z => match augV op old z, cellAt C n with
            | some w, some (.lst xs) => match ixN xs.length k with
              | some j => .next env (C.set n (some (.lst (xs.set j w))))
              | none => .bad
            | _, _ => .bad
          | _ => .bad
      | _ => .bad
    | _, _ => .bad
  | .setI o i e, env, C => (evE P call lamc e env C).st env fun z C => (evE P call lamc o env C).st env fun x C => (evE P call lamc i env C).st env fun y C => match x, y, z with
    | .r n, .v (.int k), .v z => match cellAt C n with
      | some (.lst xs) => match ixN xs.length k with
        | some j => .next env (C.set n (some (.lst (xs.set j z))))
        | none => .bad
      | _ => .bad
    | _, _, _ => .bad
  | .setA o f e, env, C => (evE P call lamc e env C).st env fun z C => (evE P call lamc o env C).st env fun x C => match x with
    | .r n => match cellAt C n with
      | some (.ins c fs) => if fldOk P c f && fs.length < 100 then .next env (C.set n (some (.ins c (putF f z fs)))) else .bad
      | _ => .bad
    | _ => .bad
  | .setD o k e, env, C => (evE P call lamc e env C).st env fun z C => (evE P call lamc o env C).st env fun x C => (evE P call lamc k env C).st env fun y C => match x, y, z with
    | .r n, .v k, .v z => match cellAt C n with
      | some (.dct kvs) => if keyB k && decide (kvs.length < line) then .next env (C.set n (some (.dct (putKd k z kvs)))) else .bad
      | _ => .bad
    | _, _, _ => .bad
  | .augA o f op e, env, C => (evE P call lamc o env C).st env fun x C => match x with
    | .r n => match cellAt C n with
      | some (.ins c0 fs) => match (if fldOk P c0 f then lookF f fs else none) with
        | some (.v old) => (evE P call lamc e env C).st env fun z C => match z, cellAt C n with
          | .v z, some (.ins c fs) => match augV op old z with
            | some w => if c = c0 && fs.length < 100 then .next env (C.set n (some (.ins c (putF f (.v w) fs)))) else .bad
            | none => .bad
          | _, _ => .bad
        | _ => .bad
      | _ => .bad
    | _ => .bad
  | .ife c a b, env, C => (evE P call lamc c env C).st env fun x C => match truE C x with
    | none => .bad
    | some true => exSs a env C
    | some false => exSs b env C
  | .for t it b, env, C => (evI P call lamc it env C).st env fun w C => (forL t (fun env C => exSs b env C) w.1 env (lock C w.2)).map fun C' => unlock C C' w.2
  | .forL i js b, env, C => forLam i (fun env C => exSs b env C) js env C
  | .while c b, env, C => whileL (fun env C => truR (evE P call lamc c env C)) (fun env C => exSs b env C) P.most env C
  | .raise c es, env, C => (evEs P call lamc es env C).st env fun xs C => match vals xs, P.cls[c]? with
    | some ds, some cl => if ds.length = cl.flds.length then .exc c (cl.flds.zip ds) env C else .bad
    | _, _ => .bad
  | .try b hs, env, C => match exSs b env C with
    | .exc c fs env C => exH hs c fs env C
    | r => r
def exSs : Sms → Env → Cells → RS
  | .nil, env, C => .next env C
  | .cons s r, env, C => match exS s env C with
    | .next env C => exSs r env C
    | x => x
def exH : Hs → Nat → List (Nm × D) → Env → Cells → RS
  | .nil, c, fs, env, C => .exc c fs env C
  | .cons d as b r, c, fs, env, C => if under P c d then
      match as with
      | none => match exSs b env C with
        | .exc _ _ _ _ => .bad
        | x => x
      | some i => match exSs b (env.set i (some (.exn c fs))) C with
        | .next env C => if cleanE (env.set i none) then .next (env.set i none) C else .bad
        | .ct env C => if cleanE (env.set i none) then .ct (env.set i none) C else .bad
        | .brk env C => if cleanE (env.set i none) then .brk (env.set i none) C else .bad
        | .ret e C => .ret e C
        | _ => .bad
    else exH r c fs env C
end
end

def startE (ns : Nat) (es : List E) : Env := es.map some ++ List.replicate (ns - es.length) none
/-- a reference of fields below n -/
def fldsLow (n : Nat) : List (Nm × E) → Bool
  | [] => true
  | (_, .r k) :: r => decide (k < n) && fldsLow n r
  | (_, .v _) :: r => fldsLow n r
  | _ => false
def lowC (n : Nat) : Cells → Bool
  | [] => true
  | some (.ins _ fs) :: r => fldsLow n fs && lowC n r
  | _ :: r => lowC n r
/-- what a call leaves: where nothing new can be come to, the new cells go -/
def leave (n : Nat) (e : E) (C : Cells) : R E :=
  match e with
  | .v d => if lowC n (C.take n) then .ok (.v d) (C.take n) else .ok (.v d) C
  | .r k => .ok (.r k) C
  | _ => .bad
def body (P : Prog) (call : Nat → List E → Cells → R E) (fn : Fn) (es : List E) (C : Cells) : R E :=
  if es.length = fn.ps then
    match exSs P call (fun j env C => match P.lams[j]? with
        | none => .bad
        | some e => evE P call (fun _ _ _ => .bad) e env C) fn.body (startE fn.ns es) C with
    | .next _ C' => leave C.length (.v .non) C'
    | .ret e C' => leave C.length e C'
    | .exc c fs _ C' => if lowC C.length (C'.take C.length) then .exc c fs (C'.take C.length) else .exc c fs C'
    | _ => .bad
  else .bad
/-- n calls within one another -/
def run (P : Prog) : Nat → Nat → List E → Cells → R E
  | 0, _, _, _ => .bad
  | n + 1, f, es, C => match P.fns[f]? with
    | none => .bad
    | some fn => body P (run P n) fn es C
end Ev

end

section
set_option maxRecDepth 512
set_option Elab.async false
set_option linter.all false
set_option maxRecDepth 100000
set_option maxHeartbeats 4000000
namespace Ev
open PySem L2 PySem.Spec PyProof.Rows

/-- where the text's classes lie; the tables of code objects with what their lambdas are called -/
structure Cfg0 where
  cls : Nat → Option Addr
  tb : List (Addr × Str)
abbrev T (l : Nm) : Str := ⟨l.toArray⟩
theorem T_inj {a b : Nm} (h : T a = T b) : a = b := by
  have := congrArg (fun x : Str => x.cps.toList) h
  simpa [T] using this

/-- a key, as the model has it -/
def keyR : D → Option Key
  | .int i => some (.inl i)
  | .str s => some (.inr (T s))
  | _ => none
section
variable (K : PySem.W.Frag) (cA : Cfg0) (G : Hp)
mutual
/-- a tree, as it lies in the frozen part G of the heap -/
def RelD : D → V → Prop
  | .non, v => v = .non
  | .bl b, v => v = .bl b
  | .int i, v => v = .int i
  | .str s, v => v = .str (T s)
  | .tup xs, v => ∃ a us, v = .ref a ∧ SqT K G a us ∧ RelDs xs us
  | .lst xs, v => ∃ a us, v = .ref a ∧ SqL K G a us ∧ RelDs xs us
  | .dct kvs, v => ∃ a o ks, v = .ref a ∧ G a = some (.frz o (.dK ks)) ∧ RelKV kvs ks
  | .ins c fs, v => ∃ a C dx gs, v = .ref a ∧ cA.cls c = some C ∧ G a = some (.ins C dx gs) ∧ RelF fs gs
def RelDs : List D → List V → Prop
  | [], us => us = []
  | x :: xs, us => ∃ u r, us = u :: r ∧ RelD x u ∧ RelDs xs r
def RelF : List (Nm × D) → List (Str × V) → Prop
  | [], gs => gs = []
  | (f, d) :: r, gs => ∃ v rest, gs = (T f, v) :: rest ∧ RelD d v ∧ RelF r rest
def RelKV : List (D × D) → List (Key × V) → Prop
  | [], gs => gs = []
  | (k, d) :: r, gs => ∃ kk v rest, gs = (kk, v) :: rest ∧ keyR k = some kk ∧ RelD d v ∧ RelKV r rest
end
end

theorem Same.sqt {K : PySem.W.Frag} {H H' : Hp} {a : Addr} {xs : List V} (e : Same H H') (h : SqT K H a xs) : SqT K H' a xs := by
  rcases h with (h | ⟨o, h⟩) | h
  · exact .inl (.inl (e _ _ h))
  · exact .inl (.inr ⟨o, e _ _ h⟩)
  · exact .inr h

section
variable {K : PySem.W.Frag} {cA : Cfg0} {G G' : Hp}
mutual
theorem RelD.mono (e : Same G G') : ∀ {d : D} {v : V}, RelD K cA G d v → RelD K cA G' d v
  | .non, _, h => by simpa only [RelD] using h
  | .bl _, _, h => by simpa only [RelD] using h
  | .int _, _, h => by simpa only [RelD] using h
  | .str _, _, h => by simpa only [RelD] using h
  | .tup xs, _, h => by
    simp only [RelD] at h ⊢
    obtain ⟨a, us, rfl, h1, h2⟩ := h
    exact ⟨a, us, rfl, Same.sqt e h1, RelDs.mono e h2⟩
  | .lst xs, _, h => by
    simp only [RelD] at h ⊢
    obtain ⟨a, us, rfl, h1, h2⟩ := h
    exact ⟨a, us, rfl, e.seq h1, RelDs.mono e h2⟩
  | .dct kvs, _, h => by
    simp only [RelD] at h ⊢
    obtain ⟨a, o, ks, rfl, h1, h2⟩ := h
    exact ⟨a, o, ks, rfl, e _ _ h1, RelKV.mono e h2⟩
  | .ins c fs, _, h => by
    simp only [RelD] at h ⊢
    obtain ⟨a, C, dx, gs, rfl, h1, h2, h3⟩ := h
    exact ⟨a, C, dx, gs, rfl, h1, e _ _ h2, RelF.mono e h3⟩
theorem RelDs.mono (e : Same G G') : ∀ {ds : List D} {vs : List V}, RelDs K cA G ds vs → RelDs K cA G' ds vs
  | [], _, h => by simpa only [RelDs] using h
  | x :: xs, _, h => by
    simp only [RelDs] at h ⊢
    obtain ⟨u, r, rfl, h1, h2⟩ := h
    exact ⟨u, r, rfl, RelD.mono e h1, RelDs.mono e h2⟩
theorem RelF.mono (e : Same G G') : ∀ {ds : List (Nm × D)} {vs : List (Str × V)}, RelF K cA G ds vs → RelF K cA G' ds vs
  | [], _, h => by simpa only [RelF] using h
  | (f, d) :: xs, _, h => by
    simp only [RelF] at h ⊢
    obtain ⟨u, r, rfl, h1, h2⟩ := h
    exact ⟨u, r, rfl, RelD.mono e h1, RelF.mono e h2⟩
theorem RelKV.mono (e : Same G G') : ∀ {ds : List (D × D)} {vs : List (Key × V)}, RelKV K cA G ds vs → RelKV K cA G' ds vs
  | [], _, h => by simpa only [RelKV] using h
  | (k, d) :: xs, _, h => by
    simp only [RelKV] at h ⊢
    obtain ⟨kk, u, r, rfl, h0, h1, h2⟩ := h
    exact ⟨kk, u, r, rfl, h0, RelD.mono e h1, RelKV.mono e h2⟩
end
theorem RelKV.length : ∀ {ds : List (D × D)} {vs : List (Key × V)}, RelKV K cA G ds vs → ds.length = vs.length
  | [], _, h => by simp only [RelKV] at h; subst h; rfl
  | (k, d) :: xs, _, h => by
    simp only [RelKV] at h
    obtain ⟨kk, u, r, rfl, _, _, h2⟩ := h
    simp [RelKV.length h2]
theorem RelDs.length : ∀ {ds : List D} {vs : List V}, RelDs K cA G ds vs → ds.length = vs.length
  | [], _, h => by simp only [RelDs] at h; subst h; rfl
  | x :: xs, _, h => by
    simp only [RelDs] at h
    obtain ⟨u, r, rfl, _, h2⟩ := h
    simp [RelDs.length h2]
theorem RelDs.get : ∀ {ds : List D} {vs : List V} {i : Nat} {d : D}, RelDs K cA G ds vs → ds[i]? = some d → ∃ v, vs[i]? = some v ∧ RelD K cA G d v
  | [], _, _, _, h, e => by simp at e
  | x :: xs, _, i, d, h, e => by
    simp only [RelDs] at h
    obtain ⟨u, r, rfl, h1, h2⟩ := h
    cases i with
    | zero => simp at e; subst e; exact ⟨u, rfl, h1⟩
    | succ i => simpa using RelDs.get (i := i) h2 (by simpa using e)
theorem RelDs.append : ∀ {ds es : List D} {vs us : List V}, RelDs K cA G ds vs → RelDs K cA G es us → RelDs K cA G (ds ++ es) (vs ++ us)
  | [], _, _, _, h, h' => by simp only [RelDs] at h; subst h; simpa using h'
  | x :: xs, _, _, _, h, h' => by
    simp only [RelDs] at h
    obtain ⟨u, r, rfl, h1, h2⟩ := h
    simp only [List.cons_append, RelDs]
    exact ⟨u, _, rfl, h1, RelDs.append h2 h'⟩
theorem RelDs.drop : ∀ {ds : List D} {vs : List V} (n : Nat), RelDs K cA G ds vs → RelDs K cA G (ds.drop n) (vs.drop n)
  | _, _, 0, h => by simpa using h
  | [], _, n + 1, h => by simp only [RelDs] at h; subst h; simp [RelDs]
  | x :: xs, _, n + 1, h => by
    simp only [RelDs] at h
    obtain ⟨u, r, rfl, h1, h2⟩ := h
    simpa using RelDs.drop n h2
theorem RelDs.take : ∀ {ds : List D} {vs : List V} (n : Nat), RelDs K cA G ds vs → RelDs K cA G (ds.take n) (vs.take n)
  | _, _, 0, h => by simp [RelDs]
  | [], _, n + 1, h => by simp only [RelDs] at h; subst h; simp [RelDs]
  | x :: xs, _, n + 1, h => by
    simp only [RelDs] at h
    obtain ⟨u, r, rfl, h1, h2⟩ := h
    simp only [List.take_succ_cons, RelDs]
    exact ⟨u, _, rfl, h1, RelDs.take n h2⟩
theorem RelDs.set : ∀ {ds : List D} {vs : List V} {d : D} {v : V} (n : Nat), RelDs K cA G ds vs → RelD K cA G d v → RelDs K cA G (ds.set n d) (vs.set n v)
  | [], _, _, _, n, h, _ => by simp only [RelDs] at h; subst h; simp [RelDs]
  | x :: xs, _, _, _, 0, h, h' => by
    simp only [RelDs] at h
    obtain ⟨u, r, rfl, h1, h2⟩ := h
    simp only [List.set_cons_zero, RelDs]
    exact ⟨_, _, rfl, h', h2⟩
  | x :: xs, _, _, _, n + 1, h, h' => by
    simp only [RelDs] at h
    obtain ⟨u, r, rfl, h1, h2⟩ := h
    simp only [List.set_cons_succ, RelDs]
    exact ⟨_, _, rfl, h1, RelDs.set n h2 h'⟩
theorem RelDs.one {d : D} {v : V} (h : RelD K cA G d v) : RelDs K cA G [d] [v] := by simp only [RelDs]; exact ⟨v, [], rfl, h, rfl⟩

/-! ### values -/
def RelE (K : PySem.W.Frag) (cA : Cfg0) (G : Hp) (am : List Addr) : E → V → Prop
  | .v d, v => RelD K cA G d v
  | .r n, v => ∃ a, am[n]? = some a ∧ v = .ref a
  | .clo _, _ => False
  | .exn _ _, _ => False
def RelFE (K : PySem.W.Frag) (cA : Cfg0) (G : Hp) (am : List Addr) : List (Nm × E) → List (Str × V) → Prop
  | [], gs => gs = []
  | (f, e) :: r, gs => ∃ v rest, gs = (T f, v) :: rest ∧ RelE K cA G am e v ∧ RelFE K cA G am r rest
def RelEs (K : PySem.W.Frag) (cA : Cfg0) (G : Hp) (am : List Addr) : List E → List V → Prop
  | [], us => us = []
  | x :: xs, us => ∃ u r, us = u :: r ∧ RelE K cA G am x u ∧ RelEs K cA G am xs r
/-- how a cell lies -/
def CellO (K : PySem.W.Frag) (cA : Cfg0) (G : Hp) (am : List Addr) (H : Hp) (a : Addr) : Cell → Prop
  | .lst xs => ∃ us, H a = some (.lst us) ∧ RelDs K cA G xs us
  | .lkd xs => ∃ us, H a = some (.lst us) ∧ RelDs K cA G xs us
  | .dct kvs => ∃ ks, H a = some (.dK ks) ∧ RelKV K cA G kvs ks
  | .ins c fs => ∃ C dx gs, cA.cls c = some C ∧ H a = some (.ins C dx gs) ∧ H dx = some (.own a) ∧ RelFE K cA G am fs gs
def Live (am : List Addr) (C : Cells) (a : Addr) : Prop := ∃ (i : Nat) (c : Cell), C[i]? = some (some c) ∧ am[i]? = some a
/-- a table of code objects: each that it tells is known -/
def TabG (G H : Hp) (P : Addr) (q : Str) : Prop := ∃ ps : Array Value, H P = some (.tbl ps) ∧ TriplesOk ps.toList ∧ ∀ (pos : Pos) (cv : Value), codeAmong pos ps.toList = some cv → ∃ c, cv = .ref c ∧ G c = some (LamX.CodeO c q)
theorem TabG.mono {G G' H H' : Hp} {P : Addr} {q : Str} (t : TabG G H P q) (sg : Same G G') (sh : ∀ ps, H P = some (.tbl ps) → H' P = some (.tbl ps)) : TabG G' H' P q := by
  obtain ⟨ps, h1, h2, h3⟩ := t
  exact ⟨ps, sh _ h1, h2, fun pos cv hc => let ⟨c, e1, e2⟩ := h3 pos cv hc; ⟨c, e1, sg _ _ e2⟩⟩
structure Wd (K : PySem.W.Frag) (cA : Cfg0) (G : Hp) (am : List Addr) (C : Cells) (H : Hp) : Prop where
  tabs : ∀ p ∈ cA.tb, TabG G H p.1 p.2 ∧ G p.1 = none
  sub : Same G H
  len : am.length = C.length
  cell : ∀ (i : Nat) (c : Cell), C[i]? = some (some c) → ∃ a, am[i]? = some a ∧ CellO K cA G am H a c ∧ G a = none
  inj : ∀ (i j : Nat) (c d : Cell) (a : Addr), C[i]? = some (some c) → C[j]? = some (some d) → am[i]? = some a → am[j]? = some a → i = j
/-- from one world to a later one -/
structure Ext (G : Hp) (am : List Addr) (C : Cells) (H : Hp) (G' : Hp) (am' : List Addr) (C' : Cells) (H' : Hp) : Prop where
  g : Same G G'
  a : ∃ t, am' = am ++ t
  keep : ∀ a o, H a = some o → ¬ Live am C a → (∀ ps, o ≠ .tbl ps) → H' a = some o
  tab : ∀ a ps, H a = some (.tbl ps) → ¬ Live am C a → ∃ ps', H' a = some (.tbl ps')
  live : ∀ a, Live am' C' a → Live am C a ∨ H a = none
  gn : ∀ a o, G' a = some o → G a = some o ∨ H a = none ∨ Live am C a
  lk : ∀ (n : Nat) (xs : List D), C[n]? = some (some (.lkd xs)) → C'[n]? = some (some (.lkd xs))
theorem Ext.refl {am : List Addr} {C : Cells} {H : Hp} : Ext G am C H G am C H := ⟨Same.refl _, ⟨[], by simp⟩, fun _ _ h _ _ => h, fun _ ps h _ => ⟨ps, h⟩, fun _ h => .inl h, fun _ _ h => .inl h, fun _ _ h => h⟩
theorem tbl_or (o : HO) : (∃ ps, o = .tbl ps) ∨ ∀ ps, o ≠ .tbl ps := by
  cases o with
  | tbl ps => exact .inl ⟨ps, rfl⟩
  | _ => exact .inr fun ps z => by cases z
/-- nothing that stands goes -/
theorem Ext.some' {G G' : Hp} {am am' : List Addr} {C C' : Cells} {H H' : Hp} (x : Ext G am C H G' am' C' H') {a : Addr} {o : HO} (h : H a = some o) (n : ¬ Live am C a) : H' a ≠ none := fun z => by
  rcases tbl_or o with ⟨ps, rfl⟩ | t
  · obtain ⟨ps', e⟩ := x.tab a ps h n
    rw [z] at e; cases e
  · rw [x.keep a o h n t] at z; cases z
theorem Ext.trans {G1 G2 G3 : Hp} {a1 a2 a3 : List Addr} {C1 C2 C3 : Cells} {H1 H2 H3 : Hp} (x : Ext G1 a1 C1 H1 G2 a2 C2 H2) (y : Ext G2 a2 C2 H2 G3 a3 C3 H3) : Ext G1 a1 C1 H1 G3 a3 C3 H3 where
  g := x.g.trans y.g
  a := by
    obtain ⟨t, rfl⟩ := x.a
    obtain ⟨u, rfl⟩ := y.a
    exact ⟨t ++ u, by simp⟩
  keep := fun a o h n t => y.keep a o (x.keep a o h n t) (fun l => by
    rcases x.live a l with z | z
    · exact n z
    · rw [h] at z; cases z) t
  tab := fun a ps h n => by
    obtain ⟨ps', e⟩ := x.tab a ps h n
    exact y.tab a ps' e fun l => by
      rcases x.live a l with z | z
      · exact n z
      · rw [h] at z; cases z
  live := fun a l => by
    rcases y.live a l with z | z
    · exact x.live a z
    · cases e : H1 a with
      | none => exact .inr rfl
      | some o =>
        by_cases n : Live a1 C1 a
        · exact .inl n
        · exact (x.some' e n z).elim
  gn := fun a o h => by
    have nn : H2 a = none → H1 a = none ∨ Live a1 C1 a := fun z => by
      cases e : H1 a with
      | none => exact .inl rfl
      | some o =>
        by_cases n : Live a1 C1 a
        · exact .inr n
        · exact (x.some' e n z).elim
    rcases y.gn a o h with z | z | z
    · exact x.gn a o z
    · exact .inr (nn z)
    · rcases x.live a z with z | z
      · exact .inr (.inr z)
      · exact .inr (.inl z)
  lk := fun n xs h => y.lk n xs (x.lk n xs h)
theorem RelE.mono {am am' : List Addr} (e : Same G G') (ha : ∃ t, am' = am ++ t) : ∀ {x : E} {v : V}, RelE K cA G am x v → RelE K cA G' am' x v
  | .v d, _, h => RelD.mono e h
  | .r n, _, h => by
    obtain ⟨a, h1, h2⟩ := h
    obtain ⟨t, rfl⟩ := ha
    exact ⟨a, by rw [List.getElem?_append_left]; exact h1; exact (List.getElem?_eq_some_iff.mp h1).1, h2⟩
  | .clo _, _, h => h
  | .exn _ _, _, h => h
theorem RelFE.mono {am am' : List Addr} (e : Same G G') (ha : ∃ t, am' = am ++ t) : ∀ {x : List (Nm × E)} {v : List (Str × V)}, RelFE K cA G am x v → RelFE K cA G' am' x v
  | [], _, h => h
  | (f, x) :: xs, _, h => by
    obtain ⟨v, r, rfl, h1, h2⟩ := h
    exact ⟨v, r, rfl, h1.mono e ha, RelFE.mono e ha h2⟩
theorem RelEs.mono {am am' : List Addr} (e : Same G G') (ha : ∃ t, am' = am ++ t) : ∀ {x : List E} {v : List V}, RelEs K cA G am x v → RelEs K cA G' am' x v
  | [], _, h => h
  | x :: xs, _, h => by
    obtain ⟨v, r, rfl, h1, h2⟩ := h
    exact ⟨v, r, rfl, h1.mono e ha, RelEs.mono e ha h2⟩
end
end Ev

end

section
set_option maxRecDepth 512
set_option Elab.async false
set_option linter.all false
set_option maxRecDepth 100000
set_option maxHeartbeats 4000000
namespace Ev
open PySem L2 PySem.Spec PyProof.Rows

/-! ### readings by the evaluator -/
/-- what a frame knows: its cells, what its lambdas are called, what they are; the exception that its suite handles -/
structure Cfg extends Cfg0 where
  cells : List (Str × Addr)
  q : Str
  lam : Nat → Arguments → Expr → Scope → Prop
  exc : Option (Addr × Addr × Option Addr)
instance : Coe Cfg Cfg0 := ⟨Cfg.toCfg0⟩
/-- the lambda at f -/
def LamO (q : Str) (p : Arguments) (b : Expr) (sc : Scope) (cl : List (Str × Addr)) (c' f : Addr) : HO := .ext fun h => ∃ pm ctv : Value, h.get? f = some (PySem.W.kla_obj "<lambda>" q p b sc cl pm c' ctv)
def RelC (cA : Cfg) (G : Hp) (j : Nat) (v : V) : Prop := ∃ p b sc f c', cA.lam j p b sc ∧ v = .ref f ∧ G f = some (LamO cA.q p b sc (cloFrom cA.cells sc.names []) c' f) ∧ G c' = some (LamX.CodeO c' cA.q)
theorem RelC.mono {cA : Cfg} {G G' : Hp} {j : Nat} {v : V} (s : Same G G') (h : RelC cA G j v) : RelC cA G' j v :=
  let ⟨p, b, sc, f, c', h1, h2, h3, h4⟩ := h; ⟨p, b, sc, f, c', h1, h2, s _ _ h3, s _ _ h4⟩
/-- the exception that is handled -/
def RelN (K : PySem.W.Frag) (cA : Cfg) (G : Hp) (c : Nat) (fs : List (Nm × D)) (v : V) : Prop :=
  ∃ a C dd, cA.exc = some (a, C, dd) ∧ v = .ref a ∧ cA.cls c = some C ∧ (fs = [] ∨ ∃ b gs, dd = some b ∧ G b = some (.xd gs) ∧ ∀ f d, lookFD f fs = some d → ∃ v, gs.lookup (T f) = some v ∧ RelD K cA G d v)
theorem RelN.mono {K : PySem.W.Frag} {cA : Cfg} {G G' : Hp} {c : Nat} {fs : List (Nm × D)} {v : V} (s : Same G G') (h : RelN K cA G c fs v) : RelN K cA G' c fs v := by
  obtain ⟨a, C, dd, h1, h2, h3, h4⟩ := h
  refine ⟨a, C, dd, h1, h2, h3, h4.imp id fun ⟨b, gs, g1, g2, g3⟩ => ⟨b, gs, g1, s _ _ g2, fun f d e => let ⟨v, v1, v2⟩ := g3 f d e; ⟨v, v1, v2.mono s⟩⟩⟩
/-- what a slot holds -/
def RelSl (K : PySem.W.Frag) (cA : Cfg) (G : Hp) (am : List Addr) (e : E) (v : V) : Prop :=
  RelE K cA G am e v ∨ (∃ j, e = .clo j ∧ RelC cA G j v) ∨ ∃ c fs, e = .exn c fs ∧ RelN K cA G c fs v
theorem RelSl.mono {K : PySem.W.Frag} {cA : Cfg} {G G' : Hp} {am am' : List Addr} {e : E} {v : V} (s : Same G G') (ha : ∃ t, am' = am ++ t) (h : RelSl K cA G am e v) : RelSl K cA G' am' e v :=
  h.imp (RelE.mono s ha) fun h => h.imp (fun ⟨j, h1, h2⟩ => ⟨j, h1, h2.mono s⟩) fun ⟨c, fs, h1, h2⟩ => ⟨c, fs, h1, h2.mono s⟩
def RelEnv (K : PySem.W.Frag) (cA : Cfg) (G : Hp) (am : List Addr) (env : Env) (σ : L2.St) : Prop :=
  env.length = σ.length ∧ ∀ (i : Nat) (e : E), env[i]? = some (some e) → ∃ v, σ[i]? = some (some v) ∧ RelSl K cA G am e v
section
variable (K : PySem.W.Frag) (cA : Cfg0)
/-- an exception as it lies -/
def RelX (G : Hp) (c : Nat) (fs : List (Nm × D)) (cls : Value) (dd : Option Addr) : Prop :=
  ∃ C, cA.cls c = some C ∧ cls = .ref C ∧ (fs = [] ∨ ∃ a gs, dd = some a ∧ G a = some (.xd gs) ∧ ∀ f d, lookFD f fs = some d → ∃ v, gs.lookup (T f) = some v ∧ RelD K cA G d v)
abbrev WRel (α β : Type) := Hp → List Addr → Cells → Hp → α → β → Prop
/-- what a result asks -/
def Dn {α β : Type} (Rl : WRel α β) (W : WX) (σ : L2.St) (r : R α) (G : Hp) (am : List Addr) (C : Cells) (H : Hp) (Q : β → Hp → Prop) : Prop :=
  match r with
  | .ok a C' => ∀ G' am' H' v, Ext G am C H G' am' C' H' → Wd K cA G' am' C' H' → Rl G' am' C' H' a v → Q v H'
  | .exc c fs C' => ∀ G' am' H' cls dd, Ext G am C H G' am' C' H' → Wd K cA G' am' C' H' → RelX K cA G' c fs cls dd → W cls dd σ H'
  | .bad => False
end
section
variable {K : PySem.W.Frag} {cA : Cfg0} {α β γ δ : Type} {Rl : WRel α β} {Rm : WRel γ δ} {W : WX} {σ : L2.St} {G G' : Hp} {am am' : List Addr} {C C' : Cells} {H H' : Hp}
theorem RelEnv.mono {cA : Cfg} {env : Env} (x : Ext G am C H G' am' C' H') (h : RelEnv K cA G am env σ) : RelEnv K cA G' am' env σ :=
  ⟨h.1, fun i e he => let ⟨v, h1, h2⟩ := h.2 i e he; ⟨v, h1, h2.mono x.g x.a⟩⟩
theorem Dn.shift {r : R α} {Q : β → Hp → Prop} (x : Ext G am C H G' am' C' H') (h : Dn K cA Rl W σ r G am C H Q) : Dn K cA Rl W σ r G' am' C' H' Q := by
  cases r with
  | ok a C2 => exact fun G2 am2 H2 v x2 w2 r2 => h G2 am2 H2 v (x.trans x2) w2 r2
  | exc c fs C2 => exact fun G2 am2 H2 v dd x2 w2 r2 => h G2 am2 H2 v dd (x.trans x2) w2 r2
  | bad => exact h
theorem Dn.bind {r : R α} {f : α → Cells → R γ} {Q : δ → Hp → Prop} (h : Dn K cA Rm W σ (r.bind f) G am C H Q) :
    Dn K cA Rl W σ r G am C H fun v H1 => ∃ G1 am1 C1 a, Ext G am C H G1 am1 C1 H1 ∧ Wd K cA G1 am1 C1 H1 ∧ Rl G1 am1 C1 H1 a v ∧ Dn K cA Rm W σ (f a C1) G1 am1 C1 H1 Q := by
  cases r with
  | ok a C2 => exact fun G2 am2 H2 v x2 w2 r2 => ⟨G2, am2, C2, a, x2, w2, r2, h.shift x2⟩
  | exc c fs C2 => exact h
  | bad => exact h
theorem Dn.imp {r : R α} {Q Q' : β → Hp → Prop} (h : Dn K cA Rl W σ r G am C H Q) (hq : ∀ v H', Q v H' → Q' v H') : Dn K cA Rl W σ r G am C H Q' := by
  cases r with
  | ok a C2 => exact fun G2 am2 H2 v x2 w2 r2 => hq _ _ (h G2 am2 H2 v x2 w2 r2)
  | exc c fs C2 => exact h
  | bad => exact h
/-- an answer that is there -/
theorem Dn.here {a : α} {Q : β → Hp → Prop} {v : β} (h : Dn K cA Rl W σ (.ok a C) G am C H Q) (wd : Wd K cA G am C H) (r : Rl G am C H a v) : Q v H := h G am H v Ext.refl wd r
end

def rE (K : PySem.W.Frag) (cA : Cfg0) : WRel E V := fun G am _ _ e v => RelE K cA G am e v
def rEs (K : PySem.W.Frag) (cA : Cfg0) : WRel (List E) (List V) := fun G am _ _ e v => RelEs K cA G am e v

/-- an expression reads as the evaluator says -/
def tE (K : PySem.W.Frag) (cA : Cfg) (W : WX) (ev : Env → Cells → R E) : TE := fun σ H Q =>
  ∃ env G am C, RelEnv K cA G am env σ ∧ Wd K cA G am C H ∧ Dn K cA (rE K cA) W σ (ev env C) G am C H Q
def tEs (K : PySem.W.Frag) (cA : Cfg) (W : WX) (ev : Env → Cells → R (List E)) : TA := fun σ H Q =>
  ∃ env G am C, RelEnv K cA G am env σ ∧ Wd K cA G am C H ∧ Dn K cA (rEs K cA) W σ (ev env C) G am C H Q
def rB : WRel Bool Bool := fun _ _ _ _ a b => a = b
def tT (K : PySem.W.Frag) (cA : Cfg) (W : WX) (ev : Env → Cells → R Bool) : TT := fun σ H Q =>
  ∃ env G am C, RelEnv K cA G am env σ ∧ Wd K cA G am C H ∧ Dn K cA rB W σ (ev env C) G am C H Q

theorem PE.imp {X : Cx} {e : Expr} {t t' : TE} (h : PE X e t) (i : ∀ σ H Q, t' σ H Q → t σ H Q) : PE X e t' := ⟨fun pins s σ H Q I q => h.run pins s σ H Q I (i σ H Q q)⟩
theorem PT.imp {X : Cx} {e : Expr} {t t' : TT} (h : PT X e t) (i : ∀ σ H Q, t' σ H Q → t σ H Q) : PT X e t' := ⟨fun pins s σ H Q I q => h.run pins s σ H Q I (i σ H Q q)⟩
theorem PW.imp {X : Cx} {e : Expr} {t t' : TT} (h : PW X e t) (i : ∀ σ H Q, t' σ H Q → t σ H Q) : PW X e t' := ⟨fun wh pins s σ H Q I q => h.run wh pins s σ H Q I (i σ H Q q)⟩
theorem PA.imp {X : Cx} {e : List Expr} {t t' : TA} (h : PA X e t) (i : ∀ σ H Q, t' σ H Q → t σ H Q) : PA X e t' := ⟨fun pos pins s σ H Q I q => h.run pos pins s σ H Q I (i σ H Q q)⟩

/-! ### what a value shows -/
section
variable {K : PySem.W.Frag} {cA : Cfg0} {G G' : Hp} {am am' : List Addr} {C C' : Cells} {H H' : Hp}
/-- a list may lie in a cell -/
def RelS (K : PySem.W.Frag) (cA : Cfg0) (G H : Hp) : D → V → Prop
  | .lst xs, v => ∃ a us, v = .ref a ∧ SqL K H a us ∧ RelDs K cA G xs us
  | .dct kvs, v => ∃ a ks, v = .ref a ∧ Rd H a (.dK ks) ∧ RelKV K cA G kvs ks
  | d, v => RelD K cA G d v
theorem RelD.relS (s : Same G H) {d : D} {v : V} (h : RelD K cA G d v) : RelS K cA G H d v := by
  cases d <;> first | exact h | skip
  case lst xs =>
    simp only [RelD] at h
    obtain ⟨a, us, rfl, h1, h2⟩ := h
    exact ⟨a, us, rfl, s.seq h1, h2⟩
  case dct kvs =>
    simp only [RelD] at h
    obtain ⟨a, o, ks, rfl, h1, h2⟩ := h
    exact ⟨a, ks, rfl, .inr ⟨o, s _ _ h1⟩, h2⟩
theorem see_rel (wd : Wd K cA G am C H) {e : E} {v : V} {d : D} (h : RelE K cA G am e v) (hs : see C e = some d) : RelS K cA G H d v := by
  cases e with
  | v d' => simp only [see, Option.some.injEq] at hs; subst hs; exact RelD.relS wd.sub h
  | r n =>
    obtain ⟨a, h1, rfl⟩ := h
    simp only [see, cellAt] at hs
    cases hc : C[n]? with
    | none => simp [hc] at hs
    | some o =>
      cases o with
      | none => simp [hc] at hs
      | some c =>
        simp [hc] at hs
        obtain ⟨a', ha, hO, _⟩ := wd.cell n c hc
        rw [h1] at ha; cases ha
        cases c with
        | lst xs =>
          simp [cellD] at hs; subst hs
          obtain ⟨us, z, rd⟩ := hO
          exact ⟨a, us, rfl, SqL.of z, rd⟩
        | lkd xs =>
          simp [cellD] at hs; subst hs
          obtain ⟨us, z, rd⟩ := hO
          exact ⟨a, us, rfl, SqL.of z, rd⟩
        | dct kvs =>
          simp [cellD] at hs; subst hs
          obtain ⟨ks, z, rd⟩ := hO
          exact ⟨a, ks, rfl, .inl z, rd⟩
        | ins c fs => simp [cellD] at hs
  | clo j => simp [see] at hs
  | exn c fs => simp [see] at hs
/-- something new at a free place, in the frozen part -/
theorem Wd.new (wd : Wd K cA G am C H) {p : Addr} (hp : H p = none) (o : HO) : Wd K cA (upd G p o) am C (upd H p o) ∧ Ext G am C H (upd G p o) am C (upd H p o) := by
  have hg : G p = none := by
    cases e : G p with
    | none => rfl
    | some u => rw [wd.sub _ _ e] at hp; cases hp
  have sg : Same G (upd G p o) := fun b u q => by rw [upd_ne (ne_of_none q hg)]; exact q
  have sh : Same H (upd H p o) := fun b u q => by rw [upd_ne (ne_of_none q hp)]; exact q
  refine ⟨⟨fun P hp => ⟨(wd.tabs P hp).1.mono sg fun ps e => sh _ _ e, by rw [upd_ne (fun z => by obtain ⟨⟨ps, e, _⟩, _⟩ := wd.tabs P hp; rw [z] at e; cases hp' : H p <;> simp_all)]; exact (wd.tabs P hp).2⟩, fun b u q => ?_, wd.len, fun i c e => ?_, wd.inj⟩, ⟨sg, ⟨[], by simp⟩, fun a u q _ _ => sh a u q, fun a ps q _ => ⟨ps, sh a _ q⟩, fun a l => .inl l, fun a u q => ?_, fun _ _ h => h⟩⟩
  · by_cases hb : b = p
    · subst hb; rw [upd_same] at q ⊢; exact q
    · rw [upd_ne hb] at q ⊢; exact wd.sub _ _ q
  · obtain ⟨a, h1, h2, h3⟩ := wd.cell i c e
    have hap : a ≠ p := by
      intro z; subst z
      cases c with
      | lst xs => obtain ⟨us, z, _⟩ := h2; rw [hp] at z; cases z
      | lkd xs => obtain ⟨us, z, _⟩ := h2; rw [hp] at z; cases z
      | dct kvs => obtain ⟨us, z, _⟩ := h2; rw [hp] at z; cases z
      | ins c fs => obtain ⟨_, _, _, _, z, _⟩ := h2; rw [hp] at z; cases z
    refine ⟨a, h1, ?_, by rw [upd_ne hap]; exact h3⟩
    cases c with
    | lst xs => obtain ⟨us, z, r⟩ := h2; exact ⟨us, sh _ _ z, r.mono sg⟩
    | lkd xs => obtain ⟨us, z, r⟩ := h2; exact ⟨us, sh _ _ z, r.mono sg⟩
    | dct kvs => obtain ⟨us, z, r⟩ := h2; exact ⟨us, sh _ _ z, r.mono sg⟩
    | ins c fs => obtain ⟨Ca, dx, gs, z1, z2, z3, r⟩ := h2; exact ⟨Ca, dx, gs, z1, sh _ _ z2, sh _ _ z3, r.mono sg ⟨[], by simp⟩⟩
  · by_cases hb : a = p
    · subst hb; exact .inr (.inl hp)
    · rw [upd_ne hb] at q; exact .inl q
theorem Wd.free (wd : Wd K cA G am C H) {p : Addr} (hp : H p = none) : G p = none := by
  cases e : G p with
  | none => rfl
  | some u => rw [wd.sub _ _ e] at hp; cases hp
end

theorem Wd.tab_to {K : PySem.W.Frag} {cA : Cfg0} {G G' : Hp} {am : List Addr} {C : Cells} {H H' : Hp} (wd : Wd K cA G am C H) (sg : Same G G') (sh : ∀ P ps, H P = some (.tbl ps) → H' P = some (.tbl ps)) (gn : ∀ P ps, H P = some (.tbl ps) → G P = none → G' P = none) : ∀ p ∈ cA.tb, TabG G' H' p.1 p.2 ∧ G' p.1 = none := fun p hp => by
  obtain ⟨t, n⟩ := wd.tabs p hp
  obtain ⟨ps, e, _⟩ := id t
  exact ⟨t.mono sg fun ps e => sh _ _ e, gn _ ps e n⟩
/-! ### data: deep looks -/
def py : D → PyData
  | .non => .none
  | .bl b => .bool b
  | .int i => .int i
  | .str s => .str (T s)
  | .tup xs => .tuple (pys xs)
  | .lst xs => .list (pys xs)
  | .dct _ => .none
  | .ins _ _ => .none
where
  pys : List D → List PyData
  | [] => []
  | x :: xs => py x :: pys xs
mutual
theorem py_lay : ∀ d : D, pd d = true → (py d).canLay0 = true
  | .non, _ => rfl
  | .bl _, _ => rfl
  | .int _, _ => rfl
  | .str s, h => by
    simp only [pd] at h
    simpa [py, PyData.canLay0, PyData.strOk, T] using h
  | .tup xs, h => py_lays xs (by simpa only [pd] using h)
  | .lst xs, h => py_lays xs (by simpa only [pd] using h)
theorem py_lays : ∀ ds : List D, pds ds = true → PyData.canLayAll0 (py.pys ds) = true
  | [], _ => rfl
  | x :: xs, h => by
    simp only [pds, Bool.and_eq_true] at h
    simp only [py.pys, PyData.canLayAll0, Bool.and_eq_true]
    exact ⟨py_lay x h.1, py_lays xs h.2⟩
end
mutual
theorem py_dep : ∀ d : D, (py d).depth ≤ dep d
  | .non => Nat.le_refl _
  | .bl _ => Nat.le_refl _
  | .int _ => Nat.le_refl _
  | .str _ => Nat.le_refl _
  | .tup xs => by simp only [py, dep, PyData.depth]; exact Nat.succ_le_succ (py_deps xs)
  | .lst xs => by simp only [py, dep, PyData.depth]; exact Nat.succ_le_succ (py_deps xs)
  | .dct _ => Nat.zero_le _
  | .ins _ _ => Nat.zero_le _
theorem py_deps : ∀ ds : List D, PyData.depthAll (py.pys ds) ≤ deps ds
  | [] => Nat.le_refl _
  | x :: xs => by
    simp only [py.pys, deps, PyData.depthAll]
    have h1 := py_dep x
    have h2 := py_deps xs
    omega
end
theorem T_beq (a b : Nm) : (T a == T b) = (a == b) := by
  by_cases h : a = b
  · subst h; simp
  · have : T a ≠ T b := fun z => h (T_inj z)
    rw [beq_eq_false_iff_ne.mpr this, beq_eq_false_iff_ne.mpr h]
mutual
theorem py_eq : ∀ a b : D, pd a = true → pd b = true → PyData.eqv (py a) (py b) = eqD a b
  | .non, b, _, hb => by cases b <;> first | rfl | (simp [pd] at hb)
  | .bl x, b, _, hb => by cases b <;> first | rfl | (simp [pd] at hb)
  | .int x, b, _, hb => by cases b <;> first | rfl | (simp [pd] at hb)
  | .str x, b, _, hb => by
    cases b <;> first | rfl | (simp [pd] at hb; done) | skip
    case str y => simp only [py, PyData.eqv, eqD]; exact T_beq x y
  | .tup xs, b, ha, hb => by
    cases b <;> first | rfl | (simp [pd] at hb; done) | skip
    case tup ys => simp only [py, PyData.eqv, eqD]; exact py_eqs xs ys (by simpa only [pd] using ha) (by simpa only [pd] using hb)
  | .lst xs, b, ha, hb => by
    cases b <;> first | rfl | (simp [pd] at hb; done) | skip
    case lst ys => simp only [py, PyData.eqv, eqD]; exact py_eqs xs ys (by simpa only [pd] using ha) (by simpa only [pd] using hb)
theorem py_eqs : ∀ as bs : List D, pds as = true → pds bs = true → PyData.eqvAll (py.pys as) (py.pys bs) = eqDs as bs
  | [], [], _, _ => rfl
  | [], _ :: _, _, _ => rfl
  | _ :: _, [], _, _ => rfl
  | a :: as, b :: bs, ha, hb => by
    simp only [pds, Bool.and_eq_true] at ha hb
    simp only [py.pys, PyData.eqvAll, eqDs, py_eq a b ha.1 hb.1, py_eqs as bs ha.2 hb.2]
end
section
variable {X : Cx} {pins : List (Addr × Obj)} {σ : L2.St} {G H : Hp} {s : Shared} {cA : Cfg0}
mutual
theorem reads_D (I : Inv X pins σ H s) (sb : Same G H) : ∀ {d : D} {v : V} {u : Value}, pd d = true → RelD X.K cA G d v → RelV v u → ∃ as, Reads s.heap u (py d) as
  | .non, _, _, _, h, r => by simp only [RelD] at h; subst h; cases r; exact ⟨_, .none⟩
  | .bl b, _, _, _, h, r => by simp only [RelD] at h; subst h; cases r; exact ⟨_, .bool b⟩
  | .int i, _, _, _, h, r => by simp only [RelD] at h; subst h; obtain ⟨t, rfl⟩ := r; exact ⟨_, .int i t⟩
  | .str x, _, _, _, h, r => by simp only [RelD] at h; subst h; obtain ⟨t, rfl⟩ := r; exact ⟨_, .str _ t⟩
  | .tup xs, _, _, hp, h, r => by
    simp only [RelD] at h
    obtain ⟨a, us, rfl, h1, h2⟩ := h
    cases r
    obtain ⟨its, rv, ⟨o, e1, e2, n, e3⟩, hz⟩ := I.tuple (Same.sqt sb h1)
    obtain ⟨as, ra⟩ := reads_Ds I sb (by simpa only [pd] using hp) h2 rv
    exact ⟨_, .tuple e1 e2 e3 (by simpa using ra)⟩
  | .lst xs, _, _, hp, h, r => by
    simp only [RelD] at h
    obtain ⟨a, us, rfl, h1, h2⟩ := h
    cases r
    obtain ⟨its, rv, ⟨o, n, e1, e2, _, e3⟩, hz⟩ := I.list (sb.seq h1)
    obtain ⟨as, ra⟩ := reads_Ds I sb (by simpa only [pd] using hp) h2 rv
    exact ⟨_, .list e1 e2 e3 (by simpa using ra)⟩
  | .dct _, _, _, hp, _, _ => by simp [pd] at hp
  | .ins _ _, _, _, hp, _, _ => by simp [pd] at hp
theorem reads_Ds (I : Inv X pins σ H s) (sb : Same G H) : ∀ {ds : List D} {vs : List V} {us : List Value}, pds ds = true → RelDs X.K cA G ds vs → Vals vs us → ∃ as, ReadsAll s.heap us (py.pys ds) as
  | [], _, _, _, h, r => by simp only [RelDs] at h; subst h; cases r; exact ⟨_, .nil⟩
  | x :: xs, _, _, hp, h, r => by
    simp only [RelDs] at h
    obtain ⟨u, rr, rfl, h1, h2⟩ := h
    simp only [pds, Bool.and_eq_true] at hp
    cases r with
    | cons r1 r2 =>
      obtain ⟨as, ra⟩ := reads_D I sb hp.1 h1 r1
      obtain ⟨bs, rb⟩ := reads_Ds I sb hp.2 h2 r2
      exact ⟨_, .cons ra rb⟩
end
theorem reads_S (I : Inv X pins σ H s) (sb : Same G H) {d : D} {v : V} {u : Value} (hp : pd d = true) (h : RelS X.K cA G H d v) (r : RelV v u) : ∃ as, Reads s.heap u (py d) as := by
  cases d with
  | lst xs =>
    obtain ⟨a, us, rfl, h1, h2⟩ := h
    cases r
    obtain ⟨its, rv, ⟨o, n, e1, e2, _, e3⟩, hz⟩ := I.list h1
    obtain ⟨as, ra⟩ := reads_Ds I sb (by simpa only [pd] using hp) h2 rv
    exact ⟨_, .list e1 e2 e3 (by simpa using ra)⟩
  | dct kvs => simp [pd] at hp
  | _ => exact reads_D (cA := cA) I sb hp h r
theorem shp_room {a b : D} {A : Around} (hu : A.units + 64 < cLine) (ha : shp a = true) (hb : shp b = true) : A.units + min (py a).depth (py b).depth < cLine := by
  simp only [shp, Bool.and_eq_true, decide_eq_true_eq] at ha hb
  have h1 := py_dep a
  omega
theorem shp_pd {a : D} (h : shp a = true) : pd a = true := by simp only [shp, Bool.and_eq_true] at h; exact h.1
/-- == -/
theorem op_eqS (hu : X.A.units + 64 < cLine) : OpR X (compareOp .Eq) (fun x y H Q => ∃ G a b, Same G H ∧ RelS X.K cA G H a x ∧ RelS X.K cA G H b y ∧ shp a = true ∧ shp b = true ∧ Q (.bl (eqD a b)) H) := by
  intro pins s σ H x y v u Q I rx ry ⟨G, a, b, sb, ra, rb, ha, hb, q⟩
  obtain ⟨as, r1⟩ := reads_S I sb (shp_pd ha) ra rx
  obtain ⟨bs, r2⟩ := reads_S I sb (shp_pd hb) rb ry
  refine SeqAt.compareEq_reads r1 r2 (py_lay _ (shp_pd ha)) (py_lay _ (shp_pd hb)) (shp_room hu ha hb) ⟨.bl _, H, I, rfl, ?_⟩
  rw [py_eq a b (shp_pd ha) (shp_pd hb)]
  exact q
theorem op_neS (hu : X.A.units + 64 < cLine) : OpR X (compareOp .NotEq) (fun x y H Q => ∃ G a b, Same G H ∧ RelS X.K cA G H a x ∧ RelS X.K cA G H b y ∧ shp a = true ∧ shp b = true ∧ Q (.bl (!eqD a b)) H) := by
  intro pins s σ H x y v u Q I rx ry ⟨G, a, b, sb, ra, rb, ha, hb, q⟩
  obtain ⟨as, r1⟩ := reads_S I sb (shp_pd ha) ra rx
  obtain ⟨bs, r2⟩ := reads_S I sb (shp_pd hb) rb ry
  refine SeqAt.compareNe_reads r1 r2 (py_lay _ (shp_pd ha)) (py_lay _ (shp_pd hb)) (shp_room hu ha hb) ⟨.bl _, H, I, rfl, ?_⟩
  rw [py_eq a b (shp_pd ha) (shp_pd hb)]
  exact q

/-! ### in -/
noncomputable def eqOn (h : Heap) (x : PyData) (y : Value) : Bool := by
  classical exact if hh : ∃ d as, Reads h y d as ∧ d.canLay0 = true then PyData.eqv hh.choose x else false
theorem eqOn_of {h : Heap} {x d : PyData} {y : Value} {as : List Addr} (r : Reads h y d as) (l : d.canLay0 = true) : eqOn h x y = PyData.eqv d x := by
  unfold eqOn
  have hh : ∃ d as, Reads h y d as ∧ d.canLay0 = true := ⟨d, as, r, l⟩
  rw [dif_pos hh]
  obtain ⟨as', r', l'⟩ := hh.choose_spec
  rw [SeqAt.Reads.unique _ _ _ _ _ l r r']
theorem shps_get : ∀ {ds : List D}, shps ds = true → ∀ d ∈ ds, shp d = true
  | x :: xs, h, d, hd => by
    simp only [shps, Bool.and_eq_true] at h
    rcases List.mem_cons.mp hd with rfl | hd
    · exact h.1
    · exact shps_get h.2 d hd
theorem each_eq (I : Inv X pins σ H s) (sb : Same G H) {x : D} {xu : Value} {bs : List Addr} (hx : shp x = true) (rx : Reads s.heap xu (py x) bs) {A : Around} (hu : A.units + 64 < cLine) :
    ∀ {ds : List D} {vs : List V} {us : List Value}, shps ds = true → RelDs X.K cA G ds vs → Vals vs us → (∀ y ∈ us, SeqAt.EqAt A s y xu (eqOn s.heap (py x) y)) ∧ us.any (eqOn s.heap (py x)) = memD x ds
  | [], _, _, _, h, r => by simp only [RelDs] at h; subst h; cases r; exact ⟨fun y hy => (by cases hy), rfl⟩
  | d :: ds, _, _, hp, h, r => by
    simp only [RelDs] at h
    obtain ⟨u, rr, rfl, h1, h2⟩ := h
    simp only [shps, Bool.and_eq_true] at hp
    cases r with
    | cons r1 r2 =>
      obtain ⟨as, ra⟩ := reads_D I sb (shp_pd hp.1) h1 r1
      obtain ⟨i1, i2⟩ := each_eq I sb hx rx hu hp.2 h2 r2
      have e := eqOn_of (x := py x) ra (py_lay _ (shp_pd hp.1))
      refine ⟨fun y hy => ?_, ?_⟩
      · rcases List.mem_cons.mp hy with rfl | hy
        · rw [e]
          exact SeqAt.eqAt_reads _ _ A s _ _ _ _ ra rx (py_lay _ (shp_pd hp.1)) (py_lay _ (shp_pd hx)) (shp_room hu hp.1 hx)
        · exact i1 y hy
      · rw [List.any_cons, i2, e, py_eq _ _ (shp_pd hp.1) (shp_pd hx), memD]
/-- x in a list, a tuple -/
theorem op_inS (neg : Bool) (hu : X.A.units + 65 < cLine) : OpR X (compareOp (if neg then .NotIn else .In)) (fun x y H Q => ∃ G a bs, Same G H ∧ RelS X.K cA G H a x ∧ (∃ p us, y = .ref p ∧ (SqL X.K H p us ∨ SqT X.K H p us) ∧ RelDs X.K cA G bs us) ∧ shp a = true ∧ shps bs = true ∧ Q (.bl (if neg then !memD a bs else memD a bs)) H) := by
  intro pins s σ H x y v u Q I rx ry ⟨G, a, bs, sb, ra, ⟨p, us, e, hq, rb⟩, ha, hb, q⟩
  subst e
  cases ry
  obtain ⟨as, r1⟩ := reads_S I sb (shp_pd ha) ra rx
  rcases hq with hq | hq
  · obtain ⟨its, rv, pl, hz⟩ := I.list hq
    obtain ⟨i1, i2⟩ := each_eq (A := X.A.in1) I sb ha r1 (by show X.A.units + 1 + 64 < cLine; omega) hb rb rv
    cases neg with
    | false => exact SeqAt.in_listAt (eqOn s.heap (py a)) pl.isList (fun w hw => i1 w (by simpa using hw)) ⟨.bl _, H, I, rfl, by rw [show its.toArray.any (eqOn s.heap (py a)) = its.any (eqOn s.heap (py a)) by simp, i2]; exact q⟩
    | true => exact SeqAt.notIn_listAt (eqOn s.heap (py a)) pl.isList (fun w hw => i1 w (by simpa using hw)) ⟨.bl _, H, I, rfl, by rw [show its.toArray.any (eqOn s.heap (py a)) = its.any (eqOn s.heap (py a)) by simp, i2]; exact q⟩
  · obtain ⟨its, rv, pl, hz⟩ := I.tuple hq
    obtain ⟨i1, i2⟩ := each_eq (A := X.A.in1) I sb ha r1 (by show X.A.units + 1 + 64 < cLine; omega) hb rb rv
    cases neg with
    | false => exact SeqAt.in_tupleAt (eqOn s.heap (py a)) pl (fun w hw => i1 w (by simpa using hw)) ⟨.bl _, H, I, rfl, by rw [show its.toArray.any (eqOn s.heap (py a)) = its.any (eqOn s.heap (py a)) by simp, i2]; exact q⟩
    | true => exact SeqAt.notIn_tupleAt (eqOn s.heap (py a)) pl (fun w hw => i1 w (by simpa using hw)) ⟨.bl _, H, I, rfl, by rw [show its.toArray.any (eqOn s.heap (py a)) = its.any (eqOn s.heap (py a)) by simp, i2]; exact q⟩
end
end Ev

end

section
set_option maxRecDepth 512
set_option Elab.async false
set_option linter.all false
set_option maxRecDepth 100000
set_option maxHeartbeats 4000000
namespace Ev
open PySem L2 PySem.Spec PyProof.Rows

/-! ### dicts -/
theorem keyR_some {k : D} (h : keyB k = true) : ∃ kk, keyR k = some kk := by
  cases k <;> first | (simp [keyB] at h; done) | exact ⟨_, rfl⟩
theorem keyB_of {k : D} {kk : Key} (h : keyR k = some kk) : keyB k = true := by
  cases k <;> first | (simp [keyR] at h; done) | rfl
theorem kEq_iff {a b : D} {x y : Key} (ha : keyR a = some x) (hb : keyR b = some y) : kEq a b = decide (x = y) := by
  cases a <;> simp only [keyR, Option.some.injEq] at ha <;> first | (cases ha; done) | skip
  all_goals
    cases b <;> simp only [keyR, Option.some.injEq] at hb <;> first | (cases hb; done) | skip
  all_goals subst ha hb
  · rename_i i j
    show (i == j) = _
    by_cases h : i = j
    · subst h; simp
    · have : (Sum.inl i : Key) ≠ Sum.inl j := fun z => h (Sum.inl.inj z)
      simp [h]
  · symm; exact decide_eq_false (fun z => by cases z)
  · symm; exact decide_eq_false (fun z => by cases z)
  · rename_i i j
    show (i == j) = _
    by_cases h : i = j
    · subst h; simp
    · have : (Sum.inr (T i) : Key) ≠ Sum.inr (T j) := fun z => h (T_inj (Sum.inr.inj z))
      simp [h, this]
theorem keyR_rel {K : PySem.W.Frag} {cA : Cfg0} {G : Hp} {k : D} {v : V} (hk : keyB k = true) (h : RelD K cA G k v) : ∃ kk, keyR k = some kk ∧ v = kV kk := by
  cases k <;> first | (simp [keyB] at hk; done) | skip
  · simp only [RelD] at h; exact ⟨_, rfl, h⟩
  · simp only [RelD] at h; exact ⟨_, rfl, h⟩
theorem kV_rel {K : PySem.W.Frag} {cA : Cfg0} {G : Hp} {k : D} {kk : Key} (h : keyR k = some kk) : RelD K cA G k (kV kk) := by
  cases k <;> simp only [keyR, Option.some.injEq] at h <;> first | (cases h; done) | skip
  · subst h; simp only [RelD]; rfl
  · subst h; simp only [RelD]; rfl
section
variable {K : PySem.W.Frag} {cA : Cfg0} {G : Hp}
theorem RelKV.look {k : D} {kk : Key} (hk : keyR k = some kk) : ∀ {kvs : List (D × D)} {ks : List (Key × V)}, RelKV K cA G kvs ks →
    (∃ d v, lookK k kvs = some d ∧ valV ks kk = some v ∧ RelD K cA G d v) ∨ (lookK k kvs = none ∧ valV ks kk = none)
  | [], _, h => by simp only [RelKV] at h; subst h; exact .inr ⟨rfl, rfl⟩
  | (a, b) :: r, _, h => by
    simp only [RelKV] at h
    obtain ⟨ka, v, rest, rfl, h0, h1, h2⟩ := h
    simp only [lookK, kEq_iff h0 hk]
    by_cases e : ka = kk
    · exact .inl ⟨b, v, by rw [if_pos (decide_eq_true e)], valV_pos e, h1⟩
    · rw [if_neg (by simpa using e), valV_neg e]
      exact RelKV.look hk h2
theorem RelKV.isS {kvs : List (D × D)} {ks : List (Key × V)} (h : RelKV K cA G kvs ks) {k : D} {kk : Key} (hk : keyR k = some kk) : (valV ks kk).isSome = (lookK k kvs).isSome := by
  rcases h.look hk with ⟨d, v, e1, e2, _⟩ | ⟨e1, e2⟩ <;> rw [e1, e2] <;> rfl
theorem RelKV.set {k v : D} {kk : Key} {u : V} (hk : keyR k = some kk) (hv : RelD K cA G v u) : ∀ {kvs : List (D × D)} {ks : List (Key × V)}, RelKV K cA G kvs ks →
    RelKV K cA G (setK k v kvs) (ks.map fun kv => if decide (kv.1 = kk) = true then (kv.1, u) else kv)
  | [], _, h => by simp only [RelKV] at h; subst h; simp only [setK, RelKV, List.map_nil]
  | (a, b) :: r, _, h => by
    simp only [RelKV] at h
    obtain ⟨ka, w, rest, rfl, h0, h1, h2⟩ := h
    simp only [setK, kEq_iff h0 hk, List.map_cons, RelKV]
    by_cases e : ka = kk
    · exact ⟨ka, u, _, by simp [e], h0, by simpa [e] using hv, RelKV.set hk hv h2⟩
    · exact ⟨ka, w, _, by simp [e], h0, by simpa [e] using h1, RelKV.set hk hv h2⟩
theorem RelKV.snoc {k v : D} {kk : Key} {u : V} (hk : keyR k = some kk) (hv : RelD K cA G v u) : ∀ {kvs : List (D × D)} {ks : List (Key × V)}, RelKV K cA G kvs ks → RelKV K cA G (kvs ++ [(k, v)]) (ks ++ [(kk, u)])
  | [], _, h => by simp only [RelKV] at h; subst h; simp only [List.nil_append, RelKV]; exact ⟨_, _, _, rfl, hk, hv, rfl⟩
  | (a, b) :: r, _, h => by
    simp only [RelKV] at h
    obtain ⟨ka, w, rest, rfl, h0, h1, h2⟩ := h
    simp only [List.cons_append, RelKV]
    exact ⟨ka, w, _, rfl, h0, h1, RelKV.snoc hk hv h2⟩
theorem RelKV.put {k v : D} {kk : Key} {u : V} (hk : keyR k = some kk) (hv : RelD K cA G v u) {kvs : List (D × D)} {ks : List (Key × V)} (h : RelKV K cA G kvs ks) : RelKV K cA G (putKd k v kvs) (putK ks kk u) := by
  unfold putKd putK
  rw [valV_any]
  rcases h.look hk with ⟨d, w, e1, e2, _⟩ | ⟨e1, e2⟩
  · rw [e1, e2]
    simpa using h.set hk hv
  · rw [e1, e2]
    simpa using h.snoc hk hv
theorem RelKV.keys : ∀ {kvs : List (D × D)} {ks : List (Key × V)}, RelKV K cA G kvs ks → RelDs K cA G (kvs.map (·.1)) (ks.map fun kv => kV kv.1)
  | [], _, h => by simp only [RelKV] at h; subst h; simp only [List.map_nil, RelDs]
  | (a, b) :: r, _, h => by
    simp only [RelKV] at h
    obtain ⟨ka, w, rest, rfl, h0, h1, h2⟩ := h
    simp only [List.map_cons, RelDs]
    exact ⟨_, _, rfl, kV_rel h0, RelKV.keys h2⟩
theorem same_rel {a b : D} {x y : V} (h : sameF a b = true) (ha : RelD K cA G a x) (hb : RelD K cA G b y) : x = y ∧ flatB x = true := by
  cases a <;> cases b <;> simp only [sameF] at h <;> first | (cases h; done) | skip
  all_goals simp only [RelD] at ha hb
  all_goals subst ha hb
  · exact ⟨rfl, rfl⟩
  · rw [beq_iff_eq] at h; subst h; exact ⟨rfl, rfl⟩
  · rw [beq_iff_eq] at h; subst h; exact ⟨rfl, rfl⟩
  · rw [beq_iff_eq] at h; subst h; exact ⟨rfl, rfl⟩
theorem allKV_rel {ls : List (D × D)} {vs : List (Key × V)} (hl : RelKV K cA G ls vs) : ∀ {ks : List (D × D)} {us : List (Key × V)}, RelKV K cA G ks us → allKV ls ks = true → ∀ p ∈ us, valV vs p.1 = some p.2 ∧ flatB p.2 = true
  | [], _, h, _ => by simp only [RelKV] at h; subst h; intro p hp; cases hp
  | (a, b) :: r, _, h, e => by
    simp only [RelKV] at h
    obtain ⟨ka, w, rest, rfl, h0, h1, h2⟩ := h
    simp only [allKV, Bool.and_eq_true] at e
    intro p hp
    rcases List.mem_cons.mp hp with rfl | hp
    · rcases hl.look h0 with ⟨d, v, e1, e2, r1⟩ | ⟨e1, e2⟩
      · rw [e1] at e
        obtain ⟨e3, e4⟩ := same_rel e.1 h1 r1
        exact ⟨by rw [e2, e3], e4⟩
      · rw [e1] at e; exact absurd e.1 (by simp)
    · exact allKV_rel hl h2 e.2 p hp
theorem eqKV_rel {ls ks : List (D × D)} {vs us : List (Key × V)} (hk : RelKV K cA G ks us) (hl : RelKV K cA G ls vs) (e : eqKV ks ls = true) : us.length = vs.length ∧ ∀ p ∈ us, valV vs p.1 = some p.2 ∧ flatB p.2 = true := by
  simp only [eqKV, Bool.and_eq_true, beq_iff_eq] at e
  exact ⟨by rw [← hk.length, ← hl.length]; exact e.1, allKV_rel hl hk e.2⟩
end
section
variable {X : Cx}
theorem op_eq_dictR (hu : X.A.units < cLine) : OpR X (compareOp .Eq) (fun x y H Q => ∃ a b ks ls, x = .ref a ∧ y = .ref b ∧ Rd H a (.dK ks) ∧ Rd H b (.dK ls) ∧ ks.length = ls.length ∧ (∀ p ∈ ks, valV ls p.1 = some p.2 ∧ flatB p.2 = true) ∧ Q (.bl true) H) := by
  intro pins s σ H x y v u Q I rx ry h
  obtain ⟨a, b, ks, ls, rfl, rfl, ea, eb, hlen, hp, q⟩ := h
  obtain rfl : v = Value.ref a := rx
  obtain rfl : u = Value.ref b := ry
  obtain ⟨_, ya, va, ra, da⟩ := dk_rd I.hok ea
  obtain ⟨_, yb, vb, rb, db⟩ := dk_rd I.hok eb
  have hl : va.length = vb.length := by rw [← ra.length, ← rb.length]; exact hlen
  exact PySem.W.keq_eq (knd := mixKind X.prog X.w) (r := true) ya yb da db hu (fun _ => hits_all rb ra hp) (fin_bl I q (by simp [hl]))
theorem op_ne_dictR (hu : X.A.units < cLine) : OpR X (compareOp .NotEq) (fun x y H Q => ∃ a b ks ls, x = .ref a ∧ y = .ref b ∧ Rd H a (.dK ks) ∧ Rd H b (.dK ls) ∧ ks.length = ls.length ∧ (∀ p ∈ ks, valV ls p.1 = some p.2 ∧ flatB p.2 = true) ∧ Q (.bl false) H) := by
  intro pins s σ H x y v u Q I rx ry h
  obtain ⟨a, b, ks, ls, rfl, rfl, ea, eb, hlen, hp, q⟩ := h
  obtain rfl : v = Value.ref a := rx
  obtain rfl : u = Value.ref b := ry
  obtain ⟨_, ya, va, ra, da⟩ := dk_rd I.hok ea
  obtain ⟨_, yb, vb, rb, db⟩ := dk_rd I.hok eb
  have hl : va.length = vb.length := by rw [← ra.length, ← rb.length]; exact hlen
  exact PySem.W.keq_ne (knd := mixKind X.prog X.w) (r := true) ya yb da db hu (fun _ => hits_all rb ra hp) (fin_bl I q (by simp [hl]))
end
end Ev

end

section
set_option maxRecDepth 512
set_option Elab.async false
set_option linter.all false
set_option maxRecDepth 100000
set_option maxHeartbeats 4000000
namespace Ev
open PySem L2 PySem.Spec PyProof.Rows
/-! ### texts, ints in order -/
theorem leN_lt : ∀ a b : Nm, leN a b = !ltCps b a
  | [], [] => rfl
  | [], _ :: _ => rfl
  | _ :: _, [] => rfl
  | a :: x, b :: y => by
    simp only [leN, ltCps, leN_lt x y]
    rcases Nat.lt_trichotomy a b with h | h | h
    · have h1 : ¬ b < a := by omega
      have h2 : ¬ b = a := by omega
      simp [h, h1, h2]
    · subst h; simp
    · have h1 : ¬ a < b := by omega
      have h2 : ¬ a = b := by omega
      simp [h, h1, h2]
theorem leN_refl : ∀ a : Nm, leN a a = true
  | [] => rfl
  | a :: x => by simp [leN, leN_refl x]
theorem leN_trans : ∀ a b c : Nm, leN a b = true → leN b c = true → leN a c = true
  | [], _, _, _, _ => rfl
  | _ :: _, [], _, h, _ => by simp [leN] at h
  | _ :: _, _ :: _, [], _, h => by simp [leN] at h
  | a :: x, b :: y, c :: z, h, h' => by
    simp only [leN, Bool.or_eq_true, decide_eq_true_eq, Bool.and_eq_true, beq_iff_eq] at h h' ⊢
    rcases h with h | ⟨h, h1⟩ <;> rcases h' with h' | ⟨h', h2⟩
    · exact .inl (by omega)
    · exact .inl (by omega)
    · exact .inl (by omega)
    · exact .inr ⟨by omega, leN_trans x y z h1 h2⟩
theorem leN_anti : ∀ a b : Nm, leN a b = true → leN b a = true → a = b
  | [], [], _, _ => rfl
  | [], _ :: _, _, h => by simp [leN] at h
  | _ :: _, [], h, _ => by simp [leN] at h
  | a :: x, b :: y, h, h' => by
    simp only [leN, Bool.or_eq_true, decide_eq_true_eq, Bool.and_eq_true, beq_iff_eq] at h h'
    rcases h with h | ⟨h, h1⟩ <;> rcases h' with h' | ⟨h', h2⟩
    · omega
    · omega
    · omega
    · rw [h, leN_anti x y h1 h2]
theorem leN_total : ∀ a b : Nm, leN a b = true ∨ leN b a = true
  | [], _ => .inl rfl
  | _ :: _, [] => .inr rfl
  | a :: x, b :: y => by
    simp only [leN, Bool.or_eq_true, decide_eq_true_eq, Bool.and_eq_true, beq_iff_eq]
    rcases Nat.lt_trichotomy a b with h | h | h
    · exact .inl (.inl h)
    · rcases leN_total x y with t | t
      · exact .inl (.inr ⟨h, t⟩)
      · exact .inr (.inr ⟨h.symm, t⟩)
    · exact .inr (.inl h)
theorem insN_perm (x : Nm) : ∀ l : List Nm, (insN x l).Perm (x :: l)
  | [] => .refl _
  | y :: r => by
    unfold insN
    split
    · exact .refl _
    · exact ((insN_perm x r).cons y).trans (.swap x y r)
theorem sortN_perm : ∀ l : List Nm, (sortN l).Perm l
  | [] => .refl _
  | x :: r => (insN_perm x _).trans ((sortN_perm r).cons x)
theorem insN_pw (x : Nm) : ∀ l : List Nm, l.Pairwise (fun a b => leN a b = true) → (insN x l).Pairwise (fun a b => leN a b = true)
  | [], _ => by simp [insN]
  | y :: r, h => by
    unfold insN
    rw [List.pairwise_cons] at h
    split
    · rename_i e
      rw [List.pairwise_cons]
      refine ⟨fun b hb => ?_, List.pairwise_cons.mpr h⟩
      rcases List.mem_cons.mp hb with rfl | hb
      · exact e
      · exact leN_trans _ _ _ e (h.1 b hb)
    · rename_i e
      rw [List.pairwise_cons]
      refine ⟨fun b hb => ?_, insN_pw x r h.2⟩
      rcases List.mem_cons.mp ((insN_perm x r).mem_iff.mp hb) with rfl | hb
      · exact (leN_total _ _).resolve_left e
      · exact h.1 b hb
theorem sortN_pw : ∀ l : List Nm, (sortN l).Pairwise (fun a b => leN a b = true)
  | [] => .nil
  | x :: r => insN_pw x _ (sortN_pw r)
theorem sorted_pw : ∀ ys : List Nm, sortedS (ys.map T) = true → ys.Pairwise (fun a b => leN a b = true)
  | [], _ => .nil
  | x :: r, h => by
    have go : ∀ (r : List Nm) (x : Nm), risingS (T x) (r.map T) = true → (x :: r).Pairwise (fun a b => leN a b = true) := by
      intro r
      induction r with
      | nil => intro x _; simp
      | cons y r ih =>
        intro x h
        simp only [List.map_cons, risingS, Bool.and_eq_true, Bool.not_eq_true'] at h
        have h1 : leN x y = true := by rw [leN_lt]; simpa [T] using h.1
        have h2 := ih y h.2
        rw [List.pairwise_cons]
        refine ⟨fun b hb => ?_, h2⟩
        rcases List.mem_cons.mp hb with rfl | hb
        · exact h1
        · exact leN_trans _ _ _ h1 ((List.pairwise_cons.mp h2).1 b hb)
    exact go r x h
theorem insI_perm (x : Int) : ∀ l : List Int, (insI x l).Perm (x :: l)
  | [] => .refl _
  | y :: r => by
    unfold insI
    split
    · exact .refl _
    · exact ((insI_perm x r).cons y).trans (.swap x y r)
theorem sortI_perm : ∀ l : List Int, (sortI l).Perm l
  | [] => .refl _
  | x :: r => (insI_perm x _).trans ((sortI_perm r).cons x)
theorem insI_pw (x : Int) : ∀ l : List Int, l.Pairwise (· ≤ ·) → (insI x l).Pairwise (· ≤ ·)
  | [], _ => by simp [insI]
  | y :: r, h => by
    unfold insI
    rw [List.pairwise_cons] at h
    split
    · rename_i e
      rw [List.pairwise_cons]
      refine ⟨fun b hb => ?_, List.pairwise_cons.mpr h⟩
      rcases List.mem_cons.mp hb with rfl | hb
      · exact e
      · exact Int.le_trans e (h.1 b hb)
    · rename_i e
      rw [List.pairwise_cons]
      refine ⟨fun b hb => ?_, insI_pw x r h.2⟩
      rcases List.mem_cons.mp ((insI_perm x r).mem_iff.mp hb) with rfl | hb
      · omega
      · exact h.1 b hb
theorem sortI_pw : ∀ l : List Int, (sortI l).Pairwise (· ≤ ·)
  | [] => .nil
  | x :: r => insI_pw x _ (sortI_pw r)
theorem sortI_one {ys ns : List Int} (h : ys.Perm ns) (hs : ys.Pairwise (· ≤ ·)) : ys = sortI ns :=
  List.Perm.eq_of_pairwise (le := (· ≤ ·)) (fun a b _ _ => Int.le_antisymm) hs (sortI_pw ns) (h.trans (sortI_perm ns).symm)
theorem T_perm {ys : List Str} {ns : List Nm} (h : ys.Perm (ns.map T)) : ∃ ms : List Nm, ys = ms.map T ∧ ms.Perm ns := by
  have e : ys = (ys.map fun y : Str => y.cps.toList).map T := by
    rw [List.map_map]
    have : ∀ y : Str, (T ∘ fun y : Str => y.cps.toList) y = y := fun y => rfl
    conv => lhs; rw [← List.map_id ys]
    exact List.map_congr_left fun y _ => rfl
  refine ⟨_, e, ?_⟩
  have := h.map (fun y : Str => y.cps.toList)
  rw [List.map_map] at this
  have e2 : ns.map ((fun y : Str => y.cps.toList) ∘ T) = ns := by
    conv => rhs; rw [← List.map_id ns]
    exact List.map_congr_left fun y _ => by simp [T]
  rw [e2] at this
  exact this
theorem sort_one {ys : List Str} {ns : List Nm} (h : ys.Perm (ns.map T)) (hs : sortedS ys = true) : ys = (sortN ns).map T := by
  obtain ⟨ms, rfl, hp⟩ := T_perm h
  have := List.Perm.eq_of_pairwise (le := fun a b => leN a b = true) (fun a b _ _ => leN_anti a b) (sorted_pw ms hs) (sortN_pw ns) (hp.trans (sortN_perm ns).symm)
  rw [this]
theorem strs_rel {K : PySem.W.Frag} {cA : Cfg0} {G : Hp} : ∀ {ds : List D} {vs : List V} {ns : List Nm}, RelDs K cA G ds vs → strsD ds = some ns → vs = ns.map fun n => V.str (T n)
  | [], _, _, h, e => by cases e; simp only [RelDs] at h; exact h
  | d :: ds, _, _, h, e => by
    simp only [RelDs] at h
    obtain ⟨u, r, rfl, h1, h2⟩ := h
    cases d <;> first | (simp only [strsD] at e; cases e; done) | skip
    case str b =>
      simp only [strsD, Option.map_eq_some_iff] at e
      obtain ⟨bs, e', rfl⟩ := e
      simp only [RelD] at h1
      rw [h1, strs_rel h2 e', List.map_cons]
theorem rel_strs {K : PySem.W.Frag} {cA : Cfg0} {G : Hp} : ∀ ns : List Nm, RelDs K cA G (ns.map D.str) (ns.map fun n => V.str (T n))
  | [] => by simp only [List.map_nil, RelDs]
  | n :: ns => by simp only [List.map_cons, RelDs]; exact ⟨_, _, rfl, by simp only [RelD], rel_strs ns⟩
theorem rel_ints {K : PySem.W.Frag} {cA : Cfg0} {G : Hp} : ∀ ns : List Int, RelDs K cA G (ns.map D.int) (ns.map V.int)
  | [] => by simp only [List.map_nil, RelDs]
  | n :: ns => by simp only [List.map_cons, RelDs]; exact ⟨_, _, rfl, by simp only [RelD], rel_ints ns⟩
theorem keys_str : ∀ {kvs : List (D × D)} {ns : List Nm} {K : PySem.W.Frag} {cA : Cfg0} {G : Hp} {ks : List (Key × V)}, RelKV K cA G kvs ks → strsD (kvs.map (·.1)) = some ns → ks.map (·.1) = (ns.map T).map Sum.inr
  | [], _, _, _, _, _, h, e => by cases e; simp only [RelKV] at h; subst h; rfl
  | (k, d) :: r, _, _, _, _, _, h, e => by
    simp only [RelKV] at h
    obtain ⟨kk, v, rest, rfl, h0, h1, h2⟩ := h
    cases k <;> first | (simp only [List.map_cons, strsD] at e; cases e; done) | skip
    case str b =>
      simp only [List.map_cons, strsD, Option.map_eq_some_iff] at e
      obtain ⟨bs, e', rfl⟩ := e
      simp only [keyR, Option.some.injEq] at h0
      subst h0
      simp only [List.map_cons]
      rw [keys_str h2 e']
end Ev

end

section
set_option maxRecDepth 512
set_option Elab.async false
set_option linter.all false
set_option maxRecDepth 100000
set_option maxHeartbeats 4000000
namespace Ev
open PySem L2 PySem.Spec PyProof.Rows

section
variable {X : Cx} {cA : Cfg0} {pins : List (Addr × Obj)} {σ : L2.St} {s : Shared}
theorem of_some {K : PySem.W.Frag} {W : WX} {σ : L2.St} {G : Hp} {am : List Addr} {C : Cells} {H : Hp} {α β : Type} {Rl : WRel α β} {o : Option α} {Q : β → Hp → Prop} (h : Dn K cA Rl W σ (R.of o C) G am C H Q) : ∃ a, o = some a ∧ Dn K cA Rl W σ (.ok a C) G am C H Q := by
  cases o with
  | none => exact h.elim
  | some a => exact ⟨a, rfl, h⟩
/-- a value that shows something -/
def Sees (K : PySem.W.Frag) (cA : Cfg0) (G : Hp) (am : List Addr) (C : Cells) (H : Hp) (d : D) (v : V) : Prop := Wd K cA G am C H ∧ RelS K cA G H d v
/-- what a tree-valued answer asks of Q -/
def Ans (K : PySem.W.Frag) (cA : Cfg0) (G : Hp) (am : List Addr) (C : Cells) (H : Hp) (d : D) (Q : VK) : Prop :=
  ∀ G' am' H' v, Ext G am C H G' am' C H' → Wd K cA G' am' C H' → RelD K cA G' d v → Q v H'
theorem Ans.of {W : WX} {K : PySem.W.Frag} {G : Hp} {am : List Addr} {C : Cells} {H : Hp} {d : D} {Q : VK} (h : Dn K cA (rE K cA) W σ (.ok (.v d) C) G am C H Q) : Ans K cA G am C H d Q := fun G' am' H' v x w r => h G' am' H' v x w r
/-- .. that leaves the heap -/
theorem Ans.flat {K : PySem.W.Frag} {G : Hp} {am : List Addr} {C : Cells} {H : Hp} {d : D} {Q : VK} {v : V} (h : Ans K cA G am C H d Q) (wd : Wd K cA G am C H) (r : RelD K cA G d v) : Q v H := h G am H v Ext.refl wd r
/-- .. a new tuple -/
theorem Ans.tup {K : PySem.W.Frag} {G : Hp} {am : List Addr} {C : Cells} {H : Hp} {ds : List D} {us : List V} {Q : VK} (h : Ans K cA G am C H (.tup ds) Q) (wd : Wd K cA G am C H) (r : RelDs K cA G ds us) : ∀ p, H p = none → Q (.ref p) (upd H p (.tup us)) := fun p hp => by
  obtain ⟨w, x⟩ := wd.new hp (.tup us)
  exact h _ _ _ _ x w (by simp only [RelD]; exact ⟨p, us, rfl, SqT.of upd_same, r.mono x.g⟩)
/-- .. a new list -/
theorem Ans.lst {K : PySem.W.Frag} {G : Hp} {am : List Addr} {C : Cells} {H : Hp} {ds : List D} {us : List V} {Q : VK} (h : Ans K cA G am C H (.lst ds) Q) (wd : Wd K cA G am C H) (r : RelDs K cA G ds us) : ∀ p, H p = none → Q (.ref p) (upd H p (.lst us)) := fun p hp => by
  obtain ⟨w, x⟩ := wd.new hp (.lst us)
  exact h _ _ _ _ x w (by simp only [RelD]; exact ⟨p, us, rfl, SqL.of upd_same, r.mono x.g⟩)

/-! ### list * int -/
theorem q_mul_int (l : Addr) (items : Array Value) (n : Nat) (d : Option Addr) (sl : Array (Option Value)) (x : Int) (u : Tok) (hc0 : ¬(!Builtin.List.listFitsIndex x) = true)
    (hc1 : ¬items.size * x.toNat > (2 ^ 63 - 1) / 8) (hc2 : ¬Builtin.List.listTooLong (items.size * x.toNat) = true) :
    Meets (Builtin.«list.__mul__» ⟨[.ref l, .int x u], []⟩) (fun _ R s => s.heap.get? l = some { cls := .type "list", dict := d, data := .seq items n, slots := sl } ∧ R (.ok (.ret (Value.ref s.heap.objs.size))) { s with heap := s.heap.push { cls := Value.type "list", data := Data.seq (List.foldl (fun x1 x2 => x1 ++ x2) #[] (List.replicate (if items.isEmpty = true then 0 else x.toNat) items)) }, toks := s.toks }) :=
  .of_wp fun prog w A R s h => by
    obtain ⟨hp, g, d, tk, os⟩ := s; obtain ⟨hl, h⟩ := h
    have hsz := AutoListH.joined_fits hc2
    wp_walk; refine wpAny_ite_false (decide_eq_false (Nat.not_lt.mpr hsz)) ?_; wp_walk; exact ⟨_, rfl, h⟩
theorem q_rmul_int (a : Int) (t : Tok) (l : Addr) (items : Array Value) (n : Nat) (d : Option Addr) (sl : Array (Option Value)) :
    Meets (Builtin.«int.__rmul__» ⟨[.int a t, .ref l], []⟩) (fun _ R s => s.heap.get? l = some { cls := .type "list", dict := d, data := .seq items n, slots := sl } ∧ R (.ok (.ret Value.notImplemented)) s) :=
  .of_wp fun prog w A R s h => by obtain ⟨hp, g, d, tk, os⟩ := s; obtain ⟨hl, h⟩ := h; wp_walk; exact ⟨_, rfl, h⟩
theorem RelDs.rep {K : PySem.W.Frag} {cA : Cfg0} {G : Hp} {ds : List D} {vs : List V} (h : RelDs K cA G ds vs) : ∀ n : Nat, RelDs K cA G (List.replicate n ds).flatten (List.replicate n vs).flatten
  | 0 => by simp [RelDs]
  | n + 1 => by
    rw [List.replicate_succ, List.replicate_succ, List.flatten_cons, List.flatten_cons]
    exact h.append (RelDs.rep h n)

/-! ### arithmetic -/
def bopO : Bop → Operator
  | .add => .Add
  | .sub => .Sub
  | .mul => .Mult
  | .fdiv => .FloorDiv
  | .mod => .Mod
  | .pow => .Pow
theorem T_add (a b : Nm) : T a ++ T b = T (a ++ b) := SX.S_cat a b
theorem T_len (a : Nm) : (T a).length = a.length := SX.S_len a
theorem line_eq : line = sizeLine := by rw [sizeLine_eq]
theorem op_bop (o : Bop) : OpR X (binaryOp (bopO o)) (fun x y H Q => ∃ G am C a b z, Wd X.K cA G am C H ∧ RelS X.K cA G H a x ∧ RelS X.K cA G H b y ∧ bopV o a b = some z ∧ Ans X.K cA G am C H z Q) := by
  intro pins s σ H x y v u Q I rx ry ⟨G, am, C, a, b, z, wd, ra, rb, e, q⟩
  have int : ∀ {i : Int} {v : V}, RelS X.K cA G H (.int i) v → v = .int i := fun h => by simpa only [RelS, RelD] using h
  have str : ∀ {i : Nm} {v : V}, RelS X.K cA G H (.str i) v → v = .str (T i) := fun h => by simpa only [RelS, RelD] using h
  unfold bopV at e
  split at e
  · cases e; exact op_add pins s σ H x y v u Q I rx ry ⟨_, _, int ra, int rb, q.flat wd (by simp only [RelD])⟩
  · split at e
    · rename_i hl
      cases e
      refine op_add_str pins s σ H x y v u Q I rx ry ⟨_, _, str ra, str rb, ?_, q.flat wd (by simp only [RelD, T_add])⟩
      rw [T_len, T_len, ← line_eq]; exact hl
    · cases e
  · split at e
    · rename_i hl
      cases e
      obtain ⟨p, us, rfl, h1, h2⟩ := ra
      obtain ⟨p', us', rfl, h1', h2'⟩ := rb
      cases rx
      cases ry
      obtain ⟨its, rv, pl, hz⟩ := I.list h1
      obtain ⟨its', rv', pl', hz'⟩ := I.list h1'
      have l1 := h2.length
      have l2 := h2'.length
      have l3 := rv.length
      have l4 := rv'.length
      have hsz : its.length + its'.length ≤ sizeLine := by rw [← line_eq]; omega
      obtain ⟨⟨cls, dd, data, sl⟩, ho, hc, n, hd⟩ := pl.isList
      obtain ⟨⟨cls2, dd2, data2, sl2⟩, ho2, hc2, n2, hd2⟩ := pl'.isList
      simp only at hc hd hc2 hd2
      subst hc hd hc2 hd2
      refine concat_meets ⟨_, ho, rfl⟩ ⟨_, ho2, rfl⟩ noFill_list_add seq_list_add PySem.F.slot_list_add PySem.F.entry_list_add (PySem.F.args_list_add_2 _ _) (list_addW p p' its.toArray its'.toArray n n2 dd dd2 sl sl2 (by simpa using hsz)) ⟨ho, ho2, ?_⟩
      rw [show its.toArray ++ its'.toArray = (its ++ its').toArray by simp]
      exact ⟨.ref _, _, I.lnew (t' := s.toks) (rv.append rv') (by rw [List.length_append, l3, l4]; exact hsz), rfl, q.lst wd (h2.append h2') _ I.fresh⟩
    · cases e
  · split at e
    · rename_i hl
      cases e
      simp only [RelS, RelD] at ra rb
      obtain ⟨p, us, rfl, h1, h2⟩ := ra
      obtain ⟨p', us', rfl, h1', h2'⟩ := rb
      cases rx
      cases ry
      have h1 := Same.sqt wd.sub h1
      have h1' := Same.sqt wd.sub h1'
      obtain ⟨its, rv, pl, hz⟩ := I.tuple h1
      obtain ⟨its', rv', pl', hz'⟩ := I.tuple h1'
      have l1 := h2.length
      have l2 := h2'.length
      have l3 := rv.length
      have l4 := rv'.length
      have hsz : its.length + its'.length ≤ sizeLine := by rw [← line_eq]; omega
      obtain ⟨⟨cls, dd, data, sl⟩, ho, hc, n, hd⟩ := id pl
      obtain ⟨⟨cls2, dd2, data2, sl2⟩, ho2, hc2, n2, hd2⟩ := id pl'
      simp only at hc hd hc2 hd2
      subst hc hd hc2 hd2
      by_cases e1 : its = []
      · subst e1
        refine concat_meets ⟨_, ho, rfl⟩ ⟨_, ho2, rfl⟩ noFill_tuple_add seq_tuple_add PySem.F.slot_tuple_add PySem.F.entry_tuple_add (PySem.F.args_tuple_add_2 _ _) (tuple_addW0 p p' [].toArray its'.toArray n n2 dd dd2 sl sl2 (by simp)) ⟨ho, ho2, ?_⟩
        have en := List.length_eq_zero_iff.mp (l1.trans l3)
        subst en
        exact ⟨.ref p', H, I, rfl, q.flat wd (by simp only [List.nil_append, RelD]; exact ⟨p', us', rfl, by assumption, h2'⟩)⟩
      · by_cases e2 : its' = []
        · subst e2
          refine concat_meets ⟨_, ho, rfl⟩ ⟨_, ho2, rfl⟩ noFill_tuple_add seq_tuple_add PySem.F.slot_tuple_add PySem.F.entry_tuple_add (PySem.F.args_tuple_add_2 _ _) (tuple_addW1 p p' its.toArray [].toArray n n2 dd dd2 sl sl2 (by simpa using e1) (by simp)) ⟨ho, ho2, ?_⟩
          have en := List.length_eq_zero_iff.mp (l2.trans l4)
          subst en
          exact ⟨.ref p, H, I, rfl, q.flat wd (by simp only [List.append_nil, RelD]; exact ⟨p, us, rfl, by assumption, h2⟩)⟩
        · refine concat_meets ⟨_, ho, rfl⟩ ⟨_, ho2, rfl⟩ noFill_tuple_add seq_tuple_add PySem.F.slot_tuple_add PySem.F.entry_tuple_add (PySem.F.args_tuple_add_2 _ _) (tuple_addW2 p p' its.toArray its'.toArray n n2 dd dd2 sl sl2 (by simpa using e1) (by simpa using e2) (by simpa using hsz)) ⟨ho, ho2, ?_⟩
          rw [show its.toArray ++ its'.toArray = (its ++ its').toArray by simp]
          refine ⟨.ref _, _, I.laid (t' := s.toks) (o := .tup (us ++ us')) (fun b u e => Heap.get?_push_of_some _ e) (Nat.le_refl _) ?_, rfl, q.tup wd (h2.append h2') _ I.fresh⟩
          exact ⟨by rw [List.length_append, l3, l4]; exact hsz, _, rv.append rv', ⟨_, Heap.get?_push_size _ rfl, rfl, _, rfl⟩⟩
    · cases e
  · cases e; exact op_sub pins s σ H x y v u Q I rx ry ⟨_, _, int ra, int rb, q.flat wd (by simp only [RelD])⟩
  · split at e
    · rename_i hs
      cases e
      refine op_mul pins s σ H x y v u Q I rx ry ⟨_, _, int ra, int rb, ?_, q.flat wd (by simp only [RelD])⟩
      simp only [smallI, Bool.or_eq_true, decide_eq_true_eq] at hs
      exact hs
    · cases e
  · split at e
    · rename_i x n hs
      cases e
      obtain ⟨p, us, rfl, h1, h2⟩ := ra
      obtain rfl := int rb
      cases rx
      obtain ⟨t, rfl⟩ := ry
      obtain ⟨its, rv, ⟨⟨cls, dd, data, sl⟩, nn, ho, hcc, hdn, hdd⟩, hz⟩ := I.list h1
      simp only at hcc hdd
      subst hcc hdd
      have l1 := h2.length
      have l3 := rv.length
      obtain ⟨n0, n1, n2⟩ := hs
      rw [line_eq] at n2
      have hsl := sizeLine_eq
      have hm : its.toArray.size * n.toNat ≤ sizeLine := by rw [List.size_toArray, ← l3, ← l1]; exact n2
      refine wpAny_binaryOp_repeat_ref (T := "list") (U := "int") (by decide) ⟨_, ho, rfl⟩ (fun s' => typeIs_int s' n t) noFill_list_mul PySem.F.fills_int_mul PySem.F.slot_int_rmul repeat_list PySem.F.slot_int_index.lookup
        (call_meets PySem.F.slot_int_rmul (typeIs_int s n t) PySem.F.entry_int_rmul (PySem.F.args_int_rmul_2 _ _) (q_rmul_int n t p its.toArray nn dd sl)
          ⟨ho, rfl, ⟨_, ho, rfl⟩, call_meets PySem.F.slot_list_mul ⟨_, ho, rfl⟩ PySem.F.entry_list_mul (PySem.F.args_list_mul_2 _ _)
            (q_mul_int p its.toArray nn dd sl n t (by rw [fitsIndex_both (by omega) (by omega)]; exact Bool.false_ne_true) (by omega) (by simp only [Builtin.List.listTooLong, decide_eq_true_eq]; omega))
            ⟨ho, ?_⟩⟩)
      have ee : List.foldl (fun x1 x2 => x1 ++ x2) #[] (List.replicate (if its.toArray.isEmpty = true then 0 else n.toNat) its.toArray) = (List.replicate n.toNat its).flatten.toArray := by
        have f0 : ∀ m : Nat, List.foldl (fun x1 x2 => x1 ++ x2) #[] (List.replicate m its.toArray) = (List.replicate m its).flatten.toArray := fun m => by
          have := foldl_rep its m []
          rw [List.nil_append] at this
          exact this
        rw [f0]
        cases its with
        | nil => simp
        | cons a r' => rw [if_neg (by simp)]
      rw [ee]
      exact ⟨.ref _, _, I.lnew (t' := s.toks) (rv.rep n.toNat) (by rw [PyProof.Rows.lm_len_rep_flat, Nat.mul_comm, ← l1]; exact n2), rfl, q.lst wd (h2.rep n.toNat) _ I.fresh⟩
    · cases e
  · split at e
    · rename_i hs
      cases e
      exact op_fdiv pins s σ H x y v u Q I rx ry ⟨_, _, int ra, int rb, hs, q.flat wd (by simp only [RelD])⟩
    · cases e
  · split at e
    · rename_i hs
      cases e
      exact op_mod pins s σ H x y v u Q I rx ry ⟨_, _, int ra, int rb, hs, q.flat wd (by simp only [RelD])⟩
    · cases e
  · split at e
    · rename_i hs
      cases e
      exact op_pow pins s σ H x y v u Q I rx ry ⟨_, _, int ra, int rb, hs, q.flat wd (by simp only [RelD])⟩
    · cases e
  · cases e

/-! ### comparisons -/
def copO : Cop → CmpOp
  | .eq => .Eq
  | .ne => .NotEq
  | .lt => .Lt
  | .le => .LtE
  | .gt => .Gt
  | .ge => .GtE
  | .isin => .In
  | .notin => .NotIn
theorem RelS.seq {K : PySem.W.Frag} {G H : Hp} {xs : List D} {v : V} (sb : Same G H) : RelS K cA G H (.lst xs) v → ∃ p us, v = .ref p ∧ (SqL K H p us ∨ SqT K H p us) ∧ RelDs K cA G xs us := fun ⟨p, us, e, h1, h2⟩ => ⟨p, us, e, .inl h1, h2⟩
theorem RelS.seqT {K : PySem.W.Frag} {G H : Hp} {xs : List D} {v : V} (sb : Same G H) : RelS K cA G H (.tup xs) v → ∃ p us, v = .ref p ∧ (SqL K H p us ∨ SqT K H p us) ∧ RelDs K cA G xs us := fun h => by
  simp only [RelS, RelD] at h
  obtain ⟨p, us, e, h1, h2⟩ := h
  exact ⟨p, us, e, .inr (Same.sqt sb h1), h2⟩
theorem occ_one (y : Nm) (c : Nat) : (!(Builtin.Str.occurrences (T y) (T [c]) 0 (T y).length 1).isEmpty) = decide (c ∈ y) := by
  have := StrLaws.found_one (T y) c
  simpa [T] using this
theorem dEq_rel {K : PySem.W.Frag} {G H : Hp} {a b : D} {x y : V} {z : Bool} (ra : RelS K cA G H a x) (rb : RelS K cA G H b y) (e : dEq a b = some z) :
    ∃ p q ks ls, x = .ref p ∧ y = .ref q ∧ Rd H p (.dK ks) ∧ Rd H q (.dK ls) ∧ ks.length = ls.length ∧ (∀ p ∈ ks, valV ls p.1 = some p.2 ∧ flatB p.2 = true) ∧ z = true := by
  cases a <;> cases b <;> simp only [dEq] at e <;> first | (cases e; done) | skip
  split at e
  · rename_i h
    cases e
    obtain ⟨p, ks, rfl, h1, h2⟩ := ra
    obtain ⟨q, ls, rfl, h3, h4⟩ := rb
    obtain ⟨e1, e2⟩ := eqKV_rel h2 h4 h
    exact ⟨p, q, ks, ls, rfl, rfl, h1, h3, e1, e2, rfl⟩
  · cases e
/-- a key's look in a dict that is seen -/
theorem dget_of {K : PySem.W.Frag} {cA : Cfg0} {G H : Hp} (sb : Same G H) {x y : D} {vx vy : V} {kvs : List (D × D)} (hx : x = .dct kvs) (hk : keyB y = true) (rx : RelS K cA G H x vx) (ry : RelS K cA G H y vy) :
    ∃ p ks kk, vx = .ref p ∧ vy = kV kk ∧ Rd H p (.dK ks) ∧ RelKV K cA G kvs ks ∧ keyR y = some kk := by
  subst hx
  obtain ⟨p, ks, rfl, h1, h2⟩ := rx
  have ry' : RelD K cA G y vy := by cases y <;> first | exact ry | (simp [keyB] at hk)
  obtain ⟨kk, e1, e2⟩ := keyR_rel hk ry'
  exact ⟨p, ks, kk, rfl, e2, h1, h2, e1⟩
theorem op_cop (o : Cop) (hu : X.A.units + 65 < cLine) : OpR X (compareOp (copO o)) (fun x y H Q => ∃ G am C a b z, Wd X.K cA G am C H ∧ RelS X.K cA G H a x ∧ RelS X.K cA G H b y ∧ copV o a b = some z ∧ Q (.bl z) H) := by
  intro pins s σ H x y v u Q I rx ry ⟨G, am, C, a, b, z, wd, ra, rb, e, q⟩
  have int : ∀ {i : Int} {v : V}, RelS X.K cA G H (.int i) v → v = .int i := fun h => by simpa only [RelS, RelD] using h
  have str : ∀ {i : Nm} {v : V}, RelS X.K cA G H (.str i) v → v = .str (T i) := fun h => by simpa only [RelS, RelD] using h
  unfold copV at e
  split at e
  · split at e
    · rename_i hs; cases e
      rw [Bool.and_eq_true] at hs
      exact op_eqS (cA := cA) (by omega) pins s σ H x y v u Q I rx ry ⟨G, _, _, wd.sub, ra, rb, hs.1, hs.2, q⟩
    · obtain ⟨a, b, ks, ls, e1, e2, e3, e4, e5, e6, rfl⟩ := dEq_rel ra rb e
      exact op_eq_dictR (by omega) pins s σ H x y v u Q I rx ry ⟨a, b, ks, ls, e1, e2, e3, e4, e5, e6, q⟩
  · split at e
    · rename_i hs; cases e
      rw [Bool.and_eq_true] at hs
      exact op_neS (cA := cA) (by omega) pins s σ H x y v u Q I rx ry ⟨G, _, _, wd.sub, ra, rb, hs.1, hs.2, q⟩
    · rw [Option.map_eq_some_iff] at e
      obtain ⟨w, e, rfl⟩ := e
      obtain ⟨a, b, ks, ls, e1, e2, e3, e4, e5, e6, rfl⟩ := dEq_rel ra rb e
      exact op_ne_dictR (by omega) pins s σ H x y v u Q I rx ry ⟨a, b, ks, ls, e1, e2, e3, e4, e5, e6, q⟩
  · cases e; exact op_lt pins s σ H x y v u Q I rx ry ⟨_, _, int ra, int rb, q⟩
  · cases e; exact op_le pins s σ H x y v u Q I rx ry ⟨_, _, int ra, int rb, q⟩
  · cases e; exact op_gt pins s σ H x y v u Q I rx ry ⟨_, _, int ra, int rb, q⟩
  · cases e; exact op_ge pins s σ H x y v u Q I rx ry ⟨_, _, int ra, int rb, q⟩
  · split at e
    · rename_i hs; cases e
      rw [Bool.and_eq_true] at hs
      exact op_inS (cA := cA) false hu pins s σ H x y v u Q I rx ry ⟨G, _, _, wd.sub, ra, rb.seqT wd.sub, hs.1, hs.2, q⟩
    · cases e
  · split at e
    · rename_i hs; cases e
      rw [Bool.and_eq_true] at hs
      exact op_inS (cA := cA) false hu pins s σ H x y v u Q I rx ry ⟨G, _, _, wd.sub, ra, rb.seq wd.sub, hs.1, hs.2, q⟩
    · cases e
  · cases e; exact op_in_str pins s σ H x y v u Q I rx ry ⟨_, _, str ra, str rb, by rw [occ_one]; exact q⟩
  · split at e
    · rename_i hs; cases e
      rw [Bool.and_eq_true] at hs
      exact op_inS (cA := cA) true hu pins s σ H x y v u Q I rx ry ⟨G, _, _, wd.sub, ra, rb.seqT wd.sub, hs.1, hs.2, q⟩
    · cases e
  · split at e
    · rename_i hs; cases e
      rw [Bool.and_eq_true] at hs
      exact op_inS (cA := cA) true hu pins s σ H x y v u Q I rx ry ⟨G, _, _, wd.sub, ra, rb.seq wd.sub, hs.1, hs.2, q⟩
    · cases e
  · cases e; exact op_notin_str pins s σ H x y v u Q I rx ry ⟨_, _, str ra, str rb, by rw [occ_one]; exact q⟩
  · split at e
    · rename_i hk
      cases e
      obtain ⟨p, ks, kk, rfl, e2, h1, h2, h3⟩ := dget_of wd.sub rfl hk rb ra
      obtain rfl : u = Value.ref p := ry
      refine d_in (by omega) I (.inl ⟨ks, kk, h1, e2, rfl⟩) rx fun s' I' => ⟨.bl (valV ks kk).isSome, H, I', rfl, ?_⟩
      rw [h2.isS h3]; exact q
    · cases e
  · split at e
    · rename_i hk
      cases e
      obtain ⟨p, ks, kk, rfl, e2, h1, h2, h3⟩ := dget_of wd.sub rfl hk rb ra
      obtain rfl : u = Value.ref p := ry
      refine d_notIn (by omega) I (.inl ⟨ks, kk, h1, e2, rfl⟩) rx fun s' I' => ⟨.bl (!(valV ks kk).isSome), H, I', rfl, ?_⟩
      rw [h2.isS h3]; exact q
    · cases e
  · cases e
end
end Ev

end

section
set_option maxRecDepth 512
set_option Elab.async false
set_option linter.all false
set_option maxRecDepth 100000
set_option maxHeartbeats 4000000
namespace HT
open PySem PyProof.Rows
open PySem.SeqAt
open PySem.AutoSeq1 (wpAny_loadPart')
open PySem.MeetsSeq PySem.MeetsSeq2 PySem.MeetsSeq3
section
variable {prog : Program} {w : World} {A : Around} {E : Value → Shared → Prop} {s : Shared}
/-- the whole of a tuple is the tuple -/
theorem getItem_tuple_whole {t sl : Addr} {items : Array Value} {vl vu : Value} {lo hi : Option Int} {Q : Value → Shared → Prop} (ht : IsTup s.heap t items) (hs : s.heap.IsSliceOf sl vl vu .none) (pl : IsPart vl lo) (pu : IsPart vu hi)
    (hw : sIx items.size 0 lo = 0 ∧ sIx items.size items.size hi = items.size) (h : Q (.ref t) s) : wpAny (model prog w) A (getItem (.ref t) (.ref sl)) Q E s := by
  obtain ⟨os, hos, hcs, hds⟩ := id hs
  have hTs : s.TypeIs (.ref sl) "slice" := ⟨os, hos, hcs⟩
  unfold getItem
  try with_reducible refine wpAny_holding ?_
  first | refine wpAny_bind (wpAny_pure ?_) | skip
  refine wpAny_bind (wpAny_sequenceKey ht.typeIs (by decide) ?_)
  refine wpAny_bind (wpAny_callSpecial?_slot (name := Str.ofString "__getitem__") ht.typeIs PyProof.Rows.slot_tuple_getitem
    (wpAny_call_entry PyProof.Rows.slot_tuple_getitem ht.typeIs entry_tuple_getitem ?_ (args_tuple_getitem _ _)))
  show wpAny _ _ (Builtin.Tuple.tupleItemsOf (.ref t) >>= _) _ _ s
  refine wpAny_bind (tupleItemsOf_ ht ?_)
  refine wpAny_bind (wpAny_typeOf hTs ?_)
  rw [if_pos (by decide)]
  refine wpAny_bind (sliceApplied_gen hs pl pu ?_)
  have hyes : ((((sIx items.size 0 lo : Nat) : Int) == 0 && (1 : Int) == 1 && (sIx items.size items.size hi - sIx items.size 0 lo) == items.size) = true) := by
    rw [hw.1, hw.2]
    simp
  show wpAny _ _ (if (((sIx items.size 0 lo : Nat) : Int) == 0 && (1 : Int) == 1 && (sIx items.size items.size hi - sIx items.size 0 lo) == items.size) = true then _ else _) _ _ s
  rw [if_pos hyes]
  refine wpAny_bind (m := Builtin.Tuple.tupleIsExact (.ref t)) ?_
  unfold Builtin.Tuple.tupleIsExact
  refine wpAny_bind (wpAny_typeOf ht.typeIs (wpAny_pure ?_))
  rw [if_pos (by decide)]
  first
    | exact wpAny_rule (wpAny_pure ⟨_, rfl, wpAny_pure h⟩)
    | exact wpAny_bind (wpAny_rule (wpAny_pure ⟨_, rfl, wpAny_pure h⟩))
    | exact wpAny_bind (wpAny_rule (wpAny_bind (wpAny_pure (wpAny_pure ⟨_, rfl, wpAny_pure h⟩))))
end
end HT
namespace Ev
open PySem L2 PySem.Spec PyProof.Rows

section
variable {X : Cx} {cA : Cfg0} {pins : List (Addr × Obj)} {σ : L2.St} {s : Shared}
/-! ### a[i] -/
theorem ixN_eq (n : Nat) (i : Int) : Ev.ixN n i = L2.ixN n i := rfl
theorem atD_get {K : PySem.W.Frag} {G : Hp} {xs : List D} {us : List V} {i : Int} {z : D} (r : RelDs K cA G xs us) (h : atD xs i = some z) : ∃ v, atI us i = some v ∧ RelD K cA G z v := by
  unfold atD at h
  cases e : Ev.ixN xs.length i with
  | none => rw [e] at h; cases h
  | some j =>
    rw [e] at h
    obtain ⟨v, h1, h2⟩ := r.get (i := j) h
    refine ⟨v, ?_, h2⟩
    unfold atI
    rw [← r.length, ← ixN_eq, e]
    exact h1
theorem ix_ok : IxR X (fun x y H Q => ∃ G am C a b z, Wd X.K cA G am C H ∧ RelS X.K cA G H a x ∧ RelS X.K cA G H b y ∧ idxV a b = some z ∧ Ans X.K cA G am C H z Q) := by
  intro value slice pins s σ H x y v u Q I rx ry ⟨G, am, C, a, b, z, wd, ra, rb, e, q⟩ hs
  have int : ∀ {i : Int} {v : V}, RelS X.K cA G H (.int i) v → v = .int i := fun h => by simpa only [RelS, RelD] using h
  unfold idxV at e
  split at e
  · simp only [RelS, RelD] at ra
    obtain ⟨p, us, rfl, h1, h2⟩ := ra
    obtain ⟨w, e1, e2⟩ := atD_get h2 e
    exact ix_tup value slice pins s σ H _ y v u Q I rx ry ⟨p, us, _, w, rfl, int rb, Same.sqt wd.sub h1, e1, q.flat wd e2⟩ hs
  · obtain ⟨p, us, rfl, h1, h2⟩ := ra
    obtain ⟨w, e1, e2⟩ := atD_get h2 e
    exact ix_list value slice pins s σ H _ y v u Q I rx ry ⟨p, us, _, w, rfl, int rb, h1, e1, q.flat wd e2⟩ hs
  · split at e
    · rename_i hl
      have e' := e
      simp only [RelS, RelD] at ra
      subst ra
      cases ej : Ev.ixN _ _ with
      | none => rw [ej] at e'; cases e'
      | some j =>
        rw [ej] at e'
        simp only [Option.bind_some, Option.map_eq_some_iff] at e'
        obtain ⟨c, hc, rfl⟩ := e'
        refine ix_str value slice pins s σ H _ y v u Q I rx ry ⟨_, _, c, rfl, int rb, by rw [T_len, ← line_eq]; exact hl, ?_, q.flat wd (by simp only [RelD])⟩ hs
        unfold atI
        rw [show (T _).cps.toList = _ from rfl, ← ixN_eq, ej]
        exact hc
    · cases e
  · cases e

/-! ### slices -/
theorem sIx_eq : Ev.sIx = HT.sIx := by
  funext n d o
  cases o <;> rfl
theorem cut_rel {K : PySem.W.Frag} {G : Hp} {xs : List D} {us : List V} (r : RelDs K cA G xs us) (lo hi : Option Int) : RelDs K cA G (cutL xs lo hi) (cutV us lo hi) := by
  unfold cutL cutV
  rw [← r.length, sIx_eq]
  exact (r.drop _).take _
theorem sl_ok : SlR X (fun x lo hi H Q => ∃ G am C a z, Wd X.K cA G am C H ∧ RelS X.K cA G H a x ∧ slV a lo hi = some z ∧ Ans X.K cA G am C H z Q) := by
  intro pins s σ H x v vl vu lo hi sl Q I rx hs pl pu ⟨G, am, C, a, z, wd, ra, e, q⟩
  unfold slV at e
  split at e
  · rename_i _ _ xs
    cases e
    simp only [RelS, RelD] at ra
    obtain ⟨p, us, rfl, h1, h2⟩ := ra
    by_cases hw : HT.sIx us.length 0 lo = 0 ∧ HT.sIx us.length us.length hi = us.length
    · cases rx
      have h1' := Same.sqt wd.sub h1
      obtain ⟨its, r, ht, hz⟩ := I.tuple h1'
      have hlen : its.toArray.size = us.length := by rw [List.size_toArray]; exact r.length.symm
      refine ⟨"tuple", _, PyProof.Rows.slot_tuple_getitem.lookup, ht.typeIs, ?_⟩
      refine HT.getItem_tuple_whole ht hs pl pu (by rw [hlen]; exact hw) ⟨.ref p, H, I, rfl, q.flat wd ?_⟩
      have e1 : cutL xs lo hi = xs := by
        unfold cutL
        rw [h2.length, sIx_eq, hw.1, hw.2, List.drop_zero, Nat.sub_zero, ← h2.length, List.take_length]
      rw [e1]
      simp only [RelD]
      exact ⟨p, us, rfl, h1, h2⟩
    · exact sl_tup pins s σ H _ v vl vu lo hi sl Q I rx hs pl pu ⟨p, us, rfl, Same.sqt wd.sub h1, hw, q.tup wd (cut_rel h2 lo hi)⟩
  · cases e
    obtain ⟨p, us, rfl, h1, h2⟩ := ra
    exact sl_list pins s σ H _ v vl vu lo hi sl Q I rx hs pl pu ⟨p, us, rfl, h1, q.lst wd (cut_rel h2 lo hi)⟩
  · split at e
    · rename_i hl
      cases e
      simp only [RelS, RelD] at ra
      subst ra
      refine sl_str pins s σ H _ v vl vu lo hi sl Q I rx hs pl pu ⟨_, rfl, by rw [T_len, ← line_eq]; exact hl, ?_⟩
      refine q.flat wd ?_
      simp only [RelD]
      unfold cutS cutL
      rw [T_len, sIx_eq]
    · cases e
  · cases e

/-! ### truth -/
theorem tru_rel {G H : Hp} {d : D} {v : V} {b : Bool} (sb : Same G H) (r : RelS X.K cA G H d v) (e : truV d = some b) : TruV X.K v H b := by
  cases d with
  | non => simp only [RelS, RelD] at r; subst r; cases e; rfl
  | bl c => simp only [RelS, RelD] at r; subst r; cases e; rfl
  | int i => simp only [RelS, RelD] at r; subst r; cases e; rfl
  | str x =>
    simp only [RelS, RelD] at r; subst r
    simp only [truV] at e
    split at e
    · rename_i hl
      cases e
      refine ⟨by rw [T_len, ← line_eq]; exact hl, ?_⟩
      rw [T_len]
      cases x with
      | nil => rfl
      | cons a r =>
        have : ((a :: r).length : Int) ≠ 0 := by simp; omega
        rw [bne_iff_ne.mpr this]
        rfl
    · cases e
  | tup xs =>
    simp only [RelS, RelD] at r
    obtain ⟨p, us, rfl, h1, h2⟩ := r
    cases e
    refine .inr (.inl ⟨us, Same.sqt sb h1, ?_⟩)
    have l := h2.length
    cases xs <;> cases us <;> simp_all
  | lst xs =>
    obtain ⟨p, us, rfl, h1, h2⟩ := r
    cases e
    refine .inl ⟨us, h1, ?_⟩
    have l := h2.length
    cases xs <;> cases us <;> simp_all
  | dct kvs => cases e
  | ins c fs => cases e

/-! ### built-in functions of values -/
def RelSs (K : PySem.W.Frag) (cA : Cfg0) (G H : Hp) : List D → List V → Prop
  | [], vs => vs = []
  | d :: ds, vs => ∃ v r, vs = v :: r ∧ RelS K cA G H d v ∧ RelSs K cA G H ds r
theorem sees_rel {K : PySem.W.Frag} {G : Hp} {am : List Addr} {C : Cells} {H : Hp} (wd : Wd K cA G am C H) : ∀ {es : List E} {vs : List V} {ds : List D}, RelEs K cA G am es vs → sees C es = some ds → RelSs K cA G H ds vs
  | [], vs, ds, h, e => by cases e; exact h
  | x :: xs, vs, ds, h, e => by
    obtain ⟨v, r, rfl, h1, h2⟩ := h
    simp only [sees] at e
    cases e1 : see C x with
    | none => rw [e1] at e; cases e
    | some d =>
      cases e2 : sees C xs with
      | none => rw [e1, e2] at e; cases e
      | some ds' =>
        rw [e1, e2] at e; cases e
        exact ⟨v, r, rfl, see_rel wd h1 e1, sees_rel wd h2 e2⟩
theorem vals_rel {K : PySem.W.Frag} {G : Hp} {am : List Addr} : ∀ {es : List E} {vs : List V} {ds : List D}, RelEs K cA G am es vs → vals es = some ds → RelDs K cA G ds vs
  | [], vs, ds, h, e => by cases e; simp only [RelDs]; exact h
  | .v d :: xs, vs, ds, h, e => by
    obtain ⟨v, r, rfl, h1, h2⟩ := h
    simp only [vals, Option.map_eq_some_iff] at e
    obtain ⟨ds', e', rfl⟩ := e
    simp only [RelDs]
    exact ⟨v, r, rfl, h1, vals_rel h2 e'⟩
  | .r n :: xs, vs, ds, h, e => by cases e
  | .clo n :: xs, vs, ds, h, e => by cases e
  | .exn n _ :: xs, vs, ds, h, e => by cases e
theorem bools_rel {K : PySem.W.Frag} {G : Hp} : ∀ {ds : List D} {vs : List V} {bs : List Bool}, RelDs K cA G ds vs → bools ds = some bs → vs = bs.map V.bl
  | [], _, _, h, e => by cases e; simp only [RelDs] at h; exact h
  | d :: ds, _, _, h, e => by
    simp only [RelDs] at h
    obtain ⟨u, r, rfl, h1, h2⟩ := h
    cases d <;> first | (simp only [bools] at e; cases e; done) | skip
    case bl b =>
      simp only [bools, Option.map_eq_some_iff] at e
      obtain ⟨bs, e', rfl⟩ := e
      simp only [RelD] at h1
      rw [h1, bools_rel h2 e', List.map_cons]
theorem ints_rel {K : PySem.W.Frag} {G : Hp} : ∀ {ds : List D} {vs : List V} {bs : List Int}, RelDs K cA G ds vs → intsD ds = some bs → vs = bs.map V.int
  | [], _, _, h, e => by cases e; simp only [RelDs] at h; exact h
  | d :: ds, _, _, h, e => by
    simp only [RelDs] at h
    obtain ⟨u, r, rfl, h1, h2⟩ := h
    cases d <;> first | (simp only [intsD] at e; cases e; done) | skip
    case int b =>
      simp only [intsD, Option.map_eq_some_iff] at e
      obtain ⟨bs, e', rfl⟩ := e
      simp only [RelD] at h1
      rw [h1, ints_rel h2 e', List.map_cons]
def biN : Bi → String
  | .len => "len"
  | .int => "int"
  | .list => "list"
  | .tuple => "tuple"
  | .any => "any"
  | .all => "all"
  | .max => "max"
  | .min => "min"
  | .sum => "sum"
  | .sorted => "sorted"
  | .keys => "list"
def biF : Bi → Value
  | .int => .type "int"
  | .list => .type "list"
  | .tuple => .type "tuple"
  | .keys => .type "list"
  | b => .builtin (biN b)
theorem biBoot (b : Bi) : bootBuiltins (biN b) = some (biF b) := by
  cases b
  · exact PySem.boot_len
  · exact PyProof.Rows.boot_int
  · exact PyProof.Rows.boot_list
  · exact PyProof.Rows.boot_tuple
  · exact PyProof.Rows.boot_any
  · exact PyProof.Rows.boot_all
  · exact PyProof.Rows.boot_max
  · exact PyProof.Rows.boot_min
  · exact PyProof.Rows.boot_sum
  · exact PyProof.Rows.boot_sorted
  · exact PyProof.Rows.boot_list
/-- which are known where an exception is handled -/
def biHot : Bi → Bool
  | .any | .all | .max | .min | .sum | .sorted | .keys => false
  | _ => true
def rBi (X : Cx) (cA : Cfg0) (b : Bi) : List V → Hp → VK → Prop := fun xs H Q => ∃ G am C ds z, Wd X.K cA G am C H ∧ RelSs X.K cA G H ds xs ∧ biV b ds = some z ∧ Ans X.K cA G am C H z Q
theorem bi_ok (b : Bi) (hc : biHot b = true ∨ X.calm = true) : CallR X (biF b) (rBi X cA b) := by
  intro pins s σ H xs us Q I rs ⟨G, am, C, ds, z, wd, r, e, q⟩
  have one : ∀ {d : D}, RelSs X.K cA G H [d] xs → ∃ v, xs = [v] ∧ RelS X.K cA G H d v := fun h => by
    obtain ⟨v, rr, e1, h1, h2⟩ := h
    exact ⟨v, by rw [e1, show rr = [] from h2], h1⟩
  have two : ∀ {d d' : D}, RelSs X.K cA G H [d, d'] xs → ∃ v v', xs = [v, v'] ∧ RelS X.K cA G H d v ∧ RelS X.K cA G H d' v' := fun h => by
    obtain ⟨v, rr, e1, h1, v', r', e2, h2, h3⟩ := h
    exact ⟨v, v', by rw [e1, e2, show r' = [] from h3], h1, h2⟩
  have int : ∀ {i : Int} {v : V}, RelS X.K cA G H (.int i) v → v = .int i := fun h => by simpa only [RelS, RelD] using h
  unfold biV at e
  split at e
  · cases e
    obtain ⟨v, rfl, h⟩ := one r
    simp only [RelS, RelD] at h
    obtain ⟨p, us', rfl, h1, h2⟩ := h
    exact call_len_seq pins s σ H _ us Q I rs ⟨p, us', rfl, .inr (Same.sqt wd.sub h1), q.flat wd (by simp only [RelD]; rw [h2.length])⟩
  · cases e
    obtain ⟨v, rfl, h⟩ := one r
    obtain ⟨p, us', rfl, h1, h2⟩ := h
    exact call_len_seq pins s σ H _ us Q I rs ⟨p, us', rfl, .inl h1, q.flat wd (by simp only [RelD]; rw [h2.length])⟩
  · split at e
    · rename_i hl
      cases e
      obtain ⟨v, rfl, h⟩ := one r
      simp only [RelS, RelD] at h; subst h
      exact call_len_str pins s σ H _ us Q I rs ⟨_, rfl, by rw [T_len, ← line_eq]; exact hl, q.flat wd (by simp only [RelD]; rw [T_len])⟩
    · cases e
  · cases e
    obtain ⟨v, rfl, h⟩ := one r
    have h := int h; subst h
    exact call_int1 pins s σ H _ us Q I rs (.inl ⟨_, rfl, q.flat wd (by simp only [RelD])⟩)
  · cases e
    obtain ⟨v, rfl, h⟩ := one r
    simp only [RelS, RelD] at h; subst h
    exact call_int1 pins s σ H _ us Q I rs (.inr ⟨_, rfl, q.flat wd (by simp only [RelD])⟩)
  · cases e
    obtain ⟨v, rfl, h⟩ := one r
    simp only [RelS, RelD] at h
    obtain ⟨p, us', rfl, h1, h2⟩ := h
    exact call_list_of pins s σ H _ us Q I rs ⟨p, us', rfl, .inr (Same.sqt wd.sub h1), q.lst wd h2⟩
  · cases e
    obtain ⟨v, rfl, h⟩ := one r
    obtain ⟨p, us', rfl, h1, h2⟩ := h
    exact call_list_of pins s σ H _ us Q I rs ⟨p, us', rfl, .inl h1, q.lst wd h2⟩
  · cases e
    obtain ⟨v, rfl, h⟩ := one r
    have h' := h
    simp only [RelS, RelD] at h
    obtain ⟨p, us', rfl, h1, h2⟩ := h
    refine call_tuple_of pins s σ H _ us Q I rs ⟨p, us', rfl, .inr ⟨Same.sqt wd.sub h1, q.flat wd h'⟩⟩
  · cases e
    obtain ⟨v, rfl, h⟩ := one r
    obtain ⟨p, us', rfl, h1, h2⟩ := h
    exact call_tuple_of pins s σ H _ us Q I rs ⟨p, us', rfl, .inl ⟨h1, q.tup wd h2⟩⟩
  · simp only [Option.map_eq_some_iff] at e
    obtain ⟨bs, e, rfl⟩ := e
    obtain ⟨v, rfl, h⟩ := one r
    obtain ⟨p, us', rfl, h1, h2⟩ := h
    have hb := bools_rel h2 e; subst hb
    exact cr_any (hc.resolve_left (by decide)) pins s σ H _ us Q I rs ⟨p, bs, rfl, h1, q.flat wd (by simp only [RelD])⟩
  · simp only [Option.map_eq_some_iff] at e
    obtain ⟨bs, e, rfl⟩ := e
    obtain ⟨v, rfl, h⟩ := one r
    obtain ⟨p, us', rfl, h1, h2⟩ := h
    have hb := bools_rel h2 e; subst hb
    exact cr_all (hc.resolve_left (by decide)) pins s σ H _ us Q I rs ⟨p, bs, rfl, h1, q.flat wd (by simp only [RelD])⟩
  · cases e
    obtain ⟨v, v', rfl, h, h'⟩ := two r
    have h := int h; subst h
    have h' := int h'; subst h'
    exact call_max2 (hc.resolve_left (by decide)) pins s σ H _ us Q I rs ⟨_, _, rfl, q.flat wd (by simp only [RelD])⟩
  · cases e
    obtain ⟨v, v', rfl, h, h'⟩ := two r
    have h := int h; subst h
    have h' := int h'; subst h'
    exact call_min2 (hc.resolve_left (by decide)) pins s σ H _ us Q I rs ⟨_, _, rfl, q.flat wd (by simp only [RelD])⟩
  · simp only [Option.map_eq_some_iff] at e
    obtain ⟨bs, e, rfl⟩ := e
    obtain ⟨v, rfl, h⟩ := one r
    obtain ⟨p, us', rfl, h1, h2⟩ := h
    have hb := ints_rel h2 e; subst hb
    exact cr_sum (hc.resolve_left (by decide)) pins s σ H _ us Q I rs ⟨p, bs, rfl, h1, q.flat wd (by simp only [RelD])⟩
  · cases e
    obtain ⟨v, rfl, h⟩ := one r
    obtain ⟨p, ks, rfl, h1, h2⟩ := h
    obtain ⟨u, rfl, ru⟩ := vals1 rs
    cases ru
    exact d_len I h1 fun t s' I' => ⟨.int ks.length, H, I', ⟨t, rfl⟩, q.flat wd (by simp only [RelD]; rw [h2.length])⟩
  · cases e
    obtain ⟨v, rfl, h⟩ := one r
    obtain ⟨p, ks, rfl, h1, h2⟩ := h
    exact call_listD (hc.resolve_left (by decide)) pins s σ H _ us Q I rs ⟨p, ks, rfl, h1, q.lst wd h2.keys⟩
  · simp only [Option.bind_eq_some_iff] at e
    obtain ⟨ns, e, e2⟩ := e
    split at e2
    · rename_i hl
      cases e2
      obtain ⟨v, rfl, h⟩ := one r
      obtain ⟨p, ks, rfl, h1, h2⟩ := h
      refine call_sortedD (hc.resolve_left (by decide)) pins s σ H _ us Q I rs ⟨p, ks, ns.map T, rfl, h1, keys_str h2 e, by simpa using hl, fun ys p2 g1 g2 g3 => ?_⟩
      rw [sort_one g1 g2, List.map_map]
      exact q.lst wd (rel_strs _) p2 g3
    · cases e2
  · split at e
    · rename_i hl
      obtain ⟨v, rfl, h⟩ := one r
      obtain ⟨p, us', rfl, h1, h2⟩ := h
      unfold sortV at e
      split at e
      · rename_i ns e1
        cases e
        have hb := strs_rel h2 e1
        refine cr_sortedS pins s σ H _ us Q I rs ⟨p, ns.map T, rfl, by rw [List.map_map]; rw [hb] at h1; exact h1, by rw [List.length_map]; rw [h2.length, hb, List.length_map] at hl; exact hl, fun ys p2 g1 g2 g3 => ?_⟩
        rw [sort_one g1 g2, List.map_map]
        exact q.lst wd (rel_strs _) p2 g3
      · simp only [Option.map_eq_some_iff] at e
        obtain ⟨ns, e1, rfl⟩ := e
        have hb := ints_rel h2 e1
        refine cr_sorted pins s σ H _ us Q I rs ⟨p, ns, rfl, by rw [hb] at h1; exact h1, by rw [h2.length, hb, List.length_map] at hl; exact hl, fun ys p2 g1 g2 g3 => ?_⟩
        rw [sortI_one g1 g2]
        exact q.lst wd (rel_ints _) p2 g3
    · cases e
  · cases e
end
end Ev

end

section
set_option maxRecDepth 512
set_option Elab.async false
set_option linter.all false
set_option maxRecDepth 100000
set_option maxHeartbeats 4000000
namespace Ev
open PySem L2 PySem.Spec PyProof.Rows

/-! ### what the text looks like -/
structure Tab where
  fn : List Nm
  cl : List Nm
  gl : List Nm
  gd : List Nm
structure Sx where
  N : List Nm
  sc : Scope
  hot : Bool
  top : Bool
  lam : Bool
  exc : Bool
  st : List Nm
def plainX : Expr → Bool
  | .Starred .. => false
  | .Slice .. => false
  | .Set .. => false
  | .NamedExpr .. => false
  | _ => true
def attrX : Expr → Bool
  | .Call (.Name _ _) [] [] _ => false
  | _ => true
def noComp : Expr → Bool
  | .ListComp .. => false
  | .SetComp .. => false
  | .DictComp .. => false
  | _ => true
def testX : Expr → Bool
  | .UnaryOp .Not _ _ => false
  | .BoolOp .. => false
  | .IfExp .. => false
  | .Compare .. => false
  | _ => true
theorem star_cons {e : Expr} {es : List Expr} {env : PySem.Env} (h : plainX e = true) : starEach (e :: es) env = (false, eval e env) :: starEach es env := by
  cases e <;> first | rfl | (simp [plainX] at h)
theorem star_any0 {pos : Pos} {env : PySem.Env} : ∀ {es : List Expr}, es.all plainX = true → (backTo pos (starEach es env)).any (·.1) = false
  | [], _ => rfl
  | e :: es, h => by
    rw [List.all_cons, Bool.and_eq_true] at h
    rw [star_cons h.1]
    exact star_any0 h.2
theorem attr_base {e : Expr} {a : Str} {env : PySem.Env} {whole : Sem Value} (h : attrX e = true) : attributeBase e a env whole = whole := by
  unfold attributeBase
  split
  · simp [attrX] at h
  · rfl
theorem sw_plain {e : Expr} {t : Option Expr} {l : Nat} {env : PySem.Env} (h : noComp e = true) : swapsWith e t l env = pure false := by
  cases e <;> first | rfl | (simp [noComp] at h)
theorem ix_plain {e : Expr} (h : plainX e = true) : PlainIx e := by
  intro o i
  cases e <;> first | rfl | (simp [plainX] at h)
theorem test_plain {e : Expr} {env : PySem.Env} (h : testX e = true) : ∀ whole, isTrue e env whole = (do let v ← whole; standAt e.pos; holding [v] (truthy v)) := by
  intro whole
  cases e with
  | UnaryOp op x p => cases op <;> first | rfl | (simp [testX] at h)
  | BoolOp => simp [testX] at h
  | IfExp => simp [testX] at h
  | Compare => simp [testX] at h
  | _ => rfl
theorem folded_plain {e : Expr} {env : PySem.Env} (h : plainX e = true) : ∀ x, foldedSetIterable e env x = pure x := by
  intro x
  cases e <;> first | rfl | (simp [plainX] at h)

def nmAt (N : List Nm) (i : Nat) (x : Str) : Bool := decide (N[i]?.map T = some x)
def visB (sc : Scope) (x : Str) : Bool := match sc.names.lookup x with
  | some .local => true
  | some .cell => true
  | some .free => true
  | _ => false
def nmOk (x : Str) : Bool := !(x == ("__debug__" : Str)) && !(x == ("__classdict__" : Str)) && decide (x ≠ "__name__")
def glB (sc : Scope) (x : Str) : Bool := decide (sc.names.lookup x = some .globalImplicit) && nmOk x
theorem visB_ok {sc : Scope} {x : Str} (h : visB sc x = true) : Vis sc x := by
  unfold visB at h
  split at h
  · exact .inl (by assumption)
  · exact .inr (.inl (by assumption))
  · exact .inr (.inr (by assumption))
  · cases h

/-! ### a context that bears the evaluator's readings -/
structure Gd (sx : Sx) (k : Nat) (W : WX) (X : Cx) : Prop where
  N : X.N = sx.N.map T
  nd : X.N.Nodup
  sc : X.env.scope = sx.sc
  un : X.A.units + 65 < cLine
  tk : Takes X W
  calm : sx.hot = false → X.calm = true
  room : sx.hot = false → Room (k + 1) X.A
  top : sx.top = true → X.stack = X.env :: X.outer ∧ X.env.frame = some X.env.locals
  own : sx.top = true → sx.hot = false → PassesOwn (model X.prog X.w) X.A X.env X.xe
  stb : ∀ x ∈ sx.st, Loc X.env.scope (T x) ∧ (X.fn (T x) = true ∨ X.env.scope.names.lookup (T x) = some .local)
theorem Gd.at {sx : Sx} {k : Nat} {W : WX} {X : Cx} (g : Gd sx k W X) {i : Nat} {x : Str} (h : nmAt sx.N i x = true) : X.N[i]? = some x := by
  unfold nmAt at h
  rw [g.N, List.getElem?_map]
  exact of_decide_eq_true h
theorem Gd.gl {sx : Sx} {k : Nat} {W : WX} {X : Cx} (g : Gd sx k W X) {x : Str} (h : glB sx.sc x = true) : Gl X x ∧ (x == ("__debug__" : Str)) = false ∧ x ≠ "__name__" := by
  unfold glB nmOk at h
  simp only [Bool.and_eq_true, Bool.not_eq_true', decide_eq_true_eq] at h
  refine ⟨?_, h.2.1.1, h.2.2⟩
  show X.env.scope.names.lookup x = _
  rw [g.sc]; exact h.1

/-- what a def of the text promises: what the evaluator's call says -/
def spF (K : PySem.W.Frag) (cA : Cfg0) (call : Nat → List E → Cells → R E) (f : Nat) : Sp := fun vs H Q Ex =>
  ∃ es G am C, Wd K cA G am C H ∧ RelEs K cA G am es vs ∧ Dn K cA (rE K cA) (fun cls dd _ H => Ex cls dd H) [] (call f es C) G am C H Q
/-- __init__ of an own exception: it keeps what it is given, by the names fl -/
def spI (C : Addr) (fl : List Nm) : Sp := fun vs H Q _ => ∃ a xs, vs = .ref a :: xs ∧ xs.length = fl.length ∧ fl ≠ [] ∧ H a = some (L2.exo a C none) ∧
  ∀ dx, H dx = none → dx ≠ a → Q .non (L2.upd (L2.upd H dx (L2.exd dx ((fl.map T).zip xs).reverse)) a (L2.exo a C (some dx)))
structure Facts (P : Program) (w : World) (K : PySem.W.Frag) (mg : Str → Option Value) (base : Heap) (cA : Cfg0) (pr : Prog) (tb : Tab) (k : Nat) (call : Nat → List E → Cells → R E) : Prop where
  fn : ∀ (f : Nat) (nm : Nm), tb.fn[f]? = some nm → nm ≠ [] → ∃ fa fd ps, mg (T nm) = some (.ref fa) ∧ PySem.W.keepIn K (.ref fa) = true ∧ Binds K fd ps [] ∧ FnOk P w K mg base (L2.CX P w) k fa fd ps (spF K cA call f)
  bi : ∀ b : Bi, mg (biN b) = none
  cn : ∀ (c : Nat) (nm : Nm), tb.cl[c]? = some nm → nm ≠ [] → ∃ C, cA.cls c = some C ∧ mg (T nm) = some (.ref C)
  /-- the classes that may be raised -/
  xr : ∀ (c : Nat) (cl : Cl) (C : Addr), pr.cls[c]? = some cl → cl.exn = true → cl.flds ≠ [] → cA.cls c = some C → L2.OexC K C ∧ L2.XfC K C ∧ cl.flds.Nodup ∧ (∀ f ∈ cl.flds, PySem.W.findIn K (.ref C) (T f) = some none) ∧
    ∃ fI fd ps, PySem.W.findIn K (.ref C) "__init__" = some (some (.ref fI)) ∧ PySem.W.typeIn K (.ref fI) = some (.type "function") ∧ Binds K fd ps [] ∧ FnOk P w K mg base (L2.CX P w) k fI fd ps (spI C cl.flds)
  xm : ∀ (c d : Nat) (cl : Cl) (C D : Addr), pr.cls[d]? = some cl → cl.exn = true → cA.cls c = some C → cA.cls d = some D → PySem.W.exmOne K (.ref C) (.ref D) = some (under pr c d)
  /-- own classes whose instances are made -/
  oc : ∀ (c : Nat) (cl : Cl) (C : Addr), pr.cls[c]? = some cl → cl.exn = false → cA.cls c = some C → Cls K C ∧ ∀ f ∈ cl.flds, NoAttr K C (T f)
  ki : ∀ (c : Nat) (cl : Cl) (C : Addr), pr.cls[c]? = some cl → cl.exn = false → cA.cls c = some C → PySem.W.findIn K (.ref C) "__class__" = some (some (.builtin "object.__class__")) ∧ PySem.W.specialIn K (.builtin "object.__class__") "__get__" = some (some (.builtin "getset_descriptor.__get__")) ∧
    PySem.W.takesIn K (.builtin "object.__class__") = some true ∧ PySem.W.mroIn K C (.type "object") = some true ∧ ∀ n ∈ (["NoneType", "bool", "int", "str", "tuple", "list"] : List String), PySem.W.kitOne K (.type n) (.ref C) = some false
  ne : ∀ (c : Nat) (cl : Cl) (C : Addr), pr.cls[c]? = some cl → cl.exn = false → cA.cls c = some C → PySem.W.findIn K (.ref C) "__ne__" = some (some (.builtin "object.__ne__"))
  kk : ∀ (c c' : Nat) (cl cl' : Cl) (C C' : Addr), pr.cls[c]? = some cl → cl.exn = false → cA.cls c = some C → pr.cls[c']? = some cl' → cl'.exn = false → cA.cls c' = some C' → PySem.W.kitOne K (.ref C') (.ref C) = some (c' == c)
  mak : ∀ (c : Nat) (cl : Cl) (C : Addr) (f : Nat), pr.cls[c]? = some cl → cl.exn = false → cl.init = some f → cA.cls c = some C → ∃ fI fd ps, Mk K C fI ∧ Binds K fd ps [] ∧ FnOk P w K mg base (L2.CX P w) k fI fd ps (spF K cA call f)
  me : ∀ (c : Nat) (cl : Cl) (C : Addr) (m : Nm) (f : Nat), pr.cls[c]? = some cl → cl.exn = false → lookM m cl.ms = some f → cA.cls c = some C → ∃ fm fd ps, Meth K C (T m) fm ∧ Binds K fd ps [] ∧ FnOk P w K mg base (L2.CX P w) k fm fd ps (spF K cA call f)
  isi : mg "isinstance" = none
  ty : ∀ x ∈ (["str", "int", "bool", "list", "tuple", "dict"] : List Str), mg x = none
  range : mg "range" = none
  enum : mg "enumerate" = none
  zip : mg "zip" = none
  gl : ∀ (g : Nat) (nm : Nm) (d : D), tb.gl[g]? = some nm → pr.globs[g]? = some d → ∃ u v, mg (T nm) = some u ∧ RelV v u ∧ RelD K cA (fun _ => none) d v
  /-- the dicts of the top -/
  gd : ∀ (g : Nat) (nm : Nm) (kvs : List (Nm × D)), tb.gd[g]? = some nm → pr.gd[g]? = some kvs → ∃ a es n, mg (T nm) = some (.ref a) ∧ L2.KDict K w a es n ∧ ∀ s : Nm, (∃ d u v, lookS s kvs = some d ∧ PySem.W.nsIn K a (T s) = some (some u) ∧ RelV v u ∧ RelD K cA (fun _ => none) d v) ∨ (lookS s kvs = none ∧ PySem.W.nsIn K a (T s) = some none)

/-! ### the readings' laws -/
section
variable {K : PySem.W.Frag} {cA : Cfg} {W : WX} {σ : L2.St} {H : Hp} {Q : VK}
theorem tE_two {fa fb : Env → Cells → R E} {g : E → E → Cells → R E} (h : tE K cA W (fun env C => (fa env C).bind fun x C => (fb env C).bind fun y C => g x y C) σ H Q) :
    tE K cA W fa σ H fun vx H1 => tE K cA W fb σ H1 fun vy H2 => ∃ env G am C x y, RelEnv K cA G am env σ ∧ Wd K cA G am C H2 ∧ RelE K cA G am x vx ∧ RelE K cA G am y vy ∧ Dn K cA (rE K cA) W σ (g x y C) G am C H2 Q := by
  obtain ⟨env, G, am, C, re, wd, d⟩ := h
  refine ⟨env, G, am, C, re, wd, (Dn.bind (Rl := rE K cA) d).imp fun v H1 ⟨G1, am1, C1, a, x1, w1, r1, d1⟩ => ?_⟩
  refine ⟨env, G1, am1, C1, re.mono x1, w1, (Dn.bind (Rl := rE K cA) d1).imp fun v2 H2 ⟨G2, am2, C2, b, x2, w2, r2, d2⟩ => ?_⟩
  exact ⟨env, G2, am2, C2, a, b, (re.mono x1).mono x2, w2, RelE.mono x2.g x2.a r1, r2, d2⟩
theorem tE_one {fa : Env → Cells → R E} {g : Env → E → Cells → R E} (h : tE K cA W (fun env C => (fa env C).bind fun x C => g env x C) σ H Q) :
    tE K cA W fa σ H fun vx H1 => ∃ env G am C x, RelEnv K cA G am env σ ∧ Wd K cA G am C H1 ∧ RelE K cA G am x vx ∧ Dn K cA (rE K cA) W σ (g env x C) G am C H1 Q := by
  obtain ⟨env, G, am, C, re, wd, d⟩ := h
  refine ⟨env, G, am, C, re, wd, (Dn.bind (Rl := rE K cA) d).imp fun v H1 ⟨G1, am1, C1, a, x1, w1, r1, d1⟩ => ?_⟩
  exact ⟨env, G1, am1, C1, a, re.mono x1, w1, r1, d1⟩
theorem tEs_one {fa : Env → Cells → R (List E)} {g : Env → List E → Cells → R E} (h : tE K cA W (fun env C => (fa env C).bind fun x C => g env x C) σ H Q) :
    tEs K cA W fa σ H fun vx H1 => ∃ env G am C x, RelEnv K cA G am env σ ∧ Wd K cA G am C H1 ∧ RelEs K cA G am x vx ∧ Dn K cA (rE K cA) W σ (g env x C) G am C H1 Q := by
  obtain ⟨env, G, am, C, re, wd, d⟩ := h
  refine ⟨env, G, am, C, re, wd, (Dn.bind (Rl := rEs K cA) d).imp fun v H1 ⟨G1, am1, C1, a, x1, w1, r1, d1⟩ => ?_⟩
  exact ⟨env, G1, am1, C1, a, re.mono x1, w1, r1, d1⟩
end

def kOk : Ev.K → Const → Prop
  | .non, .none => True
  | .bl b, .bool b' => b = b'
  | .int i, .int j => i = j
  | .str s, .str t => T s = t
  | _, _ => False
instance (k : Ev.K) (c : Const) : Decidable (kOk k c) := by
  cases k <;> cases c <;> simp only [kOk] <;> infer_instance
/-! ### the rules -/
section
variable {X : Cx} {cA : Cfg} {sx : Sx} {k : Nat} {W : WX} {a b c : Expr} {fa fb fc : Env → Cells → R E} {pos : Pos}

theorem r_slot (g : Gd sx k W X) {i : Nat} {x : Str} (h : nmAt sx.N i x = true) (hv : visB sx.sc x = true) (ho : nmOk x = true) : PE X (.Name x pos) (tE X.K cA W fun env C => match (env[i]?).join with
    | some (.v d) => .ok (.v d) C
    | some (.r n) => .ok (.r n) C
    | _ => .bad) := by
  unfold nmOk at ho
  simp only [Bool.and_eq_true, Bool.not_eq_true'] at ho
  refine PE.imp (pe_var (g.at h) (visB_ok (by rw [g.sc]; exact hv)) ho.1.1 ho.1.2) fun σ H Q ⟨env, G, am, C, re, wd, d⟩ => ?_
  dsimp only at d
  cases e1 : env[i]? with
  | none => simp only [e1, Option.join_none] at d; exact d.elim
  | some o =>
    cases o with
    | none => simp only [e1, Option.join_some] at d; exact d.elim
    | some e' =>
      obtain ⟨v, h1, h2⟩ := re.2 i _ e1
      simp only [e1, Option.join_some] at d
      cases e' with
      | v dd =>
        rcases h2 with h2 | ⟨j, z, _⟩ | ⟨c, fs, z, _⟩
        · exact ⟨v, h1, d.here wd h2⟩
        · cases z
        · cases z
      | r n =>
        rcases h2 with h2 | ⟨j, z, _⟩ | ⟨c, fs, z, _⟩
        · exact ⟨v, h1, d.here wd h2⟩
        · cases z
        · cases z
      | clo j => exact d.elim
      | exn c fs => exact d.elim
theorem r_cst (K' : Ev.K) (c : Const) (n : Nat) (h : kOk K' c) : PE X (.Constant c n pos) (tE X.K cA W fun _ C => .ok (.v K'.d) C) := by
  cases K' <;> cases c <;> first | exact h.elim | skip
  · exact PE.imp pe_non fun σ H Q ⟨env, G, am, C, re, wd, d⟩ => d.here wd (by simp only [rE, RelE, K.d, RelD])
  · have h : _ = _ := h
    subst h
    exact PE.imp pe_bl fun σ H Q ⟨env, G, am, C, re, wd, d⟩ => d.here wd (by simp only [rE, RelE, K.d, RelD])
  · have h : _ = _ := h
    subst h
    exact PE.imp pe_int fun σ H Q ⟨env, G, am, C, re, wd, d⟩ => d.here wd (by simp only [rE, RelE, K.d, RelD])
  · have h : _ = _ := h
    subst h
    exact PE.imp pe_str fun σ H Q ⟨env, G, am, C, re, wd, d⟩ => d.here wd (by simp only [rE, RelE, K.d, RelD])
theorem relD_none {K : PySem.W.Frag} {cA : Cfg0} {G : Hp} {d : D} {v : V} (h : RelD K cA (fun _ => none) d v) : RelD K cA G d v := RelD.mono (fun _ _ e => absurd e (by simp)) h
theorem r_bop (o : Bop) (ha : PE X a (tE X.K cA W fa)) (hb : PE X b (tE X.K cA W fb)) : PE X (.BinOp a (bopO o) b pos) (tE X.K cA W fun env C => (fa env C).bind fun x C => (fb env C).bind fun y C => R.of ((see C x).bind fun x => (see C y).bind fun y => (bopV o x y).map .v) C) := by
  refine PE.imp (pe_op (op_bop (cA := cA) o) ha hb) fun σ H Q h => ?_
  obtain ⟨env, G, am, C, re, wd, d⟩ := tE_two h
  refine ⟨env, G, am, C, re, wd, Dn.imp d fun vx H1 ⟨env1, G1, am1, C1, re1, w1, d1⟩ => ⟨env1, G1, am1, C1, re1, w1, Dn.imp d1 fun vy H2 ⟨env2, G2, am2, C2, x, y, re2, w2, rx, ry, d2⟩ => ?_⟩⟩
  obtain ⟨e, he, d2⟩ := of_some d2
  simp only [Option.bind_eq_some_iff, Option.map_eq_some_iff] at he
  obtain ⟨dx, hx, dy, hy, z, hz, rfl⟩ := he
  exact ⟨G2, am2, C2, dx, dy, z, w2, see_rel w2 rx hx, see_rel w2 ry hy, hz, Ans.of d2⟩
theorem r_cmp (g : Gd sx k W X) (o : Cop) (ha : PE X a (tE X.K cA W fa)) (hb : PE X b (tE X.K cA W fb)) (hp : plainX b = true) : PE X (.Compare a [copO o] [b] pos) (tE X.K cA W fun env C => (fa env C).bind fun x C => (fb env C).bind fun y C => R.of ((see C x).bind fun x => (see C y).bind fun y => (copV o x y).map fun b => .v (.bl b)) C) := by
  have hm : behindInMarks (copO o) b = false := by cases b <;> first | rfl | (simp [plainX] at hp)
  refine PE.imp (pe_cmpR (op_cop (cA := cA) o g.un) ha hb hm) fun σ H Q h => ?_
  obtain ⟨env, G, am, C, re, wd, d⟩ := tE_two h
  refine ⟨env, G, am, C, re, wd, Dn.imp d fun vx H1 ⟨env1, G1, am1, C1, re1, w1, d1⟩ => ⟨env1, G1, am1, C1, re1, w1, Dn.imp d1 fun vy H2 ⟨env2, G2, am2, C2, x, y, re2, w2, rx, ry, d2⟩ => ?_⟩⟩
  obtain ⟨e, he, d2⟩ := of_some d2
  simp only [Option.bind_eq_some_iff, Option.map_eq_some_iff] at he
  obtain ⟨dx, hx, dy, hy, z, hz, rfl⟩ := he
  exact ⟨G2, am2, C2, dx, dy, z, w2, see_rel w2 rx hx, see_rel w2 ry hy, hz, d2.here w2 (by simp only [rE, RelE, RelD])⟩
theorem r_isN (neg : Bool) {n : Nat} {p2 : Pos} (ha : PE X a (tE X.K cA W fa)) : PE X (.Compare a [if neg then .IsNot else .Is] [.Constant .none n p2] pos) (tE X.K cA W fun env C => (fa env C).bind fun x C => .ok (.v (.bl (isNone neg x))) C) := by
  have key : ∀ {σ H Q}, tE X.K cA W (fun env C => (fa env C).bind fun x C => .ok (.v (.bl (isNone neg x))) C) σ H Q → tE X.K cA W fa σ H fun x H1 => Q (.bl (if neg then !decide (x = .non) else decide (x = .non))) H1 := fun {σ H Q} h => by
    obtain ⟨env, G, am, C, re, wd, d⟩ := tE_one h
    refine ⟨env, G, am, C, re, wd, Dn.imp d fun vx H1 ⟨env1, G1, am1, C1, x, re1, w1, rx, d1⟩ => ?_⟩
    refine d1.here w1 ?_
    simp only [rE, RelE, RelD]
    congr 1
    unfold isNone
    cases x with
    | v d =>
      cases d <;> simp only [RelE, RelD] at rx
      case non => subst rx; cases neg <;> rfl
      case bl => subst rx; cases neg <;> rfl
      case int => subst rx; cases neg <;> rfl
      case str => subst rx; cases neg <;> rfl
      case tup => obtain ⟨p, us, rfl, _⟩ := rx; cases neg <;> rfl
      case lst => obtain ⟨p, us, rfl, _⟩ := rx; cases neg <;> rfl
      case dct => obtain ⟨p, _, us, rfl, _⟩ := rx; cases neg <;> rfl
      case ins => obtain ⟨p, _, _, us, rfl, _⟩ := rx; cases neg <;> rfl
    | r n => obtain ⟨p, _, rfl⟩ := rx; cases neg <;> rfl
    | clo j => exact rx.elim
    | exn c fs => exact rx.elim
  cases neg with
  | false => exact PE.imp (pe_cmp (pc_isN ha) (nobehind _ (by decide) (by decide))) fun σ H Q h => key h
  | true => exact PE.imp (pe_cmp (pc_notN ha) (nobehind _ (by decide) (by decide))) fun σ H Q h => key h

theorem bind_assoc {α β γ : Type} (r : R α) (f : α → Cells → R β) (h : β → Cells → R γ) : (r.bind f).bind h = r.bind fun a C => (f a C).bind h := by cases r <;> rfl
theorem r_glob {P : Program} {w : World} {base : Heap} {pr : Prog} {tb : Tab} {call : Nat → List E → Cells → R E} {j : Nat} (g : Gd sx k W X) (F : Facts P w X.K X.mg base cA pr tb j call) {gi : Nat} {x : Str} {nm : Nm} (h : tb.gl[gi]? = some nm) (hx : T nm = x) (hg : glB sx.sc x = true) :
    PE X (.Name x pos) (tE X.K cA W fun _ C => R.of ((pr.globs[gi]?).map .v) C) := by
  cases e : pr.globs[gi]? with
  | none => exact ⟨fun pins s σ H Q I ⟨env, G, am, C, re, wd, d⟩ => by simp only [e] at d; exact d.elim⟩
  | some d0 =>
    obtain ⟨u, v, h1, h2, h3⟩ := F.gl gi nm d0 h e
    obtain ⟨g1, g2, g3⟩ := g.gl hg
    subst hx
    refine PE.imp (pe_glob g1 h1 h2 g2) fun σ H Q ⟨env, G, am, C, re, wd, d⟩ => ?_
    simp only [e] at d
    exact d.here wd (relD_none h3)
theorem r_and (ha : PE X a (tE X.K cA W fa)) {rest : List Expr} (hb : PE X (.BoolOp .And (b :: rest) pos) (tE X.K cA W fb)) : PE X (.BoolOp .And (a :: b :: rest) pos) (tE X.K cA W fun env C => (fa env C).bind fun x C => match truE C x with
    | none => .bad
    | some true => fb env C
    | some false => .ok x C) := by
  refine PE.imp (pe_andT ha hb) fun σ H Q h => ?_
  obtain ⟨env, G, am, C, re, wd, d⟩ := tE_one h
  refine ⟨env, G, am, C, re, wd, Dn.imp d fun vx H1 ⟨env1, G1, am1, C1, x, re1, w1, rx, d1⟩ => ?_⟩
  unfold truE at d1
  cases e1 : see C1 x with
  | none => simp only [e1, Option.bind_none] at d1; exact d1.elim
  | some dx =>
    simp only [e1, Option.bind_some] at d1
    cases e2 : truV dx with
    | none => simp only [e2] at d1; exact d1.elim
    | some t =>
      simp only [e2] at d1
      refine ⟨t, tru_rel w1.sub (see_rel w1 rx e1) e2, ?_⟩
      cases t with
      | true => exact iteT ⟨env1, G1, am1, C1, re1, w1, d1⟩
      | false => exact iteF (d1.here w1 rx)
theorem r_or (ha : PE X a (tE X.K cA W fa)) {rest : List Expr} (hb : PE X (.BoolOp .Or (b :: rest) pos) (tE X.K cA W fb)) : PE X (.BoolOp .Or (a :: b :: rest) pos) (tE X.K cA W fun env C => (fa env C).bind fun x C => match truE C x with
    | none => .bad
    | some true => .ok x C
    | some false => fb env C) := by
  refine PE.imp (pe_orT ha hb) fun σ H Q h => ?_
  obtain ⟨env, G, am, C, re, wd, d⟩ := tE_one h
  refine ⟨env, G, am, C, re, wd, Dn.imp d fun vx H1 ⟨env1, G1, am1, C1, x, re1, w1, rx, d1⟩ => ?_⟩
  unfold truE at d1
  cases e1 : see C1 x with
  | none => simp only [e1, Option.bind_none] at d1; exact d1.elim
  | some dx =>
    simp only [e1, Option.bind_some] at d1
    cases e2 : truV dx with
    | none => simp only [e2] at d1; exact d1.elim
    | some t =>
      simp only [e2] at d1
      refine ⟨t, tru_rel w1.sub (see_rel w1 rx e1) e2, ?_⟩
      cases t with
      | true => exact iteT (d1.here w1 rx)
      | false => exact iteF ⟨env1, G1, am1, C1, re1, w1, d1⟩
theorem r_not (ha : PE X a (tE X.K cA W fa)) : PE X (.UnaryOp .Not a pos) (tE X.K cA W fun env C => (fa env C).bind fun x C => match truE C x with
    | none => .bad
    | some b => .ok (.v (.bl (!b))) C) := by
  refine PE.imp (pe_notT ha) fun σ H Q h => ?_
  obtain ⟨env, G, am, C, re, wd, d⟩ := tE_one h
  refine ⟨env, G, am, C, re, wd, Dn.imp d fun vx H1 ⟨env1, G1, am1, C1, x, re1, w1, rx, d1⟩ => ?_⟩
  unfold truE at d1
  cases e1 : see C1 x with
  | none => simp only [e1, Option.bind_none] at d1; exact d1.elim
  | some dx =>
    simp only [e1, Option.bind_some] at d1
    cases e2 : truV dx with
    | none => simp only [e2] at d1; exact d1.elim
    | some t =>
      simp only [e2] at d1
      exact ⟨t, tru_rel w1.sub (see_rel w1 rx e1) e2, d1.here w1 (by simp only [rE, RelE, RelD])⟩

/-! ### tests -/
abbrev tru (r : R E) : R Bool := truR r
theorem r_test (ha : PE X a (tE X.K cA W fa)) (h : testX a = true) : PT X a (tT X.K cA W fun env C => tru (fa env C)) := by
  refine PT.imp (pt_truth ha (test_plain h)) fun σ H Q ⟨env, G, am, C, re, wd, d⟩ => ?_
  refine ⟨env, G, am, C, re, wd, Dn.imp (Dn.bind (Rl := rE X.K cA) d) fun vx H1 ⟨G1, am1, C1, x, x1, w1, rx, d1⟩ => ?_⟩
  obtain ⟨t, e, d1⟩ := of_some d1
  unfold truE at e
  rw [Option.bind_eq_some_iff] at e
  obtain ⟨dx, e1, e2⟩ := e
  exact ⟨t, tru_rel w1.sub (see_rel w1 rx e1) e2, d1.here w1 rfl⟩
/-- a comparison as a test -/
theorem r_tcmp (g : Gd sx k W X) (o : Cop) (ha : PE X a (tE X.K cA W fa)) (hb : PE X b (tE X.K cA W fb)) (hp : plainX b = true) : PT X (.Compare a [copO o] [b] pos) (tT X.K cA W fun env C => tru ((fa env C).bind fun x C => (fb env C).bind fun y C => R.of ((see C x).bind fun x => (see C y).bind fun y => (copV o x y).map fun b => .v (.bl b)) C)) := by
  have hm : behindInMarks (copO o) b = false := by cases b <;> first | rfl | (simp [plainX] at hp)
  refine PT.imp (pt_cmpR (op_cop (cA := cA) o g.un) ha hb hm) fun σ H Q ⟨env, G, am, C, re, wd, d⟩ => ?_
  simp only [tru, truR, bind_assoc] at d
  refine ⟨env, G, am, C, re, wd, Dn.imp (Dn.bind (Rl := rE X.K cA) d) fun vx H1 ⟨G1, am1, C1, x, x1, w1, rx, d1⟩ => ?_⟩
  refine ⟨env, G1, am1, C1, re.mono x1, w1, Dn.imp (Dn.bind (Rl := rE X.K cA) d1) fun vy H2 ⟨G2, am2, C2, y, x2, w2, ry, d2⟩ => ?_⟩
  cases e : (see C2 x).bind fun x => (see C2 y).bind fun y => (copV o x y).map fun b => E.v (.bl b) with
  | none => simp only [e] at d2; exact d2.elim
  | some z =>
    simp only [e, R.of_some, R.bind_ok] at d2
    simp only [Option.bind_eq_some_iff, Option.map_eq_some_iff] at e
    obtain ⟨dx, hx, dy, hy, z, hz, rfl⟩ := e
    exact ⟨G2, am2, C2, dx, dy, z, w2, see_rel w2 (RelE.mono x2.g x2.a rx) hx, see_rel w2 ry hy, hz, z, rfl, d2.here w2 rfl⟩
theorem r_tisN (neg : Bool) {n : Nat} {p2 : Pos} (ha : PE X a (tE X.K cA W fa)) : PT X (.Compare a [if neg then .IsNot else .Is] [.Constant .none n p2] pos) (tT X.K cA W fun env C => tru ((fa env C).bind fun x C => .ok (.v (.bl (isNone neg x))) C)) := by
  have key : ∀ {σ H Q}, tT X.K cA W (fun env C => tru ((fa env C).bind fun x C => .ok (.v (.bl (isNone neg x))) C)) σ H Q → tE X.K cA W fa σ H fun x H1 => Q (if neg then !decide (x = .non) else decide (x = .non)) H1 := fun {σ H Q} ⟨env, G, am, C, re, wd, d⟩ => by
    simp only [tru, truR, bind_assoc] at d
    refine ⟨env, G, am, C, re, wd, Dn.imp (Dn.bind (Rl := rE X.K cA) d) fun vx H1 ⟨G1, am1, C1, x, x1, w1, rx, d1⟩ => ?_⟩
    refine Dn.here (a := isNone neg x) d1 w1 ?_
    show isNone neg x = _
    unfold isNone
    cases x with
    | v d =>
      cases d <;> simp only [rE, RelE, RelD] at rx
      case non => subst rx; cases neg <;> rfl
      case bl => subst rx; cases neg <;> rfl
      case int => subst rx; cases neg <;> rfl
      case str => subst rx; cases neg <;> rfl
      case tup => obtain ⟨p, us, rfl, _⟩ := rx; cases neg <;> rfl
      case lst => obtain ⟨p, us, rfl, _⟩ := rx; cases neg <;> rfl
      case dct => obtain ⟨p, _, us, rfl, _⟩ := rx; cases neg <;> rfl
      case ins => obtain ⟨p, _, _, us, rfl, _⟩ := rx; cases neg <;> rfl
    | r n => obtain ⟨p, _, rfl⟩ := rx; cases neg <;> rfl
    | clo j => exact rx.elim
    | exn c fs => exact rx.elim
  cases neg with
  | false =>
    refine PT.imp (pt_cmp (pc_isN ha) (nobehind _ (by decide) (by decide))) fun σ H Q h => ?_
    obtain ⟨env, G, am, C, re, wd, d⟩ := key h
    exact ⟨env, G, am, C, re, wd, d.imp fun v H1 q => ⟨_, rfl, q⟩⟩
  | true =>
    refine PT.imp (pt_cmp (pc_notN ha) (nobehind _ (by decide) (by decide))) fun σ H Q h => ?_
    obtain ⟨env, G, am, C, re, wd, d⟩ := key h
    exact ⟨env, G, am, C, re, wd, d.imp fun v H1 q => ⟨_, rfl, q⟩⟩
theorem r_tnot {pa : PT X a (tT X.K cA W fun env C => tru (fa env C))} : PT X (.UnaryOp .Not a pos) (tT X.K cA W fun env C => tru ((fa env C).bind fun x C => match truE C x with
    | none => .bad
    | some b => .ok (.v (.bl (!b))) C)) := by
  refine PT.imp (pt_not pa) fun σ H Q ⟨env, G, am, C, re, wd, d⟩ => ?_
  refine ⟨env, G, am, C, re, wd, ?_⟩
  dsimp only at d ⊢
  cases e : fa env C with
  | bad => rw [e] at d; exact d.elim
  | exc c fs C1 => rw [e] at d; exact d
  | ok x C1 =>
    rw [e] at d
    simp only [tru, truR, R.bind_ok] at d ⊢
    cases t : truE C1 x with
    | none => simp only [t, R.bind_bad] at d; exact d.elim
    | some b =>
      simp only [t, R.of_some] at d ⊢
      simp only [R.bind_ok, truE, see, Option.bind_some, truV, R.of_some] at d
      intro G' am' H' v x1 w1 e1
      cases e1
      exact d G' am' H' _ x1 w1 rfl
/-- the reading of a test that hangs on one -/
theorem tT_ite {fc : Env → Cells → R E} {g1 g2 : Env → Cells → R E} {σ : L2.St} {H : Hp} {Q : Bool → Hp → Prop} (h : tT X.K cA W (fun env C => tru ((fc env C).bind fun x C => match truE C x with
    | none => .bad
    | some true => g1 env C
    | some false => g2 env C)) σ H Q) : tT X.K cA W (fun env C => tru (fc env C)) σ H fun c H1 => if c = true then tT X.K cA W (fun env C => tru (g1 env C)) σ H1 Q else tT X.K cA W (fun env C => tru (g2 env C)) σ H1 Q := by
  obtain ⟨env, G, am, C, re, wd, d⟩ := h
  refine ⟨env, G, am, C, re, wd, ?_⟩
  dsimp only at d ⊢
  cases e : fc env C with
  | bad => rw [e] at d; exact d.elim
  | exc c fs C1 => rw [e] at d; exact d
  | ok x C1 =>
    rw [e] at d
    simp only [tru, truR, R.bind_ok] at d ⊢
    cases t : truE C1 x with
    | none => simp only [t, R.bind_bad] at d; exact d.elim
    | some b =>
      simp only [R.of_some]
      intro G' am' H' v x1 w1 e1
      cases e1
      cases b with
      | true => simp only [t] at d; exact iteT ⟨env, G', am', C1, re.mono x1, w1, d.shift x1⟩
      | false => simp only [t] at d; exact iteF ⟨env, G', am', C1, re.mono x1, w1, d.shift x1⟩
theorem tE_ite {fc : Env → Cells → R E} {g1 g2 : Env → Cells → R E} {σ : L2.St} {H : Hp} {Q : VK} (h : tE X.K cA W (fun env C => (fc env C).bind fun x C => match truE C x with
    | none => .bad
    | some true => g1 env C
    | some false => g2 env C) σ H Q) : tT X.K cA W (fun env C => tru (fc env C)) σ H fun c H1 => if c = true then tE X.K cA W g1 σ H1 Q else tE X.K cA W g2 σ H1 Q := by
  obtain ⟨env, G, am, C, re, wd, d⟩ := h
  refine ⟨env, G, am, C, re, wd, ?_⟩
  dsimp only at d ⊢
  cases e : fc env C with
  | bad => rw [e] at d; exact d.elim
  | exc c fs C1 => rw [e] at d; exact d
  | ok x C1 =>
    rw [e] at d
    simp only [tru, truR, R.bind_ok] at d ⊢
    cases t : truE C1 x with
    | none => simp only [t] at d; exact d.elim
    | some b =>
      simp only [R.of_some]
      intro G' am' H' v x1 w1 e1
      cases e1
      cases b with
      | true => simp only [t] at d; exact iteT ⟨env, G', am', C1, re.mono x1, w1, d.shift x1⟩
      | false => simp only [t] at d; exact iteF ⟨env, G', am', C1, re.mono x1, w1, d.shift x1⟩
/-- the same of a value that is dropped at its truth -/
theorem tT_and {fc : Env → Cells → R E} {g1 : Env → Cells → R E} {σ : L2.St} {H : Hp} {Q : Bool → Hp → Prop} (h : tT X.K cA W (fun env C => tru ((fc env C).bind fun x C => match truE C x with
    | none => .bad
    | some true => g1 env C
    | some false => .ok x C)) σ H Q) : tT X.K cA W (fun env C => tru (fc env C)) σ H fun c H1 => if c = true then tT X.K cA W (fun env C => tru (g1 env C)) σ H1 Q else Q false H1 := by
  obtain ⟨env, G, am, C, re, wd, d⟩ := h
  refine ⟨env, G, am, C, re, wd, ?_⟩
  dsimp only at d ⊢
  cases e : fc env C with
  | bad => rw [e] at d; exact d.elim
  | exc c fs C1 => rw [e] at d; exact d
  | ok x C1 =>
    rw [e] at d
    simp only [tru, truR, R.bind_ok] at d ⊢
    cases t : truE C1 x with
    | none => simp only [t, R.bind_bad] at d; exact d.elim
    | some b =>
      simp only [R.of_some]
      intro G' am' H' v x1 w1 e1
      cases e1
      cases b with
      | true => simp only [t] at d; exact iteT ⟨env, G', am', C1, re.mono x1, w1, d.shift x1⟩
      | false => simp only [t, R.bind_ok, R.of_some] at d; exact iteF (d G' am' H' _ x1 w1 rfl)
theorem tT_or {fc : Env → Cells → R E} {g1 : Env → Cells → R E} {σ : L2.St} {H : Hp} {Q : Bool → Hp → Prop} (h : tT X.K cA W (fun env C => tru ((fc env C).bind fun x C => match truE C x with
    | none => .bad
    | some true => .ok x C
    | some false => g1 env C)) σ H Q) : tT X.K cA W (fun env C => tru (fc env C)) σ H fun c H1 => if c = true then Q true H1 else tT X.K cA W (fun env C => tru (g1 env C)) σ H1 Q := by
  obtain ⟨env, G, am, C, re, wd, d⟩ := h
  refine ⟨env, G, am, C, re, wd, ?_⟩
  dsimp only at d ⊢
  cases e : fc env C with
  | bad => rw [e] at d; exact d.elim
  | exc c fs C1 => rw [e] at d; exact d
  | ok x C1 =>
    rw [e] at d
    simp only [tru, truR, R.bind_ok] at d ⊢
    cases t : truE C1 x with
    | none => simp only [t, R.bind_bad] at d; exact d.elim
    | some b =>
      simp only [R.of_some]
      intro G' am' H' v x1 w1 e1
      cases e1
      cases b with
      | true => simp only [t, R.bind_ok, R.of_some] at d; exact iteT (d G' am' H' _ x1 w1 rfl)
      | false => simp only [t] at d; exact iteF ⟨env, G', am', C1, re.mono x1, w1, d.shift x1⟩
theorem r_ite (hc : PT X c (tT X.K cA W fun env C => tru (fc env C))) (ha : PE X a (tE X.K cA W fa)) (hb : PE X b (tE X.K cA W fb)) : PE X (.IfExp c a b pos) (tE X.K cA W fun env C => (fc env C).bind fun x C => match truE C x with
    | none => .bad
    | some true => fa env C
    | some false => fb env C) := PE.imp (pe_ifExp hc ha hb) fun σ H Q h => tE_ite h
theorem r_tite (hc : PT X c (tT X.K cA W fun env C => tru (fc env C))) (ha : PT X a (tT X.K cA W fun env C => tru (fa env C))) (hb : PT X b (tT X.K cA W fun env C => tru (fb env C))) : PT X (.IfExp c a b pos) (tT X.K cA W fun env C => tru ((fc env C).bind fun x C => match truE C x with
    | none => .bad
    | some true => fa env C
    | some false => fb env C)) := by
  refine ⟨fun pins s σ H Q I h => ?_⟩
  refine isTrue_IfExp (thn (hc.run pins s σ H _ I (tT_ite h)) fun t s1 ⟨H1, I1, q1⟩ => ?_)
  cases t with
  | true => exact ha.run pins s1 σ H1 Q I1 q1
  | false => exact hb.run pins s1 σ H1 Q I1 q1
theorem r_wand {rest : List Expr} (ha : PT X a (tT X.K cA W fun env C => tru (fa env C))) (hb : PW X (.BoolOp .And (b :: rest) pos) (tT X.K cA W fun env C => tru (fb env C))) : PW X (.BoolOp .And (a :: b :: rest) pos) (tT X.K cA W fun env C => tru ((fa env C).bind fun x C => match truE C x with
    | none => .bad
    | some true => fb env C
    | some false => .ok x C)) := PW.imp (pw_and ha hb) fun σ H Q h => tT_and h
theorem r_wor {rest : List Expr} (ha : PT X a (tT X.K cA W fun env C => tru (fa env C))) (hb : PW X (.BoolOp .Or (b :: rest) pos) (tT X.K cA W fun env C => tru (fb env C))) : PW X (.BoolOp .Or (a :: b :: rest) pos) (tT X.K cA W fun env C => tru ((fa env C).bind fun x C => match truE C x with
    | none => .bad
    | some true => .ok x C
    | some false => fb env C)) := PW.imp (pw_or ha hb) fun σ H Q h => tT_or h
end
end Ev

end

section
set_option maxRecDepth 512
set_option Elab.async false
set_option linter.all false
set_option maxRecDepth 100000
set_option maxHeartbeats 4000000
namespace Ev
open PySem L2 PySem.Spec PyProof.Rows

section
variable {K : PySem.W.Frag} {cA : Cfg0} {G G' : Hp} {am am' : List Addr}
theorem RelEs.append : ∀ {xs ys : List E} {us vs : List V}, RelEs K cA G am xs us → RelEs K cA G am ys vs → RelEs K cA G am (xs ++ ys) (us ++ vs)
  | [], _, _, _, h, h' => by rw [show _ = _ from h]; exact h'
  | x :: xs, _, _, _, h, h' => by
    obtain ⟨v, r, rfl, h1, h2⟩ := h
    exact ⟨v, _, rfl, h1, RelEs.append h2 h'⟩
theorem RelEs.ofD : ∀ {ds : List D} {us : List V}, RelDs K cA G ds us → RelEs K cA G am (ds.map .v) us
  | [], _, h => by simp only [RelDs] at h; exact h
  | x :: xs, _, h => by
    simp only [RelDs] at h
    obtain ⟨v, r, rfl, h1, h2⟩ := h
    exact ⟨v, r, rfl, h1, RelEs.ofD h2⟩
theorem RelEs.length : ∀ {xs : List E} {us : List V}, RelEs K cA G am xs us → xs.length = us.length
  | [], us, h => by
    have e : us = [] := h
    rw [e]; rfl
  | x :: xs, _, h => by
    obtain ⟨v, r, rfl, h1, h2⟩ := h
    simp [RelEs.length h2]
/-- the items that a tuple, a list shows -/
theorem seq_rel {H : Hp} (sb : Same G H) {d : D} {ds : List D} {v : V} (r : RelS K cA G H d v) (e : seqD d = some ds) : (∃ x, d = .str x) ∨ ∃ p us, v = .ref p ∧ (SqT K H p us ∨ SqL K H p us) ∧ RelDs K cA G ds us := by
  cases d <;> simp only [seqD] at e <;> first | (cases e; done) | skip
  case str x => exact .inl ⟨x, rfl⟩
  case tup xs =>
    cases e
    simp only [RelS, RelD] at r
    obtain ⟨p, us, rfl, h1, h2⟩ := r
    exact .inr ⟨p, us, rfl, .inl (Same.sqt sb h1), h2⟩
  case lst xs =>
    cases e
    obtain ⟨p, us, rfl, h1, h2⟩ := r
    exact .inr ⟨p, us, rfl, .inr h1, h2⟩
end

section
variable {X : Cx} {cA : Cfg} {sx : Sx} {k : Nat} {W : WX} {a b c : Expr} {es : List Expr} {fa fb fc : Env → Cells → R E} {fs : Env → Cells → R (List E)} {pos : Pos}

/-! ### rows of expressions -/
theorem r_nil : PA X [] (tEs X.K cA W fun _ C => .ok [] C) := PA.imp pa_nil fun σ H Q ⟨env, G, am, C, re, wd, d⟩ => d.here wd rfl
theorem r_cons (hp : plainX a = true) (ha : PE X a (tE X.K cA W fa)) (hs : PA X es (tEs X.K cA W fs)) : PA X (a :: es) (tEs X.K cA W fun env C => (fa env C).bind fun x C => (fs env C).bind fun xs C => .ok (x :: xs) C) := by
  refine PA.imp (pa_cons ha hs (star_cons hp)) fun σ H Q ⟨env, G, am, C, re, wd, d⟩ => ?_
  refine ⟨env, G, am, C, re, wd, (Dn.bind (Rl := rE X.K cA) d).imp fun v H1 ⟨G1, am1, C1, x, x1, w1, r1, d1⟩ => ?_⟩
  refine ⟨env, G1, am1, C1, re.mono x1, w1, (Dn.bind (Rl := rEs X.K cA) d1).imp fun vs H2 ⟨G2, am2, C2, xs, x2, w2, r2, d2⟩ => ?_⟩
  exact d2.here w2 ⟨v, vs, rfl, RelE.mono x2.g x2.a r1, r2⟩
theorem r_star {p : Pos} (ha : PE X a (tE X.K cA W fa)) (hs : PA X es (tEs X.K cA W fs)) : PA X (.Starred a p :: es) (tEs X.K cA W fun env C => (fa env C).bind fun x C => match (see C x).bind seqD with
    | none => .bad
    | some ds => match see C x with
      | some (.str _) => .bad
      | _ => (fs env C).bind fun xs C => .ok (ds.map .v ++ xs) C) := by
  refine PA.imp (StX.pa_star ha hs) fun σ H Q ⟨env, G, am, C, re, wd, d⟩ => ?_
  refine ⟨env, G, am, C, re, wd, (Dn.bind (Rl := rE X.K cA) d).imp fun v H1 ⟨G1, am1, C1, x, x1, w1, r1, d1⟩ => ?_⟩
  cases e1 : see C1 x with
  | none => simp only [e1, Option.bind_none] at d1; exact d1.elim
  | some dx =>
    simp only [e1, Option.bind_some] at d1
    cases e2 : seqD dx with
    | none => simp only [e2] at d1; exact d1.elim
    | some ds =>
      simp only [e2] at d1
      rcases seq_rel w1.sub (see_rel w1 r1 e1) e2 with ⟨z, rfl⟩ | ⟨p, us, rfl, hq, rd⟩
      · exact d1.elim
      · have d2 : Dn X.K cA (rEs X.K cA) W σ ((fs env C1).bind fun xs C => .ok (ds.map .v ++ xs) C) G1 am1 C1 H1 Q := by
          cases dx <;> first | exact d1 | exact d1.elim
        refine ⟨p, us, rfl, hq, env, G1, am1, C1, re.mono x1, w1, (Dn.bind (Rl := rEs X.K cA) d2).imp fun vs H2 ⟨G2, am2, C2, xs, x2, w2, r2, d3⟩ => ?_⟩
        exact d3.here w2 (RelEs.append (RelEs.ofD (rd.mono x2.g)) r2)
theorem r_tup {n : Nat} (hs : PA X es (tEs X.K cA W fs)) : PE X (.Tuple es n pos) (tE X.K cA W fun env C => (fs env C).bind fun xs C => R.of ((vals xs).bind fun ds => if ds.length ≤ line then some (.v (.tup ds)) else none) C) := by
  refine PE.imp (pe_tup hs) fun σ H Q h => ?_
  obtain ⟨env, G, am, C, re, wd, d⟩ := tEs_one h
  refine ⟨env, G, am, C, re, wd, Dn.imp d fun vs H1 ⟨env1, G1, am1, C1, xs, re1, w1, rx, d1⟩ => ?_⟩
  obtain ⟨e, he, d1⟩ := of_some d1
  simp only [Option.bind_eq_some_iff] at he
  obtain ⟨ds, h1, h2⟩ := he
  split at h2
  · rename_i hl
    cases h2
    have rd := vals_rel rx h1
    exact ⟨by rw [← rd.length, ← line_eq]; exact hl, (Ans.of d1).tup w1 rd⟩
  · cases h2
theorem r_lst (hs : PA X es (tEs X.K cA W fs)) : PE X (.List es pos) (tE X.K cA W fun env C => (fs env C).bind fun xs C => match vals xs with
    | none => .bad
    | some ds => if ds.length ≤ line then .ok (.v (.lst ds)) C else .bad) := by
  refine PE.imp (pe_lst hs) fun σ H Q h => ?_
  obtain ⟨env, G, am, C, re, wd, d⟩ := tEs_one h
  refine ⟨env, G, am, C, re, wd, Dn.imp d fun vs H1 ⟨env1, G1, am1, C1, xs, re1, w1, rx, d1⟩ => ?_⟩
  cases h1 : vals xs with
  | none => simp only [h1] at d1; exact d1.elim
  | some ds =>
    simp only [h1] at d1
    split at d1
    · rename_i hl
      have rd := vals_rel rx h1
      exact ⟨by rw [← rd.length, ← line_eq]; exact hl, (Ans.of d1).lst w1 rd⟩
    · exact d1.elim
/-- a new cell -/
theorem Wd.newC {K : PySem.W.Frag} {G : Hp} {am : List Addr} {C : Cells} {H : Hp} (wd : Wd K cA G am C H) {p : Addr} (hp : H p = none) {o : HO} {cl : Cell} (hc : CellO K cA G (am ++ [p]) (upd H p o) p cl) :
    Wd K cA G (am ++ [p]) (C ++ [some cl]) (upd H p o) ∧ Ext G am C H G (am ++ [p]) (C ++ [some cl]) (upd H p o) := by
  have hg := wd.free hp
  have sh : Same H (upd H p o) := fun b u q => by rw [upd_ne (ne_of_none q hp)]; exact q
  have old : ∀ {i : Nat} {c : Cell}, C[i]? = some (some c) → ∀ {a}, am[i]? = some a → a ≠ p := fun {i c} e {a} ha z => by
    subst z
    obtain ⟨a', h1, h2, h3⟩ := wd.cell i c e
    rw [ha] at h1; cases h1
    cases c with
    | lst xs => obtain ⟨us, z, _⟩ := h2; rw [hp] at z; cases z
    | lkd xs => obtain ⟨us, z, _⟩ := h2; rw [hp] at z; cases z
    | dct kvs => obtain ⟨us, z, _⟩ := h2; rw [hp] at z; cases z
    | ins c fs => obtain ⟨_, _, _, _, z, _⟩ := h2; rw [hp] at z; cases z
  have split : ∀ {i : Nat} {c : Cell}, (C ++ [some cl])[i]? = some (some c) → (C[i]? = some (some c) ∧ i < C.length) ∨ (i = C.length ∧ c = cl) := fun {i c} e => by
    by_cases hi : i < C.length
    · rw [List.getElem?_append_left hi] at e; exact .inl ⟨e, hi⟩
    · rw [List.getElem?_append_right (by omega)] at e
      have : i - C.length = 0 := by
        cases hz : i - C.length with
        | zero => rfl
        | succ n => rw [hz] at e; simp at e
      rw [this] at e
      simp at e
      exact .inr ⟨by omega, e.symm⟩
  have amL : ∀ {i : Nat}, i < C.length → (am ++ [p])[i]? = am[i]? := fun {i} hi => List.getElem?_append_left (by rw [wd.len]; exact hi)
  have amN : (am ++ [p])[C.length]? = some p := by rw [List.getElem?_append_right (by rw [wd.len]; exact Nat.le_refl _), wd.len]; simp
  refine ⟨⟨wd.tab_to (Same.refl _) (fun P ps e => sh _ _ e) fun _ _ _ n => n, fun b u q => sh _ _ (wd.sub _ _ q), by simp [wd.len], fun i c e => ?_, fun i j c d a e1 e2 h1 h2 => ?_⟩, ⟨Same.refl _, ⟨[p], rfl⟩, fun b u q _ _ => sh b u q, fun b ps q _ => ⟨ps, sh b _ q⟩, fun b l => ?_, fun b u q => .inl q, fun n xs h => ?_⟩⟩
  · rcases split e with ⟨e, hi⟩ | ⟨rfl, rfl⟩
    · obtain ⟨a, h1, h2, h3⟩ := wd.cell i c e
      refine ⟨a, by rw [amL hi]; exact h1, ?_, h3⟩
      cases c with
      | lst xs => obtain ⟨us, z, r⟩ := h2; exact ⟨us, sh _ _ z, r⟩
      | lkd xs => obtain ⟨us, z, r⟩ := h2; exact ⟨us, sh _ _ z, r⟩
      | dct kvs => obtain ⟨us, z, r⟩ := h2; exact ⟨us, sh _ _ z, r⟩
      | ins c fs => obtain ⟨Ca, dx, gs, z1, z2, z3, r⟩ := h2; exact ⟨Ca, dx, gs, z1, sh _ _ z2, sh _ _ z3, r.mono (Same.refl _) ⟨[p], rfl⟩⟩
    · exact ⟨p, amN, hc, hg⟩
  · rcases split e1 with ⟨f1, hi⟩ | ⟨i1, i2⟩
    · rw [amL hi] at h1
      rcases split e2 with ⟨f2, hj⟩ | ⟨j1, j2⟩
      · rw [amL hj] at h2
        exact wd.inj i j c d a f1 f2 h1 h2
      · rw [j1, amN] at h2; cases h2
        exact absurd rfl (old f1 h1)
    · rw [i1, amN] at h1; cases h1
      rcases split e2 with ⟨f2, hj⟩ | ⟨j1, j2⟩
      · rw [amL hj] at h2
        exact absurd rfl (old f2 h2)
      · rw [i1, j1]
  · obtain ⟨i, c, e, h⟩ := l
    rcases split e with ⟨e, hi⟩ | ⟨rfl, rfl⟩
    · rw [amL hi] at h
      exact .inl ⟨i, c, e, h⟩
    · rw [amN] at h; cases h
      exact .inr hp
  · rw [List.getElem?_append_left (List.getElem?_eq_some_iff.mp h).1]; exact h
theorem r_lstM (hs : PA X es (tEs X.K cA W fs)) : PE X (.List es pos) (tE X.K cA W fun env C => (fs env C).bind fun xs C => match vals xs with
    | none => .bad
    | some ds => if ds.length ≤ line then .ok (.r C.length) (C ++ [some (.lst ds)]) else .bad) := by
  refine PE.imp (pe_lst hs) fun σ H Q h => ?_
  obtain ⟨env, G, am, C, re, wd, d⟩ := tEs_one h
  refine ⟨env, G, am, C, re, wd, Dn.imp d fun vs H1 ⟨env1, G1, am1, C1, xs, re1, w1, rx, d1⟩ => ?_⟩
  cases h1 : vals xs with
  | none => simp only [h1] at d1; exact d1.elim
  | some ds =>
    simp only [h1] at d1
    split at d1
    · rename_i hl
      have rd := vals_rel rx h1
      refine ⟨by rw [← rd.length, ← line_eq]; exact hl, fun p hp => ?_⟩
      obtain ⟨w2, x2⟩ := w1.newC hp (o := .lst vs) (cl := .lst ds) ⟨vs, upd_same, rd⟩
      refine d1 G1 (am1 ++ [p]) _ (.ref p) x2 w2 ⟨p, ?_, rfl⟩
      rw [List.getElem?_append_right (by rw [w1.len]; exact Nat.le_refl _), w1.len]; simp
    · exact d1.elim

/-! ### subscripts -/
theorem r_idx (hp : plainX b = true) (ha : PE X a (tE X.K cA W fa)) (hb : PE X b (tE X.K cA W fb)) : PE X (.Subscript a b pos) (tE X.K cA W fun env C => (fa env C).bind fun x C => (fb env C).bind fun y C =>
      R.of ((see C x).bind fun x => (see C y).bind fun y => (idxV x y).map .v) C) := by
  refine PE.imp (pe_ix (ix_ok (cA := cA)) ha hb (ix_plain hp)) fun σ H Q h => ?_
  obtain ⟨env, G, am, C, re, wd, d⟩ := tE_two h
  refine ⟨env, G, am, C, re, wd, Dn.imp d fun vx H1 ⟨env1, G1, am1, C1, re1, w1, d1⟩ => ⟨env1, G1, am1, C1, re1, w1, Dn.imp d1 fun vy H2 ⟨env2, G2, am2, C2, x, y, re2, w2, rx, ry, d2⟩ => ?_⟩⟩
  obtain ⟨e, he, d2⟩ := of_some d2
  simp only [Option.bind_eq_some_iff, Option.map_eq_some_iff] at he
  obtain ⟨dx, hx, dy, hy, z, hz, rfl⟩ := he
  exact ⟨G2, am2, C2, dx, dy, z, w2, see_rel w2 rx hx, see_rel w2 ry hy, hz, Ans.of d2⟩
/-- a slice's part -/
def rO : WRel (Option Int) (Option Int) := fun _ _ _ _ a b => a = b
def tO (K : PySem.W.Frag) (cA : Cfg) (W : WX) (ev : Env → Cells → R (Option Int)) : TO := fun σ H Q =>
  ∃ env G am C, RelEnv K cA G am env σ ∧ Wd K cA G am C H ∧ Dn K cA rO W σ (ev env C) G am C H Q
theorem PO.imp {X : Cx} {e : Option Expr} {t t' : TO} (h : PO X e t) (i : ∀ σ H Q, t' σ H Q → t σ H Q) : PO X e t' := ⟨fun pins s σ H Q I q => h.run pins s σ H Q I (i σ H Q q)⟩
theorem r_noPart : PO X none (tO X.K cA W fun _ C => .ok none C) := PO.imp po_none fun σ H Q ⟨env, G, am, C, re, wd, d⟩ => d.here wd rfl
theorem r_part (ha : PE X a (tE X.K cA W fa)) : PO X (some a) (tO X.K cA W fun env C => (fa env C).bind fun x C => match x with
    | .v (.int i) => .ok (some i) C
    | _ => .bad) := by
  refine PO.imp (po_some ha) fun σ H Q ⟨env, G, am, C, re, wd, d⟩ => ?_
  refine ⟨env, G, am, C, re, wd, Dn.imp (Dn.bind (Rl := rE X.K cA) d) fun v H1 ⟨G1, am1, C1, x, x1, w1, rx, d1⟩ => ?_⟩
  cases x with
  | v dx =>
    cases dx <;> first | exact d1.elim | skip
    case int i =>
      simp only [rE, RelE, RelD] at rx
      exact ⟨i, rx, d1.here w1 rfl⟩
  | _ => exact d1.elim
theorem r_sl {lo hi : Option Expr} {fl fh : Env → Cells → R (Option Int)} {p2 : Pos} (ha : PE X a (tE X.K cA W fa)) (hl : PO X lo (tO X.K cA W fl)) (hh : PO X hi (tO X.K cA W fh)) : PE X (.Subscript a (.Slice lo hi none p2) pos) (tE X.K cA W fun env C => (fa env C).bind fun x C => (fl env C).bind fun l C => (fh env C).bind fun h C =>
      R.of ((see C x).bind fun x => (slV x l h).map .v) C) := by
  refine PE.imp (pe_slice (sl_ok (cA := cA)) ha hl hh) fun σ H Q ⟨env, G, am, C, re, wd, d⟩ => ?_
  refine ⟨env, G, am, C, re, wd, Dn.imp (Dn.bind (Rl := rE X.K cA) d) fun vx H1 ⟨G1, am1, C1, x, x1, w1, rx, d1⟩ => ?_⟩
  refine ⟨env, G1, am1, C1, re.mono x1, w1, Dn.imp (Dn.bind (Rl := rO) d1) fun l H2 ⟨G2, am2, C2, l', x2, w2, r2, d2⟩ => ?_⟩
  refine ⟨env, G2, am2, C2, (re.mono x1).mono x2, w2, Dn.imp (Dn.bind (Rl := rO) d2) fun h H3 ⟨G3, am3, C3, h', x3, w3, r3, d3⟩ => ?_⟩
  cases r2
  cases r3
  obtain ⟨e, he, d3⟩ := of_some d3
  simp only [Option.bind_eq_some_iff, Option.map_eq_some_iff] at he
  obtain ⟨dx, hx, z, hz, rfl⟩ := he
  exact ⟨G3, am3, C3, dx, z, w3, see_rel w3 (RelE.mono x3.g x3.a (RelE.mono x2.g x2.a rx)) hx, hz, Ans.of d3⟩

/-! ### calls of built-ins -/
theorem r_bi {P : Program} {w : World} {base : Heap} {pr : Prog} {tb : Tab} {call : Nat → List E → Cells → R E} {j : Nat} (g : Gd sx k W X) (F : Facts P w X.K X.mg base cA pr tb j call) (bi : Bi) {x : Str} {p : Pos} (hx : (biN bi : Str) = x) (hg : glB sx.sc x = true) (hh : biHot bi = true ∨ sx.hot = false)
    (hp : plainX a = true) (hps : es.all plainX = true) (hs : PA X (a :: es) (tEs X.K cA W fs)) : PE X (.Call (.Name x p) (a :: es) [] pos) (tE X.K cA W fun env C => (fs env C).bind fun xs C => R.of ((sees C xs).bind fun ds => (biV bi ds).map .v) C) := by
  obtain ⟨g1, g2, g3⟩ := g.gl hg
  have hc : biHot bi = true ∨ X.calm = true := hh.imp id g.calm
  have rd : ∀ σ H Q, tE X.K cA W (fun env C => (fs env C).bind fun xs C => R.of ((sees C xs).bind fun ds => (biV bi ds).map .v) C) σ H Q → tCB (rBi X cA bi) (tEs X.K cA W fs) σ H Q := fun σ H Q h => by
    obtain ⟨env, G, am, C, re, wd, d⟩ := tEs_one h
    refine ⟨env, G, am, C, re, wd, Dn.imp d fun vs H1 ⟨env1, G1, am1, C1, xs, re1, w1, rx, d1⟩ => ?_⟩
    obtain ⟨e, he, d1⟩ := of_some d1
    simp only [Option.bind_eq_some_iff, Option.map_eq_some_iff] at he
    obtain ⟨ds, h1, z, hz, rfl⟩ := he
    exact ⟨G1, am1, C1, ds, z, w1, sees_rel w1 rx h1, hz, Ans.of d1⟩
  subst hx
  have hb := biBoot bi
  have hr := bi_ok (X := X) (cA := cA) bi hc
  cases bi <;> first
    | exact PE.imp (pe_callB hr g1 (F.bi _) hb hs g3 g2 (star_cons hp) (star_any0 hps)) rd
    | exact PE.imp (pe_callTy hr g1 (F.bi _) hb hs g3 g2 (star_cons hp) (star_any0 hps)) rd

/-! ### calls of the text's own defs -/
theorem call_sp {call : Nat → List E → Cells → R E} {f : Nat} {σ : L2.St} {es : List E} {vs : List V} {G : Hp} {am : List Addr} {C : Cells} {H : Hp} {Q : VK} (wd : Wd X.K cA G am C H) (re : RelEs X.K cA G am es vs) (d : Dn X.K cA (rE X.K cA) W σ (call f es C) G am C H Q) :
    spF X.K cA call f vs H Q (WE W σ) := by
  refine ⟨es, G, am, C, wd, re, ?_⟩
  cases e : call f es C with
  | ok x C' => rw [e] at d; exact d
  | bad => rw [e] at d; exact d
  | exc c fs C' => rw [e] at d; exact d
/-- a callee that sees no cells -/
theorem pure_dn {call : Nat → List E → Cells → R E} {f : Nat} {σ : L2.St} {ds : List D} {G : Hp} {am : List Addr} {C : Cells} {H : Hp} {Q : VK} (wd : Wd X.K cA G am C H) (d : Dn X.K cA (rE X.K cA) W σ (pureCall call f ds C) G am C H Q) :
    Wd X.K cA G [] [] H ∧ Dn X.K cA (rE X.K cA) W σ (call f (ds.map .v) []) G [] [] H Q := by
  have w0 : Wd X.K cA G [] [] H := ⟨wd.tabs, wd.sub, rfl, fun i c e => by simp at e, fun i j c d a e => by simp at e⟩
  have up : ∀ {G' am' C' H'}, Ext G [] [] H G' am' C' H' → Wd X.K cA G' am' C' H' → Wd X.K cA G' am C H' ∧ Ext G am C H G' am C H' := fun {G' am' C' H'} x w => by
    have nl : ∀ b, ¬ Live [] [] b := fun b ⟨i, c, e, _⟩ => by simp at e
    have hk : ∀ b o, H b = some o → (∀ ps, o ≠ .tbl ps) → H' b = some o := fun b o e t => x.keep b o e (nl b) t
    refine ⟨⟨w.tabs, w.sub, wd.len, fun i c e => ?_, wd.inj⟩, ⟨x.g, ⟨[], by simp⟩, fun b o e _ t => hk b o e t, fun b ps e _ => x.tab b ps e (nl b), fun b l => .inl l, fun b o e => ?_, fun _ _ h => h⟩⟩
    · obtain ⟨b, h1, h2, h3⟩ := wd.cell i c e
      have there : ∃ o, H b = some o := by
        cases c with
        | lst xs => obtain ⟨us, z, _⟩ := h2; exact ⟨_, z⟩
        | lkd xs => obtain ⟨us, z, _⟩ := h2; exact ⟨_, z⟩
        | dct kvs => obtain ⟨us, z, _⟩ := h2; exact ⟨_, z⟩
        | ins c fs => obtain ⟨_, _, _, _, z, _⟩ := h2; exact ⟨_, z⟩
      refine ⟨b, h1, ?_, ?_⟩
      · cases c with
        | lst xs => obtain ⟨us, z, r⟩ := h2; exact ⟨us, hk _ _ z (by intro ps q; cases q), r.mono x.g⟩
        | lkd xs => obtain ⟨us, z, r⟩ := h2; exact ⟨us, hk _ _ z (by intro ps q; cases q), r.mono x.g⟩
        | dct kvs => obtain ⟨us, z, r⟩ := h2; exact ⟨us, hk _ _ z (by intro ps q; cases q), r.mono x.g⟩
        | ins c fs => obtain ⟨Ca, dx, gs, z1, z2, z3, r⟩ := h2; exact ⟨Ca, dx, gs, z1, hk _ _ z2 (by intro ps q; cases q), hk _ _ z3 (by intro ps q; cases q), r.mono x.g ⟨[], by simp⟩⟩
      · cases e2 : G' b with
        | none => rfl
        | some o =>
          obtain ⟨o', e3⟩ := there
          rcases x.gn b o e2 with z | z | z
          · rw [h3] at z; cases z
          · rw [e3] at z; cases z
          · exact (nl b z).elim
    · rcases x.gn b o e with z | z | z
      · exact .inl z
      · exact .inr (.inl z)
      · exact (nl b z).elim
  refine ⟨w0, ?_⟩
  unfold pureCall at d
  cases e : call f (ds.map .v) [] with
  | bad => rw [e] at d; exact d
  | exc c fs C' =>
    rw [e] at d
    intro G' am' H' cls dd x w r
    obtain ⟨w2, x2⟩ := up x w
    exact d G' am H' cls dd x2 w2 r
  | ok y C' =>
    rw [e] at d
    cases y with
    | v dy =>
      intro G' am' H' v x w r
      obtain ⟨w2, x2⟩ := up x w
      exact d G' am H' v x2 w2 r
    | _ => exact d.elim
/-- a world of its own within another's: what it comes to, seen from the other -/
theorem iso_up {G G1 G' : Hp} {am am0 am' : List Addr} {C C0 C' : Cells} {H H1 H' : Hp} (wd : Wd X.K cA G am C H) (sh : ∀ b o, H b = some o → H1 b = some o) (sg : Same G G1) (gw : ∀ b o, G1 b = some o → G b = some o ∨ H b = none)
    (nl : ∀ b, Live am0 C0 b → H b = none) (x : Ext G1 am0 C0 H1 G' am' C' H') (w : Wd X.K cA G' am' C' H') : Wd X.K cA G' am C H' ∧ Ext G am C H G' am C H' := by
  have live : ∀ {b o}, H b = some o → ¬ Live am0 C0 b := fun {b o} e l => by rw [nl b l] at e; cases e
  have hk : ∀ b o, H b = some o → (∀ ps, o ≠ .tbl ps) → H' b = some o := fun b o e t => x.keep b o (sh b o e) (live e) t
  have none1 : ∀ b, H1 b = none → H b = none := fun b z => by
    cases e : H b with
    | none => rfl
    | some o => rw [sh b o e] at z; cases z
  refine ⟨⟨w.tabs, w.sub, wd.len, fun i c e => ?_, wd.inj⟩, ⟨sg.trans x.g, ⟨[], by simp⟩, fun b o e _ t => hk b o e t, fun b ps e _ => x.tab b ps (sh b _ e) (live e), fun b l => .inl l, fun b o e => ?_, fun _ _ h => h⟩⟩
  · obtain ⟨b, h1, h2, h3⟩ := wd.cell i c e
    have there : ∃ o, H b = some o := by
      cases c with
      | lst xs => obtain ⟨us, z, _⟩ := h2; exact ⟨_, z⟩
      | lkd xs => obtain ⟨us, z, _⟩ := h2; exact ⟨_, z⟩
      | dct kvs => obtain ⟨us, z, _⟩ := h2; exact ⟨_, z⟩
      | ins c fs => obtain ⟨_, _, _, _, z, _⟩ := h2; exact ⟨_, z⟩
    refine ⟨b, h1, ?_, ?_⟩
    · have sgg := sg.trans x.g
      cases c with
      | lst xs => obtain ⟨us, z, r⟩ := h2; exact ⟨us, hk _ _ z (by intro ps q; cases q), r.mono sgg⟩
      | lkd xs => obtain ⟨us, z, r⟩ := h2; exact ⟨us, hk _ _ z (by intro ps q; cases q), r.mono sgg⟩
      | dct kvs => obtain ⟨us, z, r⟩ := h2; exact ⟨us, hk _ _ z (by intro ps q; cases q), r.mono sgg⟩
      | ins c fs => obtain ⟨Ca, dx, gs, z1, z2, z3, r⟩ := h2; exact ⟨Ca, dx, gs, z1, hk _ _ z2 (by intro ps q; cases q), hk _ _ z3 (by intro ps q; cases q), r.mono sgg ⟨[], by simp⟩⟩
    · cases e2 : G' b with
      | none => rfl
      | some o =>
        obtain ⟨o', e3⟩ := there
        rcases x.gn b o e2 with z | z | z
        · rcases gw b o z with q | q
          · rw [h3] at q; cases q
          · rw [e3] at q; cases q
        · rw [none1 b z] at e3; cases e3
        · exact (live e3 z).elim
  · rcases x.gn b o e with z | z | z
    · rcases gw b o z with q | q
      · exact .inl q
      · exact .inr (.inl q)
    · exact .inr (.inl (none1 b z))
    · exact .inr (.inl (nl b z))
theorem any_sp {call : Nat → List E → Cells → R E} {f : Nat} {σ : L2.St} {es : List E} {vs : List V} {G : Hp} {am : List Addr} {C : Cells} {H : Hp} {Q : VK} (wd : Wd X.K cA G am C H) (re : RelEs X.K cA G am es vs) (d : Dn X.K cA (rE X.K cA) W σ (callAny call f es C) G am C H Q) :
    spF X.K cA call f vs H Q (WE W σ) := by
  unfold callAny at d
  cases e : vals es with
  | none => simp only [e] at d; exact call_sp wd re d
  | some ds =>
    simp only [e] at d
    obtain ⟨w2, d2⟩ := pure_dn wd d
    exact call_sp w2 (RelEs.ofD (vals_rel re e)) d2
theorem r_call {pr : Prog} {tb : Tab} {call : Nat → List E → Cells → R E} (g : Gd sx k W X) (F : Facts X.prog X.w X.K X.mg X.base cA pr tb k call) {f : Nat} {nm : Nm} {x : Str} {p : Pos} (hf : tb.fn[f]? = some nm) (hn : nm ≠ []) (hx : T nm = x) (hg : glB sx.sc x = true) (hh : sx.hot = false)
    (hp : plainX a = true) (hps : es.all plainX = true) (hs : PA X (a :: es) (tEs X.K cA W fs)) : PE X (.Call (.Name x p) (a :: es) [] pos) (tE X.K cA W fun env C => (fs env C).bind fun xs C => callAny call f xs C) := by
  obtain ⟨g1, g2, g3⟩ := g.gl hg
  obtain ⟨fa, fd, ps, h1, h2, h3, h4⟩ := F.fn f nm hf hn
  subst hx
  refine PE.imp (pe_callSD h4 ((g.room hh).mono (Nat.le_succ _)) g1 h1 h2 h3 .nil (fun σ => passAt g.tk σ) hs g2 (star_cons hp) (star_any0 hps)) fun σ H Q h => ?_
  obtain ⟨env, G, am, C, re, wd, d⟩ := tEs_one h
  refine ⟨env, G, am, C, re, wd, Dn.imp d fun vs H1 ⟨env1, G1, am1, C1, xs, re1, w1, rx, d1⟩ => ?_⟩
  rw [List.append_nil]
  exact any_sp w1 rx d1
theorem r_callP {pr : Prog} {tb : Tab} {call : Nat → List E → Cells → R E} (g : Gd sx k W X) (F : Facts X.prog X.w X.K X.mg X.base cA pr tb k call) {f : Nat} {nm : Nm} {x : Str} {p : Pos} (hf : tb.fn[f]? = some nm) (hn : nm ≠ []) (hx : T nm = x) (hg : glB sx.sc x = true) (hh : sx.hot = false)
    (hp : plainX a = true) (hps : es.all plainX = true) (hs : PA X (a :: es) (tEs X.K cA W fs)) : PE X (.Call (.Name x p) (a :: es) [] pos) (tE X.K cA W fun env C => (fs env C).bind fun xs C => match vals xs with
      | none => .bad
      | some ds => pureCall call f ds C) := by
  obtain ⟨g1, g2, g3⟩ := g.gl hg
  obtain ⟨fa, fd, ps, h1, h2, h3, h4⟩ := F.fn f nm hf hn
  subst hx
  refine PE.imp (pe_callSD h4 ((g.room hh).mono (Nat.le_succ _)) g1 h1 h2 h3 .nil (fun σ => passAt g.tk σ) hs g2 (star_cons hp) (star_any0 hps)) fun σ H Q h => ?_
  obtain ⟨env, G, am, C, re, wd, d⟩ := tEs_one h
  refine ⟨env, G, am, C, re, wd, Dn.imp d fun vs H1 ⟨env1, G1, am1, C1, xs, re1, w1, rx, d1⟩ => ?_⟩
  rw [List.append_nil]
  cases e : vals xs with
  | none => simp only [e] at d1; exact d1.elim
  | some ds =>
    simp only [e] at d1
    obtain ⟨w2, d2⟩ := pure_dn w1 d1
    exact call_sp w2 (RelEs.ofD (vals_rel rx e)) d2
theorem r_call0 {pr : Prog} {tb : Tab} {call : Nat → List E → Cells → R E} (g : Gd sx k W X) (F : Facts X.prog X.w X.K X.mg X.base cA pr tb k call) {f : Nat} {nm : Nm} {x : Str} {p : Pos} (hf : tb.fn[f]? = some nm) (hn : nm ≠ []) (hx : T nm = x) (hg : glB sx.sc x = true) (hh : sx.hot = false) :
    PE X (.Call (.Name x p) [] [] pos) (tE X.K cA W fun env C => callAny call f [] C) := by
  obtain ⟨g1, g2, g3⟩ := g.gl hg
  obtain ⟨fa, fd, ps, h1, h2, h3, h4⟩ := F.fn f nm hf hn
  subst hx
  refine ⟨fun pins s σ H Q I ⟨env, G, am, C, re, wd, d⟩ => ?_⟩
  refine wpAny_Call_Name_kw (ld_glob I g1 h1 ?_ g2)
  exact PySem.W.callWith_K0 I.kIn h2 (run_fnSD (us := []) (vs := []) h4 ((g.room hh).mono (Nat.le_succ _)) h3 .nil (passAt g.tk σ) I .nil (any_sp (es := []) (vs := []) wd rfl d))
theorem r_callP0 {pr : Prog} {tb : Tab} {call : Nat → List E → Cells → R E} (g : Gd sx k W X) (F : Facts X.prog X.w X.K X.mg X.base cA pr tb k call) {f : Nat} {nm : Nm} {x : Str} {p : Pos} (hf : tb.fn[f]? = some nm) (hn : nm ≠ []) (hx : T nm = x) (hg : glB sx.sc x = true) (hh : sx.hot = false) :
    PE X (.Call (.Name x p) [] [] pos) (tE X.K cA W fun env C => pureCall call f [] C) := by
  obtain ⟨g1, g2, g3⟩ := g.gl hg
  obtain ⟨fa, fd, ps, h1, h2, h3, h4⟩ := F.fn f nm hf hn
  subst hx
  refine ⟨fun pins s σ H Q I ⟨env, G, am, C, re, wd, d⟩ => ?_⟩
  obtain ⟨w2, d2⟩ := pure_dn wd d
  refine wpAny_Call_Name_kw (ld_glob I g1 h1 ?_ g2)
  exact PySem.W.callWith_K0 I.kIn h2 (run_fnSD (us := []) (vs := []) h4 ((g.room hh).mono (Nat.le_succ _)) h3 .nil (passAt g.tk σ) I .nil (call_sp (es := []) (vs := []) w2 rfl d2))
end
end Ev

end

section
set_option maxRecDepth 512
set_option Elab.async false
set_option linter.all false
set_option maxRecDepth 100000
set_option maxHeartbeats 4000000
namespace Ev
open PySem L2 PySem.Spec PyProof.Rows

/-! ### isinstance of built-in classes -/
def tyN : Ty → String
  | .str => "str"
  | .int => "int"
  | .bool => "bool"
  | .list => "list"
  | .tuple => "tuple"
  | .dict => "dict"
  | .cls _ => ""
def tyOk : Ty → Bool
  | .cls _ => false
  | _ => true
theorem tyBoot {t : Ty} (h : tyOk t = true) : bootBuiltins (tyN t) = some (.type (tyN t)) := by
  cases t <;> first | (simp [tyOk] at h; done) | skip
  · exact PyProof.Rows.boot_str
  · exact PyProof.Rows.boot_int
  · exact PyProof.Rows.boot_bool
  · exact PyProof.Rows.boot_list
  · exact PyProof.Rows.boot_tuple
  · exact PyProof.Rows.boot_dict
def dTy : D → String
  | .non => "NoneType"
  | .bl _ => "bool"
  | .int _ => "int"
  | .str _ => "str"
  | .tup _ => "tuple"
  | .lst _ => "list"
  | .dct _ => "dict"
  | .ins _ _ => ""
theorem kit_all {K : PySem.W.Frag} {d : D} {t : Ty} (hd : dOk d = true) (h : tyOk t = true) : PySem.W.kitOne K (.type (dTy d)) (.type (tyN t)) = some (isT d t) := by
  cases d <;> first | (simp [dOk] at hd; done) | skip
  all_goals (cases t <;> first | (simp [tyOk] at h; done) | skip)
  all_goals exact kit_ty (by simp only [dTy, tyN, isT]; decide +kernel)
theorem kit_any {K : PySem.W.Frag} {d : D} (hd : dOk d = true) : ∀ {ts : List Ty} {b : Bool}, ts.all tyOk = true → isEs [] (.v d) ts = some b → PySem.W.kitAny K (.type (dTy d)) (ts.map fun t => .type (tyN t)) = some b
  | [], b, _, e => by cases e; rfl
  | t :: ts, b, h, e => by
    rw [List.all_cons, Bool.and_eq_true] at h
    simp only [isEs, isE, see, Option.bind_some] at e
    simp only [List.map_cons, PySem.W.kitAny, kit_all hd h.1]
    cases z : isT d t with
    | true => simp only [z, if_true] at e; cases e; rfl
    | false => simp only [z, Bool.false_eq_true, if_false] at e; exact kit_any hd h.2 e
theorem tyX_of {K : PySem.W.Frag} {cA : Cfg} {G H : Hp} (sb : Same G H) {d : D} {v : V} (hd : dOk d = true) (r : RelS K cA G H d v) : TyX K H v (.type (dTy d)) := by
  cases d <;> first | (simp [dOk] at hd; done) | skip
  · simp only [RelS, RelD] at r; subst r; exact .base .non
  · simp only [RelS, RelD] at r; subst r; exact .base (.bl _)
  · simp only [RelS, RelD] at r; subst r; exact .base (.int _)
  · simp only [RelS, RelD] at r; subst r; exact .base (.str _)
  · simp only [RelS, RelD] at r
    obtain ⟨p, us, rfl, h1, _⟩ := r
    rcases Same.sqt sb h1 with (h | ⟨o, h⟩) | ⟨o, its, n, h, hc, _⟩
    · exact .base (.tup h)
    · exact .fTuple h
    · exact .kTuple h hc
  · obtain ⟨p, us, rfl, h1, _⟩ := r
    rcases h1 with (h | ⟨o, h⟩) | ⟨o, its, n, h, hc, _⟩
    · exact .base (.lst h)
    · exact .base (.frz h)
    · exact .kList h hc
section
variable {X : Cx} {cA : Cfg} {sx : Sx} {k : Nat} {W : WX} {a b c : Expr} {es : List Expr} {fa fb fc : Env → Cells → R E} {fs : Env → Cells → R (List E)} {pos : Pos}
theorem starEach_one {e : Expr} {env : PySem.Env} (h : plainX e = true) : starEach [e] env = [(false, eval e env)] := star_cons h
/-- isinstance(a, T) -/
theorem r_isi1 {P : Program} {w : World} {base : Heap} {pr : Prog} {tb : Tab} {j : Nat} {call : Nat → List E → Cells → R E} (g : Gd sx k W X) (F : Facts P w X.K X.mg base cA pr tb j call) {x : Str} {p q : Pos} (hx : ("isinstance" : Str) = x) (hg : glB sx.sc x = true) {t : Ty} {y : Str} (ht : tyOk t = true) (hy : (tyN t : Str) = y) (hm : X.mg y = none) (hgy : glB sx.sc y = true) (hp : plainX a = true)
    (ha : PE X a (tE X.K cA W fa)) : PE X (.Call (.Name x p) [a, .Name y q] [] pos) (tE X.K cA W fun env C => (fa env C).bind fun x C => R.of ((isiE C x [t]).map fun b => .v (.bl b)) C) := by
  obtain ⟨g1, g2, g3⟩ := g.gl hg
  obtain ⟨g4, g5, g6⟩ := g.gl hgy
  subst hx
  subst hy
  refine PE.imp (pe_callB call_isi g1 F.isi PyProof.Rows.boot_isinstance (pa_cons ha (pa_cons (pe_bltn (v := .ty (tyN t)) g4 hm (tyBoot ht) rfl g6 g5) pa_nil (star_cons rfl)) (star_cons hp)) g3 g2 (star_cons hp) rfl) fun σ H Q h => ?_
  obtain ⟨env, G, am, C, re, wd, d⟩ := tE_one h
  refine ⟨env, G, am, C, re, wd, Dn.imp d fun vx H1 ⟨env1, G1, am1, C1, x, re1, w1, rx, d1⟩ => ?_⟩
  obtain ⟨e, he, d1⟩ := of_some d1
  rw [Option.map_eq_some_iff] at he
  obtain ⟨bb, he, rfl⟩ := he
  unfold isiE at he
  cases e1 : see C1 x with
  | none => simp only [e1] at he; cases he
  | some dx =>
    simp only [e1] at he
    split at he
    · rename_i hd
      have ka := kit_any (K := X.K) hd (ts := [t]) (by simp [ht]) he
      have k1 : PySem.W.kitOne X.K (.type (dTy dx)) (.type (tyN t)) = some bb := by
        have k0 := kit_all (K := X.K) hd ht
        rw [k0]
        simp only [isEs, isE, see, Option.bind_some] at he
        cases z : isT dx t <;> simp [z] at he <;> rw [← he]
      exact ⟨vx, .ty (tyN t), .type (dTy dx), .type (tyN t), bb, rfl, .ty _, tyX_of w1.sub hd (see_rel w1 rx e1), k1, d1.here w1 (by simp only [rE, RelE, RelD])⟩
    · cases he
/-- isinstance(a, (T, U)) -/
theorem tys_vals : ∀ ts : List Ty, Paired ClsV (ts.map fun t => V.ty (tyN t)) (ts.map fun t => Value.type (tyN t))
  | [] => .nil
  | t :: ts => .cons (.ty _) (tys_vals ts)
theorem r_isi2 {P : Program} {w : World} {base : Heap} {pr : Prog} {tb : Tab} {j : Nat} {call : Nat → List E → Cells → R E} (g : Gd sx k W X) (F : Facts P w X.K X.mg base cA pr tb j call) {x : Str} {p q1 q2 q3 : Pos} {n : Nat} (hx : ("isinstance" : Str) = x) (hg : glB sx.sc x = true)
    {t u : Ty} {y z : Str} (ht : tyOk t = true) (hy : (tyN t : Str) = y) (hm : X.mg y = none) (hgy : glB sx.sc y = true) (ht2 : tyOk u = true) (hz : (tyN u : Str) = z) (hm2 : X.mg z = none) (hgz : glB sx.sc z = true) (hp : plainX a = true)
    (ha : PE X a (tE X.K cA W fa)) : PE X (.Call (.Name x p) [a, .Tuple [.Name y q1, .Name z q2] n q3] [] pos) (tE X.K cA W fun env C => (fa env C).bind fun x C => R.of ((isiE C x [t, u]).map fun b => .v (.bl b)) C) := by
  obtain ⟨g1, g2, g3⟩ := g.gl hg
  obtain ⟨g4, g5, g6⟩ := g.gl hgy
  obtain ⟨g7, g8, g9⟩ := g.gl hgz
  subst hx
  subst hy
  subst hz
  refine PE.imp (pe_callB call_isiT g1 F.isi PyProof.Rows.boot_isinstance (pa_cons ha (pa_cons (pe_tup (pa_cons (pe_bltn (v := .ty (tyN t)) g4 hm (tyBoot ht) rfl g6 g5) (pa_cons (pe_bltn (v := .ty (tyN u)) g7 hm2 (tyBoot ht2) rfl g9 g8) pa_nil (star_cons rfl)) (star_cons rfl))) pa_nil (star_cons rfl)) (star_cons hp)) g3 g2 (star_cons hp) rfl) fun σ H Q h => ?_
  obtain ⟨env, G, am, C, re, wd, d⟩ := tE_one h
  refine ⟨env, G, am, C, re, wd, Dn.imp d fun vx H1 ⟨env1, G1, am1, C1, x, re1, w1, rx, d1⟩ => ?_⟩
  obtain ⟨e, he, d1⟩ := of_some d1
  rw [Option.map_eq_some_iff] at he
  obtain ⟨bb, he, rfl⟩ := he
  unfold isiE at he
  cases e1 : see C1 x with
  | none => simp only [e1] at he; cases he
  | some dx =>
    simp only [e1] at he
    split at he
    · rename_i hd
      have ka := kit_any (K := X.K) hd (ts := [t, u]) (by simp [ht, ht2]) he
      refine ⟨by show 2 ≤ sizeLine; decide, fun p hp => ?_⟩
      obtain ⟨w2, x2⟩ := w1.new hp (.tup [.ty (tyN t), .ty (tyN u)])
      exact ⟨vx, p, [.ty (tyN t), .ty (tyN u)], .type (dTy dx), [.type (tyN t), .type (tyN u)], bb, rfl, upd_same, tys_vals [t, u], tyX_of w2.sub hd (see_rel w2 (RelE.mono x2.g x2.a rx) e1), ka, d1.shift x2 |>.here w2 (by simp only [rE, RelE, RelD])⟩
    · cases he
end
end Ev

end

section
set_option maxRecDepth 512
set_option Elab.async false
set_option linter.all false
set_option maxRecDepth 100000
set_option maxHeartbeats 4000000
namespace Ev
open PySem L2 PySem.Spec PyProof.Rows

section
variable {K : PySem.W.Frag} {cA : Cfg} {G G' : Hp} {am : List Addr} {C : Cells} {H : Hp} {σ : L2.St} {env : Env}
theorem RelEnv.setS {i : Nat} {e : E} {v : V} (re : RelEnv K cA G am env σ) (r : RelSl K cA G am e v) : RelEnv K cA G am (env.set i (some e)) (σ.set i (some v)) := by
  refine ⟨by simp [re.1], fun j e' h => ?_⟩
  by_cases hj : i = j
  · subst hj
    by_cases hl : i < env.length
    · rw [List.getElem?_set_self hl] at h
      cases h
      exact ⟨v, List.getElem?_set_self (by rw [← re.1]; exact hl), r⟩
    · rw [List.getElem?_eq_none (by simpa using hl)] at h; cases h
  · rw [List.getElem?_set_ne hj] at h
    obtain ⟨v', h1, h2⟩ := re.2 j e' h
    exact ⟨v', by rw [List.getElem?_set_ne hj]; exact h1, h2⟩
theorem RelEnv.set {i : Nat} {e : E} {v : V} (re : RelEnv K cA G am env σ) (r : RelE K cA G am e v) : RelEnv K cA G am (env.set i (some e)) (σ.set i (some v)) := re.setS (.inl r)
theorem RelEnv.drop {i : Nat} {o : Option V} (re : RelEnv K cA G am env σ) : RelEnv K cA G am (env.set i none) (σ.set i o) := by
  refine ⟨by simp [re.1], fun j e' h => ?_⟩
  by_cases hj : i = j
  · subst hj
    by_cases hl : i < env.length
    · rw [List.getElem?_set_self hl] at h; cases h
    · rw [List.getElem?_eq_none (by simpa using hl)] at h; cases h
  · rw [List.getElem?_set_ne hj] at h
    obtain ⟨v', h1, h2⟩ := re.2 j e' h
    exact ⟨v', by rw [List.getElem?_set_ne hj]; exact h1, h2⟩
theorem RelEnv.wipe (re : RelEnv K cA G am env σ) : ∀ is : List Nat, RelEnv K cA G am (wipeE env is) (L2.wipe σ is)
  | [] => re
  | i :: is => (RelEnv.wipe re is).drop
end

/-! ### targets -/
/-- alike but at some slots -/
def Off (is : List Nat) (σ σ' : L2.St) : Prop := σ'.length = σ.length ∧ ∀ i, i ∉ is → σ'[i]? = σ[i]?
theorem Off.refl {is : List Nat} {σ : L2.St} : Off is σ σ := ⟨rfl, fun _ _ => rfl⟩
theorem Off.trans {is : List Nat} {σ σ1 σ2 : L2.St} (a : Off is σ σ1) (b : Off is σ1 σ2) : Off is σ σ2 := ⟨b.1.trans a.1, fun i h => (b.2 i h).trans (a.2 i h)⟩
theorem Off.mono {is js : List Nat} {σ σ' : L2.St} (a : Off is σ σ') (h : ∀ i ∈ is, i ∈ js) : Off js σ σ' := ⟨a.1, fun i hi => a.2 i fun z => hi (h i z)⟩
theorem wipe_get {σ : L2.St} : ∀ {vs : List Nat} {i : Nat}, (L2.wipe σ vs)[i]? = if i ∈ vs then (if i < σ.length then some none else none) else σ[i]?
  | [], i => by simp [L2.wipe]
  | v :: vs, i => by
    unfold L2.wipe
    by_cases hi : v = i
    · subst hi
      by_cases hl : v < σ.length
      · rw [List.getElem?_set_self (by rw [wipe_length]; exact hl)]; simp [hl]
      · rw [List.getElem?_eq_none (by simp [wipe_length]; omega)]; simp [hl]
    · rw [List.getElem?_set_ne hi, wipe_get]
      have : i ≠ v := fun e => hi e.symm
      simp [this]
theorem Off.wipe {is vs : List Nat} {σ σ' : L2.St} (a : Off is σ σ') (h : ∀ i ∈ is, i ∈ vs) : L2.wipe σ' vs = L2.wipe σ vs := by
  apply List.ext_getElem?
  intro i
  rw [wipe_get, wipe_get, a.1]
  by_cases hi : i ∈ vs
  · simp [hi]
  · simp only [hi, if_false]
    exact a.2 i fun z => hi (h i z)
def tG (K : PySem.W.Frag) (cA : Cfg) (t : Tg) : TG := fun v σ H Q =>
  ∃ env G am C d env', RelEnv K cA G am env σ ∧ Wd K cA G am C H ∧ RelD K cA G d v ∧ asgT t d env = some env' ∧ ∀ σ', RelEnv K cA G am env' σ' → Off (tsl t) σ σ' → Q σ' H
def tGs (K : PySem.W.Frag) (cA : Cfg) (t : Tgs) : TGs := fun vs σ H Q =>
  ∃ env G am C ds env', RelEnv K cA G am env σ ∧ Wd K cA G am C H ∧ RelDs K cA G ds vs ∧ asgTs t ds env = some env' ∧ ∀ σ', RelEnv K cA G am env' σ' → Off (tsls t) σ σ' → Q σ' H
theorem PG.imp {X : Cx} {e : Expr} {t t' : TG} (h : PG X e t) (i : ∀ v σ H Q, t' v σ H Q → t v σ H Q) : PG X e t' := ⟨fun pins s σ H v u Q I r q => h.run pins s σ H v u Q I r (i v σ H Q q)⟩
theorem PG.or {X : Cx} {e : Expr} {t t' : TG} (h : PG X e t) (h' : PG X e t') : PG X e (fun v σ H Q => t v σ H Q ∨ t' v σ H Q) := ⟨fun pins s σ H v u Q I r q => q.elim (h.run pins s σ H v u Q I r) (h'.run pins s σ H v u Q I r)⟩
theorem PGs.imp {X : Cx} {e : List Expr} {t t' : TGs} (h : PGs X e t) (i : ∀ v σ H Q, t' v σ H Q → t v σ H Q) : PGs X e t' := ⟨fun pins s σ H v u Q I r q => h.run pins s σ H v u Q I r (i v σ H Q q)⟩
mutual
def ckT (sx : Sx) : Tg → Expr → Bool
  | .nm i, .Name x _ => nmAt sx.N i x && sx.st.any fun y => decide (T y = x)
  | .tup ts, .Tuple es _ _ => !sx.hot && ckTs sx ts es
  | _, _ => false
def ckTs (sx : Sx) : Tgs → List Expr → Bool
  | .nil, [] => true
  | .cons t ts, e :: es => plainX e && ckT sx t e && ckTs sx ts es
  | _, _ => false
end
theorem each_len {env : PySem.Env} : ∀ {es : List Expr}, es.all plainX = true → (assignEach es env).length = es.length
  | [], _ => rfl
  | e :: es, h => by
    rw [List.all_cons, Bool.and_eq_true] at h
    have := each_len (env := env) h.2
    cases e <;> first | (simp [plainX] at h; done) | (show (assignEach es env).length + 1 = es.length + 1; rw [this])
theorem each_idx {env : PySem.Env} : ∀ {es : List Expr}, es.all plainX = true → (assignEach es env).findIdx? (·.1) = none
  | [], _ => rfl
  | e :: es, h => by
    rw [List.all_cons, Bool.and_eq_true] at h
    have ih := each_idx (env := env) h.2
    have e1 : assignEach (e :: es) env = (false, assign e env) :: assignEach es env := by
      cases e <;> first | rfl | (simp [plainX] at h)
    rw [e1, List.findIdx?_cons]
    simp [ih]
theorem ckTs_plain {sx : Sx} : ∀ {ts : Tgs} {es : List Expr}, ckTs sx ts es = true → es.all plainX = true
  | .nil, [], _ => rfl
  | .cons t ts, e :: es, h => by
    simp only [ckTs, Bool.and_eq_true] at h
    rw [List.all_cons, Bool.and_eq_true]
    exact ⟨h.1.1, ckTs_plain h.2⟩
  | .nil, _ :: _, h => by simp [ckTs] at h
  | .cons _ _, [], h => by simp [ckTs] at h
def tlen : Tgs → Nat
  | .nil => 0
  | .cons _ ts => tlen ts + 1
theorem ckTs_len {sx : Sx} : ∀ {ts : Tgs} {es : List Expr}, ckTs sx ts es = true → es.length = tlen ts
  | .nil, [], _ => rfl
  | .cons t ts, e :: es, h => by
    simp only [ckTs, Bool.and_eq_true] at h
    simp [tlen, ckTs_len h.2]
  | .nil, _ :: _, h => by simp [ckTs] at h
  | .cons _ _, [], h => by simp [ckTs] at h
theorem asgTs_len : ∀ {ts : Tgs} {ds : List D} {env env' : Env}, asgTs ts ds env = some env' → ds.length = tlen ts
  | .nil, [], _, _, _ => rfl
  | .nil, _ :: _, _, _, h => by simp [asgTs] at h
  | .cons _ _, [], _, _, h => by simp [asgTs] at h
  | .cons t ts, d :: ds, env, env', h => by
    simp only [asgTs, Option.bind_eq_some_iff] at h
    obtain ⟨e1, _, h⟩ := h
    simp [tlen, asgTs_len h]
section
variable {X : Cx} {cA : Cfg} {sx : Sx} {k : Nat} {W : WX}
mutual
theorem r_tg (g : Gd sx k W X) : ∀ {t : Tg} {e : Expr}, ckT sx t e = true → PG X e (tG X.K cA t)
  | .nm i, .Name x p, h => by
    simp only [ckT, Bool.and_eq_true, List.any_eq_true, decide_eq_true_eq] at h
    obtain ⟨h1, y, hy, rfl⟩ := h
    obtain ⟨l1, l2⟩ := g.stb y hy
    refine PG.imp (pg_name g.nd (g.at h1) l1 l2) fun v σ H Q ⟨env, G, am, C, d, env', re, wd, rd, ea, q⟩ => ?_
    simp only [asgT, Option.some.injEq] at ea
    subst ea
    exact q _ (re.set (e := .v d) rd) ⟨by simp, fun j hj => List.getElem?_set_ne fun e => hj (by simp [tsl, e])⟩
  | .tup ts, .Tuple es n p, h => by
    simp only [ckT, Bool.and_eq_true, Bool.not_eq_true'] at h
    have pl := ckTs_plain h.2
    have hh := g.calm h.1
    have len := (each_len (env := X.env) pl).trans (ckTs_len h.2)
    have ps := r_tgs g h.2
    refine PG.imp (PG.or (pg_tup hh ps len (each_idx pl)) (pg_lst hh ps len (each_idx pl))) fun v σ H Q ⟨env, G, am, C, d, env', re, wd, rd, ea, q⟩ => ?_
    cases d with
    | tup xs =>
      simp only [asgT] at ea
      simp only [RelD] at rd
      obtain ⟨a, us, rfl, h1, h2⟩ := rd
      exact .inl ⟨a, us, rfl, Same.sqt wd.sub h1, by rw [← h2.length]; exact asgTs_len ea, env, G, am, C, xs, env', re, wd, h2, ea, fun σ' r o => q σ' r o⟩
    | lst xs =>
      simp only [asgT] at ea
      simp only [RelD] at rd
      obtain ⟨a, us, rfl, h1, h2⟩ := rd
      exact .inr ⟨a, us, rfl, wd.sub.seq h1, by rw [← h2.length]; exact asgTs_len ea, env, G, am, C, xs, env', re, wd, h2, ea, fun σ' r o => q σ' r o⟩
    | _ => simp [asgT] at ea
theorem r_tgs (g : Gd sx k W X) : ∀ {ts : Tgs} {es : List Expr}, ckTs sx ts es = true → PGs X es (tGs X.K cA ts)
  | .nil, [], h => PGs.imp pgs_nil fun vs σ H Q ⟨env, G, am, C, ds, env', re, wd, rd, ea, q⟩ => by
    cases ds with
    | nil =>
      simp only [asgTs, Option.some.injEq] at ea
      subst ea
      exact ⟨by simpa only [RelDs] using rd, q σ re Off.refl⟩
    | cons d ds => simp [asgTs] at ea
  | .cons t ts, e :: es, h => by
    simp only [ckTs, Bool.and_eq_true] at h
    have hs : (assignEach (e :: es) X.env).map (·.2) = assign e X.env :: (assignEach es X.env).map (·.2) := by
      have := h.1.1
      cases e <;> first | rfl | (simp [plainX] at this)
    refine PGs.imp (pgs_cons (r_tg g h.1.2) (r_tgs g h.2) hs) fun vs σ H Q ⟨env, G, am, C, ds, env', re, wd, rd, ea, q⟩ => ?_
    cases ds with
    | nil => simp [asgTs] at ea
    | cons d ds =>
      simp only [asgTs, Option.bind_eq_some_iff] at ea
      obtain ⟨e1, a1, a2⟩ := ea
      simp only [RelDs] at rd
      obtain ⟨v, r, rfl, r1, r2⟩ := rd
      exact ⟨v, r, rfl, env, G, am, C, d, e1, re, wd, r1, a1, fun σ' re' o1 => ⟨e1, G, am, C, ds, env', re', wd, r2, a2, fun σ'' r'' o2 => q σ'' r'' ((o1.mono fun i hi => by simp [tsls, hi]).trans (o2.mono fun i hi => by simp [tsls, hi]))⟩⟩
end
end

/-! ### what is walked -/
theorem PI.imp {X : Cx} {tg e : Expr} {t t' : TI} (h : PI X tg e t) (i : ∀ σ H Q, t' σ H Q → t σ H Q) : PI X tg e t' := ⟨fun pins s σ H R I q => h.run pins s σ H R I (i σ H R q)⟩
theorem PI.or {X : Cx} {tg e : Expr} {t t' : TI} (h : PI X tg e t) (h' : PI X tg e t') : PI X tg e (fun σ H R => t σ H R ∨ t' σ H R) := ⟨fun pins s σ H R I q => q.elim (h.run pins s σ H R I) (h'.run pins s σ H R I)⟩
/-- behind a world, for what is walked -/
structure Bhd (G : Hp) (am : List Addr) (C : Cells) (G2 : Hp) (am2 : List Addr) (C2 : Cells) : Prop where
  g : Same G G2
  a : ∃ t, am2 = am ++ t
  lk : ∀ (n : Nat) (xs : List D), C[n]? = some (some (.lkd xs)) → C2[n]? = some (some (.lkd xs))
/-- J yields the trees ds, in any world behind this one -/
def WalkD (K : PySem.W.Frag) (cA : Cfg) (J : L2.It) (ds : List D) (G : Hp) (am : List Addr) (C : Cells) (H : Hp) : Prop :=
  ∀ G2 am2 C2 H2, Bhd G am C G2 am2 C2 → Wd K cA G2 am2 C2 H2 →
    (∀ i, i < ds.length → J.go i H2) ∧ J.stop ds.length H2 ∧ ∀ i x H', i < ds.length → J.yld i H2 x H' → ∃ d G', ds[i]? = some d ∧ Ext G2 am2 C2 H2 G' am2 C2 H' ∧ Wd K cA G' am2 C2 H' ∧ RelD K cA G' d x
/-- what a walk asks -/
def DnI (K : PySem.W.Frag) (cA : Cfg) (W : WX) (σ : L2.St) (r : R (List D × E)) (G : Hp) (am : List Addr) (C : Cells) (H : Hp) (R : L2.It → Hp → Prop) : Prop :=
  match r with
  | .ok a C' => ∀ G' am' H' J, Ext G am C H G' am' C' H' → Wd K cA G' am' C' H' → WalkD K cA J a.1 G' am' (lock C' a.2) H' → R J H'
  | .exc c fs C' => ∀ G' am' H' cls dd, Ext G am C H G' am' C' H' → Wd K cA G' am' C' H' → RelX K cA G' c fs cls dd → W cls dd σ H'
  | .bad => False
def tI (K : PySem.W.Frag) (cA : Cfg) (W : WX) (ev : Env → Cells → R (List D × E)) : TI := fun σ H R =>
  ∃ env G am C, RelEnv K cA G am env σ ∧ Wd K cA G am C H ∧ DnI K cA W σ (ev env C) G am C H R
section
variable {K : PySem.W.Frag} {cA : Cfg} {W : WX} {σ : L2.St} {G G' : Hp} {am am' : List Addr} {C C' : Cells} {H H' : Hp}
theorem DnI.shift {r : R (List D × E)} {Q : L2.It → Hp → Prop} (x : Ext G am C H G' am' C' H') (h : DnI K cA W σ r G am C H Q) : DnI K cA W σ r G' am' C' H' Q := by
  cases r with
  | ok a C2 => exact fun G2 am2 H2 v x2 w2 r2 => h G2 am2 H2 v (x.trans x2) w2 r2
  | exc c fs C2 => exact fun G2 am2 H2 v dd x2 w2 r2 => h G2 am2 H2 v dd (x.trans x2) w2 r2
  | bad => exact h
theorem DnI.bind {α β : Type} {Rl : WRel α β} {r : R α} {f : α → Cells → R (List D × E)} {Q : L2.It → Hp → Prop} (h : DnI K cA W σ (r.bind f) G am C H Q) :
    Dn K cA Rl W σ r G am C H fun v H1 => ∃ G1 am1 C1 a, Ext G am C H G1 am1 C1 H1 ∧ Wd K cA G1 am1 C1 H1 ∧ Rl G1 am1 C1 H1 a v ∧ DnI K cA W σ (f a C1) G1 am1 C1 H1 Q := by
  cases r with
  | ok a C2 => exact fun G2 am2 H2 v x2 w2 r2 => ⟨G2, am2, C2, a, x2, w2, r2, h.shift x2⟩
  | exc c fs C2 => exact h
  | bad => exact h
/-- a walk over a list, as one of its items' makes tells -/
theorem walkD_of {J : L2.It} {ds : List D} {Gp : Hp → Prop} {n : Nat} {Y : Nat → Hp → V → Hp → Prop} (w : Walk J n Gp Y) (hn : n = ds.length)
    (h : ∀ G2 am2 C2 H2, Bhd G am C G2 am2 C2 → Wd K cA G2 am2 C2 H2 → Gp H2 ∧ ∀ i x H', i < ds.length → Y i H2 x H' → ∃ d G', ds[i]? = some d ∧ Ext G2 am2 C2 H2 G' am2 C2 H' ∧ Wd K cA G' am2 C2 H' ∧ RelD K cA G' d x) : WalkD K cA J ds G am C H := by
  subst hn
  intro G2 am2 C2 H2 x w2
  obtain ⟨h1, h2⟩ := h G2 am2 C2 H2 x w2
  exact ⟨fun i hi => w.goes i H2 hi h1, w.stops H2 h1, fun i x H' hi y => h2 i x H' hi (w.yields i H2 x H' hi h1 y)⟩
/-- where the items lie that a value shows -/
theorem lock_src {e : E} {v : V} {xs : List D} (wd : Wd K cA G am C H) (r : RelE K cA G am e v) (hs : see C e = some (.lst xs)) :
    ∃ a, v = .ref a ∧ (∃ us, SqL K H a us) ∧ ∀ G2 am2 C2 H2, Bhd G am (lock C e) G2 am2 C2 → Wd K cA G2 am2 C2 H2 → ∃ us, us.length = xs.length ∧ SqL K H2 a us ∧ RelDs K cA G2 xs us := by
  cases e with
  | v d =>
    simp only [see, Option.some.injEq] at hs
    subst hs
    simp only [RelE, RelD] at r
    obtain ⟨a, us, rfl, h1, h2⟩ := r
    exact ⟨a, rfl, ⟨us, wd.sub.seq h1⟩, fun G2 am2 C2 H2 x w2 => ⟨us, h2.length.symm, w2.sub.seq (x.g.seq h1), h2.mono x.g⟩⟩
  | r n =>
    obtain ⟨a, h1, rfl⟩ := r
    simp only [see, cellAt] at hs
    cases hc : C[n]? with
    | none => simp [hc] at hs
    | some o =>
      cases o with
      | none => simp [hc] at hs
      | some c =>
        simp [hc] at hs
        obtain ⟨a', ha, hO, _⟩ := wd.cell n c hc
        rw [h1] at ha; cases ha
        have hl : (lock C (.r n))[n]? = some (some (.lkd xs)) := by
          simp only [lock, cellAt, hc, Option.join_some]
          cases c with
          | lst ys =>
            simp [cellD] at hs; subst hs
            exact List.getElem?_set_self (List.getElem?_eq_some_iff.mp hc).1
          | lkd ys =>
            simp [cellD] at hs; subst hs
            exact hc
          | dct kvs => simp [cellD] at hs
          | ins c fs => simp [cellD] at hs
        refine ⟨a, rfl, ?_, fun G2 am2 C2 H2 x w2 => ?_⟩
        · cases c with
          | lst ys => obtain ⟨us, z, _⟩ := hO; exact ⟨us, SqL.of z⟩
          | lkd ys => obtain ⟨us, z, _⟩ := hO; exact ⟨us, SqL.of z⟩
          | dct kvs => simp [cellD] at hs
          | ins c fs => simp [cellD] at hs
        · obtain ⟨b, hb, ⟨us, z, rd⟩, _⟩ := w2.cell n _ (x.lk n xs hl)
          obtain ⟨t, ht⟩ := x.a
          rw [ht, List.getElem?_append_left (List.getElem?_eq_some_iff.mp h1).1, h1] at hb
          cases hb
          exact ⟨us, rd.length.symm, SqL.of z, rd⟩
  | clo j => exact r.elim
  | exn c fs => exact r.elim
end
end Ev

end

section
set_option maxRecDepth 512
set_option Elab.async false
set_option linter.all false
set_option maxRecDepth 100000
set_option maxHeartbeats 4000000
namespace Ev
open PySem L2 PySem.Spec PyProof.Rows

section
variable {K : PySem.W.Frag} {cA : Cfg} {W : WX} {σ : L2.St} {G G' : Hp} {am am' : List Addr} {C C' : Cells} {H H' : Hp}
theorem RelDs.back {ds : List D} {us : List V} {i : Nat} {x : V} (r : RelDs K cA G ds us) (h : us[i]? = some x) : ∃ d, ds[i]? = some d ∧ RelD K cA G d x := by
  have hi : i < ds.length := by rw [r.length]; exact (List.getElem?_eq_some_iff.mp h).1
  obtain ⟨v, h1, h2⟩ := r.get (i := i) (d := ds[i]) (by simp [hi])
  rw [h] at h1; cases h1
  exact ⟨ds[i], by simp [hi], h2⟩
theorem rangeD_get : ∀ (n : Nat) (lo s : Int) (i : Nat), i < n → (rangeD lo s n)[i]? = some (.int (lo + (i : Nat) * s))
  | 0, _, _, _, h => by omega
  | n + 1, lo, s, 0, _ => by simp [rangeD]
  | n + 1, lo, s, i + 1, h => by
    have e : lo + s + (i : Int) * s = lo + ((i + 1 : Nat) : Int) * s := by
      have : ((i + 1 : Nat) : Int) * s = (i : Int) * s + s := by rw [Int.natCast_succ, Int.add_mul, Int.one_mul]
      omega
    rw [rangeD, List.getElem?_cons_succ, rangeD_get n (lo + s) s i (by omega), e]
theorem rangeD_len : ∀ (n : Nat) (lo s : Int), (rangeD lo s n).length = n
  | 0, _, _ => rfl
  | n + 1, lo, s => by rw [rangeD, List.length_cons, rangeD_len]
theorem enumD_get : ∀ (xs : List D) (k i : Nat) {d : D}, xs[i]? = some d → (enumD k xs)[i]? = some (.tup [.int ((k + i : Nat) : Int), d])
  | [], _, _, _, h => by simp at h
  | x :: xs, k, 0, _, h => by simp at h; subst h; simp [enumD]
  | x :: xs, k, i + 1, _, h => by
    rw [enumD, List.getElem?_cons_succ, enumD_get xs (k + 1) i (by simpa using h), show k + 1 + i = k + (i + 1) by omega]
theorem enumD_len : ∀ (xs : List D) (k : Nat), (enumD k xs).length = xs.length
  | [], _ => rfl
  | x :: xs, k => by rw [enumD, List.length_cons, enumD_len, List.length_cons]
end
section
variable {X : Cx} {cA : Cfg} {sx : Sx} {k : Nat} {W : WX} {a b c : Expr} {es : List Expr} {fa fb fc : Env → Cells → R E} {fs : Env → Cells → R (List E)} {pos : Pos}
theorem r_seq {tg : Expr} (ha : PE X a (tE X.K cA W fa)) : PI X tg a (tI X.K cA W fun env C => (fa env C).bind fun x C => match (see C x).bind seqD with
    | none => .bad
    | some ds => .ok (ds, x) C) := by
  refine PI.imp (PI.or (PI.or (pi_list ha) (pi_tup ha)) (pi_str ha)) fun σ H R ⟨env, G, am, C, re, wd, d⟩ => ?_
  dsimp only at d
  cases e : fa env C with
  | bad => rw [e] at d; exact d.elim
  | exc c fs C1 => rw [e] at d; exact .inl (.inl ⟨env, G, am, C, re, wd, by rw [e]; exact d⟩)
  | ok x C1 =>
    rw [e, Ev.R.bind_ok] at d
    cases e1 : see C1 x with
    | none => simp only [e1, Option.bind_none] at d; exact d.elim
    | some dx =>
      simp only [e1, Option.bind_some] at d
      cases e2 : seqD dx with
      | none => simp only [e2] at d; exact d.elim
      | some ds =>
        simp only [e2] at d
        cases dx <;> simp only [seqD] at e2 <;> first | (cases e2; done) | skip
        case str z =>
          cases e2
          refine .inr ⟨env, G, am, C, re, wd, ?_⟩
          rw [e]
          intro G' am' H' v x1 w1 rl
          have hs := see_rel w1 rl e1
          simp only [RelS, RelD] at hs
          subst hs
          refine ⟨_, rfl, d G' am' H' _ x1 w1 (walkD_of (walk_str (z := T z)) (by simp [T]) fun G2 am2 C2 H2 x2 w2 => ⟨True.intro, fun i y H3 hi ⟨q1, c, q2, q3⟩ => ?_⟩)⟩
          subst q1 q3
          have q2' : z[i]? = some c := by simpa [T] using q2
          exact ⟨.str [c], G2, by simp [q2'], Ext.refl, w2, by simp only [RelD]⟩
        case tup xs =>
          cases e2
          refine .inl (.inr ⟨env, G, am, C, re, wd, ?_⟩)
          rw [e]
          intro G' am' H' v x1 w1 rl
          have hs := see_rel w1 rl e1
          simp only [RelS, RelD] at hs
          obtain ⟨p, us, rfl, h1, h2⟩ := hs
          refine ⟨p, rfl, ⟨us, Same.sqt w1.sub h1⟩, d G' am' H' _ x1 w1 (walkD_of (walk_tup (K := X.K) (a := p) (xs := us)) h2.length.symm fun G2 am2 C2 H2 x2 w2 => ⟨Same.sqt w2.sub (Same.sqt x2.g h1), fun i y H3 hi ⟨q1, q2⟩ => ?_⟩)⟩
          subst q1
          obtain ⟨d2, q3, q4⟩ := (h2.mono x2.g).back q2
          exact ⟨d2, G2, q3, Ext.refl, w2, q4⟩
        case lst xs =>
          cases e2
          refine .inl (.inl ⟨env, G, am, C, re, wd, ?_⟩)
          rw [e]
          intro G' am' H' v x1 w1 rl
          obtain ⟨p, rfl, hs, later⟩ := lock_src w1 rl e1
          refine ⟨p, rfl, hs, d G' am' H' _ x1 w1 fun G2 am2 C2 H2 x2 w2 => ?_⟩
          obtain ⟨us, hl, hq, rd⟩ := later G2 am2 C2 H2 x2 w2
          have wk := walk_list (K := X.K) (a := p) (xs := us)
          refine ⟨fun i hi => wk.goes i H2 (by rw [hl]; exact hi) hq, by have z := wk.stops H2 hq; rw [hl] at z; exact z, fun i y H3 hi q => ?_⟩
          obtain ⟨q1, q2⟩ := wk.yields i H2 y H3 (by rw [hl]; exact hi) hq q
          subst q1
          obtain ⟨d2, q3, q4⟩ := rd.back q2
          exact ⟨d2, G2, q3, Ext.refl, w2, q4⟩
theorem rng_ok {i : Int} (h : rngOk i = true) : -(2 ^ 62) ≤ i ∧ i < 2 ^ 62 := of_decide_eq_true h
theorem walk_rng {lo : Int} {n : Nat} {G : Hp} {am : List Addr} {C : Cells} {H : Hp} : WalkD X.K cA (Itr lo n) (rangeD lo 1 n) G am C H :=
  walkD_of walk_range (rangeD_len _ _ _).symm fun G2 am2 C2 H2 x2 w2 => ⟨True.intro, fun i y H3 hi ⟨q1, q2⟩ => by
    subst q1 q2
    rw [rangeD_len] at hi
    exact ⟨_, G2, rangeD_get n lo 1 i hi, Ext.refl, w2, by simp only [RelD, Int.mul_one]⟩⟩
theorem r_range1 {P : Program} {w : World} {base : Heap} {pr : Prog} {tb : Tab} {j : Nat} {call : Nat → List E → Cells → R E} (g : Gd sx k W X) (F : Facts P w X.K X.mg base cA pr tb j call) {tg : Expr} {x : Str} {p : Pos} (hx : ("range" : Str) = x) (hg : glB sx.sc x = true) (hp : plainX a = true)
    (ha : PE X a (tE X.K cA W fa)) : PI X tg (.Call (.Name x p) [a] [] pos) (tI X.K cA W fun env C => (fa env C).bind fun x C => match x with
    | .v (.int j) => if rngOk j then .ok (rangeD 0 1 j.toNat, .v .non) C else .bad
    | _ => .bad) := by
  obtain ⟨g1, g2, g3⟩ := g.gl hg
  subst hx
  refine PI.imp (pi_range1 g1 F.range (pa_cons ha pa_nil (star_cons hp)) (starEach_one hp)) fun σ H R ⟨env, G, am, C, re, wd, d⟩ => ?_
  refine ⟨env, G, am, C, re, wd, Dn.imp (DnI.bind (Rl := rE X.K cA) d) fun vx H1 ⟨G1, am1, C1, x, x1, w1, rl, d1⟩ => ?_⟩
  cases x with
  | v dx =>
    cases dx <;> first | exact d1.elim | skip
    case int i =>
      simp only at d1
      split at d1
      · rename_i hr
        simp only [rE, RelE, RelD] at rl
        exact ⟨i, by rw [rl], (rng_ok hr).1, (rng_ok hr).2, d1 G1 am1 H1 _ Ext.refl w1 walk_rng⟩
      · exact d1.elim
  | _ => exact d1.elim
theorem r_range2 {P : Program} {w : World} {base : Heap} {pr : Prog} {tb : Tab} {j : Nat} {call : Nat → List E → Cells → R E} (g : Gd sx k W X) (F : Facts P w X.K X.mg base cA pr tb j call) {tg : Expr} {x : Str} {p : Pos} (hx : ("range" : Str) = x) (hg : glB sx.sc x = true) (hp : plainX a = true) (hpb : plainX b = true)
    (ha : PE X a (tE X.K cA W fa)) (hb : PE X b (tE X.K cA W fb)) : PI X tg (.Call (.Name x p) [a, b] [] pos) (tI X.K cA W fun env C => (fa env C).bind fun x C => (fb env C).bind fun y C => match x, y with
    | .v (.int i), .v (.int j) => if rngOk i && rngOk j then .ok (rangeD i 1 (j - i).toNat, .v .non) C else .bad
    | _, _ => .bad) := by
  obtain ⟨g1, g2, g3⟩ := g.gl hg
  subst hx
  refine PI.imp (pi_range2 g1 F.range (pa_cons ha (pa_cons hb pa_nil (star_cons hpb)) (star_cons hp)) (by rw [star_cons hp, star_cons hpb]; rfl) (star_cons hpb)) fun σ H R ⟨env, G, am, C, re, wd, d⟩ => ?_
  refine ⟨env, G, am, C, re, wd, Dn.imp (DnI.bind (Rl := rE X.K cA) d) fun vx H1 ⟨G1, am1, C1, x, x1, w1, rl, d1⟩ => ?_⟩
  refine ⟨env, G1, am1, C1, re.mono x1, w1, Dn.imp (DnI.bind (Rl := rE X.K cA) d1) fun vy H2 ⟨G2, am2, C2, y, x2, w2, rl2, d2⟩ => ?_⟩
  cases x with
  | v dx =>
    cases dx <;> first | (cases y <;> exact d2.elim) | skip
    case int i0 =>
      cases y with
      | v dy =>
        cases dy <;> first | exact d2.elim | skip
        case int jj =>
          simp only at d2
          split at d2
          · rename_i hr
            rw [Bool.and_eq_true] at hr
            simp only [rE, RelE, RelD] at rl rl2
            exact ⟨_, _, by rw [rl, rl2], ⟨(rng_ok hr.1).1, (rng_ok hr.1).2, (rng_ok hr.2).1, (rng_ok hr.2).2⟩, d2 G2 am2 H2 _ Ext.refl w2 walk_rng⟩
          · exact d2.elim
      | _ => exact d2.elim
  | _ => exact d2.elim
/-- enumerate of a list -/
theorem r_enum {P : Program} {w : World} {base : Heap} {pr : Prog} {tb : Tab} {j : Nat} {call : Nat → List E → Cells → R E} (g : Gd sx k W X) (F : Facts P w X.K X.mg base cA pr tb j call) {tes : List Expr} {tn : Nat} {tp : Pos} {x : Str} {p : Pos} (hx : ("enumerate" : Str) = x) (hg : glB sx.sc x = true) (hp : plainX a = true)
    (ha : PE X a (tE X.K cA W fa)) : PI X (.Tuple tes tn tp) (.Call (.Name x p) [a] [] pos) (tI X.K cA W fun env C => (fa env C).bind fun x C => match (see C x).bind lsD with
    | none => .bad
    | some ds => .ok (enumD 0 ds, x) C) := by
  obtain ⟨g1, g2, g3⟩ := g.gl hg
  subst hx
  refine PI.imp (pi_enum g1 F.enum (pa_cons ha pa_nil (star_cons hp)) (starEach_one hp)) fun σ H R ⟨env, G, am, C, re, wd, d⟩ => ?_
  refine ⟨env, G, am, C, re, wd, ?_⟩
  dsimp only at d
  cases e : fa env C with
  | bad => rw [e] at d; exact d.elim
  | exc c fs C1 => rw [e] at d; exact d
  | ok x C1 =>
    rw [e, Ev.R.bind_ok] at d
    intro G' am' H' v x1 w1 rl
    cases e1 : see C1 x with
    | none => simp only [e1, Option.bind_none] at d; exact d.elim
    | some dx =>
      simp only [e1, Option.bind_some] at d
      cases dx <;> simp only [lsD] at d <;> first | exact d.elim | skip
      case lst xs =>
        obtain ⟨p, rfl, ⟨us0, hs⟩, later⟩ := lock_src w1 rl e1
        refine ⟨p, us0, rfl, hs, d G' am' H' _ x1 w1 fun G2 am2 C2 H2 x2 w2 => ?_⟩
        obtain ⟨us, hl, hq, rd⟩ := later G2 am2 C2 H2 x2 w2
        have wk := walk_enum (K := X.K) (a := p) (xs := us)
        dsimp only
        rw [enumD_len]
        refine ⟨fun i hi => wk.goes i H2 (by rw [hl]; exact hi) hq, by have z := wk.stops H2 hq; rw [hl] at z; exact z, fun i y H3 hi q => ?_⟩
        obtain ⟨TT, z1, z2, rfl, hn, rfl, q1, q2⟩ := wk.yields i H2 y H3 (by rw [hl]; exact hi) hq q
        cases q1
        obtain ⟨d2, q3, q4⟩ := rd.back q2
        obtain ⟨w3, x3⟩ := w2.new hn (.tup [.int (i : Nat), z2])
        refine ⟨.tup [.int ((0 + i : Nat) : Int), d2], _, enumD_get xs 0 i q3, x3, w3, ?_⟩
        simp only [RelD, RelDs]
        exact ⟨TT, _, rfl, SqT.of upd_same, _, _, rfl, by simp, _, _, rfl, q4.mono x3.g, rfl⟩
end
end Ev

end

section
set_option maxRecDepth 512
set_option Elab.async false
set_option linter.all false
set_option maxRecDepth 100000
set_option maxHeartbeats 4000000
namespace Ev
open PySem L2 PySem.Spec PyProof.Rows
section
variable {elt t0 i0 t1 i1 : Expr} {ifs0 ifs1 : List Expr} {gens : List Comprehension} {scope : Scope} {pos : Pos} {d : Nat} {it acc : Value} {env : PySem.Env}
theorem turn_mid (h0 : gens[d]? = some ⟨t0, i0, ifs0, 0⟩) (h1 : gens[d + 1]? = some ⟨t1, i1, ifs1, 0⟩) :
    compTurn (.ListComp elt gens scope pos) d it acc env = (do
      standAt i0.pos
      match ← pyNext it with
      | none => pure (.done .next)
      | some v =>
        letOwnedTupleGo t0 it v
        assign t0 env v
        let mut ok := true
        for c in ifs0 do
          if ok then ok ← isTrue c env (eval c env)
        if ok then
          let x ← eval i1 env
          standAt i1.pos
          let x ← foldedSetIterable i1 env x
          let _ ← runOwn (.compStart (.ListComp elt gens scope pos) (d + 1) (← holding [x] (pyIter x)) acc env) env
        again (.compLoop (.ListComp elt gens scope pos) d it acc env)) := by
  unfold compTurn
  simp only [h0, h1]
  rfl
theorem turn_last (h0 : gens[d]? = some ⟨t0, i0, ifs0, 0⟩) (h1 : gens[d + 1]? = none) :
    compTurn (.ListComp elt gens scope pos) d it acc env = (do
      standAt i0.pos
      match ← pyNext it with
      | none => pure (.done .next)
      | some v =>
        letOwnedTupleGo t0 it v
        assign t0 env v
        let mut ok := true
        for c in ifs0 do
          if ok then ok ← isTrue c env (eval c env)
        if ok then
          (do let _ ← call (.builtin "list.append") [acc, ← eval elt env])
        again (.compLoop (.ListComp elt gens scope pos) d it acc env)) := by
  unfold compTurn
  simp only [h0, h1]
  rfl
end
section
variable {prog : Program} {w : World} {A : Around} {R : Result → Shared → Prop} {s : Shared} {elt t0 i0 : Expr} {ifs0 : List Expr} {gens : List Comprehension} {scope : Scope} {pos : Pos} {d : Nat} {it acc : Value} {env : PySem.Env}
/-- what follows a turn's tests -/
def emitOk (prog : Program) (w : World) (A : Around) (elt : Expr) (gens : List Comprehension) (scope : Scope) (pos : Pos) (d : Nat) (acc : Value) (env : PySem.Env) (Z : Shared → Prop) (s : Shared) : Prop :=
  match gens[d + 1]? with
  | none => wpAny (model prog w) A (eval elt env) (fun x s₄ => wpAny (model prog w) A (call (.builtin "list.append") [acc, x]) (fun _ s₅ => Z s₅) (fun _ _ => False) s₄) (fun _ _ => False) s
  | some ⟨_, i1, _, 0⟩ => (∀ x, foldedSetIterable i1 env x = pure x) ∧ wpAny (model prog w) A (eval i1 env) (fun x s₄ => wpAny (model prog w) A (pyIter x) (fun it1 s₅ =>
              codeAny (model prog w) A (.compStart (.ListComp elt gens scope pos) (d + 1) it1 acc env) (fun r s' => match r with
                | .ok _ => Z s'
                | .error _ => False) s₅) (fun _ _ => False) s₄) (fun _ _ => False) s
  | _ => False
theorem emit_mono {Z Z' : Shared → Prop} (h : emitOk prog w A elt gens scope pos d acc env Z s) (hz : ∀ s', Z s' → Z' s') : emitOk prog w A elt gens scope pos d acc env Z' s := by
  unfold emitOk at h ⊢
  split at h
  · exact wpAny_mono h (fun x s4 h4 => wpAny_mono h4 (fun _ s5 h5 => hz _ h5) fun _ _ z => z) fun _ _ z => z
  · refine ⟨h.1, wpAny_mono h.2 (fun x s4 h4 => wpAny_mono h4 (fun it s5 h5 => codeAny_mono h5 fun r s' hr => ?_) fun _ _ z => z) fun _ _ z => z⟩
    cases r with
    | ok f => exact hz _ hr
    | error e => exact hr
  · exact h
theorem loopG (hz : ∀ g ∈ gens, g.is_async = 0) (h0 : gens[d]? = some ⟨t0, i0, ifs0, 0⟩) (I : Nat → Shared → Prop)
    (turn : ∀ n s, I n s → wpAny (model prog w) A (pyNext it) (fun r s₁ => match r with
      | none => R (.ok .next) s₁
      | some v => wpAny (model prog w) A (letOwnedTupleGo t0 it v) (fun _ s₁' => wpAny (model prog w) A (assign t0 env v) (fun _ s₂ =>
          wpAny (model prog w) A (forIn ifs0 true fun c r => if r = true then do let ok ← isTrue c env (eval c env); pure (ForInStep.yield ok) else pure (ForInStep.yield r)) (fun ok s₃ =>
            if ok = true then emitOk prog w A elt gens scope pos d acc env (fun s' => ∃ m, m < n ∧ I m s') s₃
            else ∃ m, m < n ∧ I m s₃) (fun _ _ => False) s₂) (fun _ _ => False) s₁') (fun _ _ => False) s₁) (fun _ _ => False) s)
    (n : Nat) (h : I n s) :
    codeAny (model prog w) A (.compLoop (.ListComp elt gens scope pos) d it acc env) R s := by
  refine codeAny_loop rfl I (fun n s hI => ?_) n h
  show wpAny _ A ((compTurn (.ListComp elt gens scope pos) d it acc env).onRaise (fun x => do noteFrame x env; theTreesLotGoes x)) _ _ s
  refine wpAny_noted ?_
  cases h1 : gens[d + 1]? with
  | none =>
    rw [turn_last h0 h1]
    refine wpAny_bind (wpAny_standAt (wpAny_bind (wpAny_mono (turn n s hI) (fun r s₁ h₁ => ?_) fun _ _ h' => h'.elim)))
    cases r with
    | none => exact wpAny_pure h₁
    | some v =>
      refine wpAny_bind (wpAny_mono h₁ (fun _ s₁' h₁' => ?_) fun _ _ h' => h'.elim)
      refine wpAny_bind (wpAny_mono h₁' (fun _ s₂ h₂ => wpAny_bind (wpAny_mono h₂ (fun ok s₃ h₃ => ?_) fun _ _ h' => h'.elim)) fun _ _ h' => h'.elim)
      cases ok with
      | false => exact wpAny_pure ⟨rfl, h₃⟩
      | true =>
        rw [if_pos rfl] at h₃
        unfold emitOk at h₃
        simp only [h1] at h₃
        exact wpAny_bind (wpAny_bind (wpAny_mono h₃ (fun x s₄ h₄ => wpAny_bind (wpAny_mono h₄ (fun _ s₅ h₅ => wpAny_pure (wpAny_pure ⟨rfl, h₅⟩)) fun _ _ h' => h'.elim)) fun _ _ h' => h'.elim))
  | some g =>
    obtain ⟨t1, i1, ifs1, as⟩ := g
    have key : as = 0 ∨ as ≠ 0 := by omega
    rcases key with rfl | has
    · rw [turn_mid h0 h1]
      refine wpAny_bind (wpAny_standAt (wpAny_bind (wpAny_mono (turn n s hI) (fun r s₁ h₁ => ?_) fun _ _ h' => h'.elim)))
      cases r with
      | none => exact wpAny_pure h₁
      | some v =>
        refine wpAny_bind (wpAny_mono h₁ (fun _ s₁' h₁' => ?_) fun _ _ h' => h'.elim)
        refine wpAny_bind (wpAny_mono h₁' (fun _ s₂ h₂ => wpAny_bind (wpAny_mono h₂ (fun ok s₃ h₃ => ?_) fun _ _ h' => h'.elim)) fun _ _ h' => h'.elim)
        cases ok with
        | false => exact wpAny_pure ⟨rfl, h₃⟩
        | true =>
          rw [if_pos rfl] at h₃
          unfold emitOk at h₃
          simp only [h1] at h₃
          obtain ⟨hs, h₃⟩ := h₃
          refine wpAny_bind (wpAny_mono h₃ (fun x s₄ h₄ => ?_) fun _ _ h' => h'.elim)
          refine wpAny_bind (wpAny_standAt (wpAny_bind (wpAny_of_eq (hs x) (wpAny_bind (wpAny_holding (wpAny_mono h₄ (fun it1 s₅ h₅ => ?_) fun _ _ h' => h'.elim))))))
          refine wpAny_bind (wpAny_runOwn ?_)
          rw [Around.mark_none]
          refine codeAny_mono h₅ fun r s' hr => ?_
          cases r with
          | ok f =>
            first
              | exact wpAny_pure ⟨rfl, hr⟩
              | exact wpAny_bind (wpAny_pure (wpAny_pure ⟨rfl, hr⟩))
          | error e => exact hr.elim
    · exact absurd (hz _ (List.mem_of_getElem? h1)) has
theorem startG (h1 : gens[d]? = some ⟨t0, i0, ifs0, 0⟩) (h0 : codeAny (model prog w) A (.compLoop (.ListComp elt gens scope pos) d it acc env) R s)
    (h : wpAny (model prog w) A (pyIter it) (fun it' s' => codeAny (model prog w) A (.compLoop (.ListComp elt gens scope pos) d it' acc env) R s')
      (notedBy (model prog w) A env fun x s' => R (.error x) s') s) :
    codeAny (model prog w) A (.compStart (.ListComp elt gens scope pos) d it acc env) R s := by
  have hcl : (clausesOf (.ListComp elt gens scope pos))[d]? = some ⟨t0, i0, ifs0, 0⟩ := h1
  refine codeAny_of_tree ?_
  show wpAny _ _ ((compStart (.ListComp elt gens scope pos) d it acc env).onRaise (fun x => do noteFrame x env; standAt theWindowsPlace)) _ _ s
  refine wpAny_notedAt ?_
  unfold compStart
  rw [hcl]
  show wpAny _ _ (ask >>= _) _ _ s
  refine wpAny_bind (wpAny_askSetting (wpAny_ite ?_))
  split
  · first
      | exact wpAny_bind (wpAny_pure (wpAny_pure (And.intro rfl h0)))
      | exact wpAny_pure (And.intro rfl h0)
  · first
      | exact wpAny_bind (wpAny_rule (wpAny_bind (wpAny_standAt (wpAny_bind (wpAny_mono h (fun it' s' h' => wpAny_pure (And.intro rfl h')) fun _ _ x => x)))))
      | (refine wpAny_bind (wpAny_rule ?_); show wpAny _ _ (standAt i0.pos >>= _) _ _ s; exact wpAny_bind (wpAny_standAt (wpAny_bind (wpAny_mono h (fun it' s' h' => wpAny_pure (And.intro rfl h')) fun _ _ x => x))))
end
/-- slots that know what the block knew at its start -/
structure Keeps (own : List Nat) (σ σ' : L2.St) : Prop where
  len : σ'.length = σ.length
  k : ∀ (j : Nat) v, (L2.wipe σ own)[j]? = some (some v) → σ'[j]? = some (some v)
/-- what is to be done in a turn of the d-th clause -/
structure PEm (B : Cx) (elt : Expr) (gens : List Comprehension) (scope : Scope) (pos : Pos) (d : Nat) (own : List Nat) (tb : Addr → L2.St → Hp → (Hp → Prop) → Prop) : Prop where
  run : ∀ (D : Addr) (pins : List (Addr × Obj)) (s : Shared) (σ : L2.St) (H : Hp) (Nx : Hp → Prop), Inv B pins σ H s → tb D σ H Nx →
    emitOk B.prog B.w B.A elt gens scope pos d (.ref D) B.env (fun s' => ∃ σ' H', Inv B pins σ' H' s' ∧ Keeps own σ σ' ∧ Nx H') s
def tElt (te : TE) : Addr → L2.St → Hp → (Hp → Prop) → Prop := fun D σ H Nx => te σ H fun y H4 => ∃ acc, H4 D = some (.lst acc) ∧ acc.length < sizeLine ∧ Nx (L2.upd H4 D (.lst (acc ++ [y])))
def tGen (wi : TI) (g : TG) (tt : TT) (tb : Addr → L2.St → Hp → (Hp → Prop) → Prop) (vs : List Nat) : Addr → L2.St → Hp → (Hp → Prop) → Prop := fun D σ H Nx =>
  wi σ H fun J H1 => ∃ W : Nat → Nat → Hp → Prop, (∃ m, W 0 m H1) ∧ ∀ i m H, W i m H →
    (J.stop i H ∧ Nx H) ∨ (J.go i H ∧ ∃ Nx1 : Hp → Prop, (∀ H', Nx1 H' → ∃ m', m' < m ∧ W (i + 1) m' H') ∧ ∀ x H', J.yld i H x H' → g x (L2.wipe σ vs) H' fun σ2 H2 => L2.wipe σ2 vs = L2.wipe σ vs ∧ tt σ2 H2 fun b H3 => if b = true then tb D σ2 H3 Nx1 else Nx1 H3)
section
variable {B : Cx} {elt : Expr} {gens : List Comprehension} {scope : Scope} {pos : Pos} {d : Nat} {own vs : List Nat}
theorem wipe_wipe {σ : L2.St} {vs : List Nat} : L2.wipe (L2.wipe σ vs) vs = L2.wipe σ vs := by
  apply List.ext_getElem?
  intro i
  rw [wipe_get, wipe_length]
  by_cases hi : i ∈ vs
  · simp only [hi, if_true]
    rw [wipe_get]; simp [hi]
  · simp [hi]
theorem wipe_mem {σ : L2.St} {vs own : List Nat} (h : ∀ i ∈ vs, i ∈ own) : L2.wipe (L2.wipe σ vs) own = L2.wipe σ own := by
  apply List.ext_getElem?
  intro i
  rw [wipe_get, wipe_get, wipe_length, wipe_get]
  by_cases hi : i ∈ own
  · simp [hi]
  · have : i ∉ vs := fun z => hi (h i z)
    simp [hi, this]
theorem Keeps.mono {σ σ2 : L2.St} (h : ∀ i ∈ vs, i ∈ own) (k : Keeps vs σ σ2) : Keeps own σ σ2 :=
  ⟨k.len, fun j v q => k.k j v (by
    rw [wipe_get] at q ⊢
    by_cases hj : j ∈ own
    · simp only [hj, if_true] at q
      split at q <;> cases q
    · have : j ∉ vs := fun z => hj (h j z)
      simp only [hj, if_false] at q
      simp only [this, if_false]; exact q)⟩
/-- the turns of a clause -/
theorem turnsG {t0 i0 : Expr} {ifs0 : List Expr} {g : TG} {tt : TT} {tb : Addr → L2.St → Hp → (Hp → Prop) → Prop} {D it : Addr} {fp : List Addr} {tn : Nat → Heap → Prop} {J : L2.It} {pins : List (Addr × Obj)} {σ : L2.St} {H0 : Hp} {s0 : Shared} {Nx : Hp → Prop} {W : Nat → Nat → Hp → Prop} {m0 : Nat} {R : Result → Shared → Prop}
    (hc : B.calm = true) (hx : ∀ e s, ¬ B.xe e s) (hz : ∀ g ∈ gens, g.is_async = 0) (h0 : gens[d]? = some ⟨t0, i0, ifs0, 0⟩) (pg : PG B t0 g) (pt : PTs B ifs0 tt) (pe : PEm B elt gens scope pos d own tb) (hv : ∀ i ∈ own, i ∈ vs)
    (T : Turn B.prog B.w B.K t0 J fp it tn) (I0 : Inv B pins σ H0 s0) (st0 : tn 0 s0.heap) (f0 : ∀ b ∈ fp, H0 b = none) (fpk : ∀ {σ' : L2.St} {H' : Hp} {s' : Shared}, Inv B pins σ' H' s' → (∀ b ∈ fp, H' b = none) → ∀ b ∈ fp, FpOk B pins H' b) (w0 : W 0 m0 H0)
    (turn : ∀ i m H, W i m H → (J.stop i H ∧ Nx H) ∨ (J.go i H ∧ ∃ Nx1 : Hp → Prop, (∀ H', Nx1 H' → ∃ m', m' < m ∧ W (i + 1) m' H') ∧ ∀ x H', J.yld i H x H' → g x (L2.wipe σ vs) H' fun σ2 H2 => L2.wipe σ2 vs = L2.wipe σ vs ∧ tt σ2 H2 fun b H3 => if b = true then tb D σ2 H3 Nx1 else Nx1 H3))
    (hR : ∀ s' H', Inv B pins (L2.wipe σ vs) H' s' → Nx H' → R (.ok .next) s') :
    codeAny (model B.prog B.w) B.A (.compLoop (.ListComp elt gens scope pos) d (.ref it) (.ref D) B.env) R s0 := by
  refine loopG hz h0 (fun n s' => ∃ i H', Inv B pins (L2.wipe σ vs) H' s' ∧ tn i s'.heap ∧ (∀ b ∈ fp, H' b = none) ∧ W i n H') ?_ m0 ⟨0, H0, I0.weak (wipe_length _ _) (fun j v e => (wipe_some e).1), st0, f0, w0⟩
  rintro n s5 ⟨i, H5, I5, st5, n5, w5⟩
  rcases turn i n H5 w5 with ⟨stop, qq⟩ | ⟨go, Nx1, hNx, step⟩
  · refine thnF (T.done B rfl rfl rfl hc i pins s5 _ H5 (fun _ _ => False) I5 (fpk I5 n5) st5 stop) fun r s6 ⟨hr, I6⟩ => ?_
    subst hr
    exact hR s6 H5 I6 qq
  · refine thnF (T.item B rfl rfl rfl hc i pins s5 _ H5 (fun _ _ => False) I5 (fpk I5 n5) st5 go) fun r s6 ⟨u, hr, h6⟩ => ?_
    subst hr
    refine thnF h6 fun _ s7 ⟨x, H7, I7, r7, y7, st7, n7⟩ => ?_
    have I7' := I7.pinned (fpk I7 n7) (T.obj _ _ st7)
    refine wpAny_mono (pg.run _ s7 _ H7 x u _ I7' r7 (step x H7 y7)) (fun _ s8 ⟨σ8, H8, I8, hw8, q8⟩ => ?_) fun e s z => (hx e s z).elim
    refine wpAny_mono (pt.run _ s8 σ8 H8 _ I8 q8) (fun b s9 ⟨H9, I9, q9⟩ => ?_) fun e s z => (hx e s z).elim
    have fin : ∀ {σ9 : L2.St} {s' : Shared} {H' : Hp}, Inv B (pins ++ pinsAt fp s7.heap) σ9 H' s' → Keeps vs σ8 σ9 → Nx1 H' →
        ∃ m, m < n ∧ ∃ i H', Inv B pins (L2.wipe σ vs) H' s' ∧ tn i s'.heap ∧ (∀ b ∈ fp, H' b = none) ∧ W i m H' := fun {σ9 s' H'} I' hk nx => by
      obtain ⟨m', hm, w'⟩ := hNx H' nx
      have pin' : ∀ b ∈ fp, ∀ o, s7.heap.get? b = some o → s'.heap.get? b = some o ∧ H' b = none := fun b hb o e =>
        let z := I'.pin (b, o) (List.mem_append_right _ (List.mem_append_right _ (mem_pinsAt hb e)))
        ⟨z.1, z.2.1⟩
      refine ⟨m', hm, i + 1, H', I'.unpinned.weak (by rw [hk.len, ← hw8, wipe_length]) (fun j v e => hk.k j v (by rw [hw8]; exact e)), T.keep _ _ _ st7 fun b hb o e => (pin' b hb o e).1, fun b hb => ?_, w'⟩
      obtain ⟨o, e, _⟩ := T.obj _ _ st7 b hb
      exact (pin' b hb o e).2
    cases b with
    | false =>
      simp only [Bool.false_eq_true, if_false] at q9 ⊢
      exact fin I9 ⟨rfl, fun j v e => (wipe_some e).1⟩ q9
    | true =>
      simp only [if_true] at q9 ⊢
      have z := pe.run D _ s9 σ8 H9 Nx1 I9 q9
      refine emit_mono z fun s' ⟨σ', H', I', k', nx⟩ => fin I' (k'.mono hv) nx
/-- the innermost: the item is made -/
theorem pem_elt {te : TE} (hx : ∀ e s, ¬ B.xe e s) (h1 : gens[d + 1]? = none) (he : PE B elt te) : PEm B elt gens scope pos d [] (tElt te) := by
  refine ⟨fun D pins s σ H Nx I h => ?_⟩
  unfold emitOk
  simp only [h1]
  refine wpAny_mono (he.run _ s σ H _ I h) (fun z s17 ⟨yv, H17, I17, r17, acc, hD17, hz17, nx⟩ => ?_) fun e s z => (hx e s z).elim
  exact app_ok (X := B) I17 hD17 hz17 r17 fun s18 I18 => ⟨σ, _, I18, ⟨rfl, fun j v e => (wipe_some e).1⟩, nx⟩
/-- a clause within -/
theorem pem_gen {t1 i1 : Expr} {ifs1 : List Expr} {wi : TI} {g : TG} {tt : TT} {tb : Addr → L2.St → Hp → (Hp → Prop) → Prop}
    (hc : B.calm = true) (hx : ∀ e s, ¬ B.xe e s) (hz : ∀ g ∈ gens, g.is_async = 0) (h1 : gens[d + 1]? = some ⟨t1, i1, ifs1, 0⟩) (hs : ∀ env x, foldedSetIterable i1 env x = pure x)
    (pi : PI B t1 i1 wi) (pg : PG B t1 g) (pt : PTs B ifs1 tt) (pe : PEm B elt gens scope pos (d + 1) own tb) (hv : ∀ i ∈ own, i ∈ vs) : PEm B elt gens scope pos d vs (tGen wi g tt tb vs) := by
  refine ⟨fun D pins s σ H Nx I h => ?_⟩
  unfold emitOk
  simp only [h1]
  refine ⟨hs _, wpAny_mono (pi.run _ s σ H _ I h) (fun xv s10 hx' => wpAny_mono hx' (fun itv s11 h11 => ?_) fun e s z => (hx e s z).elim) fun e s z => (hx e s z).elim⟩
  obtain ⟨it1, fp1, tn1, J1, H11, e1, I11, T1, st11, f11, W1, ⟨m1, w1⟩, turn1⟩ := h11
  subst e1
  have loop1 := turnsG (R := fun r s' => match r with
      | .ok _ => ∃ σ' H', Inv B pins σ' H' s' ∧ Keeps vs σ σ' ∧ Nx H'
      | .error _ => False) (pos := pos) (scope := scope) hc hx hz h1 pg pt pe hv T1 I11 st11 (fun b hb => (f11 b hb).1) (fun I' hn b hb => ⟨hn b hb, (f11 b hb).2⟩) w1 turn1 fun s' H' I' nx => ⟨_, H', I', ⟨wipe_length _ _, fun j v e => e⟩, nx⟩
  exact startG h1 loop1 (T1.self B.A 0 _ _ _ st11 loop1)
end
/-! ### the whole -/
def tLcG (wi : TI) (g : TG) (tt : TT) (tb : Addr → L2.St → Hp → (Hp → Prop) → Prop) (vs : List Nat) : TE := fun σ H Q => wi σ H fun J H1 => ∀ D, H1 D = none → ∃ W : Nat → Nat → Hp → Prop, (∃ m, W 0 m (L2.upd H1 D (.lst []))) ∧ ∀ i m H, W i m H →
  (J.stop i H ∧ Q (.ref D) H) ∨ (J.go i H ∧ ∃ Nx : Hp → Prop, (∀ H', Nx H' → ∃ m', m' < m ∧ W (i + 1) m' H') ∧ ∀ x H', J.yld i H x H' → g x (L2.wipe σ vs) H' fun σ2 H2 => L2.wipe σ2 vs = L2.wipe σ vs ∧ tt σ2 H2 fun b H3 => if b = true then tb D σ2 H3 Nx else Nx H3)
section
variable {X : Cx}
theorem lcG_core {pins : List (Addr × Obj)} {s : Shared} {σ : L2.St} {H : Hp} {Q : VK} {elt tg iter : Expr} {ifs : List Expr} {gs : List Comprehension} {scope : Scope} {own : List (Str × Nat)} {vs1 : List Nat} {pos pos' : Pos} {wi : TI} {g : TG} {tt : TT} {tb : Addr → L2.St → Hp → (Hp → Prop) → Prop} {use : Option (Value → Sem Unit)} {Qf : Value → Shared → Prop}
    (hc : X.calm = true) (hN : X.N.Nodup) (I : Inv X pins σ H s) (hi : PI X tg iter wi) (ok : BlkOk X.N X.env.scope scope own) (hz : ∀ g ∈ gs, g.is_async = 0) (hv : ∀ i ∈ vs1, i ∈ own.map (·.2))
    (hg : ∀ (s : Shared) (H : Hp) (C : Addr) (cl : List (Str × Addr)) (fp : List Addr), PG (X.blk s H scope (compEnvC scope cl C X.env) fp) tg g) (ht : ∀ (s : Shared) (H : Hp) (C : Addr) (cl : List (Str × Addr)) (fp : List Addr), PTs (X.blk s H scope (compEnvC scope cl C X.env) fp) ifs tt)
    (he : ∀ (s : Shared) (H : Hp) (C : Addr) (cl : List (Str × Addr)) (fp : List Addr), PEm (X.blk s H scope (compEnvC scope cl C X.env) fp) elt (⟨tg, iter, ifs, 0⟩ :: gs) scope pos 0 vs1 tb) (hs : ∀ x, foldedSetIterable iter X.env x = pure x)
    (h : tLcG wi g tt tb (own.map (·.2)) σ H Q)
    (hRR : ∀ D C s' m H', Inv X pins σ H' s' → Q (.ref D) H' → s'.heap.Ns C m → FpOk X pins H' C → compPost (model X.prog X.w) X.A X.xe use Qf (.ref D) C (.ok .next) s') :
    wpAny (model X.prog X.w) X.A (comprehension (.ListComp elt (⟨tg, iter, ifs, 0⟩ :: gs) scope pos) scope X.env pos' (newList []) false (eval iter X.env) use) Qf X.xe s := by
  have hfree : ∀ y ∈ scope.names, y.2 = .free → ∃ c, X.env.cells.lookup y.1 = some c := fun y hy e => by
    rcases ok.free y hy e with k | k
    · exact I.ok.has _ (.inl k)
    · exact I.ok.has _ (.inr k)
  refine wpAny_comprehension_free (use := use) rfl hs (closure_ok hfree) ok.kind (fun y hy e => by rw [ok.uniq y hy, e])
    (thn (hi.run pins s σ H _ I h) fun xv s1 hx => thn hx fun itv s2 h2 => ?_)
  obtain ⟨it, fp, tn, J, H2, e, I2, T, st2, f2, q⟩ := h2
  subst e
  refine wpAny_newObj_type (newEnv_comp ?_) (by show 0 ≤ sizeLine; decide)
  generalize hD : s2.heap.objs.size = D
  have hDn : H2 D = none := I2.hok.fresh (Nat.le_of_eq hD)
  obtain ⟨W, ⟨m0, w0⟩, turn⟩ := q D hDn
  generalize hs3 : ({ s2 with heap := s2.heap.push { cls := .type "list", data := .seq ([] : List Value).toArray } } : Shared) = s3
  have I3 : Inv X pins σ (L2.upd H2 D (.lst [])) s3 := by
    rw [← hs3]
    refine I2.laid (t' := s2.toks) (fun b o e => Heap.get?_push_of_some _ e) (Nat.le_of_eq hD) ⟨Nat.zero_le _, [], 0, .nil, ?_⟩
    rw [← hD]
    exact Heap.get?_push_size _ rfl
  have h3 : s3.heap = s2.heap.push { cls := .type "list", data := .seq ([] : List Value).toArray } := by rw [← hs3]
  have sz : ∀ b ∈ fp, b < s2.heap.objs.size := fun b hb => by
    obtain ⟨o, e, _⟩ := T.obj _ _ st2 b hb
    exact Heap.lt_size e
  have f3 : ∀ b ∈ fp, FpOk X pins (L2.upd H2 D (.lst [])) b ∧ b < s3.heap.objs.size := fun b hb => by
    have hlt := sz b hb
    refine ⟨⟨?_, (f2 b hb).2⟩, by rw [h3, Heap.size_push]; exact Nat.lt_succ_of_lt hlt⟩
    rw [upd_ne (by rw [← hD]; exact Nat.ne_of_lt hlt)]
    exact (f2 b hb).1
  have st3 : tn 0 s3.heap := T.keep _ _ _ st2 fun b _ o e => by rw [h3]; exact Heap.get?_push_of_some _ e
  have I4 := block_start I3 ok hN f3
  have pg := hg s3 (L2.upd H2 D (.lst [])) s3.heap.objs.size (cellsFrom (s3.heap.objs.size + 1) scope.names (cloFrom X.env.cells scope.names [])) fp
  have pt := ht s3 (L2.upd H2 D (.lst [])) s3.heap.objs.size (cellsFrom (s3.heap.objs.size + 1) scope.names (cloFrom X.env.cells scope.names [])) fp
  have pe := he s3 (L2.upd H2 D (.lst [])) s3.heap.objs.size (cellsFrom (s3.heap.objs.size + 1) scope.names (cloFrom X.env.cells scope.names [])) fp
  show codeAny _ _ (.compStart (.ListComp elt (⟨tg, iter, ifs, 0⟩ :: gs) scope pos) 0 (.ref it) (.ref D) (compEnvC scope (cellsFrom (s3.heap.objs.size + 1) scope.names (cloFrom X.env.cells scope.names [])) s3.heap.objs.size X.env)) (compPost (model X.prog X.w) X.A X.xe use Qf (.ref D) s3.heap.objs.size) { s3 with heap := pushCells (s3.heap.push { cls := .type "dict", data := .dict #[] }) scope.names }
  have nfp : ∀ b ∈ fp, (L2.upd H2 D (.lst [])) b = none := fun b hb => (f3 b hb).1.1
  generalize hce : compEnvC scope (cellsFrom (s3.heap.objs.size + 1) scope.names (cloFrom X.env.cells scope.names [])) s3.heap.objs.size X.env = ce at I4 pg pt pe ⊢
  have cL : ce.locals = s3.heap.objs.size := by subst hce; rfl
  generalize hH3 : L2.upd H2 D (.lst []) = H3 at I3 I4 pg pt pe w0 nfp f3
  generalize hs4 : ({ s3 with heap := pushCells (s3.heap.push { cls := .type "dict", data := .dict #[] }) scope.names } : Shared) = s4 at I4 ⊢
  have st4 : tn 0 s4.heap := T.keep _ _ _ st3 fun b _ o e => by rw [← hs4]; exact pushCells_keeps _ _ _ _ (Heap.get?_push_of_some _ e)
  have stat : ∀ {σ' : L2.St} {H' : Hp} {s' : Shared}, Inv (X.blk s3 H3 scope ce fp) [] σ' H' s' → (∀ b ∈ fp, H' b = none) → ∀ b ∈ fp, FpOk (X.blk s3 H3 scope ce fp) [] H' b := fun {σ' H' s'} I' hn b hb =>
    ⟨hn b hb, (I'.ok.exf b hb).1, I'.ok.exfs b hb, .inl hb, fun x c e => (I'.ok.exf b hb).2 x c e, fun p hp => absurd (show p ∈ ([] : List (Addr × Obj)) ++ [] from hp) (by simp)⟩
  have loop : codeAny (model X.prog X.w) X.A (.compLoop (.ListComp elt (⟨tg, iter, ifs, 0⟩ :: gs) scope pos) 0 (.ref it) (.ref D) ce) (compPost (model X.prog X.w) X.A X.xe use Qf (.ref D) s3.heap.objs.size) s4 := by
    refine turnsG (B := X.blk s3 H3 scope ce fp) (Nx := Q (.ref D)) (σ := L2.wipe σ (own.map (·.2))) (vs := own.map (·.2)) (gens := ⟨tg, iter, ifs, 0⟩ :: gs) (d := 0) hc (fun _ _ z => z) (fun g hg => ?_) rfl pg pt pe hv T I4 st4 nfp stat w0 (fun i m H w => ?_) fun s6 H5 I6 qq => ?_
    · rcases List.mem_cons.mp hg with rfl | hg
      · rfl
      · exact hz g hg
    · rw [wipe_wipe]
      exact turn i m H w
    · have I7 : Inv X pins σ H5 s6 := I3.call' (ch := fp) I6.os I6.base I6.hok I6.bare fun b hb => ⟨(f3 b hb).1.2.2.2.1, (f3 b hb).1.2.1, (f3 b hb).1.2.2.2.2.1, (f3 b hb).1.2.2.2.2.2⟩
      have nC : H5 s3.heap.objs.size = none := by
        have z : H5 ce.locals = none := I6.free
        rw [cL] at z
        exact z
      obtain ⟨m, hn, _⟩ := I6.loc
      have hn : s6.heap.Ns ce.locals m := hn
      rw [cL] at hn
      exact hRR D s3.heap.objs.size s6 m H5 I7 qq hn (I3.fpOk (Nat.le_refl _) nC)
  exact codeAny_compStart_list loop (T.self X.A 0 _ _ _ st4 loop)
end
end Ev

end

section
set_option maxRecDepth 512
set_option Elab.async false
set_option linter.all false
set_option maxRecDepth 100000
set_option maxHeartbeats 4000000
namespace Ev
open PySem L2 PySem.Spec PyProof.Rows

/-! ### a list that is being made -/
section
variable {K : PySem.W.Frag} {cA : Cfg0} {G G' G0 : Hp} {am am' am0 : List Addr} {C C' C0 : Cells} {H H' H0 : Hp} {D : Addr} {us : List V}
structure Side (G : Hp) (am : List Addr) (C : Cells) (H : Hp) (D : Addr) (us : List V) : Prop where
  here : H D = some (.lst us)
  g : G D = none
  l : ¬ Live am C D
theorem Side.ext (s : Side G am C H D us) (x : Ext G am C H G' am' C' H') : Side G' am' C' H' D us where
  here := x.keep _ _ s.here s.l (by intro ps q; cases q)
  g := by
    cases e : G' D with
    | none => rfl
    | some o =>
      rcases x.gn D o e with z | z | z
      · rw [s.g] at z; cases z
      · rw [s.here] at z; cases z
      · exact (s.l z).elim
  l := fun z => by
    rcases x.live D z with z | z
    · exact s.l z
    · rw [s.here] at z; cases z
theorem Side.wd (s : Side G am C H D us) (wd : Wd K cA G am C H) (o : HO) : Wd K cA G am C (upd H D o) := by
  refine ⟨wd.tab_to (Same.refl _) (fun P ps e => by rw [upd_ne (fun z => by rw [z, s.here] at e; cases e)]; exact e) fun _ _ _ n => n, fun b u q => ?_, wd.len, fun i c e => ?_, wd.inj⟩
  · have : b ≠ D := fun z => by rw [z, s.g] at q; cases q
    rw [upd_ne this]; exact wd.sub _ _ q
  · obtain ⟨a, h1, h2, h3⟩ := wd.cell i c e
    have na : a ≠ D := fun z => s.l ⟨i, c, e, z ▸ h1⟩
    refine ⟨a, h1, ?_, h3⟩
    cases c with
    | lst xs => obtain ⟨us, z, r⟩ := h2; exact ⟨us, by rw [upd_ne na]; exact z, r⟩
    | lkd xs => obtain ⟨us, z, r⟩ := h2; exact ⟨us, by rw [upd_ne na]; exact z, r⟩
    | dct kvs => obtain ⟨us, z, r⟩ := h2; exact ⟨us, by rw [upd_ne na]; exact z, r⟩
    | ins c fs =>
      obtain ⟨Ca, dx, gs, z1, z2, z3, r⟩ := h2
      have nd : dx ≠ D := fun z => by rw [z, s.here] at z3; cases z3
      exact ⟨Ca, dx, gs, z1, by rw [upd_ne na]; exact z2, by rw [upd_ne nd]; exact z3, r⟩
theorem Side.upd (s : Side G am C H D us) (vs : List V) : Side G am C (L2.upd H D (.lst vs)) D vs := ⟨upd_same, s.g, s.l⟩
theorem Ext.side (x : Ext G0 am0 C0 H0 G am C H) (hn : H0 D = none) (o : HO) : Ext G0 am0 C0 H0 G am C (L2.upd H D o) :=
  ⟨x.g, x.a, fun b u q n t => by rw [upd_ne (ne_of_none q hn)]; exact x.keep b u q n t, fun b ps q n => by rw [upd_ne (ne_of_none q hn)]; exact x.tab b ps q n, x.live, x.gn, x.lk⟩
theorem Side.new (wd : Wd K cA G am C H) (hn : H D = none) : Side G am C (L2.upd H D (.lst us)) D us ∧ Wd K cA G am C (L2.upd H D (.lst us)) := by
  have nl : ¬ Live am C D := fun ⟨i, c, e, h⟩ => by
    obtain ⟨a, h1, h2, h3⟩ := wd.cell i c e
    rw [h] at h1; cases h1
    cases c with
    | lst xs => obtain ⟨us, z, _⟩ := h2; rw [hn] at z; cases z
    | lkd xs => obtain ⟨us, z, _⟩ := h2; rw [hn] at z; cases z
    | dct kvs => obtain ⟨us, z, _⟩ := h2; rw [hn] at z; cases z
    | ins c fs => obtain ⟨_, _, _, _, z, _⟩ := h2; rw [hn] at z; cases z
  have hg := wd.free hn
  refine ⟨⟨upd_same, hg, nl⟩, ?_⟩
  have sh : Same H (L2.upd H D (.lst us)) := fun b u q => by rw [upd_ne (ne_of_none q hn)]; exact q
  refine ⟨wd.tab_to (Same.refl _) (fun P ps e => sh _ _ e) fun _ _ _ n => n, fun b u q => sh _ _ (wd.sub _ _ q), wd.len, fun i c e => ?_, wd.inj⟩
  obtain ⟨a, h1, h2, h3⟩ := wd.cell i c e
  refine ⟨a, h1, ?_, h3⟩
  cases c with
  | lst xs => obtain ⟨us, z, r⟩ := h2; exact ⟨us, sh _ _ z, r⟩
  | lkd xs => obtain ⟨us, z, r⟩ := h2; exact ⟨us, sh _ _ z, r⟩
  | dct kvs => obtain ⟨us, z, r⟩ := h2; exact ⟨us, sh _ _ z, r⟩
  | ins c fs => obtain ⟨Ca, dx, gs, z1, z2, z3, r⟩ := h2; exact ⟨Ca, dx, gs, z1, sh _ _ z2, sh _ _ z3, r⟩
/-- it is made: a tree -/
theorem Side.done (s : Side G am C H D us) (wd : Wd K cA G am C H) : Wd K cA (L2.upd G D (.lst us)) am C H ∧ Same G (L2.upd G D (.lst us)) := by
  have sg : Same G (L2.upd G D (.lst us)) := fun b u q => by rw [upd_ne (ne_of_none q s.g)]; exact q
  refine ⟨⟨wd.tab_to sg (fun _ _ e => e) fun P ps e n => by rw [upd_ne (fun z => by rw [z, s.here] at e; cases e)]; exact n, fun b u q => ?_, wd.len, fun i c e => ?_, wd.inj⟩, sg⟩
  · by_cases hb : b = D
    · subst hb; rw [upd_same] at q; cases q; exact s.here
    · rw [upd_ne hb] at q; exact wd.sub _ _ q
  · obtain ⟨a, h1, h2, h3⟩ := wd.cell i c e
    have na : a ≠ D := fun z => s.l ⟨i, c, e, z ▸ h1⟩
    refine ⟨a, h1, ?_, by rw [upd_ne na]; exact h3⟩
    cases c with
    | lst xs => obtain ⟨us, z, r⟩ := h2; exact ⟨us, z, r.mono sg⟩
    | lkd xs => obtain ⟨us, z, r⟩ := h2; exact ⟨us, z, r.mono sg⟩
    | dct kvs => obtain ⟨us, z, r⟩ := h2; exact ⟨us, z, r.mono sg⟩
    | ins c fs => obtain ⟨Ca, dx, gs, z1, z2, z3, r⟩ := h2; exact ⟨Ca, dx, gs, z1, z2, z3, r.mono sg ⟨[], by simp⟩⟩
theorem Ext.done (x : Ext G0 am0 C0 H0 G am C H) (wd0 : Wd K cA G0 am0 C0 H0) (hn : H0 D = none) : Ext G0 am0 C0 H0 (L2.upd G D (.lst us)) am C H :=
  ⟨fun b u q => by
      have : b ≠ D := fun z => by
        have := wd0.sub _ _ q
        rw [z, hn] at this; cases this
      rw [upd_ne this]; exact x.g _ _ q, x.a, x.keep, x.tab, x.live, fun b u q => by
      by_cases hb : b = D
      · subst hb; exact .inr (.inl hn)
      · rw [upd_ne hb] at q; exact x.gn b u q, x.lk⟩
/-! ### locks -/
theorem lock_get (e : E) (i : Nat) : (lock C e)[i]? = C[i]? ∨ ∃ n xs, e = .r n ∧ i = n ∧ C[n]? = some (some (.lst xs)) ∧ (lock C e)[i]? = some (some (.lkd xs)) := by
  cases e with
  | r n =>
    simp only [lock, cellAt]
    cases hc : C[n]? with
    | none => simp [hc]
    | some o =>
      cases o with
      | none => simp [hc]
      | some c =>
        cases c <;> simp only [Option.join_some] <;> first | exact .inl trivial | skip
        case lst xs =>
          by_cases hi : i = n
          · subst hi
            exact .inr ⟨i, xs, rfl, rfl, hc, List.getElem?_set_self (List.getElem?_eq_some_iff.mp hc).1⟩
          · exact .inl (List.getElem?_set_ne fun z => hi z.symm)
  | _ => exact .inl rfl
theorem lock_live {e : E} {a : Addr} : Live am (lock C e) a ↔ Live am C a := by
  constructor
  · rintro ⟨i, c, e1, h⟩
    rcases lock_get (C := C) e i with z | ⟨n, xs, rfl, rfl, z, _⟩
    · exact ⟨i, c, by rw [← z]; exact e1, h⟩
    · exact ⟨_, _, z, h⟩
  · rintro ⟨i, c, e1, h⟩
    rcases lock_get (C := C) e i with z | ⟨n, xs, rfl, rfl, z, q⟩
    · exact ⟨i, c, by rw [z]; exact e1, h⟩
    · exact ⟨_, _, q, h⟩
theorem Wd.lock (wd : Wd K cA G am C H) (e : E) : Wd K cA G am (lock C e) H ∧ Ext G am C H G am (Ev.lock C e) H := by
  have ln : (Ev.lock C e).length = C.length := by
    cases e with
    | r n =>
      simp only [Ev.lock]
      split
      · simp
      · rfl
    | _ => rfl
  refine ⟨⟨wd.tabs, wd.sub, wd.len.trans ln.symm, fun i c e1 => ?_, fun i j c d a e1 e2 h1 h2 => ?_⟩, ⟨Same.refl _, ⟨[], by simp⟩, fun _ _ h _ _ => h, fun _ ps h _ => ⟨ps, h⟩, fun a h => .inl (lock_live.mp h), fun _ _ h => .inl h, fun n xs h => ?_⟩⟩
  · rcases lock_get (C := C) e i with z | ⟨n, xs, rfl, rfl, z, q⟩
    · rw [z] at e1; exact wd.cell i c e1
    · rw [q] at e1; cases e1
      obtain ⟨a, h1, h2, h3⟩ := wd.cell _ _ z
      exact ⟨a, h1, h2, h3⟩
  · have get : ∀ {i : Nat} {c : Cell}, (Ev.lock C e)[i]? = some (some c) → ∃ c', C[i]? = some (some c') := fun {i c} h => by
      rcases lock_get (C := C) e i with z | ⟨n, xs, rfl, rfl, z, q⟩
      · exact ⟨c, by rw [← z]; exact h⟩
      · exact ⟨_, z⟩
    obtain ⟨c', f1⟩ := get e1
    obtain ⟨d', f2⟩ := get e2
    exact wd.inj i j c' d' a f1 f2 h1 h2
  · rcases lock_get (C := C) e n with z | ⟨n', ys, rfl, rfl, z, q⟩
    · rw [z]; exact h
    · rw [z] at h; cases h
/-- back: what stood locked is as it was -/
theorem Wd.unlock {e : E} (x : Ext G am (Ev.lock C e) H G' am' C' H') (w : Wd K cA G' am' C' H') : Wd K cA G' am' (Ev.unlock C C' e) H' ∧ Ext G am C H G' am' (Ev.unlock C C' e) H' := by
  have x0 : Ext G am C H G' am' C' H' → ∀ {C2 : Cells}, (∀ a, Live am' C2 a → Live am' C' a) → (∀ (n : Nat) (xs : List Ev.D), C[n]? = some (some (.lkd xs)) → C2[n]? = some (some (.lkd xs))) → Ext G am C H G' am' C2 H' := fun y {C2} hl hk => ⟨y.g, y.a, y.keep, y.tab, fun a h => y.live a (hl a h), y.gn, hk⟩
  have x1 : Ext G am C H G' am' C' H' := ⟨x.g, x.a, fun a o h n t => x.keep a o h (fun z => n (lock_live.mp z)) t, fun a ps h n => x.tab a ps h fun z => n (lock_live.mp z), fun a h => (x.live a h).imp lock_live.mp id, fun a o h => (x.gn a o h).imp id (Or.imp id lock_live.mp), fun n xs h => x.lk n xs (by
    rcases lock_get (C := C) e n with z | ⟨n', ys, rfl, rfl, z, q⟩
    · rw [z]; exact h
    · rw [z] at h; cases h)⟩
  cases e with
  | r n =>
    simp only [Ev.unlock, cellAt]
    cases hc : C[n]? with
    | none => simp [hc]; exact ⟨w, x1⟩
    | some o =>
      cases o with
      | none => simp [hc]; exact ⟨w, x1⟩
      | some c =>
        cases c <;> simp only [Option.join_some] <;> first | exact ⟨w, x1⟩ | skip
        case lst xs =>
          have hl : (Ev.lock C (.r n))[n]? = some (some (.lkd xs)) := by
            simp only [Ev.lock, cellAt, hc, Option.join_some]
            exact List.getElem?_set_self (List.getElem?_eq_some_iff.mp hc).1
          have hn := x.lk n xs hl
          have hlt := (List.getElem?_eq_some_iff.mp hn).1
          have get : ∀ {i : Nat} {c : Cell}, (C'.set n (some (.lst xs)))[i]? = some (some c) → (i = n ∧ c = .lst xs) ∨ (i ≠ n ∧ C'[i]? = some (some c)) := fun {i c} h => by
            by_cases hi : i = n
            · subst hi; rw [List.getElem?_set_self hlt] at h; cases h; exact .inl ⟨rfl, rfl⟩
            · rw [List.getElem?_set_ne fun z => hi z.symm] at h; exact .inr ⟨hi, h⟩
          have lv : ∀ a, Live am' (C'.set n (some (.lst xs))) a → Live am' C' a := fun a ⟨i, c, h, q⟩ => by
            rcases get h with ⟨rfl, rfl⟩ | ⟨_, h⟩
            · exact ⟨_, _, hn, q⟩
            · exact ⟨i, c, h, q⟩
          refine ⟨⟨w.tabs, w.sub, by simp [w.len], fun i c h => ?_, fun i j c d a h1 h2 q1 q2 => ?_⟩, x0 x1 lv fun m ys h => ?_⟩
          · rcases get h with ⟨rfl, rfl⟩ | ⟨_, h⟩
            · obtain ⟨a, h1, h2, h3⟩ := w.cell _ _ hn
              exact ⟨a, h1, h2, h3⟩
            · exact w.cell _ _ h
          · have f1 : ∃ c', C'[i]? = some (some c') := by
              rcases get h1 with ⟨rfl, rfl⟩ | ⟨_, h⟩
              · exact ⟨_, hn⟩
              · exact ⟨_, h⟩
            have f2 : ∃ c', C'[j]? = some (some c') := by
              rcases get h2 with ⟨rfl, rfl⟩ | ⟨_, h⟩
              · exact ⟨_, hn⟩
              · exact ⟨_, h⟩
            obtain ⟨c', f1⟩ := f1
            obtain ⟨d', f2⟩ := f2
            exact w.inj i j c' d' a f1 f2 q1 q2
          · have hm : m ≠ n := fun z => by rw [z, hc] at h; cases h
            rw [List.getElem?_set_ne fun z => hm z.symm]
            exact x1.lk m ys h
  | _ => exact ⟨w, x1⟩
end

/-- nothing is let out -/
abbrev W0 : WX := fun _ _ _ _ => False
theorem noexc_bad {K : PySem.W.Frag} {cA : Cfg0} {α β γ : Type} {Rl : WRel γ β} {W : WX} {σ : L2.St} {G : Hp} {am : List Addr} {C : Cells} {H : Hp} {Q : β → Hp → Prop} {r : Ev.R α} {f : α → Cells → Ev.R γ} (d : Dn K cA Rl W σ ((noexc r).bind f) G am C H Q) : ∃ a C', r = .ok a C' := by
  cases r with
  | ok a C' => exact ⟨a, C', rfl⟩
  | exc c fs C' => exact d.elim
  | bad => exact d.elim

/-! ### the turns of a clause -/
def delD (H : Hp) (D : Addr) : Hp := fun a => if a = D then none else H a
theorem delD_ne {H : Hp} {D a : Addr} (h : a ≠ D) : delD H D a = H a := if_neg h
theorem delD_some {H : Hp} {D a : Addr} {o : HO} (h : delD H D a = some o) : a ≠ D ∧ H a = some o := by
  unfold delD at h
  split at h
  · cases h
  · exact ⟨by assumption, h⟩
/-- behind a world, but for what stands at D -/
abbrev ExtD (D : Addr) (G : Hp) (am : List Addr) (C : Cells) (H : Hp) (G' : Hp) (am' : List Addr) (C' : Cells) (H' : Hp) : Prop := Ext G am C (delD H D) G' am' C' H'
section
variable {K : PySem.W.Frag} {cA : Cfg0} {G G' G0 : Hp} {am am' am0 : List Addr} {C C' C0 : Cells} {H H' H0 : Hp} {D : Addr} {us : List V}
theorem Ext.toD (x : Ext G am C H G' am' C' H') : ExtD D G am C H G' am' C' H' where
  g := x.g
  a := x.a
  keep := fun a o h n t => x.keep a o (delD_some h).2 n t
  tab := fun a ps h n => x.tab a ps (delD_some h).2 n
  live := fun a l => (x.live a l).imp id fun z => by
    unfold delD; split <;> first | rfl | exact z
  gn := fun a o h => (x.gn a o h).imp id (Or.imp (fun z => by unfold delD; split <;> first | rfl | exact z) id)
  lk := x.lk
theorem Ext.offD {H'' : Hp} (x : ExtD D G am C H G' am' C' H') (h : ∀ a, a ≠ D → H'' a = H' a) : ExtD D G am C H G' am' C' H'' :=
  ⟨x.g, x.a, fun a o e n t => by rw [h a (delD_some e).1]; exact x.keep a o e n t, fun a ps e n => by rw [h a (delD_some e).1]; exact x.tab a ps e n, x.live, x.gn, x.lk⟩
theorem ExtD.refl : ExtD D G am C H G am C H := Ext.refl.toD
theorem ExtD.trans {G1 : Hp} {am1 : List Addr} {C1 : Cells} {H1 : Hp} (x : ExtD D G am C H G' am' C' H') (y : ExtD D G' am' C' H' G1 am1 C1 H1) : ExtD D G am C H G1 am1 C1 H1 :=
  Ext.trans (x.offD (H'' := delD H' D) fun a h => delD_ne h) y
theorem Ext.bhd (x : Ext G am C H G' am' C' H') : Bhd G am C G' am' C' := ⟨x.g, x.a, x.lk⟩
theorem unlock_live {e : E} (x : Ext G am (Ev.lock C e) H G' am' C' H') {a : Addr} (h : Live am' (Ev.unlock C C' e) a) : Live am' C' a := by
  cases e with
  | r n =>
    simp only [Ev.unlock, cellAt] at h
    cases hc : C[n]? with
    | none => simp [hc] at h; exact h
    | some o =>
      cases o with
      | none => simp [hc] at h; exact h
      | some c =>
        simp only [hc, Option.join_some] at h
        cases c <;> first | exact h | skip
        case lst xs =>
          have hl : (Ev.lock C (.r n))[n]? = some (some (.lkd xs)) := by
            simp only [Ev.lock, cellAt, hc, Option.join_some]
            exact List.getElem?_set_self (List.getElem?_eq_some_iff.mp hc).1
          have hn := x.lk n xs hl
          obtain ⟨i, c, h1, h2⟩ := h
          by_cases hi : i = n
          · subst hi; exact ⟨i, _, hn, h2⟩
          · rw [List.getElem?_set_ne fun z => hi z.symm] at h1; exact ⟨i, c, h1, h2⟩
  | _ => exact h
theorem upd_off {o : HO} : ∀ a, a ≠ D → L2.upd H D o a = H a := fun a h => upd_ne h
end
def tB (K : PySem.W.Frag) (cA : Cfg) (fr : Env → Cells → List D → Ev.R (List D)) : Addr → L2.St → Hp → (Hp → Prop) → Prop := fun D σ H Nx =>
  ∃ env G am C acc us ds C', RelEnv K cA G am env σ ∧ Wd K cA G am C H ∧ Side G am C H D us ∧ RelDs K cA G acc us ∧ fr env C acc = .ok ds C' ∧
    ∀ G' am' H' us', ExtD D G am C H G' am' C' H' → Wd K cA G' am' C' H' → Side G' am' C' H' D us' → RelDs K cA G' ds us' → Nx H'
section
variable {X : Cx} {cA : Cfg} {pos : Pos}
theorem turns_rel {t : Tg} {vs : List Nat} {ft : Env → Cells → Ev.R Bool} {fr : Env → Cells → List D → Ev.R (List D)} {D : Addr} {σ : L2.St} {env : Env} {G1 : Hp} {am1 : List Addr} {C1 : Cells} {H1 : Hp} {us : List V} {acc ds dsF : List Ev.D} {CF : Cells} {J : L2.It} {Fin : Hp → Prop} {K : PySem.W.Frag}
    (re : RelEnv K cA G1 am1 env σ) (w1 : Wd K cA G1 am1 C1 H1) (s1 : Side G1 am1 C1 H1 D us) (ra : RelDs K cA G1 acc us) (wk : WalkD K cA J ds G1 am1 C1 H1) (ht : ∀ i ∈ tsl t, i ∈ vs)
    (hF : compL (wipeE env vs) t (fun env C acc => stepC (ft env C) (fun C => fr env C acc) acc) ds C1 acc = .ok dsF CF)
    (hfin : ∀ G' am' H' us', ExtD D G1 am1 C1 H1 G' am' CF H' → Wd K cA G' am' CF H' → Side G' am' CF H' D us' → RelDs K cA G' dsF us' → Fin H') :
    ∃ W : Nat → Nat → Hp → Prop, (∃ m, W 0 m H1) ∧ ∀ i m H, W i m H →
      (J.stop i H ∧ Fin H) ∨ (J.go i H ∧ ∃ Nx1 : Hp → Prop, (∀ H', Nx1 H' → ∃ m', m' < m ∧ W (i + 1) m' H') ∧ ∀ x H', J.yld i H x H' → tG K cA t x (L2.wipe σ vs) H' fun σ2 H2 => L2.wipe σ2 vs = L2.wipe σ vs ∧ tT K cA W0 ft σ2 H2 fun b H3 => if b = true then tB K cA fr D σ2 H3 Nx1 else Nx1 H3) := by
  have re0 := re.wipe vs
  generalize henv : wipeE env vs = env0 at hF re0
  generalize hbd : (fun (env : Env) (C : Cells) (acc : List Ev.D) => stepC (ft env C) (fun C => fr env C acc) acc) = bd at hF
  let Pv : Nat → Hp → Prop := fun i Hc => ∃ G2 am2 C2 acc us, ExtD D G1 am1 C1 H1 G2 am2 C2 Hc ∧ Wd K cA G2 am2 C2 Hc ∧ Side G2 am2 C2 Hc D us ∧ RelDs K cA G2 acc us ∧ compL env0 t bd (ds.drop i) C2 acc = .ok dsF CF
  refine ⟨fun i m Hc => m = ds.length - i ∧ i ≤ ds.length ∧ Pv i Hc, ⟨ds.length, by simp, Nat.zero_le _, G1, am1, C1, acc, us, ExtD.refl, w1, s1, ra, by rw [List.drop_zero]; exact hF⟩, ?_⟩
  rintro i m Hc ⟨rfl, hi', G2, am2, C2, acc, us, x2, w2, s2, ra, hfu⟩
  obtain ⟨go, stop, yld⟩ := wk G2 am2 C2 Hc x2.bhd w2
  by_cases hlt : i < ds.length
  · refine .inr ⟨go i hlt, Pv (i + 1), fun H' p => ⟨ds.length - (i + 1), by omega, rfl, hlt, p⟩, fun x H' y => ?_⟩
    obtain ⟨dd, G3, hd, x3, w3, rd⟩ := yld i x H' hlt y
    have hdrop : ds.drop i = dd :: ds.drop (i + 1) := by
      rw [List.drop_eq_getElem_cons hlt]
      congr 1
      have := List.getElem?_eq_getElem hlt
      rw [this] at hd; exact Option.some.inj hd
    rw [hdrop, compL] at hfu
    cases ha : asgT t dd env0 with
    | none => rw [ha] at hfu; dsimp only at hfu; cases hfu
    | some e1 =>
      rw [ha] at hfu
      dsimp only at hfu
      have re3 : RelEnv K cA G3 am2 env0 (L2.wipe σ vs) := (re0.mono x2).mono x3
      refine ⟨env0, G3, am2, C2, dd, e1, re3, w3, rd, ha, fun σ2 re2 off => ⟨(off.wipe ht).trans wipe_wipe, ?_⟩⟩
      have hb1 : bd e1 C2 acc = (ft e1 C2).bind fun b C => if b then fr e1 C acc else .ok acc C := by rw [← hbd]; rfl
      rw [hb1] at hfu
      refine ⟨e1, G3, am2, C2, re2, w3, ?_⟩
      cases et : ft e1 C2 with
      | bad => rw [et, Ev.R.bind_bad, Ev.R.bind_bad] at hfu; cases hfu
      | exc c fs C3 => rw [et, Ev.R.bind_exc, Ev.R.bind_exc] at hfu; cases hfu
      | ok b C3 =>
        rw [et, Ev.R.bind_ok] at hfu
        intro G4 am4 H4 v x4 w4 ev
        cases ev
        have x34 := x3.trans x4
        have s4 := s2.ext x34
        have x24 := ExtD.trans x2 (Ext.toD (D := D) x34)
        have ra4 := ra.mono x34.g
        cases b with
        | false =>
          rw [if_neg (by decide)] at hfu ⊢
          rw [Ev.R.bind_ok] at hfu
          exact ⟨G4, am4, C3, acc, us, x24, w4, s4, ra4, hfu⟩
        | true =>
          rw [if_pos rfl] at hfu ⊢
          cases ee : fr e1 C3 acc with
          | bad => rw [ee, Ev.R.bind_bad] at hfu; cases hfu
          | exc c fs C4 => rw [ee, Ev.R.bind_exc] at hfu; cases hfu
          | ok acc2 C4 =>
            rw [ee, Ev.R.bind_ok] at hfu
            exact ⟨e1, G4, am4, C3, acc, us, acc2, C4, re2.mono x4, w4, s4, ra4, ee, fun G5 am5 H5 us5 x5 w5 s5 r5 => ⟨G5, am5, C4, acc2, us5, ExtD.trans x24 x5, w5, s5, r5, hfu⟩⟩
  · have hie : i = ds.length := by omega
    subst hie
    refine .inl ⟨stop, ?_⟩
    rw [List.drop_length, compL] at hfu
    cases hfu
    exact hfin G2 am2 Hc us x2 w2 s2 ra
/-- the innermost -/
theorem r_elt {B : Cx} {elt : Expr} {gens : List Comprehension} {scope : Scope} {d : Nat} {fe : Env → Cells → Ev.R E} (hx : ∀ e s, ¬ B.xe e s) (h1 : gens[d + 1]? = none) (he : PE B elt (tE B.K cA W0 fe)) :
    PEm B elt gens scope pos d [] (tB B.K cA fun env C acc => pushD (fe env C) acc) := by
  refine ⟨fun D pins s σ H Nx I h => (pem_elt hx h1 he).run D pins s σ H Nx I ?_⟩
  obtain ⟨env, G, am, C, acc, us, ds, C', re, wd, sd, ra, hf, k⟩ := h
  refine ⟨env, G, am, C, re, wd, ?_⟩
  dsimp only [pushD] at hf
  cases ee : fe env C with
  | bad => rw [ee, Ev.R.bind_bad] at hf; cases hf
  | exc c fs C4 => rw [ee, Ev.R.bind_exc] at hf; cases hf
  | ok z C4 =>
    rw [ee, Ev.R.bind_ok] at hf
    cases z with
    | v dz =>
      dsimp only at hf
      by_cases hlen : acc.length < line
      · rw [if_pos hlen] at hf
        cases hf
        intro G5 am5 H5 yv x5 w5 rz
        have s5 := sd.ext x5
        exact ⟨us, s5.here, by rw [← ra.length, ← line_eq]; exact hlen, k G5 am5 _ _ ((Ext.toD x5).offD upd_off) (s5.wd w5 _) (s5.upd _) ((ra.mono x5.g).append (RelDs.one rz))⟩
      · rw [if_neg hlen] at hf; cases hf
    | _ => dsimp only at hf; cases hf
/-- a clause within -/
theorem r_gen {B : Cx} {elt t1 i1 : Expr} {ifs1 : List Expr} {gens : List Comprehension} {scope : Scope} {d : Nat} {t : Tg} {own vs : List Nat} {fi : Env → Cells → Ev.R (List D × E)} {ft : Env → Cells → Ev.R Bool} {fr : Env → Cells → List D → Ev.R (List D)}
    (hc : B.calm = true) (hx : ∀ e s, ¬ B.xe e s) (hz : ∀ g ∈ gens, g.is_async = 0) (h1 : gens[d + 1]? = some ⟨t1, i1, ifs1, 0⟩) (hs : plainX i1 = true)
    (pi : PI B t1 i1 (tI B.K cA W0 fi)) (pg : PG B t1 (tG B.K cA t)) (pt : PTs B ifs1 (tT B.K cA W0 ft)) (pe : PEm B elt gens scope pos (d + 1) own (tB B.K cA fr)) (hv : ∀ i ∈ own, i ∈ vs) (ht : ∀ i ∈ tsl t, i ∈ vs) :
    PEm B elt gens scope pos d vs (tB B.K cA fun env C acc => walkC (fi env C) fun ds C => compL (wipeE env vs) t (fun env C acc => stepC (ft env C) (fun C => fr env C acc) acc) ds C acc) := by
  refine ⟨fun D pins s σ H Nx I h => (pem_gen hc hx hz h1 (fun env => folded_plain hs) pi pg pt pe hv).run D pins s σ H Nx I ?_⟩
  obtain ⟨env, G, am, C, acc, us, ds, C', re, wd, sd, ra, hf, k⟩ := h
  refine ⟨env, G, am, C, re, wd, ?_⟩
  dsimp only [walkC] at hf
  cases ei : fi env C with
  | bad => rw [ei, Ev.R.bind_bad] at hf; cases hf
  | exc c fs C4 => rw [ei, Ev.R.bind_exc] at hf; cases hf
  | ok wv C1 =>
    obtain ⟨ds1, e⟩ := wv
    rw [ei, Ev.R.bind_ok] at hf
    dsimp only at hf
    intro G1 am1 H1 J x1 w1 wk
    dsimp only at wk
    cases ec : compL (wipeE env vs) t (fun env C acc => stepC (ft env C) (fun C => fr env C acc) acc) ds1 (lock C1 e) acc with
    | bad => rw [ec, Ev.R.bind_bad] at hf; cases hf
    | exc c fs C4 => rw [ec, Ev.R.bind_exc] at hf; cases hf
    | ok dsF CF =>
      rw [ec, Ev.R.bind_ok] at hf
      cases hf
      obtain ⟨w1l, x1l⟩ := w1.lock e
      have s1 := (sd.ext x1).ext x1l
      exact turns_rel ((re.mono x1).mono x1l) w1l s1 (ra.mono x1.g) wk ht ec fun G' am' H' us' x' w' s' r' => by
        obtain ⟨w4, x4⟩ := Wd.unlock x' w'
        exact k G' am' H' us' (ExtD.trans (Ext.toD x1) x4) w4 ⟨s'.here, s'.g, fun l => s'.l (unlock_live x' l)⟩ r'
theorem lcG_rel {W : WX} {σ : L2.St} {H : Hp} {Q : VK} {fi : Env → Cells → Ev.R (List D × E)} {t : Tg} {own : List (Str × Nat)} {ft : Env → Cells → Ev.R Bool} {fr : Env → Cells → List D → Ev.R (List D)} {scope : Scope}
    (nd : X.N.Nodup) (ok : BlkOk X.N X.env.scope scope own) (hown : ∀ i ∈ tsl t, i ∈ own.map (·.2)) (h : tE X.K cA W (fun env C => (fi env C).bind fun w C =>
      (noexc (compL (wipeE env (own.map (·.2))) t (fun env C acc => stepC (ft env C) (fun C => fr env C acc) acc) w.1 (lock C w.2) [])).bind fun ds C' => .ok (.v (.lst ds)) (unlock C C' w.2)) σ H Q) :
    tLcG (tI X.K cA W fi) (tG X.K cA t) (tT X.K cA W0 ft) (tB X.K cA fr) (own.map (·.2)) σ H Q := by
  obtain ⟨env, G, am, C, re, wd, d⟩ := h
  refine ⟨env, G, am, C, re, wd, ?_⟩
  dsimp only at d
  cases ei : fi env C with
  | bad => rw [ei] at d; exact d.elim
  | exc c fs C1 => rw [ei] at d; exact d
  | ok wv C1 =>
    obtain ⟨ds, e⟩ := wv
    rw [ei, Ev.R.bind_ok] at d
    intro G1 am1 H1 J x1 w1 wk L hL
    have d1 := d.shift x1
    dsimp only at d1 wk
    obtain ⟨dsF, CF, hF⟩ := noexc_bad d1
    rw [hF] at d1
    simp only [noexc, Ev.R.bind_ok] at d1
    obtain ⟨w1l, x1l⟩ := w1.lock e
    obtain ⟨s1, w2⟩ := Side.new (us := []) w1l hL
    refine turns_rel ((re.mono x1).mono x1l) w2 s1 (by simp only [RelDs]) (fun G2 am2 C2 H2 x2 w2 => wk G2 am2 C2 H2 x2 w2) hown hF fun G' am' H' us' x' w' s' r' => ?_
    have xx : Ext G1 am1 (lock C1 e) H1 G' am' CF H' := by
      have e0 : delD (L2.upd H1 L (.lst [])) L = H1 := by
        funext b
        by_cases hb : b = L
        · subst hb; unfold delD; rw [if_pos rfl, hL]
        · rw [delD_ne hb, upd_ne hb]
      have x' := x'
      unfold ExtD at x'
      rw [e0] at x'
      exact x'
    obtain ⟨w3, sg⟩ := s'.done w'
    have x3 := xx.done (us := us') w1l hL
    obtain ⟨w4, x4⟩ := Wd.unlock x3 w3
    refine d1 _ _ _ (.ref L) x4 w4 ?_
    simp only [rE, RelE, RelD]
    exact ⟨L, us', rfl, SqL.of upd_same, r'.mono sg⟩
theorem r_comp {W : WX} {fi : Env → Cells → Ev.R (List D × E)} {t : Tg} {own : List (Str × Nat)} {vs1 : List Nat} {ft : Env → Cells → Ev.R Bool} {fr : Env → Cells → List D → Ev.R (List D)} {tg iter elt : Expr} {ifs : List Expr} {gs : List Comprehension} {scope : Scope}
    (hc : X.calm = true) (nd : X.N.Nodup) (hi : PI X tg iter (tI X.K cA W fi)) (ok : BlkOk X.N X.env.scope scope own) (hz : ∀ g ∈ gs, g.is_async = 0) (hown : ∀ i ∈ tsl t, i ∈ own.map (·.2)) (hv : ∀ i ∈ vs1, i ∈ own.map (·.2))
    (hg : ∀ (s : Shared) (H : Hp) (C : Addr) (cl : List (Str × Addr)) (fp : List Addr), PG (X.blk s H scope (compEnvC scope cl C X.env) fp) tg (tG X.K cA t))
    (ht : ∀ (s : Shared) (H : Hp) (C : Addr) (cl : List (Str × Addr)) (fp : List Addr), PTs (X.blk s H scope (compEnvC scope cl C X.env) fp) ifs (tT X.K cA W0 ft))
    (he : ∀ (s : Shared) (H : Hp) (C : Addr) (cl : List (Str × Addr)) (fp : List Addr), PEm (X.blk s H scope (compEnvC scope cl C X.env) fp) elt (⟨tg, iter, ifs, 0⟩ :: gs) scope pos 0 vs1 (tB X.K cA fr)) (hs : plainX iter = true) :
    PE X (.ListComp elt (⟨tg, iter, ifs, 0⟩ :: gs) scope pos) (tE X.K cA W fun env C => (fi env C).bind fun w C =>
      (noexc (compL (wipeE env (own.map (·.2))) t (fun env C acc => stepC (ft env C) (fun C => fr env C acc) acc) w.1 (lock C w.2) [])).bind fun ds C' => .ok (.v (.lst ds)) (unlock C C' w.2)) := by
  refine ⟨fun pins s σ H Q I h => ?_⟩
  rw [eval_ListComp]
  refine lcG_core hc nd I hi ok hz hv hg ht he (folded_plain hs) (lcG_rel nd ok hown h) fun D C s' m H' I' q hn f => ⟨m, hn, fun h'' sb => ?_⟩
  obtain ⟨f0, f1, f2, f3, f4, f5⟩ := f
  exact ⟨.ref D, H', I'.turned (t' := s'.toks) (fun b o hb e => (sb.2 b hb).trans e) f0 f1 f3 f4 f5, rfl, q⟩
/-- the list is stored at once -/
theorem r_setLc {W : WX} {fi : Env → Cells → Ev.R (List D × E)} {t : Tg} {own : List (Str × Nat)} {vs1 : List Nat} {ft : Env → Cells → Ev.R Bool} {fr : Env → Cells → List D → Ev.R (List D)} {tg iter elt : Expr} {ifs : List Expr} {gs : List Comprehension} {scope : Scope} {i : Nat} {y : Str} {py spos : Pos}
    (hc : X.calm = true) (nd : X.N.Nodup) (hy : X.N[i]? = some y) (hyl : X.env.scope.names.lookup y = some .local) (hsw : swapsWith (.ListComp elt (⟨tg, iter, ifs, 0⟩ :: gs) scope pos) (some (.Name y py)) spos.line X.env = pure true)
    (hi : PI X tg iter (tI X.K cA W fi)) (ok : BlkOk X.N X.env.scope scope own) (hz : ∀ g ∈ gs, g.is_async = 0) (hown : ∀ i ∈ tsl t, i ∈ own.map (·.2)) (hv : ∀ i ∈ vs1, i ∈ own.map (·.2))
    (hg : ∀ (s : Shared) (H : Hp) (C : Addr) (cl : List (Str × Addr)) (fp : List Addr), PG (X.blk s H scope (compEnvC scope cl C X.env) fp) tg (tG X.K cA t))
    (ht : ∀ (s : Shared) (H : Hp) (C : Addr) (cl : List (Str × Addr)) (fp : List Addr), PTs (X.blk s H scope (compEnvC scope cl C X.env) fp) ifs (tT X.K cA W0 ft))
    (he : ∀ (s : Shared) (H : Hp) (C : Addr) (cl : List (Str × Addr)) (fp : List Addr), PEm (X.blk s H scope (compEnvC scope cl C X.env) fp) elt (⟨tg, iter, ifs, 0⟩ :: gs) scope pos 0 vs1 (tB X.K cA fr)) (hs : plainX iter = true) :
    PS X (.Assign [.Name y py] (.ListComp elt (⟨tg, iter, ifs, 0⟩ :: gs) scope pos) spos) (tAsg (tE X.K cA W fun env C => (fi env C).bind fun w C =>
      (noexc (compL (wipeE env (own.map (·.2))) t (fun env C acc => stepC (ft env C) (fun C => fr env C acc) acc) w.1 (lock C w.2) [])).bind fun ds C' => .ok (.v (.lst ds)) (unlock C C' w.2)) (gName i)) := by
  refine ⟨fun pins s σ H D I h => ?_⟩
  rw [exec_Assign_Name_used _ _ _ _ hsw]
  refine wpAny_bind (wpAny_standAt (wpAny_bind ?_))
  show wpAny _ X.A (do let _ ← comprehension (.ListComp elt (⟨tg, iter, ifs, 0⟩ :: gs) scope pos) scope X.env (firstIterPos (⟨tg, iter, ifs, 0⟩ :: gs) pos) (newList []) false (eval iter X.env) (some (assign (.Name y py) X.env))) _ _ s
  refine wpAny_bind (thn (lcG_core (Qf := fun _ s' => SP X pins D .next s') hc nd I hi ok hz hv hg ht he (folded_plain hs) (lcG_rel (Q := fun x H1 => gName i x σ H1 D.nx) nd ok hown h) fun L C s' m H' I' q hn f => ?_) fun _ s' hq => wpAny_pure (wpAny_pure hq))
  show wpAny _ _ (assign (.Name y py) X.env (.ref L)) _ _ _
  refine wpAny_assign_Name (store_ok2 (v := V.ref L) I' nd hy (.inl hyl) rfl (fun s2 I2 ⟨a, sb, ha⟩ => ?_) (.inr hyl))
  obtain ⟨f0, f1, f2, f3, f4, f5⟩ := f
  have haC : C ≠ a := by
    rcases ha with z | z
    · rw [z]; exact f1
    · exact fun e => f4 y a z e.symm
  refine ⟨m, hn.sameBut sb haC, fun h3 sb3 => ?_⟩
  exact ⟨_, H', I2.turned (t' := s2.toks) (fun b o hb e => (sb3.2 b hb).trans e) f0 f1 f3 f4 f5, q⟩
end
end Ev

end

section
set_option maxRecDepth 512
set_option Elab.async false
set_option linter.all false
set_option maxRecDepth 100000
set_option maxHeartbeats 4000000
namespace Ev
open PySem L2 PySem.Spec PyProof.Rows

/-! ### statements read by the evaluator -/
def DnS (K : PySem.W.Frag) (cA : Cfg) (W : WX) (r : RS) (G : Hp) (am : List Addr) (C : Cells) (H : Hp) (D : Ends) : Prop :=
  match r with
  | .next env' C' => ∀ G' am' H' σ', Ext G am C H G' am' C' H' → Wd K cA G' am' C' H' → RelEnv K cA G' am' env' σ' → D.nx σ' H'
  | .ret e C' => ∀ G' am' H' v, Ext G am C H G' am' C' H' → Wd K cA G' am' C' H' → RelE K cA G' am' e v → D.rt v H'
  | .brk env' C' => ∀ G' am' H' σ', Ext G am C H G' am' C' H' → Wd K cA G' am' C' H' → RelEnv K cA G' am' env' σ' → D.bk σ' H'
  | .ct env' C' => ∀ G' am' H' σ', Ext G am C H G' am' C' H' → Wd K cA G' am' C' H' → RelEnv K cA G' am' env' σ' → D.ct σ' H'
  | .exc c fs env' C' => ∀ G' am' H' σ' cls dd, Ext G am C H G' am' C' H' → Wd K cA G' am' C' H' → RelEnv K cA G' am' env' σ' → RelX K cA G' c fs cls dd → W cls dd σ' H'
  | .bad => False
def tS (K : PySem.W.Frag) (cA : Cfg) (W : WX) (ev : Env → Cells → RS) : TS := fun D σ H =>
  ∃ env G am C, RelEnv K cA G am env σ ∧ Wd K cA G am C H ∧ DnS K cA W (ev env C) G am C H D
theorem PS.imp {X : Cx} {e : Stmt} {t t' : TS} (h : PS X e t) (i : ∀ D σ H, t' D σ H → t D σ H) : PS X e t' := ⟨fun pins s σ H D I q => h.run pins s σ H D I (i D σ H q)⟩
theorem PSs.imp {X : Cx} {e : List Stmt} {t t' : TS} (h : PSs X e t) (i : ∀ D σ H, t' D σ H → t D σ H) : PSs X e t' := ⟨fun pins s σ H D I q => h.run pins s σ H D I (i D σ H q)⟩
section
variable {K : PySem.W.Frag} {cA : Cfg} {W : WX} {σ : L2.St} {G G' : Hp} {am am' : List Addr} {C C' : Cells} {H H' : Hp} {D : Ends}
theorem DnS.shift {r : RS} (x : Ext G am C H G' am' C' H') (h : DnS K cA W r G am C H D) : DnS K cA W r G' am' C' H' D := by
  cases r with
  | next env C2 => exact fun G2 am2 H2 σ' x2 w2 r2 => h G2 am2 H2 σ' (x.trans x2) w2 r2
  | ret e C2 => exact fun G2 am2 H2 v x2 w2 r2 => h G2 am2 H2 v (x.trans x2) w2 r2
  | brk env C2 => exact fun G2 am2 H2 σ' x2 w2 r2 => h G2 am2 H2 σ' (x.trans x2) w2 r2
  | ct env C2 => exact fun G2 am2 H2 σ' x2 w2 r2 => h G2 am2 H2 σ' (x.trans x2) w2 r2
  | exc c fs env C2 => exact fun G2 am2 H2 σ' cls dd x2 w2 re r2 => h G2 am2 H2 σ' cls dd (x.trans x2) w2 re r2
  | bad => exact h
/-- an expression, then what it is for -/
theorem DnS.st {α β : Type} {Rl : WRel α β} {r : Ev.R α} {env : Env} {f : α → Cells → RS} (re : RelEnv K cA G am env σ) (h : DnS K cA W (r.st env f) G am C H D) :
    Dn K cA Rl W σ r G am C H fun v H1 => ∃ G1 am1 C1 a, Ext G am C H G1 am1 C1 H1 ∧ Wd K cA G1 am1 C1 H1 ∧ Rl G1 am1 C1 H1 a v ∧ RelEnv K cA G1 am1 env σ ∧ DnS K cA W (f a C1) G1 am1 C1 H1 D := by
  cases r with
  | ok a C2 => exact fun G2 am2 H2 v x2 w2 r2 => ⟨G2, am2, C2, a, x2, w2, r2, re.mono x2, DnS.shift x2 h⟩
  | exc c fs C2 => exact fun G2 am2 H2 cls dd x2 w2 r2 => h G2 am2 H2 σ cls dd x2 w2 (re.mono x2) r2
  | bad => exact h
theorem DnS.next {env : Env} (h : DnS K cA W (.next env C) G am C H D) (wd : Wd K cA G am C H) (re : RelEnv K cA G am env σ) : D.nx σ H := h G am H σ Ext.refl wd re
end
section
variable {X : Cx} {cA : Cfg} {sx : Sx} {k : Nat} {W : WX} {a b c : Expr} {fa fb fc : Env → Cells → Ev.R E} {ga gb : Env → Cells → RS} {pos : Pos} {ss rs : List Stmt} {st : Stmt}
theorem s_nil : PSs X [] (tS X.K cA W fun env C => .next env C) := PSs.imp pss_nil fun D σ H ⟨env, G, am, C, re, wd, d⟩ => DnS.next d wd re
theorem s_cons (hs : PS X st (tS X.K cA W ga)) (hr : PSs X rs (tS X.K cA W gb)) : PSs X (st :: rs) (tS X.K cA W fun env C => match ga env C with
    | .next env C => gb env C
    | x => x) := by
  refine PSs.imp (pss_cons hs hr) fun D σ H ⟨env, G, am, C, re, wd, d⟩ => ?_
  refine ⟨env, G, am, C, re, wd, ?_⟩
  dsimp only at d
  cases e : ga env C with
  | next env' C' =>
    rw [e] at d
    exact fun G2 am2 H2 σ' x2 w2 r2 => ⟨env', G2, am2, C', r2, w2, DnS.shift x2 d⟩
  | ret e2 C' => rw [e] at d; exact d
  | brk env' C' => rw [e] at d; exact d
  | ct env' C' => rw [e] at d; exact d
  | exc c fs env' C' => rw [e] at d; exact d
  | bad => rw [e] at d; exact d
theorem s_pass : PS X (.Pass pos) (tS X.K cA W fun env C => .next env C) := PS.imp ps_pass fun D σ H ⟨env, G, am, C, re, wd, d⟩ => DnS.next d wd re
theorem s_brk : PS X (.Break pos) (tS X.K cA W fun env C => .brk env C) := PS.imp ps_break fun D σ H ⟨env, G, am, C, re, wd, d⟩ => d G am H σ Ext.refl wd re
theorem s_ct : PS X (.Continue pos) (tS X.K cA W fun env C => .ct env C) := PS.imp ps_continue fun D σ H ⟨env, G, am, C, re, wd, d⟩ => d G am H σ Ext.refl wd re
theorem s_exp (ha : PE X a (tE X.K cA W fa)) (hn : noComp a = true) : PS X (.Expr a pos) (tS X.K cA W fun env C => (fa env C).st env fun _ C => .next env C) := by
  refine PS.imp (ps_expr ha (sw_plain hn)) fun D σ H ⟨env, G, am, C, re, wd, d⟩ => ?_
  exact ⟨env, G, am, C, re, wd, Dn.imp (DnS.st (Rl := rE X.K cA) re d) fun v H1 ⟨G1, am1, C1, x, x1, w1, rx, re1, d1⟩ => DnS.next d1 w1 re1⟩
theorem s_ret (ha : PE X a (tE X.K cA W fa)) : PS X (.Return (some a) pos) (tS X.K cA W fun env C => (fa env C).st env fun x C => .ret x C) := by
  refine PS.imp (ps_ret ha) fun D σ H ⟨env, G, am, C, re, wd, d⟩ => ?_
  exact ⟨env, G, am, C, re, wd, Dn.imp (DnS.st (Rl := rE X.K cA) re d) fun v H1 ⟨G1, am1, C1, x, x1, w1, rx, re1, d1⟩ => d1 G1 am1 H1 v Ext.refl w1 rx⟩
theorem s_retN : PS X (.Return none pos) (tS X.K cA W fun _ C => .ret (.v .non) C) := PS.imp ps_retN fun D σ H ⟨env, G, am, C, re, wd, d⟩ => d G am H .non Ext.refl wd (by simp only [RelE, RelD])
theorem s_ife (hc : PT X c (tT X.K cA W fun env C => truR (fc env C))) (ha : PSs X ss (tS X.K cA W ga)) (hb : PSs X rs (tS X.K cA W gb)) : PS X (.If c ss rs pos) (tS X.K cA W fun env C => (fc env C).st env fun x C => match truE C x with
    | none => .bad
    | some true => ga env C
    | some false => gb env C) := by
  refine PS.imp (ps_if hc ha hb) fun D σ H ⟨env, G, am, C, re, wd, d⟩ => ?_
  refine ⟨env, G, am, C, re, wd, ?_⟩
  dsimp only at d ⊢
  cases e : fc env C with
  | bad => rw [e] at d; exact d.elim
  | exc c fs C1 => rw [e] at d; exact fun G2 am2 H2 cls dd x2 w2 r2 => d G2 am2 H2 σ cls dd x2 w2 (re.mono x2) r2
  | ok x C1 =>
    rw [e] at d
    simp only [Ev.R.st] at d
    simp only [truR, Ev.R.bind_ok]
    cases t : truE C1 x with
    | none => simp only [t] at d; exact d.elim
    | some b =>
      simp only [Ev.R.of_some]
      intro G' am' H' v x1 w1 e1
      cases e1
      cases b with
      | true => simp only [t] at d; exact iteT ⟨env, G', am', C1, re.mono x1, w1, DnS.shift x1 d⟩
      | false => simp only [t] at d; exact iteF ⟨env, G', am', C1, re.mono x1, w1, DnS.shift x1 d⟩
/-- what a store asks of its text -/
def swapB (sc : Scope) (tg e : Expr) (line : Nat) : Option Bool :=
  match e, tg with
  | .ListComp _ _ s p, .Name t tp => some (decide (sc.names.lookup t = some .local) && tp.line == p.line && !(s.names.any fun (n, k) => n == t && (k == .local || k == .cell)))
  | .ListComp .., _ => some false
  | .SetComp .., _ => none
  | .DictComp .., _ => none
  | _, _ => some false
end
end Ev

end

section
set_option maxRecDepth 512
set_option Elab.async false
set_option linter.all false
set_option maxRecDepth 100000
set_option maxHeartbeats 4000000
namespace Ev
open PySem L2 PySem.Spec PyProof.Rows

section
variable {K : PySem.W.Frag} {cA : Cfg0} {G : Hp} {am : List Addr} {C : Cells} {H : Hp}
/-- the cell that a reference names -/
theorem Wd.at (wd : Wd K cA G am C H) {n : Nat} {v : V} {c : Cell} (r : RelE K cA G am (.r n) v) (h : cellAt C n = some c) : ∃ a, v = .ref a ∧ am[n]? = some a ∧ C[n]? = some (some c) ∧ CellO K cA G am H a c ∧ G a = none := by
  obtain ⟨a, h1, rfl⟩ := r
  have hc : C[n]? = some (some c) := by
    unfold cellAt at h
    cases e : C[n]? with
    | none => rw [e] at h; cases h
    | some o => rw [e] at h; simp only [Option.join_some] at h; rw [h]
  obtain ⟨a', h2, h3, h4⟩ := wd.cell n c hc
  rw [h1] at h2; cases h2
  exact ⟨a, rfl, h1, hc, h3, h4⟩
/-- a list's cell is written -/
theorem Wd.put (wd : Wd K cA G am C H) {n : Nat} {a : Addr} {xs ys : List D} {us vs : List V} (h1 : am[n]? = some a) (hc : C[n]? = some (some (.lst xs))) (hH : H a = some (.lst us)) (rd : RelDs K cA G ys vs) :
    Wd K cA G am (C.set n (some (.lst ys))) (L2.upd H a (.lst vs)) ∧ Ext G am C H G am (C.set n (some (.lst ys))) (L2.upd H a (.lst vs)) := by
  have hlt := (List.getElem?_eq_some_iff.mp hc).1
  have lv : Live am C a := ⟨n, _, hc, h1⟩
  have hg : G a = none := by
    obtain ⟨a', h2, _, h4⟩ := wd.cell n _ hc
    rw [h1] at h2; cases h2; exact h4
  have get : ∀ {i : Nat} {c : Cell}, (C.set n (some (.lst ys)))[i]? = some (some c) → (i = n ∧ c = .lst ys) ∨ (i ≠ n ∧ C[i]? = some (some c)) := fun {i c} h => by
    by_cases hi : i = n
    · subst hi; rw [List.getElem?_set_self hlt] at h; cases h; exact .inl ⟨rfl, rfl⟩
    · rw [List.getElem?_set_ne fun z => hi z.symm] at h; exact .inr ⟨hi, h⟩
  have lv2 : ∀ b, Live am (C.set n (some (.lst ys))) b → Live am C b := fun b ⟨i, c, h, q⟩ => by
    rcases get h with ⟨rfl, rfl⟩ | ⟨_, h⟩
    · exact ⟨_, _, hc, q⟩
    · exact ⟨i, c, h, q⟩
  refine ⟨⟨wd.tab_to (Same.refl _) (fun P ps e => by rw [upd_ne (fun z => by rw [z, hH] at e; cases e)]; exact e) fun _ _ _ n => n, fun b u q => ?_, by simp [wd.len], fun i c h => ?_, fun i j c d b e1 e2 q1 q2 => ?_⟩,
    ⟨Same.refl _, ⟨[], by simp⟩, fun b o q nl t => ?_, fun b ps q nl => ?_, fun b l => .inl (lv2 b l), fun b o q => .inl q, fun m zs h => ?_⟩⟩
  · have : b ≠ a := fun z => by rw [z, hg] at q; cases q
    rw [upd_ne this]; exact wd.sub _ _ q
  · rcases get h with ⟨rfl, rfl⟩ | ⟨hi, h⟩
    · exact ⟨a, h1, ⟨vs, upd_same, rd⟩, hg⟩
    · obtain ⟨b, q1, q2, q3⟩ := wd.cell i c h
      have nb : b ≠ a := fun z => hi (wd.inj i n c _ a h hc (by rw [← z]; exact q1) h1)
      refine ⟨b, q1, ?_, q3⟩
      cases c with
      | lst xs => obtain ⟨us, z, r⟩ := q2; exact ⟨us, by rw [upd_ne nb]; exact z, r⟩
      | lkd xs => obtain ⟨us, z, r⟩ := q2; exact ⟨us, by rw [upd_ne nb]; exact z, r⟩
      | dct kvs => obtain ⟨us, z, r⟩ := q2; exact ⟨us, by rw [upd_ne nb]; exact z, r⟩
      | ins c fs =>
        obtain ⟨Ca, dx, gs, z1, z2, z3, r⟩ := q2
        have nd : dx ≠ a := fun z => by rw [z, hH] at z3; cases z3
        exact ⟨Ca, dx, gs, z1, by rw [upd_ne nb]; exact z2, by rw [upd_ne nd]; exact z3, r⟩
  · have f1 : ∃ c', C[i]? = some (some c') := by
      rcases get e1 with ⟨rfl, rfl⟩ | ⟨_, h⟩
      · exact ⟨_, hc⟩
      · exact ⟨_, h⟩
    have f2 : ∃ c', C[j]? = some (some c') := by
      rcases get e2 with ⟨rfl, rfl⟩ | ⟨_, h⟩
      · exact ⟨_, hc⟩
      · exact ⟨_, h⟩
    obtain ⟨c', f1⟩ := f1
    obtain ⟨d', f2⟩ := f2
    exact wd.inj i j c' d' b f1 f2 q1 q2
  · have : b ≠ a := fun z => nl (z ▸ lv)
    rw [upd_ne this]; exact q
  · have : b ≠ a := fun z => nl (z ▸ lv)
    exact ⟨ps, by rw [upd_ne this]; exact q⟩
  · have hm : m ≠ n := fun z => by rw [z, hc] at h; cases h
    rw [List.getElem?_set_ne fun z => hm z.symm]; exact h
end
section
variable {X : Cx} {cA : Cfg} {sx : Sx} {k : Nat} {W : WX} {a b c : Expr} {fa fb fc fo : Env → Cells → Ev.R E} {pos : Pos}
theorem Gd.sto (g : Gd sx k W X) {y : Nm} (h : y ∈ sx.st) : Loc X.env.scope (T y) ∧ (X.fn (T y) = true ∨ X.env.scope.names.lookup (T y) = some .local) := g.stb y h
def stoB (sx : Sx) (x : Str) : Bool := sx.st.any fun y => decide (T y = x)
theorem stoB_ok (g : Gd sx k W X) {x : Str} (h : stoB sx x = true) : Loc X.env.scope x ∧ (X.fn x = true ∨ X.env.scope.names.lookup x = some .local) := by
  unfold stoB at h
  simp only [List.any_eq_true, decide_eq_true_eq] at h
  obtain ⟨y, hy, rfl⟩ := h
  exact g.stb y hy
theorem tAsg_name {i : Nat} {D : Ends} {σ : L2.St} {H : Hp} (h : tS X.K cA W (fun env C => (fa env C).st env fun x C => match asgE (.nm i) x env with
    | none => .bad
    | some env => .next env C) D σ H) : tAsg (tE X.K cA W fa) (gName i) D σ H := by
  obtain ⟨env, G, am, C, re, wd, d⟩ := h
  refine ⟨env, G, am, C, re, wd, Dn.imp (DnS.st (Rl := rE X.K cA) re d) fun v H1 ⟨G1, am1, C1, x, x1, w1, rx, re1, d1⟩ => ?_⟩
  exact d1 G1 am1 H1 _ Ext.refl w1 (re1.set rx)
/-- name = e -/
theorem s_asgN (g : Gd sx k W X) {i : Nat} {x : Str} {p : Pos} (h : nmAt sx.N i x = true) (hs : stoB sx x = true) (ha : PE X a (tE X.K cA W fa)) (hsw : swapsWith a (some (.Name x p)) pos.line X.env = pure false) :
    PS X (.Assign [.Name x p] a pos) (tS X.K cA W fun env C => (fa env C).st env fun x C => match asgE (.nm i) x env with
    | none => .bad
    | some env => .next env C) := by
  obtain ⟨l1, l2⟩ := stoB_ok g hs
  exact PS.imp (ps_set g.nd (g.at h) l1 ha hsw l2) fun D σ H h => tAsg_name h
/-- a, (b, ..) = e -/
theorem s_asgT (g : Gd sx k W X) {ts : Tgs} {es : List Expr} {n : Nat} {p : Pos} (h : ckT sx (.tup ts) (.Tuple es n p) = true) (ha : PE X a (tE X.K cA W fa)) (hsw : swapsWithSole [.Tuple es n p] a pos.line X.env = pure false) (hw : swappedStores [.Tuple es n p] a X.env = pure none) :
    PS X (.Assign [.Tuple es n p] a pos) (tS X.K cA W fun env C => (fa env C).st env fun x C => match asgE (.tup ts) x env with
    | none => .bad
    | some env => .next env C) := by
  refine PS.imp (ps_asg ha (r_tg (cA := cA) g h) hsw hw) fun D σ H ⟨env, G, am, C, re, wd, d⟩ => ?_
  refine ⟨env, G, am, C, re, wd, Dn.imp (DnS.st (Rl := rE X.K cA) re d) fun v H1 ⟨G1, am1, C1, x, x1, w1, rx, re1, d1⟩ => ?_⟩
  cases x with
  | v dx =>
    simp only [asgE] at d1
    cases e : asgT (.tup ts) dx env with
    | none => simp only [e] at d1; exact d1.elim
    | some env' =>
      simp only [e] at d1
      exact ⟨env, G1, am1, C1, dx, env', re1, w1, rx, e, fun σ' r' o => d1 G1 am1 H1 σ' Ext.refl w1 r'⟩
  | _ => exact d1.elim
/-- a, b = x, y of plain local names -/
theorem s_par (g : Gd sx k W X) {i j : Nat} {x y : Str} {px py pt pt2 : Pos} {kt k2 : Nat} (hh : sx.hot = false) (hi : nmAt sx.N i x = true) (hj : nmAt sx.N j y = true) (hij : i ≠ j) (hx : sx.sc.names.lookup x = some .local) (hy : sx.sc.names.lookup y = some .local)
    (pa : plainX a = true) (pb : plainX b = true) (ha : PE X a (tE X.K cA W fa)) (hb : PE X b (tE X.K cA W fb)) (hw : swappedStores [.Tuple [.Name x px, .Name y py] kt pt] (.Tuple [a, b] k2 pt2) X.env = pure (some [x, y])) :
    PS X (.Assign [.Tuple [.Name x px, .Name y py] kt pt] (.Tuple [a, b] k2 pt2) pos) (tS X.K cA W fun env C => (fa env C).st env fun x C => (fb env C).st env fun y C => .next ((env.set i (some x)).set j (some y)) C) := by
  refine PS.imp (ps_par (g.calm hh) g.nd (g.at hi) (g.at hj) hij (by rw [g.sc]; exact hx) (by rw [g.sc]; exact hy) (pa_cons ha (pa_cons hb pa_nil (star_cons pb)) (star_cons pa)) hw) fun D σ H ⟨env, G, am, C, re, wd, d⟩ => ?_
  refine ⟨env, G, am, C, re, wd, Dn.imp (DnS.st (Rl := rE X.K cA) re d) fun v H1 ⟨G1, am1, C1, x, x1, w1, rx, re1, d1⟩ => ?_⟩
  refine ⟨env, G1, am1, C1, re1, w1, Dn.imp (DnS.st (Rl := rE X.K cA) re1 d1) fun v2 H2 ⟨G2, am2, C2, y, x2, w2, ry, re2, d2⟩ => ?_⟩
  exact ⟨v, v2, rfl, d2 G2 am2 H2 _ Ext.refl w2 ((re2.set (RelE.mono x2.g x2.a rx)).set ry)⟩

/-! ### op= -/
theorem op_augD (o : Bop) : OpR X (inplaceOp (bopO o)) (fun x y H Q => ∃ dx dy z, RelD X.K cA (fun _ => none) dx x ∧ RelD X.K cA (fun _ => none) dy y ∧ augV o dx dy = some z ∧ ∀ v, RelD X.K cA (fun _ => none) z v → Q v H) := by
  intro pins s σ H x y v u Q I rx ry ⟨a, b, z, ra, rb, e, q⟩
  have int : ∀ {i : Int} {v : V}, RelD X.K cA (fun _ => none) (.int i) v → v = .int i := fun h => by simpa only [RelD] using h
  have str : ∀ {i : Nm} {v : V}, RelD X.K cA (fun _ => none) (.str i) v → v = .str (T i) := fun h => by simpa only [RelD] using h
  unfold augV at e
  split at e
  · cases e; exact iop_add pins s σ H x y v u Q I rx ry ⟨_, _, int ra, int rb, q _ (by simp only [RelD])⟩
  · cases e; exact iop_sub pins s σ H x y v u Q I rx ry ⟨_, _, int ra, int rb, q _ (by simp only [RelD])⟩
  · split at e
    · rename_i hs
      cases e
      refine iop_mul pins s σ H x y v u Q I rx ry ⟨_, _, int ra, int rb, ?_, q _ (by simp only [RelD])⟩
      simp only [smallI, Bool.or_eq_true, decide_eq_true_eq] at hs
      exact hs
    · cases e
  · split at e
    · rename_i hl
      cases e
      refine iop_add_str pins s σ H x y v u Q I rx ry ⟨_, _, str ra, str rb, ?_, q _ (by simp only [RelD, T_add])⟩
      rw [T_len, T_len, ← line_eq]; exact hl
    · cases e
  · cases e
theorem OpR.or {f : Value → Value → Sem Value} {r r' : R2} (h : OpR X f r) (h' : OpR X f r') : OpR X f (fun x y H Q => r x y H Q ∨ r' x y H Q) := fun pins s σ H x y v u Q I rx ry q => q.elim (h pins s σ H x y v u Q I rx ry) (h' pins s σ H x y v u Q I rx ry)
/-- a flat tree -/
def flatD : D → Bool
  | .int _ => true
  | .str _ => true
  | _ => false
theorem flat_any {K : PySem.W.Frag} {cA : Cfg0} {G G' : Hp} {d : D} {v : V} (h : flatD d = true) (r : RelD K cA G d v) : RelD K cA G' d v := by
  cases d <;> first | (simp [flatD] at h; done) | (simp only [RelD] at r ⊢; exact r)
theorem aug_flat {o : Bop} {x y z : D} (h : augV o x y = some z) : flatD x = true ∧ flatD y = true ∧ flatD z = true := by
  unfold augV at h
  split at h <;> first | (cases h; exact ⟨rfl, rfl, rfl⟩) | (split at h <;> first | (cases h; exact ⟨rfl, rfl, rfl⟩) | cases h) | cases h
theorem iaddW (l : Addr) (items : Array Value) (n : Nat) (b : Addr) (items2 : Array Value) (n2 : Nat) (dd : Option Addr) (sl : Array (Option Value)) (hs0 : ¬(!items.isEmpty && Builtin.List.listTooLong (items.size + items2.size)) = true) (hs1 : items.size ≤ sizeLine) (hs2 : items.size + items2.size ≤ sizeLine + 1) :
    Meets (Builtin.«list.__iadd__» ⟨[.ref l, .ref b], []⟩) (fun _ R s => s.heap.get? l = some { cls := .type "list", dict := none, data := .seq items n, slots := #[] } ∧ s.heap.get? b = some { cls := .type "list", dict := dd, data := .seq items2 n2, slots := sl } ∧ R (.ok (.ret (Value.ref l))) { s with heap := s.heap.update l (Obj.mapSeq fun x => x ++ items2) }) :=
  .of_wp fun prog w A R s h => by
    obtain ⟨hp, g, d, tk, os⟩ := s
    obtain ⟨hl, hb, h⟩ := h
    have f1 := AutoSeq1.idx_int
    have f2 := AutoSeq1.sub_tuple_tuple
    have f3 := AutoSeq1.sub_list_list
    have f4 := AutoSeq1.sub_tuple_list
    have f5 := AutoSeq1.sub_list_tuple
    have hz' : (items ++ items2).size ≤ sizeLine + 1 := by rw [Array.size_append]; exact hs2
    wp_walk using (wpAny_updateSeq hl rfl (hz := hs1) (_hz' := hz')), AutoSeq1.wpAny_loadPart' hl, AutoSeq1.wpAny_loadPart' hb
    exact ⟨_, rfl, h⟩
/-- a list that may be written, op= any list -/
theorem op_extD : OpR X (inplaceOp .Add) (fun x y H Q => ∃ l b xs zs, x = .ref l ∧ y = .ref b ∧ H l = some (.lst xs) ∧ SqL X.K H b zs ∧ xs.length + zs.length ≤ sizeLine ∧ Q (.ref l) (L2.upd H l (.lst (xs ++ zs)))) := by
  intro pins s σ H x y v u Q I rx ry h
  obtain ⟨l, b, xs, zs, rfl, rfl, hH, hB, hz, q⟩ := h
  cases rx
  cases ry
  obtain ⟨z, its, n, r, hl, e⟩ := I.lstM hH
  obtain ⟨its2, r2, pl, hl2⟩ := I.list hB
  have l1 := r.length
  have l2 := r2.length
  obtain ⟨⟨cls, dd, data, sl⟩, e2, hc, n2, hd⟩ := pl.isList
  simp only at hc hd
  subst hc hd
  have hsz : its.toArray.size + its2.toArray.size ≤ sizeLine := by rw [List.size_toArray, List.size_toArray]; omega
  have hlong : ¬ (!its.toArray.isEmpty && Builtin.List.listTooLong (its.toArray.size + its2.toArray.size)) = true := by
    rw [notLongL hsz, Bool.and_false]
    exact Bool.false_ne_true
  refine iadd_road ⟨_, e, rfl⟩ ⟨_, e2, rfl⟩ (call_meets PySem.F.slot_list_iadd ⟨_, e, rfl⟩ PySem.F.entry_list_iadd (PySem.F.args_list_iadd_2 _ _)
    (iaddW l its.toArray n b its2.toArray n2 dd sl hlong (by rw [List.size_toArray]; omega) (by omega)) ⟨e, e2, ?_⟩)
  refine ⟨.ref l, _, I.lset (its' := its ++ its2) (t' := s.toks) hH e (by simp) (r.append r2) ?_, rfl, q⟩
  rw [List.length_append]
  omega
theorem s_aug (g : Gd sx k W X) {i : Nat} {x : Str} {p : Pos} (o : Bop) (h : nmAt sx.N i x = true) (hs : stoB sx x = true) (ha : PE X a (tE X.K cA W fa)) :
    PS X (.AugAssign (.Name x p) (bopO o) a pos) (tS X.K cA W fun env C => match (env[i]?).join with
    | some (.v x) => (fa env C).st env fun y C => match (see C y).bind fun y => augV o x y with
      | none => .bad
      | some z => .next (env.set i (some (.v z))) C
    | some (.r n) => (fa env C).st env fun y C => match o, cellAt C n, see C y with
      | .add, some (.lst xs), some (.lst ys) => if xs.length + ys.length ≤ line then .next (env.set i (some (.r n))) (C.set n (some (.lst (xs ++ ys)))) else .bad
      | _, _, _ => .bad
    | _ => .bad) := by
  obtain ⟨l1, l2⟩ := stoB_ok g hs
  have pip : PIp X (bopO o) (fun x y H Q => (∃ dx dy z, RelD X.K cA (fun _ => none) dx x ∧ RelD X.K cA (fun _ => none) dy y ∧ augV o dx dy = some z ∧ ∀ v, RelD X.K cA (fun _ => none) z v → Q v H) ∨
      o = .add ∧ ∃ l b xs zs, x = .ref l ∧ y = .ref b ∧ H l = some (.lst xs) ∧ SqL X.K H b zs ∧ xs.length + zs.length ≤ sizeLine ∧ Q (.ref l) (L2.upd H l (.lst (xs ++ zs)))) := fun pins s σ H x y v u Q I rx ry q => by
    rcases q with q | ⟨rfl, q⟩
    · exact op_augD (cA := cA) o pins s σ H x y v u Q I rx ry q
    · exact op_extD pins s σ H x y v u Q I rx ry q
  refine PS.imp (ps_aug g.nd (g.at h) l1 ha pip l2) fun D σ H ⟨env, G, am, C, re, wd, d⟩ => ?_
  dsimp only at d
  cases e1 : env[i]? with
  | none => simp only [e1, Option.join_none] at d; exact d.elim
  | some o1 =>
    cases o1 with
    | none => simp only [e1, Option.join_some] at d; exact d.elim
    | some e' =>
      obtain ⟨v, h1, h2⟩ := re.2 i _ e1
      simp only [e1, Option.join_some] at d
      cases e' with
      | clo j => exact d.elim
      | exn c fs => exact d.elim
      | v dx =>
        have h2 : RelD X.K cA G dx v := by
          rcases h2 with h2 | ⟨j, z, _⟩ | ⟨c, fs, z, _⟩
          · exact h2
          · cases z
          · cases z
        refine ⟨v, h1, env, G, am, C, re, wd, Dn.imp (DnS.st (Rl := rE X.K cA) re d) fun w H1 ⟨G1, am1, C1, y, x1, w1, ry, re1, d1⟩ => ?_⟩
        cases ez : (see C1 y).bind fun y => augV o dx y with
        | none => simp only [ez] at d1; exact d1.elim
        | some z =>
          simp only [ez] at d1
          rw [Option.bind_eq_some_iff] at ez
          obtain ⟨dy, hy, ez⟩ := ez
          obtain ⟨f1, f2, f3⟩ := aug_flat ez
          have ry' : RelD X.K cA (fun _ => none) dy w := by
            have := see_rel w1 ry hy
            cases dy <;> first | (simp [flatD] at f2; done) | exact flat_any (G := G1) f2 this
          exact .inl ⟨dx, dy, z, flat_any f1 h2, ry', ez, fun v2 rv => d1 G1 am1 H1 _ Ext.refl w1 (re1.set (e := .v z) (flat_any f3 rv))⟩
      | r n =>
        have h2 : RelE X.K cA G am (.r n) v := by
          rcases h2 with h2 | ⟨j, z, _⟩ | ⟨c, fs, z, _⟩
          · exact h2
          · cases z
          · cases z
        refine ⟨v, h1, env, G, am, C, re, wd, Dn.imp (DnS.st (Rl := rE X.K cA) re d) fun w H1 ⟨G1, am1, C1, y, x1, w1, ry, re1, d1⟩ => ?_⟩
        have h2' := RelE.mono x1.g x1.a h2
        cases o <;> first | exact d1.elim | skip
        cases ec : cellAt C1 n with
        | none => simp only [ec] at d1; exact d1.elim
        | some cl =>
          cases cl <;> simp only [ec] at d1 <;> first | exact d1.elim | skip
          case lst xs =>
            cases ey : see C1 y with
            | none => simp only [ey] at d1; exact d1.elim
            | some dy =>
              cases dy <;> simp only [ey] at d1 <;> first | exact d1.elim | skip
              case lst ys =>
                split at d1
                · rename_i hl
                  obtain ⟨a2, e2, h3, h4, ⟨us, h5, h6⟩, h7⟩ := w1.at h2' ec
                  obtain ⟨b, vs, rfl, h8, h9⟩ := see_rel w1 ry ey
                  obtain ⟨w2, x2⟩ := w1.put h3 h4 h5 (h6.append h9)
                  refine .inr ⟨rfl, a2, b, us, vs, e2, rfl, h5, h8, by rw [← h6.length, ← h9.length, ← line_eq]; exact hl, ?_⟩
                  exact d1 G1 am1 _ _ x2 w2 ((re1.mono x2).set (e := .r n) ⟨a2, h3, rfl⟩)
                · exact d1.elim
end
end Ev

end

section
set_option maxRecDepth 512
set_option Elab.async false
set_option linter.all false
set_option maxRecDepth 100000
set_option maxHeartbeats 4000000
namespace Ev
open PySem L2 PySem.Spec PyProof.Rows
section
variable {X : Cx} {cA : Cfg} {sx : Sx} {k : Nat} {W : WX} {a b c : Expr} {fa fb fc fo : Env → Cells → Ev.R E} {pos : Pos}
theorem get_list : PGet X (fun o i H Q => ∃ p xs k v, o = .ref p ∧ i = .int k ∧ SqL X.K H p xs ∧ L2.atI xs k = some v ∧ Q v H) := by
  intro pins s σ H x y v u Q I rx ry h
  obtain ⟨p, xs, i, z, rfl, rfl, hq, he, q⟩ := h
  cases rx
  obtain ⟨t, rfl⟩ := ry
  obtain ⟨its, r, pl, hz⟩ := I.list hq
  obtain ⟨j, h1, h2, h3, h4, h5⟩ := atI_get he
  obtain ⟨w, ew, rw'⟩ := r.get h2
  have hl := r.length
  have hn := line63
  have fin : EP X pins σ Q w s := ⟨z, H, I, rw', q⟩
  by_cases h0 : 0 ≤ i
  · have hj : i.toNat = j := by
      rw [seqIndex_of h0 h5] at h1
      exact Option.some.inj h1
    exact wpAny_getItem_list pl.isList h0 (by omega) (by rw [hj]; simpa using ew) fin
  · have hj : (i + (its.toArray.size : Int)).toNat = j := by
      rw [seqIndex_neg (by omega) h4] at h1
      rw [List.size_toArray, ← hl]
      exact Option.some.inj h1
    exact wpAny_getItem_list_neg pl.isList (by omega) (by rw [List.size_toArray] <;> omega) (by omega) (by rw [hj]; simpa using ew) fin
theorem aug_store {e : Expr} (h : plainX e = true) : ∀ ov iv new, augStore e ov iv new = (do holding [new, ov, iv] (setItem ov iv new); release [new, ov, iv] []; pure .next) := by
  intro ov iv new
  cases e <;> first | rfl | (simp [plainX] at h)
theorem s_augI {e : Expr} {fi fe : Env → Cells → Ev.R E} {tp : Pos} (op : Bop) (hp : plainX b = true) (ho : PE X a (tE X.K cA W fo)) (hi : PE X b (tE X.K cA W fi)) (he : PE X e (tE X.K cA W fe)) :
    PS X (.AugAssign (.Subscript a b tp) (bopO op) e pos) (tS X.K cA W fun env C => (fo env C).st env fun x C => (fi env C).st env fun y C => match x, y with
    | .r n, .v (.int k) => match cellAt C n with
      | some (.lst xs) => match atD xs k with
        | none => .bad
        | some old => (fe env C).st env fun z C => match z with
          | .v z => match augV op old z, cellAt C n with
            | some w, some (.lst xs) => match ixN xs.length k with
              | some j => .next env (C.set n (some (.lst (xs.set j w))))
              | none => .bad
            | _, _ => .bad
          | _ => .bad
      | _ => .bad
    | _, _ => .bad) := by
  have pip : PIp X (bopO op) (fun x y H Q => ∃ dx dy z, RelD X.K cA (fun _ => none) dx x ∧ RelD X.K cA (fun _ => none) dy y ∧ augV op dx dy = some z ∧ ∀ v, RelD X.K cA (fun _ => none) z v → Q v H) := fun pins s σ H x y v u Q I rx ry q => op_augD (cA := cA) op pins s σ H x y v u Q I rx ry q
  refine PS.imp (ps_augS ho hi get_list he pip set_list (aug_store hp)) fun D σ H ⟨env, G, am, C, re, wd, d⟩ => ?_
  refine ⟨env, G, am, C, re, wd, Dn.imp (DnS.st (Rl := rE X.K cA) re d) fun vo H1 ⟨G1, am1, C1, x, x1, w1, rx, re1, d1⟩ => ?_⟩
  refine ⟨env, G1, am1, C1, re1, w1, Dn.imp (DnS.st (Rl := rE X.K cA) re1 d1) fun vi H2 ⟨G2, am2, C2, y, x2, w2, ry, re2, d2⟩ => ?_⟩
  cases x with
  | r n =>
    cases y with
    | v dy =>
      cases dy <;> first | exact d2.elim | skip
      case int kk =>
        simp only at d2
        cases ec : cellAt C2 n with
        | none => simp only [ec] at d2; exact d2.elim
        | some cl =>
          cases cl <;> simp only [ec] at d2 <;> first | exact d2.elim | skip
          case lst xs =>
            cases ea : atD xs kk with
            | none => simp only [ea] at d2; exact d2.elim
            | some old =>
              simp only [ea] at d2
              have rx2 : RelE X.K cA G2 am2 (.r n) vo := RelE.mono x2.g x2.a rx
              obtain ⟨p, e2, h3, h4, ⟨us, h5, h6⟩, h7⟩ := w2.at rx2 ec
              obtain ⟨vold, hv1, hv2⟩ := atD_get h6 ea
              simp only [rE, RelE, RelD] at ry
              refine ⟨p, us, kk, vold, e2, ry, SqL.of h5, hv1, env, G2, am2, C2, re2, w2, Dn.imp (DnS.st (Rl := rE X.K cA) re2 d2) fun vz H3 ⟨G3, am3, C3, z, x3, w3, rz, re3, d3⟩ => ?_⟩
              cases z with
              | v dz =>
                simp only at d3
                cases ew : augV op old dz with
                | none => simp only [ew] at d3; exact d3.elim
                | some wv =>
                  cases ec3 : cellAt C3 n with
                  | none => simp only [ew, ec3] at d3; exact d3.elim
                  | some cl3 =>
                    cases cl3 <;> simp only [ew, ec3] at d3 <;> first | exact d3.elim | skip
                    case lst xs3 =>
                      cases ej : Ev.ixN xs3.length kk with
                      | none => simp only [ej] at d3; exact d3.elim
                      | some j =>
                        simp only [ej] at d3
                        obtain ⟨f1, f2, f3⟩ := aug_flat ew
                        have rx3 : RelE X.K cA G3 am3 (.r n) vo := RelE.mono x3.g x3.a rx2
                        obtain ⟨p3, e3, g3, g4, ⟨us3, g5, g6⟩, g7⟩ := w3.at rx3 ec3
                        refine ⟨old, dz, wv, flat_any f1 hv2, flat_any (G := G3) f2 rz, ew, fun v2 rv2 => ?_⟩
                        obtain ⟨w4, x4⟩ := w3.put g3 g4 g5 (g6.set j (flat_any f3 rv2))
                        exact ⟨p3, us3, kk, j, e3, ry, g5, by rw [← g6.length, ← ixN_eq]; exact ej, d3 G3 am3 _ σ x4 w4 (re3.mono x4)⟩
              | _ => exact d3.elim
    | _ => exact d2.elim
  | _ => exact d2.elim
theorem s_setI (g : Gd sx k W X) {e : Expr} {fi fe : Env → Cells → Ev.R E} {tp : Pos} (hp : plainX b = true) (hn : noComp e = true) (ho : PE X a (tE X.K cA W fo)) (hi : PE X b (tE X.K cA W fi)) (he : PE X e (tE X.K cA W fe)) :
    PS X (.Assign [.Subscript a b tp] e pos) (tS X.K cA W fun env C => (fe env C).st env fun z C => (fo env C).st env fun x C => (fi env C).st env fun y C => match x, y, z with
    | .r n, .v (.int k), .v z => match cellAt C n with
      | some (.lst xs) => match ixN xs.length k with
        | some j => .next env (C.set n (some (.lst (xs.set j z))))
        | none => .bad
      | _ => .bad
    | _, _, _ => .bad) := by
  have pg := pg_sub (pos := tp) ho hi (set_list (X := X)) (by intro v; cases b <;> first | rfl | (simp [plainX] at hp))
  have hsw : swapsWithSole [.Subscript a b tp] e pos.line X.env = pure false := by show swapsWith e (some (.Subscript a b tp)) pos.line X.env = pure false; exact sw_plain hn
  have hw : swappedStores [.Subscript a b tp] e X.env = pure none := by unfold swappedStores; rfl
  refine PS.imp (ps_asg he pg hsw hw) fun D σ H ⟨env, G, am, C, re, wd, d⟩ => ?_
  refine ⟨env, G, am, C, re, wd, Dn.imp (DnS.st (Rl := rE X.K cA) re d) fun vz H1 ⟨G1, am1, C1, z, x1, w1, rz, re1, d1⟩ => ?_⟩
  refine ⟨env, G1, am1, C1, re1, w1, Dn.imp (DnS.st (Rl := rE X.K cA) re1 d1) fun vo H2 ⟨G2, am2, C2, x, x2, w2, rx, re2, d2⟩ => ?_⟩
  refine ⟨env, G2, am2, C2, re2, w2, Dn.imp (DnS.st (Rl := rE X.K cA) re2 d2) fun vi H3 ⟨G3, am3, C3, y, x3, w3, ry, re3, d3⟩ => ?_⟩
  cases x with
  | r n =>
    cases y with
    | v dy =>
      cases dy <;> first | exact d3.elim | skip
      case int kk =>
        cases z with
        | v dz =>
          simp only at d3
          cases ec : cellAt C3 n with
          | none => simp only [ec] at d3; exact d3.elim
          | some cl =>
            cases cl <;> simp only [ec] at d3 <;> first | exact d3.elim | skip
            case lst xs =>
              cases ej : Ev.ixN xs.length kk with
              | none => simp only [ej] at d3; exact d3.elim
              | some j =>
                simp only [ej] at d3
                have rx3 : RelE X.K cA G3 am3 (.r n) vo := RelE.mono x3.g x3.a rx
                obtain ⟨p3, e3, g3, g4, ⟨us3, g5, g6⟩, g7⟩ := w3.at rx3 ec
                simp only [rE, RelE, RelD] at ry
                have rz3 : RelD X.K cA G3 dz vz := RelD.mono (x2.trans x3).g rz
                obtain ⟨w4, x4⟩ := w3.put g3 g4 g5 (g6.set j rz3)
                exact ⟨p3, us3, kk, j, e3, ry, g5, by rw [← g6.length, ← ixN_eq]; exact ej, d3 G3 am3 _ σ x4 w4 (re3.mono x4)⟩
        | _ => exact d3.elim
    | _ => exact d3.elim
  | _ => exact d3.elim

/-! ### loops -/
theorem RS.map_next {f : Cells → Cells} {env : Env} {C : Cells} : (RS.next env C).map f = .next env (f C) := rfl
/-- a for's suite: what follows one of its turns -/
theorem s_for (g : Gd sx k W X) {t : Tg} {fi : Env → Cells → Ev.R (List D × E)} {fb : Env → Cells → RS} {tg iter : Expr} {body : List Stmt} (hp : PassesOwn (model X.prog X.w) X.A X.env X.xe) (hh : sx.hot = false) (hi : PI X tg iter (tI X.K cA W fi)) (ht : ckT sx t tg = true) (hb : PSs X body (tS X.K cA W fb)) (hs : plainX iter = true) :
    PS X (.For tg iter body [] pos) (tS X.K cA W fun env C => (fi env C).st env fun w C => (forL t fb w.1 env (lock C w.2)).map fun C' => unlock C C' w.2) := by
  refine PS.imp (ps_for hp (g.calm hh) hi (r_tg (cA := cA) g ht) hb (folded_plain hs)) fun D σ H ⟨env, G, am, C, re, wd, d⟩ => ?_
  refine ⟨env, G, am, C, re, wd, ?_⟩
  dsimp only at d
  cases ei : fi env C with
  | bad => rw [ei] at d; exact d.elim
  | exc c fs C1 => rw [ei] at d; exact fun G2 am2 H2 cls dd x2 w2 r2 => d G2 am2 H2 σ cls dd x2 w2 (re.mono x2) r2
  | ok wv C1 =>
    obtain ⟨ds, e⟩ := wv
    rw [ei] at d
    simp only [Ev.R.st] at d
    intro G1 am1 H1 J x1 w1 wk
    dsimp only at wk
    have d1 : DnS X.K cA W ((forL t fb ds env (lock C1 e)).map fun C' => unlock C1 C' e) G1 am1 C1 H1 D := DnS.shift x1 d
    obtain ⟨w1l, x1l⟩ := w1.lock e
    generalize hr : (forL t fb ds env (lock C1 e)) = full at d1
    refine ⟨fun i m σ H => m = ds.length - i ∧ i ≤ ds.length ∧ ∃ env2 G2 am2 C2, Ext G1 am1 (lock C1 e) H1 G2 am2 C2 H ∧ Wd X.K cA G2 am2 C2 H ∧ RelEnv X.K cA G2 am2 env2 σ ∧ forL t fb (ds.drop i) env2 C2 = full,
      ⟨ds.length, by simp, Nat.zero_le _, env, G1, am1, lock C1 e, Ext.refl, w1l, re.mono x1, by rw [List.drop_zero]; exact hr⟩, ?_⟩
    rintro i m σ2 H2 ⟨rfl, hi', env2, G2, am2, C2, x2, w2, re2, hfu⟩
    obtain ⟨go, stop, yld⟩ := wk G2 am2 C2 H2 x2.bhd w2
    by_cases hlt : i < ds.length
    · refine .inr ⟨go i hlt, fun σ' H' => ∃ env2 G2 am2 C2, Ext G1 am1 (lock C1 e) H1 G2 am2 C2 H' ∧ Wd X.K cA G2 am2 C2 H' ∧ RelEnv X.K cA G2 am2 env2 σ' ∧ forL t fb (ds.drop (i + 1)) env2 C2 = full, fun σ' H' p => ⟨ds.length - (i + 1), by omega, rfl, hlt, p⟩, fun x H' y => ?_⟩
      obtain ⟨dd, G3, hd, x3, w3, rd⟩ := yld i x H' hlt y
      have hdrop : ds.drop i = dd :: ds.drop (i + 1) := by
        rw [List.drop_eq_getElem_cons hlt]
        congr 1
        have := List.getElem?_eq_getElem hlt
        rw [this] at hd; exact Option.some.inj hd
      rw [hdrop, forL] at hfu
      cases ha : asgT t dd env2 with
      | none => rw [ha] at hfu; dsimp only at hfu; rw [← hfu] at d1; exact d1.elim
      | some e1 =>
        rw [ha] at hfu
        dsimp only at hfu
        have x23 := x2.trans x3
        refine ⟨env2, G3, am2, C2, dd, e1, re2.mono x3, w3, rd, ha, fun σ3 re3 off => ⟨e1, G3, am2, C2, re3, w3, ?_⟩⟩
        cases eb : fb e1 C2 with
        | next env4 C4 => rw [eb] at hfu; exact fun G4 am4 H4 σ4 x4 w4 r4 => ⟨env4, G4, am4, C4, x23.trans x4, w4, r4, hfu⟩
        | ct env4 C4 => rw [eb] at hfu; exact fun G4 am4 H4 σ4 x4 w4 r4 => ⟨env4, G4, am4, C4, x23.trans x4, w4, r4, hfu⟩
        | brk env4 C4 =>
          rw [eb] at hfu
          rw [← hfu] at d1
          exact fun G4 am4 H4 σ4 x4 w4 r4 => let ⟨w5, x5⟩ := Wd.unlock (x23.trans x4) w4; d1 G4 am4 H4 σ4 x5 w5 r4
        | ret e4 C4 =>
          rw [eb] at hfu
          rw [← hfu] at d1
          exact fun G4 am4 H4 σ4 x4 w4 r4 => let ⟨w5, x5⟩ := Wd.unlock (x23.trans x4) w4; d1 G4 am4 H4 σ4 x5 w5 r4
        | exc c fs env4 C4 =>
          rw [eb] at hfu
          rw [← hfu] at d1
          exact fun G4 am4 H4 σ4 cls dd x4 w4 re4 r4 => let ⟨w5, x5⟩ := Wd.unlock (x23.trans x4) w4; d1 G4 am4 H4 σ4 cls dd x5 w5 re4 r4
        | bad => rw [eb] at hfu; rw [← hfu] at d1; exact d1.elim
    · have hie : i = ds.length := by omega
      subst hie
      refine .inl ⟨stop, ?_⟩
      rw [List.drop_length, forL] at hfu
      rw [← hfu] at d1
      obtain ⟨w5, x5⟩ := Wd.unlock x2 w2
      exact d1 G2 am2 H2 σ2 x5 w5 re2
/-- a while -/
theorem s_while {ft : Env → Cells → Ev.R Bool} {fb : Env → Cells → RS} {c : Expr} {body : List Stmt} (hp : PassesOwn (model X.prog X.w) X.A X.env X.xe) (ht : PT X c (tT X.K cA W ft)) (hb : PSs X body (tS X.K cA W fb)) (n : Nat) :
    PS X (.While c body [] pos) (tS X.K cA W fun env C => whileL ft fb n env C) := by
  refine PS.imp (ps_while hp ht hb) fun D σ H ⟨env, G, am, C, re, wd, d⟩ => ?_
  dsimp only at d
  generalize hr : whileL ft fb n env C = full at d
  refine ⟨fun m σ2 H2 => ∃ env2 G2 am2 C2, Ext G am C H G2 am2 C2 H2 ∧ Wd X.K cA G2 am2 C2 H2 ∧ RelEnv X.K cA G2 am2 env2 σ2 ∧ whileL ft fb m env2 C2 = full, ⟨n, env, G, am, C, Ext.refl, wd, re, hr⟩, ?_⟩
  rintro m σ2 H2 ⟨env2, G2, am2, C2, x2, w2, re2, hfu⟩
  cases m with
  | zero => rw [whileL] at hfu; rw [← hfu] at d; exact d.elim
  | succ m =>
    rw [whileL] at hfu
    refine ⟨env2, G2, am2, C2, re2, w2, ?_⟩
    cases et : ft env2 C2 with
    | bad => rw [et] at hfu; simp only [Ev.R.st] at hfu; rw [← hfu] at d; exact d.elim
    | exc c fs C3 =>
      rw [et] at hfu; simp only [Ev.R.st] at hfu; rw [← hfu] at d
      exact fun G' am' H' cls dd x w r => d G' am' H' σ2 cls dd (x2.trans x) w (re2.mono x) r
    | ok b C3 =>
      rw [et] at hfu
      simp only [Ev.R.st] at hfu
      intro G3 am3 H3 v x3 w3 ev
      cases ev
      have x23 := x2.trans x3
      cases b with
      | false =>
        rw [if_neg (by decide)] at hfu ⊢
        rw [← hfu] at d
        exact d G3 am3 H3 σ2 x23 w3 (re2.mono x3)
      | true =>
        rw [if_pos rfl] at hfu ⊢
        refine ⟨fun σ' H' => ∃ env4 G4 am4 C4, Ext G am C H G4 am4 C4 H' ∧ Wd X.K cA G4 am4 C4 H' ∧ RelEnv X.K cA G4 am4 env4 σ' ∧ whileL ft fb m env4 C4 = full, fun σ' H' p => ⟨m, Nat.lt_succ_self _, p⟩, env2, G3, am3, C3, re2.mono x3, w3, ?_⟩
        cases eb : fb env2 C3 with
        | next env4 C4 => rw [eb] at hfu; exact fun G4 am4 H4 σ4 x4 w4 r4 => ⟨env4, G4, am4, C4, x23.trans x4, w4, r4, hfu⟩
        | ct env4 C4 => rw [eb] at hfu; exact fun G4 am4 H4 σ4 x4 w4 r4 => ⟨env4, G4, am4, C4, x23.trans x4, w4, r4, hfu⟩
        | brk env4 C4 =>
          rw [eb] at hfu
          rw [← hfu] at d
          exact fun G4 am4 H4 σ4 x4 w4 r4 => d G4 am4 H4 σ4 (x23.trans x4) w4 r4
        | ret e4 C4 =>
          rw [eb] at hfu
          rw [← hfu] at d
          exact fun G4 am4 H4 σ4 x4 w4 r4 => d G4 am4 H4 σ4 (x23.trans x4) w4 r4
        | exc c fs env4 C4 =>
          rw [eb] at hfu
          rw [← hfu] at d
          exact fun G4 am4 H4 σ4 cls dd x4 w4 re4 r4 => d G4 am4 H4 σ4 cls dd (x23.trans x4) w4 re4 r4
        | bad => rw [eb] at hfu; rw [← hfu] at d; exact d.elim
end
end Ev

end

section
set_option maxRecDepth 512
set_option Elab.async false
set_option linter.all false
set_option maxRecDepth 100000
set_option maxHeartbeats 4000000
namespace Ev
open PySem L2 PySem.Spec PyProof.Rows

theorem upd_comm {H : Hp} {a b : Addr} {o u : HO} (h : a ≠ b) : L2.upd (L2.upd H a o) b u = L2.upd (L2.upd H b u) a o := by
  funext x
  by_cases ha : x = a
  · subst ha; rw [upd_same, upd_ne h, upd_same]
  · by_cases hb : x = b
    · subst hb; rw [upd_same, upd_ne ha, upd_same]
    · rw [upd_ne hb, upd_ne ha, upd_ne ha, upd_ne hb]
section
variable {K : PySem.W.Frag} {cA : Cfg0} {G G' : Hp} {am am' : List Addr} {C C' : Cells} {H H' : Hp}
theorem Wd.notbl (wd : Wd K cA G am C H) {P : Addr} {ps : Array Value} (h : H P = some (.tbl ps)) : ¬ Live am C P := fun ⟨i, c, e, q⟩ => by
  obtain ⟨a, h1, h2, _⟩ := wd.cell i c e
  rw [q] at h1; cases h1
  cases c with
  | lst xs => obtain ⟨us, z, _⟩ := h2; rw [h] at z; cases z
  | lkd xs => obtain ⟨us, z, _⟩ := h2; rw [h] at z; cases z
  | dct kvs => obtain ⟨us, z, _⟩ := h2; rw [h] at z; cases z
  | ins c fs => obtain ⟨_, _, _, _, z, _⟩ := h2; rw [h] at z; cases z
/-- a table has grown -/
theorem Wd.tabUp (wd : Wd K cA G am C H) {P : Addr} {q : Str} {ps ps' : Array Value} (hP : H P = some (.tbl ps)) (hg : G P = none) (ht : TriplesOk ps'.toList) (ha : ∀ (pos : Pos) (cv : Value), codeAmong pos ps'.toList = some cv → ∃ c, cv = .ref c ∧ G c = some (LamX.CodeO c q)) (hu : ∀ p ∈ cA.tb, p.1 = P → p.2 = q) :
    Wd K cA G am C (L2.upd H P (.tbl ps')) ∧ Ext G am C H G am C (L2.upd H P (.tbl ps')) := by
  have nl := wd.notbl hP
  refine ⟨⟨fun p hp => ?_, fun b u e => ?_, wd.len, fun i c e => ?_, wd.inj⟩, ⟨Same.refl _, ⟨[], by simp⟩, fun b o e _ t => ?_, fun b qs e _ => ?_, fun _ l => .inl l, fun _ _ e => .inl e, fun _ _ e => e⟩⟩
  · by_cases h : p.1 = P
    · rw [hu p hp h, h]
      exact ⟨⟨ps', upd_same, ht, ha⟩, hg⟩
    · obtain ⟨t, n⟩ := wd.tabs p hp
      exact ⟨t.mono (Same.refl _) fun qs e => by rw [upd_ne h]; exact e, n⟩
  · have : b ≠ P := fun z => by rw [z, hg] at e; cases e
    rw [upd_ne this]; exact wd.sub _ _ e
  · obtain ⟨a, h1, h2, h3⟩ := wd.cell i c e
    have na : a ≠ P := fun z => nl ⟨i, c, e, z ▸ h1⟩
    refine ⟨a, h1, ?_, h3⟩
    cases c with
    | lst xs => obtain ⟨us, z, r⟩ := h2; exact ⟨us, by rw [upd_ne na]; exact z, r⟩
    | lkd xs => obtain ⟨us, z, r⟩ := h2; exact ⟨us, by rw [upd_ne na]; exact z, r⟩
    | dct kvs => obtain ⟨us, z, r⟩ := h2; exact ⟨us, by rw [upd_ne na]; exact z, r⟩
    | ins c fs =>
      obtain ⟨Ca, dx, gs, z1, z2, z3, r⟩ := h2
      have nd : dx ≠ P := fun z => by rw [z, hP] at z3; cases z3
      exact ⟨Ca, dx, gs, z1, by rw [upd_ne na]; exact z2, by rw [upd_ne nd]; exact z3, r⟩
  · have : b ≠ P := fun z => by rw [z, hP] at e; cases e; exact t _ rfl
    rw [upd_ne this]; exact e
  · by_cases h : b = P
    · subst h; exact ⟨ps', upd_same⟩
    · exact ⟨qs, by rw [upd_ne h]; exact e⟩
end
section
variable {X : Cx} {pins : List (Addr × Obj)} {σ : L2.St} {H : Hp} {s : Shared}
/-- a lambda's object just made is known from now on -/
theorem inv_lam {q : Str} {p : Arguments} {b : Expr} {sc : Scope} {cl : List (Str × Addr)} {c' : Addr} {pm ctv : Value} {t' : Nat} (I : L2.Inv X pins σ H s) :
    L2.Inv X pins σ (L2.upd H s.heap.objs.size (LamO q p b sc cl c' s.heap.objs.size)) { s with heap := s.heap.push (PySem.W.kla_obj "<lambda>" q p b sc cl pm c' ctv), toks := t' } := by
  refine I.laid (a := s.heap.objs.size) (fun b u e => Heap.get?_push_of_some _ e) (Nat.le_refl _) ?_
  have e : (s.heap.push (PySem.W.kla_obj "<lambda>" q p b sc cl pm c' ctv)).get? s.heap.objs.size = some (PySem.W.kla_obj "<lambda>" q p b sc cl pm c' ctv) := Heap.get?_push_size _ rfl
  exact ⟨⟨pm, ctv, e⟩, ⟨_, e⟩, fun h1 h2 ⟨p, t, z⟩ st => ⟨p, t, st _ z⟩⟩
theorem lam_mk {cA : Cfg0} {G : Hp} {am : List Addr} {C : Cells} {c P : Addr} {q : Str} {params : Arguments} {body : Expr} {scope : Scope} {pos : Pos} {E : Value → Shared → Prop} {Q : Value → Shared → Prop} (I : L2.Inv X pins σ H s) (wd : Wd X.K cA G am C H) (TB : LamX.TabB X.base X.mg c P) (hcode : X.env.code = .ref c)
    (hq : q = X.env.qual ++ "<lambda>") (hm : (P, q) ∈ cA.tb) (hu : ∀ p ∈ cA.tb, p.1 = P → p.2 = q) (hdef : defaultsOf params X.env = ([], [])) (hfree : ∀ y ∈ scope.names, y.2 = .free → ∃ c, X.env.cells.lookup y.1 = some c)
    (h : ∀ (f c' : Addr) (G1 H1 : Hp) (s' : Shared), L2.Inv X pins σ H1 s' → Ext G am C H G1 am C H1 → Wd X.K cA G1 am C H1 → G1 f = some (LamO q params body scope (cloFrom X.env.cells scope.names []) c' f) → G1 c' = some (LamX.CodeO c' q) → Q (.ref f) s') :
    wpAny (model X.prog X.w) X.A (eval (.Lambda params body scope pos) X.env) Q E s := by
  subst hq
  obtain ⟨⟨ps, hP, ht, ha⟩, hgP⟩ := wd.tabs _ hm
  refine PySem.W.kla_eval hdef ?_
  have bP : s.heap.BuiltinsAt X.mg P := TB.bm.keeps I.bk
  have hP' : s.heap.get? P = some { cls := .none, data := .fields ps } := I.hok P _ hP
  cases hc : codeAmong pos ps.toList with
  | none =>
    refine PySem.W.kla_makeFunction (mg := X.mg) (c := c) (P := P) (ps := ps) (closure_ok hfree) I.ok.glob (I.mod.glob.keeps I.bk) hcode (TB.code.keeps I.bk) hP' ht hc TB.gP bP fun c' ctv h' tk hx hge hlt hrec htb => ?_
    obtain ⟨c2, oc, vs, t, e2, hoc, hd, hv⟩ := hrec
    cases e2
    have nC : H c' = none := I.hok.fresh hge
    have hPc : P ≠ c' := ne_of_none hP nC
    have I1 := LamX.inv_table (t' := tk) (q := X.env.qual ++ "<lambda>") (more := #[rawInt pos.line, rawInt pos.col, .ref c']) (h' := h') I hP (fun b o hb e => hx b o hb e) htb hge ⟨oc, vs, t, hoc, hd, hv⟩
    rw [upd_comm hPc] at I1
    obtain ⟨w1, x1⟩ := wd.new nC (LamX.CodeO c' (X.env.qual ++ "<lambda>"))
    have eL : (ps ++ #[rawInt pos.line, rawInt pos.col, .ref c']).toList = ps.toList ++ [rawInt pos.line, rawInt pos.col, .ref c'] := by simp
    obtain ⟨w2, x2⟩ := w1.tabUp (P := P) (q := X.env.qual ++ "<lambda>") (ps := ps) (ps' := ps ++ #[rawInt pos.line, rawInt pos.col, .ref c']) (by rw [upd_ne hPc]; exact hP) (by rw [upd_ne hPc]; exact hgP) (by rw [eL]; exact PySem.TriplesOk_snoc _ _ _ _ ht) (fun p' cv hcv => by
      rw [eL] at hcv
      rcases LamX.among_app _ ht hcv with z | z
      · obtain ⟨c0, e1, e2⟩ := ha p' cv z
        exact ⟨c0, e1, x1.g _ _ e2⟩
      · exact ⟨c', z, upd_same⟩) hu
    have nF := I1.hok.fresh (Nat.le_refl _)
    have I2 := inv_lam (q := X.env.qual ++ "<lambda>") (p := params) (b := body) (sc := scope) (cl := cloFrom X.env.cells scope.names []) (c' := c') (pm := (X.mg "__name__").getD .none) (ctv := ctv) (t' := tk) I1
    obtain ⟨w3, x3⟩ := w2.new nF (LamO (X.env.qual ++ "<lambda>") params body scope (cloFrom X.env.cells scope.names []) c' h'.objs.size)
    refine h h'.objs.size c' _ _ _ I2 ((x1.trans x2).trans x3) w3 upd_same ?_
    exact (upd_ne (Nat.ne_of_lt hlt)).trans upd_same
  | some cv =>
    obtain ⟨c', e, hco⟩ := ha pos cv hc
    subst e
    refine PySem.W.kla_makeFunctionHit (mg := X.mg) (c := c) (P := P) (ps := ps) (closure_ok hfree) I.ok.glob (I.mod.glob.keeps I.bk) hcode (TB.code.keeps I.bk) hP' ht hc bP fun ctv h' tk hx hsz => ?_
    have I1 : L2.Inv X pins σ H { s with heap := h', toks := tk } := I.kept hx
    have nF : H h'.objs.size = none := I1.hok.fresh (Nat.le_refl _)
    have I2 := inv_lam (q := X.env.qual ++ "<lambda>") (p := params) (b := body) (sc := scope) (cl := cloFrom X.env.cells scope.names []) (c' := c') (pm := (X.mg "__name__").getD .none) (ctv := ctv) (t' := tk) I1
    obtain ⟨w3, x3⟩ := wd.new nF (LamO (X.env.qual ++ "<lambda>") params body scope (cloFrom X.env.cells scope.names []) c' h'.objs.size)
    exact h h'.objs.size c' _ _ _ I2 x3 w3 upd_same (x3.g _ _ hco)
end
/-! ### rows of lambdas -/
/-- what a frame with lambdas knows -/
structure LamF (cA : Cfg) (X : Cx) : Prop where
  cells : cA.cells = X.env.cells
  q : cA.q = X.env.qual ++ "<lambda>"
  tb : ∃ c P, LamX.TabB X.base X.mg c P ∧ X.env.code = .ref c ∧ (P, cA.q) ∈ cA.tb ∧ ∀ p ∈ cA.tb, p.1 = P → p.2 = cA.q
def lamX : Expr → Option (Arguments × Expr × Scope)
  | .Lambda p b sc _ => some (p, b, sc)
  | _ => none
def argsB (p : Arguments) : Bool := p.posonlyargs.isEmpty && p.args.isEmpty && p.vararg.isNone && p.kwonlyargs.isEmpty && p.kw_defaults.isEmpty && p.kwarg.isNone && p.defaults.isEmpty
/-- the lambdas js stand there -/
def ckL (cA : Cfg) (sc : Scope) : List Nat → List Expr → Prop
  | [], [] => True
  | j :: js, e :: es => (∃ p b s, lamX e = some (p, b, s) ∧ cA.lam j p b s ∧ LamX.LamS sc s ∧ argsB p = true) ∧ ckL cA sc js es
  | _, _ => False
def RelCs (cA : Cfg) (G : Hp) : List Nat → List V → Prop
  | [], us => us = []
  | j :: js, us => ∃ u r, us = u :: r ∧ RelC cA G j u ∧ RelCs cA G js r
theorem RelCs.mono {cA : Cfg} {G G' : Hp} (s : Same G G') : ∀ {js : List Nat} {us : List V}, RelCs cA G js us → RelCs cA G' js us
  | [], _, h => h
  | j :: js, _, h => by
    obtain ⟨u, r, rfl, h1, h2⟩ := h
    exact ⟨u, r, rfl, h1.mono s, RelCs.mono s h2⟩
theorem RelCs.length {cA : Cfg} {G : Hp} : ∀ {js : List Nat} {us : List V}, RelCs cA G js us → us.length = js.length
  | [], us, h => by rw [show us = [] from h]; rfl
  | j :: js, _, h => by
    obtain ⟨u, r, rfl, h1, h2⟩ := h
    simp [RelCs.length h2]
theorem RelCs.get {cA : Cfg} {G : Hp} : ∀ {js : List Nat} {us : List V} {i : Nat} {u : V}, RelCs cA G js us → us[i]? = some u → ∃ j, js[i]? = some j ∧ RelC cA G j u
  | [], us, _, _, h, e => by rw [show us = [] from h] at e; simp at e
  | j :: js, _, i, u, h, e => by
    obtain ⟨v, r, rfl, h1, h2⟩ := h
    cases i with
    | zero => simp at e; subst e; exact ⟨j, rfl, h1⟩
    | succ i => simpa using RelCs.get (i := i) h2 (by simpa using e)
theorem argsB_def {p : Arguments} {env : PySem.Env} (h : argsB p = true) : defaultsOf p env = ([], []) := by
  unfold argsB at h
  simp only [Bool.and_eq_true, List.isEmpty_iff] at h
  obtain ⟨⟨⟨⟨⟨⟨h1, h2⟩, h3⟩, h4⟩, h5⟩, h6⟩, h7⟩ := h
  cases p
  simp only at h5 h7
  subst h5 h7
  rfl
section
variable {X : Cx} {cA : Cfg} {sx : Sx} {k : Nat} {W : WX} {pos : Pos}
theorem r_lams (lf : LamF cA X) : ∀ {js : List Nat} {es : List Expr}, ckL cA X.env.scope js es → PA X es fun σ H Q => ∃ G am C, Wd X.K cA G am C H ∧ ∀ G1 H1 us, Ext G am C H G1 am C H1 → Wd X.K cA G1 am C H1 → RelCs cA G1 js us → Q us H1
  | [], [], _ => PA.imp pa_nil fun σ H Q ⟨G, am, C, wd, q⟩ => q G H [] Ext.refl wd rfl
  | j :: js, e :: es, h => by
    obtain ⟨⟨p, b, s, h1, h2, h3, h4⟩, hr⟩ := h
    have e1 : ∃ lp, e = .Lambda p b s lp := by
      unfold lamX at h1
      split at h1
      · cases h1; exact ⟨_, rfl⟩
      · cases h1
    obtain ⟨lp, rfl⟩ := e1
    have pe : PE X (.Lambda p b s lp) fun σ H Q => ∃ G am C, Wd X.K cA G am C H ∧ ∀ G1 H1 u, Ext G am C H G1 am C H1 → Wd X.K cA G1 am C H1 → RelC cA G1 j u → Q u H1 := by
      refine ⟨fun pins st σ H Q I ⟨G, am, C, wd, q⟩ => ?_⟩
      obtain ⟨c, P, TB, hcode, hm, hu⟩ := lf.tb
      refine lam_mk I wd TB hcode lf.q hm hu (argsB_def h4) (h3.has I.ok) fun f c' G1 H1 s' I1 x1 w1 g1 g2 => ?_
      exact ⟨.ref f, H1, I1, rfl, q G1 H1 (.ref f) x1 w1 ⟨p, b, s, f, c', h2, rfl, by rw [lf.cells]; exact g1, g2⟩⟩
    refine PA.imp (pa_cons pe (r_lams lf hr) rfl) fun σ H Q ⟨G, am, C, wd, q⟩ => ?_
    exact ⟨G, am, C, wd, fun G1 H1 u x1 w1 r1 => ⟨G1, am, C, w1, fun G2 H2 us x2 w2 r2 => q G2 H2 (u :: us) (x1.trans x2) w2 ⟨u, us, rfl, r1.mono x2.g, r2⟩⟩⟩
  | [], _ :: _, h => h.elim
  | _ :: _, [], h => h.elim
/-- for x in ((lambda: ..), ..): the walk -/
theorem s_forL (g : Gd sx k W X) (lf : LamF cA X) {i : Nat} {js : List Nat} {es : List Expr} {x : Str} {xp tp : Pos} {n : Nat} {fb : Env → Cells → RS} {body : List Stmt} (hp : PassesOwn (model X.prog X.w) X.A X.env X.xe) (hh : sx.hot = false) (h : nmAt sx.N i x = true) (hs : stoB sx x = true)
    (hl : ckL cA X.env.scope js es) (hz : js.length ≤ 1000) (hb : PSs X body (tS X.K cA W fb)) :
    PS X (.For (.Name x xp) (.Tuple es n tp) body [] pos) (tS X.K cA W fun env C => forLam i fb js env C) := by
  obtain ⟨l1, l2⟩ := stoB_ok g hs
  refine PS.imp (ps_for hp (g.calm hh) (pi_tup (pe_tup (r_lams lf hl))) (pg_name g.nd (g.at h) l1 l2) hb) fun D σ H ⟨env, G, am, C, re, wd, d⟩ => ?_
  refine ⟨G, am, C, wd, fun G1 H1 us x1 w1 r1 => ?_⟩
  have hlen := r1.length
  refine ⟨by rw [hlen, sizeLine_eq]; omega, fun p hp => ⟨p, rfl, ⟨us, SqT.of upd_same⟩, ?_⟩⟩
  obtain ⟨w2, x2⟩ := w1.new hp (.tup us)
  have d1 : DnS X.K cA W (forLam i fb js env C) _ _ _ _ D := DnS.shift (x1.trans x2) d
  have re1 := re.mono (x1.trans x2)
  have r2 := r1.mono x2.g
  generalize hr : forLam i fb js env C = full at d1
  have hsq : SqT X.K (L2.upd G1 p (.tup us)) p us := SqT.of upd_same
  generalize hG2 : L2.upd G1 p (.tup us) = G2 at w2 x2 d1 re1 r2 hsq
  generalize hH2 : L2.upd H1 p (.tup us) = H2 at w2 x2 d1 re1
  refine ⟨fun ii m σ H => m = js.length - ii ∧ ii ≤ js.length ∧ ∃ env2 G3 am3 C3, Ext G2 am C H2 G3 am3 C3 H ∧ Wd X.K cA G3 am3 C3 H ∧ RelEnv X.K cA G3 am3 env2 σ ∧ forLam i fb (js.drop ii) env2 C3 = full,
    ⟨js.length, by simp, Nat.zero_le _, env, G2, am, C, Ext.refl, w2, re1, by rw [List.drop_zero]; exact hr⟩, ?_⟩
  rintro ii m σ2 H3 ⟨rfl, hi', env2, G3, am3, C3, x3, w3, re3, hfu⟩
  have hsq3 : SqT X.K H3 p us := Same.sqt w3.sub (Same.sqt x3.g hsq)
  have wk := walk_tup (K := X.K) (a := p) (xs := us)
  by_cases hlt : ii < js.length
  · refine .inr ⟨wk.goes ii H3 (by rw [hlen]; exact hlt) hsq3, fun σ' H' => ∃ env2 G3 am3 C3, Ext G2 am C H2 G3 am3 C3 H' ∧ Wd X.K cA G3 am3 C3 H' ∧ RelEnv X.K cA G3 am3 env2 σ' ∧ forLam i fb (js.drop (ii + 1)) env2 C3 = full, fun σ' H' p => ⟨js.length - (ii + 1), by omega, rfl, hlt, p⟩, fun xv H' y => ?_⟩
    obtain ⟨q1, q2⟩ := wk.yields ii H3 xv H' (by rw [hlen]; exact hlt) hsq3 y
    subst q1
    obtain ⟨j, hj, rc⟩ := (r2.mono x3.g).get q2
    have hdrop : js.drop ii = j :: js.drop (ii + 1) := by
      rw [List.drop_eq_getElem_cons hlt]
      congr 1
      have := List.getElem?_eq_getElem hlt
      rw [this] at hj; exact Option.some.inj hj
    rw [hdrop, forLam] at hfu
    refine ⟨env2.set i (some (.clo j)), G3, am3, C3, re3.setS (e := .clo j) (.inr (.inl ⟨j, rfl, rc⟩)), w3, ?_⟩
    cases eb : fb (env2.set i (some (.clo j))) C3 with
    | next env4 C4 => rw [eb] at hfu; exact fun G4 am4 H4 σ4 x4 w4 r4 => ⟨env4, G4, am4, C4, x3.trans x4, w4, r4, hfu⟩
    | ct env4 C4 => rw [eb] at hfu; exact fun G4 am4 H4 σ4 x4 w4 r4 => ⟨env4, G4, am4, C4, x3.trans x4, w4, r4, hfu⟩
    | brk env4 C4 =>
      rw [eb] at hfu
      rw [← hfu] at d1
      exact fun G4 am4 H4 σ4 x4 w4 r4 => d1 G4 am4 H4 σ4 (x3.trans x4) w4 r4
    | ret e4 C4 =>
      rw [eb] at hfu
      rw [← hfu] at d1
      exact fun G4 am4 H4 σ4 x4 w4 r4 => d1 G4 am4 H4 σ4 (x3.trans x4) w4 r4
    | exc c fs env4 C4 =>
      rw [eb] at hfu
      rw [← hfu] at d1
      exact fun G4 am4 H4 σ4 cls dd x4 w4 re4 r4 => d1 G4 am4 H4 σ4 cls dd (x3.trans x4) w4 re4 r4
    | bad => rw [eb] at hfu; rw [← hfu] at d1; exact d1.elim
  · have hie : ii = js.length := by omega
    subst hie
    refine .inl ⟨by have z := wk.stops H3 hsq3; rw [hlen] at z; exact z, ?_⟩
    rw [List.drop_length, forLam] at hfu
    rw [← hfu] at d1
    exact d1 G3 am3 H3 σ2 x3 w3 re3
end
end Ev

end

section
set_option maxRecDepth 512
set_option Elab.async false
set_option linter.all false
set_option maxRecDepth 100000
set_option maxHeartbeats 4000000
namespace Ev
open PySem L2 PySem.Spec PyProof.Rows
section
variable {X : Cx} {cA : Cfg} {sx : Sx} {k : Nat} {W : WX} {pos : Pos}
theorem bindArgs_none {p : Arguments} (h : argsB p = true) (q : Str) (b : Expr) (sc : Scope) (cl : List (Str × Addr)) (pm cv ctv : Value) : bindArgs (PySem.W.kla_fn "<lambda>" q p b sc cl pm cv ctv) ⟨[], []⟩ = pure [] := by
  unfold argsB at h
  simp only [Bool.and_eq_true, List.isEmpty_iff, Option.isNone_iff_eq_none] at h
  obtain ⟨⟨⟨⟨⟨⟨h1, h2⟩, h3⟩, h4⟩, h5⟩, h6⟩, h7⟩ := h
  cases p
  simp only at h1 h2 h3 h4 h5 h6 h7
  subst h1 h2 h3 h4 h5 h6 h7
  rfl
/-- x() of a lambda -/
theorem r_callL (g : Gd sx k W X) (lf : LamF cA X) {lamc : Nat → Env → Cells → Ev.R E} {i : Nat} {x : Str} {p1 : Pos} (h : nmAt sx.N i x = true) (hv : visB sx.sc x = true) (ho : nmOk x = true) (hh : sx.hot = false) (hr : Room (k + 2) X.A)
    (hl : ∀ j p b sc, cA.lam j p b sc → LamX.LamS X.env.scope sc ∧ argsB p = true ∧ ∀ (A : Around) (outer : List PySem.Env) (s : Shared) (H : Hp) (E : XK) (f c' : Addr), Room (k + 1) (A.deeper (LamX.lamEnv X sc s.heap.objs.size f c')) → PE (LamX.lamCx X A outer s H E sc f c') b (tE X.K cA (fun cls d _ H => E cls d H) (lamc j))) :
    PE X (.Call (.Name x p1) [] [] pos) (tE X.K cA W fun env C => match (env[i]?).join with
      | some (.clo j) => lamc j env C
      | _ => .bad) := by
  have ho' := ho
  unfold nmOk at ho'
  simp only [Bool.and_eq_true, Bool.not_eq_true'] at ho'
  refine ⟨fun pins s σ H Q I ⟨env, G, am, C, re, wd, d⟩ => ?_⟩
  dsimp only at d
  cases e1 : env[i]? with
  | none => simp only [e1, Option.join_none] at d; exact d.elim
  | some o1 =>
    cases o1 with
    | none => simp only [e1, Option.join_some] at d; exact d.elim
    | some e' =>
      obtain ⟨v, h1, h2⟩ := re.2 i _ e1
      simp only [e1, Option.join_some] at d
      cases e' with
      | v dd => exact d.elim
      | r n => exact d.elim
      | exn c fs => exact d.elim
      | clo j =>
        have rc : RelC cA G j v := by
          rcases h2 with h2 | ⟨j', z, q⟩ | ⟨c, fs, z, _⟩
          · exact h2.elim
          · cases z; exact q
          · cases z
        obtain ⟨p, b, sc, f, c', l1, rfl, l3, l4⟩ := rc
        obtain ⟨L, ha, hbody⟩ := hl j p b sc l1
        rw [lf.cells, lf.q] at l3
        rw [lf.q] at l4
        have hf := wd.sub _ _ l3
        have hc := wd.sub _ _ l4
        refine wpAny_Call_Name_kw (thn ((pe_var (pos := p1) (i := i) (g.at h) (visB_ok (by rw [g.sc]; exact hv)) ho'.1.1 ho'.1.2).run pins s σ H (fun v H1 => v = .ref f ∧ H1 = H) I ⟨.ref f, h1, rfl, rfl⟩) fun u s1 ⟨v, H1, I1, r1, q1⟩ => ?_)
        obtain ⟨ev, eH⟩ := q1
        subst ev
        rw [eH] at I1
        obtain rfl : u = Value.ref f := r1
        obtain ⟨⟨pm, ctv, of1⟩, _, _⟩ := I1.hok f _ hf
        obtain ⟨⟨oc, vs, t, hoc, hdc, hvc⟩, _, _⟩ := I1.hok c' _ hc
        refine PySem.W.callWith_F0 ⟨_, _, _, _, of1⟩ ?_
        have rc : codeAny (model X.prog X.w) X.A (.call (.ref f) ⟨[], []⟩) (CR (L2.CX X.prog X.w) X.stack X.prog X.w H s1 Q (WE W σ)) s1 := by
          refine PySem.W.kla_callFunE hr.depth of1 rfl L.co L.gen rfl ⟨c', oc, vs, t, rfl, hoc, hdc, hvc⟩ ?_
          rw [bindArgs_none ha]
          refine wpAny_pure (wpAny_newFunctionEnv (fun y hy => (L.own y hy).2) (fun y hy => absurd hy (by simp)) (fun h₁ hns hsb => ⟨I1.nolimit.fresh _ hsb, ?_⟩) L.kind)
          show codeAny _ _ (.expr b (LamX.lamEnv X sc s1.heap.objs.size f c')) _ _
          have kp : ∀ b o, s1.heap.get? b = some o → h₁.get? b = some o := fun b o e => hsb.extBut b o (Nat.ne_of_lt (Heap.lt_size e)) (Heap.get?_push_of_some _ e)
          have J : L2.Inv (LamX.lamCx X X.A X.stack s1 H (WE W σ) sc f c') [] σ H { s1 with heap := h₁, toks := s1.toks + ([] : List (Str × Value)).length } :=
            LamX.lam_start2 I1 L I1.env0 (I1.ok.hd (g.calm hh)) (Un.kept fun b o e => e) hns kp
          refine PySem.W.kla_codeExpr (wpAny_mono ((hbody X.A X.stack s1 H (WE W σ) f c' (hr.deeper _)).run [] _ _ H Q J ⟨env, G, am, C, re, wd, ?_⟩) (fun v s' hq => ?_) fun e s' hq => hq)
          · have d' : Dn X.K cA (rE X.K cA) W σ (lamc j env C) G am C H Q := d
            cases e2 : lamc j env C with
            | ok a C' => rw [e2] at d'; exact d'
            | exc c fs C' => rw [e2] at d'; exact d'
            | bad => rw [e2] at d'; exact d'
          · obtain ⟨w', H', J', rv, q⟩ := hq
            exact ⟨w', H', J'.os, J'.bare, J'.base, J'.hok, rv, q⟩
        have hx : PassesAt (L2.CX X.prog X.w) X σ (WE W σ) := passAt g.tk σ
        refine wpAny_call (codeAny_mono rc fun r s' hq => ?_)
        cases r with
        | error e => exact hx pins H s1 e s' I1 hq
        | ok fl =>
          cases fl with
          | ret u => exact I1.after hq
          | next => exact False.elim hq
          | brk => exact False.elim hq
          | cont => exact False.elim hq
end
/-! ### exceptions -/
section
variable {K : PySem.W.Frag} {cA : Cfg} {G : Hp} {am : List Addr} {env : Env} {σ : L2.St}
theorem RelEnv.toExc {z : Addr × Addr × Option Addr} (hc : cA.exc = none) (re : RelEnv K cA G am env σ) : RelEnv K { cA with exc := some z } G am env σ := by
  refine ⟨re.1, fun i e h => ?_⟩
  obtain ⟨v, h1, h2⟩ := re.2 i e h
  refine ⟨v, h1, ?_⟩
  rcases h2 with h2 | ⟨j, h3, h4⟩ | ⟨c, fs, h3, h4⟩
  · exact .inl h2
  · exact .inr (.inl ⟨j, h3, h4⟩)
  · obtain ⟨a, C, dd, z, _⟩ := h4
    rw [hc] at z; cases z
theorem RelEnv.ofExc {z : Addr × Addr × Option Addr} (hc : cleanE env = true) (re : RelEnv K { cA with exc := some z } G am env σ) : RelEnv K cA G am env σ := by
  refine ⟨re.1, fun i e h => ?_⟩
  obtain ⟨v, h1, h2⟩ := re.2 i e h
  refine ⟨v, h1, ?_⟩
  rcases h2 with h2 | ⟨j, h3, h4⟩ | ⟨c, fs, h3, h4⟩
  · exact .inl h2
  · exact .inr (.inl ⟨j, h3, h4⟩)
  · unfold cleanE at hc
    rw [List.all_eq_true] at hc
    have := hc _ (List.mem_of_getElem? h)
    subst h3
    simp at this
end
section
variable {X : Cx} {cA : Cfg} {sx : Sx} {k : Nat} {W : WX} {pos : Pos} {P : Program} {w : World} {base : Heap} {pr : Prog} {tb : Tab} {call : Nat → List E → Cells → Ev.R E}
/-- the field of the exception that is handled -/
theorem r_xf {Y : Cx} {a C : Addr} {oe : Obj} {d : Option Addr} {pn : List (Addr × Obj)} {j : Nat} (g : Gd sx k W (Y.suite a ((a, oe) :: pn))) (F : Facts P w Y.K Y.mg base cA pr tb j call) (hx : cA.exc = some (a, C, d)) (hz : Zc (.ref C) d oe) (hf : ∃ vs, oe.data = .fields vs)
    {i : Nat} {x : Str} {f : Nm} {n : Str} {p : Pos} (h : nmAt sx.N i x = true) (hv : visB sx.sc x = true) (ho : nmOk x = true) (hn : T f = n) :
    PE (Y.suite a ((a, oe) :: pn)) (.Attribute (.Name x p) n pos) (tE Y.K cA W fun env C => match (env[i]?).join with
    | some (.exn c fs) => match pr.cls[c]? with
      | some cl => if cl.exn && cl.flds.contains f then Ev.R.of ((lookFD f fs).map .v) C else .bad
      | none => .bad
    | _ => .bad) := by
  unfold nmOk at ho
  simp only [Bool.and_eq_true, Bool.not_eq_true'] at ho
  refine ⟨fun pins s σ H Q I hh => ?_⟩
  obtain ⟨env, G, am, C1, re, wd, d1⟩ := id hh
  dsimp only at d1
  cases e1 : env[i]? with
  | none => simp only [e1, Option.join_none] at d1; exact d1.elim
  | some o1 =>
    cases o1 with
    | none => simp only [e1, Option.join_some] at d1; exact d1.elim
    | some e' =>
      obtain ⟨v, h1, h2⟩ := re.2 i _ e1
      simp only [e1, Option.join_some] at d1
      cases e' with
      | v dd => exact d1.elim
      | r n => exact d1.elim
      | clo j => exact d1.elim
      | exn c fs =>
        rcases h2 with h2 | ⟨j', z, q⟩ | ⟨c2, fs2, z, a2, C2, dd, z1, z2, z3, z4⟩
        · exact h2.elim
        · cases z
        · cases z
          rw [hx] at z1
          cases z1
          simp only at d1
          cases ecl : pr.cls[c]? with
          | none => simp only [ecl] at d1; exact d1.elim
          | some cl =>
            simp only [ecl] at d1
            split at d1
            · rename_i hcon
              rw [Bool.and_eq_true] at hcon
              have hmem : f ∈ cl.flds := by simpa using hcon.2
              cases el : lookFD f fs with
              | none => simp only [el] at d1; exact d1.elim
              | some dv =>
                simp only [el, Option.map_some, Ev.R.of_some] at d1
                obtain ⟨_, T1, _, hno, _⟩ := F.xr c cl C ecl hcon.1 (fun z => by rw [z] at hmem; cases hmem) z3
                subst hn
                refine (pe_xf T1 (hno f hmem) hz hf (pe_var (g.at h) (visB_ok (by rw [g.sc]; exact hv)) ho.1.1 ho.1.2)).run pins s σ H Q I ?_
                rcases z4 with z4 | ⟨b, gs, g1, g2, g3⟩
                · rw [z4] at el; cases el
                · obtain ⟨vv, v1, v2⟩ := g3 f dv el
                  exact ⟨v, h1, z2, rfl, b, gs, vv, g1, wd.sub _ _ g2, v1, d1.here wd v2⟩
            · exact d1.elim
/-- except C as x -/
theorem s_tryAs (g : Gd sx k W X) {j : Nat} (F : Facts P w X.K X.mg base cA pr tb j call) (ht : sx.top = true) (hc : cA.exc = none) {body suite : List Stmt} {b₀ : Stmt} {c : Nat} {nm : Nm} {i : Nat} {x n : Str} {np pos' : Pos} {fb fs : Env → Cells → RS}
    (hcl : tb.cl[c]? = some nm) (hne : nm ≠ []) (hx : T nm = x) (hgl : glB sx.sc x = true) (hi : nmAt sx.N i n = true) (hl : sx.sc.names.lookup n = some .local) {cl : Cl} (hcc : pr.cls[c]? = some cl) (hex : cl.exn = true)
    (hb : ∀ (W : WX) (pn : List (Addr × Obj)) (xe : Value → Shared → Prop), Takes (X.tr pn xe) W → PassesOwn (model X.prog X.w) X.A X.env xe → PSs (X.tr pn xe) body (tS X.K cA W fb))
    (hs : ∀ (a : Addr) (oe : Obj) (C : Addr) (d : Option Addr) (pn : List (Addr × Obj)), Zc (.ref C) d oe → (∃ vs, oe.data = .fields vs) → PSs (X.suite a ((a, oe) :: pn)) (b₀ :: suite) (tS X.K { cA with exc := some (a, C, d) } W0 fs)) :
    PS X (.Try body [.ExceptHandler (some (.Name x np)) (some n) (b₀ :: suite) pos'] [] [] pos) (tS X.K cA W fun env C => match fb env C with
      | .exc c' fl env C => if under pr c' c then
          match fs (env.set i (some (.exn c' fl))) C with
          | .next env C => if cleanE (env.set i none) then .next (env.set i none) C else .bad
          | .ct env C => if cleanE (env.set i none) then .ct (env.set i none) C else .bad
          | .brk env C => if cleanE (env.set i none) then .brk (env.set i none) C else .bad
          | .ret e C => .ret e C
          | _ => .bad
        else .exc c' fl env C
      | r => r) := by
  obtain ⟨Cd, hC, hm⟩ := F.cn c nm hcl hne
  subst hx
  obtain ⟨g1, g2, g3⟩ := g.gl hgl
  obtain ⟨t1, t2⟩ := g.top ht
  let tsu : Addr → Value → Option Addr → TS := fun a cls d D σ H => ∃ C, cls = .ref C ∧ tS X.K { cA with exc := some (a, C, d) } W0 fs D σ H
  refine PS.imp (ps_try_as (c := .ref Cd) (tb := fun W => tS X.K cA W fb) (ts := tsu) t1 t2 g.nd (g.at hi) (by show X.env.scope.names.lookup n = _; rw [g.sc]; exact hl) ⟨g1, g2, .inl hm⟩ g.tk hb fun a oe cls d pn hz hf => ⟨fun pins s σ H D I ⟨C, hcls, q⟩ => ?_⟩) fun D σ H ⟨env, G, am, C, re, wd, d⟩ => ?_
  · subst hcls
    exact (hs a oe C d pn hz hf).run pins s σ H D I q
  · refine ⟨env, G, am, C, re, wd, ?_⟩
    dsimp only at d
    cases eb : fb env C with
    | next env' C' => rw [eb] at d; exact d
    | ret e2 C' => rw [eb] at d; exact d
    | brk env' C' => rw [eb] at d; exact d
    | ct env' C' => rw [eb] at d; exact d
    | bad => rw [eb] at d; exact d
    | exc c' fl env1 C1 =>
      rw [eb] at d
      dsimp only at d
      intro G1 am1 H1 σ1 cls dd x1 w1 re1 rx
      obtain ⟨C', hC', rfl, hfl⟩ := id rx
      refine ⟨under pr c' c, F.xm c' c cl C' Cd hcc hex hC' hC, fun hu a ha => ⟨C', rfl, ?_⟩, fun hu => ?_⟩
      · rw [if_pos hu] at d
        have re2 : RelEnv X.K { cA with exc := some (a, C', dd) } G1 am1 (env1.set i (some (.exn c' fl))) (σ1.set i (some (.ref a))) :=
          (re1.toExc hc).setS (.inr (.inr ⟨c', fl, rfl, a, C', dd, rfl, rfl, hC', hfl⟩))
        refine ⟨_, G1, am1, C1, re2, w1, ?_⟩
        cases es : fs (env1.set i (some (.exn c' fl))) C1 with
        | next env' C2 =>
          rw [es] at d
          dsimp only at d
          split at d
          · rename_i hcl
            exact fun G2 am2 H2 σ2 x2 w2 re2 => d G2 am2 H2 _ (x1.trans x2) w2 (RelEnv.ofExc (z := (a, C', dd)) hcl re2.drop)
          · exact d.elim
        | ct env' C2 =>
          rw [es] at d
          dsimp only at d
          split at d
          · rename_i hcl
            exact fun G2 am2 H2 σ2 x2 w2 re2 => d G2 am2 H2 _ (x1.trans x2) w2 (RelEnv.ofExc (z := (a, C', dd)) hcl re2.drop)
          · exact d.elim
        | brk env' C2 =>
          rw [es] at d
          dsimp only at d
          split at d
          · rename_i hcl
            exact fun G2 am2 H2 σ2 x2 w2 re2 => d G2 am2 H2 _ (x1.trans x2) w2 (RelEnv.ofExc (z := (a, C', dd)) hcl re2.drop)
          · exact d.elim
        | ret e2 C2 => rw [es] at d; exact fun G2 am2 H2 v x2 w2 r2 => d G2 am2 H2 v (x1.trans x2) w2 r2
        | exc c2 fl2 env2 C2 => rw [es] at d; exact d.elim
        | bad => rw [es] at d; exact d.elim
      · rw [if_neg (by rw [hu]; decide)] at d
        exact d G1 am1 H1 σ1 (.ref C') dd x1 w1 re1 ⟨C', hC', rfl, hfl⟩
/-- except C -/
theorem s_tryOnly (g : Gd sx k W X) {j : Nat} (F : Facts P w X.K X.mg base cA pr tb j call) (ht : sx.top = true) {body suite : List Stmt} {b₀ : Stmt} {c : Nat} {nm : Nm} {x : Str} {np pos' : Pos} {fb fs : Env → Cells → RS}
    (hcl : tb.cl[c]? = some nm) (hne : nm ≠ []) (hx : T nm = x) (hgl : glB sx.sc x = true) {cl : Cl} (hcc : pr.cls[c]? = some cl) (hex : cl.exn = true)
    (hb : ∀ (W : WX) (pn : List (Addr × Obj)) (xe : Value → Shared → Prop), Takes (X.tr pn xe) W → PassesOwn (model X.prog X.w) X.A X.env xe → PSs (X.tr pn xe) body (tS X.K cA W fb))
    (hs : ∀ (a : Addr) (oe : Obj) (pn : List (Addr × Obj)), PSs (X.suite a ((a, oe) :: pn)) (b₀ :: suite) (tS X.K cA W0 fs)) :
    PS X (.Try body [.ExceptHandler (some (.Name x np)) none (b₀ :: suite) pos'] [] [] pos) (tS X.K cA W fun env C => match fb env C with
      | .exc c' fl env C => if under pr c' c then
          match fs env C with
          | .exc _ _ _ _ => .bad
          | x => x
        else .exc c' fl env C
      | r => r) := by
  obtain ⟨Cd, hC, hm⟩ := F.cn c nm hcl hne
  subst hx
  obtain ⟨g1, g2, g3⟩ := g.gl hgl
  obtain ⟨t1, t2⟩ := g.top ht
  refine PS.imp (ps_try_only (c := .ref Cd) (tb := fun W => tS X.K cA W fb) (ts := fun a cls d => tS X.K cA W0 fs) t1 t2 ⟨g1, g2, .inl hm⟩ g.tk hb fun a oe cls d pn hz hf => hs a oe pn) fun D σ H ⟨env, G, am, C, re, wd, d⟩ => ?_
  refine ⟨env, G, am, C, re, wd, ?_⟩
  dsimp only at d
  cases eb : fb env C with
  | next env' C' => rw [eb] at d; exact d
  | ret e2 C' => rw [eb] at d; exact d
  | brk env' C' => rw [eb] at d; exact d
  | ct env' C' => rw [eb] at d; exact d
  | bad => rw [eb] at d; exact d
  | exc c' fl env1 C1 =>
    rw [eb] at d
    dsimp only at d
    intro G1 am1 H1 σ1 cls dd x1 w1 re1 rx
    obtain ⟨C', hC', rfl, hfl⟩ := id rx
    refine ⟨under pr c' c, F.xm c' c cl C' Cd hcc hex hC' hC, fun hu a ha => ⟨env1, G1, am1, C1, re1, w1, ?_⟩, fun hu => ?_⟩
    · rw [if_pos hu] at d
      cases es : fs env1 C1 with
      | next env' C2 => rw [es] at d; exact DnS.shift x1 (r := .next env' C2) d
      | ct env' C2 => rw [es] at d; exact DnS.shift x1 (r := .ct env' C2) d
      | brk env' C2 => rw [es] at d; exact DnS.shift x1 (r := .brk env' C2) d
      | ret e2 C2 => rw [es] at d; exact DnS.shift x1 (r := .ret e2 C2) d
      | exc c2 fl2 env2 C2 => rw [es] at d; exact d.elim
      | bad => rw [es] at d; exact d.elim
    · rw [if_neg (by rw [hu]; decide)] at d
      exact d G1 am1 H1 σ1 (.ref C') dd x1 w1 re1 ⟨C', hC', rfl, hfl⟩
end
end Ev

end

section
set_option maxRecDepth 512
set_option Elab.async false
set_option linter.all false
set_option maxRecDepth 100000
set_option maxHeartbeats 4000000
namespace Ev
open PySem L2 PySem.Spec PyProof.Rows
section
variable {K : PySem.W.Frag} {cA : Cfg0} {G : Hp}
theorem fld_at : ∀ {fl : List Nm} {ds : List D} {vs : List V} {f : Nm} {d : D}, RelDs K cA G ds vs → lookFD f (fl.zip ds) = some d → ∃ v, (T f, v) ∈ (fl.map T).zip vs ∧ RelD K cA G d v
  | [], _, _, _, _, _, h => by simp [lookFD] at h
  | f0 :: fl, [], _, _, _, _, h => by simp [lookFD] at h
  | f0 :: fl, d0 :: ds, vs, f, d, r, h => by
    simp only [RelDs] at r
    obtain ⟨v0, vr, rfl, r1, r2⟩ := r
    simp only [List.zip_cons_cons, lookFD] at h
    split at h
    · rename_i he
      cases h
      subst he
      exact ⟨v0, by simp, r1⟩
    · obtain ⟨v, h1, h2⟩ := fld_at r2 h
      exact ⟨v, by simp only [List.map_cons, List.zip_cons_cons]; exact List.mem_cons_of_mem _ h1, h2⟩
theorem lookup_of {l : List (Str × V)} (nd : (l.map (·.1)).Nodup) {x : Str} {v : V} (h : (x, v) ∈ l) : l.lookup x = some v := by
  induction l with
  | nil => cases h
  | cons p l ih =>
    obtain ⟨y, w⟩ := p
    rw [List.map_cons, List.nodup_cons] at nd
    rcases List.mem_cons.mp h with e | h
    · cases e; simp [List.lookup]
    · have : x ≠ y := fun z => nd.1 (List.mem_map.mpr ⟨_, h, z⟩)
      have e : (x == y) = false := by simpa using this
      simp [List.lookup, e, ih nd.2 h]
theorem zip_keys : ∀ {xs : List Str} {vs : List V}, xs.length = vs.length → ((xs.zip vs).map (·.1)) = xs
  | [], _, _ => rfl
  | x :: xs, [], h => by simp at h
  | x :: xs, v :: vs, h => by simp only [List.zip_cons_cons, List.map_cons]; rw [zip_keys (by simpa using h)]
end
section
variable {X : Cx} {cA : Cfg} {sx : Sx} {k : Nat} {W : WX} {pos : Pos} {P : Program} {w : World} {base : Heap} {pr : Prog} {tb : Tab} {call : Nat → List E → Cells → Ev.R E}
theorem s_raise (g : Gd sx k W X) (F : Facts X.prog X.w X.K X.mg base cA pr tb k call) (hb0 : X.base = base) (hh : sx.hot = false) (hr : Room (k + 1) X.A) {c : Nat} {nm : Nm} {x : Str} {a : Expr} {es : List Expr} {p pos' : Pos} {fs : Env → Cells → Ev.R (List E)} {cl : Cl}
    (hcl : tb.cl[c]? = some nm) (hne : nm ≠ []) (hx : T nm = x) (hgl : glB sx.sc x = true) (hcc : pr.cls[c]? = some cl) (hex : cl.exn = true) (hfl : cl.flds ≠ []) (hlen : cl.flds.length ≤ 900) (hp : plainX a = true) (hps : es.all plainX = true) (hs : PA X (a :: es) (tEs X.K cA W fs)) :
    PS X (.Raise (some (.Call (.Name x p) (a :: es) [] pos)) none pos') (tS X.K cA W fun env C => (fs env C).st env fun xs C => match vals xs, pr.cls[c]? with
    | some ds, some cl => if ds.length = cl.flds.length then .exc c (cl.flds.zip ds) env C else .bad
    | _, _ => .bad) := by
  subst hb0
  obtain ⟨C, hC, hm⟩ := F.cn c nm hcl hne
  subst hx
  obtain ⟨g1, g2, g3⟩ := g.gl hgl
  obtain ⟨TO, _, hnd, _, fI, fd, ps, iC, tI, hbd, hFn⟩ := F.xr c cl C hcc hex hfl hC
  have mk := pmk_oex (X := X) (ps := ps) (ds := []) (dvs := []) (p := p) (pos := pos) TO iC tI hFn hr hbd .nil (passes_call (W := W) (E := fun _ _ _ => False) g.tk fun _ _ _ _ h => h.elim) g1 hm hs g2 (star_cons hp) (star_any0 hps)
  refine PS.imp (ps_raise (g.calm hh) g.tk mk) fun D σ H ⟨env, G, am, C0, re, wd, d⟩ => ?_
  refine ⟨env, G, am, C0, re, wd, Dn.imp (DnS.st (Rl := rEs X.K cA) re d) fun vs H1 ⟨G1, am1, C1, xs, x1, w1, rx, re1, d1⟩ => ?_⟩
  cases ev : vals xs with
  | none => simp only [ev] at d1; exact d1.elim
  | some dds =>
    simp only [ev, hcc] at d1
    split at d1
    · rename_i hl
      have rd := vals_rel rx ev
      have hvl : vs.length = cl.flds.length := by rw [← rd.length, hl]
      refine ⟨by omega, fun ax ha => ⟨ax, vs, by simp, hvl, hfl, upd_same, fun dx hdx hne => ⟨rfl, dx, ((cl.flds.map T).zip vs).reverse, upd_same, ?_, ?_, ?_⟩⟩⟩
      · rw [upd_ne hne, upd_same]
      · rw [upd_ne hne] at hdx; exact hdx
      · have hdx1 : H1 dx = none := by rw [upd_ne hne] at hdx; exact hdx
        have e : L2.upd (L2.del (L2.upd (L2.upd (L2.upd H1 ax (L2.exo ax C none)) dx (L2.exd dx ((cl.flds.map T).zip vs).reverse)) ax (L2.exo ax C (some dx))) ax) dx (.xd ((cl.flds.map T).zip vs).reverse) = L2.upd H1 dx (.xd ((cl.flds.map T).zip vs).reverse) := by
          funext b
          by_cases hb : b = dx
          · subst hb; rw [upd_same, upd_same]
          · rw [upd_ne hb, upd_ne hb]
            by_cases hb2 : b = ax
            · subst hb2; rw [del_same, ha]
            · rw [del_ne hb2, upd_ne hb2, upd_ne hb, upd_ne hb2]
        rw [e]
        obtain ⟨w2, x2⟩ := w1.new hdx1 (.xd ((cl.flds.map T).zip vs).reverse)
        refine d1 _ _ _ σ (.ref C) (some dx) x2 w2 (re1.mono x2) ⟨C, hC, rfl, .inr ⟨dx, _, rfl, upd_same, fun f dd hf => ?_⟩⟩
        obtain ⟨v, h1, h2⟩ := fld_at rd hf
        refine ⟨v, lookup_of ?_ (List.mem_reverse.mpr h1), h2.mono x2.g⟩
        rw [List.map_reverse, zip_keys (by simp [hvl])]
        have hn2 : (cl.flds.map T).Nodup := List.Pairwise.map _ (fun a b h z => h (T_inj z)) hnd
        exact List.pairwise_reverse.mpr (List.Pairwise.imp (fun h => Ne.symm h) hn2)
    · exact d1.elim
end
end Ev

end

section
set_option maxRecDepth 512
set_option Elab.async false
set_option linter.all false
set_option maxRecDepth 100000
set_option maxHeartbeats 4000000
namespace Ev
open PySem L2 PySem.Spec PyProof.Rows
section
variable {X : Cx} {cA : Cfg} {sx : Sx} {k : Nat} {W : WX} {pos : Pos} {P : Program} {w : World} {base : Heap} {pr : Prog} {tb : Tab} {call : Nat → List E → Cells → Ev.R E} {a b : Expr} {fa fb : Env → Cells → Ev.R E}
/-- a cell's list is let go: from now on a tree -/
theorem r_frz (ha : PE X a (tE X.K cA W fa)) : PE X a (tE X.K cA W fun env C => (fa env C).bind fun x C => match x with
    | .v d => .ok (.v d) C
    | .r n => match cellAt C n with
      | some (.lst xs) => .ok (.v (.lst xs)) (C.set n none)
      | _ => .bad
    | _ => .bad) := by
  refine PE.imp ha fun σ H Q h => ?_
  obtain ⟨env, G, am, C, re, wd, d⟩ := tE_one h
  refine ⟨env, G, am, C, re, wd, Dn.imp d fun vx H1 ⟨env1, G1, am1, C1, x, re1, w1, rx, d1⟩ => ?_⟩
  cases x with
  | v dx => exact d1.here w1 rx
  | r n =>
    simp only at d1
    cases ec : cellAt C1 n with
    | none => simp only [ec] at d1; exact d1.elim
    | some cl =>
      cases cl <;> simp only [ec] at d1 <;> first | exact d1.elim | skip
      case lst xs =>
        obtain ⟨p, e2, h3, h4, ⟨us, h5, h6⟩, h7⟩ := w1.at rx ec
        subst e2
        have hlt := (List.getElem?_eq_some_iff.mp h4).1
        have lv : Live am1 C1 p := ⟨n, _, h4, h3⟩
        have sg : Same G1 (L2.upd G1 p (.lst us)) := fun b u q => by rw [upd_ne (ne_of_none q h7)]; exact q
        have get : ∀ {i : Nat} {c : Cell}, (C1.set n none)[i]? = some (some c) → i ≠ n ∧ C1[i]? = some (some c) := fun {i c} h => by
          by_cases hi : i = n
          · subst hi; rw [List.getElem?_set_self hlt] at h; cases h
          · rw [List.getElem?_set_ne fun z => hi z.symm] at h; exact ⟨hi, h⟩
        refine d1 (L2.upd G1 p (.lst us)) am1 H1 (.ref p) ⟨sg, ⟨[], by simp⟩, fun b o q _ _ => q, fun b ps q _ => ⟨ps, q⟩, fun b ⟨i, c, h, q⟩ => .inl ⟨i, c, (get h).2, q⟩, fun b o q => ?_, fun m zs h => ?_⟩
          ⟨w1.tab_to sg (fun _ _ e => e) fun P ps e nn => by rw [upd_ne (fun z => by rw [z, h5] at e; cases e)]; exact nn, fun b u q => ?_, by simp [w1.len], fun i c h => ?_, fun i j c d b e1 e2 q1 q2 => w1.inj i j c d b (get e1).2 (get e2).2 q1 q2⟩ ?_
        · by_cases hb : b = p
          · subst hb; exact .inr (.inr lv)
          · rw [upd_ne hb] at q; exact .inl q
        · have hm : m ≠ n := fun z => by rw [z, h4] at h; cases h
          rw [List.getElem?_set_ne fun z => hm z.symm]; exact h
        · by_cases hb : b = p
          · subst hb; rw [upd_same] at q; cases q; exact h5
          · rw [upd_ne hb] at q; exact w1.sub _ _ q
        · obtain ⟨hi, h⟩ := get h
          obtain ⟨b, q1, q2, q3⟩ := w1.cell i c h
          have nb : b ≠ p := fun z => hi (w1.inj i n c _ p h h4 (by rw [← z]; exact q1) h3)
          refine ⟨b, q1, ?_, by rw [upd_ne nb]; exact q3⟩
          cases c with
          | lst xs => obtain ⟨us, z, r⟩ := q2; exact ⟨us, z, r.mono sg⟩
          | lkd xs => obtain ⟨us, z, r⟩ := q2; exact ⟨us, z, r.mono sg⟩
          | dct kvs => obtain ⟨us, z, r⟩ := q2; exact ⟨us, z, r.mono sg⟩
          | ins c fs => obtain ⟨Ca, dx, gs, z1, z2, z3, r⟩ := q2; exact ⟨Ca, dx, gs, z1, z2, z3, r.mono sg ⟨[], by simp⟩⟩
        · simp only [rE, RelE, RelD]
          exact ⟨p, us, rfl, SqL.of upd_same, h6.mono sg⟩
  | _ => exact d1.elim
/-- list(e), a cell -/
theorem r_cp {j : Nat} (g : Gd sx k W X) (F : Facts P w X.K X.mg base cA pr tb j call) {x : Str} {p : Pos} (hx : ("list" : Str) = x) (hg : glB sx.sc x = true) (hh : sx.hot = false) (hp : plainX a = true) (ha : PE X a (tE X.K cA W fa)) :
    PE X (.Call (.Name x p) [a] [] pos) (tE X.K cA W fun env C => (fa env C).bind fun x C => match see C x with
    | some (.lst xs) => .ok (.r C.length) (C ++ [some (.lst xs)])
    | some (.tup xs) => .ok (.r C.length) (C ++ [some (.lst xs)])
    | _ => .bad) := by
  obtain ⟨g1, g2, g3⟩ := g.gl hg
  subst hx
  refine PE.imp (pe_callTy (call_list_of (X := X)) g1 (F.bi .list) PyProof.Rows.boot_list (pa_cons ha pa_nil (star_cons hp)) g3 g2 (star_cons hp) rfl) fun σ H Q h => ?_
  obtain ⟨env, G, am, C, re, wd, d⟩ := tE_one h
  refine ⟨env, G, am, C, re, wd, Dn.imp d fun vx H1 ⟨env1, G1, am1, C1, x, re1, w1, rx, d1⟩ => ?_⟩
  cases e1 : see C1 x with
  | none => simp only [e1] at d1; exact d1.elim
  | some dx =>
    have rs := see_rel w1 rx e1
    have fin : ∀ {p0 : Addr} {us : List V} {xs : List D}, RelDs X.K cA G1 xs us → Dn X.K cA (rE X.K cA) W σ (.ok (.r C1.length) (C1 ++ [some (.lst xs)])) G1 am1 C1 H1 Q → ∀ p, H1 p = none → Q (.ref p) (L2.upd H1 p (.lst us)) := fun {p0 us xs} r d p hp => by
      obtain ⟨w2, x2⟩ := w1.newC hp (o := .lst us) (cl := .lst xs) ⟨us, upd_same, r⟩
      refine d G1 (am1 ++ [p]) _ (.ref p) x2 w2 ⟨p, ?_, rfl⟩
      rw [List.getElem?_append_right (by rw [w1.len]; exact Nat.le_refl _), w1.len]; simp
    cases dx <;> simp only [e1] at d1 <;> first | exact d1.elim | skip
    case tup xs =>
      simp only [RelS, RelD] at rs
      obtain ⟨p, us, rfl, h1, h2⟩ := rs
      exact ⟨p, us, rfl, .inr (Same.sqt w1.sub h1), fin (p0 := p) h2 d1⟩
    case lst xs =>
      obtain ⟨p, us, rfl, h1, h2⟩ := rs
      exact ⟨p, us, rfl, .inl h1, fin (p0 := p) h2 d1⟩
end
end Ev

end

section
set_option maxRecDepth 512
set_option Elab.async false
set_option linter.all false
set_option maxRecDepth 100000
set_option maxHeartbeats 4000000
namespace Ev
open PySem L2 PySem.Spec PyProof.Rows
def bmS : Bm → Str
  | .count => "count"
  | .index => "index"
def mmS : Mm → Str
  | .append => "append"
  | .pop => "pop"
  | .popAt => "pop"
section
variable {X : Cx} {cA : Cfg} {sx : Sx} {k : Nat} {W : WX} {pos cpos apos : Pos} {a b : Expr} {fa fb : Env → Cells → Ev.R E}
theorem countD_eq (I : L2.Inv X pins σ H s) {G : Hp} (sb : Same G H) {x : D} {xu : Value} {bs : List Addr} (hx : shp x = true) (rx : Reads s.heap xu (py x) bs) :
    ∀ {ds : List D} {vs : List V} {us : List Value}, shps ds = true → RelDs X.K cA G ds vs → Vals vs us → us.countP (eqOn s.heap (py x)) = countD x ds
  | [], _, _, _, h, r => by simp only [RelDs] at h; subst h; cases r; rfl
  | d :: ds, _, _, hp, h, r => by
    simp only [RelDs] at h
    obtain ⟨u, rr, rfl, h1, h2⟩ := h
    simp only [shps, Bool.and_eq_true] at hp
    cases r with
    | cons r1 r2 =>
      obtain ⟨as, ra⟩ := reads_D I sb (shp_pd hp.1) h1 r1
      have ih := countD_eq I sb hx rx hp.2 h2 r2
      have e := eqOn_of (x := py x) ra (py_lay _ (shp_pd hp.1))
      rw [py_eq _ _ (shp_pd hp.1) (shp_pd hx)] at e
      rw [List.countP_cons, ih, countD, e]
      omega
theorem mt_countG (hu : X.A.units + 65 < cLine) : MtR X "list.count" (fun x xs H Q => ∃ G a ds, Same G H ∧ (∃ p us, x = .ref p ∧ SqL X.K H p us ∧ RelDs X.K cA G ds us) ∧ (∃ v, xs = [v] ∧ RelS X.K cA G H a v) ∧ shp a = true ∧ shps ds = true ∧ Q (.int (countD a ds)) H) := by
  intro pins s σ H x xs v us Q I rx rxs ⟨G, a, ds, sb, ⟨p, ws, e, hq, rb⟩, ⟨va, e2, ra⟩, ha, hb, q⟩
  subst e e2
  cases rx
  obtain ⟨ua, rfl, rua⟩ := rxs.one
  obtain ⟨as, r1⟩ := reads_S I sb (shp_pd ha) ra rua
  obtain ⟨its, rv, pl, hz⟩ := I.list hq
  obtain ⟨i1, i2⟩ := each_eq (A := X.A.in1) I sb ha r1 (by show X.A.units + 1 + 64 < cLine; omega) hb rb rv
  have ic := countD_eq I sb ha r1 hb rb rv
  obtain ⟨⟨cls, dd, data, sl⟩, ho, hc, n, hd⟩ := pl.isList
  simp only at hc hd
  subst hc hd
  refine call_meets PySem.F.slot_list_count ⟨_, ho, rfl⟩ PySem.F.entry_list_count (PySem.F.args_list_count_2 _ _) (SeqAt.list_countAt p its.toArray n dd sl ua (eqOn s.heap (py a))) ⟨ho, fun y hy => i1 y (by simpa using hy), ?_⟩
  refine ⟨.int _, H, I.tok _, ⟨_, rfl⟩, ?_⟩
  rw [show its.toArray.toList = its by simp, ic]
  exact q
theorem few1 {e : Expr} {env : PySem.Env} (h : plainX e = true) : ((backTo cpos (starEach [e] env)).all (fun x => !x.1) && (backToKw cpos (keywordEach [] env)).all (fun x => x.1.isSome)
      && decide ([e].length + ([] : List Keyword).length + (if ([] : List Keyword).isEmpty then 0 else 1) < 30)) = true := by
  rw [star_cons h]
  rfl
theorem isLst_tyV {K : PySem.W.Frag} {cA : Cfg0} {G : Hp} {am : List Addr} {C : Cells} {H : Hp} {x : E} {v : V} (wd : Wd K cA G am C H) (r : RelE K cA G am x v) (h : isLst C x = true) : tyV K "list" v H := by
  unfold isLst at h
  cases e : see C x with
  | none => rw [e] at h; cases h
  | some d =>
    rw [e] at h
    cases d <;> first | (cases h; done) | skip
    case lst xs =>
      obtain ⟨p, us, rfl, h1, h2⟩ := see_rel wd r e
      exact .inl ⟨rfl, us, h1⟩
theorem r_count (g : Gd sx k W X) (hao : attrX a = true) (hp : plainX b = true) (hl : (apos.endLine == cpos.line) = true) (ha : PE X a (tE X.K cA W fa)) {fs : Env → Cells → Ev.R (List E)} (hs : PA X [b] (tEs X.K cA W fs)) :
    PE X (.Call (.Attribute a "count" apos) [b] [] cpos) (tE X.K cA W fun env C => (fa env C).bind fun x C => if isLst C x then (fs env C).bind fun xs C =>
      Ev.R.of ((see C x).bind fun x => (sees C xs).bind fun ds => (bmV .count x ds).map .v) C else .bad) := by
  refine PE.imp (pe_bm PySem.F.plainAttrs_list PySem.F.slot_list_count PySem.F.type_list_count (mt_countG (cA := cA) g.un) ha hs (attr_base hao) (few1 hp) hl (star_cons hp) rfl) fun σ H Q h => ?_
  obtain ⟨env, G, am, C, re, wd, d⟩ := tE_one h
  refine ⟨env, G, am, C, re, wd, Dn.imp d fun vx H1 ⟨env1, G1, am1, C1, x, re1, w1, rx, d1⟩ => ?_⟩
  split at d1
  · rename_i hil
    refine ⟨isLst_tyV w1 rx hil, env1, G1, am1, C1, re1, w1, Dn.imp (Dn.bind (Rl := rEs X.K cA) d1) fun vs H2 ⟨G2, am2, C2, xs, x2, w2, r2, d2⟩ => ?_⟩
    obtain ⟨e, he, d2⟩ := of_some d2
    simp only [Option.bind_eq_some_iff, Option.map_eq_some_iff] at he
    obtain ⟨dx, hx, ds, hds, z, hz, rfl⟩ := he
    have rs := see_rel w2 (RelE.mono x2.g x2.a rx) hx
    have rd := sees_rel w2 r2 hds
    unfold bmV at hz
    split at hz
    · split at hz
      · rename_i hc
        cases hz
        rw [Bool.and_eq_true] at hc
        obtain ⟨p, us, e3, h1, h2⟩ := rs
        obtain ⟨v, rr, e1, h3, h4⟩ := rd
        exact ⟨G2, _, _, w2.sub, ⟨p, us, e3, h1, h2⟩, ⟨v, by rw [e1, show rr = [] from h4], h3⟩, hc.1, hc.2, d2.here w2 (by simp only [rE, RelE, RelD])⟩
      · cases hz
    · exact absurd ‹Bm.count = Bm.index› (by decide)
    · cases hz
  · exact d1.elim
theorem r_append (hao : attrX a = true) (hp : plainX b = true) (hl : (apos.endLine == cpos.line) = true) (ha : PE X a (tE X.K cA W fa)) {fs : Env → Cells → Ev.R (List E)} (hs : PA X [b] (tEs X.K cA W fs)) :
    PE X (.Call (.Attribute a "append" apos) [b] [] cpos) (tE X.K cA W fun env C => (fa env C).bind fun x C => if isLst C x then (fs env C).bind fun xs C => match x with
    | .r n => match (cellAt C n).bind fun c => (vals xs).bind fun ds => mmV .append c ds with
      | some (c, d) => .ok (.v d) (C.set n (some c))
      | none => .bad
    | _ => .bad else .bad) := by
  refine PE.imp (pe_bm PySem.F.plainAttrs_list PySem.F.slot_list_append PySem.F.type_list_append mt_append ha hs (attr_base hao) (few1 hp) hl (star_cons hp) rfl) fun σ H Q h => ?_
  obtain ⟨env, G, am, C, re, wd, d⟩ := tE_one h
  refine ⟨env, G, am, C, re, wd, Dn.imp d fun vx H1 ⟨env1, G1, am1, C1, x, re1, w1, rx, d1⟩ => ?_⟩
  split at d1
  · rename_i hil
    refine ⟨isLst_tyV w1 rx hil, env1, G1, am1, C1, re1, w1, Dn.imp (Dn.bind (Rl := rEs X.K cA) d1) fun vs H2 ⟨G2, am2, C2, xs, x2, w2, r2, d2⟩ => ?_⟩
    cases x with
    | r n =>
      simp only at d2
      cases ec : cellAt C2 n with
      | none => simp only [ec, Option.bind_none] at d2; exact d2.elim
      | some cl =>
        cases ev : vals xs with
        | none => simp only [ec, ev, Option.bind_some, Option.bind_none] at d2; exact d2.elim
        | some ds =>
          simp only [ec, ev, Option.bind_some] at d2
          have rx2 : RelE X.K cA G2 am2 (.r n) vx := RelE.mono x2.g x2.a rx
          cases cl <;> simp only [mmV] at d2 <;> first | exact d2.elim | skip
          case lst ys =>
            cases ds with
            | nil => simp only [mmV] at d2; exact d2.elim
            | cons y r0 =>
              cases r0 with
              | cons y2 r1 => simp only [mmV] at d2; exact d2.elim
              | nil =>
                simp only [mmV] at d2
                by_cases hlen : ys.length < line
                · rw [if_pos hlen] at d2
                  dsimp only at d2
                  obtain ⟨p, e2, h3, h4, ⟨us, h5, h6⟩, h7⟩ := w2.at rx2 ec
                  have rd := vals_rel r2 ev
                  simp only [RelDs] at rd
                  obtain ⟨v, rr, e1, h8, h9⟩ := rd
                  have e1' : vs = [v] := by rw [e1, h9]
                  obtain ⟨w3, x3⟩ := w2.put h3 h4 h5 (h6.append (RelDs.one h8))
                  exact ⟨p, us, v, e2, e1', h5, by rw [← h6.length, ← line_eq]; exact hlen, d2 G2 am2 _ .non x3 w3 (by simp only [rE, RelE, RelD])⟩
                · rw [if_neg hlen] at d2; exact d2.elim
    | _ => exact d2.elim
  · exact d1.elim
end
end Ev

end

section
set_option maxRecDepth 512
set_option Elab.async false
set_option linter.all false
set_option maxRecDepth 100000
set_option maxHeartbeats 4000000
namespace Ev
open PySem L2 PySem.Spec PyProof.Rows
/-! ### own instances -/
section
variable {K : PySem.W.Frag} {cA : Cfg0} {G : Hp} {am : List Addr} {C : Cells} {H : Hp}
/-- a cell's object is written -/
theorem Wd.putG (wd : Wd K cA G am C H) {n : Nat} {a : Addr} {c0 c1 : Cell} {o0 o1 : HO} (h1 : am[n]? = some a) (hc : C[n]? = some (some c0)) (hH : H a = some o0) (nt : ∀ ps, o0 ≠ .tbl ps) (no : ∀ b, o0 ≠ .own b) (nl : ∀ xs, c0 ≠ .lkd xs) (hn : CellO K cA G am (L2.upd H a o1) a c1) :
    Wd K cA G am (C.set n (some c1)) (L2.upd H a o1) ∧ Ext G am C H G am (C.set n (some c1)) (L2.upd H a o1) := by
  have hlt := (List.getElem?_eq_some_iff.mp hc).1
  have lv : Live am C a := ⟨n, _, hc, h1⟩
  have hg : G a = none := by
    obtain ⟨a', h2, _, h4⟩ := wd.cell n _ hc
    rw [h1] at h2; cases h2; exact h4
  have get : ∀ {i : Nat} {c : Cell}, (C.set n (some c1))[i]? = some (some c) → (i = n ∧ c = c1) ∨ (i ≠ n ∧ C[i]? = some (some c)) := fun {i c} h => by
    by_cases hi : i = n
    · subst hi; rw [List.getElem?_set_self hlt] at h; cases h; exact .inl ⟨rfl, rfl⟩
    · rw [List.getElem?_set_ne fun z => hi z.symm] at h; exact .inr ⟨hi, h⟩
  have lv2 : ∀ b, Live am (C.set n (some c1)) b → Live am C b := fun b ⟨i, c, h, q⟩ => by
    rcases get h with ⟨rfl, rfl⟩ | ⟨_, h⟩
    · exact ⟨_, _, hc, q⟩
    · exact ⟨i, c, h, q⟩
  refine ⟨⟨wd.tab_to (Same.refl _) (fun P ps e => by rw [upd_ne (fun z => by rw [z, hH] at e; cases e; exact nt _ rfl)]; exact e) fun _ _ _ n => n, fun b u q => ?_, by simp [wd.len], fun i c h => ?_, fun i j c d b e1 e2 q1 q2 => ?_⟩,
    ⟨Same.refl _, ⟨[], by simp⟩, fun b o q nl t => ?_, fun b ps q nl => ?_, fun b l => .inl (lv2 b l), fun b o q => .inl q, fun m zs h => ?_⟩⟩
  · have : b ≠ a := fun z => by rw [z, hg] at q; cases q
    rw [upd_ne this]; exact wd.sub _ _ q
  · rcases get h with ⟨rfl, rfl⟩ | ⟨hi, h⟩
    · exact ⟨a, h1, hn, hg⟩
    · obtain ⟨b, q1, q2, q3⟩ := wd.cell i c h
      have nb : b ≠ a := fun z => hi (wd.inj i n c _ a h hc (by rw [← z]; exact q1) h1)
      refine ⟨b, q1, ?_, q3⟩
      cases c with
      | lst xs => obtain ⟨us, z, r⟩ := q2; exact ⟨us, by rw [upd_ne nb]; exact z, r⟩
      | lkd xs => obtain ⟨us, z, r⟩ := q2; exact ⟨us, by rw [upd_ne nb]; exact z, r⟩
      | dct kvs => obtain ⟨us, z, r⟩ := q2; exact ⟨us, by rw [upd_ne nb]; exact z, r⟩
      | ins c fs =>
        obtain ⟨Ca, dx, gs, z1, z2, z3, r⟩ := q2
        have nd : dx ≠ a := fun z => by rw [z, hH] at z3; cases z3; exact no _ rfl
        exact ⟨Ca, dx, gs, z1, by rw [upd_ne nb]; exact z2, by rw [upd_ne nd]; exact z3, r⟩
  · have f1 : ∃ c', C[i]? = some (some c') := by
      rcases get e1 with ⟨rfl, rfl⟩ | ⟨_, h⟩
      · exact ⟨_, hc⟩
      · exact ⟨_, h⟩
    have f2 : ∃ c', C[j]? = some (some c') := by
      rcases get e2 with ⟨rfl, rfl⟩ | ⟨_, h⟩
      · exact ⟨_, hc⟩
      · exact ⟨_, h⟩
    obtain ⟨c', f1⟩ := f1
    obtain ⟨d', f2⟩ := f2
    exact wd.inj i j c' d' b f1 f2 q1 q2
  · have : b ≠ a := fun z => nl (z ▸ lv)
    rw [upd_ne this]; exact q
  · have : b ≠ a := fun z => nl (z ▸ lv)
    exact ⟨ps, by rw [upd_ne this]; exact q⟩
  · have hm : m ≠ n := fun z => by rw [z, hc] at h; cases h; exact nl _ rfl
    rw [List.getElem?_set_ne fun z => hm z.symm]; exact h
/-- a cell's object is let go: from now on it stays as it is -/
theorem Wd.thaw (wd : Wd K cA G am C H) {n : Nat} {a : Addr} {c0 : Cell} {o0 : HO} (h1 : am[n]? = some a) (hc : C[n]? = some (some c0)) (hH : H a = some o0) (nt : ∀ ps, o0 ≠ .tbl ps) (nl : ∀ xs, c0 ≠ .lkd xs) :
    Wd K cA (L2.upd G a o0) am (C.set n none) H ∧ Ext G am C H (L2.upd G a o0) am (C.set n none) H ∧ Same G (L2.upd G a o0) := by
  have hlt := (List.getElem?_eq_some_iff.mp hc).1
  have lv : Live am C a := ⟨n, _, hc, h1⟩
  have hg : G a = none := by
    obtain ⟨a', h2, _, h4⟩ := wd.cell n _ hc
    rw [h1] at h2; cases h2; exact h4
  have sg : Same G (L2.upd G a o0) := fun b u q => by rw [upd_ne (ne_of_none q hg)]; exact q
  have get : ∀ {i : Nat} {c : Cell}, (C.set n none)[i]? = some (some c) → i ≠ n ∧ C[i]? = some (some c) := fun {i c} h => by
    by_cases hi : i = n
    · subst hi; rw [List.getElem?_set_self hlt] at h; cases h
    · rw [List.getElem?_set_ne fun z => hi z.symm] at h; exact ⟨hi, h⟩
  refine ⟨⟨wd.tab_to sg (fun _ _ e => e) fun P ps e nn => by rw [upd_ne (fun z => by rw [z, hH] at e; cases e; exact nt _ rfl)]; exact nn, fun b u q => ?_, by simp [wd.len], fun i c h => ?_, fun i j c d b e1 e2 q1 q2 => wd.inj i j c d b (get e1).2 (get e2).2 q1 q2⟩,
    ⟨sg, ⟨[], by simp⟩, fun b o q _ _ => q, fun b ps q _ => ⟨ps, q⟩, fun b ⟨i, c, h, q⟩ => .inl ⟨i, c, (get h).2, q⟩, fun b o q => ?_, fun m zs h => ?_⟩, sg⟩
  · by_cases hb : b = a
    · subst hb; rw [upd_same] at q; cases q; exact hH
    · rw [upd_ne hb] at q; exact wd.sub _ _ q
  · obtain ⟨hi, h⟩ := get h
    obtain ⟨b, q1, q2, q3⟩ := wd.cell i c h
    have nb : b ≠ a := fun z => hi (wd.inj i n c _ a h hc (by rw [← z]; exact q1) h1)
    refine ⟨b, q1, ?_, by rw [upd_ne nb]; exact q3⟩
    cases c with
    | lst xs => obtain ⟨us, z, r⟩ := q2; exact ⟨us, z, r.mono sg⟩
    | lkd xs => obtain ⟨us, z, r⟩ := q2; exact ⟨us, z, r.mono sg⟩
    | dct kvs => obtain ⟨us, z, r⟩ := q2; exact ⟨us, z, r.mono sg⟩
    | ins c fs => obtain ⟨Ca, dx, gs, z1, z2, z3, r⟩ := q2; exact ⟨Ca, dx, gs, z1, z2, z3, r.mono sg ⟨[], by simp⟩⟩
  · by_cases hb : b = a
    · subst hb; exact .inr (.inr lv)
    · rw [upd_ne hb] at q; exact .inl q
  · have hm : m ≠ n := fun z => by rw [z, hc] at h; cases h; exact nl _ rfl
    rw [List.getElem?_set_ne fun z => hm z.symm]; exact h
/-! fields -/
theorem RelF.look : ∀ {fs : List (Nm × D)} {gs : List (Str × V)} {f : Nm} {d : D}, RelF K cA G fs gs → lookFD f fs = some d → ∃ v, gs.lookup (T f) = some v ∧ RelD K cA G d v
  | [], _, _, _, _, h => by simp [lookFD] at h
  | (g, x) :: r, gs, f, d, hr, h => by
    simp only [RelF] at hr
    obtain ⟨v, rest, rfl, h1, h2⟩ := hr
    rw [lookFD] at h
    by_cases e : g = f
    · subst e
      rw [if_pos rfl] at h; cases h
      exact ⟨v, by simp [List.lookup], h1⟩
    · rw [if_neg e] at h
      obtain ⟨u, h3, h4⟩ := RelF.look h2 h
      refine ⟨u, ?_, h4⟩
      have : (T f == T g) = false := by
        rw [beq_eq_false_iff_ne]
        exact fun z => e (T_inj z).symm
      simp only [List.lookup, this]; exact h3
theorem RelFE.look : ∀ {fs : List (Nm × E)} {gs : List (Str × V)} {f : Nm} {d : E}, RelFE K cA G am fs gs → lookF f fs = some d → ∃ v, gs.lookup (T f) = some v ∧ RelE K cA G am d v
  | [], _, _, _, _, h => by simp [lookF] at h
  | (g, x) :: r, gs, f, d, hr, h => by
    obtain ⟨v, rest, rfl, h1, h2⟩ := hr
    rw [lookF] at h
    by_cases e : g = f
    · subst e
      rw [if_pos rfl] at h; cases h
      exact ⟨v, by simp [List.lookup], h1⟩
    · rw [if_neg e] at h
      obtain ⟨u, h3, h4⟩ := RelFE.look h2 h
      refine ⟨u, ?_, h4⟩
      have : (T f == T g) = false := by
        rw [beq_eq_false_iff_ne]
        exact fun z => e (T_inj z).symm
      simp only [List.lookup, this]; exact h3
theorem RelFE.none_of : ∀ {fs : List (Nm × E)} {gs : List (Str × V)} {f : Nm}, RelFE K cA G am fs gs → lookF f fs = none → gs.lookup (T f) = none
  | [], _, _, hr, _ => by rw [show _ = [] from hr]; rfl
  | (g, x) :: r, gs, f, hr, h => by
    obtain ⟨v, rest, rfl, h1, h2⟩ := hr
    rw [lookF] at h
    by_cases e : g = f
    · subst e; rw [if_pos rfl] at h; cases h
    · rw [if_neg e] at h
      have : (T f == T g) = false := by
        rw [beq_eq_false_iff_ne]
        exact fun z => e (T_inj z).symm
      simp only [List.lookup, this]; exact RelFE.none_of h2 h
theorem RelF.none_of : ∀ {fs : List (Nm × D)} {gs : List (Str × V)} {f : Nm}, RelF K cA G fs gs → lookFD f fs = none → gs.lookup (T f) = none
  | [], _, _, hr, _ => by simp only [RelF] at hr; rw [hr]; rfl
  | (g, x) :: r, gs, f, hr, h => by
    simp only [RelF] at hr
    obtain ⟨v, rest, rfl, h1, h2⟩ := hr
    rw [lookFD] at h
    by_cases e : g = f
    · subst e; rw [if_pos rfl] at h; cases h
    · rw [if_neg e] at h
      have : (T f == T g) = false := by
        rw [beq_eq_false_iff_ne]
        exact fun z => e (T_inj z).symm
      simp only [List.lookup, this]; exact RelF.none_of h2 h
theorem RelFE.put {x : E} {v : V} (hx : RelE K cA G am x v) {f : Nm} : ∀ {fs : List (Nm × E)} {gs : List (Str × V)}, RelFE K cA G am fs gs → RelFE K cA G am (putF f x fs) (L2.putF (T f) v gs)
  | [], gs, hr => by rw [show gs = [] from hr]; exact ⟨v, [], rfl, hx, rfl⟩
  | (g, y) :: r, gs, hr => by
    obtain ⟨u, rest, rfl, h1, h2⟩ := hr
    rw [putF]
    show RelFE K cA G am _ (if T g = T f then _ else _)
    by_cases e : g = f
    · subst e
      rw [if_pos rfl, if_pos rfl]
      exact ⟨v, rest, rfl, hx, h2⟩
    · rw [if_neg e, if_neg fun z => e (T_inj z)]
      exact ⟨u, _, rfl, h1, RelFE.put hx h2⟩
theorem RelFE.val : ∀ {fs : List (Nm × E)} {gs : List (Str × V)} {ds : List (Nm × D)}, RelFE K cA G am fs gs → valF fs = some ds → RelF K cA G ds gs
  | [], gs, ds, hr, h => by simp [valF] at h; subst h; simp only [RelF]; exact hr
  | (g, .v d) :: r, gs, ds, hr, h => by
    obtain ⟨u, rest, rfl, h1, h2⟩ := hr
    rw [valF, Option.map_eq_some_iff] at h
    obtain ⟨ds', h3, rfl⟩ := h
    simp only [RelF]
    exact ⟨u, rest, rfl, h1, RelFE.val h2 h3⟩
  | (g, .r n) :: r, gs, ds, hr, h => by simp [valF] at h
  | (g, .clo n) :: r, gs, ds, hr, h => by simp [valF] at h
  | (g, .exn n _) :: r, gs, ds, hr, h => by simp [valF] at h
theorem RelFE.length : ∀ {fs : List (Nm × E)} {gs : List (Str × V)}, RelFE K cA G am fs gs → fs.length = gs.length
  | [], gs, hr => by rw [show gs = [] from hr]; rfl
  | (g, x) :: r, gs, hr => by
    obtain ⟨v, rest, rfl, h1, h2⟩ := hr
    simp [RelFE.length h2]
/-- an instance, as it lies -/
theorem cls_rel (wd : Wd K cA G am C H) {x : E} {v : V} {c : Nat} (r : RelE K cA G am x v) (h : clsE C x = some c) : ∃ a Ca dx gs, v = .ref a ∧ cA.cls c = some Ca ∧ H a = some (.ins Ca dx gs) ∧
    ∀ f : Nm, (∀ e, attrE C f x = some e → ∃ u, gs.lookup (T f) = some u ∧ RelE K cA G am e u) ∧ (attrE C f x = none → gs.lookup (T f) = none) := by
  cases x with
  | v d =>
    cases d <;> simp only [clsE] at h <;> first | (cases h; done) | skip
    rename_i c' fs
    cases h
    have r2 : RelD K cA G (.ins c fs) v := r
    simp only [RelD] at r2
    obtain ⟨a, Ca, dx, gs, rfl, h1, h2, h3⟩ := r2
    refine ⟨a, Ca, dx, gs, rfl, h1, wd.sub _ _ h2, fun f => ⟨fun e he => ?_, fun he => ?_⟩⟩
    · simp only [attrE, Option.map_eq_some_iff] at he
      obtain ⟨d, h4, rfl⟩ := he
      exact RelF.look h3 h4
    · simp only [attrE, Option.map_eq_none_iff] at he
      exact RelF.none_of h3 he
  | r n =>
    simp only [clsE] at h
    cases ec : cellAt C n with
    | none => simp only [ec] at h; cases h
    | some cl =>
      cases cl <;> simp only [ec] at h <;> first | (cases h; done) | skip
      rename_i c' fs
      cases h
      obtain ⟨a, rfl, h1, h2, ⟨Ca, dx, gs, z1, z2, z3, z4⟩, _⟩ := wd.at r ec
      refine ⟨a, Ca, dx, gs, rfl, z1, z2, fun f => ⟨fun e he => ?_, fun he => ?_⟩⟩
      · simp only [attrE, ec] at he
        exact RelFE.look z4 he
      · simp only [attrE, ec] at he
        exact RelFE.none_of z4 he
  | clo j => simp [clsE] at h
  | exn c fs => simp [clsE] at h
end
theorem fldOk_ok {pr : Prog} {c : Nat} {f : Nm} (h : fldOk pr c f = true) : ∃ cl, pr.cls[c]? = some cl ∧ cl.exn = false ∧ f ∈ cl.flds := by
  unfold fldOk at h
  split at h
  · rename_i cl hc
    simp only [Bool.and_eq_true, Bool.not_eq_true', List.contains_iff_mem] at h
    exact ⟨cl, hc, h.1, h.2⟩
  · cases h
section
variable {X : Cx} {cA : Cfg} {sx : Sx} {k : Nat} {W : WX} {pos p apos : Pos} {pr : Prog} {tb : Tab} {call : Nat → List E → Cells → Ev.R E} {a b : Expr} {fa fb : Env → Cells → Ev.R E}
/-- a.f -/
theorem r_attr (F : Facts X.prog X.w X.K X.mg X.base cA pr tb k call) (hao : attrX a = true) (ha : PE X a (tE X.K cA W fa)) (f : Nm) :
    PE X (.Attribute a (T f) pos) (tE X.K cA W fun env C => (fa env C).bind fun x C => Ev.R.of (attrP pr C f x) C) := by
  refine PE.imp (pe_fld ha (attr_base hao)) fun σ H Q h => ?_
  obtain ⟨env, G, am, C, re, wd, d⟩ := tE_one h
  refine ⟨env, G, am, C, re, wd, Dn.imp d fun vx H1 ⟨env1, G1, am1, C1, x, re1, w1, rx, d1⟩ => ?_⟩
  obtain ⟨e, he, d2⟩ := of_some d1
  unfold attrP at he
  simp only [Option.bind_eq_some_iff] at he
  obtain ⟨c, h1, h2⟩ := he
  split at h2
  · rename_i hf
    obtain ⟨cl, h3, h4, h5⟩ := fldOk_ok hf
    obtain ⟨ad, Ca, dx, gs, rfl, z1, z2, z3⟩ := cls_rel w1 rx h1
    obtain ⟨u, h6, h7⟩ := (z3 f).1 e h2
    obtain ⟨o1, o2⟩ := F.oc c cl Ca h3 h4 z1
    exact ⟨ad, Ca, dx, gs, u, rfl, z2, o1, o2 f h5, h6, d2.here w1 h7⟩
  · cases h2

theorem star_allF {pos : Pos} {env : PySem.Env} : ∀ {es : List Expr}, es.all plainX = true → (backTo pos (starEach es env)).all (fun x => !x.1) = true
  | [], _ => rfl
  | e :: es, h => by
    rw [List.all_cons, Bool.and_eq_true] at h
    rw [star_cons h.1]
    exact star_allF h.2
theorem meth_eval {o : Expr} {es : List Expr} {env : PySem.Env} {m : Str} (hb : attrX o = true) (hp : es.all plainX = true) (hn : es.length < 29) (hl : (apos.endLine == pos.line) = true) :
    eval (.Call (.Attribute o m apos) es [] pos) env = (do
      let ov ← eval o env
      standAt apos.atName
      let (f, first) ← holding [ov] (getMethod ov m (L2.plainOf o env))
      callWith pos f first (backTo pos (starEach es env)) (backToKw pos (keywordEach [] env))) := by
  rw [arm_eval_Call, attr_base hb]
  have hf : methodCallForm (es.length + ([] : List Keyword).length) (backTo pos (starEach es env)) (backToKw pos (keywordEach [] env)) = true := by
    unfold methodCallForm
    rw [star_allF hp]
    have : es.length + ([] : List Keyword).length + 0 < 30 := by simp only [List.length_nil]; omega
    simp only [Bool.true_and, keywordEach, backToKw, List.map_nil, List.all_nil, List.isEmpty_nil, if_true, decide_eq_true_eq]
    exact this
  congr 1
  funext ov
  congr 1
  funext _
  exact L2.mcall_line hf hl
/-- o.m(..) -/
theorem r_meth (g : Gd sx k W X) (F : Facts X.prog X.w X.K X.mg X.base cA pr tb k call) (hh : sx.hot = false) (hao : attrX a = true) {e : Expr} {es : List Expr} (hp : (e :: es).all plainX = true) (hn : (e :: es).length < 29) (hl : (apos.endLine == pos.line) = true)
    (ha : PE X a (tE X.K cA W fa)) {fs : Env → Cells → Ev.R (List E)} (hs : PA X (e :: es) (tEs X.K cA W fs)) (m : Nm) :
    PE X (.Call (.Attribute a (T m) apos) (e :: es) [] pos) (tE X.K cA W fun env C => (fa env C).bind fun x C => match methOf pr C m x with
      | none => .bad
      | some f => (fs env C).bind fun xs C => callAny call f (x :: xs) C) := by
  refine ⟨fun pins s σ H Q I h => ?_⟩
  obtain ⟨env, G, am, C, re, wd, d⟩ := tE_one h
  refine PySem.W.methodCall_KW (pl := L2.plainOf a X.env) (thn (ha.run pins s σ H _ I ⟨env, G, am, C, re, wd, d⟩) fun u s1 ⟨vx, H1, I1, rv, env1, G1, am1, C1, x, re1, w1, rx, d1⟩ => ?_) (meth_eval hao hp hn hl)
  cases hm : methOf pr C1 m x with
  | none => simp only [hm] at d1; exact d1.elim
  | some f =>
    simp only [hm] at d1
    unfold methOf at hm
    simp only [Option.bind_eq_some_iff] at hm
    obtain ⟨c, h1, h2⟩ := hm
    split at h2
    · cases h2
    · rename_i cl hcl
      split at h2
      · cases h2
      · rename_i hex
        split at h2
        · rename_i hat
          obtain ⟨ad, Ca, dx, gs, rfl, z1, z2, z3⟩ := cls_rel w1 rx h1
          obtain rfl : u = Value.ref ad := rv
          have hex' : cl.exn = false := by simpa using hex
          obtain ⟨o1, _⟩ := F.oc c cl Ca hcl hex' z1
          obtain ⟨fm, fd, ps, hM, hb, hF⟩ := F.me c cl Ca m f hcl hex' h2 z1
          refine getmeth_ok I1 z2 o1 hM ((z3 m).2 hat) ?_
          have fin : ∀ {vs : List V} {H2 : Hp} {G2 : Hp} {am2 : List Addr} {C2 : Cells} {xs : List E}, Ext G1 am1 C1 H1 G2 am2 C2 H2 → Wd X.K cA G2 am2 C2 H2 → RelEs X.K cA G2 am2 xs vs → Dn X.K cA (rE X.K cA) W σ (callAny call f (x :: xs) C2) G2 am2 C2 H2 Q → spF X.K cA call f (.ref ad :: vs) H2 Q (WE W σ) :=
            fun {vs H2 G2 am2 C2 xs} x2 w2 r2 d2 => any_sp w2 (show RelEs X.K cA G2 am2 (x :: xs) (.ref ad :: vs) from ⟨_, _, rfl, RelE.mono x2.g x2.a rx, r2⟩) d2
          have d1' := Dn.bind (Rl := rEs X.K cA) d1
          rw [List.all_cons, Bool.and_eq_true] at hp
          refine PySem.W.callWith_K (first := [.ref ad]) (h₀ := X.base) I1.ok.mod.kin hM.kp (thn (hs.run pos pins s1 σ H1 _ I1 ⟨env1, G1, am1, C1, re1, w1, d1'⟩) fun us s2 ⟨vs, H2, I2, r, q2⟩ => ⟨I2.kIn, ?_⟩) (star_cons hp.1) (star_any0 hp.2)
          obtain ⟨G2, am2, C2, xs, x2, w2, r2, d2⟩ := q2
          have hsp := fin x2 w2 r2 d2
          refine run_fnSD (us := .ref ad :: us) (vs := .ref ad :: vs) hF ((g.room hh).mono (Nat.le_succ _)) hb .nil (passAt g.tk σ) I2 (.cons rfl r) ?_
          rw [List.append_nil]; exact hsp
        · cases h2
/-- o.m() -/
theorem r_meth0 (g : Gd sx k W X) (F : Facts X.prog X.w X.K X.mg X.base cA pr tb k call) (hh : sx.hot = false) (hao : attrX a = true) (hl : (apos.endLine == pos.line) = true)
    (ha : PE X a (tE X.K cA W fa)) (m : Nm) :
    PE X (.Call (.Attribute a (T m) apos) [] [] pos) (tE X.K cA W fun env C => (fa env C).bind fun x C => match methOf pr C m x with
      | none => .bad
      | some f => callAny call f [x] C) := by
  refine ⟨fun pins s σ H Q I h => ?_⟩
  obtain ⟨env, G, am, C, re, wd, d⟩ := tE_one h
  refine PySem.W.methodCall_KW (pl := L2.plainOf a X.env) (thn (ha.run pins s σ H _ I ⟨env, G, am, C, re, wd, d⟩) fun u s1 ⟨vx, H1, I1, rv, env1, G1, am1, C1, x, re1, w1, rx, d1⟩ => ?_) (meth_eval hao rfl (by decide) hl)
  cases hm : methOf pr C1 m x with
  | none => simp only [hm] at d1; exact d1.elim
  | some f =>
    simp only [hm] at d1
    unfold methOf at hm
    simp only [Option.bind_eq_some_iff] at hm
    obtain ⟨c, h1, h2⟩ := hm
    split at h2
    · cases h2
    · rename_i cl hcl
      split at h2
      · cases h2
      · rename_i hex
        split at h2
        · rename_i hat
          obtain ⟨ad, Ca, dx, gs, rfl, z1, z2, z3⟩ := cls_rel w1 rx h1
          obtain rfl : u = Value.ref ad := rv
          have hex' : cl.exn = false := by simpa using hex
          obtain ⟨o1, _⟩ := F.oc c cl Ca hcl hex' z1
          obtain ⟨fm, fd, ps, hM, hb, hF⟩ := F.me c cl Ca m f hcl hex' h2 z1
          refine getmeth_ok I1 z2 o1 hM ((z3 m).2 hat) ?_
          refine PySem.W.callWith_K0 (first := [.ref ad]) I1.kIn hM.kp (run_fnSD (us := [.ref ad]) (vs := [.ref ad]) hF ((g.room hh).mono (Nat.le_succ _)) hb .nil (passAt g.tk σ) I1 (.cons rfl .nil) ?_)
          exact any_sp w1 (show RelEs X.K cA G1 am1 [x] [.ref ad] from ⟨_, _, rfl, rx, rfl⟩) d1
        · cases h2
/-! ### C(..) -/
theorem make_run {CX : CXT} {f : Addr} {fd : FuncData} {ps : List Str} {sp : Sp} {E : L2.St → XK} {Ca : Addr} {pins : List (Addr × Obj)} {σ : L2.St} {H : Hp} {s : Shared} {Q : VK} {us : List Value} {vs : List V} (M : Mk X.K Ca f) (F : FnOk X.prog X.w X.K X.mg X.base CX k f fd ps sp) (hr : Room (k + 1) X.A) (hb : Binds X.K fd ps [])
    (hx : PassesAt CX X σ (E σ)) (I : Inv X pins σ H s) (r : Vals vs us)
    (h : ∀ x dx, H x = none → H dx = none → dx ≠ x → sp (.ref x :: vs) (L2.upd (L2.upd H dx (.own x)) x (.ins Ca dx [])) (fun v H2 => v = .non ∧ Q (.ref x) H2) (E σ)) :
    wpAny (model X.prog X.w) X.A (PySem.call (.ref Ca) us) (EP X pins σ Q) X.xe s := by
  have h1 := h (s.heap.objs.size + 1) s.heap.objs.size (I.hok.fresh (Nat.le_succ _)) (I.hok.fresh (Nat.le_refl _)) (Nat.ne_of_lt (Nat.lt_succ_self _))
  have J := Inv.made (C := Ca) I
  have rr : Vals (V.ref (s.heap.objs.size + 1) :: vs) (Value.ref (s.heap.objs.size + 1) :: us) := .cons rfl r
  have hl : ((Value.ref (s.heap.objs.size + 1) :: us) ++ []).length = ps.length := by
    have e := rr.length
    rw [F.len _ _ _ _ h1] at e
    rw [List.append_nil]
    exact e.symm
  have bb := hb _ (Value.ref (s.heap.objs.size + 1) :: us) J.kIn hl
  rw [List.append_nil] at bb
  have main := F.run _ X.stack _ _ ⟨Value.ref (s.heap.objs.size + 1) :: us, []⟩ (Value.ref (s.heap.objs.size + 1) :: us) _ _ (E σ) (hr.make Ca us []) (J.env0.make Ca us []) bb rr h1
  refine wpAny_call (make_map (f := f) I.kIn M.makes M.init (beq_iff_eq.mp M.fn) (codeAny_mono main fun rs s' z => ?_))
  match rs, z with
  | .error e, z => exact hx pins _ _ e s' J z
  | .ok (.ret u), z =>
    obtain ⟨v, H', J3, rv, ev, q3⟩ := J.after z
    subst ev
    exact ⟨rv, ⟨V.ref (s.heap.objs.size + 1), H', J3, rfl, q3⟩⟩

theorem vals_eq : ∀ {xs : List E} {ds : List D}, vals xs = some ds → xs = ds.map .v
  | [], ds, h => by cases h; rfl
  | .v d :: r, ds, h => by
    rw [vals, Option.map_eq_some_iff] at h
    obtain ⟨ds', h1, rfl⟩ := h
    rw [vals_eq h1]; rfl
  | .r n :: r, ds, h => by cases h
  | .clo n :: r, ds, h => by cases h
  | .exn n _ :: r, ds, h => by cases h
theorem make_sp {c f : Nat} {cl : Cl} {Ca p dx : Addr} {xs : List E} {vs : List V} {G : Hp} {am : List Addr} {C : Cells} {H : Hp} {σ : L2.St} {Q : VK} (hcc : pr.cls[c]? = some cl) (hex : cl.exn = false) (hin : cl.init = some f) (hC : cA.cls c = some Ca)
    (wd : Wd X.K cA G am C H) (rx : RelEs X.K cA G am xs vs) (hp : H p = none) (hd : H dx = none) (ne : dx ≠ p) (d : Dn X.K cA (rE X.K cA) W σ (make pr call c xs C) G am C H Q) :
    spF X.K cA call f (.ref p :: vs) (L2.upd (L2.upd H dx (.own p)) p (.ins Ca dx [])) (fun v H2 => v = .non ∧ Q (.ref p) H2) (WE W σ) := by
  obtain ⟨w1, x1⟩ := wd.new hd (.own p)
  have hp1 : L2.upd H dx (.own p) p = none := by rw [upd_ne (fun z => ne z.symm)]; exact hp
  have hdx : L2.upd (L2.upd H dx (.own p)) p (.ins Ca dx []) dx = some (.own p) := by rw [upd_ne ne, upd_same]
  obtain ⟨w2, x2⟩ := w1.newC hp1 (o := .ins Ca dx []) (cl := .ins c []) ⟨Ca, dx, [], hC, upd_same, hdx, rfl⟩
  have iso : ∀ {ds : List D}, vals xs = some ds → Dn X.K cA (rE X.K cA) W σ (makeP call c f xs C) G am C H Q → spF X.K cA call f (.ref p :: vs) (L2.upd (L2.upd H dx (.own p)) p (.ins Ca dx [])) (fun v H2 => v = .non ∧ Q (.ref p) H2) (WE W σ) := fun {ds} hv d => by
    have sh : ∀ b o, H b = some o → L2.upd (L2.upd H dx (.own p)) p (.ins Ca dx []) b = some o := fun b o e => by
      rw [upd_ne (ne_of_none e hp), upd_ne (ne_of_none e hd)]; exact e
    have gw : ∀ b o, L2.upd G dx (.own p) b = some o → G b = some o ∨ H b = none := fun b o e => by
      by_cases hb : b = dx
      · subst hb; exact .inr hd
      · rw [upd_ne hb] at e; exact .inl e
    have gp : L2.upd G dx (.own p) p = none := by rw [upd_ne (fun z => ne z.symm)]; exact wd.free hp
    have w0 : Wd X.K cA (L2.upd G dx (.own p)) [p] [some (.ins c [])] (L2.upd (L2.upd H dx (.own p)) p (.ins Ca dx [])) := by
      refine ⟨w2.tabs, w2.sub, rfl, fun i cc e => ?_, fun i j cc dd a e1 e2 q1 q2 => ?_⟩
      · cases i with
        | zero => simp at e; subst e; exact ⟨p, rfl, ⟨Ca, dx, [], hC, upd_same, hdx, rfl⟩, gp⟩
        | succ i => simp at e
      · cases i with
        | zero => cases j with
          | zero => rfl
          | succ j => simp at e2
        | succ i => simp at e1
    have nl : ∀ b, Live [p] [some (Cell.ins c [])] b → H b = none := fun b ⟨i, cc, e, q⟩ => by
      cases i with
      | zero => simp at q; subst q; exact hp
      | succ i => simp at e
    have rr : RelEs X.K cA (L2.upd G dx (.own p)) [p] (.r 0 :: xs) (.ref p :: vs) := by
      refine ⟨_, _, rfl, ⟨p, rfl, rfl⟩, ?_⟩
      have h1 := RelDs.mono x1.g (vals_rel rx hv)
      have h2 := vals_eq hv
      rw [h2]; exact RelEs.ofD h1
    refine ⟨_, _, _, _, w0, rr, ?_⟩
    unfold makeP at d
    cases er : call f (.r 0 :: xs) [some (.ins c [])] with
    | bad => rw [er] at d; exact d.elim
    | exc k fs C' =>
      rw [er] at d
      intro G' am' H' cls dd x w r
      obtain ⟨w5, x5⟩ := iso_up wd sh x1.g gw nl x w
      exact d G' am H' cls dd x5 w5 r
    | ok e C' =>
      rw [er] at d
      intro G' am' H' v x w r
      cases e with
      | v dv =>
        cases dv <;> simp only at d <;> first | exact d.elim | skip
        have r' : RelD X.K cA G' .non v := r
        simp only [RelD] at r'
        refine ⟨r', ?_⟩
        cases ec : cellAt C' 0 with
        | none => simp only [ec] at d; exact d.elim
        | some cc =>
          cases cc <;> simp only [ec] at d <;> first | exact d.elim | skip
          rename_i c' fs
          cases ev : valF fs with
          | none => simp only [ev] at d; exact d.elim
          | some ds' =>
            simp only [ev] at d
            have hp0 : am'[0]? = some p := by
              obtain ⟨tt, ht⟩ := x.a
              rw [ht]; rfl
            obtain ⟨a, e1, h3, h4, ⟨Cb, dy, gs, z1, z2, z3, z4⟩, h7⟩ := w.at (show RelE X.K cA G' am' (.r 0) (.ref p) from ⟨p, hp0, rfl⟩) ec
            cases e1
            obtain ⟨w4, x4, sg⟩ := w.thaw h3 h4 z2 (by intro ps z; cases z) (by intro xs z; cases z)
            obtain ⟨w5, x5⟩ := iso_up wd sh x1.g gw nl (x.trans x4) w4
            refine d _ am H' (.ref p) x5 w5 ?_
            simp only [rE, RelE, RelD]
            exact ⟨p, Cb, dy, gs, rfl, z1, upd_same, RelF.mono sg (RelFE.val z4 ev)⟩
      | _ => exact d.elim
  have xx := x1.trans x2
  have d' := d.shift xx
  unfold make at d'
  simp only [hcc, hex, Bool.false_eq_true, if_false, hin] at d'
  by_cases hval : (cl.val && (vals xs).isSome) = true
  · rw [Bool.and_eq_true, Option.isSome_iff_exists] at hval
    obtain ⟨hv1, ds, hv2⟩ := hval
    unfold make at d
    simp only [hcc, hex, Bool.false_eq_true, if_false, hin, hv1, hv2, Option.isSome_some, Bool.and_self, if_true] at d
    exact iso hv2 d
  rw [if_neg hval] at d'
  have hn : (am ++ [p])[C.length]? = some p := by rw [List.getElem?_append_right (by rw [wd.len]; exact Nat.le_refl _), wd.len]; simp
  have rr : RelEs X.K cA (L2.upd G dx (.own p)) (am ++ [p]) (.r C.length :: xs) (.ref p :: vs) := ⟨_, _, rfl, ⟨p, hn, rfl⟩, RelEs.mono xx.g xx.a rx⟩
  refine call_sp w2 rr (Dn.imp (Dn.bind (Rl := rE X.K cA) d') fun v H2 ⟨G3, am3, C3, e, x3, w3, r3, d3⟩ => ?_)
  have hn3 : am3[C.length]? = some p := by
    obtain ⟨t, ht⟩ := x3.a
    rw [ht, List.getElem?_append_left (List.getElem?_eq_some_iff.mp hn).1]; exact hn
  cases e with
  | v dv =>
    cases dv <;> simp only at d3 <;> first | exact d3.elim | skip
    have r3' : RelD X.K cA G3 .non v := r3
    simp only [RelD] at r3'
    refine ⟨r3', ?_⟩
    split at d3
    · cases ec : cellAt C3 C.length with
      | none => simp only [ec] at d3; exact d3.elim
      | some cc =>
        cases cc <;> simp only [ec] at d3 <;> first | exact d3.elim | skip
        rename_i c' fs
        cases ev : valF fs with
        | none => simp only [ev] at d3; exact d3.elim
        | some ds =>
          simp only [ev] at d3
          obtain ⟨a, e1, h3, h4, ⟨Cb, dy, gs, z1, z2, z3, z4⟩, h7⟩ := w3.at (show RelE X.K cA G3 am3 (.r C.length) (.ref p) from ⟨p, hn3, rfl⟩) ec
          cases e1
          obtain ⟨w4, x4, sg⟩ := w3.thaw h3 h4 z2 (by intro ps z; cases z) (by intro xs z; cases z)
          refine d3 _ am3 H2 (.ref p) x4 w4 ?_
          simp only [rE, RelE, RelD]
          exact ⟨p, Cb, dy, gs, rfl, z1, upd_same, RelF.mono sg (RelFE.val z4 ev)⟩
    · exact d3 G3 am3 H2 (.ref p) (Ext.refl) w3 ⟨p, hn3, rfl⟩
  | _ => exact d3.elim
theorem r_new (g : Gd sx k W X) (F : Facts X.prog X.w X.K X.mg X.base cA pr tb k call) {c f : Nat} {nm : Nm} {x : Str} {cl : Cl} (hcl : tb.cl[c]? = some nm) (hne : nm ≠ []) (hx : T nm = x) (hgl : glB sx.sc x = true) (hh : sx.hot = false) (hcc : pr.cls[c]? = some cl) (hex : cl.exn = false) (hin : cl.init = some f)
    {e : Expr} {es : List Expr} (hp : (e :: es).all plainX = true) {fs : Env → Cells → Ev.R (List E)} (hs : PA X (e :: es) (tEs X.K cA W fs)) :
    PE X (.Call (.Name x p) (e :: es) [] pos) (tE X.K cA W fun env C => (fs env C).bind fun xs C => make pr call c xs C) := by
  obtain ⟨Ca, hC, hm⟩ := F.cn c nm hcl hne
  subst hx
  obtain ⟨g1, g2, g3⟩ := g.gl hgl
  obtain ⟨fI, fd, ps, M, hb, hF⟩ := F.mak c cl Ca f hcc hex hin hC
  rw [List.all_cons, Bool.and_eq_true] at hp
  refine ⟨fun pins s σ H Q I h => ?_⟩
  obtain ⟨env, G, am, C, re, wd, d⟩ := tEs_one h
  refine wpAny_Call_Name_kw (ld_glob I g1 hm ?_ g2)
  refine PySem.W.callWith_K (h₀ := X.base) I.ok.mod.kin M.kp (thn (hs.run pos pins s σ H _ I ⟨env, G, am, C, re, wd, d⟩) fun us s1 ⟨vs, H1, I1, r, q⟩ => ⟨I1.kIn, ?_⟩) (star_cons hp.1) (star_any0 hp.2)
  obtain ⟨env1, G1, am1, C1, xs, re1, w1, rx, d1⟩ := q
  exact make_run M hF (g.room hh) hb (passAt g.tk σ) I1 r fun p dx h1 h2 h3 => make_sp hcc hex hin hC w1 rx h1 h2 h3 d1
theorem r_new0 (g : Gd sx k W X) (F : Facts X.prog X.w X.K X.mg X.base cA pr tb k call) {c f : Nat} {nm : Nm} {x : Str} {cl : Cl} (hcl : tb.cl[c]? = some nm) (hne : nm ≠ []) (hx : T nm = x) (hgl : glB sx.sc x = true) (hh : sx.hot = false) (hcc : pr.cls[c]? = some cl) (hex : cl.exn = false) (hin : cl.init = some f) :
    PE X (.Call (.Name x p) [] [] pos) (tE X.K cA W fun env C => make pr call c [] C) := by
  obtain ⟨Ca, hC, hm⟩ := F.cn c nm hcl hne
  subst hx
  obtain ⟨g1, g2, g3⟩ := g.gl hgl
  obtain ⟨fI, fd, ps, M, hb, hF⟩ := F.mak c cl Ca f hcc hex hin hC
  refine ⟨fun pins s σ H Q I ⟨env, G, am, C, re, wd, d⟩ => ?_⟩
  refine wpAny_Call_Name_kw (ld_glob I g1 hm ?_ g2)
  exact PySem.W.callWith_K0 I.kIn M.kp (make_run (us := []) (vs := []) M hF (g.room hh) hb (passAt g.tk σ) I .nil fun p dx h1 h2 h3 => make_sp (xs := []) (vs := []) hcc hex hin hC wd rfl h1 h2 h3 d)

/-- a.f = e -/
theorem s_setA (F : Facts X.prog X.w X.K X.mg X.base cA pr tb k call) {e : Expr} {fo fe : Env → Cells → Ev.R E} {tp : Pos} (hn : noComp e = true) (ho : PE X a (tE X.K cA W fo)) (he : PE X e (tE X.K cA W fe)) (f : Nm) :
    PS X (.Assign [.Attribute a (T f) tp] e pos) (tS X.K cA W fun env C => (fe env C).st env fun z C => (fo env C).st env fun x C => match x with
    | .r n => match cellAt C n with
      | some (.ins c fs) => if fldOk pr c f && fs.length < 100 then .next env (C.set n (some (.ins c (putF f z fs)))) else .bad
      | _ => .bad
    | _ => .bad) := by
  refine PS.imp (ps_fld ho he (sw_plain hn)) fun D σ H ⟨env, G, am, C, re, wd, d⟩ => ?_
  refine ⟨env, G, am, C, re, wd, Dn.imp (DnS.st (Rl := rE X.K cA) re d) fun vz H1 ⟨G1, am1, C1, z, x1, w1, rz, re1, d1⟩ => ?_⟩
  refine ⟨env, G1, am1, C1, re1, w1, Dn.imp (DnS.st (Rl := rE X.K cA) re1 d1) fun vo H2 ⟨G2, am2, C2, x, x2, w2, rx, re2, d2⟩ => ?_⟩
  cases x with
  | r n =>
    simp only at d2
    cases ec : cellAt C2 n with
    | none => simp only [ec] at d2; exact d2.elim
    | some cl =>
      cases cl <;> simp only [ec] at d2 <;> first | exact d2.elim | skip
      rename_i c fs
      split at d2
      · rename_i hf
        rw [Bool.and_eq_true, decide_eq_true_eq] at hf
        obtain ⟨cl, h3, h4, h5⟩ := fldOk_ok hf.1
        obtain ⟨ad, rfl, g1, g2, ⟨Ca, dx, gs, z1, z2, z3, z4⟩, g4⟩ := w2.at rx ec
        obtain ⟨o1, o2⟩ := F.oc c cl Ca h3 h4 z1
        have rz2 : RelE X.K cA G2 am2 z vz := RelE.mono x2.g x2.a rz
        have nd : dx ≠ ad := fun q => by rw [q, z2] at z3; cases z3
        obtain ⟨w4, x4⟩ := w2.putG (o1 := .ins Ca dx (L2.putF (T f) vz gs)) (c1 := .ins c (putF f z fs)) g1 g2 z2 (by intro ps q; cases q) (by intro b q; cases q) (by intro xs q; cases q) ⟨Ca, dx, _, z1, upd_same, by rw [upd_ne nd]; exact z3, RelFE.put rz2 z4⟩
        exact ⟨ad, Ca, dx, gs, rfl, z2, o1, o2 f h5, by have := z4.length; omega, d2 G2 am2 _ σ x4 w4 (re2.mono x4)⟩
      · exact d2.elim
  | _ => exact d2.elim
/-- a.f op= e -/
theorem s_augA (F : Facts X.prog X.w X.K X.mg X.base cA pr tb k call) (op : Bop) {e : Expr} {fo fe : Env → Cells → Ev.R E} {tp : Pos} (ho : PE X a (tE X.K cA W fo)) (he : PE X e (tE X.K cA W fe)) (f : Nm) :
    PS X (.AugAssign (.Attribute a (T f) tp) (bopO op) e pos) (tS X.K cA W fun env C => (fo env C).st env fun x C => match x with
    | .r n => match cellAt C n with
      | some (.ins c0 fs) => match (if fldOk pr c0 f then lookF f fs else none) with
        | some (.v old) => (fe env C).st env fun z C => match z, cellAt C n with
          | .v z, some (.ins c fs) => match augV op old z with
            | some w => if c = c0 && fs.length < 100 then .next env (C.set n (some (.ins c (putF f (.v w) fs)))) else .bad
            | none => .bad
          | _, _ => .bad
        | _ => .bad
      | _ => .bad
    | _ => .bad) := by
  have hop : InOp X (bopO op) (fun x y H Q => ∃ dx dy z, RelD X.K cA (fun _ => none) dx x ∧ RelD X.K cA (fun _ => none) dy y ∧ augV op dx dy = some z ∧ ∀ v, RelD X.K cA (fun _ => none) z v → Q v H) := fun pins s σ H x y v u Q I rx ry q => op_augD (cA := cA) op pins s σ H x y v u Q I rx ry q
  refine PS.imp (ps_fldaug ho he hop) fun D σ H ⟨env, G, am, C, re, wd, d⟩ => ?_
  refine ⟨env, G, am, C, re, wd, Dn.imp (DnS.st (Rl := rE X.K cA) re d) fun vo H1 ⟨G1, am1, C1, x, x1, w1, rx, re1, d1⟩ => ?_⟩
  cases x with
  | r n =>
    simp only at d1
    cases ec : cellAt C1 n with
    | none => simp only [ec] at d1; exact d1.elim
    | some cl =>
      cases cl <;> simp only [ec] at d1 <;> first | exact d1.elim | skip
      rename_i c0 fs
      by_cases hf : fldOk pr c0 f = true
      · rw [if_pos hf] at d1
        cases el : lookF f fs with
        | none => simp only [el] at d1; exact d1.elim
        | some e0 =>
          cases e0 <;> simp only [el] at d1 <;> first | exact d1.elim | skip
          rename_i old
          obtain ⟨cl, h3, h4, h5⟩ := fldOk_ok hf
          obtain ⟨ad, rfl, g1, g2, ⟨Ca, dx, gs, z1, z2, z3, z4⟩, g4⟩ := w1.at rx ec
          obtain ⟨o1, o2⟩ := F.oc c0 cl Ca h3 h4 z1
          obtain ⟨vold, hv1, hv2⟩ := RelFE.look z4 el
          refine ⟨ad, Ca, dx, gs, vold, rfl, z2, o1, o2 f h5, hv1, env, G1, am1, C1, re1, w1, Dn.imp (DnS.st (Rl := rE X.K cA) re1 d1) fun vz H3 ⟨G3, am3, C3, z, x3, w3, rz, re3, d3⟩ => ?_⟩
          cases z with
          | v dz =>
            cases ec3 : cellAt C3 n with
            | none => simp only [ec3] at d3; exact d3.elim
            | some cl3 =>
              cases cl3 <;> simp only [ec3] at d3 <;> first | exact d3.elim | skip
              rename_i c3 fs3
              cases ew : augV op old dz with
              | none => simp only [ew] at d3; exact d3.elim
              | some wv =>
                simp only [ew] at d3
                split at d3
                · rename_i hc
                  rw [Bool.and_eq_true, decide_eq_true_eq, decide_eq_true_eq] at hc
                  obtain ⟨hc1, hc2⟩ := hc
                  subst hc1
                  obtain ⟨f1, f2, f3⟩ := aug_flat ew
                  have rx3 : RelE X.K cA G3 am3 (.r n) (.ref ad) := RelE.mono x3.g x3.a rx
                  obtain ⟨ad', q0, q1, q2, ⟨Cb, dy, gs3, y1, y2, y3, y4⟩, q4⟩ := w3.at rx3 ec3
                  cases q0
                  rw [z1] at y1; cases y1
                  refine ⟨old, dz, wv, flat_any f1 hv2, flat_any (G := G3) f2 rz, ew, fun v2 rv2 => ?_⟩
                  have nd : dy ≠ ad := fun q => by rw [q, y2] at y3; cases y3
                  have rv3 : RelE X.K cA G3 am3 (.v wv) v2 := flat_any f3 rv2
                  obtain ⟨w4, x4⟩ := w3.putG (o1 := .ins Ca dy (L2.putF (T f) v2 gs3)) (c1 := .ins c3 (putF f (.v wv) fs3)) q1 q2 y2 (by intro ps q; cases q) (by intro b q; cases q) (by intro xs q; cases q) ⟨Ca, dy, _, z1, upd_same, by rw [upd_ne nd]; exact y3, RelFE.put rv3 y4⟩
                  exact ⟨dy, gs3, y2, by have := y4.length; omega, d3 G3 am3 _ σ x4 w4 (re3.mono x4)⟩
                · exact d3.elim
          | _ => exact d3.elim
      · rw [if_neg hf] at d1; exact d1.elim
  | _ => exact d1.elim

/-- isinstance(a, C) of an own class -/
theorem r_isc (g : Gd sx k W X) (F : Facts X.prog X.w X.K X.mg X.base cA pr tb k call) {x y : Str} {p q : Pos} (hx : ("isinstance" : Str) = x) (hg : glB sx.sc x = true) {c : Nat} {cl : Cl} {nm : Nm} (hcl : tb.cl[c]? = some nm) (hne : nm ≠ []) (hy : T nm = y) (hgy : glB sx.sc y = true) (hcc : pr.cls[c]? = some cl) (hex : cl.exn = false)
    (hp : plainX a = true) (ha : PE X a (tE X.K cA W fa)) : PE X (.Call (.Name x p) [a, .Name y q] [] pos) (tE X.K cA W fun env C => (fa env C).bind fun x C => Ev.R.of ((iscE pr C x c).map fun b => .v (.bl b)) C) := by
  obtain ⟨g1, g2, g3⟩ := g.gl hg
  obtain ⟨g4, g5, g6⟩ := g.gl hgy
  subst hx
  subst hy
  obtain ⟨Ca, hC, hm⟩ := F.cn c nm hcl hne
  refine PE.imp (pe_callB call_isi g1 F.isi PyProof.Rows.boot_isinstance (pa_cons ha (pa_cons (pe_glob (v := .ref Ca) g4 hm rfl g5) pa_nil (star_cons rfl)) (star_cons hp)) g3 g2 (star_cons hp) rfl) fun σ H Q h => ?_
  obtain ⟨env, G, am, C, re, wd, d⟩ := tE_one h
  refine ⟨env, G, am, C, re, wd, Dn.imp d fun vx H1 ⟨env1, G1, am1, C1, x, re1, w1, rx, d1⟩ => ?_⟩
  obtain ⟨e, he, d1⟩ := of_some d1
  rw [Option.map_eq_some_iff] at he
  obtain ⟨bb, he, rfl⟩ := he
  have fin := d1.here w1 (v := .bl bb) (by simp only [rE, RelE, RelD])
  obtain ⟨_, _, _, _, k5⟩ := F.ki c cl Ca hcc hex hC
  unfold iscE at he
  split at he
  · rename_i c' hc'
    split at he
    · rename_i cl' hcl'
      split at he
      · cases he
      · rename_i hex'
        cases he
        have hex2 : cl'.exn = false := by simpa using hex'
        obtain ⟨ad, Cb, dx, gs, rfl, z1, z2, _⟩ := cls_rel w1 rx hc'
        obtain ⟨o1, _⟩ := F.oc c' cl' Cb hcl' hex2 z1
        obtain ⟨k1, k2, k3, k4, _⟩ := F.ki c' cl' Cb hcl' hex2 z1
        exact ⟨.ref ad, .ref Ca, .ref Cb, .ref Ca, _, rfl, .own Ca, .base (.ins z2 o1 k1 k2 k3 k4), F.kk c c' cl cl' Ca Cb hcc hex hC hcl' hex2 z1, fin⟩
    · cases he
  · split at he
    · rename_i dd hs
      split at he
      · rename_i hd
        cases he
        refine ⟨vx, .ref Ca, .type (dTy dd), .ref Ca, false, rfl, .own Ca, tyX_of w1.sub hd (see_rel w1 rx hs), k5 _ ?_, fin⟩
        cases dd <;> first | (simp [dOk] at hd; done) | simp [dTy]
      · cases he
    · cases he
end
end Ev

end

section
set_option maxRecDepth 512
set_option Elab.async false
set_option linter.all false
set_option maxRecDepth 100000
set_option maxHeartbeats 4000000
namespace Ev
open PySem L2 PySem.Spec PyProof.Rows
section
variable {X : Cx} {cA : Cfg} {sx : Sx} {k : Nat} {W : WX} {pos p : Pos} {a b c : Expr} {fa fb fc : Env → Cells → Ev.R E}
/-- -a -/
theorem r_neg (ha : PE X a (tE X.K cA W fa)) : PE X (.UnaryOp .USub a pos) (tE X.K cA W fun env C => (fa env C).bind fun x C => Ev.R.of (((see C x).bind negV).map .v) C) := by
  refine PE.imp (pe_un un_neg ha) fun σ H Q h => ?_
  obtain ⟨env, G, am, C, re, wd, d⟩ := tE_one h
  refine ⟨env, G, am, C, re, wd, Dn.imp d fun vx H1 ⟨env1, G1, am1, C1, x, re1, w1, rx, d1⟩ => ?_⟩
  obtain ⟨e, he, d1⟩ := of_some d1
  simp only [Option.map_eq_some_iff, Option.bind_eq_some_iff] at he
  obtain ⟨z, ⟨dx, h1, h2⟩, rfl⟩ := he
  have rs := see_rel w1 rx h1
  cases dx <;> simp only [negV] at h2 <;> first | (cases h2; done) | skip
  cases h2
  simp only [RelS, RelD] at rs
  exact ⟨_, rs, d1.here w1 (by simp only [rE, RelE, RelD])⟩
/-- a o b o' c -/
theorem r_chain (g : Gd sx k W X) (o o' : Cop) (ha : PE X a (tE X.K cA W fa)) (hb : PE X b (tE X.K cA W fb)) (hc : PE X c (tE X.K cA W fc)) (hm : lastMarks [copO o, copO o'] [b, c] = false) :
    PE X (.Compare a [copO o, copO o'] [b, c] pos) (tE X.K cA W fun env C => (fa env C).bind fun x C => (fb env C).bind fun y C =>
      match (see C x).bind fun x => (see C y).bind fun y => copV o x y with
      | none => .bad
      | some false => .ok (.v (.bl false)) C
      | some true => (fc env C).bind fun z C => Ev.R.of ((see C y).bind fun y => (see C z).bind fun z => (copV o' y z).map fun b => .v (.bl b)) C) := by
  refine PE.imp (pe_chain (op_cop (cA := cA) o g.un) (op_cop (cA := cA) o' g.un) ha hb hc hm) fun σ H Q h => ?_
  obtain ⟨env, G, am, C, re, wd, d⟩ := tE_one h
  refine ⟨env, G, am, C, re, wd, Dn.imp d fun vx H1 ⟨env1, G1, am1, C1, x, re1, w1, rx, d1⟩ => ?_⟩
  refine ⟨env1, G1, am1, C1, re1, w1, Dn.imp (Dn.bind (Rl := rE X.K cA) d1) fun vy H2 ⟨G2, am2, C2, y, x2, w2, ry, d2⟩ => ?_⟩
  cases e : (see C2 x).bind fun x => (see C2 y).bind fun y => copV o x y with
  | none => simp only [e] at d2; exact d2.elim
  | some q =>
    have e' := e
    simp only [Option.bind_eq_some_iff] at e'
    obtain ⟨dx, hx, dy, hy, hz⟩ := e'
    refine ⟨G2, am2, C2, dx, dy, q, w2, see_rel w2 (RelE.mono x2.g x2.a rx) hx, see_rel w2 ry hy, hz, q, rfl, ?_⟩
    cases q with
    | false =>
      simp only [e] at d2
      exact d2.here w2 (by simp only [rE, RelE, RelD])
    | true =>
      simp only [e] at d2
      refine ⟨env1, G2, am2, C2, re1.mono x2, w2, Dn.imp (Dn.bind (Rl := rE X.K cA) d2) fun vz H4 ⟨G4, am4, C4, z, x4, w4, rz, d4⟩ => ?_⟩
      obtain ⟨e4, he4, d4⟩ := of_some d4
      simp only [Option.bind_eq_some_iff, Option.map_eq_some_iff] at he4
      obtain ⟨dy4, hy4, dz, hz4, b4, hb4, rfl⟩ := he4
      exact ⟨G4, am4, C4, dy4, dz, b4, w4, see_rel w4 (RelE.mono x4.g x4.a ry) hy4, see_rel w4 rz hz4, hb4, d4.here w4 (by simp only [rE, RelE, RelD])⟩
theorem RelDs.rev {K : PySem.W.Frag} {G : Hp} : ∀ {ds : List D} {us : List V}, RelDs K cA G ds us → RelDs K cA G ds.reverse us.reverse
  | [], us, h => by simp only [RelDs] at h; subst h; simp only [List.reverse_nil, RelDs]
  | d :: ds, us, h => by
    simp only [RelDs] at h
    obtain ⟨u, r, rfl, h1, h2⟩ := h
    rw [List.reverse_cons, List.reverse_cons]
    exact (RelDs.rev h2).append (RelDs.one h1)
theorem walk_zipT {K : PySem.W.Frag} {ad bd : Addr} {xs ys : List V} {n : Nat} (hn : n = min xs.length ys.length) : Walk (RZ.ItzT K ad bd) n (fun H => SqT K H ad xs ∧ SqT K H bd ys) (YPair (fun i => xs[i]?) (fun i => ys[i]?)) := by
  subst hn
  constructor
  · intro i H hi q
    have l1 : i < xs.length := by omega
    have l2 : i < ys.length := by omega
    exact ⟨xs, ys, xs[i], ys[i], q.1, q.2, List.getElem?_eq_getElem l1, List.getElem?_eq_getElem l2⟩
  · intro H q
    exact ⟨xs, ys, q.1, q.2, by omega⟩
  · rintro i H v H' _ q ⟨T', x, z, e1, e2, e3, e4, e5⟩
    exact ⟨T', x, z, e1, e2, e3, e4 xs q.1, e5 ys q.2⟩
theorem zipD_get : ∀ {xs ys : List D} {i : Nat} {x y : D}, xs[i]? = some x → ys[i]? = some y → (zipD xs ys)[i]? = some (.tup [x, y])
  | [], _, _, _, _, h, _ => by simp at h
  | _ :: _, [], _, _, _, _, h => by simp at h
  | x :: xs, y :: ys, 0, _, _, h1, h2 => by simp at h1 h2; subst h1 h2; simp [zipD]
  | x :: xs, y :: ys, i + 1, _, _, h1, h2 => by simpa [zipD] using zipD_get (xs := xs) (ys := ys) (i := i) (by simpa using h1) (by simpa using h2)
theorem zipD_len : ∀ (xs ys : List D), (zipD xs ys).length = min xs.length ys.length
  | [], ys => by simp [zipD]
  | x :: xs, [] => by simp [zipD]
  | x :: xs, y :: ys => by simp [zipD, zipD_len xs ys]
/-- zip of two lists, of two tuples -/
theorem r_zip {P : Program} {w : World} {base : Heap} {pr : Prog} {tb : Tab} {j : Nat} {call : Nat → List E → Cells → Ev.R E} (g : Gd sx k W X) (F : Facts P w X.K X.mg base cA pr tb j call) {tes : List Expr} {tn : Nat} {tp : Pos} {x : Str} (hx : ("zip" : Str) = x) (hg : glB sx.sc x = true) (hp : plainX a = true) (hpb : plainX b = true)
    (ha : PE X a (tE X.K cA W fa)) (hb : PE X b (tE X.K cA W fb)) : PI X (.Tuple tes tn tp) (.Call (.Name x p) [a, b] [] pos) (tI X.K cA W fun env C => (fa env C).bind fun x C => (fb env C).bind fun y C => match x, y with
    | .v x, .v y => match zipV x y with
      | some ds => .ok (ds, .v .non) C
      | none => .bad
    | _, _ => .bad) := by
  obtain ⟨g1, g2, g3⟩ := g.gl hg
  subst hx
  refine PI.imp (RZ.pi_zipA g1 F.zip (pa_cons ha (pa_cons hb pa_nil (star_cons hpb)) (star_cons hp)) (by rw [star_cons hp, star_cons hpb] <;> rfl) (by rw [star_cons hpb] <;> rfl)) fun σ H R ⟨env, G, am, C, re, wd, d⟩ => ?_
  refine ⟨env, G, am, C, re, wd, Dn.imp (DnI.bind (Rl := rE X.K cA) d) fun vx H1 ⟨G1, am1, C1, x, x1, w1, rl, d1⟩ => ?_⟩
  refine ⟨env, G1, am1, C1, re.mono x1, w1, Dn.imp (DnI.bind (Rl := rE X.K cA) d1) fun vy H2 ⟨G2, am2, C2, y, x2, w2, rl2, d2⟩ => ?_⟩
  have pairs : ∀ {us vs : List V} {xs ys : List D} {G3 : Hp} {am3 : List Addr} {C3 : Cells} {H3 : Hp}, Wd X.K cA G3 am3 C3 H3 → RelDs X.K cA G3 xs us → RelDs X.K cA G3 ys vs → ∀ i y H4, YPair (fun i => us[i]?) (fun i => vs[i]?) i H3 y H4 → ∃ d G', (zipD xs ys)[i]? = some d ∧ Ext G3 am3 C3 H3 G' am3 C3 H4 ∧ Wd X.K cA G' am3 C3 H4 ∧ RelD X.K cA G' d y :=
    fun {us vs xs ys G3 am3 C3 H3} w3 r1 r2 i y H4 ⟨TT, z1, z2, e1, hn, e2, q1, q2⟩ => by
      subst e1 e2
      obtain ⟨d1, h1, h2⟩ := r1.back q1
      obtain ⟨d2, h3, h4⟩ := r2.back q2
      obtain ⟨w4, x4⟩ := w3.new hn (.tup [z1, z2])
      refine ⟨_, _, zipD_get h1 h3, x4, w4, ?_⟩
      simp only [RelD, RelDs]
      exact ⟨TT, _, rfl, SqT.of upd_same, _, _, rfl, h2.mono x4.g, _, _, rfl, h4.mono x4.g, rfl⟩
  cases x with
  | v dx =>
    cases y with
    | v dy =>
      simp only at d2
      have rx : RelD X.K cA G2 dx vx := RelD.mono x2.g rl
      have ry : RelD X.K cA G2 dy vy := rl2
      cases dx <;> cases dy <;> simp only [zipV] at d2 <;> first | exact d2.elim | skip
      · simp only [RelD] at rx ry
        obtain ⟨pa, us, rfl, h1, h2⟩ := rx
        obtain ⟨pb, vs, rfl, h3, h4⟩ := ry
        refine ⟨pa, pb, us, vs, rfl, .inr ⟨Same.sqt w2.sub h1, Same.sqt w2.sub h3, d2 G2 am2 H2 _ Ext.refl w2 (walkD_of (walk_zipT rfl) (by rw [zipD_len, h2.length, h4.length]) fun G3 am3 C3 H3 x3 w3 => ⟨⟨Same.sqt w3.sub (Same.sqt x3.g h1), Same.sqt w3.sub (Same.sqt x3.g h3)⟩, fun i y H4 _ q => pairs w3 (h2.mono x3.g) (h4.mono x3.g) i y H4 q⟩)⟩⟩
      · simp only [RelD] at rx ry
        obtain ⟨pa, us, rfl, h1, h2⟩ := rx
        obtain ⟨pb, vs, rfl, h3, h4⟩ := ry
        refine ⟨pa, pb, us, vs, rfl, .inl ⟨w2.sub.seq h1, w2.sub.seq h3, d2 G2 am2 H2 _ Ext.refl w2 (walkD_of (walk_zip rfl) (by rw [zipD_len, h2.length, h4.length]) fun G3 am3 C3 H3 x3 w3 => ⟨⟨w3.sub.seq (x3.g.seq h1), w3.sub.seq (x3.g.seq h3)⟩, fun i y H4 _ q => pairs w3 (h2.mono x3.g) (h4.mono x3.g) i y H4 q⟩)⟩⟩
    | _ => exact d2.elim
  | _ => exact d2.elim

theorem r_tchain (g : Gd sx k W X) (o o' : Cop) (ha : PE X a (tE X.K cA W fa)) (hb : PE X b (tE X.K cA W fb)) (hc : PE X c (tE X.K cA W fc)) (hm : lastMarks [copO o, copO o'] [b, c] = false) :
    PT X (.Compare a [copO o, copO o'] [b, c] pos) (tT X.K cA W fun env C => tru ((fa env C).bind fun x C => (fb env C).bind fun y C =>
      match (see C x).bind fun x => (see C y).bind fun y => copV o x y with
      | none => .bad
      | some false => .ok (.v (.bl false)) C
      | some true => (fc env C).bind fun z C => Ev.R.of ((see C y).bind fun y => (see C z).bind fun z => (copV o' y z).map fun b => .v (.bl b)) C)) := by
  refine PT.imp (pt_chain (op_cop (cA := cA) o g.un) (op_cop (cA := cA) o' g.un) ha hb hc hm) fun σ H Q ⟨env, G, am, C, re, wd, d⟩ => ?_
  simp only [tru, truR, bind_assoc] at d
  refine ⟨env, G, am, C, re, wd, Dn.imp (Dn.bind (Rl := rE X.K cA) d) fun vx H1 ⟨G1, am1, C1, x, x1, w1, rx, d1⟩ => ?_⟩
  refine ⟨env, G1, am1, C1, re.mono x1, w1, Dn.imp (Dn.bind (Rl := rE X.K cA) d1) fun vy H2 ⟨G2, am2, C2, y, x2, w2, ry, d2⟩ => ?_⟩
  cases e : (see C2 x).bind fun x => (see C2 y).bind fun y => copV o x y with
  | none => simp only [e] at d2; exact d2.elim
  | some q =>
    have e' := e
    simp only [Option.bind_eq_some_iff] at e'
    obtain ⟨dx, hx, dy, hy, hz⟩ := e'
    refine ⟨G2, am2, C2, dx, dy, q, w2, see_rel w2 (RelE.mono x2.g x2.a rx) hx, see_rel w2 ry hy, hz, q, rfl, ?_⟩
    cases q with
    | false =>
      simp only [e, Ev.R.bind_ok] at d2
      exact ⟨false, rfl, d2.here w2 rfl⟩
    | true =>
      simp only [e, bind_assoc] at d2
      refine ⟨env, G2, am2, C2, (re.mono x1).mono x2, w2, Dn.imp (Dn.bind (Rl := rE X.K cA) d2) fun vz H4 ⟨G4, am4, C4, z, x4, w4, rz, d4⟩ => ?_⟩
      cases e4 : (see C4 y).bind fun y => (see C4 z).bind fun z => (copV o' y z).map fun b => E.v (.bl b) with
      | none => simp only [e4] at d4; exact d4.elim
      | some zz =>
        simp only [e4, Ev.R.of_some, Ev.R.bind_ok] at d4
        simp only [Option.bind_eq_some_iff, Option.map_eq_some_iff] at e4
        obtain ⟨dy4, hy4, dz, hz4, b4, hb4, rfl⟩ := e4
        exact ⟨G4, am4, C4, dy4, dz, b4, w4, see_rel w4 (RelE.mono x4.g x4.a ry) hy4, see_rel w4 rz hz4, hb4, b4, rfl, d4.here w4 rfl⟩
/-- a[::-1] of a list -/
theorem r_rev {kk : Nat} {p1 p2 p3 : Pos} (ha : PE X a (tE X.K cA W fa)) : PE X (.Subscript a (.Slice none none (some (.UnaryOp .USub (.Constant (.int 1) kk p1) p2)) p3) pos) (tE X.K cA W fun env C => (fa env C).bind fun x C => Ev.R.of (((see C x).bind revV).map .v) C) := by
  refine PE.imp (pe_revL ha) fun σ H Q h => ?_
  obtain ⟨env, G, am, C, re, wd, d⟩ := tE_one h
  refine ⟨env, G, am, C, re, wd, Dn.imp d fun vx H1 ⟨env1, G1, am1, C1, x, re1, w1, rx, d1⟩ => ?_⟩
  obtain ⟨e, he, d1⟩ := of_some d1
  simp only [Option.map_eq_some_iff, Option.bind_eq_some_iff] at he
  obtain ⟨z, ⟨dx, h1, h2⟩, rfl⟩ := he
  have rs := see_rel w1 rx h1
  cases dx <;> simp only [revV] at h2 <;> first | (cases h2; done) | skip
  cases h2
  obtain ⟨pa, us, rfl, h3, h4⟩ := rs
  refine ⟨pa, us, rfl, h3, fun q hq => ?_⟩
  exact (Ans.of d1).lst w1 (RelDs.rev h4) q hq
/-- range(a, b, s), a written step -/
theorem r_range3 {P : Program} {w : World} {base : Heap} {pr : Prog} {tb : Tab} {j : Nat} {call : Nat → List E → Cells → Ev.R E} (g : Gd sx k W X) (F : Facts P w X.K X.mg base cA pr tb j call) {tg : Expr} {x : Str} (hx : ("range" : Str) = x) (hg : glB sx.sc x = true) (hp : plainX a = true) (hpb : plainX b = true)
    (ha : PE X a (tE X.K cA W fa)) (hb : PE X b (tE X.K cA W fb)) (s : Int) {n3 : Nat} {q3 : Pos} : PI X tg (.Call (.Name x p) [a, b, .Constant (.int s) n3 q3] [] pos) (tI X.K cA W fun env C => (fa env C).bind fun x C => (fb env C).bind fun y C => match x, y with
    | .v (.int i), .v (.int j) => if rngOk i && rngOk j && decide (0 < s ∧ s < 1000000) then .ok (rangeD i s (cntR i j s), .v .non) C else .bad
    | _, _ => .bad) := by
  obtain ⟨g1, g2, g3⟩ := g.gl hg
  subst hx
  refine PI.imp (pi_range3 g1 F.range (pa_cons ha (pa_cons hb (pa_cons pe_int pa_nil (star_cons rfl)) (star_cons hpb)) (star_cons hp)) (star_cons hp) (by rw [star_cons hpb] <;> rfl)) fun σ H R ⟨env, G, am, C, re, wd, d⟩ => ?_
  refine ⟨env, G, am, C, re, wd, Dn.imp (DnI.bind (Rl := rE X.K cA) d) fun vx H1 ⟨G1, am1, C1, x, x1, w1, rl, d1⟩ => ?_⟩
  refine ⟨env, G1, am1, C1, re.mono x1, w1, Dn.imp (DnI.bind (Rl := rE X.K cA) d1) fun vy H2 ⟨G2, am2, C2, y, x2, w2, rl2, d2⟩ => ?_⟩
  cases x with
  | v dx =>
    cases dx with
    | int i0 =>
      cases y with
      | v dy =>
        cases dy with
        | int jj =>
          simp only at d2
          split at d2
          · rename_i hr
            simp only [Bool.and_eq_true, decide_eq_true_eq] at hr
            obtain ⟨⟨r1, r2⟩, r3, r4⟩ := hr
            simp only [rE, RelE, RelD] at rl rl2
            refine ⟨_, _, s, cntR i0 jj s, by rw [rl, rl2], ?_, d2 G2 am2 H2 _ Ext.refl w2 (walkD_of (walk_rangeC (lo := i0) (c := s)) (rangeD_len _ _ _).symm fun G3 am3 C3 H3 x3 w3 => ⟨True.intro, fun i y H4 hi q => ?_⟩)⟩
            · have b1 := rng_ok r1
              have b2 := rng_ok r2
              refine ⟨by omega, by omega, ?_, ?_⟩
              · have hq : i0 < jj → 0 ≤ (jj - i0 - 1) / s ∧ (jj - i0 - 1) / s ≤ jj - i0 - 1 := fun h => ⟨Int.ediv_nonneg (by omega) (by omega), Int.ediv_le_self _ (by omega)⟩
                unfold Builtin.Range.small Builtin.Range.rangeSize
                simp only [Builtin.Range.rangeFitsLong, Bool.and_eq_true, Bool.or_eq_true, decide_eq_true_eq, beq_iff_eq, if_pos (show s > 0 from r3)]
                split
                · have := hq (by assumption)
                  omega
                · omega
              · unfold Builtin.Range.rangeSize cntR
                have e : (jj - i0 - 1) / s ≥ 0 ∨ jj ≤ i0 := by
                  by_cases h : i0 < jj
                  · exact .inl (Int.ediv_nonneg (by omega) (by omega))
                  · exact .inr (by omega)
                rw [if_pos (show s > 0 from r3)]
                by_cases h : i0 < jj
                · rw [if_pos h, if_pos ⟨r3, h⟩]
                  have : (jj - i0 - 1) / s ≥ 0 := by rcases e with e | e <;> omega
                  omega
                · rw [if_neg h, if_neg fun z => h z.2] <;> rfl
            · obtain ⟨q1, q2⟩ := q
              subst q1 q2
              rw [rangeD_len] at hi
              exact ⟨_, G3, rangeD_get _ i0 s i hi, Ext.refl, w3, by simp only [RelD]⟩
          · exact d2.elim
        | _ => exact d2.elim
      | _ => exact d2.elim
    | _ => cases y <;> exact d2.elim
  | _ => exact d2.elim
end
end Ev

end

section
set_option maxRecDepth 512
set_option Elab.async false
set_option linter.all false
set_option maxRecDepth 100000
set_option maxHeartbeats 4000000
namespace Ev
open PySem L2 PySem.Spec PyProof.Rows
/-! ### dicts: the rules -/
section
variable {K : PySem.W.Frag} {cA : Cfg0} {G : Hp} {am : List Addr} {C : Cells} {H : Hp}
/-- a cell's object is let go, another reading of it: from now on it stays as it is -/
theorem Wd.thawF (wd : Wd K cA G am C H) {n : Nat} {a : Addr} {c0 : Cell} {o0 o1 : HO} (h1 : am[n]? = some a) (hc : C[n]? = some (some c0)) (hH : H a = some o0) (nt : ∀ ps, o0 ≠ .tbl ps) (no : ∀ b, o0 ≠ .own b) (nl : ∀ xs, c0 ≠ .lkd xs) :
    Wd K cA (L2.upd G a o1) am (C.set n none) (L2.upd H a o1) ∧ Ext G am C H (L2.upd G a o1) am (C.set n none) (L2.upd H a o1) ∧ Same G (L2.upd G a o1) := by
  have hlt := (List.getElem?_eq_some_iff.mp hc).1
  have lv : Live am C a := ⟨n, _, hc, h1⟩
  have hg : G a = none := by
    obtain ⟨a', h2, _, h4⟩ := wd.cell n _ hc
    rw [h1] at h2; cases h2; exact h4
  have sg : Same G (L2.upd G a o1) := fun b u q => by rw [upd_ne (ne_of_none q hg)]; exact q
  have get : ∀ {i : Nat} {c : Cell}, (C.set n none)[i]? = some (some c) → i ≠ n ∧ C[i]? = some (some c) := fun {i c} h => by
    by_cases hi : i = n
    · subst hi; rw [List.getElem?_set_self hlt] at h; cases h
    · rw [List.getElem?_set_ne fun z => hi z.symm] at h; exact ⟨hi, h⟩
  refine ⟨⟨fun p hp => ?_, fun b u q => ?_, by simp [wd.len], fun i c h => ?_, fun i j c d b e1 e2 q1 q2 => wd.inj i j c d b (get e1).2 (get e2).2 q1 q2⟩,
    ⟨sg, ⟨[], by simp⟩, fun b o q nl t => ?_, fun b ps q nl => ?_, fun b ⟨i, c, h, q⟩ => .inl ⟨i, c, (get h).2, q⟩, fun b o q => ?_, fun m zs h => ?_⟩, sg⟩
  · obtain ⟨t, n⟩ := wd.tabs p hp
    obtain ⟨ps, e, _⟩ := id t
    have : p.1 ≠ a := fun z => by rw [z, hH] at e; cases e; exact nt _ rfl
    exact ⟨t.mono sg fun qs e => by rw [upd_ne this]; exact e, by rw [upd_ne this]; exact n⟩
  · by_cases hb : b = a
    · subst hb; rw [upd_same] at q ⊢; exact q
    · rw [upd_ne hb] at q ⊢; exact wd.sub _ _ q
  · obtain ⟨hi, h⟩ := get h
    obtain ⟨b, q1, q2, q3⟩ := wd.cell i c h
    have nb : b ≠ a := fun z => hi (wd.inj i n c _ a h hc (by rw [← z]; exact q1) h1)
    refine ⟨b, q1, ?_, by rw [upd_ne nb]; exact q3⟩
    cases c with
    | lst xs => obtain ⟨us, z, r⟩ := q2; exact ⟨us, by rw [upd_ne nb]; exact z, r.mono sg⟩
    | lkd xs => obtain ⟨us, z, r⟩ := q2; exact ⟨us, by rw [upd_ne nb]; exact z, r.mono sg⟩
    | dct kvs => obtain ⟨us, z, r⟩ := q2; exact ⟨us, by rw [upd_ne nb]; exact z, r.mono sg⟩
    | ins c fs =>
      obtain ⟨Ca, dx, gs, z1, z2, z3, r⟩ := q2
      have nd : dx ≠ a := fun z => by rw [z, hH] at z3; cases z3; exact no _ rfl
      exact ⟨Ca, dx, gs, z1, by rw [upd_ne nb]; exact z2, by rw [upd_ne nd]; exact z3, r.mono sg ⟨[], by simp⟩⟩
  · have : b ≠ a := fun z => nl (z ▸ lv)
    rw [upd_ne this]; exact q
  · have : b ≠ a := fun z => nl (z ▸ lv)
    exact ⟨ps, by rw [upd_ne this]; exact q⟩
  · by_cases hb : b = a
    · subst hb; exact .inr (.inr lv)
    · rw [upd_ne hb] at q; exact .inl q
  · have hm : m ≠ n := fun z => by rw [z, hc] at h; cases h; exact nl _ rfl
    rw [List.getElem?_set_ne fun z => hm z.symm]; exact h
/-- a new dict, frozen -/
theorem Wd.newD (wd : Wd K cA G am C H) {p : Addr} (hp : H p = none) {kvs : List (D × D)} {ks : List (Key × V)} (r : RelKV K cA G kvs ks) (od : Obj) :
    Wd K cA (L2.upd G p (.frz od (.dK ks))) am C (L2.upd H p (.frz od (.dK ks))) ∧ Ext G am C H (L2.upd G p (.frz od (.dK ks))) am C (L2.upd H p (.frz od (.dK ks))) ∧ RelD K cA (L2.upd G p (.frz od (.dK ks))) (.dct kvs) (.ref p) := by
  obtain ⟨w, x⟩ := wd.new hp (.frz od (.dK ks))
  refine ⟨w, x, ?_⟩
  simp only [RelD]
  exact ⟨p, od, ks, rfl, upd_same, r.mono x.g⟩
end
section
variable {X : Cx} {cA : Cfg} {sx : Sx} {k : Nat} {W : WX} {a b c : Expr} {fa fb fc : Env → Cells → Ev.R E} {pos cpos apos : Pos}
/-- what an expression comes to may be locked for good -/
theorem pe_lockV {e : Expr} {t : TE} (h : PE X e t) : PE X e (fun σ H Q => t σ H fun x H1 => Q x H1 ∨ ∃ d u, x = .ref d ∧ H1 d = some u ∧ Mut (some u) ∧ ∀ od, Q x (L2.upd H1 d (.frz od u))) := by
  refine ⟨fun pins s σ H Q I hw => ?_⟩
  refine thn (h.run pins s σ H _ I hw) fun v s1 ⟨x, H1, I1, r, q⟩ => ?_
  rcases q with q | ⟨d, u, e, hd, mu, q⟩
  · exact ⟨x, H1, I1, r, q⟩
  · obtain ⟨od, I2⟩ := I1.lock hd mu
    exact ⟨x, _, I2, r, q od⟩
theorem r_dnew : PE X (.Dict [] [] pos) (tE X.K cA W fun _ C => .ok (.r C.length) (C ++ [some (.dct [])])) := by
  refine PE.imp pe_dnewK fun σ H Q ⟨env, G, am, C, re, wd, d⟩ => fun p hp => ?_
  obtain ⟨w2, x2⟩ := wd.newC hp (o := .dK []) (cl := .dct []) ⟨[], upd_same, by simp only [RelKV]⟩
  refine d G (am ++ [p]) _ (.ref p) x2 w2 ⟨p, ?_, rfl⟩
  rw [List.getElem?_append_right (by rw [wd.len]; exact Nat.le_refl _), wd.len]; simp
theorem noSl {e : Expr} (h : plainX e = true) : NoSl e := by
  intro v iv
  cases e <;> first | rfl | (simp [plainX] at h)
theorem r_dix (g : Gd sx k W X) (hp : plainX b = true) (ha : PE X a (tE X.K cA W fa)) (hb : PE X b (tE X.K cA W fb)) : PE X (.Subscript a b pos) (tE X.K cA W fun env C => (fa env C).bind fun x C => (fb env C).bind fun y C =>
      R.of ((see C x).bind fun x => (see C y).bind fun y => (dixV x y).map .v) C) := by
  have hu := g.un
  refine PE.imp (pe_dget (by omega) ha hb (noSl hp)) fun σ H Q h => ?_
  obtain ⟨env, G, am, C, re, wd, d⟩ := tE_two h
  refine ⟨env, G, am, C, re, wd, Dn.imp d fun vx H1 ⟨env1, G1, am1, C1, re1, w1, d1⟩ => ⟨env1, G1, am1, C1, re1, w1, Dn.imp d1 fun vy H2 ⟨env2, G2, am2, C2, x, y, re2, w2, rx, ry, d2⟩ => ?_⟩⟩
  obtain ⟨e, he, d2⟩ := of_some d2
  simp only [Option.bind_eq_some_iff, Option.map_eq_some_iff] at he
  obtain ⟨dx, hx, dy, hy, z, hz, rfl⟩ := he
  cases dx <;> simp only [dixV] at hz <;> first | (cases hz; done) | skip
  split at hz
  · rename_i hk
    obtain ⟨p, ks, kk, e1, e2, h1, h2, h3⟩ := dget_of w2.sub rfl hk (see_rel w2 rx hx) (see_rel w2 ry hy)
    rcases h2.look h3 with ⟨d0, v, g1, g2, g3⟩ | ⟨g1, g2⟩
    · rw [g1] at hz; cases hz
      exact ⟨p, v, e1, .inl ⟨ks, kk, h1, e2, g2.symm⟩, d2.here w2 g3⟩
    · rw [g1] at hz; cases hz
  · cases hz
theorem r_dgt (g : Gd sx k W X) (hao : attrX a = true) (hpb : plainX b = true) (hpc : plainX c = true) (hl : (apos.endLine == cpos.line) = true) (ha : PE X a (tE X.K cA W fa)) (hb : PE X b (tE X.K cA W fb)) (hc : PE X c (tE X.K cA W fc)) :
    PE X (.Call (.Attribute a "get" apos) [b, c] [] cpos) (tE X.K cA W fun env C => (fa env C).bind fun x C => if isDct C x then (fb env C).bind fun y C => (fc env C).bind fun z C =>
      R.of ((see C x).bind fun x => (see C y).bind fun y => (vals [z]).bind fun zs => (dgtV x y (zs.headD .non)).map .v) C else .bad) := by
  have hu := g.un
  refine PE.imp (pe_dget2 (by omega) ha hb hc ⟨attr_base hao, by rw [star_cons hpb, star_cons hpc]; rfl, hl, by rw [star_cons hpb, star_cons hpc]; rfl⟩) fun σ H Q h => ?_
  obtain ⟨env, G, am, C, re, wd, d⟩ := tE_one h
  refine ⟨env, G, am, C, re, wd, Dn.imp d fun vx H1 ⟨env1, G1, am1, C1, x, re1, w1, rx, d1⟩ => ?_⟩
  split at d1
  · rename_i hd
    unfold isDct at hd
    cases e1 : see C1 x with
    | none => rw [e1] at hd; cases hd
    | some dx =>
      rw [e1] at hd
      cases dx <;> first | (cases hd; done) | skip
      case dct kvs =>
        obtain ⟨p, ks, rfl, h1, h2⟩ := see_rel w1 rx e1
        refine ⟨p, rfl, .inl ⟨ks, h1⟩, env1, G1, am1, C1, re1, w1, Dn.imp (Dn.bind (Rl := rE X.K cA) d1) fun vy H2 ⟨G2, am2, C2, y, x2, w2, ry, d2⟩ => ?_⟩
        refine ⟨env1, G2, am2, C2, re1.mono x2, w2, Dn.imp (Dn.bind (Rl := rE X.K cA) d2) fun vz H3 ⟨G3, am3, C3, z, x3, w3, rz, d3⟩ => ?_⟩
        obtain ⟨e, he, d3⟩ := of_some d3
        simp only [Option.bind_eq_some_iff, Option.map_eq_some_iff] at he
        obtain ⟨dx, hx, dy, hy, zs, hz, w, hw, rfl⟩ := he
        cases dx <;> simp only [dgtV] at hw <;> first | (cases hw; done) | skip
        split at hw
        · rename_i hk
          cases hw
          have rx3 := RelE.mono x3.g x3.a (RelE.mono x2.g x2.a rx)
          have ry3 := RelE.mono x3.g x3.a ry
          obtain ⟨p3, ks3, kk, g1, g2, g3, g4, g5⟩ := dget_of w3.sub rfl hk (see_rel w3 rx3 hx) (see_rel w3 ry3 hy)
          cases g1
          refine ⟨valV ks3 kk, .inl ⟨ks3, kk, g3, g2, rfl⟩, ?_⟩
          rcases g4.look g5 with ⟨d0, v, q1, q2, q3⟩ | ⟨q1, q2⟩
          · rw [q1] at d3; rw [q2]
            exact d3.here w3 q3
          · rw [q1] at d3; rw [q2]
            cases z <;> simp only [vals, Option.map_some, Option.some.injEq, reduceCtorEq] at hz
            subst hz
            exact d3.here w3 rz
        · cases hw
  · exact d1.elim
theorem s_setD (g : Gd sx k W X) {e : Expr} {fo fi fe : Env → Cells → Ev.R E} {tp : Pos} (hp : plainX b = true) (hn : noComp e = true) (ho : PE X a (tE X.K cA W fo)) (hi : PE X b (tE X.K cA W fi)) (he : PE X e (tE X.K cA W fe)) :
    PS X (.Assign [.Subscript a b tp] e pos) (tS X.K cA W fun env C => (fe env C).st env fun z C => (fo env C).st env fun x C => (fi env C).st env fun y C => match x, y, z with
    | .r n, .v k, .v z => match cellAt C n with
      | some (.dct kvs) => if keyB k && decide (kvs.length < line) then .next env (C.set n (some (.dct (putKd k z kvs)))) else .bad
      | _ => .bad
    | _, _, _ => .bad) := by
  have hu := g.un
  have hsw : swapsWith e (some (.Subscript a b tp)) pos.line X.env = pure false := sw_plain hn
  refine PS.imp (ps_dput (by omega) ho hi he hsw) fun D σ H ⟨env, G, am, C, re, wd, d⟩ => ?_
  refine ⟨env, G, am, C, re, wd, Dn.imp (DnS.st (Rl := rE X.K cA) re d) fun vz H1 ⟨G1, am1, C1, z, x1, w1, rz, re1, d1⟩ => ?_⟩
  refine ⟨env, G1, am1, C1, re1, w1, Dn.imp (DnS.st (Rl := rE X.K cA) re1 d1) fun vo H2 ⟨G2, am2, C2, x, x2, w2, rx, re2, d2⟩ => ?_⟩
  refine ⟨env, G2, am2, C2, re2, w2, Dn.imp (DnS.st (Rl := rE X.K cA) re2 d2) fun vi H3 ⟨G3, am3, C3, y, x3, w3, ry, re3, d3⟩ => ?_⟩
  cases x with
  | r n =>
    cases y with
    | v dy =>
      cases z with
      | v dz =>
        simp only at d3
        cases ec : cellAt C3 n with
        | none => simp only [ec] at d3; exact d3.elim
        | some cl =>
          cases cl <;> simp only [ec] at d3 <;> first | exact d3.elim | skip
          case dct kvs =>
            split at d3
            · rename_i hk
              rw [Bool.and_eq_true, decide_eq_true_eq] at hk
              have rx3 : RelE X.K cA G3 am3 (.r n) vo := RelE.mono x3.g x3.a rx
              obtain ⟨p3, rfl, g3, g4, ⟨us3, g5, g6⟩, g7⟩ := w3.at rx3 ec
              obtain ⟨kk, e1, e2⟩ := keyR_rel hk.1 ry
              have rz3 : RelD X.K cA G3 dz vz := RelD.mono (x2.trans x3).g rz
              obtain ⟨w4, x4⟩ := w3.putG (o1 := .dK (putK us3 kk vz)) (c1 := .dct (putKd dy dz kvs)) g3 g4 g5 (fun _ z => by cases z) (fun _ z => by cases z) (fun _ z => by cases z) ⟨_, upd_same, g6.put e1 rz3⟩
              exact ⟨p3, _, rfl, .inl ⟨us3, kk, g5, e2, by rw [← g6.length, ← line_eq]; exact hk.2, rfl⟩, d3 G3 am3 _ σ x4 w4 (re3.mono x4)⟩
            · exact d3.elim
      | _ => exact d3.elim
    | _ => exact d3.elim
  | _ => exact d3.elim
/-- a cell's list, dict is let go: a tree -/
theorem r_frzD (ha : PE X a (tE X.K cA W fa)) : PE X a (tE X.K cA W fun env C => (fa env C).bind fun x C => match x with
    | .v d => .ok (.v d) C
    | .r n => match cellAt C n with
      | some (.lst xs) => .ok (.v (.lst xs)) (C.set n none)
      | some (.dct kvs) => .ok (.v (.dct kvs)) (C.set n none)
      | _ => .bad
    | _ => .bad) := by
  refine PE.imp (pe_lockV ha) fun σ H Q h => ?_
  obtain ⟨env, G, am, C, re, wd, d⟩ := tE_one h
  refine ⟨env, G, am, C, re, wd, Dn.imp d fun vx H1 ⟨env1, G1, am1, C1, x, re1, w1, rx, d1⟩ => ?_⟩
  cases x with
  | v dx => exact .inl (d1.here w1 rx)
  | r n =>
    simp only at d1
    cases ec : cellAt C1 n with
    | none => simp only [ec] at d1; exact d1.elim
    | some cl =>
      cases cl <;> simp only [ec] at d1 <;> first | exact d1.elim | skip
      case lst xs =>
        obtain ⟨p, rfl, h3, h4, ⟨us, h5, h6⟩, h7⟩ := w1.at rx ec
        obtain ⟨w2, x2, sg⟩ := w1.thaw h3 h4 h5 (fun _ z => by cases z) (fun _ z => by cases z)
        exact .inl (d1 _ _ _ (.ref p) x2 w2 (by simp only [rE, RelE, RelD]; exact ⟨p, us, rfl, SqL.of upd_same, h6.mono sg⟩))
      case dct kvs =>
        obtain ⟨p, rfl, h3, h4, ⟨us, h5, h6⟩, h7⟩ := w1.at rx ec
        refine .inr ⟨p, _, rfl, h5, True.intro, fun od => ?_⟩
        obtain ⟨w2, x2, sg⟩ := w1.thawF (o1 := .frz od (.dK us)) h3 h4 h5 (fun _ z => by cases z) (fun _ z => by cases z) (fun _ z => by cases z)
        exact d1 _ _ _ (.ref p) x2 w2 (by simp only [rE, RelE, RelD]; exact ⟨p, od, us, rfl, upd_same, h6.mono sg⟩)
  | _ => exact d1.elim
theorem dropLast_rel {K : PySem.W.Frag} {cA : Cfg0} {G : Hp} {ds : List D} {vs : List V} (h : RelDs K cA G ds vs) : RelDs K cA G ds.dropLast vs.dropLast := by
  rw [List.dropLast_eq_take, List.dropLast_eq_take, ← h.length]
  exact h.take _
theorem erase_rel {K : PySem.W.Frag} {cA : Cfg0} {G : Hp} {ds : List D} {vs : List V} (n : Nat) (h : RelDs K cA G ds vs) : RelDs K cA G (ds.eraseIdx n) (vs.eraseIdx n) := by
  rw [List.eraseIdx_eq_take_drop_succ, List.eraseIdx_eq_take_drop_succ]
  exact (h.take _).append (h.drop _)
theorem r_pop (hao : attrX a = true) (hl : (apos.endLine == cpos.line) = true) (ha : PE X a (tE X.K cA W fa)) :
    PE X (.Call (.Attribute a "pop" apos) [] [] cpos) (tE X.K cA W fun env C => (fa env C).bind fun x C => if isLst C x then (Ev.R.ok ([] : List E) C).bind fun xs C => match x with
    | .r n => match (cellAt C n).bind fun c => (vals xs).bind fun ds => mmV .pop c ds with
      | some (c, d) => .ok (.v d) (C.set n (some c))
      | none => .bad
    | _ => .bad else .bad) := by
  refine PE.imp (pe_bm0 PySem.F.plainAttrs_list PySem.F.slot_list_pop PySem.F.type_list_pop mt_pop ha (attr_base hao) hl) fun σ H Q h => ?_
  obtain ⟨env, G, am, C, re, wd, d⟩ := tE_one h
  refine ⟨env, G, am, C, re, wd, Dn.imp d fun vx H1 ⟨env1, G1, am1, C1, x, re1, w1, rx, d1⟩ => ?_⟩
  split at d1
  · rename_i hil
    refine ⟨isLst_tyV w1 rx hil, ?_⟩
    simp only [R.bind_ok] at d1
    cases x with
    | r n =>
      simp only at d1
      cases ec : cellAt C1 n with
      | none => simp only [ec, Option.bind_none] at d1; exact d1.elim
      | some cl =>
        simp only [ec, vals, Option.bind_some] at d1
        cases cl <;> simp only [mmV] at d1 <;> first | exact d1.elim | skip
        case lst ys =>
          obtain ⟨p, rfl, h3, h4, ⟨us, h5, h6⟩, h7⟩ := w1.at rx ec
          cases ey : ys[ys.length - 1]? with
          | none => simp only [ey, Option.map_none] at d1; exact d1.elim
          | some y =>
            simp only [ey, Option.map_some] at d1
            obtain ⟨v, e3, rv⟩ := h6.get ey
            obtain ⟨w3, x3⟩ := w1.put h3 h4 h5 (dropLast_rel h6)
            exact ⟨p, us, v, rfl, rfl, h5, by rw [← h6.length]; exact e3, d1 G1 am1 _ v x3 w3 rv⟩
    | _ => exact d1.elim
  · exact d1.elim
theorem if_neg_none {α : Type} {p : Prop} [Decidable p] {o : Option α} {a : α} : (if p then o else none) = some a ↔ p ∧ o = some a := by
  by_cases h : p
  · rw [if_pos h]; exact ⟨fun e => ⟨h, e⟩, fun e => e.2⟩
  · rw [if_neg h]; exact ⟨fun e => (by cases e), fun e => absurd e.1 h⟩
theorem r_popAt (hao : attrX a = true) (hp : plainX b = true) (hl : (apos.endLine == cpos.line) = true) (ha : PE X a (tE X.K cA W fa)) {fs : Env → Cells → Ev.R (List E)} (hs : PA X [b] (tEs X.K cA W fs)) :
    PE X (.Call (.Attribute a "pop" apos) [b] [] cpos) (tE X.K cA W fun env C => (fa env C).bind fun x C => if isLst C x then (fs env C).bind fun xs C => match x with
    | .r n => match (cellAt C n).bind fun c => (vals xs).bind fun ds => mmV .popAt c ds with
      | some (c, d) => .ok (.v d) (C.set n (some c))
      | none => .bad
    | _ => .bad else .bad) := by
  refine PE.imp (pe_bm PySem.F.plainAttrs_list PySem.F.slot_list_pop PySem.F.type_list_pop mt_popAt ha hs (attr_base hao) (few1 hp) hl (star_cons hp) rfl) fun σ H Q h => ?_
  obtain ⟨env, G, am, C, re, wd, d⟩ := tE_one h
  refine ⟨env, G, am, C, re, wd, Dn.imp d fun vx H1 ⟨env1, G1, am1, C1, x, re1, w1, rx, d1⟩ => ?_⟩
  split at d1
  · rename_i hil
    refine ⟨isLst_tyV w1 rx hil, env1, G1, am1, C1, re1, w1, Dn.imp (Dn.bind (Rl := rEs X.K cA) d1) fun vs H2 ⟨G2, am2, C2, xs, x2, w2, r2, d2⟩ => ?_⟩
    cases x with
    | r n =>
      simp only at d2
      cases ec : cellAt C2 n with
      | none => simp only [ec, Option.bind_none] at d2; exact d2.elim
      | some cl =>
        cases ev : vals xs with
        | none => simp only [ec, ev, Option.bind_some, Option.bind_none] at d2; exact d2.elim
        | some ds =>
          simp only [ec, ev, Option.bind_some] at d2
          have rx2 : RelE X.K cA G2 am2 (.r n) vx := RelE.mono x2.g x2.a rx
          have rd := vals_rel r2 ev
          unfold mmV at d2
          split at d2
          · rename_i hm
            split at hm <;> first | (exact absurd ‹Mm.popAt = _› (by decide)) | skip
            · rename_i ys i _
              rw [if_neg_none] at hm
              obtain ⟨hb, hm⟩ := hm
              simp only [Option.bind_eq_some_iff, Option.map_eq_some_iff, Prod.mk.injEq] at hm
              obtain ⟨kk, e1, y, e2, e3, e4⟩ := hm
              subst e3 e4
              obtain ⟨p, rfl, h3, h4, ⟨us, h5, h6⟩, h7⟩ := w2.at rx2 ec
              obtain ⟨v, g1, rv⟩ := h6.get e2
              simp only [RelDs, RelD] at rd
              obtain ⟨vi, rr, rfl, rfl, rfl⟩ := rd
              obtain ⟨w3, x3⟩ := w2.put h3 h4 h5 (erase_rel kk h6)
              exact ⟨p, us, i, kk, v, rfl, rfl, h5, by omega, by omega, by rw [← h6.length]; exact (L2.ixN_seq (by rw [← ixN_eq]; exact e1)).1, g1, d2 G2 am2 _ v x3 w3 rv⟩
            · cases hm
          · exact d2.elim
    | _ => exact d2.elim
  · exact d1.elim
/-! a dict of the top -/
theorem r_gix {pr : Prog} {tb : Tab} {call : Nat → List E → Cells → Ev.R E} {j : Nat} (g : Gd sx k W X) (F : Facts X.prog X.w X.K X.mg X.base cA pr tb j call) {gi : Nat} {x : Str} {nm : Nm} {p : Pos} (hi : (pr.gd[gi]?).isSome = true) (h : tb.gd[gi]? = some nm) (hx : T nm = x) (hg : glB sx.sc x = true) (hp : plainX b = true) (hb : PE X b (tE X.K cA W fb)) :
    PE X (.Subscript (.Name x p) b pos) (tE X.K cA W fun env C => (fb env C).bind fun y C => match y, pr.gd[gi]? with
      | .v (.str s), some kvs => Ev.R.of ((lookS s kvs).map .v) C
      | _, _ => .bad) := by
  cases e : pr.gd[gi]? with
  | none => rw [e] at hi; cases hi
  | some kvs =>
    obtain ⟨a, es, n, h1, kd, look⟩ := F.gd gi nm kvs h e
    obtain ⟨g1, g2, g3⟩ := g.gl hg
    subst hx
    refine PE.imp (pe_ix ix_kdict (pe_glob (v := .ref a) g1 h1 rfl g2) hb (ix_plain hp)) fun σ H Q h => ?_
    obtain ⟨env, G, am, C, re, wd, d⟩ := tE_one h
    refine ⟨env, G, am, C, re, wd, Dn.imp d fun vx H1 ⟨env1, G1, am1, C1, y, re1, w1, ry, d1⟩ => ?_⟩
    cases y with
    | v dy =>
      cases dy <;> first | exact d1.elim | skip
      case str s =>
        simp only at d1
        simp only [RelE, RelD] at ry
        subst ry
        rcases look s with ⟨dd, u, v, q1, q2, q3, q4⟩ | ⟨q1, q2⟩
        · rw [q1] at d1
          exact ⟨a, T s, v, rfl, rfl, ⟨es, n, u, kd.at_, kd.lit, q2, q3⟩, d1.here w1 (relD_none q4)⟩
        · rw [q1] at d1; exact d1.elim
    | _ => exact d1.elim
theorem r_gin {pr : Prog} {tb : Tab} {call : Nat → List E → Cells → Ev.R E} {j : Nat} (g : Gd sx k W X) (F : Facts X.prog X.w X.K X.mg X.base cA pr tb j call) (neg : Bool) {gi : Nat} {x : Str} {nm : Nm} {p : Pos} (hi : (pr.gd[gi]?).isSome = true) (h : tb.gd[gi]? = some nm) (hx : T nm = x) (hg : glB sx.sc x = true) (hb : PE X b (tE X.K cA W fb)) :
    PE X (.Compare b [if neg then .NotIn else .In] [.Name x p] pos) (tE X.K cA W fun env C => (fb env C).bind fun y C => match y, pr.gd[gi]? with
      | .v (.str s), some kvs => .ok (.v (.bl ((lookS s kvs).isSome != neg))) C
      | _, _ => .bad) := by
  cases e : pr.gd[gi]? with
  | none => rw [e] at hi; cases hi
  | some kvs =>
    obtain ⟨a, es, n, h1, kd, look⟩ := F.gd gi nm kvs h e
    obtain ⟨g1, g2, g3⟩ := g.gl hg
    subst hx
    have op : OpR X (compareOp (if neg then .NotIn else .In)) (fun x y H Q => ∃ (s : Nm) (r : Option Value), x = .str (T s) ∧ y = .ref a ∧ PySem.W.nsIn X.K a (T s) = some r ∧ Q (.bl (r.isSome != neg)) H) := by
      intro pins s σ H x y v u Q I rx ry ⟨z, r, e1, e2, e3, q⟩
      cases neg with
      | false => exact op_in_kd kd pins s σ H x y v u Q I rx ry ⟨T z, r, e1, e2, e3, by simpa using q⟩
      | true => exact op_notIn_kd kd pins s σ H x y v u Q I rx ry ⟨T z, r, e1, e2, e3, by simpa using q⟩
    refine PE.imp (pe_cmpR op hb (pe_glob (v := .ref a) g1 h1 rfl g2) (by cases neg <;> rfl)) fun σ H Q h => ?_
    obtain ⟨env, G, am, C, re, wd, d⟩ := tE_one h
    refine ⟨env, G, am, C, re, wd, Dn.imp d fun vx H1 ⟨env1, G1, am1, C1, y, re1, w1, ry, d1⟩ => ?_⟩
    cases y with
    | v dy =>
      cases dy <;> first | exact d1.elim | skip
      case str s =>
        simp only at d1
        simp only [RelE, RelD] at ry
        subst ry
        rcases look s with ⟨dd, u, v, q1, q2, q3, q4⟩ | ⟨q1, q2⟩
        · rw [q1] at d1
          exact ⟨s, some u, rfl, rfl, q2, d1.here w1 (by simp only [rE, RelE, RelD]; rfl)⟩
        · rw [q1] at d1
          exact ⟨s, none, rfl, rfl, q2, d1.here w1 (by simp only [rE, RelE, RelD]; rfl)⟩
    | _ => exact d1.elim
theorem r_tgin {pr : Prog} {tb : Tab} {call : Nat → List E → Cells → Ev.R E} {j : Nat} (g : Gd sx k W X) (F : Facts X.prog X.w X.K X.mg X.base cA pr tb j call) (neg : Bool) {gi : Nat} {x : Str} {nm : Nm} {p : Pos} (hi : (pr.gd[gi]?).isSome = true) (h : tb.gd[gi]? = some nm) (hx : T nm = x) (hg : glB sx.sc x = true) (hb : PE X b (tE X.K cA W fb)) :
    PT X (.Compare b [if neg then .NotIn else .In] [.Name x p] pos) (tT X.K cA W fun env C => tru ((fb env C).bind fun y C => match y, pr.gd[gi]? with
      | .v (.str s), some kvs => .ok (.v (.bl ((lookS s kvs).isSome != neg))) C
      | _, _ => .bad)) := by
  cases e : pr.gd[gi]? with
  | none => rw [e] at hi; cases hi
  | some kvs =>
    obtain ⟨a, es, n, h1, kd, look⟩ := F.gd gi nm kvs h e
    obtain ⟨g1, g2, g3⟩ := g.gl hg
    subst hx
    have op : OpR X (compareOp (if neg then .NotIn else .In)) (fun x y H Q => ∃ (s : Nm) (r : Option Value), x = .str (T s) ∧ y = .ref a ∧ PySem.W.nsIn X.K a (T s) = some r ∧ Q (.bl (r.isSome != neg)) H) := by
      intro pins s σ H x y v u Q I rx ry ⟨z, r, e1, e2, e3, q⟩
      cases neg with
      | false => exact op_in_kd kd pins s σ H x y v u Q I rx ry ⟨T z, r, e1, e2, e3, by simpa using q⟩
      | true => exact op_notIn_kd kd pins s σ H x y v u Q I rx ry ⟨T z, r, e1, e2, e3, by simpa using q⟩
    refine PT.imp (pt_cmpR op hb (pe_glob (v := .ref a) g1 h1 rfl g2) (by cases neg <;> rfl)) fun σ H Q ⟨env, G, am, C, re, wd, d⟩ => ?_
    simp only [tru, truR, bind_assoc] at d
    refine ⟨env, G, am, C, re, wd, Dn.imp (Dn.bind (Rl := rE X.K cA) d) fun vx H1 ⟨G1, am1, C1, y, x1, w1, ry, d1⟩ => ?_⟩
    cases y with
    | v dy =>
      cases dy <;> first | exact d1.elim | skip
      case str s =>
        simp only [R.bind_ok] at d1
        simp only [rE, RelE, RelD] at ry
        subst ry
        rcases look s with ⟨dd, u, v, q1, q2, q3, q4⟩ | ⟨q1, q2⟩
        · rw [q1] at d1
          exact ⟨s, some u, rfl, rfl, q2, _, rfl, d1.here w1 rfl⟩
        · rw [q1] at d1
          exact ⟨s, none, rfl, rfl, q2, _, rfl, d1.here w1 rfl⟩
    | _ => exact d1.elim
end
end Ev

end

section
set_option maxRecDepth 512
set_option Elab.async false
set_option linter.all false
set_option maxRecDepth 100000
set_option maxHeartbeats 4000000
/-! the own == -/
namespace OwN
open PySem PySem.Spec PyProof.Rows
section
variable {M : Model} {prog : Program} {w : World} {A : Around} {E : Value → Shared → Prop} {s : Shared} {K : PySem.W.Frag} {x y C : Addr} {ox oy : Obj} {od od' : Option Obj}
theorem ifBound_objNe {args : List Value} {Q : Option Value → Shared → Prop} (X : K.In s.heap) (I : PySem.W.InstAt s.heap x ox C od) (hs : PySem.W.findIn K (.ref C) "__ne__" = some (some (.builtin "object.__ne__")))
    (h : wpAny M A (call (.builtin "object.__ne__") (.ref x :: args)) (fun v => Q (some v)) E s) : wpAny M A (callSpecialIfBound? (.ref x) "__ne__" args) Q E s := by
  simp only [callSpecialIfBound?, bindSpecialIfBound?]
  refine wpAny_holding (wpAny_bind (wpAny_bind (wpAny_bind (I.type.here ((PySem.W.looks_findIn X hs).here ?_)))))
  refine wpAny_bind (wpAny_askSetting (wpAny_ite ?_))
  have fin : wpAny M A (call (.builtin "object.__ne__") ([.ref x] ++ args) >>= fun v => pure (some v)) Q E s := wpAny_bind (wpAny_mono h (fun v s' h' => wpAny_pure h') fun _ _ h' => h')
  split
  · exact wpAny_bind (wpAny_of_eq (F.cmp_object.ne.bind _) (wpAny_pure (by exact fin)))
  · exact wpAny_tryCatch (wpAny_bind (wpAny_of_eq (F.cmp_object.ne.bind _) (wpAny_pure (by exact fin))))
theorem ne_entry {f : Addr} {Q : Fin → Shared → Prop} (hu : A.units < cLine) (X : K.In s.heap) (I : PySem.W.InstAt s.heap x ox C od) (hs : PySem.W.findIn K (.ref C) "__eq__" = some (some (.ref f))) (hf : PySem.W.isFn K (.ref f) = true)
    (h : wpAny (model prog w) A (call (.ref f) [.ref x, .ref y]) (fun v s' => ∃ b, v = .bool b ∧ Q (.done (.ret (.bool (!b)))) s') E s) :
    wpAny (model prog w) A (Builtin.«object.__ne__» ⟨[.ref x, .ref y], []⟩) Q E s := by
  unfold Builtin.«object.__ne__»
  repeat (first
    | with_reducible refine wpAny_cRoomFor hu ?_
    | (refine wpAny_bind (m := callSpecialIfBound? (.ref x) (Str.ofString "__eq__") [.ref y])
        (PySem.W.ifBound_K X I hs hf (wpAny_mono h (fun r s' hr => by
          obtain ⟨b, rfl, hq⟩ := hr
          repeat (first | exact hq | exact wpAny_pure hq | exact wpAny_truthy_bool hq | (refine wpAny_bind (m := truthy (.bool _)) (wpAny_truthy_bool ?_)) | wp_step)) fun _ _ e => e)))
    | wp_step)
theorem rc_ne {f : Addr} {Q : Value → Shared → Prop} (hu : A.units + 1 < cLine) (X : K.In s.heap) (I : PySem.W.InstAt s.heap x ox C od) (J : PySem.W.InstAt s.heap y oy C od') (hm : PySem.W.mroIn K C (.type "object") = some true)
    (hn : PySem.W.findIn K (.ref C) "__ne__" = some (some (.builtin "object.__ne__"))) (hs : PySem.W.findIn K (.ref C) "__eq__" = some (some (.ref f))) (hf : PySem.W.isFn K (.ref f) = true)
    (h : wpAny (model prog w) A.in1 (call (.ref f) [.ref x, .ref y]) (fun v s' => ∃ b, v = .bool b ∧ Q (.bool (!b)) s') E s) :
    wpAny (model prog w) A (richCompare .NotEq (.ref x) (.ref y)) Q E s := by
  have hu0 : A.units < cLine := by omega
  have hu1 : A.in1.units < cLine := by show A.units + 1 < cLine; omega
  have one : wpAny (model prog w) A (tryCompare (.ref x) "__ne__" (.ref y)) (fun r s' => ∃ b, r = some (.bool b) ∧ Q (.bool b) s') E s := by
    unfold tryCompare
    refine wpAny_bind (ifBound_objNe X I hn (wpAny_call (codeAny_call_builtin F.cmp_object.ne.plain F.cmpEntry_ne (PySem.W.check_slot F.cmpKind_ne F.cmpSplit_ne (I.type.andThen (PySem.W.looks_mroIn X hm)) (F.cmpArgs_ne _ _)
      (ne_entry (A := A.in1) hu1 X I hs hf (wpAny_mono h (fun v s' hv => ?_) fun _ _ e => e))))))
    obtain ⟨b, rfl, hq⟩ := hv
    first | exact ⟨b, rfl, wpAny_pure ⟨_, rfl, hq⟩⟩ | exact ⟨b, rfl, wpAny_pure (wpAny_pure ⟨_, rfl, hq⟩)⟩ | exact ⟨b, rfl, ⟨_, rfl, hq⟩⟩
  unfold richCompare
  simp only [oneThing_ref]
  refine wpAny_holding (wpAny_bind (wpAny_cRoomFor hu0 ?_))
  rw [cmpInfo_NotEq]
  dsimp only
  refine wpAny_bind (I.type.here (wpAny_bind (J.type.here ?_)))
  rw [show (Value.ref C != Value.ref C) = false from by simp]
  simp only [Bool.false_eq_true, if_false]
  refine wpAny_bind (wpAny_pure ?_)
  simp only [Bool.false_eq_true, if_false]
  refine wpAny_bind (wpAny_mono one (fun r s' z => ?_) fun _ _ e => e)
  obtain ⟨b, rfl, hq⟩ := z
  exact wpAny_pure hq
end
end OwN

namespace Ev
open PySem L2 PySem.Spec PyProof.Rows
section
variable {X : Cx} {cA : Cfg} {sx : Sx} {k : Nat} {W : WX} {pos : Pos} {pr : Prog} {tb : Tab} {call : Nat → List E → Cells → Ev.R E} {a b : Expr} {fa fb : Env → Cells → Ev.R E}
/-- a def is called further in -/
theorem run_fnAt {A : Around} {f : Addr} {fd : FuncData} {ps : List Str} {sp : Sp} {CX : CXT} {j : Nat} {E : L2.St → XK} {pins : List (Addr × Obj)} {σ : L2.St} {H : Hp} {s : Shared} {Q : VK} {us : List Value} {vs : List V} (F : FnOk X.prog X.w X.K X.mg X.base CX j f fd ps sp) (hr : Room j A) (e0 : Env0 X.prog X.w X.K X.mg X.base A X.stack s H) (hb : Binds X.K fd ps []) (hx : PassesAt CX X σ (E σ))
    (I : Inv X pins σ H s) (r : Vals vs us) (h : sp vs H Q (E σ)) : wpAny (model X.prog X.w) A (PySem.call (.ref f) us) (EP X pins σ Q) X.xe s := by
  have hl : us.length = ps.length := by rw [← r.length]; exact F.len _ _ _ _ h
  have b := hb s us I.kIn (by rw [List.append_nil]; exact hl)
  rw [List.append_nil] at b
  refine wpAny_call (codeAny_mono (F.run A X.stack s H ⟨us, []⟩ us vs Q (E σ) hr e0 b r h) fun r s' hq => ?_)
  cases r with
  | error e => exact hx pins H s e s' I hq
  | ok fl =>
    cases fl with
    | ret u => exact I.after hq
    | next => exact False.elim hq
    | brk => exact False.elim hq
    | cont => exact False.elim hq
theorem eqAns_ok {K : PySem.W.Frag} {cA : Cfg0} {W : WX} {σ : L2.St} {G : Hp} {am : List Addr} {C : Cells} {H : Hp} {Q : VK} {neg : Bool} {r : E} (d : Dn K cA (rE K cA) W σ (eqAns neg r C) G am C H Q) :
    ∃ t, r = .v (.bl t) ∧ Dn K cA (rE K cA) W σ (.ok (.v (.bl (t != neg))) C) G am C H Q := by
  unfold eqAns at d
  split at d
  · exact ⟨_, rfl, d⟩
  · exact d.elim
def eqR (pr : Prog) (call : Nat → List E → Cells → Ev.R E) (neg : Bool) (x y : E) (C : Cells) : Ev.R E := match eqOf pr C x y with
  | none => .bad
  | some f => (callAny call f [x, y] C).bind fun r C => eqAns neg r C
theorem eq_core (g : Gd sx k W X) (F : Facts X.prog X.w X.K X.mg X.base cA pr tb k call) (hh : sx.hot = false) (neg : Bool) {pins : List (Addr × Obj)} {σ : L2.St} {H : Hp} {s : Shared} {Q : VK} (I : Inv X pins σ H s) {x y : E} {vx vy : V} {v u : Value} (hx : RelV vx v) (hy : RelV vy u)
    {G : Hp} {am : List Addr} {C : Cells} (wd : Wd X.K cA G am C H) (rx : RelE X.K cA G am x vx) (ry : RelE X.K cA G am y vy) (d : Dn X.K cA (rE X.K cA) W σ (eqR pr call neg x y C) G am C H Q) :
    wpAny (model X.prog X.w) X.A (compareOp (if neg then .NotEq else .Eq) v u) (EP X pins σ fun z H' => ∃ t, z = .bl t ∧ Q z H') X.xe s := by
  unfold eqR at d
  cases hm : eqOf pr C x y with
  | none => simp only [hm] at d; exact d.elim
  | some f =>
    simp only [hm] at d
    unfold eqOf at hm
    split at hm
    · rename_i c c' hc1 hc2
      split at hm
      · rename_i hcc
        subst hcc
        unfold methOf at hm
        simp only [hc1, Option.bind_some] at hm
        split at hm
        · cases hm
        · rename_i cl hcl
          split at hm
          · cases hm
          · rename_i hex
            split at hm
            · rename_i hat
              obtain ⟨ad, Ca, dx, gs, rfl, z1, z2, z3⟩ := cls_rel wd rx hc1
              obtain ⟨bd, Cb, dy, gs', rfl, z1', z2', z3'⟩ := cls_rel wd ry hc2
              rw [z1] at z1'
              cases z1'
              obtain rfl : v = Value.ref ad := hx
              obtain rfl : u = Value.ref bd := hy
              have hex' : cl.exn = false := by simpa using hex
              obtain ⟨o1, _⟩ := F.oc c cl Ca hcl hex' z1
              obtain ⟨_, _, _, k4, _⟩ := F.ki c cl Ca hcl hex' z1
              have hne := F.ne c cl Ca hcl hex' z1
              obtain ⟨fm, fd, ps, hM, hb, hF⟩ := F.me c cl Ca _ f hcl hex' hm z1
              have hsl : PySem.W.findIn X.K (.ref Ca) "__eq__" = some (some (.ref fm)) := by
                have := hM.at_
                rwa [show T [95, 95, 101, 113, 95, 95] = ("__eq__" : Str) from by decide] at this
              obtain ⟨mA, O, _⟩ := ins_get I.hok z2
              obtain ⟨mB, O', _⟩ := ins_get I.hok z2'
              obtain ⟨od, J, _⟩ := O.look
              obtain ⟨od', J', _⟩ := O'.look
              have hsp : spF X.K cA call f [.ref ad, .ref bd] H (fun w H1 => ∃ t, w = .bl t ∧ Q (.bl (t != neg)) H1) (WE W σ) := by
                refine any_sp wd (show RelEs X.K cA G am [x, y] [.ref ad, .ref bd] from ⟨_, _, rfl, rx, _, _, rfl, ry, rfl⟩) (Dn.imp (Dn.bind (Rl := rE X.K cA) d) fun w H1 ⟨G1, am1, C1, r, x1, w1, r1, d1⟩ => ?_)
                obtain ⟨t, rfl, d2⟩ := eqAns_ok d1
                have r1' : RelD X.K cA G1 (.bl t) w := r1
                simp only [RelD] at r1'
                exact ⟨t, r1', d2.here w1 (by simp only [rE, RelE, RelD])⟩
              have hr := g.room hh
              cases neg with
              | false =>
                obtain ⟨m, hFr⟩ := I.fr
                refine PySem.W.cmp_ofEq (PySem.W.cmp_K (op := .Eq) (tb := .ref Ca) (by have := g.un; omega) hFr I.ok.mod.kin J J'.type (by simp [PySem.W.notFirst]) hsl hM.fn ?_)
                refine wpAny_mono (run_fnAt (us := [.ref ad, .ref bd]) (vs := [.ref ad, .ref bd]) hF (hr.mono (Nat.le_succ _)) I.env0 hb (passAt g.tk σ) I (.cons rfl (.cons rfl .nil)) hsp) (fun w s' z => ?_) fun _ _ e => e
                obtain ⟨z, H1, I1, rz, t, ez, q⟩ := z
                subst ez
                obtain rfl : w = Value.bool t := rz
                show EP X pins σ _ (Value.bool t) s'
                exact ⟨.bl t, H1, I1, rfl, t, rfl, by simpa using q⟩
              | true =>
                refine PySem.W.cmp_ofNotEq (OwN.rc_ne (by have := g.un; omega) I.kIn J J' k4 hne hsl hM.fn ?_)
                refine wpAny_mono (run_fnAt (A := X.A.in1) (us := [.ref ad, .ref bd]) (vs := [.ref ad, .ref bd]) hF hr.in1 I.env0.in1 hb (passAt g.tk σ) I (.cons rfl (.cons rfl .nil)) hsp) (fun w s' z => ?_) fun _ _ e => e
                obtain ⟨z, H1, I1, rz, t, ez, q⟩ := z
                subst ez
                obtain rfl : w = Value.bool t := rz
                exact ⟨t, rfl, .bl (!t), H1, I1, rfl, !t, rfl, by simpa using q⟩
            · cases hm
      · cases hm
    · cases hm
theorem eqI_hm {neg : Bool} : behindInMarks (if neg then CmpOp.NotEq else CmpOp.Eq) b = false := by cases neg <;> exact nomark b
theorem r_eqI (g : Gd sx k W X) (F : Facts X.prog X.w X.K X.mg X.base cA pr tb k call) (hh : sx.hot = false) (neg : Bool) (ha : PE X a (tE X.K cA W fa)) (hb : PE X b (tE X.K cA W fb)) :
    PE X (.Compare a [if neg then .NotEq else .Eq] [b] pos) (tE X.K cA W fun env C => (fa env C).bind fun x C => (fb env C).bind fun y C => eqR pr call neg x y C) := by
  refine ⟨fun pins s σ H Q I h => ?_⟩
  obtain ⟨env, G, am, C, re, wd, d⟩ := tE_two h
  refine wpAny_Compare1 (thn (ha.run pins s σ H _ I ⟨env, G, am, C, re, wd, d⟩) fun v s1 ⟨vx, H1, I1, r1, env1, G1, am1, C1, re1, w1, d1⟩ => thn (hb.run pins s1 σ H1 _ I1 ⟨env1, G1, am1, C1, re1, w1, d1⟩) fun u s2 ⟨vy, H2, I2, r2, env2, G2, am2, C2, x, y, re2, w2, rx, ry, d2⟩ => ?_) eqI_hm
  exact thn (eq_core g F hh neg I2 r1 r2 w2 rx ry d2) fun w s3 ⟨z, H3, I3, rz, t, ez, q⟩ => ⟨z, H3, I3, rz, q⟩
theorem r_teqI (g : Gd sx k W X) (F : Facts X.prog X.w X.K X.mg X.base cA pr tb k call) (hh : sx.hot = false) (neg : Bool) (ha : PE X a (tE X.K cA W fa)) (hb : PE X b (tE X.K cA W fb)) :
    PT X (.Compare a [if neg then .NotEq else .Eq] [b] pos) (tT X.K cA W fun env C => tru ((fa env C).bind fun x C => (fb env C).bind fun y C => eqR pr call neg x y C)) := by
  refine ⟨fun pins s σ H Q I ⟨env, G, am, C, re, wd, d⟩ => ?_⟩
  simp only [tru, truR, bind_assoc] at d
  have d0 : Dn X.K cA (rE X.K cA) W σ (fa env C) G am C H fun vx H1 => tE X.K cA W fb σ H1 fun vy H2 => ∃ G2 am2 C2 x y, Wd X.K cA G2 am2 C2 H2 ∧ RelE X.K cA G2 am2 x vx ∧ RelE X.K cA G2 am2 y vy ∧ Dn X.K cA rB W σ ((eqR pr call neg x y C2).bind fun x C => R.of (truE C x) C) G2 am2 C2 H2 Q := by
    refine Dn.imp (Dn.bind (Rl := rE X.K cA) d) fun vx H1 ⟨G1, am1, C1, x, x1, w1, rx, d1⟩ => ?_
    refine ⟨env, G1, am1, C1, re.mono x1, w1, Dn.imp (Dn.bind (Rl := rE X.K cA) d1) fun vy H2 ⟨G2, am2, C2, y, x2, w2, ry, d2⟩ => ?_⟩
    exact ⟨G2, am2, C2, x, y, w2, RelE.mono x2.g x2.a rx, ry, d2⟩
  refine wpAny_isTrue_Compare1 (thn (ha.run pins s σ H _ I ⟨env, G, am, C, re, wd, d0⟩) fun v s1 ⟨vx, H1, I1, r1, q1⟩ => thn (hb.run pins s1 σ H1 _ I1 q1) fun u s2 ⟨vy, H2, I2, r2, G2, am2, C2, x, y, w2, rx, ry, d2⟩ => ?_) eqI_hm
  refine thn (eq_core g F hh neg I2 r1 r2 w2 rx ry (Dn.bind (Rl := rE X.K cA) d2)) fun w s3 ⟨z, H3, I3, rz, t, ez, G3, am3, C3, e, x3, w3, r3, d3⟩ => ?_
  subst ez
  obtain rfl : w = Value.bool t := rz
  cases e with
  | v dd =>
    have r3' : RelD X.K cA G3 dd (.bl t) := r3
    cases dd with
    | bl t' =>
      simp only [RelD] at r3'
      cases r3'
      exact wpAny_truthy_bool ⟨H3, I3, d3.here w3 rfl⟩
    | _ => simp only [RelD] at r3' <;> first | (cases r3'; done) | (obtain ⟨_, _, z, _⟩ := r3'; cases z; done) | (obtain ⟨_, _, _, _, z, _⟩ := r3'; cases z; done) | (obtain ⟨_, _, _, z, _⟩ := r3'; cases z; done)
  | r n =>
    obtain ⟨ad, _, z⟩ := r3
    cases z
  | clo j => exact (show False from r3).elim
  | exn c fs => exact (show False from r3).elim
end
end Ev

end

section
set_option maxRecDepth 512
set_option Elab.async false
set_option linter.all false
set_option maxRecDepth 100000
set_option maxHeartbeats 4000000
namespace Ev
open PySem L2 PySem.Spec PyProof.Rows
/-! ### a dict that is being made -/
section
variable {K : PySem.W.Frag} {cA : Cfg0} {G G' G0 : Hp} {am am' am0 : List Addr} {C C' C0 : Cells} {H H' H0 : Hp} {D : Addr} {us : List (Key × V)}
structure SideK (G : Hp) (am : List Addr) (C : Cells) (H : Hp) (D : Addr) (us : List (Key × V)) : Prop where
  here : H D = some (.dK us)
  g : G D = none
  l : ¬ Live am C D
theorem SideK.ext (s : SideK G am C H D us) (x : Ext G am C H G' am' C' H') : SideK G' am' C' H' D us where
  here := x.keep _ _ s.here s.l (by intro ps q; cases q)
  g := by
    cases e : G' D with
    | none => rfl
    | some o =>
      rcases x.gn D o e with z | z | z
      · rw [s.g] at z; cases z
      · rw [s.here] at z; cases z
      · exact (s.l z).elim
  l := fun z => by
    rcases x.live D z with z | z
    · exact s.l z
    · rw [s.here] at z; cases z
theorem SideK.wd (s : SideK G am C H D us) (wd : Wd K cA G am C H) (o : HO) : Wd K cA G am C (upd H D o) := by
  refine ⟨wd.tab_to (Same.refl _) (fun P ps e => by rw [upd_ne (fun z => by rw [z, s.here] at e; cases e)]; exact e) fun _ _ _ n => n, fun b u q => ?_, wd.len, fun i c e => ?_, wd.inj⟩
  · have : b ≠ D := fun z => by rw [z, s.g] at q; cases q
    rw [upd_ne this]; exact wd.sub _ _ q
  · obtain ⟨a, h1, h2, h3⟩ := wd.cell i c e
    have na : a ≠ D := fun z => s.l ⟨i, c, e, z ▸ h1⟩
    refine ⟨a, h1, ?_, h3⟩
    cases c with
    | lst xs => obtain ⟨us, z, r⟩ := h2; exact ⟨us, by rw [upd_ne na]; exact z, r⟩
    | lkd xs => obtain ⟨us, z, r⟩ := h2; exact ⟨us, by rw [upd_ne na]; exact z, r⟩
    | dct kvs => obtain ⟨us, z, r⟩ := h2; exact ⟨us, by rw [upd_ne na]; exact z, r⟩
    | ins c fs =>
      obtain ⟨Ca, dx, gs, z1, z2, z3, r⟩ := h2
      have nd : dx ≠ D := fun z => by rw [z, s.here] at z3; cases z3
      exact ⟨Ca, dx, gs, z1, by rw [upd_ne na]; exact z2, by rw [upd_ne nd]; exact z3, r⟩
theorem SideK.upd (s : SideK G am C H D us) (vs : List (Key × V)) : SideK G am C (L2.upd H D (.dK vs)) D vs := ⟨upd_same, s.g, s.l⟩
theorem SideK.new (wd : Wd K cA G am C H) (hn : H D = none) : SideK G am C (L2.upd H D (.dK us)) D us ∧ Wd K cA G am C (L2.upd H D (.dK us)) := by
  obtain ⟨s, _⟩ := Side.new (us := []) wd hn
  have sh : Same H (L2.upd H D (.dK us)) := fun b u q => by rw [upd_ne (ne_of_none q hn)]; exact q
  refine ⟨⟨upd_same, s.g, s.l⟩, ?_⟩
  refine ⟨wd.tab_to (Same.refl _) (fun P ps e => sh _ _ e) fun _ _ _ n => n, fun b u q => sh _ _ (wd.sub _ _ q), wd.len, fun i c e => ?_, wd.inj⟩
  obtain ⟨a, h1, h2, h3⟩ := wd.cell i c e
  refine ⟨a, h1, ?_, h3⟩
  cases c with
  | lst xs => obtain ⟨us, z, r⟩ := h2; exact ⟨us, sh _ _ z, r⟩
  | lkd xs => obtain ⟨us, z, r⟩ := h2; exact ⟨us, sh _ _ z, r⟩
  | dct kvs => obtain ⟨us, z, r⟩ := h2; exact ⟨us, sh _ _ z, r⟩
  | ins c fs => obtain ⟨Ca, dx, gs, z1, z2, z3, r⟩ := h2; exact ⟨Ca, dx, gs, z1, sh _ _ z2, sh _ _ z3, r⟩
/-- it is made, and locked -/
theorem SideK.done (s : SideK G am C H D us) (wd : Wd K cA G am C H) (od : Obj) : Wd K cA (L2.upd G D (.frz od (.dK us))) am C (L2.upd H D (.frz od (.dK us))) ∧ Same G (L2.upd G D (.frz od (.dK us))) := by
  have w1 := s.wd wd (.frz od (.dK us))
  have sg : Same G (L2.upd G D (.frz od (.dK us))) := fun b u q => by rw [upd_ne (ne_of_none q s.g)]; exact q
  refine ⟨⟨w1.tab_to sg (fun _ _ e => e) fun P ps e n => by rw [upd_ne (fun z => by rw [z, upd_same] at e; cases e)]; exact n, fun b u q => ?_, w1.len, fun i c e => ?_, w1.inj⟩, sg⟩
  · by_cases hb : b = D
    · subst hb; rw [upd_same] at q; cases q; exact upd_same
    · rw [upd_ne hb] at q; exact w1.sub _ _ q
  · obtain ⟨a, h1, h2, h3⟩ := w1.cell i c e
    have na : a ≠ D := fun z => s.l ⟨i, c, e, z ▸ h1⟩
    refine ⟨a, h1, ?_, by rw [upd_ne na]; exact h3⟩
    cases c with
    | lst xs => obtain ⟨us, z, r⟩ := h2; exact ⟨us, z, r.mono sg⟩
    | lkd xs => obtain ⟨us, z, r⟩ := h2; exact ⟨us, z, r.mono sg⟩
    | dct kvs => obtain ⟨us, z, r⟩ := h2; exact ⟨us, z, r.mono sg⟩
    | ins c fs => obtain ⟨Ca, dx, gs, z1, z2, z3, r⟩ := h2; exact ⟨Ca, dx, gs, z1, z2, z3, r.mono sg ⟨[], by simp⟩⟩
theorem Ext.doneO (x : Ext G0 am0 C0 H0 G am C H) (wd0 : Wd K cA G0 am0 C0 H0) (hn : H0 D = none) (o : HO) : Ext G0 am0 C0 H0 (L2.upd G D o) am C (L2.upd H D o) := by
  have x' := x.side hn o
  exact ⟨fun b u q => by
      have : b ≠ D := fun z => by
        have := wd0.sub _ _ q
        rw [z, hn] at this; cases this
      rw [upd_ne this]; exact x'.g _ _ q, x'.a, x'.keep, x'.tab, x'.live, fun b u q => by
      by_cases hb : b = D
      · subst hb; exact .inr (.inl hn)
      · rw [upd_ne hb] at q; exact x'.gn b u q, x'.lk⟩
end
section
variable {X : Cx} {cA : Cfg} {pos : Pos}
theorem turnsD_rel {t : Tg} {vs : List Nat} {ft : Env → Cells → Ev.R Bool} {fk fv : Env → Cells → Ev.R E} {D : Addr} {σ : L2.St} {env : Env} {G1 : Hp} {am1 : List Addr} {C1 : Cells} {H1 : Hp} {us : List (Key × V)} {acc dsF : List (Ev.D × Ev.D)} {ds : List Ev.D} {CF : Cells} {J : L2.It} {Fin : Hp → Prop} {K : PySem.W.Frag}
    (re : RelEnv K cA G1 am1 env σ) (w1 : Wd K cA G1 am1 C1 H1) (s1 : SideK G1 am1 C1 H1 D us) (ra : RelKV K cA G1 acc us) (wk : WalkD K cA J ds G1 am1 C1 H1) (ht : ∀ i ∈ tsl t, i ∈ vs)
    (hF : compD (wipeE env vs) t (fun env C acc => stepD (ft env C) (fun C => pushKV (fk env C) (fun C => fv env C) acc) acc) ds C1 acc = .ok dsF CF)
    (hfin : ∀ G' am' H' us', ExtD D G1 am1 C1 H1 G' am' CF H' → Wd K cA G' am' CF H' → SideK G' am' CF H' D us' → RelKV K cA G' dsF us' → Fin H') :
    ∃ W : Nat → Nat → Hp → Prop, (∃ m, W 0 m H1) ∧ ∀ i m H, W i m H →
      (J.stop i H ∧ Fin H) ∨ (J.go i H ∧ ∃ Nx1 : Hp → Prop, (∀ H', Nx1 H' → ∃ m', m' < m ∧ W (i + 1) m' H') ∧ ∀ x H', J.yld i H x H' → tG K cA t x (L2.wipe σ vs) H' fun σ2 H2 => L2.wipe σ2 vs = L2.wipe σ vs ∧ tT K cA W0 ft σ2 H2 fun b H3 =>
        if b = true then tE K cA W0 fk σ2 H3 fun y H4 => tE K cA W0 fv σ2 H4 fun z H5 => ∃ kvs k, y = kV k ∧ H5 D = some (.dK kvs) ∧ kvs.length < sizeLine ∧ Nx1 (L2.upd H5 D (.dK (putK kvs k z))) else Nx1 H3) := by
  have re0 := re.wipe vs
  generalize henv : wipeE env vs = env0 at hF re0
  generalize hbd : (fun (env : Env) (C : Cells) (acc : List (Ev.D × Ev.D)) => stepD (ft env C) (fun C => pushKV (fk env C) (fun C => fv env C) acc) acc) = bd at hF
  let Pv : Nat → Hp → Prop := fun i Hc => ∃ G2 am2 C2 acc us, ExtD D G1 am1 C1 H1 G2 am2 C2 Hc ∧ Wd K cA G2 am2 C2 Hc ∧ SideK G2 am2 C2 Hc D us ∧ RelKV K cA G2 acc us ∧ compD env0 t bd (ds.drop i) C2 acc = .ok dsF CF
  refine ⟨fun i m Hc => m = ds.length - i ∧ i ≤ ds.length ∧ Pv i Hc, ⟨ds.length, by simp, Nat.zero_le _, G1, am1, C1, acc, us, ExtD.refl, w1, s1, ra, by rw [List.drop_zero]; exact hF⟩, ?_⟩
  rintro i m Hc ⟨rfl, hi', G2, am2, C2, acc, us, x2, w2, s2, ra, hfu⟩
  obtain ⟨go, stop, yld⟩ := wk G2 am2 C2 Hc x2.bhd w2
  by_cases hlt : i < ds.length
  · refine .inr ⟨go i hlt, Pv (i + 1), fun H' p => ⟨ds.length - (i + 1), by omega, rfl, hlt, p⟩, fun x H' y => ?_⟩
    obtain ⟨dd, G3, hd, x3, w3, rd⟩ := yld i x H' hlt y
    have hdrop : ds.drop i = dd :: ds.drop (i + 1) := by
      rw [List.drop_eq_getElem_cons hlt]
      congr 1
      have := List.getElem?_eq_getElem hlt
      rw [this] at hd; exact Option.some.inj hd
    rw [hdrop, compD] at hfu
    cases ha : asgT t dd env0 with
    | none => rw [ha] at hfu; dsimp only at hfu; cases hfu
    | some e1 =>
      rw [ha] at hfu
      dsimp only at hfu
      have re3 : RelEnv K cA G3 am2 env0 (L2.wipe σ vs) := (re0.mono x2).mono x3
      refine ⟨env0, G3, am2, C2, dd, e1, re3, w3, rd, ha, fun σ2 re2 off => ⟨(off.wipe ht).trans wipe_wipe, ?_⟩⟩
      have hb1 : bd e1 C2 acc = (ft e1 C2).bind fun b C => if b then pushKV (fk e1 C) (fun C => fv e1 C) acc else .ok acc C := by rw [← hbd]; rfl
      rw [hb1] at hfu
      refine ⟨e1, G3, am2, C2, re2, w3, ?_⟩
      cases et : ft e1 C2 with
      | bad => rw [et, Ev.R.bind_bad, Ev.R.bind_bad] at hfu; cases hfu
      | exc c fs C3 => rw [et, Ev.R.bind_exc, Ev.R.bind_exc] at hfu; cases hfu
      | ok b C3 =>
        rw [et, Ev.R.bind_ok] at hfu
        intro G4 am4 H4 v x4 w4 ev
        cases ev
        have x34 := x3.trans x4
        have s4 := s2.ext x34
        have x24 := ExtD.trans x2 (Ext.toD (D := D) x34)
        have ra4 := ra.mono x34.g
        cases b with
        | false =>
          rw [if_neg (by decide)] at hfu ⊢
          rw [Ev.R.bind_ok] at hfu
          exact ⟨G4, am4, C3, acc, us, x24, w4, s4, ra4, hfu⟩
        | true =>
          rw [if_pos rfl] at hfu ⊢
          unfold pushKV at hfu
          refine ⟨e1, G4, am4, C3, re2.mono x4, w4, ?_⟩
          cases ek : fk e1 C3 with
          | bad => rw [ek, Ev.R.bind_bad, Ev.R.bind_bad] at hfu; cases hfu
          | exc c fs C4 => rw [ek, Ev.R.bind_exc, Ev.R.bind_exc] at hfu; cases hfu
          | ok kx C4 =>
            rw [ek, Ev.R.bind_ok] at hfu
            replace hfu : ((fv e1 C4).bind fun y C => match kx, y with
              | .v k, .v v => if keyB k && decide (acc.length < line) then Ev.R.ok (putKd k v acc) C else .bad
              | _, _ => .bad).bind (fun a C => compD env0 t bd (List.drop (i + 1) ds) C a) = .ok dsF CF := hfu
            intro G5 am5 H5 vk x5 w5 rk
            refine ⟨e1, G5, am5, C4, (re2.mono x4).mono x5, w5, ?_⟩
            cases ee : fv e1 C4 with
            | bad => rw [ee, Ev.R.bind_bad, Ev.R.bind_bad] at hfu; cases hfu
            | exc c fs C4 => rw [ee, Ev.R.bind_exc, Ev.R.bind_exc] at hfu; cases hfu
            | ok vx C5 =>
              rw [ee, Ev.R.bind_ok] at hfu
              intro G6 am6 H6 vz x6 w6 rz
              cases kx with
              | v dk =>
                cases vx with
                | v dv =>
                  dsimp only at hfu
                  by_cases hk : (keyB dk && decide (acc.length < line)) = true
                  · rw [if_pos hk, Ev.R.bind_ok] at hfu
                    rw [Bool.and_eq_true, decide_eq_true_eq] at hk
                    obtain ⟨kk, q1, q2⟩ := keyR_rel hk.1 rk
                    have x56 := x5.trans x6
                    have s6 := s4.ext x56
                    have ra6 := ra4.mono x56.g
                    exact ⟨us, kk, q2, s6.here, by rw [← ra4.length, ← line_eq]; exact hk.2, G6, am6, C5, _, _, ExtD.trans x24 ((Ext.toD x56).offD upd_off), s6.wd w6 _, s6.upd _, ra6.put q1 rz, hfu⟩
                  · rw [if_neg hk, Ev.R.bind_bad] at hfu; cases hfu
                | _ => dsimp only at hfu; rw [Ev.R.bind_bad] at hfu; cases hfu
              | _ => cases vx <;> (dsimp only at hfu; rw [Ev.R.bind_bad] at hfu; cases hfu)
  · have hie : i = ds.length := by omega
    subst hie
    refine .inl ⟨stop, ?_⟩
    rw [List.drop_length, compD] at hfu
    cases hfu
    exact hfin G2 am2 Hc us x2 w2 s2 ra
theorem r_dcomp {W : WX} {fi : Env → Cells → Ev.R (List D × E)} {t : Tg} {own : List (Str × Nat)} {ft : Env → Cells → Ev.R Bool} {fk fv : Env → Cells → Ev.R E} {tg iter kx vx : Expr} {ifs : List Expr} {scope : Scope}
    (hc : X.calm = true) (nd : X.N.Nodup) (hi : PI X tg iter (tI X.K cA W fi)) (ok : BlkOk X.N X.env.scope scope own) (hown : ∀ i ∈ tsl t, i ∈ own.map (·.2))
    (hg : ∀ (s : Shared) (H : Hp) (C : Addr) (cl : List (Str × Addr)) (fp : List Addr), PG (X.blk s H scope (compEnvC scope cl C X.env) fp) tg (tG X.K cA t))
    (ht : ∀ (s : Shared) (H : Hp) (C : Addr) (cl : List (Str × Addr)) (fp : List Addr), PTs (X.blk s H scope (compEnvC scope cl C X.env) fp) ifs (tT X.K cA W0 ft))
    (hk : ∀ (s : Shared) (H : Hp) (C : Addr) (cl : List (Str × Addr)) (fp : List Addr), PE (X.blk s H scope (compEnvC scope cl C X.env) fp) kx (tE X.K cA W0 fk))
    (he : ∀ (s : Shared) (H : Hp) (C : Addr) (cl : List (Str × Addr)) (fp : List Addr), PE (X.blk s H scope (compEnvC scope cl C X.env) fp) vx (tE X.K cA W0 fv)) (hs : plainX iter = true) :
    PE X (.DictComp kx vx [⟨tg, iter, ifs, 0⟩] scope pos) (tE X.K cA W fun env C => (fi env C).bind fun w C =>
      (noexc (compD (wipeE env (own.map (·.2))) t (fun env C acc => stepD (ft env C) (fun C => pushKV (fk env C) (fun C => fv env C) acc) acc) w.1 (lock C w.2) [])).bind fun ds C' => .ok (.v (.dct ds)) (unlock C C' w.2)) := by
  refine PE.imp (pe_lockV (pe_dc hc nd hi ok hg ht hk he (folded_plain hs))) fun σ H Q h => ?_
  obtain ⟨env, G, am, C, re, wd, d⟩ := h
  refine ⟨env, G, am, C, re, wd, ?_⟩
  dsimp only at d
  cases ei : fi env C with
  | bad => rw [ei] at d; exact d.elim
  | exc c fs C1 => rw [ei] at d; exact d
  | ok wv C1 =>
    obtain ⟨ds, e⟩ := wv
    rw [ei, Ev.R.bind_ok] at d
    intro G1 am1 H1 J x1 w1 wk L hL
    have d1 := d.shift x1
    dsimp only at d1 wk
    obtain ⟨dsF, CF, hF⟩ := noexc_bad d1
    rw [hF] at d1
    simp only [noexc, Ev.R.bind_ok] at d1
    obtain ⟨w1l, x1l⟩ := w1.lock e
    obtain ⟨s1, w2⟩ := SideK.new (us := []) w1l hL
    refine turnsD_rel ((re.mono x1).mono x1l) w2 s1 (by simp only [RelKV]) (fun G2 am2 C2 H2 x2 w2 => wk G2 am2 C2 H2 x2 w2) hown hF fun G' am' H' us' x' w' s' r' => ?_
    have xx : Ext G1 am1 (lock C1 e) H1 G' am' CF H' := by
      have e0 : delD (L2.upd H1 L (.dK [])) L = H1 := by
        funext b
        by_cases hb : b = L
        · subst hb; unfold delD; rw [if_pos rfl, hL]
        · rw [delD_ne hb, upd_ne hb]
      have x' := x'
      unfold ExtD at x'
      rw [e0] at x'
      exact x'
    refine .inr ⟨L, .dK us', rfl, s'.here, True.intro, fun od => ?_⟩
    obtain ⟨w3, sg⟩ := s'.done w' od
    have x3 := xx.doneO w1l hL (.frz od (.dK us'))
    obtain ⟨w4, x4⟩ := Wd.unlock x3 w3
    refine d1 _ _ _ (.ref L) x4 w4 ?_
    simp only [rE, RelE, RelD]
    exact ⟨L, od, us', rfl, upd_same, r'.mono sg⟩
end
end Ev

end

section
set_option maxRecDepth 512
set_option Elab.async false
set_option linter.all false
set_option maxRecDepth 100000
set_option maxHeartbeats 4000000
namespace Ev
open PySem L2 PySem.Spec PyProof.Rows

/-! ### the text that an IR stands for -/
def nmIs (o : Option Nm) (x : Str) : Bool := match o with
  | some nm => decide (T nm = x) && !nm.isEmpty
  | none => false
theorem nmIs_ok {o : Option Nm} {x : Str} (h : nmIs o x = true) : ∃ nm, o = some nm ∧ T nm = x ∧ nm ≠ [] := by
  unfold nmIs at h
  split at h
  · rename_i nm
    simp only [Bool.and_eq_true, decide_eq_true_eq, Bool.not_eq_true', List.isEmpty_eq_false_iff] at h
    exact ⟨nm, rfl, h.1, h.2⟩
  · cases h
def ownP (N : List Nm) (own : List Nat) : List (Str × Nat) := own.map fun i => (T (N[i]?.getD []), i)
theorem ownP_snd (N : List Nm) (own : List Nat) : (ownP N own).map (·.2) = own := by
  unfold ownP
  rw [List.map_map]
  conv => rhs; rw [← List.map_id own]
  rfl
def blkSx (sx : Sx) (scope : Scope) (own : List Nat) : Sx :=
  { N := sx.N, sc := relS scope sx.sc, hot := sx.hot, top := false, lam := false, exc := false, st := own.map fun i => sx.N[i]?.getD [] }
def stC (scope : Scope) (x : Str) : Bool := match scope.names.lookup x with
  | some .local => true
  | some .cell => true
  | _ => false
/-- an own class that is no exception's; one that has its own __init__ -/
def ownB (pr : Prog) (c : Nat) : Bool := match pr.cls[c]? with
  | some cl => !cl.exn
  | none => false
def iniB (pr : Prog) (c : Nat) : Bool := match pr.cls[c]? with
  | some cl => !cl.exn && cl.init.isSome
  | none => false
theorem ownB_ok {pr : Prog} {c : Nat} (h : ownB pr c = true) : ∃ cl, pr.cls[c]? = some cl ∧ cl.exn = false := by
  unfold ownB at h
  split at h
  · rename_i cl hc; exact ⟨cl, hc, by simpa using h⟩
  · cases h
theorem iniB_ok {pr : Prog} {c : Nat} (h : iniB pr c = true) : ∃ cl f, pr.cls[c]? = some cl ∧ cl.exn = false ∧ cl.init = some f := by
  unfold iniB at h
  split at h
  · rename_i cl hc
    simp only [Bool.and_eq_true, Bool.not_eq_true', Option.isSome_iff_exists] at h
    obtain ⟨h1, f, h2⟩ := h
    exact ⟨cl, f, hc, h1, h2⟩
  · cases h
section
variable (pr : Prog) (tb : Tab)
mutual
def ckE (sx : Sx) : Ex → Expr → Bool
  | .slot i, x0 => match x0 with
    | .Name x _ => nmAt sx.N i x && visB sx.sc x && nmOk x
    | _ => false
  | .cst k, x0 => match x0 with
    | .Constant c _ _ => decide (kOk k c)
    | _ => false
  | .glob gi, x0 => match x0 with
    | .Name x _ => nmIs tb.gl[gi]? x && glB sx.sc x
    | _ => false
  | .tup es, x0 => match x0 with
    | .Tuple xs _ _ => ckEs sx es xs
    | _ => false
  | .lst _ es, x0 => match x0 with
    | .List xs _ => ckEs sx es xs
    | _ => false
  | .bop o a b, x0 => match x0 with
    | .BinOp x op y _ => decide (op = bopO o) && ckE sx a x && ckE sx b y
    | _ => false
  | .cmp o a b, x0 => match x0 with
    | .Compare x [op] [y] _ => decide (op = copO o) && plainX y && ckE sx a x && ckE sx b y
    | _ => false
  | .isN neg a, x0 => match x0 with
    | .Compare x [op] [.Constant .none _ _] _ => decide (op = if neg then .IsNot else .Is) && ckE sx a x
    | _ => false
  | .and a b, x0 => match x0 with
    | .BoolOp .And (x :: y :: rest) pos => ckE sx a x && ckE sx b (.BoolOp .And (y :: rest) pos)
    | _ => false
  | .or a b, x0 => match x0 with
    | .BoolOp .Or (x :: y :: rest) pos => ckE sx a x && ckE sx b (.BoolOp .Or (y :: rest) pos)
    | _ => false
  | .one a, x0 => match x0 with
    | .BoolOp _ [x] _ => ckE sx a x
    | _ => false
  | .not a, x0 => match x0 with
    | .UnaryOp .Not x _ => ckE sx a x
    | _ => false
  | .ite c a b, x0 => match x0 with
    | .IfExp x y z _ => ckE sx c x && ckE sx a y && ckE sx b z
    | _ => false
  | .idx a i, x0 => match x0 with
    | .Subscript x y _ => plainX y && ckE sx a x && ckE sx i y
    | _ => false
  | .sl a lo hi, x0 => match x0 with
    | .Subscript x (.Slice lo' hi' none _) _ => ckE sx a x && ckO sx lo lo' && ckO sx hi hi'
    | _ => false
  | .xf i f, x0 => match x0 with
    | .Attribute (.Name x _) n _ => sx.exc && nmAt sx.N i x && visB sx.sc x && nmOk x && decide (T f = n)
    | _ => false
  | .call f es, x0 => match x0 with
    | .Call (.Name x _) xs [] _ => nmIs tb.fn[f]? x && glB sx.sc x && !sx.hot && xs.all plainX && ckEs sx es xs
    | _ => false
  | .callP f es, x0 => match x0 with
    | .Call (.Name x _) xs [] _ => nmIs tb.fn[f]? x && glB sx.sc x && !sx.hot && xs.all plainX && ckEs sx es xs
    | _ => false
  | .bi b es, x0 => match x0 with
    | .Call (.Name x _) xs [] _ => decide ((biN b : Str) = x) && glB sx.sc x && (biHot b || !sx.hot) && xs.all plainX && !xs.isEmpty && ckEs sx es xs
    | _ => false
  | .isi a ts, x0 => match ts, x0 with
    | [t], .Call (.Name x _) [y, .Name z _] [] _ => decide (("isinstance" : Str) = x) && glB sx.sc x && tyOk t && decide ((tyN t : Str) = z) && glB sx.sc z && plainX y && ckE sx a y
    | [t, u], .Call (.Name x _) [y, .Tuple [.Name z _, .Name v _] _ _] [] _ => decide (("isinstance" : Str) = x) && glB sx.sc x && tyOk t && decide ((tyN t : Str) = z) && glB sx.sc z && tyOk u && decide ((tyN u : Str) = v) && glB sx.sc v && plainX y && ckE sx a y
    | _, _ => false
  | .bm m a es, x0 => match m, x0 with
    | .count, .Call (.Attribute x n p) [y] [] q => decide (n = ("count" : Str)) && attrX x && (p.endLine == q.line) && ckE sx a x && plainX y && ckEs sx es [y]
    | _, _ => false
  | .mm m a es, x0 => match m, x0 with
    | .append, .Call (.Attribute x n p) [y] [] q => decide (n = ("append" : Str)) && attrX x && (p.endLine == q.line) && ckE sx a x && plainX y && ckEs sx es [y]
    | .popAt, .Call (.Attribute x n p) [y] [] q => decide (n = ("pop" : Str)) && attrX x && (p.endLine == q.line) && ckE sx a x && plainX y && ckEs sx es [y]
    | .pop, .Call (.Attribute x n p) [] [] q => decide (n = ("pop" : Str)) && attrX x && (p.endLine == q.line) && ckE sx a x && ckEs sx es []
    | _, _ => false
  | .comp own t it ifs r, x0 => match x0 with
    | .ListComp elt (⟨tg, iter, ifs', 0⟩ :: gs) scope _ => !sx.hot && ckI sx it tg iter && plainX iter && blkC (sx.N.map T) sx.sc scope (ownP sx.N own) && (tsl t).all (own.contains ·) && (gsl r).all (own.contains ·) && gs.all (·.is_async == 0) &&
      own.all (fun i => stC scope (T (sx.N[i]?.getD []))) && ckT (blkSx sx scope own) t tg && ckC (blkSx sx scope own) ifs ifs' && ckG (blkSx sx scope own) r elt gs
    | _ => false
  | .cp a, x0 => match x0 with
    | .Call (.Name x _) [y] [] _ => decide (("list" : Str) = x) && glB sx.sc x && !sx.hot && plainX y && ckE sx a y
    | _ => false
  | .frz a, x => testX x && ckE sx a x
  | .callL i, x0 => match x0 with
    | .Call (.Name x _) [] [] _ => (sx.lam && sx.top) && !sx.hot && nmAt sx.N i x && visB sx.sc x && nmOk x
    | _ => false
  | .dnew, x0 => match x0 with
    | .Dict [] [] _ => true
    | _ => false
  | .dix a i, x0 => match x0 with
    | .Subscript x y _ => plainX y && ckE sx a x && ckE sx i y
    | _ => false
  | .dgt a k d, x0 => match x0 with
    | .Call (.Attribute x n p) [y, z] [] q => decide (n = ("get" : Str)) && attrX x && plainX y && plainX z && (p.endLine == q.line) && ckE sx a x && ckE sx k y && ckE sx d z
    | _ => false
  | .dcomp own t it ifs kx vx, x0 => match x0 with
    | .DictComp k v [⟨tg, iter, ifs', 0⟩] scope _ => !sx.hot && ckI sx it tg iter && plainX iter && blkC (sx.N.map T) sx.sc scope (ownP sx.N own) && (tsl t).all (own.contains ·) &&
      own.all (fun i => stC scope (T (sx.N[i]?.getD []))) && ckT (blkSx sx scope own) t tg && ckC (blkSx sx scope own) ifs ifs' && ckE (blkSx sx scope own) kx k && ckE (blkSx sx scope own) vx v
    | _ => false
  | .eqI neg a b, x0 => match x0 with
    | .Compare x [op] [y] _ => decide (op = if neg then .NotEq else .Eq) && !sx.hot && ckE sx a x && ckE sx b y
    | _ => false
  | .gix g i, x0 => match x0 with
    | .Subscript (.Name x _) y _ => (pr.gd[g]?).isSome && nmIs tb.gd[g]? x && glB sx.sc x && plainX y && ckE sx i y
    | _ => false
  | .gin neg g i, x0 => match x0 with
    | .Compare y [op] [.Name x _] _ => decide (op = if neg then .NotIn else .In) && (pr.gd[g]?).isSome && nmIs tb.gd[g]? x && glB sx.sc x && ckE sx i y
    | _ => false
  | .cmp2 o o' a b c, x0 => match x0 with
    | .Compare x [p, q] [y, z] _ => decide (p = copO o) && decide (q = copO o') && !lastMarks [copO o, copO o'] [y, z] && ckE sx a x && ckE sx b y && ckE sx c z
    | _ => false
  | .neg a, x0 => match x0 with
    | .UnaryOp .USub x _ => ckE sx a x
    | _ => false
  | .rev a, x0 => match x0 with
    | .Subscript x (.Slice none none (some (.UnaryOp .USub (.Constant (.int 1) _ _) _)) _) _ => ckE sx a x
    | _ => false
  | .attr a f, x0 => match x0 with
    | .Attribute x n _ => attrX x && decide (T f = n) && ckE sx a x
    | _ => false
  | .meth o m es, x0 => match x0 with
    | .Call (.Attribute x n p) xs [] q => !sx.hot && attrX x && decide (T m = n) && (p.endLine == q.line) && xs.all plainX && decide (xs.length < 29) && ckE sx o x && ckEs sx es xs
    | _ => false
  | .new c es, x0 => match x0 with
    | .Call (.Name x _) xs [] _ => nmIs tb.cl[c]? x && glB sx.sc x && !sx.hot && xs.all plainX && iniB pr c && ckEs sx es xs
    | _ => false
  | .isc a c, x0 => match x0 with
    | .Call (.Name x _) [y, .Name z _] [] _ => decide (("isinstance" : Str) = x) && glB sx.sc x && nmIs tb.cl[c]? z && glB sx.sc z && plainX y && ownB pr c && ckE sx a y
    | _ => false
def ckG (sx : Sx) : Gn → Expr → List Comprehension → Bool
  | .elt e, elt, gs => match gs with
    | [] => ckE sx e elt
    | _ => false
  | .gen t it ifs r, elt, gs => match gs with
    | ⟨tg, iter, ifs', 0⟩ :: gs => ckI sx it tg iter && plainX iter && ckT sx t tg && ckC sx ifs ifs' && ckG sx r elt gs
    | _ => false
def ckC (sx : Sx) : Eo → List Expr → Bool
  | .none, xs => xs.isEmpty
  | .some c, xs => match xs with
    | [x] => ckE sx c x
    | _ => false
def ckEs (sx : Sx) : Es → List Expr → Bool
  | .nil, xs => xs.isEmpty
  | .cons e es, xs => match xs with
    | x :: xs => plainX x && ckE sx e x && ckEs sx es xs
    | _ => false
  | .star e es, xs => match xs with
    | .Starred x _ :: xs => ckE sx e x && ckEs sx es xs
    | _ => false
def ckO (sx : Sx) : Eo → Option Expr → Bool
  | .none, o => o.isNone
  | .some e, o => match o with
    | some x => ckE sx e x
    | none => false
def ckI (sx : Sx) : It → Expr → Expr → Bool
  | .seq e, _, x => ckE sx e x
  | .range1 a, _, x0 => match x0 with
    | .Call (.Name x _) [y] [] _ => decide (("range" : Str) = x) && glB sx.sc x && plainX y && ckE sx a y
    | _ => false
  | .range2 a b, _, x0 => match x0 with
    | .Call (.Name x _) [y, z] [] _ => decide (("range" : Str) = x) && glB sx.sc x && plainX y && plainX z && ckE sx a y && ckE sx b z
    | _ => false
  | .enum e, tg, x0 => match tg, x0 with
    | .Tuple _ _ _, .Call (.Name x _) [y] [] _ => decide (("enumerate" : Str) = x) && glB sx.sc x && plainX y && ckE sx e y
    | _, _ => false
  | .zip a b, tg, x0 => match tg, x0 with
    | .Tuple _ _ _, .Call (.Name x _) [y, z] [] _ => decide (("zip" : Str) = x) && glB sx.sc x && plainX y && plainX z && ckE sx a y && ckE sx b z
    | _, _ => false
  | .range3 a b s, _, x0 => match x0 with
    | .Call (.Name x _) [y, z, .Constant (.int s') _ _] [] _ => decide (("range" : Str) = x) && glB sx.sc x && plainX y && plainX z && ckE sx a y && ckE sx b z && decide (s' = s)
    | _ => false
end
end

theorem _root_.L2.PE.cast {X : Cx} {cA : Cfg} {W : WX} {x : Expr} {f f' : Env → Cells → Ev.R E} (h : PE X x (tE X.K cA W f)) (e : ∀ env C, f' env C = f env C) : PE X x (tE X.K cA W f') := by
  have : f' = f := funext fun env => funext fun C => e env C
  rw [this]; exact h
/-- what holds where an IR stands for a text -/
structure Hy (pr : Prog) (tb : Tab) (call : Nat → List E → Cells → Ev.R E) (lamc : Nat → Env → Cells → Ev.R E) (cA : Cfg) (sx : Sx) (k : Nat) (W : WX) (X : Cx) : Prop where
  g : Gd sx k W X
  F : Facts X.prog X.w X.K X.mg X.base cA pr tb k call
  hR : sx.top = true → sx.hot = false → Room (k + 2) X.A
  hL : sx.lam = true → LamF cA X ∧ ∀ j p b sc, cA.lam j p b sc → LamX.LamS X.env.scope sc ∧ argsB p = true ∧ ∀ (A : Around) (outer : List PySem.Env) (s : Shared) (H : Hp) (E : XK) (f c' : Addr), Room (k + 1) (A.deeper (LamX.lamEnv X sc s.heap.objs.size f c')) → PE (LamX.lamCx X A outer s H E sc f c') b (tE X.K cA (fun cls d _ H => E cls d H) (lamc j))
  hE : ∀ a C d, cA.exc = some (a, C, d) → sx.exc = true → ∃ (Y : Cx) (oe : Obj) (pn : List (Addr × Obj)), X = Y.suite a ((a, oe) :: pn) ∧ Zc (.ref C) d oe ∧ ∃ vs, oe.data = .fields vs
section
variable {pr : Prog} {tb : Tab} {call : Nat → List E → Cells → Ev.R E} {lamc : Nat → Env → Cells → Ev.R E} {cA : Cfg} {sx : Sx} {k : Nat} {W : WX} {X : Cx}
theorem relS_keep {scope sc : Scope} {x : Str} {k : NameKind} (hk : k ≠ .free) (h : scope.names.lookup x = some k) : (relS scope sc).names.lookup x = some k := lookup_relS_keep hk h
/-- a comprehension's block -/
theorem Hy.blk (h : Hy pr tb call lamc cA sx k W X) {scope : Scope} {own : List Nat} (ho : own.all (fun i => stC scope (T (sx.N[i]?.getD []))) = true) (s : Shared) (H : Hp) (C : Addr) (cl : List (Str × Addr)) (fp : List Addr) :
    Hy pr tb call lamc cA (blkSx sx scope own) k W0 (X.blk s H scope (compEnvC scope cl C X.env) fp) where
  g := {
    N := h.g.N
    nd := h.g.nd
    sc := by
      show relS scope X.env.scope = relS scope sx.sc
      rw [h.g.sc]
    un := h.g.un
    tk := LamX.takes0
    calm := h.g.calm
    room := h.g.room
    top := fun z => by cases z
    own := fun z => by cases z
    stb := fun x hx => by
      obtain ⟨i, hi, rfl⟩ := List.mem_map.mp hx
      have hs := List.all_eq_true.mp ho i hi
      unfold stC at hs
      split at hs
      · rename_i hl
        exact ⟨.inl (relS_keep (by decide) hl), .inr (relS_keep (by decide) hl)⟩
      · rename_i hl
        refine ⟨.inr (relS_keep (by decide) hl), .inl ?_⟩
        show (scope.names.lookup _ == some NameKind.cell) = true
        rw [hl]; rfl
      · cases hs }
  F := h.F
  hR := fun z => by cases z
  hL := fun z => by cases z
  hE := fun _ _ _ _ z => by cases z
abbrev Gl3 (lamc : Nat → Env → Cells → Ev.R E) (X : Cx) (cA : Cfg) (W : WX) (pr : Prog) (call : Nat → List E → Cells → Ev.R E) (e : Ex) (x : Expr) : Prop :=
  PE X x (tE X.K cA W (evE pr call lamc e)) ∧ PT X x (tT X.K cA W fun env C => truR (evE pr call lamc e env C)) ∧ ((∃ o es p, x = .BoolOp o es p) → PW X x (tT X.K cA W fun env C => truR (evE pr call lamc e env C)))
theorem gl3 {e : Ex} {x : Expr} (h : PE X x (tE X.K cA W (evE pr call lamc e))) (ht : testX x = true) : Gl3 lamc X cA W pr call e x :=
  ⟨h, r_test h ht, fun ⟨o, es, p, z⟩ => by subst z; cases ht⟩
theorem _root_.L2.PT.cast {x : Expr} {f f' : Env → Cells → Ev.R E} (h : PT X x (tT X.K cA W fun env C => truR (f env C))) (e : ∀ env C, f' env C = f env C) : PT X x (tT X.K cA W fun env C => truR (f' env C)) := by
  have : f' = f := funext fun env => funext fun C => e env C
  rw [this]; exact h
theorem _root_.L2.PW.cast {x : Expr} {f f' : Env → Cells → Ev.R E} (h : PW X x (tT X.K cA W fun env C => truR (f env C))) (e : ∀ env C, f' env C = f env C) : PW X x (tT X.K cA W fun env C => truR (f' env C)) := by
  have : f' = f := funext fun env => funext fun C => e env C
  rw [this]; exact h
theorem _root_.L2.PA.cast {x : List Expr} {f f' : Env → Cells → Ev.R (List E)} (h : PA X x (tEs X.K cA W f)) (e : ∀ env C, f' env C = f env C) : PA X x (tEs X.K cA W f') := by
  have : f' = f := funext fun env => funext fun C => e env C
  rw [this]; exact h
theorem _root_.L2.PO.cast {x : Option Expr} {f f' : Env → Cells → Ev.R (Option Int)} (h : PO X x (tO X.K cA W f)) (e : ∀ env C, f' env C = f env C) : PO X x (tO X.K cA W f') := by
  have : f' = f := funext fun env => funext fun C => e env C
  rw [this]; exact h
theorem _root_.L2.PI.cast {t x : Expr} {f f' : Env → Cells → Ev.R (List D × E)} (h : PI X t x (tI X.K cA W f)) (e : ∀ env C, f' env C = f env C) : PI X t x (tI X.K cA W f') := by
  have : f' = f := funext fun env => funext fun C => e env C
  rw [this]; exact h
end
end Ev

end

section
set_option maxRecDepth 512
set_option Elab.async false
set_option linter.all false
set_option maxRecDepth 100000
set_option maxHeartbeats 4000000
namespace Ev
open PySem L2 PySem.Spec PyProof.Rows
section
variable {pr : Prog} {tb : Tab} {call : Nat → List E → Cells → Ev.R E} {lamc : Nat → Env → Cells → Ev.R E} {cA : Cfg} {k : Nat}
theorem r_xf0 {X : Cx} {W : WX} {pos p : Pos} {x n : Str} {i : Nat} {f : Nm} (hx : cA.exc = none) : PE X (.Attribute (.Name x p) n pos) (tE X.K cA W fun env C => match (env[i]?).join with
    | some (.exn c fs) => match pr.cls[c]? with
      | some cl => if cl.exn && cl.flds.contains f then Ev.R.of ((lookFD f fs).map .v) C else .bad
      | none => .bad
    | _ => .bad) := by
  refine ⟨fun pins s σ H Q I ⟨env, G, am, C, re, wd, d⟩ => ?_⟩
  dsimp only at d
  cases e1 : env[i]? with
  | none => simp only [e1, Option.join_none] at d; exact d.elim
  | some o1 =>
    cases o1 with
    | none => simp only [e1, Option.join_some] at d; exact d.elim
    | some e' =>
      obtain ⟨v, h1, h2⟩ := re.2 i _ e1
      simp only [e1, Option.join_some] at d
      cases e' with
      | v dd => exact d.elim
      | r n => exact d.elim
      | clo j => exact d.elim
      | exn c fs =>
        rcases h2 with h2 | ⟨j', z, q⟩ | ⟨c2, fs2, z, a2, C2, dd, z1, _⟩
        · exact h2.elim
        · cases z
        · rw [hx] at z1; cases z1
theorem PEm.cast {B : Cx} {elt : Expr} {gens : List Comprehension} {scope : Scope} {pos : Pos} {d : Nat} {own : List Nat} {f f' : Env → Cells → List D → Ev.R (List D)} (h : PEm B elt gens scope pos d own (tB B.K cA f)) (e : ∀ env C acc, f' env C acc = f env C acc) : PEm B elt gens scope pos d own (tB B.K cA f') := by
  have : f' = f := funext fun env => funext fun C => funext fun acc => e env C acc
  rw [this]; exact h
theorem nobool {x : Expr} {P : Prop} (h : testX x = true) : (∃ o es p, x = .BoolOp o es p) → P := fun ⟨o, es, p, z⟩ => by subst z; cases h
theorem drop_get {α : Type} {l : List α} {n : Nat} {a : α} {r : List α} (h : l.drop n = a :: r) : l[n]? = some a ∧ l.drop (n + 1) = r := by
  have hlt : n < l.length := by
    rcases Nat.lt_or_ge n l.length with z | z
    · exact z
    · rw [List.drop_eq_nil_of_le z] at h; cases h
  rw [List.drop_eq_getElem_cons hlt] at h
  cases h
  exact ⟨by simp [hlt], rfl⟩
theorem drop_nil {α : Type} {l : List α} {n : Nat} (h : l.drop n = []) : l[n]? = none := by
  rw [List.getElem?_eq_none_iff]
  exact List.drop_eq_nil_iff.mp h
abbrev asyncOk (gens : List Comprehension) : Prop := ∀ g ∈ gens, g.is_async = 0
mutual
theorem okE : ∀ (e : Ex) (sx : Sx) (W : WX) (X : Cx) (h : Hy pr tb call lamc cA sx k W X) (x : Expr), ckE pr tb sx e x = true → Gl3 lamc X cA W pr call e x
  | .slot i, sx, W, X, h, x, hc => by
    rw [ckE.eq_def] at hc; dsimp only at hc
    split at hc
    · simp only [Bool.and_eq_true] at hc
      exact gl3 ((r_slot h.g hc.1.1 hc.1.2 hc.2).cast fun env C => by rw [evE] <;> rfl) rfl
    · cases hc
  | .cst kk, sx, W, X, h, x, hc => by
    rw [ckE.eq_def] at hc; dsimp only at hc
    split at hc
    · exact gl3 ((r_cst kk _ _ (of_decide_eq_true hc)).cast fun env C => by rw [evE] <;> rfl) rfl
    · cases hc
  | .glob gi, sx, W, X, h, x, hc => by
    rw [ckE.eq_def] at hc; dsimp only at hc
    split at hc
    · rw [Bool.and_eq_true] at hc
      obtain ⟨nm, h1, h2, h3⟩ := nmIs_ok hc.1
      exact gl3 ((r_glob h.g h.F h1 h2 hc.2).cast fun env C => by rw [evE] <;> rfl) rfl
    · cases hc
  | .tup es, sx, W, X, h, x, hc => by
    rw [ckE.eq_def] at hc; dsimp only at hc
    split at hc
    · exact gl3 ((r_tup (okEs es sx W X h _ hc)).cast fun env C => by rw [evE] <;> rfl) rfl
    · cases hc
  | .lst m es, sx, W, X, h, x, hc => by
    rw [ckE.eq_def] at hc; dsimp only at hc
    split at hc
    · cases m with
      | true => exact gl3 ((r_lstM (okEs es sx W X h _ hc)).cast fun env C => by rw [evE] <;> rfl) rfl
      | false => exact gl3 ((r_lst (okEs es sx W X h _ hc)).cast fun env C => by rw [evE] <;> rfl) rfl
    · cases hc
  | .bop o a b, sx, W, X, h, x, hc => by
    rw [ckE.eq_def] at hc; dsimp only at hc
    split at hc
    · simp only [Bool.and_eq_true, decide_eq_true_eq] at hc
      obtain ⟨⟨rfl, h1⟩, h2⟩ := hc
      exact gl3 ((r_bop o (okE a sx W X h _ h1).1 (okE b sx W X h _ h2).1).cast fun env C => by rw [evE] <;> rfl) rfl
    · cases hc
  | .cmp o a b, sx, W, X, h, x, hc => by
    rw [ckE.eq_def] at hc; dsimp only at hc
    split at hc
    · simp only [Bool.and_eq_true, decide_eq_true_eq] at hc
      obtain ⟨⟨⟨rfl, h0⟩, h1⟩, h2⟩ := hc
      have ha := (okE a sx W X h _ h1).1
      have hb := (okE b sx W X h _ h2).1
      exact ⟨(r_cmp h.g o ha hb h0).cast fun env C => by rw [evE] <;> rfl, PT.cast (r_tcmp h.g o ha hb h0) fun env C => by rw [evE] <;> rfl, fun ⟨_, _, _, z⟩ => by cases z⟩
    · cases hc
  | .cmp2 o o' a b c, sx, W, X, h, x, hc => by
    rw [ckE.eq_def] at hc; dsimp only at hc
    split at hc
    · simp only [Bool.and_eq_true, Bool.not_eq_true', decide_eq_true_eq] at hc
      obtain ⟨⟨⟨⟨⟨h1, h2⟩, h3⟩, h4⟩, h5⟩, h6⟩ := hc
      subst h1
      subst h2
      have ha := (okE a sx W X h _ h4).1
      have hb := (okE b sx W X h _ h5).1
      have hc' := (okE c sx W X h _ h6).1
      exact ⟨(r_chain h.g o o' ha hb hc' h3).cast fun env C => by rw [evE] <;> rfl, PT.cast (r_tchain h.g o o' ha hb hc' h3) fun env C => by rw [evE] <;> rfl, fun ⟨_, _, _, z⟩ => by cases z⟩
    · cases hc
  | .neg a, sx, W, X, h, x, hc => by
    rw [ckE.eq_def] at hc; dsimp only at hc
    split at hc
    · exact gl3 ((r_neg (okE a sx W X h _ hc).1).cast fun env C => by rw [evE] <;> rfl) rfl
    · cases hc
  | .rev a, sx, W, X, h, x, hc => by
    rw [ckE.eq_def] at hc; dsimp only at hc
    split at hc
    · exact gl3 ((r_rev (okE a sx W X h _ hc).1).cast fun env C => by rw [evE] <;> rfl) rfl
    · cases hc
  | .isN neg a, sx, W, X, h, x, hc => by
    rw [ckE.eq_def] at hc; dsimp only at hc
    split at hc
    · simp only [Bool.and_eq_true, decide_eq_true_eq] at hc
      obtain ⟨rfl, h1⟩ := hc
      have ha := (okE a sx W X h _ h1).1
      exact ⟨(r_isN neg ha).cast fun env C => by rw [evE] <;> rfl, PT.cast (r_tisN neg ha) fun env C => by rw [evE] <;> rfl, fun ⟨_, _, _, z⟩ => by cases z⟩
    · cases hc
  | .and a b, sx, W, X, h, x, hc => by
    rw [ckE.eq_def] at hc; dsimp only at hc
    split at hc
    · rw [Bool.and_eq_true] at hc
      have ha := okE a sx W X h _ hc.1
      have hb := okE b sx W X h _ hc.2
      have pw := PW.cast (r_wand ha.2.1 (hb.2.2 ⟨_, _, _, rfl⟩)) (f' := evE pr call lamc (.and a b)) fun env C => by rw [evE] <;> rfl
      exact ⟨(r_and ha.1 hb.1).cast fun env C => by rw [evE] <;> rfl, pw.pt, fun _ => pw⟩
    · cases hc
  | .or a b, sx, W, X, h, x, hc => by
    rw [ckE.eq_def] at hc; dsimp only at hc
    split at hc
    · rw [Bool.and_eq_true] at hc
      have ha := okE a sx W X h _ hc.1
      have hb := okE b sx W X h _ hc.2
      have pw := PW.cast (r_wor ha.2.1 (hb.2.2 ⟨_, _, _, rfl⟩)) (f' := evE pr call lamc (.or a b)) fun env C => by rw [evE] <;> rfl
      exact ⟨(r_or ha.1 hb.1).cast fun env C => by rw [evE] <;> rfl, pw.pt, fun _ => pw⟩
    · cases hc
  | .one a, sx, W, X, h, x, hc => by
    rw [ckE.eq_def] at hc; dsimp only at hc
    split at hc
    · rename_i op y p
      have ha := okE a sx W X h _ hc
      have pw : PW X (.BoolOp op [y] p) (tT X.K cA W fun env C => truR (evE pr call lamc (.one a) env C)) := PW.cast (by
        cases op with
        | And => exact pw_and1 ha.2.1
        | Or => exact pw_or1 ha.2.1) fun env C => by rw [evE] <;> rfl
      exact ⟨(pe_one ha.1).cast fun env C => by rw [evE] <;> rfl, pw.pt, fun _ => pw⟩
    · cases hc
  | .not a, sx, W, X, h, x, hc => by
    rw [ckE.eq_def] at hc; dsimp only at hc
    split at hc
    · have ha := okE a sx W X h _ hc
      exact ⟨(r_not ha.1).cast fun env C => by rw [evE] <;> rfl, PT.cast (r_tnot (pa := ha.2.1)) fun env C => by rw [evE] <;> rfl, fun ⟨_, _, _, z⟩ => by cases z⟩
    · cases hc
  | .ite c a b, sx, W, X, h, x, hc => by
    rw [ckE.eq_def] at hc; dsimp only at hc
    split at hc
    · simp only [Bool.and_eq_true] at hc
      have hc' := okE c sx W X h _ hc.1.1
      have ha := okE a sx W X h _ hc.1.2
      have hb := okE b sx W X h _ hc.2
      exact ⟨(r_ite hc'.2.1 ha.1 hb.1).cast fun env C => by rw [evE] <;> rfl, PT.cast (r_tite hc'.2.1 ha.2.1 hb.2.1) fun env C => by rw [evE] <;> rfl, fun ⟨_, _, _, z⟩ => by cases z⟩
    · cases hc
  | .idx a i, sx, W, X, h, x, hc => by
    rw [ckE.eq_def] at hc; dsimp only at hc
    split at hc
    · simp only [Bool.and_eq_true] at hc
      exact gl3 ((r_idx hc.1.1 (okE a sx W X h _ hc.1.2).1 (okE i sx W X h _ hc.2).1).cast fun env C => by rw [evE] <;> rfl) rfl
    · cases hc
  | .sl a lo hi, sx, W, X, h, x, hc => by
    rw [ckE.eq_def] at hc; dsimp only at hc
    split at hc
    · simp only [Bool.and_eq_true] at hc
      exact gl3 ((r_sl (okE a sx W X h _ hc.1.1).1 (okO lo sx W X h _ hc.1.2) (okO hi sx W X h _ hc.2)).cast fun env C => by rw [evE] <;> rfl) rfl
    · cases hc
  | .xf i f, sx, W, X, h, x, hc => by
    rw [ckE.eq_def] at hc; dsimp only at hc
    split at hc
    · simp only [Bool.and_eq_true, decide_eq_true_eq] at hc
      obtain ⟨⟨⟨⟨h0, h1⟩, h2⟩, h3⟩, h4⟩ := hc
      cases hx : cA.exc with
      | none => exact gl3 ((r_xf0 hx).cast fun env C => by rw [evE] <;> rfl) rfl
      | some z =>
        obtain ⟨a, C, d⟩ := z
        obtain ⟨Y, oe, pn, rfl, hz, hf⟩ := h.hE a C d hx h0
        exact gl3 ((r_xf h.g h.F hx hz hf h1 h2 h3 h4).cast fun env C => by rw [evE] <;> rfl) rfl
    · cases hc
  | .attr a f, sx, W, X, h, x, hc => by
    rw [ckE.eq_def] at hc; dsimp only at hc
    split at hc
    · simp only [Bool.and_eq_true, decide_eq_true_eq] at hc
      obtain ⟨⟨h1, h2⟩, h3⟩ := hc
      subst h2
      exact gl3 ((r_attr h.F h1 (okE a sx W X h _ h3).1 f).cast fun env C => by rw [evE] <;> rfl) rfl
    · cases hc
  | .call f es, sx, W, X, h, x, hc => by
    rw [ckE.eq_def] at hc; dsimp only at hc
    split at hc
    · rename_i xs p
      simp only [Bool.and_eq_true, Bool.not_eq_true'] at hc
      obtain ⟨⟨⟨⟨h0, h1⟩, h2⟩, h3⟩, h4⟩ := hc
      obtain ⟨nm, n1, n2, n3⟩ := nmIs_ok h0
      have hs := okEs es sx W X h _ h4
      cases xs with
      | nil =>
        cases es with
        | nil => exact gl3 ((r_call0 h.g h.F n1 n3 n2 h1 h2).cast fun env C => by rw [evE]; simp only [evEs]; rfl) rfl
        | cons => rw [ckEs.eq_def] at h4; dsimp only at h4; cases h4
        | star => rw [ckEs.eq_def] at h4; dsimp only at h4; cases h4
      | cons y ys =>
        rw [List.all_cons, Bool.and_eq_true] at h3
        exact gl3 ((r_call h.g h.F n1 n3 n2 h1 h2 h3.1 h3.2 hs).cast fun env C => by rw [evE] <;> rfl) rfl
    · cases hc
  | .callP f es, sx, W, X, h, x, hc => by
    rw [ckE.eq_def] at hc; dsimp only at hc
    split at hc
    · rename_i xs p
      simp only [Bool.and_eq_true, Bool.not_eq_true'] at hc
      obtain ⟨⟨⟨⟨h0, h1⟩, h2⟩, h3⟩, h4⟩ := hc
      obtain ⟨nm, n1, n2, n3⟩ := nmIs_ok h0
      have hs := okEs es sx W X h _ h4
      cases xs with
      | nil =>
        cases es with
        | nil => exact gl3 ((r_callP0 h.g h.F n1 n3 n2 h1 h2).cast fun env C => by rw [evE]; simp only [evEs]; rfl) rfl
        | cons => rw [ckEs.eq_def] at h4; dsimp only at h4; cases h4
        | star => rw [ckEs.eq_def] at h4; dsimp only at h4; cases h4
      | cons y ys =>
        rw [List.all_cons, Bool.and_eq_true] at h3
        exact gl3 ((r_callP h.g h.F n1 n3 n2 h1 h2 h3.1 h3.2 hs).cast fun env C => by rw [evE] <;> rfl) rfl
    · cases hc
  | .meth o m es, sx, W, X, h, x, hc => by
    rw [ckE.eq_def] at hc; dsimp only at hc
    split at hc
    · rename_i y n p xs q
      simp only [Bool.and_eq_true, Bool.not_eq_true', decide_eq_true_eq] at hc
      obtain ⟨⟨⟨⟨⟨⟨⟨h0, h1⟩, h2⟩, h3⟩, h4⟩, h5⟩, h6⟩, h7⟩ := hc
      subst h2
      have ho := (okE o sx W X h _ h6).1
      have hs := okEs es sx W X h _ h7
      cases xs with
      | nil =>
        cases es with
        | nil => exact gl3 ((r_meth0 h.g h.F h0 h1 h3 ho m).cast fun env C => by rw [evE] <;> rfl) rfl
        | cons => rw [ckEs.eq_def] at h7; dsimp only at h7; cases h7
        | star => rw [ckEs.eq_def] at h7; dsimp only at h7; cases h7
      | cons z zs => exact gl3 ((r_meth h.g h.F h0 h1 h4 h5 h3 ho hs m).cast fun env C => by rw [evE] <;> rfl) rfl
    · cases hc
  | .new c es, sx, W, X, h, x, hc => by
    rw [ckE.eq_def] at hc; dsimp only at hc
    split at hc
    · rename_i y p xs q
      simp only [Bool.and_eq_true, Bool.not_eq_true'] at hc
      obtain ⟨⟨⟨⟨⟨h0, h1⟩, h2⟩, h3⟩, h4⟩, h5⟩ := hc
      obtain ⟨nm, n1, n2, n3⟩ := nmIs_ok h0
      obtain ⟨cl, f, c1, c2, c3⟩ := iniB_ok h4
      have hs := okEs es sx W X h _ h5
      cases xs with
      | nil =>
        cases es with
        | nil => exact gl3 ((r_new0 h.g h.F n1 n3 n2 h1 h2 c1 c2 c3).cast fun env C => by rw [evE]; simp only [evEs]; rfl) rfl
        | cons => rw [ckEs.eq_def] at h5; dsimp only at h5; cases h5
        | star => rw [ckEs.eq_def] at h5; dsimp only at h5; cases h5
      | cons z zs => exact gl3 ((r_new h.g h.F n1 n3 n2 h1 h2 c1 c2 c3 h3 hs).cast fun env C => by rw [evE] <;> rfl) rfl
    · cases hc
  | .isc a c, sx, W, X, h, x, hc => by
    rw [ckE.eq_def] at hc; dsimp only at hc
    split at hc
    · simp only [Bool.and_eq_true, decide_eq_true_eq] at hc
      obtain ⟨⟨⟨⟨⟨⟨h0, h1⟩, h2⟩, h3⟩, h4⟩, h5⟩, h6⟩ := hc
      obtain ⟨nm, n1, n2, n3⟩ := nmIs_ok h2
      obtain ⟨cl, c1, c2⟩ := ownB_ok h5
      exact gl3 ((r_isc h.g h.F h0 h1 n1 n3 n2 h3 c1 c2 h4 (okE a sx W X h _ h6).1).cast fun env C => by rw [evE] <;> rfl) rfl
    · cases hc
  | .bi b es, sx, W, X, h, x, hc => by
    rw [ckE.eq_def] at hc; dsimp only at hc
    split at hc
    · rename_i xs p
      simp only [Bool.and_eq_true, Bool.not_eq_true', decide_eq_true_eq, Bool.or_eq_true] at hc
      obtain ⟨⟨⟨⟨⟨h0, h1⟩, h2⟩, h3⟩, h4⟩, h5⟩ := hc
      have hs := okEs es sx W X h _ h5
      cases xs with
      | nil => cases h4
      | cons y ys =>
        rw [List.all_cons, Bool.and_eq_true] at h3
        exact gl3 ((r_bi h.g h.F b h0 h1 h2 h3.1 h3.2 hs).cast fun env C => by rw [evE] <;> rfl) rfl
    · cases hc
  | .isi a ts, sx, W, X, h, x, hc => by
    have ty : ∀ {t : Ty} {z : Str}, tyOk t = true → (tyN t : Str) = z → X.mg z = none := fun {t z} ht hz => by
      subst hz
      refine h.F.ty _ ?_
      cases t <;> first | (cases ht; done) | (simp [tyN])
    rw [ckE.eq_def] at hc; dsimp only at hc
    split at hc
    · simp only [Bool.and_eq_true, decide_eq_true_eq] at hc
      obtain ⟨⟨⟨⟨⟨⟨h0, h1⟩, h2⟩, h3⟩, h4⟩, h5⟩, h6⟩ := hc
      exact gl3 ((r_isi1 h.g h.F h0 h1 h2 h3 (ty h2 h3) h4 h5 (okE a sx W X h _ h6).1).cast fun env C => by rw [evE] <;> rfl) rfl
    · simp only [Bool.and_eq_true, decide_eq_true_eq] at hc
      obtain ⟨⟨⟨⟨⟨⟨⟨⟨⟨h0, h1⟩, h2⟩, h3⟩, h4⟩, h7⟩, h8⟩, h9⟩, h5⟩, h6⟩ := hc
      exact gl3 ((r_isi2 h.g h.F h0 h1 h2 h3 (ty h2 h3) h4 h7 h8 (ty h7 h8) h9 h5 (okE a sx W X h _ h6).1).cast fun env C => by rw [evE] <;> rfl) rfl
    · cases hc
  | .bm m a es, sx, W, X, h, x, hc => by
    rw [ckE.eq_def] at hc; dsimp only at hc
    split at hc
    · simp only [Bool.and_eq_true, decide_eq_true_eq] at hc
      obtain ⟨⟨⟨⟨⟨rfl, h1⟩, h2⟩, h3⟩, h4⟩, h5⟩ := hc
      exact gl3 ((r_count h.g h1 h4 h2 (okE a sx W X h _ h3).1 (okEs es sx W X h _ h5)).cast fun env C => by rw [evE] <;> rfl) rfl
    · cases hc
  | .mm m a es, sx, W, X, h, x, hc => by
    rw [ckE.eq_def] at hc; dsimp only at hc
    split at hc
    · simp only [Bool.and_eq_true, decide_eq_true_eq] at hc
      obtain ⟨⟨⟨⟨⟨rfl, h1⟩, h2⟩, h3⟩, h4⟩, h5⟩ := hc
      exact gl3 ((r_append h1 h4 h2 (okE a sx W X h _ h3).1 (okEs es sx W X h _ h5)).cast fun env C => by rw [evE] <;> rfl) rfl
    · simp only [Bool.and_eq_true, decide_eq_true_eq] at hc
      obtain ⟨⟨⟨⟨⟨rfl, h1⟩, h2⟩, h3⟩, h4⟩, h5⟩ := hc
      exact gl3 ((r_popAt h1 h4 h2 (okE a sx W X h _ h3).1 (okEs es sx W X h _ h5)).cast fun env C => by rw [evE] <;> rfl) rfl
    · simp only [Bool.and_eq_true, decide_eq_true_eq] at hc
      obtain ⟨⟨⟨⟨rfl, h1⟩, h2⟩, h3⟩, h5⟩ := hc
      cases es with
      | nil => exact gl3 ((r_pop h1 h2 (okE a sx W X h _ h3).1).cast fun env C => by rw [evE]; simp only [evEs]; first | done | rfl) rfl
      | cons _ _ => simp [ckEs] at h5
      | star _ _ => simp [ckEs] at h5
    · cases hc
  | .dnew, sx, W, X, h, x, hc => by
    rw [ckE.eq_def] at hc; dsimp only at hc
    split at hc
    · exact gl3 (r_dnew.cast fun env C => by rw [evE] <;> rfl) rfl
    · cases hc
  | .dix a i, sx, W, X, h, x, hc => by
    rw [ckE.eq_def] at hc; dsimp only at hc
    split at hc
    · simp only [Bool.and_eq_true] at hc
      exact gl3 ((r_dix h.g hc.1.1 (okE a sx W X h _ hc.1.2).1 (okE i sx W X h _ hc.2).1).cast fun env C => by rw [evE] <;> rfl) rfl
    · cases hc
  | .dgt a kk d, sx, W, X, h, x, hc => by
    rw [ckE.eq_def] at hc; dsimp only at hc
    split at hc
    · simp only [Bool.and_eq_true, decide_eq_true_eq] at hc
      obtain ⟨⟨⟨⟨⟨⟨⟨rfl, h1⟩, h2⟩, h3⟩, h4⟩, h5⟩, h6⟩, h7⟩ := hc
      exact gl3 ((r_dgt h.g h1 h2 h3 h4 (okE a sx W X h _ h5).1 (okE kk sx W X h _ h6).1 (okE d sx W X h _ h7).1).cast fun env C => by rw [evE] <;> rfl) rfl
    · cases hc
  | .dcomp own t it ifs kx vx, sx, W, X, h, x, hc => by
    rw [ckE.eq_def] at hc; dsimp only at hc
    split at hc
    · rename_i k v tg iter ifs' scope p
      simp only [Bool.and_eq_true, Bool.not_eq_true', List.all_eq_true] at hc
      obtain ⟨⟨⟨⟨⟨⟨⟨⟨⟨h0, h1⟩, h2⟩, h3⟩, h4⟩, h7⟩, h8⟩, h9⟩, h10⟩, h11⟩ := hc
      have h7' : own.all (fun i => stC scope (T (sx.N[i]?.getD []))) = true := List.all_eq_true.mpr h7
      have bk := fun s H C cl fp => Hy.blk h h7' s H C cl fp
      refine gl3 ((r_dcomp (own := ownP sx.N own) (ft := evC pr call lamc ifs) (fk := evE pr call lamc kx) (fv := evE pr call lamc vx) (h.g.calm h0) h.g.nd (okI it sx W X h tg iter h1) (by rw [h.g.N, h.g.sc]; exact blkOk_by h3) (by rw [ownP_snd]; exact fun i hi => by simpa using h4 i hi)
        (fun s H C cl fp => r_tg (cA := cA) (bk s H C cl fp).g h8) (fun s H C cl fp => okC ifs _ _ _ (bk s H C cl fp) ifs' h9) (fun s H C cl fp => (okE kx _ _ _ (bk s H C cl fp) _ h10).1) (fun s H C cl fp => (okE vx _ _ _ (bk s H C cl fp) _ h11).1) h2).cast fun env C => by rw [evE, ownP_snd] <;> rfl) rfl
    · cases hc
  | .eqI neg a b, sx, W, X, h, x, hc => by
    rw [ckE.eq_def] at hc; dsimp only at hc
    split at hc
    · simp only [Bool.and_eq_true, Bool.not_eq_true', decide_eq_true_eq] at hc
      obtain ⟨⟨⟨rfl, h0⟩, h1⟩, h2⟩ := hc
      have ha := (okE a sx W X h _ h1).1
      have hb := (okE b sx W X h _ h2).1
      exact ⟨(r_eqI h.g h.F h0 neg ha hb).cast fun env C => by rw [evE] <;> rfl, PT.cast (r_teqI h.g h.F h0 neg ha hb) fun env C => by rw [evE] <;> rfl, fun ⟨_, _, _, z⟩ => by cases z⟩
    · cases hc
  | .gix gi i, sx, W, X, h, x, hc => by
    rw [ckE.eq_def] at hc; dsimp only at hc
    split at hc
    · simp only [Bool.and_eq_true] at hc
      obtain ⟨nm, h1, h2, h3⟩ := nmIs_ok hc.1.1.1.2
      exact gl3 ((r_gix h.g h.F hc.1.1.1.1 h1 h2 hc.1.1.2 hc.1.2 (okE i sx W X h _ hc.2).1).cast fun env C => by rw [evE] <;> rfl) rfl
    · cases hc
  | .gin neg gi i, sx, W, X, h, x, hc => by
    rw [ckE.eq_def] at hc; dsimp only at hc
    split at hc
    · simp only [Bool.and_eq_true, decide_eq_true_eq] at hc
      obtain ⟨nm, h1, h2, h3⟩ := nmIs_ok hc.1.1.2
      have hop := hc.1.1.1.1
      subst hop
      exact ⟨(r_gin h.g h.F neg hc.1.1.1.2 h1 h2 hc.1.2 (okE i sx W X h _ hc.2).1).cast fun env C => by rw [evE] <;> rfl, PT.cast (r_tgin h.g h.F neg hc.1.1.1.2 h1 h2 hc.1.2 (okE i sx W X h _ hc.2).1) fun env C => by rw [evE] <;> rfl, fun ⟨_, _, _, z⟩ => by cases z⟩
    · cases hc
  | .comp own t it ifs r, sx, W, X, h, x, hc => by
    rw [ckE.eq_def] at hc; dsimp only at hc
    split at hc
    · rename_i elt tg iter ifs' gs scope p
      simp only [Bool.and_eq_true, Bool.not_eq_true', List.all_eq_true, beq_iff_eq] at hc
      obtain ⟨⟨⟨⟨⟨⟨⟨⟨⟨⟨h0, h1⟩, h2⟩, h3⟩, h4⟩, h5⟩, h6⟩, h7⟩, h8⟩, h9⟩, h10⟩ := hc
      have h7' : own.all (fun i => stC scope (T (sx.N[i]?.getD []))) = true := List.all_eq_true.mpr h7
      have bk := fun s H C cl fp => Hy.blk h h7' s H C cl fp
      refine gl3 ((r_comp (own := ownP sx.N own) (vs1 := gsl r) (ft := evC pr call lamc ifs) (fr := evG pr call lamc r) (h.g.calm h0) h.g.nd (okI it sx W X h tg iter h1) (by rw [h.g.N, h.g.sc]; exact blkOk_by h3) h6 (by rw [ownP_snd]; exact fun i hi => by simpa using h4 i hi) (by rw [ownP_snd]; exact fun i hi => by simpa using h5 i hi)
        (fun s H C cl fp => r_tg (cA := cA) (bk s H C cl fp).g h8) (fun s H C cl fp => okC ifs _ _ _ (bk s H C cl fp) ifs' h9) (fun s H C cl fp => okG r _ _ (bk s H C cl fp) (fun _ _ z => z) h0 elt (⟨tg, iter, ifs', 0⟩ :: gs) scope p 0 gs rfl (fun g hg => by
          rcases List.mem_cons.mp hg with rfl | hg
          · rfl
          · exact h6 g hg) h10) h2).cast fun env C => by rw [evE, ownP_snd] <;> rfl) rfl
    · cases hc
  | .cp a, sx, W, X, h, x, hc => by
    rw [ckE.eq_def] at hc; dsimp only at hc
    split at hc
    · simp only [Bool.and_eq_true, Bool.not_eq_true', decide_eq_true_eq] at hc
      obtain ⟨⟨⟨⟨h0, h1⟩, h2⟩, h3⟩, h4⟩ := hc
      exact gl3 ((r_cp h.g h.F h0 h1 h2 h3 (okE a sx W X h _ h4).1).cast fun env C => by rw [evE] <;> rfl) rfl
    · cases hc
  | .frz a, sx, W, X, h, x, hc => by
    rw [ckE.eq_def] at hc; dsimp only at hc
    rw [Bool.and_eq_true] at hc
    exact gl3 ((r_frzD (okE a sx W X h _ hc.2).1).cast fun env C => by rw [evE] <;> rfl) hc.1
  | .callL i, sx, W, X, h, x, hc => by
    rw [ckE.eq_def] at hc; dsimp only at hc
    split at hc
    · simp only [Bool.and_eq_true, Bool.not_eq_true'] at hc
      obtain ⟨⟨⟨⟨h0, h1⟩, h2⟩, h3⟩, h4⟩ := hc
      obtain ⟨lf, hl⟩ := h.hL h0.1
      exact gl3 ((r_callL h.g lf h2 h3 h4 h1 (h.hR h0.2 h1) hl).cast fun env C => by rw [evE] <;> rfl) rfl
    · cases hc
theorem okG : ∀ (r : Gn) (sx : Sx) (X : Cx) (h : Hy pr tb call lamc cA sx k W0 X) (hx : ∀ e s, ¬ X.xe e s) (hh : sx.hot = false) (elt : Expr) (gens : List Comprehension) (scope : Scope) (pos : Pos) (d : Nat) (gs : List Comprehension), gens.drop (d + 1) = gs → asyncOk gens → ckG pr tb sx r elt gs = true →
    PEm X elt gens scope pos d (gsl r) (tB X.K cA (evG pr call lamc r))
  | .elt e, sx, X, h, hx, hh, elt, gens, scope, pos, d, gs, hg, hz, hc => by
    cases gs with
    | nil =>
      rw [ckG.eq_def] at hc; dsimp only at hc
      exact PEm.cast (r_elt hx (drop_nil hg) (okE e sx W0 X h _ hc).1) fun env C acc => by rw [evG] <;> rfl
    | cons g gs => rw [ckG.eq_def] at hc; dsimp only at hc; cases hc
  | .gen t it ifs r, sx, X, h, hx, hh, elt, gens, scope, pos, d, gs, hg, hz, hc => by
    cases gs with
    | nil => rw [ckG.eq_def] at hc; dsimp only at hc; cases hc
    | cons g gs =>
      obtain ⟨tg, iter, ifs', as⟩ := g
      obtain ⟨g1, g2⟩ := drop_get hg
      have h0 := hz _ (List.mem_of_getElem? g1)
      simp only at h0
      subst h0
      rw [ckG.eq_def] at hc; dsimp only at hc
      simp only [Bool.and_eq_true] at hc
      obtain ⟨⟨⟨⟨h1, h2⟩, h3⟩, h4⟩, h5⟩ := hc
      exact PEm.cast (r_gen (vs := tsl t ++ gsl r) (h.g.calm hh) hx hz g1 h2 (okI it sx W0 X h tg iter h1) (r_tg (cA := cA) h.g h3) (okC ifs sx W0 X h ifs' h4) (okG r sx X h hx hh elt gens scope pos (d + 1) gs g2 hz h5) (fun i hi => List.mem_append_right _ hi) (fun i hi => List.mem_append_left _ hi)) fun env C acc => by rw [evG] <;> rfl
theorem okC : ∀ (c : Eo) (sx : Sx) (W : WX) (X : Cx) (h : Hy pr tb call lamc cA sx k W X) (xs : List Expr), ckC pr tb sx c xs = true → PTs X xs (tT X.K cA W (evC pr call lamc c))
  | .none, sx, W, X, h, xs, hc => by
    cases xs with
    | nil => exact ⟨fun pins s σ H Q I ⟨env, G, am, C, re, wd, d⟩ => pts_nil.run pins s σ H Q I (by rw [evC] at d; exact d.here wd rfl)⟩
    | cons => rw [ckC.eq_def] at hc; dsimp only at hc; cases hc
  | .some c, sx, W, X, h, xs, hc => by
    cases xs with
    | nil => rw [ckC.eq_def] at hc; dsimp only at hc; cases hc
    | cons x r =>
      cases r with
      | cons => rw [ckC.eq_def] at hc; dsimp only at hc; cases hc
      | nil =>
        rw [ckC.eq_def] at hc; dsimp only at hc
        have e : evC pr call lamc (.some c) = fun env C => truR (evE pr call lamc c env C) := funext fun env => funext fun C => by rw [evC]
        rw [e]
        exact pts_one (okE c sx W X h x hc).2.1
theorem okEs : ∀ (es : Es) (sx : Sx) (W : WX) (X : Cx) (h : Hy pr tb call lamc cA sx k W X) (xs : List Expr), ckEs pr tb sx es xs = true → PA X xs (tEs X.K cA W (evEs pr call lamc es))
  | .nil, sx, W, X, h, xs, hc => by
    cases xs with
    | nil => exact PA.cast r_nil fun env C => by rw [evEs] <;> rfl
    | cons => rw [ckEs.eq_def] at hc; dsimp only at hc; cases hc
  | .cons e es, sx, W, X, h, xs, hc => by
    cases xs with
    | nil => rw [ckEs.eq_def] at hc; dsimp only at hc; cases hc
    | cons x xs =>
      rw [ckEs.eq_def] at hc; dsimp only at hc
      simp only [Bool.and_eq_true] at hc
      exact PA.cast (r_cons hc.1.1 (okE e sx W X h x hc.1.2).1 (okEs es sx W X h xs hc.2)) fun env C => by rw [evEs] <;> rfl
  | .star e es, sx, W, X, h, xs, hc => by
    cases xs with
    | nil => rw [ckEs.eq_def] at hc; dsimp only at hc; cases hc
    | cons x xs =>
      cases x <;> first | (rw [ckEs.eq_def] at hc; dsimp only at hc; cases hc; done) | skip
      case Starred x p =>
        rw [ckEs.eq_def] at hc; dsimp only at hc
        simp only [Bool.and_eq_true] at hc
        exact PA.cast (r_star (okE e sx W X h x hc.1).1 (okEs es sx W X h xs hc.2)) fun env C => by rw [evEs] <;> rfl
theorem okO : ∀ (o : Eo) (sx : Sx) (W : WX) (X : Cx) (h : Hy pr tb call lamc cA sx k W X) (x : Option Expr), ckO pr tb sx o x = true → PO X x (tO X.K cA W (evO pr call lamc o))
  | .none, sx, W, X, h, x, hc => by
    cases x with
    | none => exact PO.cast r_noPart fun env C => by rw [evO] <;> rfl
    | some => rw [ckO.eq_def] at hc; dsimp only at hc; cases hc
  | .some e, sx, W, X, h, x, hc => by
    cases x with
    | none => rw [ckO.eq_def] at hc; dsimp only at hc; cases hc
    | some x =>
      rw [ckO.eq_def] at hc; dsimp only at hc
      exact PO.cast (r_part (okE e sx W X h x hc).1) fun env C => by rw [evO] <;> rfl
theorem okI : ∀ (it : It) (sx : Sx) (W : WX) (X : Cx) (h : Hy pr tb call lamc cA sx k W X) (tg x : Expr), ckI pr tb sx it tg x = true → PI X tg x (tI X.K cA W (evI pr call lamc it))
  | .seq e, sx, W, X, h, tg, x, hc => by
    rw [ckI.eq_def] at hc; dsimp only at hc
    exact PI.cast (r_seq (okE e sx W X h x hc).1) fun env C => by rw [evI] <;> rfl
  | .range1 a, sx, W, X, h, tg, x, hc => by
    rw [ckI.eq_def] at hc; dsimp only at hc
    split at hc
    · simp only [Bool.and_eq_true, decide_eq_true_eq] at hc
      exact PI.cast (r_range1 h.g h.F hc.1.1.1 hc.1.1.2 hc.1.2 (okE a sx W X h _ hc.2).1) fun env C => by rw [evI] <;> rfl
    · cases hc
  | .range2 a b, sx, W, X, h, tg, x, hc => by
    rw [ckI.eq_def] at hc; dsimp only at hc
    split at hc
    · simp only [Bool.and_eq_true, decide_eq_true_eq] at hc
      exact PI.cast (r_range2 h.g h.F hc.1.1.1.1.1 hc.1.1.1.1.2 hc.1.1.1.2 hc.1.1.2 (okE a sx W X h _ hc.1.2).1 (okE b sx W X h _ hc.2).1) fun env C => by rw [evI] <;> rfl
    · cases hc
  | .enum e, sx, W, X, h, tg, x, hc => by
    rw [ckI.eq_def] at hc; dsimp only at hc
    split at hc
    · simp only [Bool.and_eq_true, decide_eq_true_eq] at hc
      exact PI.cast (r_enum h.g h.F hc.1.1.1 hc.1.1.2 hc.1.2 (okE e sx W X h _ hc.2).1) fun env C => by rw [evI] <;> rfl
    · cases hc
  | .zip a b, sx, W, X, h, tg, x, hc => by
    rw [ckI.eq_def] at hc; dsimp only at hc
    split at hc
    · simp only [Bool.and_eq_true, decide_eq_true_eq] at hc
      obtain ⟨⟨⟨⟨⟨h1, h2⟩, h3⟩, h4⟩, h5⟩, h6⟩ := hc
      exact PI.cast (r_zip h.g h.F h1 h2 h3 h4 (okE a sx W X h _ h5).1 (okE b sx W X h _ h6).1) fun env C => by rw [evI] <;> rfl
    · cases hc
  | .range3 a b s, sx, W, X, h, tg, x, hc => by
    rw [ckI.eq_def] at hc; dsimp only at hc
    split at hc
    · simp only [Bool.and_eq_true, decide_eq_true_eq] at hc
      obtain ⟨⟨⟨⟨⟨⟨h1, h2⟩, h3⟩, h4⟩, h5⟩, h6⟩, h7⟩ := hc
      subst h7
      exact PI.cast (r_range3 h.g h.F h1 h2 h3 h4 (okE a sx W X h _ h5).1 (okE b sx W X h _ h6).1 _) fun env C => by rw [evI] <;> rfl
    · cases hc
end
end
end Ev

end

section
set_option maxRecDepth 512
set_option Elab.async false
set_option linter.all false
set_option maxRecDepth 100000
set_option maxHeartbeats 4000000
namespace Ev
open PySem L2 PySem.Spec PyProof.Rows
/-! ### stores -/
def swV (sc : Scope) (x tg : Expr) : Bool := match x, tg with
  | .ListComp _ _ s p, .Name y py => decide (sc.names.lookup y = some .local) && (py.line == p.line) && !(s.names.any fun (n, k) => n == y && (k == .local || k == .cell))
  | _, _ => false
def noSet : Expr → Bool
  | .SetComp .. => false
  | .DictComp .. => false
  | _ => true
theorem sw_sole {x tg : Expr} {l : Nat} {env : PySem.Env} (hk : env.scope.kind = .function) (hn : noSet x = true) : swapsWithSole [tg] x l env = pure (swV env.scope x tg) := by
  show swapsWith x (some tg) l env = _
  have hb : env.blockKind = .function := by unfold PySem.Env.blockKind; rw [hk]; rfl
  cases x <;> first | rfl | (simp [noSet] at hn; done) | skip
  case ListComp elt gs s p =>
    cases tg <;> first | rfl | skip
    case Name y py =>
      show (pure (env.blockKind == .function && env.kindOf y == some .local && py.line == p.line && !(s.names.any fun (n, k) => n == y && (k == .local || k == .cell))) : Sem Bool) = _
      have e : (env.scope.names.lookup y == some NameKind.local) = decide (env.scope.names.lookup y = some .local) := by
        cases hh : env.scope.names.lookup y with
        | none => rfl
        | some k => cases k <;> rfl
      rw [hb]
      show (pure ((ScopeKind.function == ScopeKind.function) && (env.scope.names.lookup y == some NameKind.local) && py.line == p.line && !(s.names.any fun (n, k) => n == y && (k == .local || k == .cell))) : Sem Bool) = _
      rw [e]
      rfl
def notTup : Expr → Bool
  | .Tuple .. => false
  | _ => true
theorem ss_plain {x : Expr} {ts : List Expr} {n : Nat} {p : Pos} {env : PySem.Env} (h : notTup x = true) : swappedStores [.Tuple ts n p] x env = pure none := by
  cases x <;> first | (simp [notTup] at h; done) | (unfold swappedStores; rfl)
theorem ss_name {x : Expr} {y : Str} {p : Pos} {env : PySem.Env} : swappedStores [.Name y p] x env = pure none := by
  unfold swappedStores; cases x <;> rfl
/-- the names that are stored from the right -/
def ssN (sc : Scope) (ts : List Expr) : List Str := ts.filterMap fun
    | .Name id pos => if sc.names.lookup id == some .local && pos.line == (ts.head?.map (·.pos.line)).getD 0 then some id else none
    | _ => none
def starX : Expr → Bool
  | .Starred .. => true
  | _ => false
theorem ss_eq {ts vs : List Expr} {n m : Nat} {p q : Pos} {env : PySem.Env} (hk : env.scope.kind = .function) : ∃ Z, swappedStores [.Tuple ts n p] (.Tuple vs m q) env =
    (if (!(ts.length == 2 || ts.length == 3) || vs.length != ts.length) = true then pure none else if vs.any starX = true then pure none else
      if ((ssN env.scope ts).length != ts.length || (ssN env.scope ts).eraseDups.length != (ssN env.scope ts).length) = true then pure none else if vs.all (foldedForSure 8) = true then pure none else if vs.all (constantsAlone 8) = true then Z else pure (some (ssN env.scope ts))) := by
  have hb : env.blockKind = .function := by unfold PySem.Env.blockKind; rw [hk]; rfl
  unfold swappedStores
  rw [hb]
  have e : (!(ts.length == 2 || ts.length == 3) || vs.length != ts.length || ScopeKind.function != ScopeKind.function) = (!(ts.length == 2 || ts.length == 3) || vs.length != ts.length) := by simp
  dsimp only
  rw [e]
  exact ⟨_, rfl⟩
/-- stored as a pair (none: the model does not say) -/
def ssV (sc : Scope) (ts vs : List Expr) : Option Bool :=
  if !(ts.length == 2 || ts.length == 3) || vs.length != ts.length then some false
  else if vs.any starX then some false
  else if (ssN sc ts).length != ts.length || (ssN sc ts).eraseDups.length != (ssN sc ts).length then some false
  else if vs.all (foldedForSure 8) then some false
  else if vs.all (constantsAlone 8) then none
  else some true
theorem ss_no {ts vs : List Expr} {n m : Nat} {p q : Pos} {env : PySem.Env} (hk : env.scope.kind = .function) (h : ssV env.scope ts vs = some false) : swappedStores [.Tuple ts n p] (.Tuple vs m q) env = pure none := by
  obtain ⟨Z, hz⟩ := ss_eq (ts := ts) (vs := vs) (n := n) (m := m) (p := p) (q := q) hk
  rw [hz]
  unfold ssV at h
  split at h
  · rename_i c; rw [if_pos c]
  · rename_i c; rw [if_neg c]
    split at h
    · rename_i c; rw [if_pos c]
    · rename_i c; rw [if_neg c]
      split at h
      · rename_i c; rw [if_pos c]
      · rename_i c; rw [if_neg c]
        split at h
        · rename_i c; rw [if_pos c]
        · split at h <;> cases h
theorem ss_yes {ts vs : List Expr} {n m : Nat} {p q : Pos} {env : PySem.Env} (hk : env.scope.kind = .function) (h : ssV env.scope ts vs = some true) : swappedStores [.Tuple ts n p] (.Tuple vs m q) env = pure (some (ssN env.scope ts)) := by
  obtain ⟨Z, hz⟩ := ss_eq (ts := ts) (vs := vs) (n := n) (m := m) (p := p) (q := q) hk
  rw [hz]
  unfold ssV at h
  split at h
  · cases h
  · rename_i c; rw [if_neg c]
    split at h
    · cases h
    · rename_i c; rw [if_neg c]
      split at h
      · cases h
      · rename_i c; rw [if_neg c]
        split at h
        · cases h
        · rename_i c; rw [if_neg c]
          split at h
          · cases h
          · rename_i c; rw [if_neg c]
def ssB (sc : Scope) (tg x : Expr) : Bool := match tg, x with
  | .Tuple ts _ _, .Tuple vs _ _ => decide (ssV sc ts vs = some false)
  | _, _ => true

/-! ### statements -/
def trySx (sx : Sx) : Sx := { sx with exc := false }
def suiteSx (sx : Sx) (as : Bool) : Sx := { sx with hot := true, lam := false, exc := as }
def lamSx (sx : Sx) (s : Scope) : Sx := { N := sx.N, sc := s, hot := false, top := false, lam := false, exc := false, st := [] }
section
variable (pr : Prog) (tb : Tab)
/-- the text (p, b, s) is the lambda j -/
def lamB (sx : Sx) (j : Nat) (p : Arguments) (b : Expr) (s : Scope) : Bool := LamX.lamSB sx.sc s && argsB p && (match pr.lams[j]? with
  | some e => ckE pr tb (lamSx sx s) e b
  | none => false)
def ckLs (sx : Sx) : List Nat → List Expr → Bool
  | [], es => es.isEmpty
  | j :: js, es => match es with
    | .Lambda p b s _ :: es => lamB pr tb sx j p b s && ckLs sx js es
    | _ => false
mutual
def ckS (sx : Sx) : Sm → Stmt → Bool
  | .exp e, x0 => match x0 with
    | .Expr x _ => noComp x && ckE pr tb sx e x
    | _ => false
  | .ret e, x0 => match x0 with
    | .Return (some x) _ => ckE pr tb sx e x
    | _ => false
  | .retN, x0 => match x0 with
    | .Return none _ => true
    | _ => false
  | .pass, x0 => match x0 with
    | .Pass _ => true
    | _ => false
  | .brk, x0 => match x0 with
    | .Break _ => true
    | _ => false
  | .cont, x0 => match x0 with
    | .Continue _ => true
    | _ => false
  | .asg t e, x0 => match t, x0 with
    | .nm i, .Assign [.Name y p] x _ => noSet x && decide (sx.sc.kind = .function) && nmAt sx.N i y && stoB sx y && ckE pr tb sx e x && (match swV sx.sc x (.Name y p), e with
      | false, _ => true
      | true, .comp .. => true
      | _, _ => false)
    | .tup ts, .Assign [.Tuple es n p] x _ => noSet x && decide (sx.sc.kind = .function) && ckT sx (.tup ts) (.Tuple es n p) && ssB sx.sc (.Tuple es n p) x && ckE pr tb sx e x
    | _, _ => false
  | .par i j a b, x0 => match x0 with
    | .Assign [.Tuple [.Name y py, .Name z pz] n p] (.Tuple [x, w] m q) _ => decide (sx.sc.kind = .function) && !sx.hot && nmAt sx.N i y && nmAt sx.N j z && decide (i ≠ j) && decide (sx.sc.names.lookup y = some .local) && decide (sx.sc.names.lookup z = some .local) && plainX x && plainX w && ckE pr tb sx a x && ckE pr tb sx b w &&
        decide (ssV sx.sc [.Name y py, .Name z pz] [x, w] = some true) && decide (ssN sx.sc [.Name y py, .Name z pz] = [y, z])
    | _ => false
  | .aug i o e, x0 => match x0 with
    | .AugAssign (.Name y _) op x _ => decide (op = bopO o) && nmAt sx.N i y && stoB sx y && ckE pr tb sx e x
    | _ => false
  | .augI o i op e, x0 => match x0 with
    | .AugAssign (.Subscript x y _) op' z _ => decide (op' = bopO op) && plainX y && ckE pr tb sx o x && ckE pr tb sx i y && ckE pr tb sx e z
    | _ => false
  | .setI o i e, x0 => match x0 with
    | .Assign [.Subscript x y _] z _ => plainX y && noComp z && ckE pr tb sx o x && ckE pr tb sx i y && ckE pr tb sx e z
    | _ => false
  | .setD o i e, x0 => match x0 with
    | .Assign [.Subscript a b _] e' _ => plainX b && noComp e' && ckE pr tb sx o a && ckE pr tb sx i b && ckE pr tb sx e e'
    | _ => false
  | .setA o f e, x0 => match x0 with
    | .Assign [.Attribute x n _] z _ => decide (T f = n) && noComp z && ckE pr tb sx o x && ckE pr tb sx e z
    | _ => false
  | .augA o f op e, x0 => match x0 with
    | .AugAssign (.Attribute x n _) op' z _ => decide (T f = n) && decide (op' = bopO op) && ckE pr tb sx o x && ckE pr tb sx e z
    | _ => false
  | .ife c a b, x0 => match x0 with
    | .If x ys zs _ => ckE pr tb sx c x && ckSs sx a ys && ckSs sx b zs
    | _ => false
  | .for t it b, x0 => match x0 with
    | .For tg iter body [] _ => sx.top && !sx.hot && ckI pr tb sx it tg iter && ckT sx t tg && plainX iter && ckSs sx b body
    | _ => false
  | .forL i js b, x0 => match x0 with
    | .For (.Name y _) (.Tuple es _ _) body [] _ => sx.top && sx.lam && !sx.hot && nmAt sx.N i y && stoB sx y && ckLs pr tb sx js es && decide (js.length ≤ 1000) && ckSs sx b body
    | _ => false
  | .while c b, x0 => match x0 with
    | .While tc body [] _ => sx.top && !sx.hot && ckE pr tb sx c tc && ckSs sx b body
    | _ => false
  | .raise c es, x0 => match x0 with
    | .Raise (some (.Call (.Name x _) xs [] _)) none _ => sx.top && !sx.hot && nmIs tb.cl[c]? x && glB sx.sc x && !xs.isEmpty && xs.all plainX && ckEs pr tb sx es xs && (match pr.cls[c]? with
      | some cl => cl.exn && !cl.flds.isEmpty && decide (cl.flds.length ≤ 900)
      | none => false)
    | _ => false
  | .try b hs, x0 => match x0 with
    | .Try body [.ExceptHandler (some (.Name x _)) nm (s₀ :: suite) _] [] [] _ => sx.top && !sx.hot && glB sx.sc x && ckSs (trySx sx) b body && ckH sx hs x nm (s₀ :: suite)
    | _ => false
def ckSs (sx : Sx) : Sms → List Stmt → Bool
  | .nil, xs => xs.isEmpty
  | .cons s r, xs => match xs with
    | x :: xs => ckS sx s x && ckSs sx r xs
    | _ => false
def ckH (sx : Sx) : Hs → Str → Option Str → List Stmt → Bool
  | .nil, _, _, _ => false
  | .cons c as b .nil, x, nm, suite => nmIs tb.cl[c]? x && (match pr.cls[c]? with
      | some cl => cl.exn
      | none => false) && (match as, nm with
      | none, none => true
      | some i, some n => nmAt sx.N i n && decide (sx.sc.names.lookup n = some .local)
      | _, _ => false) && ckSs (suiteSx sx as.isSome) b suite
  | .cons _ _ _ (.cons _ _ _ _), _, _, _ => false
end
end
end Ev

end

section
set_option maxRecDepth 512
set_option Elab.async false
set_option linter.all false
set_option maxRecDepth 100000
set_option maxHeartbeats 4000000
namespace Ev
open PySem L2 PySem.Spec PyProof.Rows
section
variable {pr : Prog} {tb : Tab} {call : Nat → List E → Cells → Ev.R E} {lamc : Nat → Env → Cells → Ev.R E} {k : Nat}
theorem _root_.L2.PS.cast {X : Cx} {cA : Cfg} {W : WX} {x : Stmt} {f f' : Env → Cells → RS} (h : PS X x (tS X.K cA W f)) (e : ∀ env C, f' env C = f env C) : PS X x (tS X.K cA W f') := by
  have : f' = f := funext fun env => funext fun C => e env C
  rw [this]; exact h
theorem _root_.L2.PSs.cast {X : Cx} {cA : Cfg} {W : WX} {x : List Stmt} {f f' : Env → Cells → RS} (h : PSs X x (tS X.K cA W f)) (e : ∀ env C, f' env C = f env C) : PSs X x (tS X.K cA W f') := by
  have : f' = f := funext fun env => funext fun C => e env C
  rw [this]; exact h
/-- cA's lambdas are those that the check saw -/
def LamT (pr : Prog) (tb : Tab) (cA : Cfg) (sx : Sx) : Prop := ∀ j p b s, lamB pr tb sx j p b s = true → cA.lam j p b s
theorem ckLs_ok {cA : Cfg} {sx : Sx} (hl : LamT pr tb cA sx) : ∀ {js : List Nat} {es : List Expr}, ckLs pr tb sx js es = true → ckL cA sx.sc js es
  | [], es, h => by
    rw [ckLs.eq_def] at h
    cases es with
    | nil => trivial
    | cons => cases h
  | j :: js, es, h => by
    rw [ckLs.eq_def] at h
    dsimp only at h
    split at h
    · rename_i p b s lp es'
      rw [Bool.and_eq_true] at h
      have h1 := h.1
      unfold lamB at h1
      simp only [Bool.and_eq_true] at h1
      exact ⟨⟨p, b, s, rfl, hl j p b s h.1, LamX.lamS_by h1.1.1, h1.1.2⟩, ckLs_ok hl h.2⟩
    · cases h
theorem Hy.tr {cA : Cfg} {sx : Sx} {W W' : WX} {X : Cx} (h : Hy pr tb call lamc cA sx k W X) (pn : List (Addr × Obj)) (xe : Value → Shared → Prop) (tk : Takes (X.tr pn xe) W') (ow : PassesOwn (model X.prog X.w) X.A X.env xe) : Hy pr tb call lamc cA (trySx sx) k W' (X.tr pn xe) where
  g := { N := h.g.N, nd := h.g.nd, sc := h.g.sc, un := h.g.un, tk := tk, calm := h.g.calm, room := h.g.room, top := h.g.top, own := fun _ _ => ow, stb := h.g.stb }
  F := h.F
  hR := h.hR
  hL := fun z => let ⟨lf, q⟩ := h.hL z; ⟨⟨lf.cells, lf.q, lf.tb⟩, q⟩
  hE := fun _ _ _ _ z => by cases z
theorem Hy.suite {cA : Cfg} {sx : Sx} {W : WX} {X : Cx} (h : Hy pr tb call lamc cA sx k W X) (a : Addr) (oe : Obj) (pn : List (Addr × Obj)) (as : Bool) (cA' : Cfg) (h0 : cA'.toCfg0 = cA.toCfg0) (he : ∀ a' C d, cA'.exc = some (a', C, d) → as = true → a' = a ∧ Zc (.ref C) d oe ∧ ∃ vs, oe.data = .fields vs) :
    Hy pr tb call lamc cA' (suiteSx sx as) k W0 (X.suite a ((a, oe) :: pn)) where
  g := { N := h.g.N, nd := h.g.nd, sc := h.g.sc, un := h.g.un, tk := LamX.takes0, calm := (fun z => by cases z), room := (fun z => by cases z), top := h.g.top, own := (fun _ z => by cases z), stb := h.g.stb }
  F := by rw [h0]; exact h.F
  hR := fun _ z => by cases z
  hL := fun z => by cases z
  hE := fun a' C d hx z => by
    obtain ⟨rfl, z1, z2⟩ := he a' C d hx z
    exact ⟨X, oe, pn, rfl, z1, z2⟩
mutual
theorem okS : ∀ (s : Sm) (cA : Cfg) (sx : Sx) (W : WX) (X : Cx) (h : Hy pr tb call lamc cA sx k W X) (hl : LamT pr tb cA sx) (he : sx.hot = false → cA.exc = none) (x : Stmt), ckS pr tb sx s x = true → PS X x (tS X.K cA W (exS pr call lamc s))
  | .exp e, cA, sx, W, X, h, hl, he, x, hc => by
    rw [ckS.eq_def] at hc; dsimp only at hc
    split at hc
    · rw [Bool.and_eq_true] at hc
      exact (s_exp (okE e sx W X h _ hc.2).1 hc.1).cast fun env C => by rw [exS] <;> rfl
    · cases hc
  | .ret e, cA, sx, W, X, h, hl, he, x, hc => by
    rw [ckS.eq_def] at hc; dsimp only at hc
    split at hc
    · exact (s_ret (okE e sx W X h _ hc).1).cast fun env C => by rw [exS] <;> rfl
    · cases hc
  | .retN, cA, sx, W, X, h, hl, he, x, hc => by
    rw [ckS.eq_def] at hc; dsimp only at hc
    split at hc
    · exact s_retN.cast fun env C => by rw [exS] <;> rfl
    · cases hc
  | .pass, cA, sx, W, X, h, hl, he, x, hc => by
    rw [ckS.eq_def] at hc; dsimp only at hc
    split at hc
    · exact s_pass.cast fun env C => by rw [exS] <;> rfl
    · cases hc
  | .brk, cA, sx, W, X, h, hl, he, x, hc => by
    rw [ckS.eq_def] at hc; dsimp only at hc
    split at hc
    · exact s_brk.cast fun env C => by rw [exS] <;> rfl
    · cases hc
  | .cont, cA, sx, W, X, h, hl, he, x, hc => by
    rw [ckS.eq_def] at hc; dsimp only at hc
    split at hc
    · exact s_ct.cast fun env C => by rw [exS] <;> rfl
    · cases hc
  | .asg t e, cA, sx, W, X, h, hl, he, x0, hc => by
    rw [ckS.eq_def] at hc; dsimp only at hc
    split at hc
    · rename_i i y p x pos
      simp only [Bool.and_eq_true, decide_eq_true_eq] at hc
      obtain ⟨⟨⟨⟨⟨h1, h2⟩, h3⟩, h4⟩, h5⟩, h6⟩ := hc
      have hk : X.env.scope.kind = .function := by rw [h.g.sc]; exact h2
      have sw := sw_sole (tg := .Name y p) (l := pos.line) hk h1
      rw [h.g.sc] at sw
      cases hv : swV sx.sc x (.Name y p) with
      | false =>
        rw [hv] at sw
        exact (s_asgN h.g h3 h4 (okE e sx W X h _ h5).1 sw).cast fun env C => by rw [exS] <;> rfl
      | true =>
        rw [hv] at h6 sw
        cases e <;> first | (cases h6; done) | skip
        case comp own t it ifs r =>
          rw [ckE.eq_def] at h5; dsimp only at h5
          split at h5
          · rename_i elt tg iter ifs' gs scope q
            simp only [Bool.and_eq_true, Bool.not_eq_true', List.all_eq_true, beq_iff_eq] at h5
            obtain ⟨⟨⟨⟨⟨⟨⟨⟨⟨⟨h0, h1⟩, h2⟩, h3'⟩, h4'⟩, h5⟩, h6⟩, h7⟩, h8⟩, h9⟩, h10⟩ := h5
            have h7' : own.all (fun i => stC scope (T (sx.N[i]?.getD []))) = true := List.all_eq_true.mpr h7
            have bk := fun s H C cl fp => Hy.blk h h7' s H C cl fp
            have hyl : X.env.scope.names.lookup y = some .local := by
              rw [h.g.sc]
              unfold swV at hv
              simp only [Bool.and_eq_true, decide_eq_true_eq] at hv
              exact hv.1.1
            refine PS.cast (f := fun env C => (evE pr call lamc (.comp own t it ifs r) env C).st env fun x C => match asgE (.nm i) x env with
              | none => .bad
              | some env => .next env C) (PS.imp (r_setLc (cA := cA) (W := W) (own := ownP sx.N own) (vs1 := gsl r) (ft := evC pr call lamc ifs) (fr := evG pr call lamc r) (h.g.calm h0) h.g.nd (h.g.at h3) hyl sw (okI it sx W X h tg iter h1) (by rw [h.g.N, h.g.sc]; exact blkOk_by h3') h6 (by rw [ownP_snd]; exact fun i hi => by simpa using h4' i hi) (by rw [ownP_snd]; exact fun i hi => by simpa using h5 i hi)
              (fun s H C cl fp => r_tg (cA := cA) (bk s H C cl fp).g h8) (fun s H C cl fp => okC ifs _ _ _ (bk s H C cl fp) ifs' h9) (fun s H C cl fp => okG r _ _ (bk s H C cl fp) (fun _ _ z => z) h0 elt (⟨tg, iter, ifs', 0⟩ :: gs) scope q 0 gs rfl (fun g hg => by
                rcases List.mem_cons.mp hg with rfl | hg
                · rfl
                · exact h6 g hg) h10) h2) fun D σ H hh => ?_) fun env C => by rw [exS] <;> rfl
            refine tAsg_name ?_
            have e : (evE pr call lamc (.comp own t it ifs r)) = fun env C => (evI pr call lamc it env C).bind fun w C =>
              (noexc (compL (wipeE env ((ownP sx.N own).map (·.2))) t (fun env C acc => stepC (evC pr call lamc ifs env C) (fun C => evG pr call lamc r env C acc) acc) w.1 (lock C w.2) [])).bind fun ds C' => .ok (.v (.lst ds)) (unlock C C' w.2) := funext fun env => funext fun C => by rw [evE, ownP_snd] <;> rfl
            rw [e] at hh
            exact hh
          · cases h5
    · rename_i ts es n p x pos
      simp only [Bool.and_eq_true, decide_eq_true_eq] at hc
      obtain ⟨⟨⟨⟨h1, h2⟩, h3⟩, h4⟩, h5⟩ := hc
      have hk : X.env.scope.kind = .function := by rw [h.g.sc]; exact h2
      have sw := sw_sole (tg := .Tuple es n p) (l := pos.line) hk h1
      have sv : swV X.env.scope x (.Tuple es n p) = false := by cases x <;> rfl
      rw [sv] at sw
      have ss : swappedStores [.Tuple es n p] x X.env = pure none := by
        cases x <;> first | exact ss_plain rfl | skip
        case Tuple vs m q =>
          unfold ssB at h4
          simp only [decide_eq_true_eq] at h4
          exact ss_no hk (by rw [h.g.sc]; exact h4)
      exact (s_asgT h.g h3 (okE e sx W X h _ h5).1 sw ss).cast fun env C => by rw [exS] <;> rfl
    · cases hc
  | .par i j a b, cA, sx, W, X, h, hl, he, x, hc => by
    rw [ckS.eq_def] at hc; dsimp only at hc
    split at hc
    · rename_i y py z pz nn pp xx ww mm qq pos
      simp only [Bool.and_eq_true, Bool.not_eq_true', decide_eq_true_eq] at hc
      obtain ⟨⟨⟨⟨⟨⟨⟨⟨⟨⟨⟨⟨h0, h1⟩, h2⟩, h3⟩, h4⟩, h5⟩, h6⟩, h7⟩, h8⟩, h9⟩, h10⟩, h11⟩, h12⟩ := hc
      have hk : X.env.scope.kind = .function := by rw [h.g.sc]; exact h0
      have ss := ss_yes (n := nn) (m := mm) (p := pp) (q := qq) hk (by rw [h.g.sc]; exact h11)
      rw [h.g.sc, h12] at ss
      exact (s_par h.g h1 h2 h3 h4 h5 h6 h7 h8 (okE a sx W X h _ h9).1 (okE b sx W X h _ h10).1 ss).cast fun env C => by rw [exS] <;> rfl
    · cases hc
  | .aug i o e, cA, sx, W, X, h, hl, he, x, hc => by
    rw [ckS.eq_def] at hc; dsimp only at hc
    split at hc
    · simp only [Bool.and_eq_true, decide_eq_true_eq] at hc
      obtain ⟨⟨⟨rfl, h1⟩, h2⟩, h3⟩ := hc
      exact (s_aug h.g o h1 h2 (okE e sx W X h _ h3).1).cast fun env C => by rw [exS] <;> rfl
    · cases hc
  | .augI o i op e, cA, sx, W, X, h, hl, he, x, hc => by
    rw [ckS.eq_def] at hc; dsimp only at hc
    split at hc
    · simp only [Bool.and_eq_true, decide_eq_true_eq] at hc
      obtain ⟨⟨⟨⟨rfl, h1⟩, h2⟩, h3⟩, h4⟩ := hc
      exact (s_augI op h1 (okE o sx W X h _ h2).1 (okE i sx W X h _ h3).1 (okE e sx W X h _ h4).1).cast fun env C => by rw [exS] <;> rfl
    · cases hc
  | .setI o i e, cA, sx, W, X, h, hl, he, x, hc => by
    rw [ckS.eq_def] at hc; dsimp only at hc
    split at hc
    · simp only [Bool.and_eq_true, decide_eq_true_eq] at hc
      obtain ⟨⟨⟨⟨h0, h1⟩, h2⟩, h3⟩, h4⟩ := hc
      exact (s_setI h.g h0 h1 (okE o sx W X h _ h2).1 (okE i sx W X h _ h3).1 (okE e sx W X h _ h4).1).cast fun env C => by rw [exS] <;> rfl
    · cases hc
  | .setD o i e, cA, sx, W, X, h, hl, he, x, hc => by
    rw [ckS.eq_def] at hc; dsimp only at hc
    split at hc
    · simp only [Bool.and_eq_true, decide_eq_true_eq] at hc
      obtain ⟨⟨⟨⟨h0, h1⟩, h2⟩, h3⟩, h4⟩ := hc
      exact (s_setD h.g h0 h1 (okE o sx W X h _ h2).1 (okE i sx W X h _ h3).1 (okE e sx W X h _ h4).1).cast fun env C => by rw [exS] <;> rfl
    · cases hc
  | .setA o f e, cA, sx, W, X, h, hl, he, x, hc => by
    rw [ckS.eq_def] at hc; dsimp only at hc
    split at hc
    · simp only [Bool.and_eq_true, decide_eq_true_eq] at hc
      obtain ⟨⟨⟨h0, h1⟩, h2⟩, h3⟩ := hc
      subst h0
      exact (s_setA h.F h1 (okE o sx W X h _ h2).1 (okE e sx W X h _ h3).1 f).cast fun env C => by rw [exS] <;> rfl
    · cases hc
  | .augA o f op e, cA, sx, W, X, h, hl, he, x, hc => by
    rw [ckS.eq_def] at hc; dsimp only at hc
    split at hc
    · simp only [Bool.and_eq_true, decide_eq_true_eq] at hc
      obtain ⟨⟨⟨h0, h1⟩, h2⟩, h3⟩ := hc
      subst h0
      subst h1
      exact (s_augA h.F op (okE o sx W X h _ h2).1 (okE e sx W X h _ h3).1 f).cast fun env C => by rw [exS] <;> rfl
    · cases hc
  | .ife c a b, cA, sx, W, X, h, hl, he, x, hc => by
    rw [ckS.eq_def] at hc; dsimp only at hc
    split at hc
    · simp only [Bool.and_eq_true] at hc
      exact (s_ife (okE c sx W X h _ hc.1.1).2.1 (okSs a cA sx W X h hl he _ hc.1.2) (okSs b cA sx W X h hl he _ hc.2)).cast fun env C => by rw [exS] <;> rfl
    · cases hc
  | .for t it b, cA, sx, W, X, h, hl, he, x, hc => by
    rw [ckS.eq_def] at hc; dsimp only at hc
    split at hc
    · simp only [Bool.and_eq_true, Bool.not_eq_true'] at hc
      obtain ⟨⟨⟨⟨⟨h0, h1⟩, h2⟩, h3⟩, h4⟩, h5⟩ := hc
      exact (s_for h.g (h.g.own h0 h1) h1 (okI it sx W X h _ _ h2) h3 (okSs b cA sx W X h hl he _ h5) h4).cast fun env C => by rw [exS] <;> rfl
    · cases hc
  | .forL i js b, cA, sx, W, X, h, hl, he, x, hc => by
    rw [ckS.eq_def] at hc; dsimp only at hc
    split at hc
    · simp only [Bool.and_eq_true, Bool.not_eq_true', decide_eq_true_eq] at hc
      obtain ⟨⟨⟨⟨⟨⟨⟨h0, h1⟩, h2⟩, h3⟩, h4⟩, h5⟩, h6⟩, h7⟩ := hc
      obtain ⟨lf, _⟩ := h.hL h1
      exact (s_forL h.g lf (h.g.own h0 h2) h2 h3 h4 (by rw [h.g.sc]; exact ckLs_ok hl h5) h6 (okSs b cA sx W X h hl he _ h7)).cast fun env C => by rw [exS] <;> rfl
    · cases hc
  | .while c b, cA, sx, W, X, h, hl, he, x, hc => by
    rw [ckS.eq_def] at hc; dsimp only at hc
    split at hc
    · simp only [Bool.and_eq_true, Bool.not_eq_true'] at hc
      obtain ⟨⟨⟨h0, h1⟩, h2⟩, h3⟩ := hc
      exact (s_while (h.g.own h0 h1) (okE c sx W X h _ h2).2.1 (okSs b cA sx W X h hl he _ h3) pr.most).cast fun env C => by rw [exS] <;> rfl
    · cases hc
  | .raise c es, cA, sx, W, X, h, hl, he, x, hc => by
    rw [ckS.eq_def] at hc; dsimp only at hc
    split at hc
    · rename_i y p xs pos pos'
      simp only [Bool.and_eq_true, Bool.not_eq_true'] at hc
      obtain ⟨⟨⟨⟨⟨⟨⟨h0, h1⟩, h2⟩, h3⟩, h4⟩, h5⟩, h6⟩, h7⟩ := hc
      obtain ⟨nm, n1, n2, n3⟩ := nmIs_ok h2
      split at h7
      · rename_i cl hcl
        simp only [Bool.and_eq_true, Bool.not_eq_true', decide_eq_true_eq] at h7
        cases xs with
        | nil => cases h4
        | cons z zs =>
          rw [List.all_cons, Bool.and_eq_true] at h5
          exact (s_raise h.g h.F rfl h1 ((h.hR h0 h1).mono (Nat.le_succ _)) n1 n3 n2 h3 hcl h7.1.1 (by intro z; rw [z] at h7; cases h7.1.2) h7.2 h5.1 h5.2 (okEs es sx W X h _ h6)).cast fun env C => by rw [exS] <;> rfl
      · cases h7
    · cases hc
  | .try b hs, cA, sx, W, X, h, hl, he, x, hc => by
    rw [ckS.eq_def] at hc; dsimp only at hc
    split at hc
    · rename_i body y p nm s₀ suite p2 p3
      simp only [Bool.and_eq_true, Bool.not_eq_true'] at hc
      obtain ⟨⟨⟨⟨h0, h1⟩, h2⟩, h3⟩, h4⟩ := hc
      have hb : ∀ (W : WX) (pn : List (Addr × Obj)) (xe : Value → Shared → Prop), Takes (X.tr pn xe) W → PassesOwn (model X.prog X.w) X.A X.env xe → PSs (X.tr pn xe) body (tS X.K cA W (exSs pr call lamc b)) := fun W' pn xe tk ow => okSs b cA (trySx sx) W' (X.tr pn xe) (h.tr pn xe tk ow) hl he body h3
      cases hs with
      | nil => rw [ckH.eq_def] at h4; cases h4
      | cons c as bs r =>
        cases r with
        | cons => rw [ckH.eq_def] at h4; cases h4
        | nil =>
          rw [ckH.eq_def] at h4; dsimp only at h4
          simp only [Bool.and_eq_true] at h4
          obtain ⟨⟨⟨h5, h6⟩, h7⟩, h8⟩ := h4
          obtain ⟨nn, n1, n2, n3⟩ := nmIs_ok h5
          split at h6
          · rename_i cl hcl
            split at h7
            · refine (s_tryOnly h.g h.F h0 n1 n3 n2 h2 hcl h6 hb fun a oe pn => okSs bs cA (suiteSx sx false) W0 _ (h.suite a oe pn false cA rfl fun _ _ _ _ z => by cases z) hl (fun z => by cases z) _ h8).cast fun env C => ?_
              rw [exS]
              cases exSs pr call lamc b env C <;> first | rfl | (rw [exH, exH] <;> rfl)
            · rename_i i n
              simp only [Bool.and_eq_true, decide_eq_true_eq] at h7
              refine (s_tryAs h.g h.F h0 (he h1) n1 n3 n2 h2 h7.1 h7.2 hcl h6 hb fun a oe C d pn hz hf => okSs bs { cA with exc := some (a, C, d) } (suiteSx sx true) W0 _ (h.suite a oe pn true _ rfl fun a' C' d' hx _ => by
                cases hx
                exact ⟨rfl, hz, hf⟩) hl (fun z => by cases z) _ h8).cast fun env C => ?_
              rw [exS]
              cases exSs pr call lamc b env C <;> first | rfl | (rw [exH, exH] <;> rfl)
            · cases h7
          · cases h6
    · cases hc
theorem okSs : ∀ (s : Sms) (cA : Cfg) (sx : Sx) (W : WX) (X : Cx) (h : Hy pr tb call lamc cA sx k W X) (hl : LamT pr tb cA sx) (he : sx.hot = false → cA.exc = none) (x : List Stmt), ckSs pr tb sx s x = true → PSs X x (tS X.K cA W (exSs pr call lamc s))
  | .nil, cA, sx, W, X, h, hl, he, x, hc => by
    rw [ckSs.eq_def] at hc; dsimp only at hc
    cases x with
    | nil => exact s_nil.cast fun env C => by rw [exSs]
    | cons => cases hc
  | .cons s r, cA, sx, W, X, h, hl, he, x, hc => by
    rw [ckSs.eq_def] at hc; dsimp only at hc
    split at hc
    · rw [Bool.and_eq_true] at hc
      exact (s_cons (okS s cA sx W X h hl he _ hc.1) (okSs r cA sx W X h hl he _ hc.2)).cast fun env C => by rw [exSs] <;> rfl
    · cases hc
end
end
end Ev

end

section
set_option maxRecDepth 512
set_option Elab.async false
set_option linter.all false
set_option maxRecDepth 100000
set_option maxHeartbeats 4000000
namespace Ev
open PySem L2 PySem.Spec PyProof.Rows
/-- plain parameters of these names -/
def plainArgs (p : Arguments) (ps : List Str) : Bool := p.posonlyargs.isEmpty && decide (p.args.map (·.arg) = ps) && p.vararg.isNone && p.kwonlyargs.isEmpty && p.kwarg.isNone
theorem lookup_zip : ∀ {ps : List Str} {us : List Value} {n : Str}, us.length = ps.length → n ∈ ps → ((ps.zip us).lookup n).isNone = false
  | [], _, _, _, h => by cases h
  | p :: ps, [], _, h, _ => by simp at h
  | p :: ps, u :: us, n, h, hm => by
    rw [List.zip_cons_cons, List.lookup_cons]
    cases e : n == p with
    | true => rfl
    | false =>
      rcases List.mem_cons.mp hm with z | z
      · subst z; simp at e
      · exact lookup_zip (by simpa using h) z
theorem fmc {α β : Type} {f g : α → Option β} : ∀ {l : List α}, (∀ n ∈ l, f n = g n) → l.filterMap f = l.filterMap g
  | [], _ => rfl
  | a :: l, h => by
    rw [List.filterMap_cons, List.filterMap_cons, h a List.mem_cons_self, fmc fun n hn => h n (List.mem_cons_of_mem _ hn)]
theorem fm_zip : ∀ {ps : List Str} {us : List Value}, us.length = ps.length → ps.Nodup → (ps.filterMap fun n => ((ps.zip us).lookup n).map fun x => (n, x)) = ps.zip us
  | [], us, _, _ => by simp
  | p :: ps, [], h, _ => by simp at h
  | p :: ps, u :: us, h, nd => by
    rw [List.nodup_cons] at nd
    rw [List.zip_cons_cons, List.filterMap_cons]
    simp only [List.lookup_cons, beq_self_eq_true, Option.map_some]
    congr 1
    have ih := fm_zip (us := us) (by simpa using h) nd.2
    conv => rhs; rw [← ih]
    refine fmc fun n hn => ?_
    have : (n == p) = false := by
      have : n ≠ p := fun z => nd.1 (z ▸ hn)
      simpa using this
    rw [this]
theorem bind_plain {x qual : Str} {params : Arguments} {body : List Stmt} {scope : Scope} {ps : List Str} (h : plainArgs params ps = true) (nd : ps.Nodup) (kV doc pm : Value) (an : Option Addr) (cdv ct : Value) (us : List Value) (hl : us.length = ps.length) :
    bindArgs (PySem.W.fnOf x qual params body scope .none kV doc pm an cdv ct) ⟨us, []⟩ = pure (ps.zip us) := by
  unfold plainArgs at h
  simp only [Bool.and_eq_true, List.isEmpty_iff, Option.isNone_iff_eq_none, decide_eq_true_eq] at h
  obtain ⟨⟨⟨⟨h1, h2⟩, h3⟩, h4⟩, h5⟩ := h
  obtain ⟨pa, ar, va, ko, kd, ka, de⟩ := params
  simp only at h1 h2 h3 h4 h5
  subst h1 h3 h4 h5
  have hm : ((ps.take ps.length).filter fun n => ((ps.zip us).lookup n).isNone) = [] := by
    rw [List.filter_eq_nil_iff]
    intro n hn
    rw [List.take_length] at hn
    rw [lookup_zip hl hn]; decide
  have hs : seqItems? Value.none = pure Option.none := rfl
  unfold bindArgs
  simp only [PySem.W.fnOf, List.map_nil, List.nil_append, h2, hs]
  simp only [pure_bind, Option.getD_none, List.length_nil, Nat.zero_sub, List.drop_nil, Nat.sub_zero, hl, Nat.lt_irrefl, gt_iff_lt, decide_false, Bool.false_and, List.zip_nil_right, List.drop_zero, hm]
  simp [fm_zip hl nd, hm]
  intro y hy hn
  have z := lookup_zip hl hy
  cases e : (ps.zip us).lookup y with
  | none => rw [e] at z; cases z
  | some v => exact (hn v (PySem.mem_of_lookup e)).elim

/-! ### __init__ of own exceptions -/
def initBody : List Stmt → List Nm → List Nm → Bool
  | [], [], [] => true
  | .Assign [.Attribute (.Name x _) f _] (.Name y _) _ :: r, fl :: fls, p :: ps => decide (x = ("self" : Str)) && decide (T fl = f) && decide (T p = y) && nmOk y && initBody r fls ps
  | _, _, _ => false
def selfNm : Nm := [115, 101, 108, 102]
def initB (st : Stmt) (fls ps : List Nm) : Bool := C8.scC ((selfNm :: ps).map T) ((selfNm :: ps).map T) (defScope st) && plainArgs (defArgs st) ((selfNm :: ps).map T) && initBody (defBody st) fls ps && decide (fls.length = ps.length) && !fls.isEmpty && decide (fls.length ≤ 900)
theorem self_T : T selfNm = ("self" : Str) := by decide
def tInit (K : PySem.W.Frag) : List (Nm × Nat) → TS
  | [] => tNext
  | (f, i) :: r => tSeq (tOst K (T f) (tVar 0) (tVar i)) (tInit K r)
def slotsFrom (n : Nat) : List Nm → List (Nm × Nat)
  | [] => []
  | f :: r => (f, n) :: slotsFrom (n + 1) r
section
variable {X : Cx}
theorem init_body : ∀ {body : List Stmt} {fls ps : List Nm} {n : Nat}, (∀ (i : Nat) (x : Nm), ps[i]? = some x → X.N[n + i]? = some (T x) ∧ Vis X.env.scope (T x)) → X.N[0]? = some ("self" : Str) → Vis X.env.scope ("self" : Str) → initBody body fls ps = true → PSs X body (tInit X.K (slotsFrom n fls))
  | [], fls, ps, n, hN, h0, hv, h => by
    cases fls with
    | nil => exact pss_nil
    | cons => cases ps <;> simp [initBody] at h
  | st :: body, fls, ps, n, hN, h0, hv, h => by
    rw [initBody.eq_def] at h
    split at h
    · rename_i heq; cases heq
    · rename_i x p0 f p1 y p2 p3 r fl fls pp ps heq
      cases heq
      simp only [Bool.and_eq_true, decide_eq_true_eq] at h
      obtain ⟨⟨⟨⟨rfl, rfl⟩, rfl⟩, h4⟩, h5⟩ := h
      unfold nmOk at h4
      simp only [Bool.and_eq_true, Bool.not_eq_true'] at h4
      obtain ⟨n1, n2⟩ := hN 0 _ rfl
      have pe1 : PE X (.Name "self" p0) (tVar 0) := pe_var h0 hv (by decide) (by decide)
      have pe2 : PE X (.Name (T pp) p2) (tVar n) := pe_var n1 n2 h4.1.1 h4.1.2
      refine pss_cons (ps_ost pe1 pe2) (init_body (fun i x hi => ?_) h0 hv h5)
      have := hN (i + 1) x (by simpa using hi)
      rw [show n + 1 + i = n + (i + 1) by omega]
      exact this
    · cases h
end
/-- the heap while it is made: its dict at dx holds fs -/
def Hm (H : Hp) (a C dx : Addr) (fs : List (Str × V)) : Hp := L2.upd (L2.upd H dx (L2.exd dx fs)) a (L2.exo a C (some dx))
theorem Hm_a {H : Hp} {a C dx : Addr} {fs : List (Str × V)} : Hm H a C dx fs a = some (L2.exo a C (some dx)) := upd_same
theorem Hm_d {H : Hp} {a C dx : Addr} {fs : List (Str × V)} (h : dx ≠ a) : Hm H a C dx fs dx = some (L2.exd dx fs) := by unfold Hm; rw [upd_ne h, upd_same]
theorem Hm_up {H : Hp} {a C dx : Addr} {fs gs : List (Str × V)} (h : dx ≠ a) : L2.upd (Hm H a C dx fs) dx (L2.exd dx gs) = Hm H a C dx gs := by
  unfold Hm
  rw [upd_comm (Ne.symm h), L2.upd_upd]
theorem init_more {K : PySem.W.Frag} {C : Addr} (TO : L2.OexC K C) {D : Ends} {H : Hp} {a dx : Addr} (hne : dx ≠ a) {σ : L2.St} (h0 : σ[0]? = some (some (.ref a))) :
    ∀ {fls : List Nm} {xs : List V} {n : Nat} {fs : List (Str × V)}, fls.length = xs.length → fs.length + fls.length ≤ 901 → (∀ f ∈ fls, PySem.W.findIn K (.ref C) (T f) = some none) → (∀ (i : Nat) (x : V), xs[i]? = some x → σ[n + i]? = some (some x)) →
      D.nx σ (Hm H a C dx (((fls.map T).zip xs).reverse ++ fs)) → tInit K (slotsFrom n fls) D σ (Hm H a C dx fs)
  | [], xs, n, fs, hl, hz, hno, hx, q => by
    cases xs with
    | nil => exact q
    | cons => simp at hl
  | f :: fls, [], n, fs, hl, hz, hno, hx, q => by simp at hl
  | f :: fls, x :: xs, n, fs, hl, hz, hno, hx, q => by
    refine ⟨x, by simpa using hx 0 x rfl, .ref a, h0, a, C, rfl, TO, hno f List.mem_cons_self, .inr ⟨dx, fs, Hm_a, Hm_d hne, by simp at hz; omega, ?_⟩⟩
    rw [Hm_up hne]
    refine init_more TO hne h0 (by simpa using hl) (by simp at hz ⊢; omega) (fun g hg => hno g (List.mem_cons_of_mem _ hg)) (fun i y hy => ?_) (by simpa using q)
    have := hx (i + 1) y (by simpa using hy)
    rw [show n + 1 + i = n + (i + 1) by omega]
    exact this
theorem ok_init {P : Program} {w : World} {K : PySem.W.Frag} {mg : Str → Option Value} {base : Heap} {fI C : Addr} {fd : FuncData} {qual : Str} {st : Stmt} {fls ps : List Nm} (F : FunD K "__init__" qual (defArgs st) (defBody st) (defScope st) [] [] fI fd) (hb : initB st fls ps = true) (TO : L2.OexC K C) (hno : ∀ f ∈ fls, PySem.W.findIn K (.ref C) (T f) = some none) (k : Nat) :
    Binds K fd ((selfNm :: ps).map T) [] ∧ FnOk P w K mg base (L2.CX P w) (k + 1) fI fd ((selfNm :: ps).map T) (spI C fls) := by
  unfold initB at hb
  simp only [Bool.and_eq_true, decide_eq_true_eq, Bool.not_eq_true'] at hb
  obtain ⟨⟨⟨⟨⟨h1, h2⟩, h3⟩, h4⟩, h5⟩, h6⟩ := hb
  have S := C8.fnScope_by h1
  refine ⟨F.bindsN fun kV doc pm an cdv ct us hl => bind_plain h2 S.nd kV doc pm an cdv ct us hl, F.ok S (fun vs H Q E ⟨a, xs, e1, e2, _⟩ => ?_) fun cdv A outer s H vs Q E hr ⟨a, xs, e1, e2, e3, e4, q⟩ => ⟨_, init_body (n := 1) (fun i x hi => ⟨?_, ?_⟩) ?_ ?_ h3, ?_⟩⟩
  · subst e1
    simp [e2, h4]
  · show ((selfNm :: ps).map T)[1 + i]? = _
    rw [Nat.add_comm, List.map_cons, List.getElem?_cons_succ, List.getElem?_map, hi]; rfl
  · have hm : T x ∈ (selfNm :: ps).map T := List.mem_map.mpr ⟨x, List.mem_cons_of_mem _ (List.mem_of_getElem? hi), rfl⟩
    exact (S.par _ hm).elim .inl fun z => .inr (.inl z)
  · show ((selfNm :: ps).map T)[0]? = _
    rw [List.map_cons, List.getElem?_cons_zero, self_T]
  · have hm : T selfNm ∈ (selfNm :: ps).map T := by simp
    rw [← self_T]
    exact (S.par _ hm).elim .inl fun z => .inr (.inl z)
  · subst e1
    cases fls with
    | nil => exact absurd rfl e3
    | cons f fls =>
      cases xs with
      | nil => simp at e2
      | cons x xs =>
        have hs : ∀ (i : Nat) (v : V), (V.ref a :: x :: xs)[i]? = some v → (L2.start ((selfNm :: ps).map T) (V.ref a :: x :: xs))[i]? = some (some v) := fun i v hi => by
          unfold L2.start
          rw [List.getElem?_append_left (by
            have := (List.getElem?_eq_some_iff.mp hi).1
            simpa using this), List.getElem?_map, hi]; rfl
        refine ⟨x, hs 1 x rfl, .ref a, hs 0 _ rfl, a, C, rfl, TO, hno f List.mem_cons_self, .inl ⟨e4, fun dx hdx hne => ?_⟩⟩
        have := init_more (H := H) (D := { nx := fun _ H' => Q .non H', rt := Q }) TO hne (hs 0 _ rfl) (fls := fls) (xs := xs) (n := 2) (fs := [(T f, x)]) (by simpa using e2.symm) (by simp at h6 ⊢; omega) (fun g hg => hno g (List.mem_cons_of_mem _ hg)) (fun i v hi => hs (2 + i) v (by rw [Nat.add_comm]; simpa using hi)) (by
          have z := q dx hdx hne
          simpa [Hm] using z)
        exact this
end Ev

end

section
set_option maxRecDepth 512
set_option Elab.async false
set_option linter.all false
set_option maxRecDepth 100000
set_option maxHeartbeats 4000000
namespace Ev
open PySem L2 PySem.Spec PyProof.Rows

/-! ### the text -/
structure DefR where
  name : Nm
  /-- the global's name that it is called by; a method's class -/
  at_ : Nm
  met : Bool
  st : Stmt
  N : List Nm
  lam : Bool
def DefR.path (d : DefR) : Str × Option Str := (T d.at_, if d.met then some (T d.name) else none)
def DefR.qual (d : DefR) : Str := if d.met then T d.at_ ++ ("." ++ T d.name) else T d.name
/-- its name in the table: a method has none -/
def DefR.gl (d : DefR) : Nm := if d.met then [] else d.at_
structure ClsR where
  name : Nm
  init : Option (Stmt × List Nm)
structure Text where
  pr : Prog
  tb : Tab
  defs : List DefR
  cls : List ClsR
/-- the j-th statement of a class -/
def clsSt (s : Stmt) (j : Nat) : Stmt := match s with
  | .ClassDef (body := b) .. => b.getD j (.Pass ⟨0, 0, 0, 0⟩)
  | _ => .Pass ⟨0, 0, 0, 0⟩
def locB (sc : Scope) (x : Str) : Bool := match sc.names.lookup x with
  | some .local => true
  | some .cell => true
  | _ => false
def sxOf (d : DefR) : Sx := { N := d.N, sc := defScope d.st, hot := false, top := true, lam := d.lam, exc := false, st := d.N.filter fun x => locB (defScope d.st) (T x) }
def okDef (pr : Prog) (tb : Tab) (d : DefR) (fn : Fn) : Bool :=
  decide (fn.ns = d.N.length) && decide (fn.ps ≤ fn.ns) && C8.scC (d.N.map T) ((d.N.take fn.ps).map T) (defScope d.st) && plainArgs (defArgs d.st) ((d.N.take fn.ps).map T) && ckSs pr tb (sxOf d) fn.body (defBody d.st)
def lamQ (d : DefR) : Str := (envOfC d.qual (defScope d.st) 0 0 .none).qual ++ "<lambda>"
def bltNames : List Str := ["len", "int", "list", "tuple", "any", "all", "max", "min", "sum", "isinstance", "range", "enumerate", "zip", "str", "bool", "dict", "sorted", "set"]
def Text.fa (t : Text) : List He.Fa := bltNames.map .free ++ (t.defs.filter (!·.met)).map (fun d => .glo (T d.at_)) ++ t.cls.map (fun c => .glo (T c.name)) ++ (t.defs.filter (!·.met)).map (fun d => .keep (T d.at_))
def defD (d : DefR) : He.DefD := ⟨d.path, T d.name, d.qual, defArgs d.st, defBody d.st, defScope d.st, [], []⟩
def initD (c : ClsR) : Option He.DefD := c.init.map fun p => ⟨(T c.name, some "__init__"), "__init__", T c.name ++ ".__init__", defArgs p.1, defBody p.1, defScope p.1, [], []⟩
def Text.fn (t : Text) : List He.DefD := t.defs.map defD ++ t.cls.filterMap initD
def Text.tf (t : Text) : List He.Defn := (t.defs.filter (·.lam)).map DefR.path
/-! what a global holds -/
mutual
def relDB (K : PySem.W.Frag) : D → Value → Bool
  | .non, .none => true
  | .bl b, .bool c => b == c
  | .int i, .int j _ => decide (i = j)
  | .str s, .str x _ => decide (T s = x)
  | .tup xs, .ref a => (match K.lookup a with
    | some ⟨.type n, _, .seq its _, _⟩ => decide (n = "tuple") && decide (its.size ≤ sizeLine) && relDsB K xs its.toList
    | _ => false)
  | .lst xs, .ref a => (match K.lookup a with
    | some ⟨.type n, none, .seq its _, _⟩ => decide (n = "list") && decide (its.size ≤ sizeLine) && relDsB K xs its.toList
    | _ => false)
  | _, _ => false
def relDsB (K : PySem.W.Frag) : List D → List Value → Bool
  | [], [] => true
  | x :: xs, u :: us => relDB K x u && relDsB K xs us
  | _, _ => false
end
section
variable {K : PySem.W.Frag} {cA : Cfg0}
mutual
theorem relDB_ok : ∀ {d : D} {u : Value}, relDB K d u = true → ∃ v, L2.RelV v u ∧ RelD K cA (fun _ => none) d v
  | .non, u, h => by
    cases u <;> first | (simp [relDB] at h; done) | skip
    exact ⟨.non, rfl, by simp only [RelD]⟩
  | .bl b, u, h => by
    cases u <;> first | (simp [relDB] at h; done) | skip
    simp [relDB] at h
    subst h
    exact ⟨.bl b, rfl, by simp only [RelD]⟩
  | .int i, u, h => by
    cases u <;> first | (simp [relDB] at h; done) | skip
    simp [relDB] at h
    subst h
    exact ⟨.int i, ⟨_, rfl⟩, by simp only [RelD]⟩
  | .str s, u, h => by
    cases u <;> first | (simp [relDB] at h; done) | skip
    rw [relDB, decide_eq_true_eq] at h
    subst h
    exact ⟨.str (T s), ⟨_, rfl⟩, by simp only [RelD]⟩
  | .tup xs, u, h => by
    cases u <;> first | (simp [relDB] at h; done) | skip
    case ref a =>
      rw [relDB] at h
      split at h
      · rename_i n od its m sl hk
        simp only [Bool.and_eq_true, decide_eq_true_eq] at h
        obtain ⟨⟨rfl, h2⟩, h3⟩ := h
        obtain ⟨vs, r1, r2⟩ := relDsB_ok h3
        refine ⟨.ref a, rfl, ?_⟩
        simp only [RelD]
        exact ⟨a, vs, rfl, .inr ⟨_, its, m, hk, rfl, rfl, h2, r1⟩, r2⟩
      · cases h
  | .lst xs, u, h => by
    cases u <;> first | (simp [relDB] at h; done) | skip
    case ref a =>
      rw [relDB] at h
      split at h
      · rename_i n its m sl hk
        simp only [Bool.and_eq_true, decide_eq_true_eq] at h
        obtain ⟨⟨rfl, h2⟩, h3⟩ := h
        obtain ⟨vs, r1, r2⟩ := relDsB_ok h3
        refine ⟨.ref a, rfl, ?_⟩
        simp only [RelD]
        exact ⟨a, vs, rfl, .inr ⟨_, its, m, hk, rfl, rfl, rfl, h2, r1⟩, r2⟩
      · cases h
  | .dct _, u, h => by cases u <;> simp [relDB] at h
  | .ins _ _, u, h => by cases u <;> simp [relDB] at h
theorem relDsB_ok : ∀ {ds : List D} {us : List Value}, relDsB K ds us = true → ∃ vs, L2.Vals vs us ∧ RelDs K cA (fun _ => none) ds vs
  | [], us, h => by
    cases us <;> first | (simp [relDsB] at h; done) | exact ⟨[], .nil, by simp only [RelDs]⟩
  | d :: ds, us, h => by
    cases us with
    | nil => simp [relDsB] at h
    | cons u us =>
      rw [relDsB, Bool.and_eq_true] at h
      obtain ⟨v, r1, r2⟩ := relDB_ok h.1
      obtain ⟨vs, r3, r4⟩ := relDsB_ok h.2
      exact ⟨v :: vs, .cons r1 r3, by simp only [RelDs]; exact ⟨v, vs, rfl, r2, r4⟩⟩
end
end
/-- an own exception's class -/
def oexB (K : PySem.W.Frag) (C : Addr) : Bool := (match K.lookup C with
  | some ⟨.type n, _, .cls cd, sl⟩ => (match cd.mro, sl.toList with
    | .ref C' :: bm, [_, _, _, _, some (.builtin m), _] => decide (n = "type") && decide (C' = C) && decide (m = "ValueError.__new__") && !cd.hasDel && cd.hasDict && PySem.HandSPX.refsVE bm
    | _, _ => false)
  | _ => false) && decide (PySem.W.findIn K (.ref C) "__setattr__" = some (some (.builtin "object.__setattr__"))) && decide (PySem.W.subIn K (.ref C) (.type "BaseException") = some true) && decide (PySem.W.typeIn K (.ref C) = some (.type "type")) && PySem.W.keepIn K (.ref C)
theorem oexB_ok {K : PySem.W.Frag} {C : Addr} (h : oexB K C = true) : L2.OexC K C := by
  unfold oexB at h
  simp only [Bool.and_eq_true, decide_eq_true_eq] at h
  obtain ⟨⟨⟨⟨h1, h2⟩, h3⟩, h4⟩, h5⟩ := h
  refine ⟨?_, h2, h3, h4, h5⟩
  split at h1
  · rename_i n dd cd sl ho
    split at h1
    · rename_i C' bm k0 k1 k2 k3 m k5 hm hs
      simp only [Bool.and_eq_true, decide_eq_true_eq, Bool.not_eq_true'] at h1
      obtain ⟨⟨⟨⟨⟨rfl, rfl⟩, rfl⟩, hdel⟩, hhd⟩, ht⟩ := h1
      obtain ⟨nm, bs, mro, ns, qn, hd, sn, sub, ab, col, del⟩ := cd
      dsimp only at hm hdel hhd
      subst hm hdel hhd
      have hsl : sl = #[k0, k1, k2, k3, some (.builtin "ValueError.__new__"), k5] := by
        obtain ⟨l⟩ := sl
        simp only at hs
        rw [hs]
      subst hsl
      exact ⟨nm, qn, ns, bs, bm, sn, sub, ab, col, dd, k0, k1, k2, k3, k5, ho, ht⟩
    · cases h1
  · cases h1
/-- a method of a class: where it stands -/
def metX (K : PySem.W.Frag) (C : Addr) (m : Nm) : Bool := decide (PySem.W.findIn K (.ref C) (T m) = some (some (.ref (He.ma K C (T m))))) && PySem.W.isFn K (.ref (He.ma K C (T m))) && PySem.W.keepIn K (.ref (He.ma K C (T m)))
/-- an own class that is no exception's -/
def ownX (t : Text) (K : PySem.W.Frag) (c : Nat) : Bool := match t.cls[c]?, t.pr.cls[c]? with
  | some r, some cl => cl.exn || (let C := He.ga K (T r.name)
    PySem.W.plainGet K C Str.empty && decide (PySem.W.findIn K (.ref C) "__ne__" = some (some (.builtin "object.__ne__"))) && PySem.W.hasDictIn K C && PySem.W.plainOver K C && decide (PySem.W.findIn K (.ref C) "__setattr__" = some (some (.builtin "object.__setattr__"))) &&
    cl.flds.all (fun f => decide (PySem.W.findIn K (.ref C) (T f) = some none)) &&
    decide (PySem.W.findIn K (.ref C) "__class__" = some (some (.builtin "object.__class__"))) && decide (PySem.W.specialIn K (.builtin "object.__class__") "__get__" = some (some (.builtin "getset_descriptor.__get__"))) &&
    decide (PySem.W.takesIn K (.builtin "object.__class__") = some true) && decide (PySem.W.mroIn K C (.type "object") = some true) &&
    ((["NoneType", "bool", "int", "str", "tuple", "list"] : List String).all fun n => decide (PySem.W.kitOne K (.type n) (.ref C) = some false)) &&
    (List.range t.cls.length).all (fun c' => match t.cls[c']?, t.pr.cls[c']? with
      | some r', some cl' => cl'.exn || decide (PySem.W.kitOne K (.ref (He.ga K (T r'.name))) (.ref C) = some (c' == c))
      | _, _ => false) &&
    (match cl.init with
      | some _ => PySem.W.makesIn K C && PySem.W.keepIn K (.ref C) && metX K C [95, 95, 105, 110, 105, 116, 95, 95]
      | none => true) &&
    cl.ms.all (fun p => metX K C p.1))
  | _, _ => false
/-- the def f is the method m of the class -/
def metB (t : Text) (r : ClsR) (f : Nat) (m : Nm) : Bool := match t.defs[f]? with
  | some d => d.met && decide (d.at_ = r.name) && decide (d.name = m)
  | none => false
/-- a dict of the top, its keys texts -/
def entB (K : PySem.W.Frag) : List (Nm × D) → List DictEntry → Bool
  | [], [] => true
  | (k, d) :: r, e :: es => (match e.key with
    | .str x _ => decide (T k = x)
    | _ => false) && relDB K d e.val && entB K r es
  | _, _ => false
def dctB (K : PySem.W.Frag) (a : Addr) (kvs : List (Nm × D)) : Bool := match K.lookup a with
  | some ⟨_, _, .dict es _, _⟩ => entB K kvs es.toList
  | _ => false
theorem entB_ok {K : PySem.W.Frag} (s : Nm) : ∀ {kvs : List (Nm × D)} {es : List DictEntry}, entB K kvs es = true → (∃ d e, lookS s kvs = some d ∧ es.find? (·.key.isStr (T s)) = some e ∧ relDB K d e.val = true) ∨ (lookS s kvs = none ∧ es.find? (·.key.isStr (T s)) = none ∧ es.any (·.refKey) = false)
  | [], [], _ => .inr ⟨rfl, rfl, rfl⟩
  | [], _ :: _, h => by simp [entB] at h
  | _ :: _, [], h => by simp [entB] at h
  | (k, d) :: r, e :: es, h => by
    simp only [entB, Bool.and_eq_true] at h
    obtain ⟨⟨h1, h2⟩, h3⟩ := h
    split at h1
    · rename_i x t hk
      rw [decide_eq_true_eq] at h1
      subst h1
      by_cases hs : k = s
      · subst hs
        exact .inl ⟨d, e, by simp [lookS], by rw [List.find?_cons]; simp [hk, Value.isStr], h2⟩
      · have hs' : T k ≠ T s := fun z => hs (T_inj z)
        have hf : (e.key.isStr (T s)) = false := by rw [hk]; simp [Value.isStr]; exact hs
        have hr : e.refKey = false := by unfold DictEntry.refKey; rw [hk]
        rcases entB_ok s h3 with ⟨d', e', g1, g2, g3⟩ | ⟨g1, g2, g3⟩
        · exact .inl ⟨d', e', by simp [lookS, hs, g1], by rw [List.find?_cons, hf]; exact g2, g3⟩
        · exact .inr ⟨by simp [lookS, hs, g1], by rw [List.find?_cons, hf]; exact g2, by rw [List.any_cons, hr, g3]; rfl⟩
    · cases h1
def Text.gdB (t : Text) (K : PySem.W.Frag) : Bool := (List.range t.tb.gd.length).all fun g => match t.tb.gd[g]?, t.pr.gd[g]? with
  | some nm, some kvs => decide (PySem.W.nsIn K mainGlobals (T nm) = some (some (.ref (He.ga K (T nm))))) && dctB K (He.ga K (T nm)) kvs
  | _, _ => false
/-- the tables that the head is asked for -/
def Text.ts (t : Text) : List He.Tab := (t.tb.gd.zip t.pr.gd).map fun p => (fun K => He.ga K (T p.1), p.2.map fun q => T q.1)
def Text.ex0 (t : Text) (K : PySem.W.Frag) : Bool :=
  ((List.range t.cls.length).all fun c => match t.cls[c]?, t.pr.cls[c]? with
    | some r, some cl => let C := He.ga K (T r.name)
      (!cl.exn || cl.flds.isEmpty || (oexB K C && L2.xfB K C && cl.flds.all (fun f => decide (PySem.W.findIn K (.ref C) (T f) = some none)) && decide (PySem.W.findIn K (.ref C) "__init__" = some (some (.ref (He.ma K C "__init__")))) && decide (PySem.W.typeIn K (.ref (He.ma K C "__init__")) = some (.type "function")))) &&
      (!cl.exn || (List.range t.cls.length).all fun b => match t.cls[b]? with
        | some q => decide (PySem.W.exmOne K (.ref (He.ga K (T q.name))) (.ref C) = some (under t.pr b c))
        | none => false)
    | _, _ => false) &&
  ((List.range t.tb.gl.length).all fun g => match t.tb.gl[g]?, t.pr.globs[g]? with
    | some nm, some d => (match PySem.W.nsIn K mainGlobals (T nm) with
      | some (some u) => relDB K d u
      | _ => false)
    | _, _ => false) &&
  (t.defs.all fun d => !d.lam || t.defs.all fun e => !e.lam || (!decide ((He.cT K d.path).2 = (He.cT K e.path).2) || decide (lamQ d = lamQ e))) &&
  (List.range t.cls.length).all fun c => ownX t K c
def Text.exB (t : Text) (K : PySem.W.Frag) : Bool := t.ex0 K && t.gdB K
def Text.ok (t : Text) : Bool :=
  decide (t.tb.fn = t.defs.map DefR.gl) && decide (t.tb.cl = t.cls.map (·.name)) && decide (t.pr.fns.length = t.defs.length) && decide (t.pr.cls.length = t.cls.length) && decide (t.pr.globs.length = t.tb.gl.length) &&
  ((List.range t.defs.length).all fun f => match t.defs[f]?, t.pr.fns[f]? with
    | some d, some fn => okDef t.pr t.tb d fn
    | _, _ => false) &&
  ((List.range t.cls.length).all fun c => match t.cls[c]?, t.pr.cls[c]? with
    | some r, some cl => if !cl.exn then (match cl.init with
        | some f => metB t r f [95, 95, 105, 110, 105, 116, 95, 95]
        | none => true) && cl.ms.all (fun p => metB t r p.2 p.1) else cl.flds.isEmpty || (decide cl.flds.Nodup && (match r.init with
      | some (st, ps) => initB st cl.flds ps
      | none => false))
    | _, _ => false)
def cfg0 (t : Text) (K : PySem.W.Frag) : Cfg0 := { cls := fun c => (t.tb.cl[c]?).map fun nm => He.ga K (T nm), tb := (t.defs.filter (·.lam)).map fun d => ((He.cT K d.path).2, lamQ d) }
end Ev

end

section
set_option maxRecDepth 512
set_option Elab.async false
set_option linter.all false
set_option maxRecDepth 100000
set_option maxHeartbeats 4000000
namespace Ev
open PySem L2 PySem.Spec PyProof.Rows

/-- what the head leaves -/
structure Left (t : Text) (w : World) (K : PySem.W.Frag) (mg : Str → Option Value) (base : Heap) : Prop where
  X : K.In base
  G : base.Ns mainGlobals mg
  S : He.SaysD t.fa t.fn K
  ex : t.ex0 K = true
  gb : t.gdB K = true
  kd : ∀ (g : Nat) (nm : Nm) (kvs : List (Nm × D)), t.tb.gd[g]? = some nm → t.pr.gd[g]? = some kvs → ∃ es n, L2.KDict K w (He.ga K (T nm)) es n
  ok : t.ok = true
  tb : ∀ p ∈ t.tf, LamX.TabB base mg (He.cT K p).1 (He.cT K p).2
section
variable {t : Text} {P : Program} {w : World} {K : PySem.W.Frag} {mg : Str → Option Value} {base : Heap}
theorem Left.free (L : Left t w K mg base) {x : Str} (h : x ∈ bltNames) : mg x = none := by
  refine He.free_ok L.X L.G (L.S.facts (f := .free x) ?_)
  unfold Text.fa
  simp only [List.append_assoc]
  exact List.mem_append_left _ (List.mem_map.mpr ⟨x, h, rfl⟩)
theorem Left.glo (L : Left t w K mg base) {d : DefR} (h : d ∈ t.defs) (hm : d.met = false) : mg (T d.at_) = some (.ref (He.fAd K d.path)) := by
  have e : He.fAd K d.path = He.ga K (T d.at_) := by unfold DefR.path He.fAd; rw [hm]; rfl
  rw [e]
  refine He.glo_ok L.X L.G (L.S.facts (f := .glo (T d.at_)) ?_)
  unfold Text.fa
  simp only [List.append_assoc]
  exact List.mem_append_right _ (List.mem_append_left _ (List.mem_map.mpr ⟨d, List.mem_filter.mpr ⟨h, by rw [hm]; rfl⟩, rfl⟩))
theorem Left.gloC (L : Left t w K mg base) {c : ClsR} (h : c ∈ t.cls) : mg (T c.name) = some (.ref (He.ga K (T c.name))) := by
  refine He.glo_ok L.X L.G (L.S.facts (f := .glo (T c.name)) ?_)
  unfold Text.fa
  simp only [List.append_assoc]
  exact List.mem_append_right _ (List.mem_append_right _ (List.mem_append_left _ (List.mem_map.mpr ⟨c, h, rfl⟩)))
theorem Left.def' (L : Left t w K mg base) {d : DefR} (h : d ∈ t.defs) : ∃ fd, FunD K (T d.name) d.qual (defArgs d.st) (defBody d.st) (defScope d.st) [] [] (He.fAd K d.path) fd := by
  have := L.S.defs (d := defD d) (by unfold Text.fn; exact List.mem_append_left _ (List.mem_map.mpr ⟨d, h, rfl⟩))
  exact this
theorem Left.okD (L : Left t w K mg base) {f : Nat} {d : DefR} (h : t.defs[f]? = some d) : ∃ fn, t.pr.fns[f]? = some fn ∧ okDef t.pr t.tb d fn = true := by
  have := L.ok
  unfold Text.ok at this
  simp only [Bool.and_eq_true] at this
  have h1 := List.all_eq_true.mp this.1.2 f (List.mem_range.mpr (List.getElem?_eq_some_iff.mp h).1)
  rw [h] at h1
  split at h1
  · rename_i d' fn e1 e2
    cases e1
    exact ⟨fn, e2, h1⟩
  · cases h1
theorem Left.fnN (L : Left t w K mg base) : t.tb.fn = t.defs.map DefR.gl := by
  have := L.ok
  unfold Text.ok at this
  simp only [Bool.and_eq_true, decide_eq_true_eq] at this
  exact this.1.1.1.1.1.1
theorem Left.clN (L : Left t w K mg base) : t.tb.cl = t.cls.map (·.name) := by
  have := L.ok
  unfold Text.ok at this
  simp only [Bool.and_eq_true, decide_eq_true_eq] at this
  exact this.1.1.1.1.1.2
theorem cls_at (L : Left t w K mg base) {c : Nat} {C : Addr} (h : (cfg0 t K).cls c = some C) : ∃ r, t.cls[c]? = some r ∧ C = He.ga K (T r.name) := by
  unfold cfg0 at h
  simp only [Option.map_eq_some_iff] at h
  obtain ⟨nm, h1, rfl⟩ := h
  rw [L.clN, List.getElem?_map, Option.map_eq_some_iff] at h1
  obtain ⟨r, h2, rfl⟩ := h1
  exact ⟨r, h2, rfl⟩
theorem Left.exC (L : Left t w K mg base) {c : Nat} {r : ClsR} {cl : Cl} (h : t.cls[c]? = some r) (h' : t.pr.cls[c]? = some cl) :
    (!cl.exn || cl.flds.isEmpty || (oexB K (He.ga K (T r.name)) && L2.xfB K (He.ga K (T r.name)) && cl.flds.all (fun f => decide (PySem.W.findIn K (.ref (He.ga K (T r.name))) (T f) = some none)) && decide (PySem.W.findIn K (.ref (He.ga K (T r.name))) "__init__" = some (some (.ref (He.ma K (He.ga K (T r.name)) "__init__")))) && decide (PySem.W.typeIn K (.ref (He.ma K (He.ga K (T r.name)) "__init__")) = some (.type "function")))) = true ∧
      (!cl.exn || (List.range t.cls.length).all fun b => match t.cls[b]? with
        | some q => decide (PySem.W.exmOne K (.ref (He.ga K (T q.name))) (.ref (He.ga K (T r.name))) = some (under t.pr b c))
        | none => false) = true := by
  have := L.ex
  unfold Text.ex0 at this
  simp only [Bool.and_eq_true] at this
  have h1 := List.all_eq_true.mp this.1.1.1 c (List.mem_range.mpr (List.getElem?_eq_some_iff.mp h).1)
  rw [h, h'] at h1
  simp only [Bool.and_eq_true] at h1
  refine ⟨?_, h1.2⟩
  simpa only [Bool.and_eq_true] using h1.1
/-- what the head tells of an own class -/
theorem Left.own (L : Left t w K mg base) {c : Nat} {cl : Cl} {C : Addr} (h1 : t.pr.cls[c]? = some cl) (h2 : cl.exn = false) (h3 : (cfg0 t K).cls c = some C) : ∃ r, t.cls[c]? = some r ∧ C = He.ga K (T r.name) ∧
    (PySem.W.plainGet K C Str.empty && decide (PySem.W.findIn K (.ref C) "__ne__" = some (some (.builtin "object.__ne__"))) && PySem.W.hasDictIn K C && PySem.W.plainOver K C && decide (PySem.W.findIn K (.ref C) "__setattr__" = some (some (.builtin "object.__setattr__"))) &&
    cl.flds.all (fun f => decide (PySem.W.findIn K (.ref C) (T f) = some none)) &&
    decide (PySem.W.findIn K (.ref C) "__class__" = some (some (.builtin "object.__class__"))) && decide (PySem.W.specialIn K (.builtin "object.__class__") "__get__" = some (some (.builtin "getset_descriptor.__get__"))) &&
    decide (PySem.W.takesIn K (.builtin "object.__class__") = some true) && decide (PySem.W.mroIn K C (.type "object") = some true) &&
    ((["NoneType", "bool", "int", "str", "tuple", "list"] : List String).all fun n => decide (PySem.W.kitOne K (.type n) (.ref C) = some false)) &&
    (List.range t.cls.length).all (fun c' => match t.cls[c']?, t.pr.cls[c']? with
      | some r', some cl' => cl'.exn || decide (PySem.W.kitOne K (.ref (He.ga K (T r'.name))) (.ref C) = some (c' == c))
      | _, _ => false) &&
    (match cl.init with
      | some _ => PySem.W.makesIn K C && PySem.W.keepIn K (.ref C) && metX K C [95, 95, 105, 110, 105, 116, 95, 95]
      | none => true) &&
    cl.ms.all (fun p => metX K C p.1)) = true ∧ ((match cl.init with
        | some f => metB t r f [95, 95, 105, 110, 105, 116, 95, 95]
        | none => true) && cl.ms.all (fun p => metB t r p.2 p.1)) = true := by
  obtain ⟨r, h4, rfl⟩ := cls_at L h3
  have hx := L.ex
  unfold Text.ex0 at hx
  rw [Bool.and_eq_true] at hx
  have h5 := List.all_eq_true.mp hx.2 c (List.mem_range.mpr (List.getElem?_eq_some_iff.mp h4).1)
  unfold ownX at h5
  rw [h4, h1] at h5
  simp only [h2, Bool.false_or] at h5
  have ho := L.ok
  unfold Text.ok at ho
  rw [Bool.and_eq_true] at ho
  have h6 := List.all_eq_true.mp ho.2 c (List.mem_range.mpr (List.getElem?_eq_some_iff.mp h4).1)
  rw [h4, h1] at h6
  simp only [h2, Bool.not_false, if_true] at h6
  exact ⟨r, h4, rfl, h5, h6⟩
theorem Left.met (L : Left t w K mg base) {r : ClsR} {f : Nat} {m : Nm} (h : metB t r f m = true) : ∃ d, t.defs[f]? = some d ∧ He.fAd K d.path = He.ma K (He.ga K (T r.name)) (T m) := by
  unfold metB at h
  split at h
  · rename_i d hd
    simp only [Bool.and_eq_true, decide_eq_true_eq] at h
    obtain ⟨⟨h1, h2⟩, h3⟩ := h
    refine ⟨d, hd, ?_⟩
    unfold DefR.path He.fAd
    rw [h1, h2, h3]; rfl
  · cases h
theorem lookM_mem {m : Nm} {f : Nat} : ∀ {ms : List (Nm × Nat)}, lookM m ms = some f → (m, f) ∈ ms
  | [], h => by cases h
  | (g, e) :: r, h => by
    rw [lookM] at h
    split at h
    · rename_i hg; cases h; subst hg; exact List.mem_cons_self
    · exact List.mem_cons_of_mem _ (lookM_mem h)
theorem facts_of (L : Left t w K mg base) {k : Nat} {call : Nat → List E → Cells → Ev.R E} (hk : 1 ≤ k)
    (hf : ∀ (f : Nat) (d : DefR), t.defs[f]? = some d → ∃ fd ps, Binds K fd ps [] ∧ FnOk P w K mg base (L2.CX P w) k (He.fAd K d.path) fd ps (spF K (cfg0 t K) call f)) : Facts P w K mg base (cfg0 t K) t.pr t.tb k call where
  fn := fun f nm h hne => by
    rw [L.fnN, List.getElem?_map, Option.map_eq_some_iff] at h
    obtain ⟨d, h1, rfl⟩ := h
    have hmet : d.met = false := by
      unfold DefR.gl at hne
      cases hh : d.met with
      | true => rw [hh] at hne; exact absurd rfl hne
      | false => rfl
    have hgl : d.gl = d.at_ := by unfold DefR.gl; rw [hmet]; rfl
    rw [hgl]
    have hm := List.mem_of_getElem? h1
    obtain ⟨fd, ps, b, F⟩ := hf f d h1
    obtain ⟨fd', D⟩ := L.def' hm
    exact ⟨_, fd, ps, L.glo hm hmet, D.kp, b, F⟩
  bi := fun b => L.free (by cases b <;> simp [bltNames, biN])
  cn := fun c nm h _ => by
    have h' := h
    rw [L.clN, List.getElem?_map, Option.map_eq_some_iff] at h
    obtain ⟨r, h1, rfl⟩ := h
    exact ⟨He.ga K (T r.name), by unfold cfg0; simp [h'], L.gloC (List.mem_of_getElem? h1)⟩
  xr := fun c cl C h1 hexn h2 h3 => by
    obtain ⟨r, h4, rfl⟩ := cls_at L h3
    have hz := (L.exC h4 h1).1
    have hne : cl.flds.isEmpty = false := by simpa using h2
    rw [hne, hexn, Bool.not_true, Bool.false_or, Bool.false_or] at hz
    simp only [Bool.and_eq_true, decide_eq_true_eq, List.all_eq_true] at hz
    obtain ⟨⟨⟨⟨z1, z2⟩, z3⟩, z4⟩, z5⟩ := hz
    have ho := L.ok
    unfold Text.ok at ho
    simp only [Bool.and_eq_true] at ho
    have h5 := List.all_eq_true.mp ho.2 c (List.mem_range.mpr (List.getElem?_eq_some_iff.mp h4).1)
    rw [h4, h1] at h5
    simp only [hexn, Bool.not_true, Bool.false_eq_true, if_false, hne, Bool.false_or, Bool.and_eq_true, decide_eq_true_eq] at h5
    obtain ⟨h6, h7⟩ := h5
    split at h7
    · rename_i st ps hin
      have hD := L.S.defs (d := ⟨(T r.name, some "__init__"), "__init__", T r.name ++ ".__init__", defArgs st, defBody st, defScope st, [], []⟩) (by
        unfold Text.fn
        refine List.mem_append_right _ (List.mem_filterMap.mpr ⟨r, List.mem_of_getElem? h4, ?_⟩)
        unfold initD
        rw [hin]; rfl)
      obtain ⟨fd, D⟩ := hD
      obtain ⟨b, F⟩ := ok_init (P := P) (w := w) (mg := mg) (base := base) D h7 (oexB_ok z1) z3 0
      exact ⟨oexB_ok z1, L2.xfB_ok z2, h6, z3, _, fd, _, z4, z5, b, F.mono hk⟩
    · cases h7
  xm := fun c d cl C D h1 h2 h3 h4 => by
    obtain ⟨r, h5, rfl⟩ := cls_at L h3
    obtain ⟨q, h6, rfl⟩ := cls_at L h4
    have hz := (L.exC h6 h1).2
    rw [h2] at hz
    have := List.all_eq_true.mp (by simpa using hz) c (List.mem_range.mpr (List.getElem?_eq_some_iff.mp h5).1)
    rw [h5] at this
    simpa using this
  oc := fun c cl C h1 h2 h3 => by
    obtain ⟨r, _, _, h, _⟩ := L.own h1 h2 h3
    simp only [Bool.and_eq_true, decide_eq_true_eq, List.all_eq_true] at h
    obtain ⟨⟨⟨⟨⟨⟨⟨⟨⟨⟨⟨⟨⟨a1, an⟩, a2⟩, a3⟩, a4⟩, a5⟩, a6⟩, a7⟩, a8⟩, a9⟩, b1⟩, b2⟩, b3⟩, b4⟩ := h
    exact ⟨⟨a1, a2, a3, a4⟩, a5⟩
  ki := fun c cl C h1 h2 h3 => by
    obtain ⟨r, _, _, h, _⟩ := L.own h1 h2 h3
    simp only [Bool.and_eq_true, decide_eq_true_eq, List.all_eq_true] at h
    obtain ⟨⟨⟨⟨⟨⟨⟨⟨⟨⟨⟨⟨⟨a1, an⟩, a2⟩, a3⟩, a4⟩, a5⟩, a6⟩, a7⟩, a8⟩, a9⟩, b1⟩, b2⟩, b3⟩, b4⟩ := h
    exact ⟨a6, a7, a8, a9, b1⟩
  ne := fun c cl C h1 h2 h3 => by
    obtain ⟨r, _, _, h, _⟩ := L.own h1 h2 h3
    simp only [Bool.and_eq_true, decide_eq_true_eq, List.all_eq_true] at h
    obtain ⟨⟨⟨⟨⟨⟨⟨⟨⟨⟨⟨⟨⟨a1, an⟩, a2⟩, a3⟩, a4⟩, a5⟩, a6⟩, a7⟩, a8⟩, a9⟩, b1⟩, b2⟩, b3⟩, b4⟩ := h
    exact an
  kk := fun c c' cl cl' C C' h1 h2 h3 h4 h5 h6 => by
    obtain ⟨r, _, _, h, _⟩ := L.own h1 h2 h3
    obtain ⟨r', q1, rfl⟩ := cls_at L h6
    simp only [Bool.and_eq_true] at h
    have := List.all_eq_true.mp h.1.1.2 c' (List.mem_range.mpr (List.getElem?_eq_some_iff.mp q1).1)
    rw [q1, h4] at this
    simpa [h5] using this
  mak := fun c cl C f h1 h2 h3 h4 => by
    obtain ⟨r, _, rfl, h, q⟩ := L.own h1 h2 h4
    simp only [Bool.and_eq_true, h3] at h q
    obtain ⟨d, hd, e⟩ := L.met q.1
    obtain ⟨fd, ps, b, F⟩ := hf f d hd
    have hm := h.1.2.2
    unfold metX at hm
    simp only [Bool.and_eq_true, decide_eq_true_eq] at hm
    rw [e] at F
    exact ⟨_, fd, ps, ⟨h.1.2.1.1, hm.1.1, hm.1.2, h.1.2.1.2⟩, b, F⟩
  me := fun c cl C m f h1 h2 h3 h4 => by
    obtain ⟨r, _, rfl, h, q⟩ := L.own h1 h2 h4
    simp only [Bool.and_eq_true] at h q
    have hmem := lookM_mem h3
    obtain ⟨d, hd, e⟩ := L.met (List.all_eq_true.mp q.2 _ hmem)
    obtain ⟨fd, ps, b, F⟩ := hf f d hd
    have hm := List.all_eq_true.mp h.2 _ hmem
    unfold metX at hm
    simp only [Bool.and_eq_true, decide_eq_true_eq] at hm
    rw [e] at F
    exact ⟨_, fd, ps, ⟨hm.1.1, hm.1.2, hm.2⟩, b, F⟩
  isi := L.free (by decide)
  ty := fun x hx => L.free (by
    simp only [List.mem_cons, List.mem_nil_iff, or_false] at hx
    rcases hx with rfl | rfl | rfl | rfl | rfl | rfl <;> decide)
  range := L.free (by decide)
  enum := L.free (by decide)
  zip := L.free (by decide)
  gl := fun g nm d h1 h2 => by
    have := L.ex
    unfold Text.ex0 at this
    simp only [Bool.and_eq_true] at this
    have h3 := List.all_eq_true.mp this.1.1.2 g (List.mem_range.mpr (List.getElem?_eq_some_iff.mp h1).1)
    rw [h1, h2] at h3
    simp only at h3
    split at h3
    · rename_i u hu
      obtain ⟨v, r1, r2⟩ := relDB_ok (cA := cfg0 t K) h3
      exact ⟨u, v, PySem.W.mg_of L.X L.G hu, r1, r2⟩
    · cases h3
  gd := fun g nm kvs h1 h2 => by
    have h3 := List.all_eq_true.mp L.gb g (List.mem_range.mpr (List.getElem?_eq_some_iff.mp h1).1)
    rw [h1, h2] at h3
    simp only [Bool.and_eq_true, decide_eq_true_eq] at h3
    obtain ⟨es, n, kd⟩ := L.kd g nm kvs h1 h2
    refine ⟨He.ga K (T nm), es, n, PySem.W.mg_of L.X L.G h3.1, kd, fun s => ?_⟩
    have h4 := h3.2
    unfold dctB at h4
    rw [kd.at_] at h4
    simp only at h4
    unfold PySem.W.nsIn
    rw [kd.at_]
    simp only
    rcases entB_ok s h4 with ⟨d, e, g1, g2, g3⟩ | ⟨g1, g2, g3⟩
    · obtain ⟨v, r1, r2⟩ := relDB_ok (cA := cfg0 t K) g3
      exact .inl ⟨d, e.val, v, g1, by rw [g2], r1, r2⟩
    · exact .inr ⟨g1, by rw [g2]; simp only [g3]; rfl⟩
end
end Ev

end

section
set_option maxRecDepth 512
set_option Elab.async false
set_option linter.all false
set_option maxRecDepth 100000
set_option maxHeartbeats 4000000
namespace Ev
open PySem L2 PySem.Spec PyProof.Rows
/-! ### what a call leaves -/
section
variable {K : PySem.W.Frag} {cA : Cfg0} {G G' : Hp} {am am' : List Addr} {C C' : Cells} {H H' : Hp}
theorem low_at : ∀ {n : Nat} {C : Cells} {i : Nat} {c : Nat} {fs : List (Nm × E)}, lowC n C = true → C[i]? = some (some (.ins c fs)) → fldsLow n fs = true
  | n, [], i, c, fs, _, h => by simp at h
  | n, o :: C, 0, c, fs, h, e => by
    simp at e; subst e
    rw [lowC, Bool.and_eq_true] at h
    exact h.1
  | n, o :: C, i + 1, c, fs, h, e => by
    have h2 : lowC n C = true := by
      unfold lowC at h
      split at h
      · cases ‹_ :: _ = []›
      · rename_i heq; cases heq; rw [Bool.and_eq_true] at h; exact h.2
      · rename_i heq; cases heq; exact h
    exact low_at h2 (by simpa using e)
theorem RelFE.cut {n : Nat} : ∀ {fs : List (Nm × E)} {gs : List (Str × V)}, fldsLow n fs = true → RelFE K cA G am fs gs → RelFE K cA G (am.take n) fs gs
  | [], _, _, h => h
  | (f, e) :: r, _, hl, h => by
    obtain ⟨v, rest, rfl, h1, h2⟩ := h
    cases e with
    | v d =>
      rw [fldsLow] at hl
      exact ⟨v, rest, rfl, h1, RelFE.cut hl h2⟩
    | r k =>
      rw [fldsLow, Bool.and_eq_true, decide_eq_true_eq] at hl
      obtain ⟨a, h3, h4⟩ := h1
      exact ⟨v, rest, rfl, ⟨a, by rw [List.getElem?_take]; simp [hl.1, h3], h4⟩, RelFE.cut hl.2 h2⟩
    | clo j => exact h1.elim
    | exn c fs => exact h1.elim
theorem take_some {α : Type} {l : List α} {n i : Nat} {a : α} (h : (l.take n)[i]? = some a) : i < n ∧ l[i]? = some a := by
  rw [List.getElem?_take] at h
  split at h
  · exact ⟨by assumption, h⟩
  · cases h
theorem Wd.cut (wd : Wd K cA G am C H) {n : Nat} (hl : lowC n (C.take n) = true) : Wd K cA G (am.take n) (C.take n) H := by
  refine ⟨wd.tabs, wd.sub, by simp [wd.len], fun i c h => ?_, fun i j c d a h1 h2 q1 q2 => wd.inj i j c d a (take_some h1).2 (take_some h2).2 (take_some q1).2 (take_some q2).2⟩
  obtain ⟨hi, h'⟩ := take_some h
  obtain ⟨a, h1, h2, h3⟩ := wd.cell i c h'
  refine ⟨a, by rw [List.getElem?_take]; simp [hi, h1], ?_, h3⟩
  cases c with
  | lst xs => exact h2
  | lkd xs => exact h2
  | dct kvs => exact h2
  | ins c fs =>
    obtain ⟨Ca, dx, gs, z1, z2, z3, r⟩ := h2
    exact ⟨Ca, dx, gs, z1, z2, z3, RelFE.cut (low_at hl h) r⟩
theorem Ext.cut (x : Ext G am C H G' am' C' H') (hl : am.length = C.length) : Ext G am C H G' (am'.take C.length) (C'.take C.length) H' where
  g := x.g
  a := by
    obtain ⟨t, rfl⟩ := x.a
    exact ⟨[], by rw [← hl]; simp⟩
  keep := x.keep
  tab := x.tab
  live := fun a ⟨i, c, h, q⟩ => x.live a ⟨i, c, (take_some h).2, (take_some q).2⟩
  gn := x.gn
  lk := fun n xs h => by
    have hn := (List.getElem?_eq_some_iff.mp h).1
    rw [List.getElem?_take]
    simp [hn, x.lk n xs h]
theorem RelEs.sts : ∀ {es : List E} {vs : List V} {i : Nat} {e : E}, RelEs K cA G am es vs → es[i]? = some e → ∃ v, vs[i]? = some v ∧ RelE K cA G am e v
  | [], _, _, _, _, h => by simp at h
  | x :: xs, _, i, e, h, q => by
    obtain ⟨u, r, rfl, h1, h2⟩ := h
    cases i with
    | zero => simp at q; subst q; exact ⟨u, rfl, h1⟩
    | succ i => simpa using RelEs.sts (i := i) h2 (by simpa using q)
theorem start_rel {cA' : Cfg} {es : List E} {vs : List V} {N : List Str} {ns : Nat} (h0 : cA'.toCfg0 = cA) (r : RelEs K cA G am es vs) (hn : ns = N.length) (hl : es.length ≤ ns) : RelEnv K cA' G am (startE ns es) (L2.start N vs) := by
  have hlen := r.length
  subst h0
  refine ⟨?_, fun i e h => ?_⟩
  · unfold startE L2.start
    simp only [List.length_append, List.length_map, List.length_replicate]
    omega
  · unfold startE at h
    by_cases hi : i < es.length
    · rw [List.getElem?_append_left (by simpa using hi), List.getElem?_map, Option.map_eq_some_iff] at h
      obtain ⟨e', h1, h2⟩ := h
      cases h2
      obtain ⟨v, h3, h4⟩ := r.sts h1
      refine ⟨v, ?_, .inl h4⟩
      unfold L2.start
      rw [List.getElem?_append_left (by rw [List.length_map, ← hlen]; exact hi), List.getElem?_map, h3]; rfl
    · rw [List.getElem?_append_right (by simpa using hi)] at h
      simp only [List.length_map] at h
      rw [List.getElem?_replicate] at h
      split at h <;> cases h
/-- the end of a body -/
theorem body_dn {cA' : Cfg} (h0 : cA'.toCfg0 = cA) {pr : Prog} {call : Nat → List E → Cells → Ev.R E} {fn : Fn} {es : List E} {E : XK} {Q : VK} {r : RS} (wd : Wd K cA G am C H)
    (d : Dn K cA (rE K cA) (fun cls dd _ H => E cls dd H) [] (match r with
      | .next _ C' => leave C.length (.v .non) C'
      | .ret e C' => leave C.length e C'
      | .exc c fs _ C' => if lowC C.length (C'.take C.length) then .exc c fs (C'.take C.length) else .exc c fs C'
      | _ => .bad) G am C H Q) : DnS K cA' (fun cls dd _ H => E cls dd H) r G am C H { nx := fun _ H' => Q .non H', rt := Q } := by
  subst h0
  have lv : ∀ {e : Ev.E} {C' : Cells} {G' : Hp} {am' : List Addr} {H' : Hp} {v : V}, Dn K cA'.toCfg0 (rE K cA'.toCfg0) (fun cls dd _ H => E cls dd H) [] (leave C.length e C') G am C H Q → Ext G am C H G' am' C' H' → Wd K cA'.toCfg0 G' am' C' H' → RelE K cA'.toCfg0 G' am' e v → Q v H' := fun {e C' G' am' H' v} d x w r => by
    unfold leave at d
    cases e with
    | v dd =>
      simp only at d
      split at d
      · rename_i hl
        exact d G' _ H' v (x.cut wd.len) (w.cut hl) r
      · exact d G' am' H' v x w r
    | r k => exact d G' am' H' v x w r
    | clo j => exact d.elim
    | exn c fs => exact d.elim
  cases r with
  | next env' C' => exact fun G' am' H' σ' x w _ => lv d x w (by simp only [RelE, RelD])
  | ret e C' => exact fun G' am' H' v x w r => lv d x w r
  | exc c fs env' C' =>
    intro G' am' H' σ' cls dd x w _ rx
    simp only at d
    split at d
    · rename_i hl
      exact d G' _ H' cls dd (x.cut wd.len) (w.cut hl) rx
    · exact d G' am' H' cls dd x w rx
  | brk env' C' => exact d.elim
  | ct env' C' => exact d.elim
  | bad => exact d.elim
end
section
variable {t : Text} {P : Program} {w : World} {K : PySem.W.Frag} {mg : Str → Option Value} {base : Heap}
/-- the frame of a def -/
def cfgOf (t : Text) (K : PySem.W.Frag) (d : DefR) (cells : List (Str × Addr)) : Cfg := { cfg0 t K with cells := cells, q := lamQ d, lam := fun j p b s => lamB t.pr t.tb (sxOf d) j p b s = true, exc := none }
def lamcOf (pr : Prog) (call : Nat → List E → Cells → Ev.R E) : Nat → Env → Cells → Ev.R E := fun j env C => match pr.lams[j]? with
  | none => .bad
  | some e => evE pr call (fun _ _ _ => .bad) e env C
theorem def_ok (L : Left t w K mg base) {f k : Nat} {d : DefR} {call : Nat → List E → Cells → Ev.R E} (hd : t.defs[f]? = some d) (F : Facts P w K mg base (cfg0 t K) t.pr t.tb k call) :
    ∃ fd fn, t.pr.fns[f]? = some fn ∧ FunD K (T d.name) d.qual (defArgs d.st) (defBody d.st) (defScope d.st) [] [] (He.fAd K d.path) fd ∧ plainArgs (defArgs d.st) ((d.N.take fn.ps).map T) = true ∧ ((d.N.take fn.ps).map T).Nodup ∧ FnOk P w K mg base (L2.CX P w) (k + 3) (He.fAd K d.path) fd ((d.N.take fn.ps).map T) (spF K (cfg0 t K) (fun f es C => match t.pr.fns[f]? with
      | none => .bad
      | some fn => body t.pr call fn es C) f) := by
  obtain ⟨fn, hfn, hok⟩ := L.okD hd
  have hm := List.mem_of_getElem? hd
  obtain ⟨fd, D⟩ := L.def' hm
  unfold okDef at hok
  simp only [Bool.and_eq_true, decide_eq_true_eq] at hok
  obtain ⟨⟨⟨⟨h1, h2⟩, h3⟩, h4⟩, h5⟩ := hok
  have S := C8.fnScope_by h3
  have hnd : ((d.N.take fn.ps).map T).Nodup := by
    have := S.pre
    rw [← this]
    exact S.nd.sublist (List.take_sublist _ _)
  have hps : ((d.N.take fn.ps).map T).length = fn.ps := by simp; omega
  refine ⟨fd, fn, hfn, D, h4, hnd, ?_⟩
  obtain ⟨oc, od, dV, kV, doc, pm, an, cdv, ct, osl, rfl, lk, hcd, _, _⟩ := D.ex
  have len : ∀ vs H Q E, spF K (cfg0 t K) (fun f es C => match t.pr.fns[f]? with
      | none => .bad
      | some fn => body t.pr call fn es C) f vs H Q E → vs.length = ((d.N.take fn.ps).map T).length := fun vs H Q E ⟨es, G, am, C, wd, re, dn⟩ => by
    simp only [hfn] at dn
    unfold body at dn
    split at dn
    · rename_i he
      rw [← re.length, he, hps]
    · exact dn.elim
  refine fn_of lk hcd S len fun A outer s H vs Q E hr hsp => ?_
  obtain ⟨es, G, am, C, wd, re, dn⟩ := hsp
  simp only [hfn] at dn
  unfold body at dn
  split at dn
  · rename_i he
    generalize hX : cxOf (L2.CX P w) P w K mg base (d.N.map T) d.qual (defScope d.st) (He.fAd K d.path) cdv A outer s H E = X
    have hy : Hy t.pr t.tb call (lamcOf t.pr call) (cfgOf t K d X.env.cells) (sxOf d) k (fun cls dd _ H => E cls dd H) X := by
      subst hX
      refine ⟨{ N := rfl, nd := S.nd, sc := rfl, un := ?_, tk := takes_of rfl rfl rfl rfl, calm := fun _ => rfl, room := fun _ => hr.mono (Nat.le_succ _), top := fun _ => ⟨rfl, rfl⟩, own := fun _ _ => passes_of rfl, stb := fun x hx => ?_ }, F, fun _ _ => hr, fun hlam => ?_, fun a C d z => by cases z⟩
      · have := hr.un
        show (A.deeper _).units + 65 < cLine
        omega
      · have hx2 := (List.mem_filter.mp hx).2
        unfold locB at hx2
        split at hx2
        · rename_i hl; exact ⟨.inl hl, .inl rfl⟩
        · rename_i hl; exact ⟨.inr hl, .inl rfl⟩
        · cases hx2
      · have hlam : d.lam = true := hlam
        have hmf : d ∈ t.defs.filter (·.lam) := List.mem_filter.mpr ⟨hm, hlam⟩
        have hc : ∃ c, cdv = .ref c := by
          unfold PySem.W.codeIn at hcd
          cases cdv <;> first | (cases hcd; done) | exact ⟨_, rfl⟩
        obtain ⟨c, rfl⟩ := hc
        have hco : He.codeOf K d.path = c := He.codeOf_eq (p := d.path) lk rfl
        have hTB := L.tb d.path (List.mem_map.mpr ⟨d, hmf, rfl⟩)
        refine ⟨⟨rfl, rfl, c, _, ?_, rfl, List.mem_map.mpr ⟨d, hmf, rfl⟩, fun p hp hpe => ?_⟩, fun j p b sc hj => ?_⟩
        · have e : (He.cT K d.path).1 = c := hco
          rw [← e]; exact hTB
        · obtain ⟨e, he, rfl⟩ := List.mem_map.mp hp
          obtain ⟨he1, he2⟩ := List.mem_filter.mp he
          have := L.ex
          unfold Text.ex0 at this
          simp only [Bool.and_eq_true] at this
          have z := List.all_eq_true.mp this.1.2 e he1
          simp only [he2, Bool.not_true, Bool.false_or] at z
          have z2 := List.all_eq_true.mp z d hm
          simp only [hlam, Bool.not_true, Bool.false_or, Bool.or_eq_true, Bool.not_eq_true', decide_eq_true_eq, decide_eq_false_iff_not] at z2
          rcases z2 with z2 | z2
          · exact absurd hpe z2
          · exact z2
        · have hj : lamB t.pr t.tb (sxOf d) j p b sc = true := hj
          unfold lamB at hj
          simp only [Bool.and_eq_true] at hj
          obtain ⟨⟨j1, j2⟩, j3⟩ := hj
          split at j3
          · rename_i e hle
            refine ⟨LamX.lamS_by j1, j2, fun A2 outer2 s2 H2 E2 f2 c2 hr2 => ?_⟩
            have e2 : lamcOf t.pr call j = evE t.pr call (fun _ _ _ => .bad) e := by
              funext env C
              unfold lamcOf
              rw [hle]
            rw [e2]
            refine (okE (k := k) e (lamSx (sxOf d) sc) (fun cls dd _ H => E2 cls dd H) _ ?_ b j3).1
            refine ⟨{ N := rfl, nd := S.nd, sc := rfl, un := ?_, tk := takes_of rfl rfl rfl rfl, calm := fun _ => rfl, room := fun _ => hr2, top := (fun z => by cases z), own := (fun z => by cases z), stb := (fun x hx => by cases hx) }, F, (fun z => by cases z), (fun z => by cases z), (fun _ _ _ z => by cases z)⟩
            have := hr2.un
            show (A2.deeper _).units + 65 < cLine
            omega
          · cases j3
    have hK : X.K = K := by rw [← hX]; rfl
    have ps := okSs fn.body (cfgOf t K d X.env.cells) (sxOf d) _ X hy (fun j p b s h => h) (fun _ => rfl) (defBody d.st) h5
    subst hX
    refine ⟨_, ps, startE fn.ns es, G, am, C, start_rel rfl re (by simp [h1]) (by omega), wd, ?_⟩
    exact body_dn (cA' := cfgOf t K d _) rfl (pr := t.pr) (call := call) (fn := fn) (es := es) wd dn
  · exact dn.elim
theorem fns_ok (L : Left t w K mg base) : ∀ (n f : Nat) (d : DefR), t.defs[f]? = some d → ∃ fd fn, t.pr.fns[f]? = some fn ∧ FunD K (T d.name) d.qual (defArgs d.st) (defBody d.st) (defScope d.st) [] [] (He.fAd K d.path) fd ∧ plainArgs (defArgs d.st) ((d.N.take fn.ps).map T) = true ∧ ((d.N.take fn.ps).map T).Nodup ∧ FnOk P w K mg base (L2.CX P w) (3 * n + 1) (He.fAd K d.path) fd ((d.N.take fn.ps).map T) (spF K (cfg0 t K) (run t.pr n) f)
  | 0, f, d, hd => by
    obtain ⟨fd, D⟩ := L.def' (List.mem_of_getElem? hd)
    obtain ⟨fn, hfn, hok⟩ := L.okD hd
    unfold okDef at hok
    simp only [Bool.and_eq_true, decide_eq_true_eq] at hok
    obtain ⟨⟨⟨⟨h1, h2⟩, h3⟩, h4⟩, h5⟩ := hok
    have S := C8.fnScope_by h3
    have hnd : ((d.N.take fn.ps).map T).Nodup := by
      have := S.pre
      rw [← this]
      exact S.nd.sublist (List.take_sublist _ _)
    have no : ∀ {vs H Q E}, ¬ spF K (cfg0 t K) (run t.pr 0) f vs H Q E := fun ⟨es, G, am, C, wd, re, dn⟩ => dn.elim
    exact ⟨fd, fn, hfn, D, h4, hnd, ⟨fun vs H Q E h => (no h).elim, fun A outer s H args us vs Q E _ _ _ _ h => (no h).elim⟩⟩
  | n + 1, f, d, hd => by
    have F := facts_of (P := P) (w := w) L (k := 3 * n + 1) (call := run t.pr n) (by omega) fun f d hd => let ⟨fd, fn, h1, D, h2, h3, G⟩ := fns_ok L n f d hd; ⟨fd, _, D.bindsN fun kV doc pm an cdv ct us hl => bind_plain h2 h3 kV doc pm an cdv ct us hl, G⟩
    exact def_ok L hd F
end
end Ev

end

section
set_option maxRecDepth 512
set_option Elab.async false
set_option linter.all false
set_option maxRecDepth 100000
set_option maxHeartbeats 4000000
namespace Ev
open PySem in
/-- the world with one of its questions answered -/
def wF (w : World) (b : Bool) : World := { w with params := { w.params with followText := fun r => if r = "special-get-raises" then b else w.params.followText r } }
open PySem in
theorem wF_eq (w : World) : wF w (w.params.followText "special-get-raises") = w := by
  have e : (fun r => if r = "special-get-raises" then w.params.followText "special-get-raises" else w.params.followText r) = w.params.followText := by
    funext r
    by_cases h : r = "special-get-raises"
    · rw [if_pos h, h]
    · rw [if_neg h]
  unfold wF
  rw [e]
open PySem in
theorem wF_split {P : World → Prop} (h : ∀ w b, P (wF w b)) (w : World) : P w := wF_eq w ▸ h w _
end Ev
namespace Ev
open PySem L2 PySem.Spec PyProof.Rows
theorem fund_uniq {K : PySem.W.Frag} {x q x' q' : Str} {pa pa' : Arguments} {b b' : List Stmt} {sc sc' : Scope} {f : Addr} {fd fd' : FuncData} (F : FunD K x q pa b sc [] [] f fd) (F' : FunD K x' q' pa' b' sc' [] [] f fd') : fd = fd' := by
  obtain ⟨oc, od, dV, kV, doc, pm, an, cdv, ct, osl, h1, lk, _⟩ := F.ex
  obtain ⟨oc', od', dV', kV', doc', pm', an', cdv', ct', osl', h1', lk', _⟩ := F'.ex
  rw [lk] at lk'
  have := Option.some.inj lk'
  have e : (Data.func fd) = Data.func fd' := congrArg Obj.data this
  exact Data.func.inj e
/-- the reading of a def's list argument at the start -/
theorem relD_script {K : PySem.W.Frag} {cA : Cfg0} {G : Hp} {a : Addr} {ns : List Int} (h : SqL K G a (ns.map V.int)) : RelD K cA G (.lst (ns.map D.int)) (.ref a) := by
  have : ∀ ns : List Int, RelDs K cA G (ns.map D.int) (ns.map V.int) := fun ns => by
    induction ns with
    | nil => simp only [List.map_nil, RelDs]
    | cons n ns ih => simp only [List.map_cons, RelDs]; exact ⟨_, _, rfl, by simp only [RelD], ih⟩
  simp only [RelD]
  exact ⟨a, _, rfl, h, this ns⟩
open Classical in
theorem script_start {t : Text} {K : PySem.W.Frag} {H : Hp} {a : Addr} {ns : List Int} {N f : Nat} (hS : SqL K H a (ns.map V.int)) (hT : ∀ p ∈ (cfg0 t K).tb, H p.1 = some (.tbl #[])) {C' : Cells} (hr : run t.pr N f [.v (.lst (ns.map D.int))] [] = .ok (.v (.bl true)) C') :
    spF K (cfg0 t K) (run t.pr N) f [.ref a] H (fun v _ => v = .bl true) fun _ _ _ => False := by
  let G : Hp := fun b => if b = a ∧ ∀ ps, H a ≠ some (.tbl ps) then H a else none
  have hG : SqL K G a (ns.map V.int) := by
    rcases hS with (h | ⟨o, h⟩) | h
    · exact .inl (.inl (by show (if _ then _ else _) = _; rw [if_pos ⟨rfl, fun ps z => by rw [h] at z; cases z⟩, h]))
    · exact .inl (.inr ⟨o, by show (if _ then _ else _) = _; rw [if_pos ⟨rfl, fun ps z => by rw [h] at z; cases z⟩, h]⟩)
    · exact .inr h
  have hre : RelEs K (cfg0 t K) G [] [.v (.lst (ns.map D.int))] [.ref a] := ⟨_, [], rfl, relD_script hG, rfl⟩
  refine ⟨_, G, [], [], ⟨fun p hp => ⟨⟨#[], hT p hp, True.intro, fun pos cv hc => ?_⟩, ?_⟩, fun b u e => ?_, rfl, fun i c e => by simp at e, fun i j c d a e => by simp at e⟩, hre, ?_⟩
  · have z : codeAmong pos [] = some cv := hc
    simp [codeAmong] at z
  · show (if _ then _ else _) = _
    rw [if_neg]
    rintro ⟨z1, z2⟩
    exact z2 #[] (by rw [← z1]; exact hT p hp)
  · have e : (if b = a ∧ ∀ ps, H a ≠ some (.tbl ps) then H a else none) = some u := e
    split at e
    · rename_i h
      rw [h.1]; exact e
    · cases e
  · rw [hr]
    intro G' am' H' v x w r
    simpa only [rE, RelE, RelD] using r
/-- THE END: a law whose evaluation is True at every script -/
theorem law_end {t : Text} {l : PySem.W.OpenLaw} {w : World} {K : PySem.W.Frag} {mg : Str → Option Value} {fa : Addr} {h : Heap} {f N n : Nat} {d : DefR} {fn : Fn} (hd : t.defs[f]? = some d) (hfn : t.pr.fns[f]? = some fn) (hN : d.N.take fn.ps = [[115, 99, 114, 105, 112, 116]]) (hok : t.ok = true)
    (KX : K.In h) (S : He.SaysX t.fa t.fn t.ts t.tf t.exB w h K) (G : h.Ns mainGlobals mg) (hmet : d.met = false) (hfa : mg (T d.at_) = some (.ref fa))
    (hlaw : ∀ ns : List Int, ns.length ≤ n → (∀ z ∈ ns, Builtin.Int.intBits z ≤ 1048576) → ∃ C', run t.pr N f [.v (.lst (ns.map D.int))] [] = .ok (.v (.bl true)) C') :
    LamX.LawAtS l w K (L2.CX l.prog w) (3 * N + 1) n "script" mg fa h := by
  have SD : He.SaysD t.fa t.fn K := S.t.d
  have hm := List.mem_of_getElem? hd
  obtain ⟨fd, D⟩ := SD.defs (d := defD d) (by unfold Text.fn; exact List.mem_append_left _ (List.mem_map.mpr ⟨d, hm, rfl⟩))
  have D : FunD K (T d.name) d.qual (defArgs d.st) (defBody d.st) (defScope d.st) [] [] (He.fAd K d.path) fd := D
  have hglo : mg (T d.at_) = some (.ref (He.fAd K d.path)) := by
    have e : He.fAd K d.path = He.ga K (T d.at_) := by unfold DefR.path He.fAd; rw [hmet]; rfl
    rw [e]
    refine He.glo_ok KX G (SD.facts (f := .glo (T d.at_)) ?_)
    unfold Text.fa
    simp only [List.append_assoc]
    exact List.mem_append_right _ (List.mem_append_left _ (List.mem_map.mpr ⟨d, List.mem_filter.mpr ⟨hm, by rw [hmet]; rfl⟩, rfl⟩))
  rw [hglo] at hfa
  cases hfa
  have hps : (d.N.take fn.ps).map T = [("script" : Str)] := by rw [hN]; decide
  have left : ∀ base : Heap, K.In base → base.Ns mainGlobals mg → (∀ p ∈ t.tf.map (He.cT K), LamX.TabB base mg p.1 p.2) → Left t w K mg base := fun base hX hG hTB =>
    ⟨hX, hG, SD, (Bool.and_eq_true_iff.mp (show (t.ex0 K && t.gdB K) = true from S.more)).1, (Bool.and_eq_true_iff.mp (show (t.ex0 K && t.gdB K) = true from S.more)).2, fun g nm kvs h1 h2 => S.t.tab g (t := (fun K => He.ga K (T nm), kvs.map fun q => T q.1)) (by unfold Text.ts; rw [List.getElem?_map, show (t.tb.gd.zip t.pr.gd)[g]? = some (nm, kvs) from List.getElem?_zip_eq_some.mpr ⟨h1, h2⟩]; rfl), hok, fun p hp => hTB _ (List.mem_map.mpr ⟨p, hp, rfl⟩)⟩
  have hb : plainArgs (defArgs d.st) ((d.N.take fn.ps).map T) = true ∧ ((d.N.take fn.ps).map T).Nodup := by
    have := hok
    unfold Text.ok at this
    simp only [Bool.and_eq_true] at this
    have h1 := List.all_eq_true.mp this.1.2 f (List.mem_range.mpr (List.getElem?_eq_some_iff.mp hd).1)
    rw [hd, hfn] at h1
    simp only at h1
    unfold okDef at h1
    simp only [Bool.and_eq_true, decide_eq_true_eq] at h1
    exact ⟨h1.1.2, by rw [hps]; decide⟩
  refine ⟨fd, t.tf.map (He.cT K), spF K (cfg0 t K) (run t.pr N) f, fun p hp => ?_, fun p hp => ?_, fun p hp => ?_, fun s u => ?_, fun H a ns hl hbits hT hS => ?_, fun base hX hG hTB => ?_⟩
  · obtain ⟨q, hq, rfl⟩ := List.mem_map.mp hp
    exact S.empty q hq
  · obtain ⟨q, hq, rfl⟩ := List.mem_map.mp hp
    exact S.out q hq
  · obtain ⟨q, hq, rfl⟩ := List.mem_map.mp hp
    exact PySem.W.codeHd_of_K KX (S.hd q hq)
  · have := D.bindsA (ps := (d.N.take fn.ps).map T) (fun kV doc pm an cdv ct us hl => bind_plain hb.1 hb.2 kV doc pm an cdv ct us hl) s [u] (by rw [hps]; rfl)
    rw [hps] at this
    exact this
  · obtain ⟨C', hr⟩ := hlaw ns hl hbits
    refine script_start hS (fun p hp => ?_) hr
    obtain ⟨e, he, rfl⟩ := List.mem_map.mp hp
    exact hT (He.cT K e.path) (List.mem_map.mpr ⟨e.path, List.mem_map.mpr ⟨e, he, rfl⟩, rfl⟩)
  · obtain ⟨fd', fn', h1, D', _, _, FO⟩ := fns_ok (P := l.prog) (w := w) (left base hX hG hTB) N f d hd
    rw [hfn] at h1; cases h1
    have := fund_uniq D D'
    subst this
    rw [hps] at FO
    exact FO
end Ev

end

section
set_option maxRecDepth 512
set_option autoImplicit false
set_option linter.all false
namespace Ev
/-! tools for running the evaluator by simp: each construct a word of its own over the result of its part, no functions as arguments -/
/-- a proof by computing that simp keeps as a proof -/
theorem nrfl {α : Sort _} {a b : α} (h : a = b) : a = b := h
def okV (C : Cells) (o : Option D) : R E := match o with
  | some d => .ok (.v d) C
  | none => .bad
@[simp] theorem okV_s {C : Cells} {d : D} : okV C (some d) = .ok (.v d) C := nrfl rfl
def okB (C : Cells) (o : Option Bool) : R E := match o with
  | some d => .ok (.v (.bl d)) C
  | none => .bad
@[simp] theorem okB_s {C : Cells} {d : Bool} : okB C (some d) = .ok (.v (.bl d)) C := nrfl rfl
def bin {α : Type} (f : D → D → Option α) (a b : Option D) : Option α := a.bind fun a => b.bind fun b => f a b
@[simp] theorem bin_s {α : Type} {f : D → D → Option α} {a b : D} : bin f (some a) (some b) = f a b := nrfl rfl
@[simp] theorem see_v {C : Cells} {d : D} : see C (.v d) = some d := nrfl rfl
@[simp] theorem see_r {C : Cells} {n : Nat} : see C (.r n) = (cellAt C n).bind cellD := nrfl rfl
@[simp] theorem truE_v {C : Cells} {d : D} : truE C (.v d) = truV d := nrfl rfl
@[simp] theorem truE_r {C : Cells} {n : Nat} : truE C (.r n) = ((cellAt C n).bind cellD).bind truV := nrfl rfl
def slotR (o : Option E) (C : Cells) : R E := match o with
  | some (.v d) => .ok (.v d) C
  | some (.r n) => .ok (.r n) C
  | _ => .bad
@[simp] theorem slotR_v {d : D} {C : Cells} : slotR (some (.v d)) C = .ok (.v d) C := nrfl rfl
@[simp] theorem slotR_r {n : Nat} {C : Cells} : slotR (some (.r n)) C = .ok (.r n) C := nrfl rfl
section
variable (P : Prog) (call : Nat → List E → Cells → R E) (lamc : Nat → Env → Cells → R E)
def tupO (C : Cells) (o : Option (List D)) : R E := match o with
  | some ds => if ds.length ≤ line then .ok (.v (.tup ds)) C else .bad
  | none => .bad
def tup1 (r : R (List E)) : R E := r.bind fun xs C => tupO C (vals xs)
def lstO (m : Bool) (C : Cells) (o : Option (List D)) : R E := match o with
  | some ds => if ds.length ≤ line then (if m then .ok (.r C.length) (C ++ [some (.lst ds)]) else .ok (.v (.lst ds)) C) else .bad
  | none => .bad
def lst1 (m : Bool) (r : R (List E)) : R E := r.bind fun xs C => lstO m C (vals xs)
def bop2 (o : Bop) (x : E) (r : R E) : R E := r.bind fun y C => okV C (bin (bopV o) (see C x) (see C y))
def bop1 (o : Bop) (b : Ex) (env : Env) (r : R E) : R E := r.bind fun x C => bop2 o x (evE P call lamc b env C)
def cmp2 (o : Cop) (x : E) (r : R E) : R E := r.bind fun y C => okB C (bin (copV o) (see C x) (see C y))
def cmp1 (o : Cop) (b : Ex) (env : Env) (r : R E) : R E := r.bind fun x C => cmp2 o x (evE P call lamc b env C)
def chnO (o' : Cop) (c : Ex) (y : E) (env : Env) (C : Cells) (o : Option Bool) : R E := match o with
  | some true => cmp2 o' y (evE P call lamc c env C)
  | some false => .ok (.v (.bl false)) C
  | none => .bad
def chn2 (o o' : Cop) (c : Ex) (env : Env) (x : E) (r : R E) : R E := r.bind fun y C => chnO P call lamc o' c y env C (bin (copV o) (see C x) (see C y))
def chn1 (o o' : Cop) (b c : Ex) (env : Env) (r : R E) : R E := r.bind fun x C => chn2 P call lamc o o' c env x (evE P call lamc b env C)
def isN1 (neg : Bool) (r : R E) : R E := r.bind fun x C => .ok (.v (.bl (isNone neg x))) C
def andO (b : Ex) (env : Env) (x : E) (C : Cells) (o : Option Bool) : R E := match o with
  | some true => evE P call lamc b env C
  | some false => .ok x C
  | none => .bad
def and1 (b : Ex) (env : Env) (r : R E) : R E := r.bind fun x C => andO P call lamc b env x C (truE C x)
def orO (b : Ex) (env : Env) (x : E) (C : Cells) (o : Option Bool) : R E := match o with
  | some true => .ok x C
  | some false => evE P call lamc b env C
  | none => .bad
def or1 (b : Ex) (env : Env) (r : R E) : R E := r.bind fun x C => orO P call lamc b env x C (truE C x)
def notO (C : Cells) (o : Option Bool) : R E := match o with
  | some b => .ok (.v (.bl (!b))) C
  | none => .bad
def not1 (r : R E) : R E := r.bind fun x C => notO C (truE C x)
def iteO (a b : Ex) (env : Env) (C : Cells) (o : Option Bool) : R E := match o with
  | some true => evE P call lamc a env C
  | some false => evE P call lamc b env C
  | none => .bad
def ite1 (a b : Ex) (env : Env) (r : R E) : R E := r.bind fun x C => iteO P call lamc a b env C (truE C x)
def idx2 (x : E) (r : R E) : R E := r.bind fun y C => okV C (bin idxV (see C x) (see C y))
def idx1 (b : Ex) (env : Env) (r : R E) : R E := r.bind fun x C => idx2 x (evE P call lamc b env C)
def sl3 (x : E) (l : Option Int) (r : R (Option Int)) : R E := r.bind fun h C => okV C ((see C x).bind fun x => slV x l h)
def sl2 (hi : Eo) (env : Env) (x : E) (r : R (Option Int)) : R E := r.bind fun l C => sl3 x l (evO P call lamc hi env C)
def sl1 (lo hi : Eo) (env : Env) (r : R E) : R E := r.bind fun x C => sl2 P call lamc hi env x (evO P call lamc lo env C)
def xfC (cl : Option Cl) (f : Nm) (fs : List (Nm × D)) (C : Cells) : R E := match cl with
    | some cl => if cl.exn && cl.flds.contains f then okV C (lookFD f fs) else .bad
    | none => .bad
def xfR (f : Nm) (o : Option E) (C : Cells) : R E := match o with
  | some (.exn c fs) => xfC P.cls[c]? f fs C
  | _ => .bad
def okEO (C : Cells) (o : Option E) : R E := match o with
  | some d => .ok d C
  | none => .bad
def attr1 (f : Nm) (r : R E) : R E := r.bind fun x C => okEO C (attrP P C f x)
def anyO (f : Nat) (xs : List E) (C : Cells) (o : Option (List D)) : R E := match o with
  | some ds => pureCall call f ds C
  | none => call f xs C
def call1 (f : Nat) (r : R (List E)) : R E := r.bind fun xs C => anyO call f xs C (vals xs)
def metO (es : Es) (env : Env) (x : E) (C : Cells) (o : Option Nat) : R E := match o with
  | some f => (evEs P call lamc es env C).bind fun xs C => anyO call f (x :: xs) C (vals (x :: xs))
  | none => .bad
def met1 (m : Nm) (es : Es) (env : Env) (r : R E) : R E := r.bind fun x C => metO P call lamc es env x C (methOf P C m x)
def met2 (f : Nat) (x : E) (r : R (List E)) : R E := r.bind fun xs C => anyO call f (x :: xs) C (vals (x :: xs))
def new1 (c : Nat) (r : R (List E)) : R E := r.bind fun xs C => make P call c xs C
def isc1 (c : Nat) (r : R E) : R E := r.bind fun x C => okB C (iscE P C x c)
def neg1 (r : R E) : R E := r.bind fun x C => okV C ((see C x).bind negV)
def rev1 (r : R E) : R E := r.bind fun x C => okV C ((see C x).bind revV)
def callPO (f : Nat) (C : Cells) (o : Option (List D)) : R E := match o with
  | some ds => pureCall call f ds C
  | none => .bad
def callP1 (f : Nat) (r : R (List E)) : R E := r.bind fun xs C => callPO call f C (vals xs)
def biO (b : Bi) (C : Cells) (o : Option (List D)) : R E := match o with
  | some ds => okV C (biV b ds)
  | none => .bad
def bi1 (b : Bi) (r : R (List E)) : R E := r.bind fun xs C => biO b C (sees C xs)
def isi1 (ts : List Ty) (r : R E) : R E := r.bind fun x C => okB C (isiE C x ts)
def bmO (m : Bm) (C : Cells) (d : Option D) (o : Option (List D)) : R E := match d, o with
  | some d, some ds => okV C (bmV m d ds)
  | _, _ => .bad
def bm2 (m : Bm) (x : E) (r : R (List E)) : R E := r.bind fun xs C => bmO m C (see C x) (sees C xs)
def bmB (m : Bm) (es : Es) (env : Env) (x : E) (C : Cells) (b : Bool) : R E := match b with
  | true => bm2 m x (evEs P call lamc es env C)
  | false => .bad
def bm1 (m : Bm) (es : Es) (env : Env) (r : R E) : R E := r.bind fun x C => bmB P call lamc m es env x C (isLst C x)
def mmP (n : Nat) (C : Cells) (o : Option (Cell × D)) : R E := match o with
  | some (c, d) => .ok (.v d) (C.set n (some c))
  | none => .bad
def mmO (m : Mm) (n : Nat) (C : Cells) (c : Option Cell) (o : Option (List D)) : R E := match c, o with
  | some c, some ds => mmP n C (mmV m c ds)
  | _, _ => .bad
def mm2 (m : Mm) (x : E) (r : R (List E)) : R E := r.bind fun xs C => match x with
  | .r n => mmO m n C (cellAt C n) (vals xs)
  | _ => .bad
def mmB (m : Mm) (es : Es) (env : Env) (x : E) (C : Cells) (b : Bool) : R E := match b with
  | true => mm2 m x (evEs P call lamc es env C)
  | false => .bad
def mm1 (m : Mm) (es : Es) (env : Env) (r : R E) : R E := r.bind fun x C => mmB P call lamc m es env x C (isLst C x)
/-- the turns of a comprehension's clause; env: where the targets are stored -/
def genR (t : Tg) (ifs : Eo) (r : Gn) (env : Env) (ds : List D) (C : Cells) (acc : List D) : R (List D) :=
  compL env t (fun env C acc => stepC (evC P call lamc ifs env C) (fun C => evG P call lamc r env C acc) acc) ds C acc
def compE (C0 : Cells) (w : E) (r : R (List D)) : R E := match r with
  | .ok ds C' => .ok (.v (.lst ds)) (unlock C0 C' w)
  | _ => .bad
def comp1 (own : List Nat) (t : Tg) (ifs : Eo) (g : Gn) (env : Env) (r : R (List D × E)) : R E := r.bind fun w C => compE C w.2 (genR P call lamc t ifs g (wipeE env own) w.1 (lock C w.2) [])
def stepG (r : Gn) (env : Env) (acc : List D) (t : R Bool) : R (List D) := t.bind fun b C => if b then evG P call lamc r env C acc else .ok acc C
def genB (t : Tg) (ifs : Eo) (g : Gn) (env : Env) (ds : List D) (r : R (List D)) : R (List D) := r.bind fun a C => genR P call lamc t ifs g env ds C a
def genA (t : Tg) (ifs : Eo) (g : Gn) (env : Env) (ds : List D) (C : Cells) (acc : List D) (o : Option Env) : R (List D) := match o with
  | some e => genB P call lamc t ifs g env ds (stepG P call lamc g e acc (evC P call lamc ifs e C))
  | none => .bad
def genW (C0 : Cells) (w : E) (r : R (List D)) : R (List D) := r.bind fun ds C' => .ok ds (unlock C0 C' w)
def gen1 (t : Tg) (ifs : Eo) (g : Gn) (env : Env) (acc : List D) (r : R (List D × E)) : R (List D) := r.bind fun w C =>
    genW C w.2 (genR P call lamc t ifs g (wipeE env (tsl t ++ gsl g)) w.1 (lock C w.2) acc)
def cpO (C : Cells) (o : Option D) : R E := match o with
    | some (.lst xs) => .ok (.r C.length) (C ++ [some (.lst xs)])
    | some (.tup xs) => .ok (.r C.length) (C ++ [some (.lst xs)])
    | _ => .bad
def cp1 (r : R E) : R E := r.bind fun x C => cpO C (see C x)
def frzR (C : Cells) (x : E) : R E := match x with
    | .v d => .ok (.v d) C
    | .r n => match cellAt C n with
      | some (.lst xs) => .ok (.v (.lst xs)) (C.set n none)
      | some (.dct kvs) => .ok (.v (.dct kvs)) (C.set n none)
      | _ => .bad
    | _ => .bad
def frz1 (r : R E) : R E := r.bind fun x C => frzR C x
def dix2 (x : E) (r : R E) : R E := r.bind fun y C => okV C (bin dixV (see C x) (see C y))
def dix1 (b : Ex) (env : Env) (r : R E) : R E := r.bind fun x C => dix2 x (evE P call lamc b env C)
def dgtO (C : Cells) (x y : Option D) (z : E) : R E := match x, y, z with
  | some x, some y, .v d => okV C (dgtV x y d)
  | _, _, _ => .bad
def dgt3 (x y : E) (r : R E) : R E := r.bind fun z C => dgtO C (see C x) (see C y) z
def dgt2 (d : Ex) (env : Env) (x : E) (r : R E) : R E := r.bind fun y C => dgt3 x y (evE P call lamc d env C)
def dgtB (k d : Ex) (env : Env) (x : E) (C : Cells) (b : Bool) : R E := match b with
  | true => dgt2 P call lamc d env x (evE P call lamc k env C)
  | false => .bad
def dgt1 (k d : Ex) (env : Env) (r : R E) : R E := r.bind fun x C => dgtB P call lamc k d env x C (isDct C x)
/-- the turns of a dict's comprehension -/
def genD (t : Tg) (ifs : Eo) (k v : Ex) (env : Env) (ds : List D) (C : Cells) (acc : List (D × D)) : R (List (D × D)) :=
  compD env t (fun env C acc => stepD (evC P call lamc ifs env C) (fun C => pushKV (evE P call lamc k env C) (fun C => evE P call lamc v env C) acc) acc) ds C acc
def dcmE (C0 : Cells) (w : E) (r : R (List (D × D))) : R E := match r with
  | .ok ds C' => .ok (.v (.dct ds)) (unlock C0 C' w)
  | _ => .bad
def dcm1 (own : List Nat) (t : Tg) (ifs : Eo) (k v : Ex) (env : Env) (r : R (List D × E)) : R E := r.bind fun w C => dcmE C w.2 (genD P call lamc t ifs k v (wipeE env own) w.1 (lock C w.2) [])
def pkO (acc : List (D × D)) (C : Cells) (x y : E) : R (List (D × D)) := match x, y with
  | .v k, .v v => if keyB k && decide (acc.length < line) then .ok (putKd k v acc) C else .bad
  | _, _ => .bad
def pk2 (x : E) (acc : List (D × D)) (r : R E) : R (List (D × D)) := r.bind fun y C => pkO acc C x y
def pk1 (v : Ex) (env : Env) (acc : List (D × D)) (r : R E) : R (List (D × D)) := r.bind fun x C => pk2 x acc (evE P call lamc v env C)
def pkS (k v : Ex) (env : Env) (acc : List (D × D)) (t : R Bool) : R (List (D × D)) := t.bind fun b C => if b then pk1 P call lamc v env acc (evE P call lamc k env C) else .ok acc C
def genDB (t : Tg) (ifs : Eo) (k v : Ex) (env : Env) (ds : List D) (r : R (List (D × D))) : R (List (D × D)) := r.bind fun a C => genD P call lamc t ifs k v env ds C a
def genDA (t : Tg) (ifs : Eo) (k v : Ex) (env : Env) (ds : List D) (C : Cells) (acc : List (D × D)) (o : Option Env) : R (List (D × D)) := match o with
  | some e => genDB P call lamc t ifs k v env ds (pkS P call lamc k v e acc (evC P call lamc ifs e C))
  | none => .bad
def gixO (C : Cells) (y : E) (o : Option (List (Nm × D))) : R E := match y, o with
  | .v (.str s), some kvs => okV C (lookS s kvs)
  | _, _ => .bad
def gix1 (g : Nat) (r : R E) : R E := r.bind fun y C => gixO C y P.gd[g]?
def ginO (neg : Bool) (C : Cells) (y : E) (o : Option (List (Nm × D))) : R E := match y, o with
  | .v (.str s), some kvs => .ok (.v (.bl ((lookS s kvs).isSome != neg))) C
  | _, _ => .bad
def gin1 (neg : Bool) (g : Nat) (r : R E) : R E := r.bind fun y C => ginO neg C y P.gd[g]?
def eqA (neg : Bool) (r : R E) : R E := r.bind fun r C => eqAns neg r C
def eqiO (neg : Bool) (x y : E) (C : Cells) (o : Option Nat) : R E := match o with
  | some f => eqA neg (anyO call f [x, y] C (vals [x, y]))
  | none => .bad
def eqi2 (neg : Bool) (x : E) (r : R E) : R E := r.bind fun y C => eqiO call neg x y C (eqOf P C x y)
def eqi1 (neg : Bool) (b : Ex) (env : Env) (r : R E) : R E := r.bind fun x C => eqi2 P call neg x (evE P call lamc b env C)
def clR (o : Option E) (env : Env) (C : Cells) : R E := match o with
    | some (.clo j) => lamc j env C
    | _ => .bad
def cons2 (x : E) (r : R (List E)) : R (List E) := r.bind fun xs C => .ok (x :: xs) C
def cons1 (es : Es) (env : Env) (r : R E) : R (List E) := r.bind fun x C => cons2 x (evEs P call lamc es env C)
def starD (o : Option D) : Option (List D) := match o with
  | some (.lst xs) => some xs
  | some (.tup xs) => some xs
  | _ => none
def star2 (ds : List D) (r : R (List E)) : R (List E) := r.bind fun xs C => .ok (ds.map .v ++ xs) C
def starO (es : Es) (env : Env) (C : Cells) (o : Option (List D)) : R (List E) := match o with
  | some ds => star2 ds (evEs P call lamc es env C)
  | none => .bad
def star1 (es : Es) (env : Env) (r : R E) : R (List E) := r.bind fun x C => starO P call lamc es env C (starD (see C x))
def oint (x : E) (C : Cells) : R (Option Int) := match x with
    | .v (.int i) => .ok (some i) C
    | _ => .bad
def oint1 (r : R E) : R (Option Int) := r.bind fun x C => oint x C
def csO (C : Cells) (o : Option Bool) : R Bool := match o with
  | some b => .ok b C
  | none => .bad
def cs1 (r : R E) : R Bool := r.bind fun x C => csO C (truE C x)
def seqO (x : E) (C : Cells) (o : Option (List D)) : R (List D × E) := match o with
  | some ds => .ok (ds, x) C
  | none => .bad
def seq1 (r : R E) : R (List D × E) := r.bind fun x C => seqO x C ((see C x).bind seqD)
def rng1E (x : E) (C : Cells) : R (List D × E) := match x with
    | .v (.int j) => if rngOk j then .ok (rangeD 0 1 j.toNat, .v .non) C else .bad
    | _ => .bad
def rng1 (r : R E) : R (List D × E) := r.bind fun x C => rng1E x C
def rng2E (x y : E) (C : Cells) : R (List D × E) := match x, y with
    | .v (.int i), .v (.int j) => if rngOk i && rngOk j then .ok (rangeD i 1 (j - i).toNat, .v .non) C else .bad
    | _, _ => .bad
def rng2b (x : E) (r : R E) : R (List D × E) := r.bind fun y C => rng2E x y C
def rng2a (b : Ex) (env : Env) (r : R E) : R (List D × E) := r.bind fun x C => rng2b x (evE P call lamc b env C)
def enumO (x : E) (C : Cells) (o : Option (List D)) : R (List D × E) := match o with
  | some ds => .ok (enumD 0 ds, x) C
  | none => .bad
def enum1 (r : R E) : R (List D × E) := r.bind fun x C => enumO x C ((see C x).bind lsD)
def zipO (C : Cells) (o : Option (List D)) : R (List D × E) := match o with
      | some ds => .ok (ds, .v .non) C
      | none => .bad
def zipE (C : Cells) (x y : E) : R (List D × E) := match x, y with
    | .v x, .v y => zipO C (zipV x y)
    | _, _ => .bad
def rng3E (s : Int) (x y : E) (C : Cells) : R (List D × E) := match x, y with
    | .v (.int i), .v (.int j) => if rngOk i && rngOk j && decide (0 < s ∧ s < 1000000) then .ok (rangeD i s (cntR i j s), .v .non) C else .bad
    | _, _ => .bad
def rng3b (s : Int) (x : E) (r : R E) : R (List D × E) := r.bind fun y C => rng3E s x y C
def rng3a (b : Ex) (s : Int) (env : Env) (r : R E) : R (List D × E) := r.bind fun x C => rng3b s x (evE P call lamc b env C)
def zip2 (x : E) (r : R E) : R (List D × E) := r.bind fun y C => zipE C x y
def zip1 (b : Ex) (env : Env) (r : R E) : R (List D × E) := r.bind fun x C => zip2 x (evE P call lamc b env C)
def push1 (acc : List D) (r : R E) : R (List D) := pushD r acc
/-! statements -/
def seqR (r : Sms) (x : RS) : RS := match x with
  | .next env C => exSs P call lamc r env C
  | x => x
def expS (env : Env) (r : R E) : RS := match r with
  | .ok _ C => .next env C
  | .exc c fs C => .exc c fs env C
  | .bad => .bad
def retS (env : Env) (r : R E) : RS := match r with
  | .ok x C => .ret x C
  | .exc c fs C => .exc c fs env C
  | .bad => .bad
def asgO (C : Cells) (o : Option Env) : RS := match o with
  | some env => .next env C
  | none => .bad
def asgS (t : Tg) (env : Env) (r : R E) : RS := match r with
  | .ok x C => asgO C (asgE t x env)
  | .exc c fs C => .exc c fs env C
  | .bad => .bad
def par2 (i j : Nat) (x : E) (env : Env) (r : R E) : RS := match r with
  | .ok y C => .next ((env.set i (some x)).set j (some y)) C
  | .exc c fs C => .exc c fs env C
  | .bad => .bad
def par1 (i j : Nat) (b : Ex) (env : Env) (r : R E) : RS := match r with
  | .ok x C => par2 i j x env (evE P call lamc b env C)
  | .exc c fs C => .exc c fs env C
  | .bad => .bad
def augO (i : Nat) (env : Env) (C : Cells) (o : Option D) : RS := match o with
  | some z => .next (env.set i (some (.v z))) C
  | none => .bad
def augC (i n : Nat) (env : Env) (C : Cells) (c : Option Cell) (d : Option D) : RS := match c, d with
  | some (.lst xs), some (.lst ys) => if xs.length + ys.length ≤ line then .next (env.set i (some (.r n))) (C.set n (some (.lst (xs ++ ys)))) else .bad
  | _, _ => .bad
def augV' (o : Bop) (i : Nat) (d : D) (env : Env) (r : R E) : RS := match r with
  | .ok y C => augO i env C ((see C y).bind fun y => augV o d y)
  | .exc c fs C => .exc c fs env C
  | .bad => .bad
def augR' (o : Bop) (i n : Nat) (env : Env) (r : R E) : RS := match r with
  | .ok y C => (match o with
    | .add => augC i n env C (cellAt C n) (see C y)
    | _ => .bad)
  | .exc c fs C => .exc c fs env C
  | .bad => .bad
def augS (o : Bop) (i : Nat) (old : Option E) (e : Ex) (env : Env) (C : Cells) : RS := match old with
  | some (.v d) => augV' o i d env (evE P call lamc e env C)
  | some (.r n) => augR' o i n env (evE P call lamc e env C)
  | _ => .bad
def ifO (a b : Sms) (env : Env) (C : Cells) (o : Option Bool) : RS := match o with
  | some true => exSs P call lamc a env C
  | some false => exSs P call lamc b env C
  | none => .bad
def ifS (a b : Sms) (env : Env) (r : R E) : RS := match r with
  | .ok x C => ifO P call lamc a b env C (truE C x)
  | .exc c fs C => .exc c fs env C
  | .bad => .bad
/-- the turns of a loop -/
def forG (t : Tg) (b : Sms) (ds : List D) (env : Env) (C : Cells) : RS := forL t (fun env C => exSs P call lamc b env C) ds env C
def forU (C0 : Cells) (w : E) (x : RS) : RS := x.map fun C' => unlock C0 C' w
def forS (t : Tg) (b : Sms) (env : Env) (r : R (List D × E)) : RS := match r with
  | .ok w C => forU C w.2 (forG P call lamc t b w.1 env (lock C w.2))
  | .exc c fs C => .exc c fs env C
  | .bad => .bad
def forB (t : Tg) (b : Sms) (ds : List D) (x : RS) : RS := match x with
    | .next env C => forG P call lamc t b ds env C
    | .ct env C => forG P call lamc t b ds env C
    | .brk env C => .next env C
    | .ret e C => .ret e C
    | .exc c fs env C => .exc c fs env C
    | .bad => .bad
def forA (t : Tg) (b : Sms) (ds : List D) (C : Cells) (o : Option Env) : RS := match o with
  | some e => forB P call lamc t b ds (exSs P call lamc b e C)
  | none => .bad
def lamG (i : Nat) (b : Sms) (js : List Nat) (env : Env) (C : Cells) : RS := forLam i (fun env C => exSs P call lamc b env C) js env C
def lamTurn (i : Nat) (b : Sms) (js : List Nat) (x : RS) : RS := match x with
    | .next env C => lamG P call lamc i b js env C
    | .ct env C => lamG P call lamc i b js env C
    | .brk env C => .next env C
    | .ret e C => .ret e C
    | .exc c fs env C => .exc c fs env C
    | .bad => .bad
def setAC (n : Nat) (f : Nm) (z : E) (env : Env) (C : Cells) (c : Option Cell) : RS := match c with
  | some (.ins c fs) => if fldOk P c f && fs.length < 100 then .next env (C.set n (some (.ins c (putF f z fs)))) else .bad
  | _ => .bad
def setAE (f : Nm) (z x : E) (env : Env) (C : Cells) : RS := match x with
  | .r n => setAC P n f z env C (cellAt C n)
  | _ => .bad
def setA2 (f : Nm) (z : E) (env : Env) (r : R E) : RS := match r with
  | .ok x C => setAE P f z x env C
  | .exc c fs C => .exc c fs env C
  | .bad => .bad
def setA1 (o : Ex) (f : Nm) (env : Env) (r : R E) : RS := match r with
  | .ok z C => setA2 P f z env (evE P call lamc o env C)
  | .exc c fs C => .exc c fs env C
  | .bad => .bad
def setDO (n : Nat) (z : D) (env : Env) (C : Cells) (y : E) (c : Option Cell) : RS := match y, c with
  | .v k, some (.dct kvs) => if keyB k && decide (kvs.length < line) then .next env (C.set n (some (.dct (putKd k z kvs)))) else .bad
  | _, _ => .bad
def setDE (z x y : E) (env : Env) (C : Cells) : RS := match z, x with
  | .v z, .r n => setDO n z env C y (cellAt C n)
  | _, _ => .bad
def setD3 (z x : E) (env : Env) (r : R E) : RS := match r with
  | .ok y C => setDE z x y env C
  | .exc c fs C => .exc c fs env C
  | .bad => .bad
def setD2 (k : Ex) (z : E) (env : Env) (r : R E) : RS := match r with
  | .ok x C => setD3 z x env (evE P call lamc k env C)
  | .exc c fs C => .exc c fs env C
  | .bad => .bad
def setD1 (o k : Ex) (env : Env) (r : R E) : RS := match r with
  | .ok z C => setD2 P call lamc k z env (evE P call lamc o env C)
  | .exc c fs C => .exc c fs env C
  | .bad => .bad
def augAW (n c : Nat) (f : Nm) (fs : List (Nm × E)) (ok : Bool) (env : Env) (C : Cells) (w : Option D) : RS := match w with
  | some w => if ok then .next env (C.set n (some (.ins c (putF f (.v w) fs)))) else .bad
  | none => .bad
def augAC (op : Bop) (n c0 : Nat) (f : Nm) (old : D) (env : Env) (C : Cells) (z : E) (c : Option Cell) : RS := match z, c with
  | .v z, some (.ins c fs) => augAW n c f fs (c = c0 && fs.length < 100) env C (augV op old z)
  | _, _ => .bad
def augA2 (op : Bop) (n c0 : Nat) (f : Nm) (old : D) (env : Env) (r : R E) : RS := match r with
  | .ok z C => augAC op n c0 f old env C z (cellAt C n)
  | .exc c fs C => .exc c fs env C
  | .bad => .bad
def augAO (op : Bop) (e : Ex) (n c0 : Nat) (f : Nm) (env : Env) (C : Cells) (o : Option E) : RS := match o with
  | some (.v old) => augA2 op n c0 f old env (evE P call lamc e env C)
  | _ => .bad
def augAL (op : Bop) (e : Ex) (n : Nat) (f : Nm) (env : Env) (C : Cells) (c : Option Cell) : RS := match c with
  | some (.ins c0 fs) => augAO P call lamc op e n c0 f env C (if fldOk P c0 f then lookF f fs else none)
  | _ => .bad
def augAE (op : Bop) (e : Ex) (f : Nm) (env : Env) (x : E) (C : Cells) : RS := match x with
  | .r n => augAL P call lamc op e n f env C (cellAt C n)
  | _ => .bad
def augA1 (op : Bop) (e : Ex) (f : Nm) (env : Env) (r : R E) : RS := match r with
  | .ok x C => augAE P call lamc op e f env x C
  | .exc c fs C => .exc c fs env C
  | .bad => .bad
def setIJ (n : Nat) (z : D) (env : Env) (C : Cells) (xs : List D) (o : Option Nat) : RS := match o with
  | some j => .next env (C.set n (some (.lst (xs.set j z))))
  | none => .bad
def setIO (n : Nat) (k : Int) (z : D) (env : Env) (C : Cells) (c : Option Cell) : RS := match c with
  | some (.lst xs) => setIJ n z env C xs (ixN xs.length k)
  | _ => .bad
def setIE (x y z : E) (env : Env) (C : Cells) : RS := match x, y, z with
  | .r n, .v (.int k), .v z => setIO n k z env C (cellAt C n)
  | _, _, _ => .bad
def setI3 (z x : E) (env : Env) (r : R E) : RS := match r with
  | .ok y C => setIE x y z env C
  | .exc c fs C => .exc c fs env C
  | .bad => .bad
def setI2 (i : Ex) (z : E) (env : Env) (r : R E) : RS := match r with
  | .ok x C => setI3 z x env (evE P call lamc i env C)
  | .exc c fs C => .exc c fs env C
  | .bad => .bad
def setI1 (o i : Ex) (env : Env) (r : R E) : RS := match r with
  | .ok z C => setI2 P call lamc i z env (evE P call lamc o env C)
  | .exc c fs C => .exc c fs env C
  | .bad => .bad
def augIW (n : Nat) (k : Int) (env : Env) (C : Cells) (w : Option D) (c : Option Cell) : RS := match w, c with
  | some w, some (.lst xs) => setIJ n w env C xs (ixN xs.length k)
  | _, _ => .bad
def augIZ (op : Bop) (n : Nat) (k : Int) (old : D) (z : E) (env : Env) (C : Cells) : RS := match z with
  | .v z => augIW n k env C (augV op old z) (cellAt C n)
  | _ => .bad
def augI3 (op : Bop) (n : Nat) (k : Int) (old : D) (env : Env) (r : R E) : RS := match r with
  | .ok z C => augIZ op n k old z env C
  | .exc c fs C => .exc c fs env C
  | .bad => .bad
def augIA (op : Bop) (e : Ex) (n : Nat) (k : Int) (env : Env) (C : Cells) (o : Option D) : RS := match o with
  | some old => augI3 op n k old env (evE P call lamc e env C)
  | none => .bad
def augIC (op : Bop) (e : Ex) (n : Nat) (k : Int) (env : Env) (C : Cells) (c : Option Cell) : RS := match c with
  | some (.lst xs) => augIA P call lamc op e n k env C (atD xs k)
  | _ => .bad
def augIE (op : Bop) (e : Ex) (x y : E) (env : Env) (C : Cells) : RS := match x, y with
  | .r n, .v (.int k) => augIC P call lamc op e n k env C (cellAt C n)
  | _, _ => .bad
def augI2 (op : Bop) (e : Ex) (x : E) (env : Env) (r : R E) : RS := match r with
  | .ok y C => augIE P call lamc op e x y env C
  | .exc c fs C => .exc c fs env C
  | .bad => .bad
def augI1 (i : Ex) (op : Bop) (e : Ex) (env : Env) (r : R E) : RS := match r with
  | .ok x C => augI2 P call lamc op e x env (evE P call lamc i env C)
  | .exc c fs C => .exc c fs env C
  | .bad => .bad
/-- a while's turns -/
def whG (c : Ex) (b : Sms) (n : Nat) (env : Env) (C : Cells) : RS := whileL (fun env C => truR (evE P call lamc c env C)) (fun env C => exSs P call lamc b env C) n env C
def whB (c : Ex) (b : Sms) (n : Nat) (x : RS) : RS := match x with
    | .next env C => whG P call lamc c b n env C
    | .ct env C => whG P call lamc c b n env C
    | .brk env C => .next env C
    | .ret e C => .ret e C
    | .exc c fs env C => .exc c fs env C
    | .bad => .bad
def whT (c : Ex) (b : Sms) (n : Nat) (env : Env) (r : R Bool) : RS := match r with
  | .ok true C => whB P call lamc c b n (exSs P call lamc b env C)
  | .ok false C => .next env C
  | .exc k fs C => .exc k fs env C
  | .bad => .bad
def raiR (cl : Option Cl) (c : Nat) (ds : Option (List D)) (env : Env) (C : Cells) : RS := match ds, cl with
    | some ds, some cl => if ds.length = cl.flds.length then .exc c (cl.flds.zip ds) env C else .bad
    | _, _ => .bad
def raiS (c : Nat) (env : Env) (r : R (List E)) : RS := match r with
  | .ok xs C => raiR P.cls[c]? c (vals xs) env C
  | .exc c fs C => .exc c fs env C
  | .bad => .bad
def tryS (hs : Hs) (x : RS) : RS := match x with
  | .exc c fs env C => exH P call lamc hs c fs env C
  | r => r
/-- what is left of a handler's suite -/
def hnd (o : Option Nat) (x : RS) : RS := match o with
  | none => (match x with
    | .exc _ _ _ _ => .bad
    | x => x)
  | some i => match x with
    | .next env C => if cleanE (env.set i none) then .next (env.set i none) C else .bad
    | .ct env C => if cleanE (env.set i none) then .ct (env.set i none) C else .bad
    | .brk env C => if cleanE (env.set i none) then .brk (env.set i none) C else .bad
    | .ret e C => .ret e C
    | _ => .bad
def hndB (as : Option Nat) (b : Sms) (r : Hs) (c : Nat) (fs : List (Nm × D)) (env : Env) (C : Cells) (u : Bool) : RS := match u with
  | true => (match as with
    | none => hnd none (exSs P call lamc b env C)
    | some i => hnd (some i) (exSs P call lamc b (env.set i (some (.exn c fs))) C))
  | false => exH P call lamc r c fs env C
end
section
variable {P : Prog} {call : Nat → List E → Cells → R E} {lamc : Nat → Env → Cells → R E} {env : Env} {C : Cells}
@[simp] theorem x_slot {i : Nat} : evE P call lamc (.slot i) env C = slotR (env[i]?).join C := by
  rw [evE]; rfl
@[simp] theorem x_cst {k : K} : evE P call lamc (.cst k) env C = .ok (.v k.d) C := nrfl rfl
@[simp] theorem x_glob {g : Nat} : evE P call lamc (.glob g) env C = okV C P.globs[g]? := by
  rw [evE]; cases P.globs[g]? <;> rfl
@[simp] theorem x_tup {es : Es} : evE P call lamc (.tup es) env C = tup1 (evEs P call lamc es env C) := by
  rw [evE, tup1]; congr 1; funext xs C; cases vals xs with
  | none => rfl
  | some ds => simp only [Option.bind, tupO]; split <;> rfl
@[simp] theorem x_lst {m : Bool} {es : Es} : evE P call lamc (.lst m es) env C = lst1 m (evEs P call lamc es env C) := by
  rw [evE, lst1]; congr 1; funext xs C; cases vals xs <;> rfl
@[simp] theorem x_bop {o : Bop} {a b : Ex} : evE P call lamc (.bop o a b) env C = bop1 P call lamc o b env (evE P call lamc a env C) := by
  rw [evE, bop1]; congr 1; funext x C; rw [bop2]; congr 1; funext y C
  unfold bin
  cases see C x with
  | none => rfl
  | some x => cases see C y with
    | none => rfl
    | some y => show R.of ((bopV o x y).map .v) C = okV C (bopV o x y); cases bopV o x y <;> rfl
@[simp] theorem x_cmp {o : Cop} {a b : Ex} : evE P call lamc (.cmp o a b) env C = cmp1 P call lamc o b env (evE P call lamc a env C) := by
  rw [evE, cmp1]; congr 1; funext x C; rw [cmp2]; congr 1; funext y C
  unfold bin
  cases see C x with
  | none => rfl
  | some x => cases see C y with
    | none => rfl
    | some y => show R.of ((copV o x y).map fun b => .v (.bl b)) C = okB C (copV o x y); cases copV o x y <;> rfl
@[simp] theorem x_cmp2 {o o' : Cop} {a b c : Ex} : evE P call lamc (.cmp2 o o' a b c) env C = chn1 P call lamc o o' b c env (evE P call lamc a env C) := by
  rw [evE, chn1]; congr 1; funext x C; rw [chn2]; congr 1; funext y C
  unfold bin
  cases (see C x).bind fun x => (see C y).bind fun y => copV o x y with
  | none => rfl
  | some q =>
    cases q with
    | false => rfl
    | true =>
      show R.bind _ _ = cmp2 _ _ _
      rw [cmp2]; congr 1; funext z C
      unfold bin
      cases see C y with
      | none => rfl
      | some x => cases see C z with
        | none => rfl
        | some y => show R.of ((copV o' x y).map fun b => .v (.bl b)) C = okB C (copV o' x y); cases copV o' x y <;> rfl
@[simp] theorem x_isN {neg : Bool} {a : Ex} : evE P call lamc (.isN neg a) env C = isN1 neg (evE P call lamc a env C) := nrfl rfl
@[simp] theorem x_and {a b : Ex} : evE P call lamc (.and a b) env C = and1 P call lamc b env (evE P call lamc a env C) := by
  rw [evE, and1]; congr 1; funext x C; cases truE C x with
  | none => rfl
  | some b => cases b <;> rfl
@[simp] theorem x_or {a b : Ex} : evE P call lamc (.or a b) env C = or1 P call lamc b env (evE P call lamc a env C) := by
  rw [evE, or1]; congr 1; funext x C; cases truE C x with
  | none => rfl
  | some b => cases b <;> rfl
@[simp] theorem x_one {a : Ex} : evE P call lamc (.one a) env C = evE P call lamc a env C := nrfl rfl
@[simp] theorem x_not {a : Ex} : evE P call lamc (.not a) env C = not1 (evE P call lamc a env C) := by
  rw [evE, not1]; congr 1; funext x C; cases truE C x <;> rfl
@[simp] theorem x_ite {c a b : Ex} : evE P call lamc (.ite c a b) env C = ite1 P call lamc a b env (evE P call lamc c env C) := by
  rw [evE, ite1]; congr 1; funext x C; cases truE C x with
  | none => rfl
  | some b => cases b <;> rfl
@[simp] theorem x_idx {a i : Ex} : evE P call lamc (.idx a i) env C = idx1 P call lamc i env (evE P call lamc a env C) := by
  rw [evE, idx1]; congr 1; funext x C; rw [idx2]; congr 1; funext y C
  unfold bin
  cases see C x with
  | none => rfl
  | some x => cases see C y with
    | none => rfl
    | some y => show R.of ((idxV x y).map .v) C = okV C (idxV x y); cases idxV x y <;> rfl
@[simp] theorem x_sl {a : Ex} {lo hi : Eo} : evE P call lamc (.sl a lo hi) env C = sl1 P call lamc lo hi env (evE P call lamc a env C) := by
  rw [evE, sl1]; congr 1; funext x C; rw [sl2]; congr 1; funext l C; rw [sl3]; congr 1; funext h C
  cases see C x with
  | none => rfl
  | some x => show R.of ((slV x l h).map .v) C = okV C (slV x l h); cases slV x l h <;> rfl
@[simp] theorem x_xf {i : Nat} {f : Nm} : evE P call lamc (.xf i f) env C = xfR P f (env[i]?).join C := by
  simp only [evE]
  unfold xfR
  cases (env[i]?).join with
  | none => rfl
  | some e =>
    cases e with
    | exn c fs =>
      show (match P.cls[c]? with | some cl => if cl.exn && cl.flds.contains f then R.of ((lookFD f fs).map .v) C else .bad | none => .bad) = xfC P.cls[c]? f fs C
      cases P.cls[c]? with
      | none => rfl
      | some cl =>
        show (if _ then R.of ((lookFD f fs).map .v) C else .bad) = if _ then okV C (lookFD f fs) else .bad
        split
        · cases lookFD f fs <;> rfl
        · rfl
    | _ => rfl
@[simp] theorem x_attr {a : Ex} {f : Nm} : evE P call lamc (.attr a f) env C = attr1 P f (evE P call lamc a env C) := by
  rw [evE, attr1]; congr 1; funext x C; cases attrP P C f x <;> rfl
@[simp] theorem x_call {f : Nat} {es : Es} : evE P call lamc (.call f es) env C = call1 call f (evEs P call lamc es env C) := by
  rw [evE, call1]; congr 1
@[simp] theorem x_meth {o : Ex} {m : Nm} {es : Es} : evE P call lamc (.meth o m es) env C = met1 P call lamc m es env (evE P call lamc o env C) := by
  rw [evE, met1]; congr 1; funext x C; cases methOf P C m x with
  | none => rfl
  | some f =>
    show R.bind _ _ = R.bind _ _
    congr 1
@[simp] theorem x_new {c : Nat} {es : Es} : evE P call lamc (.new c es) env C = new1 P call c (evEs P call lamc es env C) := nrfl rfl
@[simp] theorem x_isc {a : Ex} {c : Nat} : evE P call lamc (.isc a c) env C = isc1 P c (evE P call lamc a env C) := by
  rw [evE, isc1]; congr 1; funext x C; cases iscE P C x c <;> rfl
@[simp] theorem x_neg {a : Ex} : evE P call lamc (.neg a) env C = neg1 (evE P call lamc a env C) := by
  rw [evE, neg1]; congr 1; funext x C; show _ = okV C ((see C x).bind negV); cases (see C x).bind negV <;> rfl
@[simp] theorem x_rev {a : Ex} : evE P call lamc (.rev a) env C = rev1 (evE P call lamc a env C) := by
  rw [evE, rev1]; congr 1; funext x C; cases (see C x).bind revV <;> rfl
@[simp] theorem x_range3 {a b : Ex} {s : Int} : evI P call lamc (.range3 a b s) env C = rng3a P call lamc b s env (evE P call lamc a env C) := nrfl rfl
@[simp] theorem x_callP {f : Nat} {es : Es} : evE P call lamc (.callP f es) env C = callP1 call f (evEs P call lamc es env C) := by
  rw [evE, callP1]; congr 1; funext xs C; cases vals xs <;> rfl
@[simp] theorem x_bi {b : Bi} {es : Es} : evE P call lamc (.bi b es) env C = bi1 b (evEs P call lamc es env C) := by
  rw [evE, bi1]; congr 1; funext xs C
  cases sees C xs with
  | none => rfl
  | some ds => show R.of ((biV b ds).map .v) C = okV C (biV b ds); cases biV b ds <;> rfl
@[simp] theorem x_isi {a : Ex} {ts : List Ty} : evE P call lamc (.isi a ts) env C = isi1 ts (evE P call lamc a env C) := by
  rw [evE, isi1]; congr 1; funext x C; cases isiE C x ts <;> rfl
@[simp] theorem x_bm {m : Bm} {a : Ex} {es : Es} : evE P call lamc (.bm m a es) env C = bm1 P call lamc m es env (evE P call lamc a env C) := by
  rw [evE, bm1]; congr 1; funext x C
  cases isLst C x with
  | false => rfl
  | true =>
    show R.bind _ _ = bm2 _ _ _
    rw [bm2]; congr 1; funext xs C
    cases see C x with
    | none => rfl
    | some x => cases sees C xs with
      | none => rfl
      | some y => show R.of ((bmV m x y).map .v) C = okV C (bmV m x y); cases bmV m x y <;> rfl
@[simp] theorem x_mm {m : Mm} {a : Ex} {es : Es} : evE P call lamc (.mm m a es) env C = mm1 P call lamc m es env (evE P call lamc a env C) := by
  rw [evE, mm1]; congr 1; funext x C
  cases isLst C x with
  | false => rfl
  | true =>
    show R.bind _ _ = mm2 _ _ _
    rw [mm2]; congr 1; funext xs C
    cases x with
    | r n =>
      show (match (cellAt C n).bind fun c => (vals xs).bind fun ds => mmV m c ds with | some (c, d) => R.ok (.v d) (C.set n (some c)) | none => .bad) = mmO m n C (cellAt C n) (vals xs)
      cases cellAt C n with
      | none => rfl
      | some c => cases vals xs with
        | none => rfl
        | some ds => show (match mmV m c ds with | some (c, d) => R.ok (.v d) (C.set n (some c)) | none => .bad) = mmP n C (mmV m c ds); cases mmV m c ds <;> rfl
    | _ => rfl
@[simp] theorem x_comp {own : List Nat} {t : Tg} {it : It} {ifs : Eo} {r : Gn} : evE P call lamc (.comp own t it ifs r) env C = comp1 P call lamc own t ifs r env (evI P call lamc it env C) := by
  rw [evE, comp1]; congr 1; funext w C
  show (noexc (genR P call lamc t ifs r (wipeE env own) w.1 (lock C w.2) [])).bind _ = _
  cases genR P call lamc t ifs r (wipeE env own) w.1 (lock C w.2) [] <;> rfl
@[simp] theorem x_cp {a : Ex} : evE P call lamc (.cp a) env C = cp1 (evE P call lamc a env C) := by
  rw [evE, cp1]; congr 1
@[simp] theorem x_frz {a : Ex} : evE P call lamc (.frz a) env C = frz1 (evE P call lamc a env C) := by
  rw [evE, frz1]; congr 1
@[simp] theorem x_dnew : evE P call lamc .dnew env C = .ok (.r C.length) (C ++ [some (.dct [])]) := nrfl rfl
@[simp] theorem x_dix {a i : Ex} : evE P call lamc (.dix a i) env C = dix1 P call lamc i env (evE P call lamc a env C) := by
  rw [evE, dix1]; congr 1; funext x C; rw [dix2]; congr 1; funext y C
  unfold bin
  cases see C x with
  | none => rfl
  | some x => cases see C y with
    | none => rfl
    | some y => show R.of ((dixV x y).map .v) C = okV C (dixV x y); cases dixV x y <;> rfl
@[simp] theorem x_dgt {a k d : Ex} : evE P call lamc (.dgt a k d) env C = dgt1 P call lamc k d env (evE P call lamc a env C) := by
  rw [evE, dgt1]; congr 1; funext x C; cases isDct C x with
  | false => rfl
  | true =>
    show R.bind _ _ = dgt2 _ _ _ _ _ _ _
    rw [dgt2]; congr 1; funext y C
    rw [dgt3]; congr 1; funext z C
    cases see C x with
    | none => rfl
    | some x => cases see C y with
      | none => rfl
      | some y => cases z with
        | v d => show R.of ((dgtV x y d).map .v) C = okV C (dgtV x y d); cases dgtV x y d <;> rfl
        | _ => rfl
@[simp] theorem x_dcomp {own : List Nat} {t : Tg} {it : It} {ifs : Eo} {k v : Ex} : evE P call lamc (.dcomp own t it ifs k v) env C = dcm1 P call lamc own t ifs k v env (evI P call lamc it env C) := by
  rw [evE, dcm1]; congr 1; funext w C
  show (noexc (genD P call lamc t ifs k v (wipeE env own) w.1 (lock C w.2) [])).bind _ = _
  cases genD P call lamc t ifs k v (wipeE env own) w.1 (lock C w.2) [] <;> rfl
@[simp] theorem x_gix {g : Nat} {k : Ex} : evE P call lamc (.gix g k) env C = gix1 P g (evE P call lamc k env C) := by
  rw [evE, gix1]; congr 1; funext y C
  unfold gixO
  cases y with
  | v d =>
    cases d with
    | str s => cases P.gd[g]? with
      | none => rfl
      | some kvs => show R.of ((lookS s kvs).map .v) C = okV C (lookS s kvs); cases lookS s kvs <;> rfl
    | _ => rfl
  | _ => rfl
@[simp] theorem x_gin {neg : Bool} {g : Nat} {k : Ex} : evE P call lamc (.gin neg g k) env C = gin1 P neg g (evE P call lamc k env C) := by
  rw [evE, gin1]; congr 1
@[simp] theorem x_eqI {neg : Bool} {a b : Ex} : evE P call lamc (.eqI neg a b) env C = eqi1 P call lamc neg b env (evE P call lamc a env C) := by
  rw [evE, eqi1]; congr 1; funext x C; rw [eqi2]; congr 1; funext y C
  cases eqOf P C x y with
  | none => rfl
  | some f => rfl
@[simp] theorem x_callL {i : Nat} : evE P call lamc (.callL i) env C = clR lamc (env[i]?).join env C := by
  rw [evE]; rfl
@[simp] theorem x_nil : evEs P call lamc .nil env C = .ok [] C := nrfl rfl
@[simp] theorem x_econs {e : Ex} {es : Es} : evEs P call lamc (.cons e es) env C = cons1 P call lamc es env (evE P call lamc e env C) := nrfl rfl
@[simp] theorem x_estar {e : Ex} {es : Es} : evEs P call lamc (.star e es) env C = star1 P call lamc es env (evE P call lamc e env C) := by
  rw [evEs, star1]; congr 1; funext x C
  cases see C x with
  | none => rfl
  | some d => cases d <;> rfl
@[simp] theorem x_onone : evO P call lamc .none env C = .ok none C := nrfl rfl
@[simp] theorem x_osome {e : Ex} : evO P call lamc (.some e) env C = oint1 (evE P call lamc e env C) := nrfl rfl
@[simp] theorem x_cnone : evC P call lamc .none env C = .ok true C := nrfl rfl
@[simp] theorem x_csome {e : Ex} : evC P call lamc (.some e) env C = cs1 (evE P call lamc e env C) := by
  rw [evC, truR, cs1]; congr 1; funext x C; cases truE C x <;> rfl
@[simp] theorem x_seq {e : Ex} : evI P call lamc (.seq e) env C = seq1 (evE P call lamc e env C) := by
  rw [evI, seq1]; congr 1; funext x C; cases (see C x).bind seqD <;> rfl
@[simp] theorem x_range1 {a : Ex} : evI P call lamc (.range1 a) env C = rng1 (evE P call lamc a env C) := nrfl rfl
@[simp] theorem x_range2 {a b : Ex} : evI P call lamc (.range2 a b) env C = rng2a P call lamc b env (evE P call lamc a env C) := nrfl rfl
@[simp] theorem x_enum {e : Ex} : evI P call lamc (.enum e) env C = enum1 (evE P call lamc e env C) := by
  rw [evI, enum1]; congr 1; funext x C; cases (see C x).bind lsD <;> rfl
@[simp] theorem x_zip {a b : Ex} : evI P call lamc (.zip a b) env C = zip1 P call lamc b env (evE P call lamc a env C) := nrfl rfl
@[simp] theorem x_elt {e : Ex} {acc : List D} : evG P call lamc (.elt e) env C acc = push1 acc (evE P call lamc e env C) := nrfl rfl
@[simp] theorem x_gen {t : Tg} {it : It} {ifs : Eo} {r : Gn} {acc : List D} : evG P call lamc (.gen t it ifs r) env C acc = gen1 P call lamc t ifs r env acc (evI P call lamc it env C) := nrfl rfl
theorem genR_nil {t : Tg} {ifs : Eo} {r : Gn} {acc : List D} : genR P call lamc t ifs r env [] C acc = .ok acc C := nrfl rfl
theorem genR_cons {t : Tg} {ifs : Eo} {r : Gn} {d : D} {ds : List D} {acc : List D} : genR P call lamc t ifs r env (d :: ds) C acc = genA P call lamc t ifs r env ds C acc (asgT t d env) := by
  rw [genR, compL]
  cases asgT t d env <;> rfl
theorem genD_nil {t : Tg} {ifs : Eo} {k v : Ex} {acc : List (D × D)} : genD P call lamc t ifs k v env [] C acc = .ok acc C := nrfl rfl
theorem genD_cons {t : Tg} {ifs : Eo} {k v : Ex} {d : D} {ds : List D} {acc : List (D × D)} : genD P call lamc t ifs k v env (d :: ds) C acc = genDA P call lamc t ifs k v env ds C acc (asgT t d env) := by
  rw [genD, compD]
  cases asgT t d env <;> rfl
/-! statements -/
@[simp] theorem x_snil : exSs P call lamc .nil env C = .next env C := nrfl rfl
@[simp] theorem x_scons {s : Sm} {r : Sms} : exSs P call lamc (.cons s r) env C = seqR P call lamc r (exS P call lamc s env C) := by
  rw [exSs]
  unfold seqR
  cases exS P call lamc s env C <;> rfl
@[simp] theorem x_exp {e : Ex} : exS P call lamc (.exp e) env C = expS env (evE P call lamc e env C) := by
  rw [exS]; cases evE P call lamc e env C <;> rfl
@[simp] theorem x_ret {e : Ex} : exS P call lamc (.ret e) env C = retS env (evE P call lamc e env C) := by
  rw [exS]; cases evE P call lamc e env C <;> rfl
@[simp] theorem x_retN : exS P call lamc .retN env C = .ret (.v .non) C := nrfl rfl
@[simp] theorem x_pass : exS P call lamc .pass env C = .next env C := nrfl rfl
@[simp] theorem x_brk : exS P call lamc .brk env C = .brk env C := nrfl rfl
@[simp] theorem x_cont : exS P call lamc .cont env C = .ct env C := nrfl rfl
@[simp] theorem x_asg {t : Tg} {e : Ex} : exS P call lamc (.asg t e) env C = asgS t env (evE P call lamc e env C) := by
  rw [exS]; cases evE P call lamc e env C with
  | ok x C => show (match asgE t x env with | none => _ | some env => _) = asgO C (asgE t x env); cases asgE t x env <;> rfl
  | _ => rfl
@[simp] theorem x_par {i j : Nat} {a b : Ex} : exS P call lamc (.par i j a b) env C = par1 P call lamc i j b env (evE P call lamc a env C) := by
  rw [exS]; cases evE P call lamc a env C with
  | ok x C => show R.st (evE P call lamc b env C) env _ = par2 i j x env (evE P call lamc b env C); cases evE P call lamc b env C <;> rfl
  | _ => rfl
@[simp] theorem x_aug {i : Nat} {o : Bop} {e : Ex} : exS P call lamc (.aug i o e) env C = augS P call lamc o i (env[i]?).join e env C := by
  rw [exS]
  cases (env[i]?).join with
  | none => rfl
  | some x =>
    cases x with
    | v d =>
      show R.st (evE P call lamc e env C) env _ = augV' o i d env (evE P call lamc e env C)
      cases evE P call lamc e env C with
      | ok y C => show (match (see C y).bind fun y => augV o d y with | none => _ | some z => _) = augO i env C ((see C y).bind fun y => augV o d y); cases (see C y).bind fun y => augV o d y <;> rfl
      | _ => rfl
    | r n =>
      show R.st (evE P call lamc e env C) env _ = augR' o i n env (evE P call lamc e env C)
      cases evE P call lamc e env C with
      | ok y C =>
        cases o with
        | add =>
          simp only [R.st, augR', augC]
          rcases cellAt C n with _ | c <;> rcases see C y with _ | d <;> first | rfl | (cases c <;> rfl) | (cases d <;> rfl) | (cases c <;> cases d <;> rfl)
        | _ => rfl
      | _ => rfl
    | _ => rfl
@[simp] theorem x_ife {c : Ex} {a b : Sms} : exS P call lamc (.ife c a b) env C = ifS P call lamc a b env (evE P call lamc c env C) := by
  rw [exS]; cases evE P call lamc c env C with
  | ok x C =>
    show (match truE C x with | none => _ | some true => _ | some false => _) = ifO P call lamc a b env C (truE C x)
    cases truE C x with
    | none => rfl
    | some b => cases b <;> rfl
  | _ => rfl
@[simp] theorem x_for {t : Tg} {it : It} {b : Sms} : exS P call lamc (.for t it b) env C = forS P call lamc t b env (evI P call lamc it env C) := by
  rw [exS]; cases evI P call lamc it env C <;> rfl
@[simp] theorem x_forL {i : Nat} {js : List Nat} {b : Sms} : exS P call lamc (.forL i js b) env C = lamG P call lamc i b js env C := nrfl rfl
@[simp] theorem lamG_nil {i : Nat} {b : Sms} : lamG P call lamc i b [] env C = .next env C := nrfl rfl
@[simp] theorem lamG_cons {i j : Nat} {js : List Nat} {b : Sms} : lamG P call lamc i b (j :: js) env C = lamTurn P call lamc i b js (exSs P call lamc b (env.set i (some (.clo j))) C) := by
  rw [lamG, forLam]
  unfold lamTurn
  cases exSs P call lamc b (env.set i (some (.clo j))) C <;> rfl
theorem forG_nil {t : Tg} {b : Sms} : forG P call lamc t b [] env C = .next env C := nrfl rfl
theorem forG_cons {t : Tg} {b : Sms} {d : D} {ds : List D} : forG P call lamc t b (d :: ds) env C = forA P call lamc t b ds C (asgT t d env) := by
  rw [forG, forL]
  cases asgT t d env with
  | none => rfl
  | some e => simp only [forA, forB]; cases exSs P call lamc b e C <;> rfl
@[simp] theorem x_setD {o k e : Ex} : exS P call lamc (.setD o k e) env C = setD1 P call lamc o k env (evE P call lamc e env C) := by
  rw [exS]; cases evE P call lamc e env C with
  | ok z C =>
    show R.st (evE P call lamc o env C) env _ = setD2 P call lamc k z env (evE P call lamc o env C)
    cases evE P call lamc o env C with
    | ok x C =>
      show R.st (evE P call lamc k env C) env _ = setD3 z x env (evE P call lamc k env C)
      cases evE P call lamc k env C with
      | ok y C =>
        show _ = setDE z x y env C
        cases x with
        | r n => cases z with
          | v z => cases y with
            | v y => show (match cellAt C n with | some (.dct kvs) => _ | _ => _) = setDO n z env C (.v y) (cellAt C n); cases cellAt C n with
              | none => rfl
              | some c => cases c <;> rfl
            | _ => simp only [setDE, setDO]; rfl
          | _ => cases y <;> rfl
        | _ => cases z <;> cases y <;> rfl
      | _ => rfl
    | _ => rfl
  | _ => rfl
@[simp] theorem x_setA {o e : Ex} {f : Nm} : exS P call lamc (.setA o f e) env C = setA1 P call lamc o f env (evE P call lamc e env C) := by
  rw [exS]; cases evE P call lamc e env C with
  | ok z C =>
    show R.st (evE P call lamc o env C) env _ = setA2 P f z env (evE P call lamc o env C)
    cases evE P call lamc o env C with
    | ok x C =>
      cases x with
      | r n =>
        show (match cellAt C n with | some (.ins c fs) => if fldOk P c f && fs.length < 100 then RS.next env (C.set n (some (.ins c (putF f z fs)))) else .bad | _ => .bad) = setAC P n f z env C (cellAt C n)
        rcases cellAt C n with _ | c
        · rfl
        · cases c <;> rfl
      | _ => rfl
    | _ => rfl
  | _ => rfl
@[simp] theorem x_setI {o i e : Ex} : exS P call lamc (.setI o i e) env C = setI1 P call lamc o i env (evE P call lamc e env C) := by
  rw [exS]; cases evE P call lamc e env C with
  | ok z C =>
    show R.st (evE P call lamc o env C) env _ = setI2 P call lamc i z env (evE P call lamc o env C)
    cases evE P call lamc o env C with
    | ok x C =>
      show R.st (evE P call lamc i env C) env _ = setI3 z x env (evE P call lamc i env C)
      cases evE P call lamc i env C with
      | ok y C =>
        cases x with
        | r n => cases y with
          | v d => cases d with
            | int k => cases z with
              | v z =>
                show (match cellAt C n with | some (.lst xs) => _ | _ => _) = setIO n k z env C (cellAt C n)
                rcases cellAt C n with _ | c
                · rfl
                · cases c with
                  | lst xs => show (match ixN xs.length k with | some j => _ | none => _) = setIJ n z env C xs (ixN xs.length k); cases ixN xs.length k <;> rfl
                  | _ => rfl
              | _ => rfl
            | _ => rfl
          | _ => rfl
        | _ => rfl
      | _ => rfl
    | _ => rfl
  | _ => rfl
@[simp] theorem x_augI {o i e : Ex} {op : Bop} : exS P call lamc (.augI o i op e) env C = augI1 P call lamc i op e env (evE P call lamc o env C) := by
  rw [exS]; cases evE P call lamc o env C with
  | ok x C =>
    show R.st (evE P call lamc i env C) env _ = augI2 P call lamc op e x env (evE P call lamc i env C)
    cases evE P call lamc i env C with
    | ok y C =>
      cases x with
      | r n => cases y with
        | v d => cases d with
          | int k =>
            show (match cellAt C n with | some (.lst xs) => _ | _ => _) = augIC P call lamc op e n k env C (cellAt C n)
            rcases cellAt C n with _ | c
            · rfl
            · cases c with
              | lst xs =>
                show (match atD xs k with | none => _ | some old => _) = augIA P call lamc op e n k env C (atD xs k)
                cases atD xs k with
                | none => rfl
                | some old =>
                  show R.st (evE P call lamc e env C) env _ = augI3 op n k old env (evE P call lamc e env C)
                  cases evE P call lamc e env C with
                  | ok z C =>
                    cases z with
                    | v z =>
                      show (match augV op old z, cellAt C n with | some w, some (.lst xs) => _ | _, _ => _) = augIW n k env C (augV op old z) (cellAt C n)
                      cases augV op old z with
                      | none => rfl
                      | some w =>
                        rcases cellAt C n with _ | c
                        · rfl
                        · cases c with
                          | lst xs => show (match ixN xs.length k with | some j => _ | none => _) = setIJ n w env C xs (ixN xs.length k); cases ixN xs.length k <;> rfl
                          | _ => rfl
                    | _ => rfl
                  | _ => rfl
              | _ => rfl
          | _ => rfl
        | _ => rfl
      | _ => rfl
    | _ => rfl
  | _ => rfl
@[simp] theorem setIJ_s {n j : Nat} {z : D} {xs : List D} : setIJ n z env C xs (some j) = .next env (C.set n (some (.lst (xs.set j z)))) := nrfl rfl
@[simp] theorem setIO_s {n : Nat} {k : Int} {z : D} {xs : List D} : setIO n k z env C (some (.lst xs)) = setIJ n z env C xs (ixN xs.length k) := nrfl rfl
@[simp] theorem setIE_s {n : Nat} {k : Int} {z : D} : setIE (.r n) (.v (.int k)) (.v z) env C = setIO n k z env C (cellAt C n) := nrfl rfl
@[simp] theorem setI3_ok {z x y : E} : setI3 z x env (.ok y C) = setIE x y z env C := nrfl rfl
@[simp] theorem setI2_ok {i : Ex} {z x : E} : setI2 P call lamc i z env (.ok x C) = setI3 z x env (evE P call lamc i env C) := nrfl rfl
@[simp] theorem setI1_ok {o i : Ex} {z : E} : setI1 P call lamc o i env (.ok z C) = setI2 P call lamc i z env (evE P call lamc o env C) := nrfl rfl
@[simp] theorem augIW_s {n : Nat} {k : Int} {w : D} {xs : List D} : augIW n k env C (some w) (some (.lst xs)) = setIJ n w env C xs (ixN xs.length k) := nrfl rfl
@[simp] theorem augIZ_v {op : Bop} {n : Nat} {k : Int} {old z : D} : augIZ op n k old (.v z) env C = augIW n k env C (augV op old z) (cellAt C n) := nrfl rfl
@[simp] theorem augI3_ok {op : Bop} {n : Nat} {k : Int} {old : D} {z : E} : augI3 op n k old env (.ok z C) = augIZ op n k old z env C := nrfl rfl
@[simp] theorem augIA_s {op : Bop} {e : Ex} {n : Nat} {k : Int} {old : D} : augIA P call lamc op e n k env C (some old) = augI3 op n k old env (evE P call lamc e env C) := nrfl rfl
@[simp] theorem augIC_s {op : Bop} {e : Ex} {n : Nat} {k : Int} {xs : List D} : augIC P call lamc op e n k env C (some (.lst xs)) = augIA P call lamc op e n k env C (atD xs k) := nrfl rfl
@[simp] theorem augIE_s {op : Bop} {e : Ex} {n : Nat} {k : Int} : augIE P call lamc op e (.r n) (.v (.int k)) env C = augIC P call lamc op e n k env C (cellAt C n) := nrfl rfl
@[simp] theorem augI2_ok {op : Bop} {e : Ex} {x y : E} : augI2 P call lamc op e x env (.ok y C) = augIE P call lamc op e x y env C := nrfl rfl
@[simp] theorem augI1_ok {i : Ex} {op : Bop} {e : Ex} {x : E} : augI1 P call lamc i op e env (.ok x C) = augI2 P call lamc op e x env (evE P call lamc i env C) := nrfl rfl
@[simp] theorem x_while {c : Ex} {b : Sms} : exS P call lamc (.while c b) env C = whG P call lamc c b P.most env C := by
  rw [exS]; rfl
theorem whG_succ {c : Ex} {b : Sms} {n : Nat} : whG P call lamc c b (n + 1) env C = whT P call lamc c b n env (cs1 (evE P call lamc c env C)) := by
  have e : truR (evE P call lamc c env C) = cs1 (evE P call lamc c env C) := by
    rw [truR, cs1]; congr 1; funext x C; cases truE C x <;> rfl
  rw [whG, whileL, e]
  cases cs1 (evE P call lamc c env C) with
  | ok t C =>
    cases t with
    | false => rfl
    | true => show (match exSs P call lamc b env C with | .next env C => _ | .ct env C => _ | .brk env C => _ | .ret e C => _ | .exc c fs env C => _ | .bad => _) = whB P call lamc c b n (exSs P call lamc b env C); cases exSs P call lamc b env C <;> rfl
  | _ => rfl
@[simp] theorem whT_t {c : Ex} {b : Sms} {n : Nat} : whT P call lamc c b n env (.ok true C) = whB P call lamc c b n (exSs P call lamc b env C) := nrfl rfl
@[simp] theorem whT_f {c : Ex} {b : Sms} {n : Nat} : whT P call lamc c b n env (.ok false C) = .next env C := nrfl rfl
@[simp] theorem whB_next {c : Ex} {b : Sms} {n : Nat} : whB P call lamc c b n (.next env C) = whG P call lamc c b n env C := nrfl rfl
@[simp] theorem whB_ct {c : Ex} {b : Sms} {n : Nat} : whB P call lamc c b n (.ct env C) = whG P call lamc c b n env C := nrfl rfl
@[simp] theorem whB_brk {c : Ex} {b : Sms} {n : Nat} : whB P call lamc c b n (.brk env C) = .next env C := nrfl rfl
@[simp] theorem whB_ret {c : Ex} {b : Sms} {n : Nat} {e : E} : whB P call lamc c b n (.ret e C) = .ret e C := nrfl rfl
@[simp] theorem whB_exc {c : Ex} {b : Sms} {n k : Nat} {fs : List (Nm × D)} : whB P call lamc c b n (.exc k fs env C) = .exc k fs env C := nrfl rfl
@[simp] theorem x_raise {c : Nat} {es : Es} : exS P call lamc (.raise c es) env C = raiS P c env (evEs P call lamc es env C) := by
  rw [exS]; cases evEs P call lamc es env C <;> rfl
@[simp] theorem x_try {b : Sms} {hs : Hs} : exS P call lamc (.try b hs) env C = tryS P call lamc hs (exSs P call lamc b env C) := by
  rw [exS]
  unfold tryS
  cases exSs P call lamc b env C <;> rfl
@[simp] theorem x_hnil {c : Nat} {fs : List (Nm × D)} : exH P call lamc .nil c fs env C = .exc c fs env C := nrfl rfl
@[simp] theorem x_hcons {d c : Nat} {as : Option Nat} {b : Sms} {r : Hs} {fs : List (Nm × D)} : exH P call lamc (.cons d as b r) c fs env C = hndB P call lamc as b r c fs env C (under P c d) := by
  simp only [exH]
  cases under P c d with
  | false => rfl
  | true =>
    cases as with
    | none => simp only [hndB, if_true, hnd] <;> cases exSs P call lamc b env C <;> rfl
    | some i => simp only [hndB, if_true, hnd] <;> cases exSs P call lamc b (env.set i (some (.exn c fs))) C <;> rfl
end
section
variable {P : Prog} {call : Nat → List E → Cells → R E} {lamc : Nat → Env → Cells → R E} {env : Env} {C C0 : Cells}
@[simp] theorem tup1_ok  {xs : List E} : tup1 (.ok xs C) = tupO C (vals xs) := nrfl rfl
@[simp] theorem tup1_x  {c : Nat} {fs : List (Nm × D)} : tup1 (.exc c fs C) = .exc c fs C := nrfl rfl
@[simp] theorem lst1_ok {m : Bool} {xs : List E} : lst1 m (.ok xs C) = lstO m C (vals xs) := nrfl rfl
@[simp] theorem lst1_x {m : Bool} {c : Nat} {fs : List (Nm × D)} : lst1 m (.exc c fs C) = .exc c fs C := nrfl rfl
@[simp] theorem bop2_ok {o : Bop} {x : E} {y : E} : bop2 o x (.ok y C) = okV C (bin (bopV o) (see C x) (see C y)) := nrfl rfl
@[simp] theorem bop2_x {o : Bop} {x : E} {c : Nat} {fs : List (Nm × D)} : bop2 o x (.exc c fs C) = .exc c fs C := nrfl rfl
@[simp] theorem bop1_ok {o : Bop} {b : Ex} {x : E} : bop1 P call lamc o b env (.ok x C) = bop2 o x (evE P call lamc b env C) := nrfl rfl
@[simp] theorem bop1_x {o : Bop} {b : Ex} {c : Nat} {fs : List (Nm × D)} : bop1 P call lamc o b env (.exc c fs C) = .exc c fs C := nrfl rfl
@[simp] theorem cmp2_ok {o : Cop} {x : E} {y : E} : cmp2 o x (.ok y C) = okB C (bin (copV o) (see C x) (see C y)) := nrfl rfl
@[simp] theorem cmp2_x {o : Cop} {x : E} {c : Nat} {fs : List (Nm × D)} : cmp2 o x (.exc c fs C) = .exc c fs C := nrfl rfl
@[simp] theorem cmp1_ok {o : Cop} {b : Ex} {x : E} : cmp1 P call lamc o b env (.ok x C) = cmp2 o x (evE P call lamc b env C) := nrfl rfl
@[simp] theorem cmp1_x {o : Cop} {b : Ex} {c : Nat} {fs : List (Nm × D)} : cmp1 P call lamc o b env (.exc c fs C) = .exc c fs C := nrfl rfl
@[simp] theorem chn2_ok {o o' : Cop} {c : Ex} {x : E} {y : E} : chn2 P call lamc o o' c env x (.ok y C) = chnO P call lamc o' c y env C (bin (copV o) (see C x) (see C y)) := nrfl rfl
@[simp] theorem chn2_x {o o' : Cop} {c : Ex} {x : E} {k : Nat} {fs : List (Nm × D)} : chn2 P call lamc o o' c env x (.exc k fs C) = .exc k fs C := nrfl rfl
@[simp] theorem chn1_ok {o o' : Cop} {b c : Ex} {x : E} : chn1 P call lamc o o' b c env (.ok x C) = chn2 P call lamc o o' c env x (evE P call lamc b env C) := nrfl rfl
@[simp] theorem chn1_x {o o' : Cop} {b c : Ex} {k : Nat} {fs : List (Nm × D)} : chn1 P call lamc o o' b c env (.exc k fs C) = .exc k fs C := nrfl rfl
@[simp] theorem isN1_ok {neg : Bool} {x : E} : isN1 neg (.ok x C) = .ok (.v (.bl (isNone neg x))) C := nrfl rfl
@[simp] theorem isN1_x {neg : Bool} {c : Nat} {fs : List (Nm × D)} : isN1 neg (.exc c fs C) = .exc c fs C := nrfl rfl
@[simp] theorem and1_ok {b : Ex} {x : E} : and1 P call lamc b env (.ok x C) = andO P call lamc b env x C (truE C x) := nrfl rfl
@[simp] theorem and1_x {b : Ex} {c : Nat} {fs : List (Nm × D)} : and1 P call lamc b env (.exc c fs C) = .exc c fs C := nrfl rfl
@[simp] theorem or1_ok {b : Ex} {x : E} : or1 P call lamc b env (.ok x C) = orO P call lamc b env x C (truE C x) := nrfl rfl
@[simp] theorem or1_x {b : Ex} {c : Nat} {fs : List (Nm × D)} : or1 P call lamc b env (.exc c fs C) = .exc c fs C := nrfl rfl
@[simp] theorem not1_ok  {x : E} : not1 (.ok x C) = notO C (truE C x) := nrfl rfl
@[simp] theorem not1_x  {c : Nat} {fs : List (Nm × D)} : not1 (.exc c fs C) = .exc c fs C := nrfl rfl
@[simp] theorem ite1_ok {a b : Ex} {x : E} : ite1 P call lamc a b env (.ok x C) = iteO P call lamc a b env C (truE C x) := nrfl rfl
@[simp] theorem ite1_x {a b : Ex} {c : Nat} {fs : List (Nm × D)} : ite1 P call lamc a b env (.exc c fs C) = .exc c fs C := nrfl rfl
@[simp] theorem idx2_ok {x : E} {y : E} : idx2 x (.ok y C) = okV C (bin idxV (see C x) (see C y)) := nrfl rfl
@[simp] theorem idx2_x {x : E} {c : Nat} {fs : List (Nm × D)} : idx2 x (.exc c fs C) = .exc c fs C := nrfl rfl
@[simp] theorem idx1_ok {b : Ex} {x : E} : idx1 P call lamc b env (.ok x C) = idx2 x (evE P call lamc b env C) := nrfl rfl
@[simp] theorem idx1_x {b : Ex} {c : Nat} {fs : List (Nm × D)} : idx1 P call lamc b env (.exc c fs C) = .exc c fs C := nrfl rfl
@[simp] theorem sl2_ok {hi : Eo} {x : E} {l : Option Int} : sl2 P call lamc hi env x (.ok l C) = sl3 x l (evO P call lamc hi env C) := nrfl rfl
@[simp] theorem sl2_x {hi : Eo} {x : E} {c : Nat} {fs : List (Nm × D)} : sl2 P call lamc hi env x (.exc c fs C) = .exc c fs C := nrfl rfl
@[simp] theorem sl1_ok {lo hi : Eo} {x : E} : sl1 P call lamc lo hi env (.ok x C) = sl2 P call lamc hi env x (evO P call lamc lo env C) := nrfl rfl
@[simp] theorem sl1_x {lo hi : Eo} {c : Nat} {fs : List (Nm × D)} : sl1 P call lamc lo hi env (.exc c fs C) = .exc c fs C := nrfl rfl
@[simp] theorem attr1_ok {f : Nm} {x : E} : attr1 P f (.ok x C) = okEO C (attrP P C f x) := nrfl rfl
@[simp] theorem attr1_x {f : Nm} {c : Nat} {fs : List (Nm × D)} : attr1 P f (.exc c fs C) = .exc c fs C := nrfl rfl
@[simp] theorem call1_ok {f : Nat} {xs : List E} : call1 call f (.ok xs C) = anyO call f xs C (vals xs) := nrfl rfl
@[simp] theorem call1_x {f : Nat} {c : Nat} {fs : List (Nm × D)} : call1 call f (.exc c fs C) = .exc c fs C := nrfl rfl
@[simp] theorem callP1_ok {f : Nat} {xs : List E} : callP1 call f (.ok xs C) = callPO call f C (vals xs) := nrfl rfl
@[simp] theorem callP1_x {f : Nat} {c : Nat} {fs : List (Nm × D)} : callP1 call f (.exc c fs C) = .exc c fs C := nrfl rfl
@[simp] theorem bi1_ok {b : Bi} {xs : List E} : bi1 b (.ok xs C) = biO b C (sees C xs) := nrfl rfl
@[simp] theorem bi1_x {b : Bi} {c : Nat} {fs : List (Nm × D)} : bi1 b (.exc c fs C) = .exc c fs C := nrfl rfl
@[simp] theorem isi1_ok {ts : List Ty} {x : E} : isi1 ts (.ok x C) = okB C (isiE C x ts) := nrfl rfl
@[simp] theorem isi1_x {ts : List Ty} {c : Nat} {fs : List (Nm × D)} : isi1 ts (.exc c fs C) = .exc c fs C := nrfl rfl
@[simp] theorem bm2_ok {m : Bm} {x : E} {xs : List E} : bm2 m x (.ok xs C) = bmO m C (see C x) (sees C xs) := nrfl rfl
@[simp] theorem bm2_x {m : Bm} {x : E} {c : Nat} {fs : List (Nm × D)} : bm2 m x (.exc c fs C) = .exc c fs C := nrfl rfl
@[simp] theorem bm1_ok {m : Bm} {es : Es} {x : E} : bm1 P call lamc m es env (.ok x C) = bmB P call lamc m es env x C (isLst C x) := nrfl rfl
@[simp] theorem bm1_x {m : Bm} {es : Es} {c : Nat} {fs : List (Nm × D)} : bm1 P call lamc m es env (.exc c fs C) = .exc c fs C := nrfl rfl
@[simp] theorem mm1_ok {m : Mm} {es : Es} {x : E} : mm1 P call lamc m es env (.ok x C) = mmB P call lamc m es env x C (isLst C x) := nrfl rfl
@[simp] theorem mm1_x {m : Mm} {es : Es} {c : Nat} {fs : List (Nm × D)} : mm1 P call lamc m es env (.exc c fs C) = .exc c fs C := nrfl rfl
@[simp] theorem comp1_ok {own : List Nat} {t : Tg} {ifs : Eo} {g : Gn} {ds : List D} {y : E} : comp1 P call lamc own t ifs g env (.ok (ds, y) C) = compE C y (genR P call lamc t ifs g (wipeE env own) ds (lock C y) []) := nrfl rfl
@[simp] theorem comp1_x {own : List Nat} {t : Tg} {ifs : Eo} {g : Gn} {c : Nat} {fs : List (Nm × D)} : comp1 P call lamc own t ifs g env (.exc c fs C) = .exc c fs C := nrfl rfl
@[simp] theorem genB_ok {t : Tg} {ifs : Eo} {g : Gn} {ds : List D} {a : List D} : genB P call lamc t ifs g env ds (.ok a C) = genR P call lamc t ifs g env ds C a := nrfl rfl
@[simp] theorem genB_x {t : Tg} {ifs : Eo} {g : Gn} {ds : List D} {c : Nat} {fs : List (Nm × D)} : genB P call lamc t ifs g env ds (.exc c fs C) = .exc c fs C := nrfl rfl
@[simp] theorem genW_ok {y : E} {a : List D} : genW C0 y (.ok a C) = .ok a (unlock C0 C y) := nrfl rfl
@[simp] theorem genW_x {y : E} {c : Nat} {fs : List (Nm × D)} : genW C0 y (.exc c fs C) = .exc c fs C := nrfl rfl
@[simp] theorem gen1_ok {t : Tg} {ifs : Eo} {g : Gn} {acc : List D} {ds : List D} {y : E} : gen1 P call lamc t ifs g env acc (.ok (ds, y) C) = genW C y (genR P call lamc t ifs g (wipeE env (tsl t ++ gsl g)) ds (lock C y) acc) := nrfl rfl
@[simp] theorem gen1_x {t : Tg} {ifs : Eo} {g : Gn} {acc : List D} {c : Nat} {fs : List (Nm × D)} : gen1 P call lamc t ifs g env acc (.exc c fs C) = .exc c fs C := nrfl rfl
@[simp] theorem cp1_ok  {x : E} : cp1 (.ok x C) = cpO C (see C x) := nrfl rfl
@[simp] theorem cp1_x  {c : Nat} {fs : List (Nm × D)} : cp1 (.exc c fs C) = .exc c fs C := nrfl rfl
@[simp] theorem frz1_ok  {x : E} : frz1 (.ok x C) = frzR C x := nrfl rfl
@[simp] theorem frz1_x  {c : Nat} {fs : List (Nm × D)} : frz1 (.exc c fs C) = .exc c fs C := nrfl rfl
@[simp] theorem cons2_ok {x : E} {xs : List E} : cons2 x (.ok xs C) = .ok (x :: xs) C := nrfl rfl
@[simp] theorem cons2_x {x : E} {c : Nat} {fs : List (Nm × D)} : cons2 x (.exc c fs C) = .exc c fs C := nrfl rfl
@[simp] theorem cons1_ok {es : Es} {x : E} : cons1 P call lamc es env (.ok x C) = cons2 x (evEs P call lamc es env C) := nrfl rfl
@[simp] theorem cons1_x {es : Es} {c : Nat} {fs : List (Nm × D)} : cons1 P call lamc es env (.exc c fs C) = .exc c fs C := nrfl rfl
@[simp] theorem star2_ok {ds : List D} {xs : List E} : star2 ds (.ok xs C) = .ok (ds.map .v ++ xs) C := nrfl rfl
@[simp] theorem star2_x {ds : List D} {c : Nat} {fs : List (Nm × D)} : star2 ds (.exc c fs C) = .exc c fs C := nrfl rfl
@[simp] theorem star1_ok {es : Es} {x : E} : star1 P call lamc es env (.ok x C) = starO P call lamc es env C (starD (see C x)) := nrfl rfl
@[simp] theorem star1_x {es : Es} {c : Nat} {fs : List (Nm × D)} : star1 P call lamc es env (.exc c fs C) = .exc c fs C := nrfl rfl
@[simp] theorem oint1_ok  {x : E} : oint1 (.ok x C) = oint x C := nrfl rfl
@[simp] theorem oint1_x  {c : Nat} {fs : List (Nm × D)} : oint1 (.exc c fs C) = .exc c fs C := nrfl rfl
@[simp] theorem cs1_ok  {x : E} : cs1 (.ok x C) = csO C (truE C x) := nrfl rfl
@[simp] theorem cs1_x  {c : Nat} {fs : List (Nm × D)} : cs1 (.exc c fs C) = .exc c fs C := nrfl rfl
@[simp] theorem seq1_ok  {x : E} : seq1 (.ok x C) = seqO x C ((see C x).bind seqD) := nrfl rfl
@[simp] theorem seq1_x  {c : Nat} {fs : List (Nm × D)} : seq1 (.exc c fs C) = .exc c fs C := nrfl rfl
@[simp] theorem rng1_ok  {x : E} : rng1 (.ok x C) = rng1E x C := nrfl rfl
@[simp] theorem rng1_x  {c : Nat} {fs : List (Nm × D)} : rng1 (.exc c fs C) = .exc c fs C := nrfl rfl
@[simp] theorem rng2b_ok {x : E} {y : E} : rng2b x (.ok y C) = rng2E x y C := nrfl rfl
@[simp] theorem rng2b_x {x : E} {c : Nat} {fs : List (Nm × D)} : rng2b x (.exc c fs C) = .exc c fs C := nrfl rfl
@[simp] theorem rng2a_ok {b : Ex} {x : E} : rng2a P call lamc b env (.ok x C) = rng2b x (evE P call lamc b env C) := nrfl rfl
@[simp] theorem rng2a_x {b : Ex} {c : Nat} {fs : List (Nm × D)} : rng2a P call lamc b env (.exc c fs C) = .exc c fs C := nrfl rfl
@[simp] theorem enum1_ok  {x : E} : enum1 (.ok x C) = enumO x C ((see C x).bind lsD) := nrfl rfl
@[simp] theorem enum1_x  {c : Nat} {fs : List (Nm × D)} : enum1 (.exc c fs C) = .exc c fs C := nrfl rfl
@[simp] theorem zip2_ok {x : E} {y : E} : zip2 x (.ok y C) = zipE C x y := nrfl rfl
@[simp] theorem zip2_x {x : E} {c : Nat} {fs : List (Nm × D)} : zip2 x (.exc c fs C) = .exc c fs C := nrfl rfl
@[simp] theorem zip1_ok {b : Ex} {x : E} : zip1 P call lamc b env (.ok x C) = zip2 x (evE P call lamc b env C) := nrfl rfl
@[simp] theorem zip1_x {b : Ex} {c : Nat} {fs : List (Nm × D)} : zip1 P call lamc b env (.exc c fs C) = .exc c fs C := nrfl rfl
@[simp] theorem sl3_v {d : D} {l h : Option Int} : sl3 (.v d) l (.ok h C) = okV C (slV d l h) := nrfl rfl
@[simp] theorem sl3_r {n : Nat} {l h : Option Int} : sl3 (.r n) l (.ok h C) = okV C (((cellAt C n).bind cellD).bind fun x => slV x l h) := nrfl rfl
@[simp] theorem mm2_r {m : Mm} {n : Nat} {xs : List E} : mm2 m (.r n) (.ok xs C) = mmO m n C (cellAt C n) (vals xs) := nrfl rfl
theorem push1_v {d : D} {acc : List D} : push1 acc (.ok (.v d) C) = if acc.length < 16777216 then .ok (acc ++ [d]) C else .bad := nrfl rfl
theorem push1_ok {d : D} {acc : List D} (h : acc.length < line) : push1 acc (.ok (.v d) C) = .ok (acc ++ [d]) C := by rw [push1_v]; exact if_pos h
@[simp] theorem stepG_t {r : Gn} {acc : List D} : stepG P call lamc r env acc (.ok true C) = evG P call lamc r env C acc := nrfl rfl
@[simp] theorem stepG_f {r : Gn} {acc : List D} : stepG P call lamc r env acc (.ok false C) = .ok acc C := nrfl rfl
@[simp] theorem compE_ok {y : E} {ds : List D} : compE C0 y (.ok ds C) = .ok (.v (.lst ds)) (unlock C0 C y) := nrfl rfl
@[simp] theorem tupO_s  {ds : List D} : tupO C (some ds) = if ds.length ≤ 16777216 then .ok (.v (.tup ds)) C else .bad := nrfl rfl
@[simp] theorem callPO_s {f : Nat} {ds : List D} : callPO call f C (some ds) = pureCall call f ds C := nrfl rfl
@[simp] theorem biO_s {b : Bi} {ds : List D} : biO b C (some ds) = okV C (biV b ds) := nrfl rfl
@[simp] theorem notO_s  {b : Bool} : notO C (some b) = .ok (.v (.bl (!b))) C := nrfl rfl
@[simp] theorem csO_s  {b : Bool} : csO C (some b) = .ok b C := nrfl rfl
@[simp] theorem okEO_s  {e : E} : okEO C (some e) = .ok e C := nrfl rfl
@[simp] theorem seqO_s {x : E} {ds : List D} : seqO x C (some ds) = .ok (ds, x) C := nrfl rfl
@[simp] theorem enumO_s {x : E} {ds : List D} : enumO x C (some ds) = .ok (enumD 0 ds, x) C := nrfl rfl
@[simp] theorem starO_s {es : Es} {ds : List D} : starO P call lamc es env C (some ds) = star2 ds (evEs P call lamc es env C) := nrfl rfl
@[simp] theorem genA_s {t : Tg} {ifs : Eo} {g : Gn} {ds acc : List D} {e : Env} : genA P call lamc t ifs g env ds C acc (some e) = genB P call lamc t ifs g env ds (stepG P call lamc g e acc (evC P call lamc ifs e C)) := nrfl rfl
@[simp] theorem asgO_s  {e : Env} : asgO C (some e) = .next e C := nrfl rfl
@[simp] theorem augO_s {i : Nat} {d : D} : augO i env C (some d) = .next (env.set i (some (.v d))) C := nrfl rfl
@[simp] theorem forA_s {t : Tg} {b : Sms} {ds : List D} {e : Env} : forA P call lamc t b ds C (some e) = forB P call lamc t b ds (exSs P call lamc b e C) := nrfl rfl
@[simp] theorem xfC_s {cl : Cl} {f : Nm} {fs : List (Nm × D)} : xfC (some cl) f fs C = if cl.exn && cl.flds.contains f then okV C (lookFD f fs) else .bad := nrfl rfl
@[simp] theorem lstO_sf {ds : List D} : lstO false C (some ds) = if ds.length ≤ 16777216 then .ok (.v (.lst ds)) C else .bad := nrfl rfl
@[simp] theorem lstO_st {ds : List D} : lstO true C (some ds) = if ds.length ≤ 16777216 then .ok (.r C.length) (C ++ [some (.lst ds)]) else .bad := nrfl rfl
@[simp] theorem andO_t {b : Ex} {x : E} : andO P call lamc b env x C (some true) = evE P call lamc b env C := nrfl rfl
@[simp] theorem andO_f {b : Ex} {x : E} : andO P call lamc b env x C (some false) = .ok x C := nrfl rfl
@[simp] theorem orO_t {b : Ex} {x : E} : orO P call lamc b env x C (some true) = .ok x C := nrfl rfl
@[simp] theorem orO_f {b : Ex} {x : E} : orO P call lamc b env x C (some false) = evE P call lamc b env C := nrfl rfl
@[simp] theorem iteO_t {a b : Ex} : iteO P call lamc a b env C (some true) = evE P call lamc a env C := nrfl rfl
@[simp] theorem iteO_f {a b : Ex} : iteO P call lamc a b env C (some false) = evE P call lamc b env C := nrfl rfl
@[simp] theorem chnO_t {o' : Cop} {c : Ex} {y : E} : chnO P call lamc o' c y env C (some true) = cmp2 o' y (evE P call lamc c env C) := nrfl rfl
@[simp] theorem chnO_f {o' : Cop} {c : Ex} {y : E} : chnO P call lamc o' c y env C (some false) = .ok (.v (.bl false)) C := nrfl rfl
@[simp] theorem ifO_t {a b : Sms} : ifO P call lamc a b env C (some true) = exSs P call lamc a env C := nrfl rfl
@[simp] theorem ifO_f {a b : Sms} : ifO P call lamc a b env C (some false) = exSs P call lamc b env C := nrfl rfl
@[simp] theorem bmO_s {m : Bm} {d : D} {ds : List D} : bmO m C (some d) (some ds) = okV C (bmV m d ds) := nrfl rfl
@[simp] theorem bmB_t {m : Bm} {es : Es} {x : E} : bmB P call lamc m es env x C true = bm2 m x (evEs P call lamc es env C) := nrfl rfl
@[simp] theorem mmB_t {m : Mm} {es : Es} {x : E} : mmB P call lamc m es env x C true = mm2 m x (evEs P call lamc es env C) := nrfl rfl
@[simp] theorem mmO_s {m : Mm} {n : Nat} {c : Cell} {ds : List D} : mmO m n C (some c) (some ds) = mmP n C (mmV m c ds) := nrfl rfl
@[simp] theorem mmP_s {n : Nat} {c : Cell} {d : D} : mmP n C (some (c, d)) = .ok (.v d) (C.set n (some c)) := nrfl rfl
@[simp] theorem xfR_exn {f : Nm} {c : Nat} {fs : List (Nm × D)} : xfR P f (some (.exn c fs)) C = xfC P.cls[c]? f fs C := nrfl rfl
@[simp] theorem cpO_l {xs : List D} : cpO C (some (.lst xs)) = .ok (.r C.length) (C ++ [some (.lst xs)]) := nrfl rfl
@[simp] theorem cpO_t {xs : List D} : cpO C (some (.tup xs)) = .ok (.r C.length) (C ++ [some (.lst xs)]) := nrfl rfl
@[simp] theorem frz_v {d : D} : frzR C (.v d) = .ok (.v d) C := nrfl rfl
theorem frz_rd {n : Nat} {kvs : List (D × D)} (h : cellAt C n = some (.dct kvs)) : frzR C (.r n) = .ok (.v (.dct kvs)) (C.set n none) := by rw [frzR, h]
theorem frz_r {n : Nat} {xs : List D} (h : cellAt C n = some (.lst xs)) : frzR C (.r n) = .ok (.v (.lst xs)) (C.set n none) := by rw [frzR, h]
@[simp] theorem dix1_ok {b : Ex} {x : E} : dix1 P call lamc b env (.ok x C) = dix2 x (evE P call lamc b env C) := nrfl rfl
@[simp] theorem dix2_ok {x y : E} : dix2 x (.ok y C) = okV C (bin dixV (see C x) (see C y)) := nrfl rfl
@[simp] theorem dgt1_ok {k d : Ex} {x : E} : dgt1 P call lamc k d env (.ok x C) = dgtB P call lamc k d env x C (isDct C x) := nrfl rfl
@[simp] theorem dgtB_t {k d : Ex} {x : E} : dgtB P call lamc k d env x C true = dgt2 P call lamc d env x (evE P call lamc k env C) := nrfl rfl
@[simp] theorem dgt2_ok {d : Ex} {x y : E} : dgt2 P call lamc d env x (.ok y C) = dgt3 x y (evE P call lamc d env C) := nrfl rfl
@[simp] theorem dgt3_ok {x y z : E} : dgt3 x y (.ok z C) = dgtO C (see C x) (see C y) z := nrfl rfl
@[simp] theorem dgtO_s {x y d : D} : dgtO C (some x) (some y) (.v d) = okV C (dgtV x y d) := nrfl rfl
@[simp] theorem dcm1_ok {own : List Nat} {t : Tg} {ifs : Eo} {k v : Ex} {ds : List D} {y : E} : dcm1 P call lamc own t ifs k v env (.ok (ds, y) C) = dcmE C y (genD P call lamc t ifs k v (wipeE env own) ds (lock C y) []) := nrfl rfl
@[simp] theorem dcmE_ok {w : E} {ds : List (D × D)} {C0 : Cells} : dcmE C0 w (.ok ds C) = .ok (.v (.dct ds)) (unlock C0 C w) := nrfl rfl
@[simp] theorem pkO_v {acc : List (D × D)} {k v : D} : pkO acc C (.v k) (.v v) = if keyB k && decide (acc.length < 16777216) then .ok (putKd k v acc) C else .bad := nrfl rfl
@[simp] theorem pk2_ok {x y : E} {acc : List (D × D)} : pk2 x acc (.ok y C) = pkO acc C x y := nrfl rfl
@[simp] theorem pk1_ok {v : Ex} {x : E} {acc : List (D × D)} : pk1 P call lamc v env acc (.ok x C) = pk2 x acc (evE P call lamc v env C) := nrfl rfl
@[simp] theorem pkS_ok {k v : Ex} {b : Bool} {acc : List (D × D)} : pkS P call lamc k v env acc (.ok b C) = if b then pk1 P call lamc v env acc (evE P call lamc k env C) else .ok acc C := nrfl rfl
@[simp] theorem genDB_ok {t : Tg} {ifs : Eo} {k v : Ex} {ds : List D} {a : List (D × D)} : genDB P call lamc t ifs k v env ds (.ok a C) = genD P call lamc t ifs k v env ds C a := nrfl rfl
@[simp] theorem genDA_s {t : Tg} {ifs : Eo} {k v : Ex} {ds : List D} {acc : List (D × D)} {e : Env} : genDA P call lamc t ifs k v env ds C acc (some e) = genDB P call lamc t ifs k v env ds (pkS P call lamc k v e acc (evC P call lamc ifs e C)) := nrfl rfl
@[simp] theorem gixO_s {s : Nm} {kvs : List (Nm × D)} : gixO C (.v (.str s)) (some kvs) = okV C (lookS s kvs) := nrfl rfl
@[simp] theorem gix1_ok {g : Nat} {y : E} : gix1 P g (.ok y C) = gixO C y P.gd[g]? := nrfl rfl
@[simp] theorem ginO_s {neg : Bool} {s : Nm} {kvs : List (Nm × D)} : ginO neg C (.v (.str s)) (some kvs) = .ok (.v (.bl ((lookS s kvs).isSome != neg))) C := nrfl rfl
@[simp] theorem gin1_ok {neg : Bool} {g : Nat} {y : E} : gin1 P neg g (.ok y C) = ginO neg C y P.gd[g]? := nrfl rfl
@[simp] theorem eqA_ok {neg : Bool} {b : Bool} : eqA neg (.ok (.v (.bl b)) C) = .ok (.v (.bl (b != neg))) C := nrfl rfl
@[simp] theorem eqiO_s {neg : Bool} {x y : E} {f : Nat} : eqiO call neg x y C (some f) = eqA neg (anyO call f [x, y] C (vals [x, y])) := nrfl rfl
@[simp] theorem eqi2_ok {neg : Bool} {x y : E} : eqi2 P call neg x (.ok y C) = eqiO call neg x y C (eqOf P C x y) := nrfl rfl
@[simp] theorem eqi1_ok {neg : Bool} {b : Ex} {x : E} : eqi1 P call lamc neg b env (.ok x C) = eqi2 P call neg x (evE P call lamc b env C) := nrfl rfl
@[simp] theorem eqi1_x {neg : Bool} {b : Ex} {c : Nat} {fs : List (Nm × D)} : eqi1 P call lamc neg b env (.exc c fs C) = .exc c fs C := nrfl rfl
@[simp] theorem eqi2_x {neg : Bool} {x : E} {c : Nat} {fs : List (Nm × D)} : eqi2 P call neg x (.exc c fs C) = .exc c fs C := nrfl rfl
@[simp] theorem setDO_s {n : Nat} {z k : D} {kvs : List (D × D)} : setDO n z env C (.v k) (some (.dct kvs)) = if keyB k && decide (kvs.length < 16777216) then .next env (C.set n (some (.dct (putKd k z kvs)))) else .bad := nrfl rfl
@[simp] theorem setDE_s {n : Nat} {z : D} {y : E} : setDE (.v z) (.r n) y env C = setDO n z env C y (cellAt C n) := nrfl rfl
@[simp] theorem setD3_ok {z x y : E} : setD3 z x env (.ok y C) = setDE z x y env C := nrfl rfl
@[simp] theorem setD2_ok {k : Ex} {z x : E} : setD2 P call lamc k z env (.ok x C) = setD3 z x env (evE P call lamc k env C) := nrfl rfl
@[simp] theorem setD1_ok {o k : Ex} {z : E} : setD1 P call lamc o k env (.ok z C) = setD2 P call lamc k z env (evE P call lamc o env C) := nrfl rfl
@[simp] theorem clR_clo {j : Nat} : clR lamc (some (.clo j)) env C = lamc j env C := nrfl rfl
@[simp] theorem starD_l {xs : List D} : starD (some (.lst xs)) = some xs := nrfl rfl
@[simp] theorem starD_t {xs : List D} : starD (some (.tup xs)) = some xs := nrfl rfl
@[simp] theorem oint_int {i : Int} : oint (.v (.int i)) C = .ok (some i) C := nrfl rfl
@[simp] theorem rng1E_int {j : Int} : rng1E (.v (.int j)) C = if rngOk j then .ok (rangeD 0 1 j.toNat, .v .non) C else .bad := nrfl rfl
@[simp] theorem rng2E_int {i j : Int} : rng2E (.v (.int i)) (.v (.int j)) C = if rngOk i && rngOk j then .ok (rangeD i 1 (j - i).toNat, .v .non) C else .bad := nrfl rfl
@[simp] theorem expS_ok  {x : E} : expS env (.ok x C) = .next env C := nrfl rfl
@[simp] theorem expS_x  {c' : Nat} {fs : List (Nm × D)} : expS env (.exc c' fs C) = .exc c' fs env C := nrfl rfl
@[simp] theorem retS_ok  {x : E} : retS env (.ok x C) = .ret x C := nrfl rfl
@[simp] theorem retS_x  {c' : Nat} {fs : List (Nm × D)} : retS env (.exc c' fs C) = .exc c' fs env C := nrfl rfl
@[simp] theorem asgS_ok {t : Tg} {x : E} : asgS t env (.ok x C) = asgO C (asgE t x env) := nrfl rfl
@[simp] theorem asgS_x {t : Tg} {c' : Nat} {fs : List (Nm × D)} : asgS t env (.exc c' fs C) = .exc c' fs env C := nrfl rfl
@[simp] theorem par2_ok {i j : Nat} {x : E} {y : E} : par2 i j x env (.ok y C) = .next ((env.set i (some x)).set j (some y)) C := nrfl rfl
@[simp] theorem par2_x {i j : Nat} {x : E} {c' : Nat} {fs : List (Nm × D)} : par2 i j x env (.exc c' fs C) = .exc c' fs env C := nrfl rfl
@[simp] theorem par1_ok {i j : Nat} {b : Ex} {x : E} : par1 P call lamc i j b env (.ok x C) = par2 i j x env (evE P call lamc b env C) := nrfl rfl
@[simp] theorem par1_x {i j : Nat} {b : Ex} {c' : Nat} {fs : List (Nm × D)} : par1 P call lamc i j b env (.exc c' fs C) = .exc c' fs env C := nrfl rfl
@[simp] theorem ifS_ok {a b : Sms} {x : E} : ifS P call lamc a b env (.ok x C) = ifO P call lamc a b env C (truE C x) := nrfl rfl
@[simp] theorem ifS_x {a b : Sms} {c' : Nat} {fs : List (Nm × D)} : ifS P call lamc a b env (.exc c' fs C) = .exc c' fs env C := nrfl rfl
@[simp] theorem forS_ok {t : Tg} {b : Sms} {ds : List D} {y : E} : forS P call lamc t b env (.ok (ds, y) C) = forU C y (forG P call lamc t b ds env (lock C y)) := nrfl rfl
@[simp] theorem forS_x {t : Tg} {b : Sms} {c' : Nat} {fs : List (Nm × D)} : forS P call lamc t b env (.exc c' fs C) = .exc c' fs env C := nrfl rfl
@[simp] theorem raiS_ok {c : Nat} {xs : List E} : raiS P c env (.ok xs C) = raiR P.cls[c]? c (vals xs) env C := nrfl rfl
@[simp] theorem raiS_x {c : Nat} {c' : Nat} {fs : List (Nm × D)} : raiS P c env (.exc c' fs C) = .exc c' fs env C := nrfl rfl
@[simp] theorem augV'_v {o : Bop} {i : Nat} {d y : D} : augV' o i d env (.ok (.v y) C) = augO i env C (augV o d y) := nrfl rfl
@[simp] theorem augV'_r {o : Bop} {i n : Nat} {d : D} : augV' o i d env (.ok (.r n) C) = augO i env C (((cellAt C n).bind cellD).bind fun y => augV o d y) := nrfl rfl
@[simp] theorem augV'_x {o : Bop} {i c : Nat} {d : D} {fs : List (Nm × D)} : augV' o i d env (.exc c fs C) = .exc c fs env C := nrfl rfl
@[simp] theorem augR'_ok {i n : Nat} {y : E} : augR' .add i n env (.ok y C) = augC i n env C (cellAt C n) (see C y) := nrfl rfl
@[simp] theorem augR'_x {i n c : Nat} {fs : List (Nm × D)} : augR' .add i n env (.exc c fs C) = .exc c fs env C := nrfl rfl
@[simp] theorem augC_s {i n : Nat} {xs ys : List D} : augC i n env C (some (.lst xs)) (some (.lst ys)) = if xs.length + ys.length ≤ 16777216 then .next (env.set i (some (.r n))) (C.set n (some (.lst (xs ++ ys)))) else .bad := nrfl rfl
@[simp] theorem augS_v {o : Bop} {i : Nat} {d : D} {e : Ex} : augS P call lamc o i (some (.v d)) e env C = augV' o i d env (evE P call lamc e env C) := nrfl rfl
@[simp] theorem augS_r {o : Bop} {i n : Nat} {e : Ex} : augS P call lamc o i (some (.r n)) e env C = augR' o i n env (evE P call lamc e env C) := nrfl rfl
@[simp] theorem raiR_s {cl : Cl} {c : Nat} {ds : List D} : raiR (some cl) c (some ds) env C = if ds.length = cl.flds.length then .exc c (cl.flds.zip ds) env C else .bad := nrfl rfl
@[simp] theorem seqR_next {r : Sms} : seqR P call lamc r (.next env C) = exSs P call lamc r env C := nrfl rfl
@[simp] theorem seqR_ct {r : Sms} : seqR P call lamc r (.ct env C) = .ct env C := nrfl rfl
@[simp] theorem seqR_brk {r : Sms} : seqR P call lamc r (.brk env C) = .brk env C := nrfl rfl
@[simp] theorem seqR_ret {r : Sms} {e : E} : seqR P call lamc r (.ret e C) = .ret e C := nrfl rfl
@[simp] theorem seqR_exc {r : Sms} {c : Nat} {fs : List (Nm × D)} : seqR P call lamc r (.exc c fs env C) = .exc c fs env C := nrfl rfl
@[simp] theorem forB_next {t : Tg} {b : Sms} {ds : List D} : forB P call lamc t b ds (.next env C) = forG P call lamc t b ds env C := nrfl rfl
@[simp] theorem forB_ct {t : Tg} {b : Sms} {ds : List D} : forB P call lamc t b ds (.ct env C) = forG P call lamc t b ds env C := nrfl rfl
@[simp] theorem forB_brk {t : Tg} {b : Sms} {ds : List D} : forB P call lamc t b ds (.brk env C) = .next env C := nrfl rfl
@[simp] theorem forB_ret {t : Tg} {b : Sms} {ds : List D} {e : E} : forB P call lamc t b ds (.ret e C) = .ret e C := nrfl rfl
@[simp] theorem forB_exc {t : Tg} {b : Sms} {ds : List D} {c : Nat} {fs : List (Nm × D)} : forB P call lamc t b ds (.exc c fs env C) = .exc c fs env C := nrfl rfl
@[simp] theorem lamTurn_next {i : Nat} {b : Sms} {js : List Nat} : lamTurn P call lamc i b js (.next env C) = lamG P call lamc i b js env C := nrfl rfl
@[simp] theorem lamTurn_ct {i : Nat} {b : Sms} {js : List Nat} : lamTurn P call lamc i b js (.ct env C) = lamG P call lamc i b js env C := nrfl rfl
@[simp] theorem lamTurn_brk {i : Nat} {b : Sms} {js : List Nat} : lamTurn P call lamc i b js (.brk env C) = .next env C := nrfl rfl
@[simp] theorem lamTurn_ret {i : Nat} {b : Sms} {js : List Nat} {e : E} : lamTurn P call lamc i b js (.ret e C) = .ret e C := nrfl rfl
@[simp] theorem lamTurn_exc {i : Nat} {b : Sms} {js : List Nat} {c : Nat} {fs : List (Nm × D)} : lamTurn P call lamc i b js (.exc c fs env C) = .exc c fs env C := nrfl rfl
@[simp] theorem tryS_next {hs : Hs} : tryS P call lamc hs (.next env C) = .next env C := nrfl rfl
@[simp] theorem tryS_ct {hs : Hs} : tryS P call lamc hs (.ct env C) = .ct env C := nrfl rfl
@[simp] theorem tryS_brk {hs : Hs} : tryS P call lamc hs (.brk env C) = .brk env C := nrfl rfl
@[simp] theorem tryS_ret {hs : Hs} {e : E} : tryS P call lamc hs (.ret e C) = .ret e C := nrfl rfl
@[simp] theorem tryS_exc {hs : Hs} {c : Nat} {fs : List (Nm × D)} : tryS P call lamc hs (.exc c fs env C) = exH P call lamc hs c fs env C := nrfl rfl
@[simp] theorem forU_v {d : D} {x : RS} : forU C0 (.v d) x = x := by cases x <;> rfl
@[simp] theorem forU_next {y e : E} {c : Nat} {fs : List (Nm × D)} : forU C0 y (.next env C) = .next env (unlock C0 C y) := nrfl rfl
@[simp] theorem forU_ret {y e : E} {c : Nat} {fs : List (Nm × D)} : forU C0 y (.ret e C) = .ret e (unlock C0 C y) := nrfl rfl
@[simp] theorem forU_exc {y e : E} {c : Nat} {fs : List (Nm × D)} : forU C0 y (.exc c fs env C) = .exc c fs env (unlock C0 C y) := nrfl rfl
@[simp] theorem hnd_ret {e : E} {o : Option Nat} : hnd o (.ret e C) = .ret e C := by cases o <;> rfl
@[simp] theorem hnd_nextN  : hnd none (.next env C) = .next env C := nrfl rfl
@[simp] theorem hnd_next {i : Nat} : hnd (some i) (.next env C) = if cleanE (env.set i none) then .next (env.set i none) C else .bad := nrfl rfl
@[simp] theorem hnd_ctN  : hnd none (.ct env C) = .ct env C := nrfl rfl
@[simp] theorem hnd_ct {i : Nat} : hnd (some i) (.ct env C) = if cleanE (env.set i none) then .ct (env.set i none) C else .bad := nrfl rfl
@[simp] theorem hnd_brkN  : hnd none (.brk env C) = .brk env C := nrfl rfl
@[simp] theorem hnd_brk {i : Nat} : hnd (some i) (.brk env C) = if cleanE (env.set i none) then .brk (env.set i none) C else .bad := nrfl rfl
@[simp] theorem hndB_tn {b : Sms} {r : Hs} {c : Nat} {fs : List (Nm × D)} : hndB P call lamc none b r c fs env C true = hnd none (exSs P call lamc b env C) := nrfl rfl
@[simp] theorem hndB_ts {i : Nat} {b : Sms} {r : Hs} {c : Nat} {fs : List (Nm × D)} : hndB P call lamc (some i) b r c fs env C true = hnd (some i) (exSs P call lamc b (env.set i (some (.exn c fs))) C) := nrfl rfl
@[simp] theorem hndB_f {o : Option Nat} {b : Sms} {r : Hs} {c : Nat} {fs : List (Nm × D)} : hndB P call lamc o b r c fs env C false = exH P call lamc r c fs env C := nrfl rfl
end
@[simp] theorem lock_v {C : Cells} {d : D} : lock C (.v d) = C := nrfl rfl
@[simp] theorem unlock_v {C0 C : Cells} {d : D} : unlock C0 C (.v d) = C := nrfl rfl

section
variable {env : Env} {C : Cells}
@[simp] theorem kd_non : K.d .non = .non := nrfl rfl
@[simp] theorem kd_bl {b : Bool} : K.d (.bl b) = .bl b := nrfl rfl
@[simp] theorem kd_int {i : Int} : K.d (.int i) = .int i := nrfl rfl
@[simp] theorem kd_str {s : Nm} : K.d (.str s) = .str s := nrfl rfl
@[simp] theorem vals_nil : vals [] = some [] := nrfl rfl
@[simp] theorem vals_cons {d : D} {r : List E} : vals (.v d :: r) = (vals r).map (d :: ·) := nrfl rfl
@[simp] theorem sees_nil : sees C [] = some [] := nrfl rfl
@[simp] theorem sees_v {d : D} {r : List E} : sees C (.v d :: r) = (sees C r).map (d :: ·) := nrfl rfl
@[simp] theorem sees_r {n : Nat} {r : List E} : sees C (.r n :: r) = ((cellAt C n).bind cellD).bind fun d => (sees C r).map (d :: ·) := nrfl rfl
@[simp] theorem asgE_nm {i : Nat} {e : E} : asgE (.nm i) e env = some (env.set i (some e)) := nrfl rfl
@[simp] theorem asgE_tup {ts : Tgs} {d : D} : asgE (.tup ts) (.v d) env = asgT (.tup ts) d env := nrfl rfl
@[simp] theorem asgT_nm {i : Nat} {d : D} : asgT (.nm i) d env = some (env.set i (some (.v d))) := nrfl rfl
@[simp] theorem asgT_tup {ts : Tgs} {xs : List D} : asgT (.tup ts) (.tup xs) env = asgTs ts xs env := nrfl rfl
@[simp] theorem asgT_lst {ts : Tgs} {xs : List D} : asgT (.tup ts) (.lst xs) env = asgTs ts xs env := nrfl rfl
@[simp] theorem asgTs_nil : asgTs .nil [] env = some env := nrfl rfl
@[simp] theorem asgTs_cons {t : Tg} {ts : Tgs} {x : D} {xs : List D} : asgTs (.cons t ts) (x :: xs) env = (asgT t x env).bind fun e => asgTs ts xs e := nrfl rfl
@[simp] theorem truV_non : truV .non = some false := nrfl rfl
@[simp] theorem truV_bl {b : Bool} : truV (.bl b) = some b := nrfl rfl
@[simp] theorem truV_int {i : Int} : truV (.int i) = some (i != 0) := nrfl rfl
@[simp] theorem truV_tup {xs : List D} : truV (.tup xs) = some (!xs.isEmpty) := nrfl rfl
@[simp] theorem truV_lst {xs : List D} : truV (.lst xs) = some (!xs.isEmpty) := nrfl rfl
@[simp] theorem truV_str {s : Nm} : truV (.str s) = if s.length ≤ 16777216 then some (!s.isEmpty) else none := nrfl rfl
@[simp] theorem startE_eq {n : Nat} {es : List E} : startE n es = es.map some ++ List.replicate (n - es.length) none := nrfl rfl
theorem line_eq' : line = 16777216 := nrfl rfl
end

section
variable {P : Prog} {call : Nat → List E → Cells → R E} {lamc : Nat → Env → Cells → R E} {env : Env} {C C0 : Cells}
@[simp] theorem anyO_s {f : Nat} {xs : List E} {ds : List D} : anyO call f xs C (some ds) = pureCall call f ds C := nrfl rfl
@[simp] theorem anyO_n {f : Nat} {xs : List E} : anyO call f xs C none = call f xs C := nrfl rfl
@[simp] theorem vals_r {n : Nat} {r : List E} : vals (.r n :: r) = none := nrfl rfl
@[simp] theorem met1_ok {m : Nm} {es : Es} {x : E} : met1 P call lamc m es env (.ok x C) = metO P call lamc es env x C (methOf P C m x) := nrfl rfl
@[simp] theorem met1_x {m : Nm} {es : Es} {k : Nat} {fs : List (Nm × D)} : met1 P call lamc m es env (.exc k fs C) = .exc k fs C := nrfl rfl
@[simp] theorem metO_s {es : Es} {x : E} {f : Nat} : metO P call lamc es env x C (some f) = met2 call f x (evEs P call lamc es env C) := nrfl rfl
@[simp] theorem met2_ok {f : Nat} {x : E} {xs : List E} : met2 call f x (.ok xs C) = anyO call f (x :: xs) C (vals (x :: xs)) := nrfl rfl
@[simp] theorem met2_x {f : Nat} {x : E} {k : Nat} {fs : List (Nm × D)} : met2 call f x (.exc k fs C) = .exc k fs C := nrfl rfl
@[simp] theorem new1_ok {c : Nat} {xs : List E} : new1 P call c (.ok xs C) = make P call c xs C := nrfl rfl
@[simp] theorem new1_x {c k : Nat} {fs : List (Nm × D)} : new1 P call c (.exc k fs C) = .exc k fs C := nrfl rfl
@[simp] theorem isc1_ok {c : Nat} {x : E} : isc1 P c (.ok x C) = okB C (iscE P C x c) := nrfl rfl
@[simp] theorem isc1_x {c k : Nat} {fs : List (Nm × D)} : isc1 P c (.exc k fs C) = .exc k fs C := nrfl rfl
@[simp] theorem neg1_v {d : D} : neg1 (.ok (.v d) C) = okV C (negV d) := nrfl rfl
@[simp] theorem rev1_v {d : D} : rev1 (.ok (.v d) C) = okV C (revV d) := nrfl rfl
@[simp] theorem rev1_r {n : Nat} : rev1 (.ok (.r n) C) = okV C (((cellAt C n).bind cellD).bind revV) := nrfl rfl
@[simp] theorem negV_i {i : Int} : negV (.int i) = some (.int (-i)) := nrfl rfl
@[simp] theorem revV_l {xs : List D} : revV (.lst xs) = some (.lst xs.reverse) := nrfl rfl
@[simp] theorem zipE_v {a b : D} : zipE C (.v a) (.v b) = zipO C (zipV a b) := nrfl rfl
@[simp] theorem zipO_s {ds : List D} : zipO C (some ds) = .ok (ds, .v .non) C := nrfl rfl
@[simp] theorem zipV_l {xs ys : List D} : zipV (.lst xs) (.lst ys) = some (zipD xs ys) := nrfl rfl
@[simp] theorem zipV_t {xs ys : List D} : zipV (.tup xs) (.tup ys) = some (zipD xs ys) := nrfl rfl
@[simp] theorem rng3a_ok {b : Ex} {s : Int} {x : E} : rng3a P call lamc b s env (.ok x C) = rng3b s x (evE P call lamc b env C) := nrfl rfl
@[simp] theorem rng3b_ok {s : Int} {x y : E} : rng3b s x (.ok y C) = rng3E s x y C := nrfl rfl
@[simp] theorem rng3E_int {s i j : Int} : rng3E s (.v (.int i)) (.v (.int j)) C = if rngOk i && rngOk j && decide (0 < s ∧ s < 1000000) then .ok (rangeD i s (cntR i j s), .v .non) C else .bad := nrfl rfl
@[simp] theorem setA1_ok {o : Ex} {f : Nm} {z : E} : setA1 P call lamc o f env (.ok z C) = setA2 P f z env (evE P call lamc o env C) := nrfl rfl
@[simp] theorem setA1_x {o : Ex} {f : Nm} {k : Nat} {fs : List (Nm × D)} : setA1 P call lamc o f env (.exc k fs C) = .exc k fs env C := nrfl rfl
@[simp] theorem setA2_r {f : Nm} {z : E} {n : Nat} : setA2 P f z env (.ok (.r n) C) = setAC P n f z env C (cellAt C n) := nrfl rfl
@[simp] theorem setAC_i {n c : Nat} {f : Nm} {z : E} {fs : List (Nm × E)} : setAC P n f z env C (some (.ins c fs)) = if fldOk P c f && fs.length < 100 then .next env (C.set n (some (.ins c (putF f z fs)))) else .bad := nrfl rfl
end
/-- what a body's end leaves -/
def endB (C0 : Cells) (r : RS) : R E := match r with
    | .next _ C' => leave C0.length (.v .non) C'
    | .ret e C' => leave C0.length e C'
    | .exc c fs _ C' => if lowC C0.length (C'.take C0.length) then .exc c fs (C'.take C0.length) else .exc c fs C'
    | _ => .bad
def lamP (P : Prog) (call : Nat → List E → Cells → R E) : Nat → Env → Cells → R E := fun j env C => match P.lams[j]? with
        | none => .bad
        | some e => evE P call (fun _ _ _ => .bad) e env C
def lamO (P : Prog) (call : Nat → List E → Cells → R E) (env : Env) (C : Cells) (o : Option Ex) : R E := match o with
  | some e => evE P call (fun _ _ _ => .bad) e env C
  | none => .bad
@[simp] theorem lamP_eq {P : Prog} {call : Nat → List E → Cells → R E} {j : Nat} {env : Env} {C : Cells} : lamP P call j env C = lamO P call env C P.lams[j]? := by
  rw [lamP]
  cases P.lams[j]? <;> rfl
@[simp] theorem lamO_s {P : Prog} {call : Nat → List E → Cells → R E} {e : Ex} {env : Env} {C : Cells} : lamO P call env C (some e) = evE P call (fun _ _ _ => .bad) e env C := nrfl rfl
theorem x_body {P : Prog} {call : Nat → List E → Cells → R E} {fn : Fn} {es : List E} {C : Cells} (h : es.length = fn.ps) : body P call fn es C = endB C (exSs P call (lamP P call) fn.body (startE fn.ns es) C) := by
  rw [body, if_pos h]
  rfl
@[simp] theorem endB_nr {d : D} {C : Cells} : endB [] (.ret (.v d) C) = .ok (.v d) [] := by simp [endB, leave, lowC]
@[simp] theorem endB_nn {env : Env} {C : Cells} : endB [] (.next env C) = .ok (.v .non) [] := by simp [endB, leave, lowC]
@[simp] theorem endB_nx {c : Nat} {fs : List (Nm × D)} {env : Env} {C : Cells} : endB [] (.exc c fs env C) = .exc c fs [] := by simp [endB, lowC]
theorem pure_ok {call : Nat → List E → Cells → R E} {f : Nat} {ds : List D} {d : D} {C C' : Cells} (h : call f (ds.map .v) [] = .ok (.v d) C') : pureCall call f ds C = .ok (.v d) C := by unfold pureCall; rw [h]
theorem pure_exc {call : Nat → List E → Cells → R E} {f : Nat} {ds : List D} {c : Nat} {fs : List (Nm × D)} {C C' : Cells} (h : call f (ds.map .v) [] = .exc c fs C') : pureCall call f ds C = .exc c fs C := by unfold pureCall; rw [h]
/-- a slot holds no caught exception -/
def nx : Option E → Bool
  | some (.exn _ _) => false
  | _ => true
@[simp] theorem nx_v {d : D} : nx (some (.v d)) = true := nrfl rfl
@[simp] theorem nx_r {n : Nat} : nx (some (.r n)) = true := nrfl rfl
@[simp] theorem nx_c {n : Nat} : nx (some (.clo n)) = true := nrfl rfl
@[simp] theorem nx_n : nx none = true := nrfl rfl
@[simp] theorem cleanE_nil : cleanE [] = true := nrfl rfl
@[simp] theorem cleanE_cons {x : Option E} {env : Env} : cleanE (x :: env) = (nx x && cleanE env) := by
  rw [cleanE, List.all_cons]
  cases x with
  | none => rfl
  | some e => cases e <;> rfl
@[simp] theorem vals_app (r : List E) : ∀ ds : List D, vals (ds.map .v ++ r) = (vals r).map (ds ++ ·)
  | [] => by simp
  | d :: ds => by simp [vals_app r ds]; cases vals r <;> simp
@[simp] theorem vals_appf {α : Type} (f : α → D) (r : List E) : ∀ xs : List α, vals (xs.map (E.v ∘ f) ++ r) = (vals r).map (xs.map f ++ ·)
  | [] => by simp
  | d :: ds => by simp [vals_appf f r ds]; cases vals r <;> simp
@[simp] theorem vals_map : ∀ ds : List D, vals (ds.map .v) = some ds
  | [] => nrfl rfl
  | d :: ds => by simp [vals_map ds]
@[simp] theorem vals_mapf {α : Type} (f : α → D) : ∀ xs : List α, vals (xs.map (E.v ∘ f)) = some (xs.map f)
  | [] => nrfl rfl
  | d :: ds => by simp [vals_mapf f ds]
end Ev

end

section
set_option maxRecDepth 512
set_option autoImplicit false
set_option linter.all false
namespace Ev
section
variable {P : Prog} {call : Nat → List E → Cells → R E} {lamc : Nat → Env → Cells → R E}
theorem stepG_b {r : Gn} {env : Env} {acc : List D} {b : Bool} {C : Cells} : stepG P call lamc r env acc (.ok b C) = if b then evG P call lamc r env C acc else .ok acc C := nrfl rfl
theorem genR_flat {α : Type} {t : Tg} {ifs : Eo} {r : Gn} {env : Env} {C : Cells} (en : α → D) (g : α → List D) :
    ∀ (xs : List α) (acc : List D), (∀ x ∈ xs, ∀ acc : List D, acc.length + (g x).length ≤ line → ∃ e, asgT t (en x) env = some e ∧ stepG P call lamc r e acc (evC P call lamc ifs e C) = .ok (acc ++ g x) C) →
      acc.length + (xs.flatMap g).length ≤ line → genR P call lamc t ifs r env (xs.map en) C acc = .ok (acc ++ xs.flatMap g) C
  | [], acc, _, _ => by simp [genR_nil]
  | x :: xs, acc, h, hl => by
    simp only [List.flatMap_cons, List.length_append] at hl
    obtain ⟨e, h1, h2⟩ := h x (List.mem_cons_self ..) acc (by omega)
    simp only [List.map_cons, genR_cons, h1, genA_s, h2, genB_ok]
    rw [genR_flat en g xs _ (fun y hy => h y (List.mem_cons_of_mem _ hy)) (by simp only [List.length_append]; omega)]
    simp
theorem flat_if {α β : Type} (c : α → Bool) (f : α → β) : ∀ xs : List α, (xs.flatMap fun x => if c x then [f x] else []) = (xs.filter c).map f
  | [] => rfl
  | x :: xs => by
    rw [List.flatMap_cons, flat_if c f xs]
    cases h : c x <;> simp [List.filter_cons, h]
theorem genR_filter {α : Type} {t : Tg} {ifs : Eo} {r : Gn} {env : Env} {C : Cells} (en : α → D) (c : α → Bool) (f : α → D) (xs : List α)
    (h : ∀ x ∈ xs, ∀ acc : List D, acc.length < line → ∃ e, asgT t (en x) env = some e ∧ stepG P call lamc r e acc (evC P call lamc ifs e C) = .ok (if c x then acc ++ [f x] else acc) C)
    (hl : xs.length < line) : genR P call lamc t ifs r env (xs.map en) C [] = .ok ((xs.filter c).map f) C := by
  have hh : ∀ (xs : List α) (acc : List D), (∀ x ∈ xs, ∀ acc : List D, acc.length < line → ∃ e, asgT t (en x) env = some e ∧ stepG P call lamc r e acc (evC P call lamc ifs e C) = .ok (if c x then acc ++ [f x] else acc) C) →
      acc.length + xs.length < line → genR P call lamc t ifs r env (xs.map en) C acc = .ok (acc ++ (xs.filter c).map f) C := by
    intro xs
    induction xs with
    | nil => intro acc _ _; simp [genR_nil]
    | cons x xs ih =>
      intro acc h hl
      simp only [List.length_cons] at hl
      obtain ⟨e, h1, h2⟩ := h x (List.mem_cons_self ..) acc (by omega)
      simp only [List.map_cons, genR_cons, h1, genA_s, h2, genB_ok]
      rw [ih _ (fun y hy => h y (List.mem_cons_of_mem _ hy)) (by cases c x <;> simp <;> omega)]
      cases hc : c x <;> simp [List.filter_cons, hc]
  have := hh xs [] h (by simpa using hl)
  simpa using this
theorem genR_map {α : Type} {t : Tg} {ifs : Eo} {r : Gn} {env : Env} {C : Cells} (en : α → D) (f : α → D) (xs : List α)
    (h : ∀ x ∈ xs, ∀ acc : List D, acc.length < line → ∃ e, asgT t (en x) env = some e ∧ stepG P call lamc r e acc (evC P call lamc ifs e C) = .ok (acc ++ [f x]) C)
    (hl : xs.length < line) : genR P call lamc t ifs r env (xs.map en) C [] = .ok (xs.map f) C := by
  have := genR_filter (P := P) (call := call) (lamc := lamc) (t := t) (ifs := ifs) (r := r) (env := env) (C := C) en (fun _ => true) f xs (fun x hx acc ha => by simpa using h x hx acc ha) hl
  rwa [List.filter_eq_self.2 (by simp)] at this
theorem bools_map {α : Type} (c : α → Bool) : ∀ xs : List α, bools (xs.map fun x => .bl (c x)) = some (xs.map c)
  | [] => rfl
  | x :: xs => by simp [bools, bools_map c xs]
theorem any_map {α : Type} (c : α → Bool) (xs : List α) : biV .any [.lst (xs.map fun x => .bl (c x))] = some (.bl (xs.any c)) := by
  simp [biV, bools_map, List.any_map]
theorem all_map {α : Type} (c : α → Bool) (xs : List α) : biV .all [.lst (xs.map fun x => .bl (c x))] = some (.bl (xs.all c)) := by
  simp [biV, bools_map, List.all_map]
/-- a loop that keeps something -/
theorem forG_keep {t : Tg} {b : Sms} (I : Env → Cells → Prop) : ∀ (ds : List D) (env : Env) (C : Cells),
    (∀ x ∈ ds, ∀ env C, I env C → ∃ e, asgT t x env = some e ∧ ∃ env' C', (exSs P call lamc b e C = .next env' C' ∨ exSs P call lamc b e C = .ct env' C') ∧ I env' C') → I env C →
      ∃ env' C', forG P call lamc t b ds env C = .next env' C' ∧ I env' C'
  | [], env, C, _, h0 => ⟨env, C, rfl, h0⟩
  | x :: ds, env, C, h, h0 => by
    obtain ⟨e, h1, env', C', h2, h3⟩ := h x (List.mem_cons_self ..) env C h0
    obtain ⟨env2, C2, h4, h5⟩ := forG_keep I ds env' C' (fun y hy => h y (List.mem_cons_of_mem _ hy)) h3
    refine ⟨env2, C2, ?_, h5⟩
    rw [forG_cons, h1, forA_s]
    rcases h2 with h2 | h2 <;> rw [h2]
    · rw [forB_next]; exact h4
    · rw [forB_ct]; exact h4
/-- .. of what was walked -/
theorem forG_pre {t : Tg} {b : Sms} (ds : List D) (I : List D → Env → Cells → Prop) (h : ∀ pre x post env C, ds = pre ++ x :: post → I pre env C → ∃ e, asgT t x env = some e ∧ ∃ env' C', (exSs P call lamc b e C = .next env' C' ∨ exSs P call lamc b e C = .ct env' C') ∧ I (pre ++ [x]) env' C')
    {env : Env} {C : Cells} (h0 : I [] env C) : ∃ env' C', forG P call lamc t b ds env C = .next env' C' ∧ I ds env' C' := by
  have key : ∀ (post pre : List D) (env : Env) (C : Cells), ds = pre ++ post → I pre env C → ∃ env' C', forG P call lamc t b post env C = .next env' C' ∧ I ds env' C' := by
    intro post
    induction post with
    | nil => intro pre env C e hI; simp at e; subst e; exact ⟨env, C, rfl, hI⟩
    | cons x post ih =>
      intro pre env C e hI
      obtain ⟨e1, h1, env', C', h2, h3⟩ := h pre x post env C e hI
      obtain ⟨env2, C2, h4, h5⟩ := ih (pre ++ [x]) env' C' (by rw [e]; simp) h3
      refine ⟨env2, C2, ?_, h5⟩
      rw [forG_cons, h1, forA_s]
      rcases h2 with h2 | h2 <;> rw [h2]
      · rw [forB_next]; exact h4
      · rw [forB_ct]; exact h4
  exact key ds [] env C (by simp) h0
/-- goes on, with I kept -/
def Kept (I : Env → Cells → Prop) (r : RS) : Prop := ∃ env' C', (r = .next env' C' ∨ r = .ct env' C') ∧ I env' C'
theorem Kept.next {I : Env → Cells → Prop} {env : Env} {C : Cells} (h : I env C) : Kept I (.next env C) := ⟨env, C, .inl rfl, h⟩
theorem Kept.ct {I : Env → Cells → Prop} {env : Env} {C : Cells} (h : I env C) : Kept I (.ct env C) := ⟨env, C, .inr rfl, h⟩
/-- a loop that keeps something, and what follows it -/
theorem for_then (φ : RS → Prop) (I : Env → Cells → Prop) {t : Tg} {b r : Sms} {ds : List D} {env : Env} {C : Cells} (h0 : I env C)
    (h : ∀ x ∈ ds, ∀ env C, I env C → ∃ e, asgT t x env = some e ∧ Kept I (exSs P call lamc b e C))
    (k : ∀ env C, I env C → φ (exSs P call lamc r env C)) : φ (seqR P call lamc r (forG P call lamc t b ds env C)) := by
  obtain ⟨env', C', h1, h2⟩ := forG_keep I ds env C h h0
  rw [h1, seqR_next]
  exact k env' C' h2
theorem for_pre (φ : RS → Prop) {t : Tg} {b r : Sms} {ds : List D} (I : List D → Env → Cells → Prop) {env : Env} {C : Cells} (h0 : I [] env C)
    (h : ∀ pre x post env C, ds = pre ++ x :: post → I pre env C → ∃ e, asgT t x env = some e ∧ Kept (I (pre ++ [x])) (exSs P call lamc b e C))
    (k : ∀ env C, I ds env C → φ (exSs P call lamc r env C)) : φ (seqR P call lamc r (forG P call lamc t b ds env C)) := by
  obtain ⟨env', C', h1, h2⟩ := forG_pre ds I h h0
  rw [h1, seqR_next]
  exact k env' C' h2
/-- .. over a row that is told by other things -/
theorem forG_preM {α : Type} (en : α → D) {t : Tg} {b : Sms} (xs : List α) (I : List α → Env → Cells → Prop) (h : ∀ pre x post env C, xs = pre ++ x :: post → I pre env C → ∃ e, asgT t (en x) env = some e ∧ Kept (I (pre ++ [x])) (exSs P call lamc b e C)) :
    ∀ (post pre : List α) (env : Env) (C : Cells), xs = pre ++ post → I pre env C → ∃ env' C', forG P call lamc t b (post.map en) env C = .next env' C' ∧ I xs env' C' := by
  intro post
  induction post with
  | nil => intro pre env C e hI; simp at e; subst e; exact ⟨env, C, rfl, hI⟩
  | cons x post ih =>
    intro pre env C e hI
    obtain ⟨e1, h1, env', C', h2, h3⟩ := h pre x post env C e hI
    obtain ⟨env2, C2, h4, h5⟩ := ih (pre ++ [x]) env' C' (by rw [e]; simp) h3
    refine ⟨env2, C2, ?_, h5⟩
    rw [List.map_cons, forG_cons, h1, forA_s]
    rcases h2 with h2 | h2 <;> rw [h2]
    · rw [forB_next]; exact h4
    · rw [forB_ct]; exact h4
theorem for_preM {α : Type} (φ : RS → Prop) (en : α → D) {t : Tg} {b r : Sms} {xs : List α} (I : List α → Env → Cells → Prop) {env : Env} {C : Cells} (h0 : I [] env C)
    (h : ∀ pre x post env C, xs = pre ++ x :: post → I pre env C → ∃ e, asgT t (en x) env = some e ∧ Kept (I (pre ++ [x])) (exSs P call lamc b e C))
    (k : ∀ env C, I xs env C → φ (exSs P call lamc r env C)) : φ (seqR P call lamc r (forG P call lamc t b (xs.map en) env C)) := by
  obtain ⟨env', C', h1, h2⟩ := forG_preM en xs I h xs [] env C rfl h0
  rw [h1, seqR_next]
  exact k env' C' h2
/-- slots as f says, the others open; the cells as P says -/
def slotsOf (env : Env) : Nat → Option E := fun (i : Nat) => (env[i]?).join
structure Pat (f : (Nat → Option E) → Env) (P : Cells → Prop) (env : Env) (C : Cells) : Prop where
  e : env = f (slotsOf env)
  n : cleanE env = true
  c : P C
/-- the loop over a row, slots told by a pattern -/
theorem for_pat (φ : RS → Prop) (f : (Nat → Option E) → Env) (Pc : Cells → Prop) {t : Tg} {b r : Sms} {ds : List D} {env : Env} {C : Cells} (h0 : Pat f Pc env C)
    (h : ∀ x ∈ ds, ∀ o C, cleanE (f o) = true → Pc C → ∃ e, asgT t x (f o) = some e ∧ Kept (Pat f Pc) (exSs P call lamc b e C))
    (k : ∀ o C, cleanE (f o) = true → Pc C → φ (exSs P call lamc r (f o) C)) : φ (seqR P call lamc r (forG P call lamc t b ds env C)) := by
  refine for_then φ (Pat f Pc) h0 (fun x hx env C hI => ?_) fun env C hI => ?_
  · have e := hI.e
    have n := hI.n
    generalize slotsOf env = o at e
    subst e
    exact h x hx o C n hI.c
  · have e := hI.e
    have n := hI.n
    generalize slotsOf env = o at e
    subst e
    exact k o C n hI.c
/-- the statement returns True -/
def Yes (r : RS) : Prop := ∃ C, r = .ret (.v (.bl true)) C
theorem Yes.ret {C : Cells} : Yes (.ret (.v (.bl true)) C) := ⟨C, rfl⟩
theorem Yes.end {r : RS} (h : Yes r) : endB [] r = .ok (.v (.bl true)) [] := by
  obtain ⟨C, rfl⟩ := h
  exact endB_nr
theorem Yes.body {fn : Fn} {es : List E} (hl : es.length = fn.ps) (h : Yes (exSs P call (lamP P call) fn.body (startE fn.ns es) [])) : ∃ C', body P call fn es [] = .ok (.v (.bl true)) C' :=
  ⟨[], by rw [x_body hl, h.end]⟩
end
theorem b_add {i j : Int} : bopV .add (.int i) (.int j) = some (.int (i + j)) := nrfl rfl
theorem b_cat {x y : List D} (h : x.length + y.length ≤ 16777216) : bopV .add (.lst x) (.lst y) = some (.lst (x ++ y)) := by rw [show bopV .add (.lst x) (.lst y) = if x.length + y.length ≤ 16777216 then some (.lst (x ++ y)) else none from rfl, if_pos h]
theorem b_sub {i j : Int} : bopV .sub (.int i) (.int j) = some (.int (i - j)) := nrfl rfl
theorem b_mod {i j : Int} (h : 0 < j) : bopV .mod (.int i) (.int j) = some (.int (i % j)) := by simp [bopV, h]
theorem b_fdiv {i j : Int} (h : 0 < j) (h' : j < 1073741824) : bopV .fdiv (.int i) (.int j) = some (.int (i / j)) := by simp [bopV, h, h']
theorem b_mul {i j : Int} (h : smallI j = true) : bopV .mul (.int i) (.int j) = some (.int (i * j)) := by simp [bopV, h]
theorem b_mul' {i j : Int} (h : smallI i = true) : bopV .mul (.int i) (.int j) = some (.int (i * j)) := by simp [bopV, h]
theorem c_lt {i j : Int} : copV .lt (.int i) (.int j) = some (decide (i < j)) := nrfl rfl
theorem c_gt {i j : Int} : copV .gt (.int i) (.int j) = some (decide (j < i)) := nrfl rfl
theorem c_le {i j : Int} : copV .le (.int i) (.int j) = some (decide (i ≤ j)) := nrfl rfl
theorem c_ge {i j : Int} : copV .ge (.int i) (.int j) = some (decide (j ≤ i)) := nrfl rfl
theorem c_eq {i j : Int} : copV .eq (.int i) (.int j) = some (decide (i = j)) := by simp [copV, shp, pd, dep, eqD]; rfl
theorem c_ne {i j : Int} : copV .ne (.int i) (.int j) = some (!decide (i = j)) := by simp [copV, shp, pd, dep, eqD]; rfl
theorem i_int {i : Int} : biV .int [.int i] = some (.int i) := nrfl rfl
theorem l_lst {xs : List D} : biV .len [.lst xs] = some (.int xs.length) := nrfl rfl
theorem l_tup {xs : List D} : biV .len [.tup xs] = some (.int xs.length) := nrfl rfl
theorem copV_eq {x y : D} (hx : shp x = true) (hy : shp y = true) : copV .eq x y = some (eqD x y) := by simp [copV, hx, hy]
theorem copV_ne {x y : D} (hx : shp x = true) (hy : shp y = true) : copV .ne x y = some (!eqD x y) := by simp [copV, hx, hy]
end Ev

end

section
set_option maxRecDepth 512
namespace K05
open Ev
def b_is_row : Sms := (.cons (.ret (.isi (.slot 0) [.list, .tuple])) .nil)
def b_is_number : Sms := (.cons (.ret (.and (.isi (.slot 0) [.int]) (.and (.not (.isi (.slot 0) [.bool])) (.one (.cmp .ge (.slot 0) (.cst (.int 0))))))) .nil)
def b_is_below : Sms := (.cons (.ret (.and (.call 1 (.cons (.slot 0) .nil)) (.one (.cmp .lt (.slot 0) (.slot 1))))) .nil)
def b_is_name : Sms := (.cons (.ife (.or (.not (.isi (.slot 0) [.str])) (.or (.not (.cmp2 .le .le (.cst (.int 1)) (.bi .len (.cons (.slot 0) .nil)) (.cst (.int 8)))) (.one (.cmp .notin (.idx (.slot 0) (.cst (.int 0))) (.glob 0))))) (.cons (.ret (.cst (.bl false))) .nil) .nil) (.cons (.ife (.cmp .isin (.slot 0) (.tup (.cons (.cst (.str [121, 101, 115])) (.cons (.cst (.str [110, 111])) .nil)))) (.cons (.ret (.cst (.bl false))) .nil) .nil) (.cons (.ret (.bi .all (.cons (.comp [1] (.nm 1) (.seq (.slot 0)) .none (.elt (.or (.cmp .isin (.slot 1) (.glob 0)) (.one (.cmp .isin (.slot 1) (.glob 1)))))) .nil))) .nil)))
def b_check_kind : Sms := (.cons (.exp (.call 5 (.cons (.slot 0) (.cons (.glob 2) .nil)))) .nil)
def b_check_part_kinds : Sms := (.cons (.ife (.and (.isi (.slot 0) [.str]) (.one (.cmp .isin (.slot 0) (.glob 3)))) (.cons .retN .nil) .nil) (.cons (.ife (.or (.cmp .eq (.slot 1) (.cst (.int 0))) (.or (.not (.call 0 (.cons (.slot 0) .nil))) (.or (.cmp .ne (.bi .len (.cons (.slot 0) .nil)) (.cst (.int 3))) (.one (.cmp .notin (.idx (.slot 0) (.cst (.int 0))) (.glob 4)))))) (.cons (.raise 1 (.cons (.slot 0) .nil)) .nil) .nil) (.cons (.exp (.call 5 (.cons (.idx (.slot 0) (.cst (.int 1))) (.cons (.bop .sub (.slot 1) (.cst (.int 1))) .nil)))) (.cons (.exp (.call 5 (.cons (.idx (.slot 0) (.cst (.int 2))) (.cons (.bop .sub (.slot 1) (.cst (.int 1))) .nil)))) .nil))))
def b_is_kind : Sms := (.cons (.try (.cons (.exp (.call 4 (.cons (.slot 0) .nil))) .nil) (.cons 1 none (.cons (.ret (.cst (.bl false))) .nil) .nil)) (.cons (.ret (.cst (.bl true))) .nil))
def b_plain : Sms := (.cons (.ret (.ite (.isi (.slot 0) [.str]) (.slot 0) (.tup (.cons (.idx (.slot 0) (.cst (.int 0))) (.cons (.call 7 (.cons (.idx (.slot 0) (.cst (.int 1))) .nil)) (.cons (.call 7 (.cons (.idx (.slot 0) (.cst (.int 2))) .nil)) .nil)))))) .nil)
def b_check_term : Sms := (.cons (.exp (.call 9 (.cons (.slot 0) (.cons (.bi .tuple (.cons (.slot 1) .nil)) (.cons (.glob 5) .nil))))) .nil)
def b_check_part_terms : Sms := (.cons (.ife (.or (.cmp .eq (.slot 2) (.cst (.int 0))) (.or (.not (.call 0 (.cons (.slot 0) .nil))) (.or (.cmp .eq (.bi .len (.cons (.slot 0) .nil)) (.cst (.int 0))) (.or (.not (.isi (.idx (.slot 0) (.cst (.int 0))) [.str])) (.one (.gin true 0 (.idx (.slot 0) (.cst (.int 0))))))))) (.cons (.raise 2 (.cons (.slot 0) .nil)) .nil) .nil) (.cons (.par 3 4 (.idx (.slot 0) (.cst (.int 0))) (.sl (.slot 0) (.some (.cst (.int 1))) .none)) (.cons (.ife (.or (.cmp .ne (.bi .len (.cons (.slot 4) .nil)) (.gix 0 (.slot 3))) (.one (.not (.call 10 (.cons (.slot 3) (.cons (.slot 4) (.cons (.slot 1) .nil))))))) (.cons (.raise 2 (.cons (.slot 0) .nil)) .nil) .nil) (.cons (.ife (.cmp .eq (.slot 3) (.cst (.str [102, 117, 110]))) (.cons (.exp (.call 9 (.cons (.idx (.slot 4) (.cst (.int 2))) (.cons (.tup (.star (.slot 1) (.cons (.idx (.slot 4) (.cst (.int 0))) .nil))) (.cons (.bop .sub (.slot 2) (.cst (.int 1))) .nil))))) .nil) (.cons (.ife (.cmp .eq (.slot 3) (.cst (.str [108, 101, 116]))) (.cons (.exp (.call 9 (.cons (.idx (.slot 4) (.cst (.int 1))) (.cons (.slot 1) (.cons (.bop .sub (.slot 2) (.cst (.int 1))) .nil))))) (.cons (.exp (.call 9 (.cons (.idx (.slot 4) (.cst (.int 2))) (.cons (.tup (.star (.slot 1) (.cons (.idx (.slot 4) (.cst (.int 0))) .nil))) (.cons (.bop .sub (.slot 2) (.cst (.int 1))) .nil))))) .nil)) (.cons (.ife (.cmp .eq (.slot 3) (.cst (.str [97, 115]))) (.cons (.exp (.call 9 (.cons (.idx (.slot 4) (.cst (.int 1))) (.cons (.slot 1) (.cons (.bop .sub (.slot 2) (.cst (.int 1))) .nil))))) .nil) (.cons (.ife (.cmp .notin (.slot 3) (.tup (.cons (.cst (.str [110, 117, 109, 98, 101, 114])) (.cons (.cst (.str [98, 105, 116])) (.cons (.cst (.str [110, 97, 109, 101])) .nil))))) (.cons (.for (.nm 5) (.seq (.slot 4)) (.cons (.exp (.call 9 (.cons (.slot 5) (.cons (.slot 1) (.cons (.bop .sub (.slot 2) (.cst (.int 1))) .nil))))) .nil)) .nil) .nil) .nil)) .nil)) .nil)) .nil))))
def b_is_leaf_right : Sms := (.cons (.ife (.cmp .eq (.slot 0) (.cst (.str [110, 117, 109, 98, 101, 114]))) (.cons (.ret (.call 2 (.cons (.idx (.slot 1) (.cst (.int 0))) (.cons (.glob 6) .nil)))) .nil) .nil) (.cons (.ife (.cmp .eq (.slot 0) (.cst (.str [98, 105, 116]))) (.cons (.ret (.isi (.idx (.slot 1) (.cst (.int 0))) [.bool])) .nil) .nil) (.cons (.ife (.cmp .eq (.slot 0) (.cst (.str [110, 97, 109, 101]))) (.cons (.ret (.and (.isi (.idx (.slot 1) (.cst (.int 0))) [.str]) (.one (.cmp .isin (.idx (.slot 1) (.cst (.int 0))) (.slot 2))))) .nil) .nil) (.cons (.ife (.cmp .eq (.slot 0) (.cst (.str [102, 117, 110]))) (.cons (.ret (.and (.call 3 (.cons (.idx (.slot 1) (.cst (.int 0))) .nil)) (.one (.call 6 (.cons (.idx (.slot 1) (.cst (.int 1))) .nil))))) .nil) .nil) (.cons (.ife (.cmp .eq (.slot 0) (.cst (.str [108, 101, 116]))) (.cons (.ret (.call 3 (.cons (.idx (.slot 1) (.cst (.int 0))) .nil))) .nil) .nil) (.cons (.ret (.or (.cmp .ne (.slot 0) (.cst (.str [97, 115]))) (.one (.call 6 (.cons (.idx (.slot 1) (.cst (.int 0))) .nil))))) .nil))))))
def b_kept : Sms := (.cons (.par 1 2 (.idx (.slot 0) (.cst (.int 0))) (.sl (.slot 0) (.some (.cst (.int 1))) .none)) (.cons (.ife (.cmp .isin (.slot 1) (.tup (.cons (.cst (.str [110, 117, 109, 98, 101, 114])) (.cons (.cst (.str [98, 105, 116])) (.cons (.cst (.str [110, 97, 109, 101])) .nil))))) (.cons (.ret (.tup (.cons (.slot 1) (.cons (.idx (.slot 2) (.cst (.int 0))) .nil)))) .nil) .nil) (.cons (.ife (.cmp .eq (.slot 1) (.cst (.str [102, 117, 110]))) (.cons (.ret (.tup (.cons (.slot 1) (.cons (.idx (.slot 2) (.cst (.int 0))) (.cons (.call 7 (.cons (.idx (.slot 2) (.cst (.int 1))) .nil)) (.cons (.call 11 (.cons (.idx (.slot 2) (.cst (.int 2))) .nil)) .nil)))))) .nil) .nil) (.cons (.ife (.cmp .eq (.slot 1) (.cst (.str [108, 101, 116]))) (.cons (.ret (.tup (.cons (.slot 1) (.cons (.idx (.slot 2) (.cst (.int 0))) (.cons (.call 11 (.cons (.idx (.slot 2) (.cst (.int 1))) .nil)) (.cons (.call 11 (.cons (.idx (.slot 2) (.cst (.int 2))) .nil)) .nil)))))) .nil) .nil) (.cons (.ife (.cmp .eq (.slot 1) (.cst (.str [97, 115]))) (.cons (.ret (.tup (.cons (.slot 1) (.cons (.call 7 (.cons (.idx (.slot 2) (.cst (.int 0))) .nil)) (.cons (.call 11 (.cons (.idx (.slot 2) (.cst (.int 1))) .nil)) .nil))))) .nil) .nil) (.cons (.ret (.tup (.cons (.slot 1) (.star (.comp [3] (.nm 3) (.seq (.slot 2)) .none (.elt (.call 11 (.cons (.slot 3) .nil)))) .nil)))) .nil))))))
def b_check_program : Sms := (.cons (.ife (.not (.isc (.slot 0) 3)) (.cons (.raise 2 (.cons (.slot 0) .nil)) .nil) .nil) .nil)
def b_subterms : Sms := (.cons (.asg (.nm 1) (.idx (.slot 0) (.cst (.int 0)))) (.cons (.ife (.cmp .isin (.slot 1) (.tup (.cons (.cst (.str [110, 117, 109, 98, 101, 114])) (.cons (.cst (.str [98, 105, 116])) (.cons (.cst (.str [110, 97, 109, 101])) .nil))))) (.cons (.ret (.lst false .nil)) .nil) .nil) (.cons (.ife (.cmp .eq (.slot 1) (.cst (.str [102, 117, 110]))) (.cons (.ret (.lst false (.cons (.idx (.slot 0) (.cst (.int 3))) .nil))) .nil) .nil) (.cons (.ife (.cmp .eq (.slot 1) (.cst (.str [108, 101, 116]))) (.cons (.ret (.lst false (.cons (.idx (.slot 0) (.cst (.int 2))) (.cons (.idx (.slot 0) (.cst (.int 3))) .nil)))) .nil) .nil) (.cons (.ife (.cmp .eq (.slot 1) (.cst (.str [97, 115]))) (.cons (.ret (.lst false (.cons (.idx (.slot 0) (.cst (.int 2))) .nil))) .nil) .nil) (.cons (.ret (.bi .list (.cons (.sl (.slot 0) (.some (.cst (.int 1))) .none) .nil))) .nil))))))
def b_kinds_in : Sms := (.cons (.asg (.nm 1) (.ite (.cmp .eq (.idx (.slot 0) (.cst (.int 0))) (.cst (.str [102, 117, 110]))) (.lst true (.cons (.idx (.slot 0) (.cst (.int 2))) .nil)) (.ite (.cmp .eq (.idx (.slot 0) (.cst (.int 0))) (.cst (.str [97, 115]))) (.lst true (.cons (.idx (.slot 0) (.cst (.int 1))) .nil)) (.lst true .nil)))) (.cons (.for (.nm 2) (.seq (.call 13 (.cons (.slot 0) .nil))) (.cons (.aug 1 .add (.call 14 (.cons (.slot 2) .nil))) .nil)) (.cons (.ret (.frz (.slot 1))) .nil)))
def b_retold : Sms := (.cons (.asg (.nm 2) (.idx (.slot 0) (.cst (.int 0)))) (.cons (.ife (.cmp .isin (.slot 2) (.tup (.cons (.cst (.str [110, 117, 109, 98, 101, 114])) (.cons (.cst (.str [98, 105, 116])) (.cons (.cst (.str [110, 97, 109, 101])) .nil))))) (.cons (.ret (.tup (.cons (.slot 0) (.cons (.slot 1) .nil)))) .nil) .nil) (.cons (.asg (.nm 3) (.sl (.slot 0) .none (.some (.cst (.int 2))))) (.cons (.ife (.cmp .eq (.slot 2) (.cst (.str [102, 117, 110]))) (.cons (.par 3 1 (.tup (.cons (.slot 2) (.cons (.idx (.slot 0) (.cst (.int 1))) (.cons (.idx (.slot 1) (.cst (.int 0))) .nil)))) (.sl (.slot 1) (.some (.cst (.int 1))) .none)) .nil) (.cons (.ife (.cmp .eq (.slot 2) (.cst (.str [97, 115]))) (.cons (.par 3 1 (.tup (.cons (.slot 2) (.cons (.idx (.slot 1) (.cst (.int 0))) .nil))) (.sl (.slot 1) (.some (.cst (.int 1))) .none)) .nil) (.cons (.ife (.cmp .ne (.slot 2) (.cst (.str [108, 101, 116]))) (.cons (.asg (.nm 3) (.tup (.cons (.slot 2) .nil))) .nil) .nil) .nil)) .nil)) (.cons (.asg (.nm 4) (.lst true .nil)) (.cons (.for (.nm 5) (.seq (.call 13 (.cons (.slot 0) .nil))) (.cons (.asg (.tup (.cons (.nm 6) (.cons (.nm 1) .nil))) (.call 15 (.cons (.slot 5) (.cons (.slot 1) .nil)))) (.cons (.exp (.mm .append (.slot 4) (.cons (.slot 6) .nil))) .nil))) (.cons (.ret (.tup (.cons (.tup (.star (.slot 3) (.star (.slot 4) .nil))) (.cons (.slot 1) .nil)))) .nil)))))))
def b_size_of : Sms := (.cons (.exp (.call 12 (.cons (.slot 0) .nil))) (.cons (.ret (.call 17 (.cons (.attr (.slot 0) [116, 101, 114, 109]) .nil))) .nil))
def b_count : Sms := (.cons (.ret (.bop .add (.cst (.int 1)) (.bi .sum (.cons (.comp [1] (.nm 1) (.seq (.call 13 (.cons (.slot 0) .nil))) .none (.elt (.call 17 (.cons (.slot 1) .nil)))) .nil)))) .nil)
def b_forms_of : Sms := (.cons (.exp (.call 12 (.cons (.slot 0) .nil))) (.cons (.asg (.nm 1) .dnew) (.cons (.asg (.nm 2) (.lst true (.cons (.attr (.slot 0) [116, 101, 114, 109]) .nil))) (.cons (.while (.cmp .ne (.slot 2) (.lst false .nil)) (.cons (.asg (.nm 3) (.mm .pop (.slot 2) .nil)) (.cons (.setD (.slot 1) (.idx (.slot 3) (.cst (.int 0))) (.bop .add (.dgt (.slot 1) (.idx (.slot 3) (.cst (.int 0))) (.cst (.int 0))) (.cst (.int 1)))) (.cons (.aug 2 .add (.call 13 (.cons (.slot 3) .nil))) .nil)))) (.cons (.ret (.dcomp [4] (.nm 4) (.seq (.bi .sorted (.cons (.slot 1) .nil))) .none (.slot 4) (.dix (.slot 1) (.slot 4)))) .nil)))))
def b_bare : Sms := (.cons (.exp (.call 12 (.cons (.slot 0) .nil))) (.cons (.ret (.meth (.slot 0) [116, 111, 108, 100] (.cons (.comp [1] (.nm 1) (.seq (.meth (.slot 0) [112, 108, 97, 99, 101, 115] .nil)) .none (.elt (.cst (.str [97, 110, 121])))) .nil))) .nil))
def b__law_number : Sms := (.cons (.asg (.tup (.cons (.nm 5) (.cons (.nm 6) .nil))) (.ite (.cmp .ne (.slot 0) (.lst false .nil)) (.tup (.cons (.idx (.slot 0) (.bop .mod (.slot 1) (.bi .len (.cons (.slot 0) .nil)))) (.cons (.bop .fdiv (.slot 1) (.bi .len (.cons (.slot 0) .nil))) .nil))) (.tup (.cons (.cst (.int 12345)) (.cons (.cst (.int 0)) .nil))))) (.cons (.asg (.nm 2) (.ite (.cmp .lt (.slot 6) (.cst (.int 60))) (.bop .sub (.slot 5) (.bop .pow (.cst (.int 10)) (.cst (.int 18)))) (.cst (.int 0)))) (.cons (.for (.nm 3) (.range1 (.bop .mod (.bi .int (.cons (.slot 6) .nil)) (.cst (.int 60)))) (.cons (.asg (.nm 2) (.bop .fdiv (.slot 2) (.cst (.int 1009)))) .nil)) (.cons (.ife (.cmp .gt (.slot 2) (.cst (.int 0))) (.cons (.ret (.bop .mod (.bi .int (.cons (.slot 2) .nil)) (.cst (.int 1009)))) .nil) .nil) (.cons (.asg (.nm 4) (.bop .mod (.bop .add (.bop .mul (.bi .int (.cons (.bop .add (.slot 5) (.bop .mul (.cst (.int 977)) (.slot 1))) .nil)) (.cst (.int 48271))) (.bop .mul (.cst (.int 31)) (.bi .len (.cons (.slot 0) .nil)))) (.cst (.int 2147483647)))) (.cons (.asg (.nm 4) (.bop .mod (.bop .add (.bop .mul (.slot 4) (.slot 4)) (.bop .mul (.cst (.int 40503)) (.slot 1))) (.cst (.int 2147483629)))) (.cons (.ret (.bi .int (.cons (.bop .mod (.bop .add (.bop .mul (.slot 4) (.cst (.int 69621))) (.bop .fdiv (.slot 4) (.cst (.int 977)))) (.cst (.int 2147483587))) .nil))) .nil)))))))
def b__law_take : Sms := (.cons (.augI (.slot 0) (.cst (.int 1)) .add (.cst (.int 1))) (.cons (.ret (.bop .mod (.bi .int (.cons (.call 20 (.cons (.idx (.slot 0) (.cst (.int 0))) (.cons (.bi .int (.cons (.idx (.slot 0) (.cst (.int 1))) .nil)) .nil))) .nil)) (.slot 1))) .nil))
def b__law_pick : Sms := (.cons (.ret (.idx (.slot 1) (.call 21 (.cons (.slot 0) (.cons (.bi .len (.cons (.slot 1) .nil)) .nil))))) .nil)
def b__law_kind : Sms := (.cons (.asg (.nm 2) (.call 21 (.cons (.slot 0) (.cons (.ite (.cmp .gt (.slot 1) (.cst (.int 0))) (.cst (.int 6)) (.cst (.int 3))) .nil)))) (.cons (.ife (.cmp .lt (.slot 2) (.cst (.int 3))) (.cons (.ret (.idx (.lst false (.cons (.cst (.str [97, 110, 121])) (.cons (.cst (.str [110, 117, 109])) (.cons (.cst (.str [98, 105, 116])) .nil)))) (.slot 2))) .nil) .nil) (.cons (.ret (.tup (.cons (.ite (.cmp .eq (.slot 2) (.cst (.int 5))) (.cst (.str [112, 97, 105, 114])) (.cst (.str [102, 117, 110]))) (.cons (.call 23 (.cons (.slot 0) (.cons (.bop .sub (.slot 1) (.cst (.int 1))) .nil))) (.cons (.call 23 (.cons (.slot 0) (.cons (.bop .sub (.slot 1) (.cst (.int 1))) .nil))) .nil))))) .nil)))
def b__law_told : Sms := (.cons (.asg (.nm 2) (.call 21 (.cons (.slot 0) (.cons (.cst (.int 6)) .nil)))) (.cons (.ret (.ite (.cmp .lt (.slot 2) (.cst (.int 3))) (.cst (.str [97, 110, 121])) (.ite (.cmp .lt (.slot 2) (.cst (.int 5))) (.slot 1) (.call 23 (.cons (.slot 0) (.cons (.cst (.int 1)) .nil)))))) .nil))
def b__law_term : Sms := (.cons (.ife (.cmp .eq (.call 21 (.cons (.slot 0) (.cons (.cst (.int 12)) .nil))) (.cst (.int 0))) (.cons (.asg (.nm 2) (.call 23 (.cons (.slot 0) (.cons (.cst (.int 1)) .nil)))) .nil) .nil) (.cons (.asg (.nm 4) (.comp [7, 5] (.tup (.cons (.nm 7) (.cons (.nm 5) .nil))) (.seq (.slot 1)) (.some (.cmp .eq (.slot 5) (.slot 2))) (.elt (.slot 7)))) (.cons (.ife (.and (.cmp .ne (.slot 4) (.lst false .nil)) (.one (.cmp .gt (.call 21 (.cons (.slot 0) (.cons (.cst (.int 3)) .nil))) (.cst (.int 0))))) (.cons (.ret (.tup (.cons (.cst (.str [110, 97, 109, 101])) (.cons (.call 22 (.cons (.slot 0) (.cons (.slot 4) .nil))) .nil)))) .nil) .nil) (.cons (.asg (.nm 5) (.ite (.cmp .gt (.slot 3) (.cst (.int 0))) (.call 21 (.cons (.slot 0) (.cons (.cst (.int 7)) .nil))) (.cst (.int 6)))) (.cons (.ife (.cmp .eq (.slot 5) (.cst (.int 0))) (.cons (.ret (.tup (.cons (.cst (.str [97, 115])) (.cons (.call 24 (.cons (.slot 0) (.cons (.slot 2) .nil))) (.cons (.call 25 (.cons (.slot 0) (.cons (.slot 1) (.cons (.slot 2) (.cons (.bop .sub (.slot 3) (.cst (.int 1))) .nil))))) .nil))))) .nil) .nil) (.cons (.ife (.cmp .eq (.slot 5) (.cst (.int 1))) (.cons (.asg (.nm 6) (.call 23 (.cons (.slot 0) (.cons (.cst (.int 1)) .nil)))) (.cons (.ret (.tup (.cons (.cst (.str [99, 97, 108, 108])) (.cons (.tup (.cons (.cst (.str [102, 117, 110])) (.cons (.cst (.str [120])) (.cons (.call 24 (.cons (.slot 0) (.cons (.slot 6) .nil))) (.cons (.call 25 (.cons (.slot 0) (.cons (.bop .add (.slot 1) (.lst false (.cons (.tup (.cons (.cst (.str [120])) (.cons (.slot 6) .nil))) .nil))) (.cons (.slot 2) (.cons (.bop .sub (.slot 3) (.cst (.int 1))) .nil))))) .nil))))) (.cons (.call 25 (.cons (.slot 0) (.cons (.slot 1) (.cons (.slot 6) (.cons (.bop .sub (.slot 3) (.cst (.int 1))) .nil))))) .nil))))) .nil)) .nil) (.cons (.ife (.cmp .eq (.slot 5) (.cst (.int 2))) (.cons (.ret (.tup (.cons (.cst (.str [105, 102])) (.cons (.call 25 (.cons (.slot 0) (.cons (.slot 1) (.cons (.cst (.str [98, 105, 116])) (.cons (.bop .sub (.slot 3) (.cst (.int 1))) .nil))))) (.cons (.call 25 (.cons (.slot 0) (.cons (.slot 1) (.cons (.slot 2) (.cons (.bop .sub (.slot 3) (.cst (.int 1))) .nil))))) (.cons (.call 25 (.cons (.slot 0) (.cons (.slot 1) (.cons (.slot 2) (.cons (.bop .sub (.slot 3) (.cst (.int 1))) .nil))))) .nil)))))) .nil) .nil) (.cons (.ife (.cmp .eq (.slot 5) (.cst (.int 3))) (.cons (.asg (.nm 6) (.call 23 (.cons (.slot 0) (.cons (.cst (.int 1)) .nil)))) (.cons (.ret (.tup (.cons (.cst (.str [108, 101, 116])) (.cons (.cst (.str [121])) (.cons (.call 25 (.cons (.slot 0) (.cons (.slot 1) (.cons (.slot 6) (.cons (.bop .sub (.slot 3) (.cst (.int 1))) .nil))))) (.cons (.call 25 (.cons (.slot 0) (.cons (.bop .add (.slot 1) (.lst false (.cons (.tup (.cons (.cst (.str [121])) (.cons (.slot 6) .nil))) .nil))) (.cons (.slot 2) (.cons (.bop .sub (.slot 3) (.cst (.int 1))) .nil))))) .nil)))))) .nil)) .nil) (.cons (.ife (.cmp .eq (.slot 5) (.cst (.int 4))) (.cons (.ret (.tup (.cons (.cst (.str [108, 101, 102, 116])) (.cons (.tup (.cons (.cst (.str [112, 97, 105, 114])) (.cons (.call 25 (.cons (.slot 0) (.cons (.slot 1) (.cons (.slot 2) (.cons (.bop .sub (.slot 3) (.cst (.int 1))) .nil))))) (.cons (.call 26 (.cons (.slot 0) (.cons (.cst (.str [110, 117, 109])) .nil))) .nil)))) .nil)))) .nil) .nil) (.cons (.ife (.and (.cmp .eq (.slot 5) (.cst (.int 5))) (.one (.cmp .isin (.slot 2) (.tup (.cons (.cst (.str [110, 117, 109])) (.cons (.cst (.str [98, 105, 116])) .nil)))))) (.cons (.ret (.tup (.cons (.ite (.cmp .eq (.slot 2) (.cst (.str [110, 117, 109]))) (.cst (.str [115, 117, 109])) (.cst (.str [108, 101, 115, 115]))) (.cons (.call 25 (.cons (.slot 0) (.cons (.slot 1) (.cons (.cst (.str [110, 117, 109])) (.cons (.bop .sub (.slot 3) (.cst (.int 1))) .nil))))) (.cons (.call 25 (.cons (.slot 0) (.cons (.slot 1) (.cons (.cst (.str [110, 117, 109])) (.cons (.bop .sub (.slot 3) (.cst (.int 1))) .nil))))) .nil))))) .nil) .nil) (.cons (.ife (.and (.isi (.slot 2) [.tuple]) (.one (.cmp .gt (.slot 3) (.cst (.int 0))))) (.cons (.ife (.cmp .eq (.idx (.slot 2) (.cst (.int 0))) (.cst (.str [112, 97, 105, 114]))) (.cons (.ret (.tup (.cons (.cst (.str [112, 97, 105, 114])) (.cons (.call 25 (.cons (.slot 0) (.cons (.slot 1) (.cons (.idx (.slot 2) (.cst (.int 1))) (.cons (.bop .sub (.slot 3) (.cst (.int 1))) .nil))))) (.cons (.call 25 (.cons (.slot 0) (.cons (.slot 1) (.cons (.idx (.slot 2) (.cst (.int 2))) (.cons (.bop .sub (.slot 3) (.cst (.int 1))) .nil))))) .nil))))) .nil) .nil) (.cons (.ret (.tup (.cons (.cst (.str [102, 117, 110])) (.cons (.cst (.str [122])) (.cons (.call 24 (.cons (.slot 0) (.cons (.idx (.slot 2) (.cst (.int 1))) .nil))) (.cons (.call 25 (.cons (.slot 0) (.cons (.bop .add (.slot 1) (.lst false (.cons (.tup (.cons (.cst (.str [122])) (.cons (.idx (.slot 2) (.cst (.int 1))) .nil))) .nil))) (.cons (.idx (.slot 2) (.cst (.int 2))) (.cons (.bop .sub (.slot 3) (.cst (.int 1))) .nil))))) .nil)))))) .nil)) .nil) (.cons (.ret (.call 26 (.cons (.slot 0) (.cons (.slot 2) .nil)))) .nil))))))))))))
def b__law_leaf : Sms := (.cons (.ife (.or (.cmp .eq (.slot 1) (.cst (.str [98, 105, 116]))) (.one (.and (.cmp .eq (.slot 1) (.cst (.str [97, 110, 121]))) (.one (.cmp .eq (.call 21 (.cons (.slot 0) (.cons (.cst (.int 2)) .nil))) (.cst (.int 0))))))) (.cons (.ret (.tup (.cons (.cst (.str [98, 105, 116])) (.cons (.cmp .eq (.call 21 (.cons (.slot 0) (.cons (.cst (.int 2)) .nil))) (.cst (.int 0))) .nil)))) .nil) .nil) (.cons (.ife (.isi (.slot 1) [.str]) (.cons (.ret (.tup (.cons (.cst (.str [110, 117, 109, 98, 101, 114])) (.cons (.call 21 (.cons (.slot 0) (.cons (.cst (.int 5)) .nil))) .nil)))) .nil) .nil) (.cons (.ife (.cmp .eq (.idx (.slot 1) (.cst (.int 0))) (.cst (.str [112, 97, 105, 114]))) (.cons (.ret (.tup (.cons (.cst (.str [112, 97, 105, 114])) (.cons (.call 26 (.cons (.slot 0) (.cons (.idx (.slot 1) (.cst (.int 1))) .nil))) (.cons (.call 26 (.cons (.slot 0) (.cons (.idx (.slot 1) (.cst (.int 2))) .nil))) .nil))))) .nil) .nil) (.cons (.ret (.tup (.cons (.cst (.str [102, 117, 110])) (.cons (.cst (.str [119])) (.cons (.call 24 (.cons (.slot 0) (.cons (.idx (.slot 1) (.cst (.int 1))) .nil))) (.cons (.call 26 (.cons (.slot 0) (.cons (.idx (.slot 1) (.cst (.int 2))) .nil))) .nil)))))) .nil))))
def b__law_parts : Sms := (.cons (.ife (.cmp .isin (.idx (.slot 0) (.cst (.int 0))) (.tup (.cons (.cst (.str [110, 117, 109, 98, 101, 114])) (.cons (.cst (.str [98, 105, 116])) (.cons (.cst (.str [110, 97, 109, 101])) .nil))))) (.cons (.ret (.lst false .nil)) .nil) .nil) (.cons (.ife (.cmp .eq (.idx (.slot 0) (.cst (.int 0))) (.cst (.str [102, 117, 110]))) (.cons (.ret (.lst false (.cons (.idx (.slot 0) (.cst (.int 3))) .nil))) .nil) .nil) (.cons (.ife (.cmp .eq (.idx (.slot 0) (.cst (.int 0))) (.cst (.str [108, 101, 116]))) (.cons (.ret (.lst false (.cons (.idx (.slot 0) (.cst (.int 2))) (.cons (.idx (.slot 0) (.cst (.int 3))) .nil)))) .nil) .nil) (.cons (.ret (.ite (.cmp .eq (.idx (.slot 0) (.cst (.int 0))) (.cst (.str [97, 115]))) (.lst false (.cons (.idx (.slot 0) (.cst (.int 2))) .nil)) (.bi .list (.cons (.sl (.slot 0) (.some (.cst (.int 1))) .none) .nil)))) .nil))))
def b__law_places : Sms := (.cons (.asg (.nm 1) (.ite (.cmp .eq (.idx (.slot 0) (.cst (.int 0))) (.cst (.str [102, 117, 110]))) (.lst false (.cons (.idx (.slot 0) (.cst (.int 2))) .nil)) (.ite (.cmp .eq (.idx (.slot 0) (.cst (.int 0))) (.cst (.str [97, 115]))) (.lst false (.cons (.idx (.slot 0) (.cst (.int 1))) .nil)) (.lst false .nil)))) (.cons (.for (.nm 2) (.seq (.call 27 (.cons (.slot 0) .nil))) (.cons (.asg (.nm 1) (.bop .add (.slot 1) (.call 28 (.cons (.slot 2) .nil)))) .nil)) (.cons (.ret (.slot 1)) .nil)))
def b__law_count : Sms := (.cons (.ret (.bop .add (.cst (.int 1)) (.bi .sum (.cons (.comp [1] (.nm 1) (.seq (.call 27 (.cons (.slot 0) .nil))) .none (.elt (.call 29 (.cons (.slot 1) .nil)))) .nil)))) .nil)
def b__law_retold : Sms := (.cons (.asg (.nm 2) (.cp (.slot 0))) (.cons (.ife (.cmp .isin (.idx (.slot 0) (.cst (.int 0))) (.tup (.cons (.cst (.str [102, 117, 110])) (.cons (.cst (.str [97, 115])) .nil)))) (.cons (.setI (.slot 2) (.ite (.cmp .eq (.idx (.slot 0) (.cst (.int 0))) (.cst (.str [102, 117, 110]))) (.cst (.int 2)) (.cst (.int 1))) (.mm .popAt (.slot 1) (.cons (.cst (.int 0)) .nil))) .nil) .nil) (.cons (.asg (.nm 3) (.call 27 (.cons (.slot 0) .nil))) (.cons (.asg (.nm 4) (.bop .sub (.bi .len (.cons (.slot 0) .nil)) (.bi .len (.cons (.slot 3) .nil)))) (.cons (.ret (.bi .tuple (.cons (.bop .add (.sl (.slot 2) .none (.some (.slot 4))) (.comp [5] (.nm 5) (.seq (.slot 3)) .none (.elt (.call 30 (.cons (.slot 5) (.cons (.slot 1) .nil)))))) .nil))) .nil)))))
def b__law_forms : Sms := (.cons (.setD (.slot 1) (.idx (.slot 0) (.cst (.int 0))) (.bop .add (.dgt (.slot 1) (.idx (.slot 0) (.cst (.int 0))) (.cst (.int 0))) (.cst (.int 1)))) (.cons (.for (.nm 2) (.seq (.call 27 (.cons (.slot 0) .nil))) (.cons (.exp (.call 31 (.cons (.slot 2) (.cons (.slot 1) .nil)))) .nil)) (.cons (.ret (.slot 1)) .nil)))
def b__law_listed : Sms := (.cons (.ret (.comp [1] (.nm 1) (.seq (.slot 0)) .none (.elt (.ite (.isi (.slot 1) [.tuple]) (.call 32 (.cons (.slot 1) .nil)) (.slot 1))))) .nil)
def b_law : Sms := (.cons (.asg (.nm 1) (.lst true (.cons (.slot 0) (.cons (.cst (.int 0)) .nil)))) (.cons (.asg (.nm 2) (.call 25 (.cons (.slot 1) (.cons (.lst false .nil) (.cons (.call 23 (.cons (.slot 1) (.cons (.cst (.int 1)) .nil))) (.cons (.cst (.int 3)) .nil)))))) (.cons (.asg (.nm 3) (.new 3 (.cons (.slot 2) .nil))) (.cons (.asg (.nm 4) (.call 28 (.cons (.slot 2) .nil))) (.cons (.ife (.or (.cmp .ne (.attr (.slot 3) [116, 101, 114, 109]) (.slot 2)) (.or (.eqI true (.slot 3) (.new 3 (.cons (.call 32 (.cons (.slot 2) .nil)) .nil))) (.or (.cmp .ne (.meth (.slot 3) [112, 108, 97, 99, 101, 115] .nil) (.slot 4)) (.one (.cmp .ne (.call 16 (.cons (.slot 3) .nil)) (.call 29 (.cons (.slot 2) .nil))))))) (.cons (.ret (.cst (.bl false))) .nil) .nil) (.cons (.ife (.or (.cmp .ne (.call 18 (.cons (.slot 3) .nil)) (.call 31 (.cons (.slot 2) (.cons .dnew .nil)))) (.one (.cmp .ne (.bi .keys (.cons (.call 18 (.cons (.slot 3) .nil)) .nil)) (.bi .sorted (.cons (.call 31 (.cons (.slot 2) (.cons .dnew .nil))) .nil))))) (.cons (.ret (.cst (.bl false))) .nil) .nil) (.cons (.asg (.nm 5) (.comp [12] (.nm 12) (.seq (.slot 4)) .none (.elt (.call 23 (.cons (.slot 1) (.cons (.cst (.int 1)) .nil)))))) (.cons (.ife (.or (.eqI true (.meth (.slot 3) [116, 111, 108, 100] (.cons (.slot 5) .nil)) (.new 3 (.cons (.call 30 (.cons (.slot 2) (.cons (.cp (.slot 5)) .nil))) .nil))) (.or (.cmp .ne (.meth (.meth (.slot 3) [116, 111, 108, 100] (.cons (.bi .tuple (.cons (.slot 5) .nil)) .nil)) [112, 108, 97, 99, 101, 115] .nil) (.slot 5)) (.one (.eqI true (.meth (.slot 3) [116, 111, 108, 100] (.cons (.slot 4) .nil)) (.slot 3))))) (.cons (.ret (.cst (.bl false))) .nil) .nil) (.cons (.ife (.or (.eqI true (.call 19 (.cons (.slot 3) .nil)) (.meth (.slot 3) [116, 111, 108, 100] (.cons (.bop .mul (.lst false (.cons (.cst (.str [97, 110, 121])) .nil)) (.bi .len (.cons (.slot 4) .nil))) .nil))) (.or (.eqI true (.call 19 (.cons (.call 19 (.cons (.slot 3) .nil)) .nil)) (.call 19 (.cons (.slot 3) .nil))) (.one (.cmp .ne (.meth (.call 19 (.cons (.slot 3) .nil)) [112, 108, 97, 99, 101, 115] .nil) (.bop .mul (.lst false (.cons (.cst (.str [97, 110, 121])) .nil)) (.bi .len (.cons (.slot 4) .nil))))))) (.cons (.ret (.cst (.bl false))) .nil) .nil) (.cons (.for (.nm 6) (.seq (.tup (.cons (.bop .add (.slot 5) (.lst false (.cons (.cst (.str [97, 110, 121])) .nil))) (.cons (.cst .non) (.cons (.ite (.cmp .ne (.slot 4) (.lst false .nil)) (.bop .mul (.lst false (.cons (.cst (.str [122, 122])) .nil)) (.bi .len (.cons (.slot 4) .nil))) (.lst false (.cons (.cst (.str [97, 110, 121])) .nil))) .nil))))) (.cons (.try (.cons (.exp (.meth (.slot 3) [116, 111, 108, 100] (.cons (.slot 6) .nil))) (.cons (.ret (.cst (.bl false))) .nil)) (.cons 2 (some 11) (.cons (.ife (.cmp .ne (.xf 11 [112, 97, 114, 116]) (.slot 6)) (.cons (.ret (.cst (.bl false))) .nil) .nil) .nil) .nil)) .nil)) (.cons (.asg (.nm 7) (.tup (.cons (.cst (.str [110, 117, 109, 98, 101, 114])) (.cons (.cst (.int 1)) .nil)))) (.cons (.for (.nm 8) (.range1 (.cst (.int 9))) (.cons (.asg (.nm 7) (.tup (.cons (.cst (.str [108, 101, 102, 116])) (.cons (.slot 7) .nil)))) .nil)) (.cons (.asg (.nm 9) (.lst false (.cons (.tup (.cons (.cst .non) (.cons (.cst .non) .nil))) (.cons (.tup (.cons (.tup .nil) (.cons (.tup .nil) .nil))) (.cons (.tup (.cons (.tup (.cons (.cst (.str [122, 122])) .nil)) (.cons (.tup (.cons (.cst (.str [122, 122])) .nil)) .nil))) (.cons (.tup (.cons (.tup (.cons (.cst (.str [110, 117, 109, 98, 101, 114])) (.cons (.cst (.int 1000)) .nil))) (.cons (.tup (.cons (.cst (.str [110, 117, 109, 98, 101, 114])) (.cons (.cst (.int 1000)) .nil))) .nil))) (.cons (.tup (.cons (.tup (.cons (.cst (.str [110, 117, 109, 98, 101, 114])) (.cons (.cst (.bl true)) .nil))) (.cons (.tup (.cons (.cst (.str [110, 117, 109, 98, 101, 114])) (.cons (.cst (.bl true)) .nil))) .nil))) .nil))))))) (.cons (.asg (.nm 9) (.bop .add (.slot 9) (.lst false (.cons (.tup (.cons (.tup (.cons (.cst (.str [98, 105, 116])) (.cons (.cst (.int 0)) .nil))) (.cons (.tup (.cons (.cst (.str [98, 105, 116])) (.cons (.cst (.int 0)) .nil))) .nil))) (.cons (.tup (.cons (.tup (.cons (.cst (.str [110, 97, 109, 101])) (.cons (.cst (.str [120])) .nil))) (.cons (.tup (.cons (.cst (.str [110, 97, 109, 101])) (.cons (.cst (.str [120])) .nil))) .nil))) (.cons (.tup (.cons (.tup (.cons (.cst (.str [115, 117, 109])) (.cons (.tup (.cons (.cst (.str [110, 117, 109, 98, 101, 114])) (.cons (.cst (.int 1)) .nil))) .nil))) (.cons (.tup (.cons (.cst (.str [115, 117, 109])) (.cons (.tup (.cons (.cst (.str [110, 117, 109, 98, 101, 114])) (.cons (.cst (.int 1)) .nil))) .nil))) .nil))) (.cons (.tup (.cons (.tup (.cons (.cst (.str [115, 117, 109])) (.cons (.tup (.cons (.cst (.str [110, 117, 109, 98, 101, 114])) (.cons (.cst (.int 1)) .nil))) (.cons (.cst (.int 5)) .nil)))) (.cons (.cst (.int 5)) .nil))) .nil))))))) (.cons (.asg (.nm 9) (.bop .add (.slot 9) (.lst false (.cons (.tup (.cons (.tup (.cons (.cst (.str [102, 117, 110])) (.cons (.cst (.str [88])) (.cons (.cst (.str [97, 110, 121])) (.cons (.tup (.cons (.cst (.str [110, 117, 109, 98, 101, 114])) (.cons (.cst (.int 1)) .nil))) .nil))))) (.cons (.tup (.cons (.cst (.str [102, 117, 110])) (.cons (.cst (.str [88])) (.cons (.cst (.str [97, 110, 121])) (.cons (.tup (.cons (.cst (.str [110, 117, 109, 98, 101, 114])) (.cons (.cst (.int 1)) .nil))) .nil))))) .nil))) (.cons (.tup (.cons (.tup (.cons (.cst (.str [102, 117, 110])) (.cons (.cst (.str [120])) (.cons (.cst (.str [122, 122])) (.cons (.tup (.cons (.cst (.str [110, 117, 109, 98, 101, 114])) (.cons (.cst (.int 1)) .nil))) .nil))))) (.cons (.tup (.cons (.cst (.str [102, 117, 110])) (.cons (.cst (.str [120])) (.cons (.cst (.str [122, 122])) (.cons (.tup (.cons (.cst (.str [110, 117, 109, 98, 101, 114])) (.cons (.cst (.int 1)) .nil))) .nil))))) .nil))) .nil))))) (.cons (.asg (.nm 9) (.bop .add (.slot 9) (.lst false (.cons (.tup (.cons (.tup (.cons (.cst (.str [102, 117, 110])) (.cons (.cst (.str [120])) (.cons (.cst (.str [97, 110, 121])) (.cons (.tup (.cons (.cst (.str [110, 97, 109, 101])) (.cons (.cst (.str [121])) .nil))) .nil))))) (.cons (.tup (.cons (.cst (.str [110, 97, 109, 101])) (.cons (.cst (.str [121])) .nil))) .nil))) (.cons (.tup (.cons (.tup (.cons (.cst (.str [108, 101, 116])) (.cons (.cst (.str [120])) (.cons (.tup (.cons (.cst (.str [110, 97, 109, 101])) (.cons (.cst (.str [120])) .nil))) (.cons (.tup (.cons (.cst (.str [110, 97, 109, 101])) (.cons (.cst (.str [120])) .nil))) .nil))))) (.cons (.tup (.cons (.cst (.str [110, 97, 109, 101])) (.cons (.cst (.str [120])) .nil))) .nil))) .nil))))) (.cons (.asg (.nm 9) (.bop .add (.slot 9) (.lst false (.cons (.tup (.cons (.tup (.cons (.cst (.str [97, 115])) (.cons (.cst .non) (.cons (.tup (.cons (.cst (.str [110, 117, 109, 98, 101, 114])) (.cons (.cst (.int 1)) .nil))) .nil)))) (.cons (.tup (.cons (.cst (.str [97, 115])) (.cons (.cst .non) (.cons (.tup (.cons (.cst (.str [110, 117, 109, 98, 101, 114])) (.cons (.cst (.int 1)) .nil))) .nil)))) .nil))) (.cons (.tup (.cons (.slot 7) (.cons (.tup (.cons (.cst (.str [110, 117, 109, 98, 101, 114])) (.cons (.cst (.int 1)) .nil))) .nil))) .nil))))) (.cons (.asg (.nm 9) (.bop .add (.slot 9) (.lst false (.cons (.tup (.cons (.tup (.cons (.cst (.str [105, 102])) (.cons (.tup (.cons (.cst (.str [98, 105, 116])) (.cons (.cst (.bl true)) .nil))) (.cons (.cst (.int 5)) (.cons (.cst (.int 6)) .nil))))) (.cons (.cst (.int 5)) .nil))) (.cons (.tup (.cons (.tup (.cons (.cst (.str [102, 117, 110])) (.cons (.cst (.str [121, 101, 115])) (.cons (.cst (.str [97, 110, 121])) (.cons (.tup (.cons (.cst (.str [110, 117, 109, 98, 101, 114])) (.cons (.cst (.int 1)) .nil))) .nil))))) (.cons (.tup (.cons (.cst (.str [102, 117, 110])) (.cons (.cst (.str [121, 101, 115])) (.cons (.cst (.str [97, 110, 121])) (.cons (.tup (.cons (.cst (.str [110, 117, 109, 98, 101, 114])) (.cons (.cst (.int 1)) .nil))) .nil))))) .nil))) .nil))))) (.cons (.for (.nm 8) (.range1 (.cst (.int 6))) (.cons (.asg (.tup (.cons (.nm 6) (.cons (.nm 13) .nil))) (.call 22 (.cons (.slot 1) (.cons (.slot 9) .nil)))) (.cons (.try (.cons (.exp (.new 3 (.cons (.slot 6) .nil))) (.cons (.ret (.cst (.bl false))) .nil)) (.cons 2 (some 11) (.cons (.ife (.cmp .ne (.xf 11 [112, 97, 114, 116]) (.slot 13)) (.cons (.ret (.cst (.bl false))) .nil) .nil) .nil) .nil)) .nil))) (.cons (.forL 10 [0, 1, 2] (.cons (.try (.cons (.exp (.callL 10)) (.cons (.ret (.cst (.bl false))) .nil)) (.cons 2 (some 11) (.cons (.ife (.isN true (.xf 11 [112, 97, 114, 116])) (.cons (.ret (.cst (.bl false))) .nil) .nil) .nil) .nil)) .nil)) (.cons (.ret (.cmp .eq (.meth (.new 3 (.cons (.tup (.cons (.cst (.str [108, 101, 116])) (.cons (.cst (.str [120])) (.cons (.tup (.cons (.cst (.str [110, 117, 109, 98, 101, 114])) (.cons (.cst (.int 1)) .nil))) (.cons (.tup (.cons (.cst (.str [102, 117, 110])) (.cons (.cst (.str [120])) (.cons (.cst (.str [110, 117, 109])) (.cons (.tup (.cons (.cst (.str [110, 97, 109, 101])) (.cons (.cst (.str [120])) .nil))) .nil))))) .nil))))) .nil)) [112, 108, 97, 99, 101, 115] .nil) (.lst false (.cons (.cst (.str [110, 117, 109])) .nil)))) .nil)))))))))))))))))))))
def b_Program___init__ : Sms := (.cons (.exp (.call 8 (.cons (.slot 1) (.cons (.tup .nil) .nil)))) (.cons (.setA (.slot 0) [116, 101, 114, 109] (.call 11 (.cons (.slot 1) .nil))) .nil))
def b_Program___eq__ : Sms := (.cons (.ret (.and (.isc (.slot 1) 3) (.one (.cmp .eq (.attr (.slot 0) [116, 101, 114, 109]) (.attr (.slot 1) [116, 101, 114, 109]))))) .nil)
def b_Program_places : Sms := (.cons (.ret (.call 14 (.cons (.attr (.slot 0) [116, 101, 114, 109]) .nil))) .nil)
def b_Program_told : Sms := (.cons (.ife (.or (.not (.call 0 (.cons (.slot 1) .nil))) (.or (.cmp .ne (.bi .len (.cons (.slot 1) .nil)) (.bi .len (.cons (.meth (.slot 0) [112, 108, 97, 99, 101, 115] .nil) .nil))) (.one (.not (.bi .all (.cons (.comp [4] (.nm 4) (.seq (.slot 1)) .none (.elt (.call 6 (.cons (.slot 4) .nil)))) .nil)))))) (.cons (.raise 2 (.cons (.slot 1) .nil)) .nil) .nil) (.cons (.asg (.tup (.cons (.nm 2) (.cons (.nm 3) .nil))) (.call 15 (.cons (.attr (.slot 0) [116, 101, 114, 109]) (.cons (.bi .list (.cons (.slot 1) .nil)) .nil)))) (.cons (.ret (.new 3 (.cons (.slot 2) .nil))) .nil)))
def l_0 : Ex := (.call 16 (.cons (.cst .non) .nil))
def l_1 : Ex := (.call 19 (.cons (.cst .non) .nil))
def l_2 : Ex := (.call 18 (.cons (.cst .non) .nil))
def pr : Prog := {
  fns := [⟨1, 1, b_is_row⟩, ⟨1, 1, b_is_number⟩, ⟨2, 2, b_is_below⟩, ⟨1, 2, b_is_name⟩, ⟨1, 1, b_check_kind⟩, ⟨2, 2, b_check_part_kinds⟩, ⟨1, 1, b_is_kind⟩, ⟨1, 1, b_plain⟩, ⟨2, 2, b_check_term⟩, ⟨3, 6, b_check_part_terms⟩, ⟨3, 3, b_is_leaf_right⟩, ⟨1, 4, b_kept⟩, ⟨1, 1, b_check_program⟩, ⟨1, 2, b_subterms⟩, ⟨1, 3, b_kinds_in⟩, ⟨2, 7, b_retold⟩, ⟨1, 1, b_size_of⟩, ⟨1, 2, b_count⟩, ⟨1, 5, b_forms_of⟩, ⟨1, 2, b_bare⟩, ⟨2, 7, b__law_number⟩, ⟨2, 2, b__law_take⟩, ⟨2, 2, b__law_pick⟩, ⟨2, 3, b__law_kind⟩, ⟨2, 3, b__law_told⟩, ⟨4, 8, b__law_term⟩, ⟨2, 2, b__law_leaf⟩, ⟨1, 1, b__law_parts⟩, ⟨1, 3, b__law_places⟩, ⟨1, 2, b__law_count⟩, ⟨2, 6, b__law_retold⟩, ⟨2, 3, b__law_forms⟩, ⟨1, 2, b__law_listed⟩, ⟨1, 14, b_law⟩, ⟨2, 2, b_Program___init__⟩, ⟨2, 2, b_Program___eq__⟩, ⟨1, 1, b_Program_places⟩, ⟨2, 5, b_Program_told⟩],
  cls := [{ init := none, val := false, ms := [], exn := true, flds := [], ups := [] }, { init := none, val := false, ms := [], exn := true, flds := [[112, 97, 114, 116]], ups := [0] }, { init := none, val := false, ms := [], exn := true, flds := [[112, 97, 114, 116]], ups := [0] }, { init := (some 34), val := true, ms := [([95, 95, 101, 113, 95, 95], 35), ([112, 108, 97, 99, 101, 115], 36), ([116, 111, 108, 100], 37)], exn := false, flds := [[116, 101, 114, 109]], ups := [] }],
  globs := [(.str [97, 98, 99, 100, 101, 102, 103, 104, 105, 106, 107, 108, 109, 110, 111, 112, 113, 114, 115, 116, 117, 118, 119, 120, 121, 122] : D), (.str [48, 49, 50, 51, 52, 53, 54, 55, 56, 57] : D), (.int (4) : D), (.tup [.str [97, 110, 121], .str [110, 117, 109], .str [98, 105, 116]] : D), (.tup [.str [102, 117, 110], .str [112, 97, 105, 114]] : D), (.int (9) : D), (.int (1000) : D)],
  gd := [[([110, 117, 109, 98, 101, 114], .int (1)), ([98, 105, 116], .int (1)), ([110, 97, 109, 101], .int (1)), ([102, 117, 110], .int (3)), ([99, 97, 108, 108], .int (2)), ([112, 97, 105, 114], .int (2)), ([108, 101, 102, 116], .int (1)), ([114, 105, 103, 104, 116], .int (1)), ([115, 117, 109], .int (2)), ([108, 101, 115, 115], .int (2)), ([105, 102], .int (3)), ([97, 115], .int (2)), ([108, 101, 116], .int (3))]],
  lams := [l_0, l_1, l_2], most := 100000 }
-- FACTS
theorem g_0 : pr.globs[0]? = some (.str [97, 98, 99, 100, 101, 102, 103, 104, 105, 106, 107, 108, 109, 110, 111, 112, 113, 114, 115, 116, 117, 118, 119, 120, 121, 122]) := rfl
theorem g_1 : pr.globs[1]? = some (.str [48, 49, 50, 51, 52, 53, 54, 55, 56, 57]) := rfl
theorem g_2 : pr.globs[2]? = some (.int (4)) := rfl
theorem g_3 : pr.globs[3]? = some (.tup [.str [97, 110, 121], .str [110, 117, 109], .str [98, 105, 116]]) := rfl
theorem g_4 : pr.globs[4]? = some (.tup [.str [102, 117, 110], .str [112, 97, 105, 114]]) := rfl
theorem g_5 : pr.globs[5]? = some (.int (9)) := rfl
theorem g_6 : pr.globs[6]? = some (.int (1000)) := rfl
theorem gd_0 : pr.gd[0]? = some [([110, 117, 109, 98, 101, 114], .int (1)), ([98, 105, 116], .int (1)), ([110, 97, 109, 101], .int (1)), ([102, 117, 110], .int (3)), ([99, 97, 108, 108], .int (2)), ([112, 97, 105, 114], .int (2)), ([108, 101, 102, 116], .int (1)), ([114, 105, 103, 104, 116], .int (1)), ([115, 117, 109], .int (2)), ([108, 101, 115, 115], .int (2)), ([105, 102], .int (3)), ([97, 115], .int (2)), ([108, 101, 116], .int (3))] := rfl
theorem lm_0 : pr.lams[0]? = some l_0 := rfl
theorem lm_1 : pr.lams[1]? = some l_1 := rfl
theorem lm_2 : pr.lams[2]? = some l_2 := rfl
theorem cl_0 : pr.cls[0]? = some { init := none, val := false, ms := [], exn := true, flds := [], ups := [] } := rfl
theorem cl_1 : pr.cls[1]? = some { init := none, val := false, ms := [], exn := true, flds := [[112, 97, 114, 116]], ups := [0] } := rfl
theorem cl_2 : pr.cls[2]? = some { init := none, val := false, ms := [], exn := true, flds := [[112, 97, 114, 116]], ups := [0] } := rfl
theorem cl_3 : pr.cls[3]? = some { init := (some 34), val := true, ms := [([95, 95, 101, 113, 95, 95], 35), ([112, 108, 97, 99, 101, 115], 36), ([116, 111, 108, 100], 37)], exn := false, flds := [[116, 101, 114, 109]], ups := [] } := rfl
theorem und_0_0 : under pr 0 0 = true := by decide
theorem und_0_1 : under pr 0 1 = false := by decide
theorem und_0_2 : under pr 0 2 = false := by decide
theorem und_0_3 : under pr 0 3 = false := by decide
theorem und_1_0 : under pr 1 0 = true := by decide
theorem und_1_1 : under pr 1 1 = true := by decide
theorem und_1_2 : under pr 1 2 = false := by decide
theorem und_1_3 : under pr 1 3 = false := by decide
theorem und_2_0 : under pr 2 0 = true := by decide
theorem und_2_1 : under pr 2 1 = false := by decide
theorem und_2_2 : under pr 2 2 = true := by decide
theorem und_2_3 : under pr 2 3 = false := by decide
theorem und_3_0 : under pr 3 0 = false := by decide
theorem und_3_1 : under pr 3 1 = false := by decide
theorem und_3_2 : under pr 3 2 = false := by decide
theorem und_3_3 : under pr 3 3 = true := by decide
theorem rn_is_row (n : Nat) (es : List E) (C : Cells) : run pr (n + 1) 0 es C = body pr (run pr n) ⟨1, 1, b_is_row⟩ es C := rfl
theorem rn_is_number (n : Nat) (es : List E) (C : Cells) : run pr (n + 1) 1 es C = body pr (run pr n) ⟨1, 1, b_is_number⟩ es C := rfl
theorem rn_is_below (n : Nat) (es : List E) (C : Cells) : run pr (n + 1) 2 es C = body pr (run pr n) ⟨2, 2, b_is_below⟩ es C := rfl
theorem rn_is_name (n : Nat) (es : List E) (C : Cells) : run pr (n + 1) 3 es C = body pr (run pr n) ⟨1, 2, b_is_name⟩ es C := rfl
theorem rn_check_kind (n : Nat) (es : List E) (C : Cells) : run pr (n + 1) 4 es C = body pr (run pr n) ⟨1, 1, b_check_kind⟩ es C := rfl
theorem rn_check_part_kinds (n : Nat) (es : List E) (C : Cells) : run pr (n + 1) 5 es C = body pr (run pr n) ⟨2, 2, b_check_part_kinds⟩ es C := rfl
theorem rn_is_kind (n : Nat) (es : List E) (C : Cells) : run pr (n + 1) 6 es C = body pr (run pr n) ⟨1, 1, b_is_kind⟩ es C := rfl
theorem rn_plain (n : Nat) (es : List E) (C : Cells) : run pr (n + 1) 7 es C = body pr (run pr n) ⟨1, 1, b_plain⟩ es C := rfl
theorem rn_check_term (n : Nat) (es : List E) (C : Cells) : run pr (n + 1) 8 es C = body pr (run pr n) ⟨2, 2, b_check_term⟩ es C := rfl
theorem rn_check_part_terms (n : Nat) (es : List E) (C : Cells) : run pr (n + 1) 9 es C = body pr (run pr n) ⟨3, 6, b_check_part_terms⟩ es C := rfl
theorem rn_is_leaf_right (n : Nat) (es : List E) (C : Cells) : run pr (n + 1) 10 es C = body pr (run pr n) ⟨3, 3, b_is_leaf_right⟩ es C := rfl
theorem rn_kept (n : Nat) (es : List E) (C : Cells) : run pr (n + 1) 11 es C = body pr (run pr n) ⟨1, 4, b_kept⟩ es C := rfl
theorem rn_check_program (n : Nat) (es : List E) (C : Cells) : run pr (n + 1) 12 es C = body pr (run pr n) ⟨1, 1, b_check_program⟩ es C := rfl
theorem rn_subterms (n : Nat) (es : List E) (C : Cells) : run pr (n + 1) 13 es C = body pr (run pr n) ⟨1, 2, b_subterms⟩ es C := rfl
theorem rn_kinds_in (n : Nat) (es : List E) (C : Cells) : run pr (n + 1) 14 es C = body pr (run pr n) ⟨1, 3, b_kinds_in⟩ es C := rfl
theorem rn_retold (n : Nat) (es : List E) (C : Cells) : run pr (n + 1) 15 es C = body pr (run pr n) ⟨2, 7, b_retold⟩ es C := rfl
theorem rn_size_of (n : Nat) (es : List E) (C : Cells) : run pr (n + 1) 16 es C = body pr (run pr n) ⟨1, 1, b_size_of⟩ es C := rfl
theorem rn_count (n : Nat) (es : List E) (C : Cells) : run pr (n + 1) 17 es C = body pr (run pr n) ⟨1, 2, b_count⟩ es C := rfl
theorem rn_forms_of (n : Nat) (es : List E) (C : Cells) : run pr (n + 1) 18 es C = body pr (run pr n) ⟨1, 5, b_forms_of⟩ es C := rfl
theorem rn_bare (n : Nat) (es : List E) (C : Cells) : run pr (n + 1) 19 es C = body pr (run pr n) ⟨1, 2, b_bare⟩ es C := rfl
theorem rn__law_number (n : Nat) (es : List E) (C : Cells) : run pr (n + 1) 20 es C = body pr (run pr n) ⟨2, 7, b__law_number⟩ es C := rfl
theorem rn__law_take (n : Nat) (es : List E) (C : Cells) : run pr (n + 1) 21 es C = body pr (run pr n) ⟨2, 2, b__law_take⟩ es C := rfl
theorem rn__law_pick (n : Nat) (es : List E) (C : Cells) : run pr (n + 1) 22 es C = body pr (run pr n) ⟨2, 2, b__law_pick⟩ es C := rfl
theorem rn__law_kind (n : Nat) (es : List E) (C : Cells) : run pr (n + 1) 23 es C = body pr (run pr n) ⟨2, 3, b__law_kind⟩ es C := rfl
theorem rn__law_told (n : Nat) (es : List E) (C : Cells) : run pr (n + 1) 24 es C = body pr (run pr n) ⟨2, 3, b__law_told⟩ es C := rfl
theorem rn__law_term (n : Nat) (es : List E) (C : Cells) : run pr (n + 1) 25 es C = body pr (run pr n) ⟨4, 8, b__law_term⟩ es C := rfl
theorem rn__law_leaf (n : Nat) (es : List E) (C : Cells) : run pr (n + 1) 26 es C = body pr (run pr n) ⟨2, 2, b__law_leaf⟩ es C := rfl
theorem rn__law_parts (n : Nat) (es : List E) (C : Cells) : run pr (n + 1) 27 es C = body pr (run pr n) ⟨1, 1, b__law_parts⟩ es C := rfl
theorem rn__law_places (n : Nat) (es : List E) (C : Cells) : run pr (n + 1) 28 es C = body pr (run pr n) ⟨1, 3, b__law_places⟩ es C := rfl
theorem rn__law_count (n : Nat) (es : List E) (C : Cells) : run pr (n + 1) 29 es C = body pr (run pr n) ⟨1, 2, b__law_count⟩ es C := rfl
theorem rn__law_retold (n : Nat) (es : List E) (C : Cells) : run pr (n + 1) 30 es C = body pr (run pr n) ⟨2, 6, b__law_retold⟩ es C := rfl
theorem rn__law_forms (n : Nat) (es : List E) (C : Cells) : run pr (n + 1) 31 es C = body pr (run pr n) ⟨2, 3, b__law_forms⟩ es C := rfl
theorem rn__law_listed (n : Nat) (es : List E) (C : Cells) : run pr (n + 1) 32 es C = body pr (run pr n) ⟨1, 2, b__law_listed⟩ es C := rfl
theorem rn_law (n : Nat) (es : List E) (C : Cells) : run pr (n + 1) 33 es C = body pr (run pr n) ⟨1, 14, b_law⟩ es C := rfl
theorem rn_Program___init__ (n : Nat) (es : List E) (C : Cells) : run pr (n + 1) 34 es C = body pr (run pr n) ⟨2, 2, b_Program___init__⟩ es C := rfl
theorem rn_Program___eq__ (n : Nat) (es : List E) (C : Cells) : run pr (n + 1) 35 es C = body pr (run pr n) ⟨2, 2, b_Program___eq__⟩ es C := rfl
theorem rn_Program_places (n : Nat) (es : List E) (C : Cells) : run pr (n + 1) 36 es C = body pr (run pr n) ⟨1, 1, b_Program_places⟩ es C := rfl
theorem rn_Program_told (n : Nat) (es : List E) (C : Cells) : run pr (n + 1) 37 es C = body pr (run pr n) ⟨2, 5, b_Program_told⟩ es C := rfl
-- PRF g_0, g_1, g_2, g_3, g_4, g_5, g_6, gd_0, lm_0, l_0, lm_1, l_1, lm_2, l_2, cl_0, cl_1, cl_2, cl_3, und_0_0, und_0_1, und_0_2, und_0_3, und_1_0, und_1_1, und_1_2, und_1_3, und_2_0, und_2_1, und_2_2, und_2_3, und_3_0, und_3_1, und_3_2, und_3_3
end K05

end

section
set_option maxRecDepth 512
set_option maxRecDepth 100000
set_option maxHeartbeats 4000000
set_option linter.all false
namespace K05
open Ev
/-! kinds -/
inductive Kd where
  | any | num | bit
  | two (p : Bool) (a b : Kd)
  deriving DecidableEq
def wd (p : Bool) : Nm := if p then [112, 97, 105, 114] else [102, 117, 110]
def row (l : Bool) (xs : List D) : D := if l then .lst xs else .tup xs
def enc (l : Bool) : Kd → D
  | .any => .str [97, 110, 121]
  | .num => .str [110, 117, 109]
  | .bit => .str [98, 105, 116]
  | .two p a b => row l [.str (wd p), enc l a, enc l b]
def dp : Kd → Nat
  | .two _ a b => max (dp a) (dp b) + 1
  | _ => 0
theorem pd_enc {l : Bool} (k : Kd) : pd (enc l k) = true := by
  induction k with
  | two p a b iha ihb => cases l <;> cases p <;> simp [enc, row, pd, pds, iha, ihb, wd]
  | _ => rfl
theorem dep_enc {l : Bool} (k : Kd) : dep (enc l k) = dp k := by
  induction k with
  | two p a b iha ihb => cases l <;> simp [enc, row, dep, deps, iha, ihb, dp]
  | _ => rfl
theorem shp_enc {l : Bool} {k : Kd} (hk : dp k ≤ 20) : shp (enc l k) = true := by
  unfold shp
  rw [pd_enc, dep_enc]
  simp; omega
theorem eqD_enc : ∀ a b : Kd, eqD (enc false a) (enc false b) = decide (a = b)
  | .any, b => by cases b <;> simp [enc, row, eqD]
  | .num, b => by cases b <;> simp [enc, row, eqD]
  | .bit, b => by cases b <;> simp [enc, row, eqD]
  | .two p a1 a2, b => by
    cases b <;> simp [enc, row, eqD, eqDs]
    case two q b1 b2 =>
      rw [eqD_enc a1 b1, eqD_enc a2 b2]
      cases p <;> cases q <;> simp [wd]
def isTwo : Kd → Bool
  | .two _ _ _ => true
  | _ => false
theorem isi_str {l : Bool} {k : Kd} {C : Cells} : isiE C (.v (enc l k)) [.str] = some (!isTwo k) := by cases k <;> cases l <;> rfl
theorem isi_tup {k : Kd} {C : Cells} : isiE C (.v (enc false k)) [.tuple] = some (isTwo k) := by cases k <;> rfl
theorem isi_row {l : Bool} {k : Kd} {C : Cells} : isiE C (.v (enc l k)) [.list, .tuple] = some (isTwo k) := by cases k <;> cases l <;> rfl
theorem eq_enc {a b : Kd} (h : dp a ≤ 20) (h' : dp b ≤ 20) : copV .eq (enc false a) (enc false b) = some (decide (a = b)) := by rw [copV_eq (shp_enc h) (shp_enc h'), eqD_enc]
theorem ix0 {l p : Bool} {a b : Kd} : idxV (enc l (.two p a b)) (.int 0) = some (.str (wd p)) := by cases l <;> rfl
theorem ix1 {l p : Bool} {a b : Kd} : idxV (enc l (.two p a b)) (.int 1) = some (enc l a) := by cases l <;> rfl
theorem ix2 {l p : Bool} {a b : Kd} : idxV (enc l (.two p a b)) (.int 2) = some (enc l b) := by cases l <;> rfl
theorem in_bases {l : Bool} {k : Kd} (h : dp k ≤ 20) : copV .isin (enc l k) (.tup [.str [97, 110, 121], .str [110, 117, 109], .str [98, 105, 116]]) = some (!isTwo k) := by
  have := shp_enc (l := l) h
  cases k <;> first | (cases l <;> rfl) | skip
  simp only [copV, this]
  cases l <;> rfl
theorem in_words {p : Bool} : copV .notin (.str (wd p)) (.tup [.str [102, 117, 110], .str [112, 97, 105, 114]]) = some false := by cases p <;> rfl
theorem len3 {l p : Bool} {a b : Kd} : biV .len [enc l (.two p a b)] = some (.int 3) := by cases l <;> rfl
theorem two_dp {p : Bool} {a b : Kd} {n : Nat} (h : dp (.two p a b) ≤ n) : dp a ≤ n ∧ dp b ≤ n ∧ dp a < n ∧ dp b < n ∧ dp a + 1 ≤ n ∧ dp b + 1 ≤ n := by simp [dp] at h; omega
theorem two_dp' {p : Bool} {a b : Kd} {n : Nat} (h : dp (.two p a b) < n + 1) : dp a < n ∧ dp b < n := by simp [dp] at h; omega
theorem succ_of {m n : Nat} (h : m < n) : ∃ k, n = k + 1 := ⟨n - 1, by omega⟩
theorem run_row (d : D) (n : Nat) (b : Bool) (h : isiE [] (.v d) [.list, .tuple] = some b) : run pr (n + 1) 0 [.v d] [] = .ok (.v (.bl b)) [] := by
  rw [rn_is_row, x_body rfl]
  unfold b_is_row
  simp [h]
theorem run_part (l : Bool) : ∀ (k : Kd) (d : Int) (n : Nat), (dp k : Int) ≤ d → dp k ≤ 20 → dp k + 1 < n → run pr n 5 [.v (enc l k), .v (.int d)] [] = .ok (.v .non) [] := by
  intro k
  induction k with
  | two p a b iha ihb =>
    intro d n h1 h2 h3
    obtain ⟨n, rfl⟩ := succ_of h3
    have hd : d ≠ 0 := by simp [dp] at h1; omega
    obtain ⟨m, rfl⟩ : ∃ m, n = m + 1 := ⟨n - 1, by simp [dp] at h3; omega⟩
    rw [rn_check_part_kinds, x_body rfl]
    unfold b_check_part_kinds
    have e1 := two_dp h2
    have p0 := pure_ok (C := []) (f := 0) (ds := [enc l (.two p a b)]) (run_row (enc l (.two p a b)) m true isi_row)
    have p1 := pure_ok (C := []) (f := 5) (ds := [enc l a, .int (d - 1)]) (iha (d - 1) (m + 1) (by simp [dp] at h1; omega) e1.1 (by simp [dp] at h3; omega))
    have p2 := pure_ok (C := []) (f := 5) (ds := [enc l b, .int (d - 1)]) (ihb (d - 1) (m + 1) (by simp [dp] at h1; omega) e1.2.1 (by simp [dp] at h3; omega))
    have q0 : copV .eq (.int d) (.int 0) = some false := by simp [c_eq, hd]
    have q1 : copV .ne (.int 3) (.int 3) = some false := rfl
    simp [g_0, g_1, g_2, g_3, g_4, g_5, g_6, gd_0, lm_0, l_0, lm_1, l_1, lm_2, l_2, cl_0, cl_1, cl_2, cl_3, und_0_0, und_0_1, und_0_2, und_0_3, und_1_0, und_1_1, und_1_2, und_1_3, und_2_0, und_2_1, und_2_2, und_2_3, und_3_0, und_3_1, und_3_2, und_3_3, isi_str, isTwo, p0, p1, p2, q0, q1, len3, ix0, ix1, ix2, in_words, b_sub]
  | _ =>
    intro d n h1 h2 h3
    obtain ⟨n, rfl⟩ := succ_of h3
    rw [rn_check_part_kinds, x_body rfl]
    unfold b_check_part_kinds
    simp [g_0, g_1, g_2, g_3, g_4, g_5, g_6, gd_0, lm_0, l_0, lm_1, l_1, lm_2, l_2, cl_0, cl_1, cl_2, cl_3, und_0_0, und_0_1, und_0_2, und_0_3, und_1_0, und_1_1, und_1_2, und_1_3, und_2_0, und_2_1, und_2_2, und_2_3, und_3_0, und_3_1, und_3_2, und_3_3, isi_str, isTwo, in_bases, h2]
theorem run_check (l : Bool) (k : Kd) (n : Nat) (h : dp k ≤ 4) (hn : 7 ≤ n) : run pr n 4 [.v (enc l k)] [] = .ok (.v .non) [] := by
  obtain ⟨n, rfl⟩ := succ_of hn
  have p1 := pure_ok (C := []) (f := 5) (ds := [enc l k, .int 4]) (run_part l k 4 n (by omega) (by omega) (by omega))
  rw [rn_check_kind, x_body rfl]
  unfold b_check_kind
  simp [g_0, g_1, g_2, g_3, g_4, g_5, g_6, gd_0, lm_0, l_0, lm_1, l_1, lm_2, l_2, cl_0, cl_1, cl_2, cl_3, und_0_0, und_0_1, und_0_2, und_0_3, und_1_0, und_1_1, und_1_2, und_1_3, und_2_0, und_2_1, und_2_2, und_2_3, und_3_0, und_3_1, und_3_2, und_3_3, p1]
theorem run_is_kind (l : Bool) (k : Kd) (n : Nat) (h : dp k ≤ 4) (hn : 8 ≤ n) : run pr n 6 [.v (enc l k)] [] = .ok (.v (.bl true)) [] := by
  obtain ⟨n, rfl⟩ := succ_of hn
  have p1 := pure_ok (C := []) (f := 4) (ds := [enc l k]) (run_check l k n h (by omega))
  rw [rn_is_kind, x_body rfl]
  unfold b_is_kind
  simp [g_0, g_1, g_2, g_3, g_4, g_5, g_6, gd_0, lm_0, l_0, lm_1, l_1, lm_2, l_2, cl_0, cl_1, cl_2, cl_3, und_0_0, und_0_1, und_0_2, und_0_3, und_1_0, und_1_1, und_1_2, und_1_3, und_2_0, und_2_1, und_2_2, und_2_3, und_3_0, und_3_1, und_3_2, und_3_3, p1]
theorem run_plain (l : Bool) : ∀ (k : Kd) (n : Nat), dp k < n → run pr n 7 [.v (enc l k)] [] = .ok (.v (enc false k)) [] := by
  intro k
  induction k with
  | two p a b iha ihb =>
    intro n h3
    obtain ⟨n, rfl⟩ := succ_of h3
    have e3 := two_dp' h3
    have p1 := pure_ok (C := []) (f := 7) (ds := [enc l a]) (iha n e3.1)
    have p2 := pure_ok (C := []) (f := 7) (ds := [enc l b]) (ihb n e3.2)
    rw [rn_plain, x_body rfl]
    unfold b_plain
    simp [push1_v, line, isi_str, isTwo, ix0, ix1, ix2, p1, p2]
    cases l <;> simp [enc, row]
  | _ =>
    intro n h3
    obtain ⟨n, rfl⟩ := succ_of h3
    cases l <;> rfl
end K05

end

section
set_option maxRecDepth 512
set_option maxRecDepth 100000
set_option maxHeartbeats 4000000
set_option linter.all false
namespace K05
open Ev
/-! terms -/
inductive Lf where
  | num (i : Int) | bit (b : Bool) | nam (x : Nm)
  deriving DecidableEq
inductive W2 where
  | call | pair | sum | less
  deriving DecidableEq
inductive Tm where
  | lf (q : Lf)
  | fn (x : Nm) (k : Kd) (t : Tm)
  | as_ (k : Kd) (t : Tm)
  | lt (x : Nm) (a b : Tm)
  | n1 (w : Bool) (a : Tm)
  | n2 (w : W2) (a b : Tm)
  | n3 (a b c : Tm)
  deriving DecidableEq
def lfw : Lf → Nm
  | .num _ => [110, 117, 109, 98, 101, 114]
  | .bit _ => [98, 105, 116]
  | .nam _ => [110, 97, 109, 101]
def lfd : Lf → D
  | .num i => .int i
  | .bit b => .bl b
  | .nam x => .str x
def w1 (w : Bool) : Nm := if w then [114, 105, 103, 104, 116] else [108, 101, 102, 116]
def w2w : W2 → Nm
  | .call => [99, 97, 108, 108]
  | .pair => [112, 97, 105, 114]
  | .sum => [115, 117, 109]
  | .less => [108, 101, 115, 115]
def hw : Tm → Nm
  | .lf q => lfw q
  | .fn _ _ _ => [102, 117, 110]
  | .as_ _ _ => [97, 115]
  | .lt _ _ _ => [108, 101, 116]
  | .n1 w _ => w1 w
  | .n2 w _ _ => w2w w
  | .n3 _ _ _ => [105, 102]
def encT (l : Bool) : Tm → D
  | .lf q => row l [.str (lfw q), lfd q]
  | .fn x k t => row l [.str [102, 117, 110], .str x, enc l k, encT l t]
  | .as_ k t => row l [.str [97, 115], enc l k, encT l t]
  | .lt x a b => row l [.str [108, 101, 116], .str x, encT l a, encT l b]
  | .n1 w a => row l [.str (w1 w), encT l a]
  | .n2 w a b => row l [.str (w2w w), encT l a, encT l b]
  | .n3 a b c => row l [.str [105, 102], encT l a, encT l b, encT l c]
def tl (l : Bool) : Tm → List D
  | .lf q => [lfd q]
  | .fn x k t => [.str x, enc l k, encT l t]
  | .as_ k t => [enc l k, encT l t]
  | .lt x a b => [.str x, encT l a, encT l b]
  | .n1 _ a => [encT l a]
  | .n2 _ a b => [encT l a, encT l b]
  | .n3 a b c => [encT l a, encT l b, encT l c]
theorem encT_eq {l : Bool} {t : Tm} : encT l t = row l (.str (hw t) :: tl l t) := by cases t <;> rfl
def ht : Tm → Nat
  | .lf _ => 1
  | .fn _ _ t => ht t + 1
  | .as_ _ t => ht t + 1
  | .lt _ a b => max (ht a) (ht b) + 1
  | .n1 _ a => ht a + 1
  | .n2 _ a b => max (ht a) (ht b) + 1
  | .n3 a b c => max (ht a) (max (ht b) (ht c)) + 1
theorem ht_pos (t : Tm) : 0 < ht t := by cases t <;> simp [ht]
def nms4 : List Nm := [[120], [121], [122], [119]]
def okT : List Nm → Tm → Prop
  | ns, .lf (.num i) => 0 ≤ i ∧ i < 1000
  | ns, .lf (.bit _) => True
  | ns, .lf (.nam x) => x ∈ ns
  | ns, .fn x k t => x ∈ nms4 ∧ dp k ≤ 1 ∧ okT (ns ++ [x]) t
  | ns, .as_ k t => dp k ≤ 1 ∧ okT ns t
  | ns, .lt x a b => x ∈ nms4 ∧ okT ns a ∧ okT (ns ++ [x]) b
  | ns, .n1 _ a => okT ns a
  | ns, .n2 _ a b => okT ns a ∧ okT ns b
  | ns, .n3 a b c => okT ns a ∧ okT ns b ∧ okT ns c
def isFn : Tm → Bool
  | .fn _ _ _ => true
  | _ => false
def isAs : Tm → Bool
  | .as_ _ _ => true
  | _ => false
def isLt : Tm → Bool
  | .lt _ _ _ => true
  | _ => false
def isLf : Tm → Bool
  | .lf _ => true
  | _ => false
theorem row_ix {l : Bool} {xs : List D} {i : Int} : idxV (row l xs) (.int i) = atD xs i := by cases l <;> rfl
theorem row_len {l : Bool} {xs : List D} : biV .len [row l xs] = some (.int xs.length) := by cases l <;> rfl
theorem row_cut {l : Bool} {xs : List D} {a b : Option Int} : slV (row l xs) a b = some (row l (cutL xs a b)) := by cases l <;> rfl
theorem row_seq {l : Bool} {xs : List D} : seqD (row l xs) = some xs := by cases l <;> rfl
theorem row_isi {l : Bool} {xs : List D} {C : Cells} : isiE C (.v (row l xs)) [.list, .tuple] = some true := by cases l <;> rfl
theorem f_ix0 {l : Bool} {t : Tm} : idxV (encT l t) (.int 0) = some (.str (hw t)) := by rw [encT_eq, row_ix]; simp [atD, ixN]
theorem f_sl {l : Bool} {t : Tm} : slV (encT l t) (some 1) none = some (row l (tl l t)) := by rw [encT_eq, row_cut]; simp [cutL, sIx]

theorem f_isi {l : Bool} {t : Tm} {C : Cells} : isiE C (.v (encT l t)) [.list, .tuple] = some true := by rw [encT_eq, row_isi]
theorem w_fun {t : Tm} : copV .eq (.str (hw t)) (.str [102, 117, 110]) = some (isFn t) := by
  cases t <;> first | rfl | skip
  case lf q => cases q <;> rfl
  case n1 w a => cases w <;> rfl
  case n2 w a b => cases w <;> rfl
theorem w_as {t : Tm} : copV .eq (.str (hw t)) (.str [97, 115]) = some (isAs t) := by
  cases t <;> first | rfl | skip
  case lf q => cases q <;> rfl
  case n1 w a => cases w <;> rfl
  case n2 w a b => cases w <;> rfl
theorem w_nas {t : Tm} : copV .ne (.str (hw t)) (.str [97, 115]) = some (!isAs t) := by
  cases t <;> first | rfl | skip
  case lf q => cases q <;> rfl
  case n1 w a => cases w <;> rfl
  case n2 w a b => cases w <;> rfl
theorem w_let {t : Tm} : copV .eq (.str (hw t)) (.str [108, 101, 116]) = some (isLt t) := by
  cases t <;> first | rfl | skip
  case lf q => cases q <;> rfl
  case n1 w a => cases w <;> rfl
  case n2 w a b => cases w <;> rfl
theorem w_nlet {t : Tm} : copV .ne (.str (hw t)) (.str [108, 101, 116]) = some (!isLt t) := by
  cases t <;> first | rfl | skip
  case lf q => cases q <;> rfl
  case n1 w a => cases w <;> rfl
  case n2 w a b => cases w <;> rfl
theorem w_lf {t : Tm} : copV .isin (.str (hw t)) (.tup [.str [110, 117, 109, 98, 101, 114], .str [98, 105, 116], .str [110, 97, 109, 101]]) = some (isLf t) := by
  cases t <;> first | rfl | skip
  case lf q => cases q <;> rfl
  case n1 w a => cases w <;> rfl
  case n2 w a b => cases w <;> rfl
theorem w_nlf {t : Tm} : copV .notin (.str (hw t)) (.tup [.str [110, 117, 109, 98, 101, 114], .str [98, 105, 116], .str [110, 97, 109, 101]]) = some (!isLf t) := by
  cases t <;> first | rfl | skip
  case lf q => cases q <;> rfl
  case n1 w a => cases w <;> rfl
  case n2 w a b => cases w <;> rfl
theorem w_fa {t : Tm} : copV .isin (.str (hw t)) (.tup [.str [102, 117, 110], .str [97, 115]]) = some (isFn t || isAs t) := by
  cases t <;> first | rfl | skip
  case lf q => cases q <;> rfl
  case n1 w a => cases w <;> rfl
  case n2 w a b => cases w <;> rfl
def forms : List (Nm × D) := [([110, 117, 109, 98, 101, 114], .int (1)), ([98, 105, 116], .int (1)), ([110, 97, 109, 101], .int (1)), ([102, 117, 110], .int (3)), ([99, 97, 108, 108], .int (2)), ([112, 97, 105, 114], .int (2)), ([108, 101, 102, 116], .int (1)), ([114, 105, 103, 104, 116], .int (1)), ([115, 117, 109], .int (2)), ([108, 101, 115, 115], .int (2)), ([105, 102], .int (3)), ([97, 115], .int (2)), ([108, 101, 116], .int (3))]
theorem gdf : pr.gd[0]? = some forms := gd_0
def ar : Tm → Nat
  | .lf _ => 1
  | .fn _ _ _ => 3
  | .as_ _ _ => 2
  | .lt _ _ _ => 3
  | .n1 _ _ => 1
  | .n2 _ _ _ => 2
  | .n3 _ _ _ => 3
theorem tl_len {l : Bool} {t : Tm} : (tl l t).length = ar t := by cases t <;> rfl
theorem ar_pos {t : Tm} : 0 < ar t := by cases t <;> simp [ar]
theorem f_form {t : Tm} : lookS (hw t) forms = some (.int (ar t)) := by
  cases t <;> first | rfl | skip
  case lf q => cases q <;> rfl
  case n1 w a => cases w <;> rfl
  case n2 w a b => cases w <;> rfl
theorem hw_isi {t : Tm} {C : Cells} : isiE C (.v (.str (hw t))) [.str] = some true := nrfl rfl
theorem f_len {l : Bool} {t : Tm} : biV .len [encT l t] = some (.int (ar t + 1)) := by rw [encT_eq, row_len]; simp [tl_len]
/-! names -/
theorem run_isname (x : Nm) (h : x ∈ nms4) (n : Nat) : run pr (n + 1) 3 [.v (.str x)] [] = .ok (.v (.bl true)) [] := by
  simp only [nms4, List.mem_cons, List.mem_nil_iff, or_false] at h
  rcases h with rfl | rfl | rfl | rfl <;> rfl
theorem shps_names : ∀ {ns : List Nm}, (∀ x ∈ ns, x ∈ nms4) → shps (ns.map .str) = true
  | [], _ => rfl
  | x :: ns, h => by
    have h1 := h x (List.mem_cons_self ..)
    have h2 := shps_names (ns := ns) fun y hy => h y (List.mem_cons_of_mem _ hy)
    simp only [nms4, List.mem_cons, List.mem_nil_iff, or_false] at h1
    simp only [List.map_cons, shps, h2, Bool.and_true]
    rcases h1 with rfl | rfl | rfl | rfl <;> rfl
theorem memD_names (x : Nm) : ∀ ns : List Nm, memD (.str x) (ns.map .str) = decide (x ∈ ns)
  | [] => rfl
  | y :: ns => by
    simp only [List.map_cons, memD, memD_names x ns, List.mem_cons, eqD]
    by_cases e : x = y
    · subst e; simp
    · have : (y == x) = false := by simp; exact fun z => e z.symm
      simp [this, e]
theorem in_names {x : Nm} {ns : List Nm} (h : ∀ x ∈ ns, x ∈ nms4) (hx : x ∈ ns) : copV .isin (.str x) (.tup (ns.map .str)) = some true := by
  have h1 := shps_names h
  have h2 : shp (.str x) = true := by
    have := h x hx
    simp only [nms4, List.mem_cons, List.mem_nil_iff, or_false] at this
    rcases this with rfl | rfl | rfl | rfl <;> rfl
  simp only [copV, h1, h2, memD_names]
  simp [hx]
theorem run_below (i : Int) (h : 0 ≤ i ∧ i < 1000) (n : Nat) : run pr (n + 2) 2 [.v (.int i), .v (.int 1000)] [] = .ok (.v (.bl true)) [] := by
  have p1 : run pr (n + 1) 1 [.v (.int i)] [] = .ok (.v (.bl true)) [] := by
    rw [rn_is_number, x_body rfl]
    unfold b_is_number
    have e1 : isiE [] (.v (.int i)) [.int] = some true := rfl
    have e2 : isiE [] (.v (.int i)) [.bool] = some false := rfl
    simp [e1, e2, c_ge, h.1]
  have p1 := pure_ok (C := []) (f := 1) (ds := [.int i]) p1
  rw [rn_is_below, x_body rfl]
  unfold b_is_below
  simp [p1, c_lt, h.2]
theorem run_leaf (l : Bool) (t : Tm) (ns : List Nm) (hn : ∀ x ∈ ns, x ∈ nms4) (h : okT ns t) (n : Nat) (h9 : 10 ≤ n) : run pr n 10 [.v (.str (hw t)), .v (row l (tl l t)), .v (.tup (ns.map .str))] [] = .ok (.v (.bl true)) [] := by
  obtain ⟨n, rfl⟩ : ∃ m, n = m + 3 := ⟨n - 3, by omega⟩
  rw [rn_is_leaf_right, x_body rfl]
  unfold b_is_leaf_right
  cases t with
  | lf q =>
    cases q with
    | num i =>
      have p1 := pure_ok (C := []) (f := 2) (ds := [.int i, .int 1000]) (run_below i h n)
      have e1 : copV .eq (.str [110, 117, 109, 98, 101, 114]) (.str [110, 117, 109, 98, 101, 114]) = some true := rfl
      simp [g_0, g_1, g_2, g_3, g_4, g_5, g_6, gd_0, lm_0, l_0, lm_1, l_1, lm_2, l_2, cl_0, cl_1, cl_2, cl_3, und_0_0, und_0_1, und_0_2, und_0_3, und_1_0, und_1_1, und_1_2, und_1_3, und_2_0, und_2_1, und_2_2, und_2_3, und_3_0, und_3_1, und_3_2, und_3_3, hw, lfw, tl, lfd, row_ix, atD, ixN, p1, e1]
    | bit b =>
      have e1 : copV .eq (.str [98, 105, 116]) (.str [110, 117, 109, 98, 101, 114]) = some false := rfl
      have e2 : copV .eq (.str [98, 105, 116]) (.str [98, 105, 116]) = some true := rfl
      have e3 : isiE [] (.v (.bl b)) [.bool] = some true := rfl
      simp [g_0, g_1, g_2, g_3, g_4, g_5, g_6, gd_0, lm_0, l_0, lm_1, l_1, lm_2, l_2, cl_0, cl_1, cl_2, cl_3, und_0_0, und_0_1, und_0_2, und_0_3, und_1_0, und_1_1, und_1_2, und_1_3, und_2_0, und_2_1, und_2_2, und_2_3, und_3_0, und_3_1, und_3_2, und_3_3, hw, lfw, tl, lfd, row_ix, atD, ixN, e1, e2, e3]
    | nam x =>
      have e1 : copV .eq (.str [110, 97, 109, 101]) (.str [110, 117, 109, 98, 101, 114]) = some false := rfl
      have e2 : copV .eq (.str [110, 97, 109, 101]) (.str [98, 105, 116]) = some false := rfl
      have e3 : copV .eq (.str [110, 97, 109, 101]) (.str [110, 97, 109, 101]) = some true := rfl
      have e4 : isiE [] (.v (.str x)) [.str] = some true := rfl
      have e5 := in_names hn h
      simp [g_0, g_1, g_2, g_3, g_4, g_5, g_6, gd_0, lm_0, l_0, lm_1, l_1, lm_2, l_2, cl_0, cl_1, cl_2, cl_3, und_0_0, und_0_1, und_0_2, und_0_3, und_1_0, und_1_1, und_1_2, und_1_3, und_2_0, und_2_1, und_2_2, und_2_3, und_3_0, und_3_1, und_3_2, und_3_3, hw, lfw, tl, lfd, row_ix, atD, ixN, e1, e2, e3, e4, e5]
  | fn x k t =>
    have p1 := pure_ok (C := []) (f := 3) (ds := [.str x]) (run_isname x h.1 (n + 1))
    have p2 := pure_ok (C := []) (f := 6) (ds := [enc l k]) (run_is_kind l k (n + 2) (by have := h.2.1; omega) (by omega))
    have e1 : copV .eq (.str [102, 117, 110]) (.str [110, 117, 109, 98, 101, 114]) = some false := rfl
    have e2 : copV .eq (.str [102, 117, 110]) (.str [98, 105, 116]) = some false := rfl
    have e3 : copV .eq (.str [102, 117, 110]) (.str [110, 97, 109, 101]) = some false := rfl
    have e4 : copV .eq (.str [102, 117, 110]) (.str [102, 117, 110]) = some true := rfl
    simp [g_0, g_1, g_2, g_3, g_4, g_5, g_6, gd_0, lm_0, l_0, lm_1, l_1, lm_2, l_2, cl_0, cl_1, cl_2, cl_3, und_0_0, und_0_1, und_0_2, und_0_3, und_1_0, und_1_1, und_1_2, und_1_3, und_2_0, und_2_1, und_2_2, und_2_3, und_3_0, und_3_1, und_3_2, und_3_3, hw, tl, row_ix, atD, ixN, p1, p2, e1, e2, e3, e4]
  | as_ k t =>
    have p2 := pure_ok (C := []) (f := 6) (ds := [enc l k]) (run_is_kind l k (n + 2) (by have := h.1; omega) (by omega))
    have e1 : copV .eq (.str [97, 115]) (.str [110, 117, 109, 98, 101, 114]) = some false := rfl
    have e2 : copV .eq (.str [97, 115]) (.str [98, 105, 116]) = some false := rfl
    have e3 : copV .eq (.str [97, 115]) (.str [110, 97, 109, 101]) = some false := rfl
    have e4 : copV .eq (.str [97, 115]) (.str [102, 117, 110]) = some false := rfl
    have e5 : copV .eq (.str [97, 115]) (.str [108, 101, 116]) = some false := rfl
    have e6 : copV .ne (.str [97, 115]) (.str [97, 115]) = some false := rfl
    simp [g_0, g_1, g_2, g_3, g_4, g_5, g_6, gd_0, lm_0, l_0, lm_1, l_1, lm_2, l_2, cl_0, cl_1, cl_2, cl_3, und_0_0, und_0_1, und_0_2, und_0_3, und_1_0, und_1_1, und_1_2, und_1_3, und_2_0, und_2_1, und_2_2, und_2_3, und_3_0, und_3_1, und_3_2, und_3_3, hw, tl, row_ix, atD, ixN, p2, e1, e2, e3, e4, e5, e6]
  | lt x a b =>
    have p1 := pure_ok (C := []) (f := 3) (ds := [.str x]) (run_isname x h.1 (n + 1))
    have e1 : copV .eq (.str [108, 101, 116]) (.str [110, 117, 109, 98, 101, 114]) = some false := rfl
    have e2 : copV .eq (.str [108, 101, 116]) (.str [98, 105, 116]) = some false := rfl
    have e3 : copV .eq (.str [108, 101, 116]) (.str [110, 97, 109, 101]) = some false := rfl
    have e4 : copV .eq (.str [108, 101, 116]) (.str [102, 117, 110]) = some false := rfl
    have e5 : copV .eq (.str [108, 101, 116]) (.str [108, 101, 116]) = some true := rfl
    simp [g_0, g_1, g_2, g_3, g_4, g_5, g_6, gd_0, lm_0, l_0, lm_1, l_1, lm_2, l_2, cl_0, cl_1, cl_2, cl_3, und_0_0, und_0_1, und_0_2, und_0_3, und_1_0, und_1_1, und_1_2, und_1_3, und_2_0, und_2_1, und_2_2, und_2_3, und_3_0, und_3_1, und_3_2, und_3_3, hw, tl, row_ix, atD, ixN, p1, e1, e2, e3, e4, e5]
  | n1 w a =>
    have e1 : copV .eq (.str (w1 w)) (.str [110, 117, 109, 98, 101, 114]) = some false := by cases w <;> rfl
    have e2 : copV .eq (.str (w1 w)) (.str [98, 105, 116]) = some false := by cases w <;> rfl
    have e3 : copV .eq (.str (w1 w)) (.str [110, 97, 109, 101]) = some false := by cases w <;> rfl
    have e4 : copV .eq (.str (w1 w)) (.str [102, 117, 110]) = some false := by cases w <;> rfl
    have e5 : copV .eq (.str (w1 w)) (.str [108, 101, 116]) = some false := by cases w <;> rfl
    have e6 : copV .ne (.str (w1 w)) (.str [97, 115]) = some true := by cases w <;> rfl
    simp [g_0, g_1, g_2, g_3, g_4, g_5, g_6, gd_0, lm_0, l_0, lm_1, l_1, lm_2, l_2, cl_0, cl_1, cl_2, cl_3, und_0_0, und_0_1, und_0_2, und_0_3, und_1_0, und_1_1, und_1_2, und_1_3, und_2_0, und_2_1, und_2_2, und_2_3, und_3_0, und_3_1, und_3_2, und_3_3, hw, e1, e2, e3, e4, e5, e6]
  | n2 w a b =>
    have e1 : copV .eq (.str (w2w w)) (.str [110, 117, 109, 98, 101, 114]) = some false := by cases w <;> rfl
    have e2 : copV .eq (.str (w2w w)) (.str [98, 105, 116]) = some false := by cases w <;> rfl
    have e3 : copV .eq (.str (w2w w)) (.str [110, 97, 109, 101]) = some false := by cases w <;> rfl
    have e4 : copV .eq (.str (w2w w)) (.str [102, 117, 110]) = some false := by cases w <;> rfl
    have e5 : copV .eq (.str (w2w w)) (.str [108, 101, 116]) = some false := by cases w <;> rfl
    have e6 : copV .ne (.str (w2w w)) (.str [97, 115]) = some true := by cases w <;> rfl
    simp [g_0, g_1, g_2, g_3, g_4, g_5, g_6, gd_0, lm_0, l_0, lm_1, l_1, lm_2, l_2, cl_0, cl_1, cl_2, cl_3, und_0_0, und_0_1, und_0_2, und_0_3, und_1_0, und_1_1, und_1_2, und_1_3, und_2_0, und_2_1, und_2_2, und_2_3, und_3_0, und_3_1, und_3_2, und_3_3, hw, e1, e2, e3, e4, e5, e6]
  | n3 a b c =>
    have e1 : copV .eq (.str [105, 102]) (.str [110, 117, 109, 98, 101, 114]) = some false := rfl
    have e2 : copV .eq (.str [105, 102]) (.str [98, 105, 116]) = some false := rfl
    have e3 : copV .eq (.str [105, 102]) (.str [110, 97, 109, 101]) = some false := rfl
    have e4 : copV .eq (.str [105, 102]) (.str [102, 117, 110]) = some false := rfl
    have e5 : copV .eq (.str [105, 102]) (.str [108, 101, 116]) = some false := rfl
    have e6 : copV .ne (.str [105, 102]) (.str [97, 115]) = some true := rfl
    simp [g_0, g_1, g_2, g_3, g_4, g_5, g_6, gd_0, lm_0, l_0, lm_1, l_1, lm_2, l_2, cl_0, cl_1, cl_2, cl_3, und_0_0, und_0_1, und_0_2, und_0_3, und_1_0, und_1_1, und_1_2, und_1_3, und_2_0, und_2_1, und_2_2, und_2_3, und_3_0, und_3_1, und_3_2, und_3_3, hw, e1, e2, e3, e4, e5, e6]
end K05

end

section
set_option maxRecDepth 512
set_option maxRecDepth 100000
set_option maxHeartbeats 4000000
set_option linter.all false
namespace K05
open Ev
theorem ar1 {t : Tm} : ¬ ((ar t : Int) + 1 = 0) := by omega
theorem run_cp (l : Bool) : ∀ (t : Tm) (ns : List Nm), (∀ x ∈ ns, x ∈ nms4) → okT ns t → ∀ (d : Int) (n : Nat), (ht t : Int) ≤ d → ns.length + ht t ≤ 100 → ht t + 12 ≤ n →
    run pr n 9 [.v (encT l t), .v (.tup (ns.map .str)), .v (.int d)] [] = .ok (.v .non) [] := by
  intro t
  have mem1 : ∀ {ns : List Nm} {x : Nm}, (∀ x ∈ ns, x ∈ nms4) → x ∈ nms4 → ∀ y ∈ ns ++ [x], y ∈ nms4 := by
    intro ns x hn hx y hy
    rcases List.mem_append.mp hy with hy | hy
    · exact hn y hy
    · simp at hy; subst hy; exact hx
  induction t with
  | lf q =>
    intro ns hn h d n h1 hl h3
    simp only [ht] at h1 hl h3
    obtain ⟨n, rfl⟩ : ∃ m, n = m + 2 := ⟨n - 2, by omega⟩
    rw [rn_check_part_terms, x_body rfl]
    unfold b_check_part_terms
    have hd : ¬ d = 0 := by omega
    have p0 := pure_ok (C := []) (f := 0) (ds := [encT l (.lf q)]) (run_row (encT l (.lf q)) n true f_isi)
    have p1 := pure_ok (C := []) (f := 10) (ds := [.str (hw (.lf q)), row l (tl l (.lf q)), .tup (ns.map .str)]) (run_leaf l (.lf q) ns hn h (n + 1) (by omega))
    simp [gdf, hd, f_len, f_ix0, hw_isi, f_form, f_sl, row_len, tl_len, c_eq, c_ne, w_fun, w_let, w_as, w_nlf, row_ix, atD, ixN, b_sub, isFn, isLt, isAs, isLf, row_seq, line_eq', ar1, p0, p1]
  | fn x k t ih =>
    intro ns hn h d n h1 hl h3
    simp only [ht] at h1 hl h3
    obtain ⟨n, rfl⟩ : ∃ m, n = m + 2 := ⟨n - 2, by omega⟩
    rw [rn_check_part_terms, x_body rfl]
    unfold b_check_part_terms
    have hd : ¬ d = 0 := by omega
    have p0 := pure_ok (C := []) (f := 0) (ds := [encT l (.fn x k t)]) (run_row (encT l (.fn x k t)) n true f_isi)
    have p1 := pure_ok (C := []) (f := 10) (ds := [.str (hw (.fn x k t)), row l (tl l (.fn x k t)), .tup (ns.map .str)]) (run_leaf l (.fn x k t) ns hn h (n + 1) (by omega))
    have p2 := pure_ok (C := []) (f := 9) (ds := [encT l t, .tup ((ns ++ [x]).map .str), .int (d - 1)]) (ih (ns ++ [x]) (mem1 hn h.1) h.2.2 (d - 1) (n + 1) (by omega) (by simp; omega) (by omega))
    simp only [List.map_append, List.map_cons, List.map_nil] at p2
    have hl' : ns.length + 1 ≤ 16777216 := by omega
    simp [gdf, hd, f_len, f_ix0, hw_isi, f_form, f_sl, row_len, tl_len, c_eq, c_ne, w_fun, w_let, w_as, w_nlf, row_ix, atD, ixN, b_sub, isFn, isLt, isAs, isLf, row_seq, line_eq', ar1, p0, p1, hl']
    simp [tl, ar, row_ix, atD, ixN, b_sub, push1_v, line, p2, hl']
  | as_ k t ih =>
    intro ns hn h d n h1 hl h3
    simp only [ht] at h1 hl h3
    obtain ⟨n, rfl⟩ : ∃ m, n = m + 2 := ⟨n - 2, by omega⟩
    rw [rn_check_part_terms, x_body rfl]
    unfold b_check_part_terms
    have hd : ¬ d = 0 := by omega
    have p0 := pure_ok (C := []) (f := 0) (ds := [encT l (.as_ k t)]) (run_row (encT l (.as_ k t)) n true f_isi)
    have p1 := pure_ok (C := []) (f := 10) (ds := [.str (hw (.as_ k t)), row l (tl l (.as_ k t)), .tup (ns.map .str)]) (run_leaf l (.as_ k t) ns hn h (n + 1) (by omega))
    have p2 := pure_ok (C := []) (f := 9) (ds := [encT l t, .tup (ns.map .str), .int (d - 1)]) (ih ns hn h.2 (d - 1) (n + 1) (by omega) (by omega) (by omega))
    simp [gdf, hd, f_len, f_ix0, hw_isi, f_form, f_sl, row_len, tl_len, c_eq, c_ne, w_fun, w_let, w_as, w_nlf, row_ix, atD, ixN, b_sub, isFn, isLt, isAs, isLf, row_seq, line_eq', ar1, p0, p1]
    simp [tl, ar, row_ix, atD, ixN, b_sub, push1_v, line, p2]
  | lt x a b iha ihb =>
    intro ns hn h d n h1 hl h3
    simp only [ht] at h1 hl h3
    obtain ⟨n, rfl⟩ : ∃ m, n = m + 2 := ⟨n - 2, by omega⟩
    rw [rn_check_part_terms, x_body rfl]
    unfold b_check_part_terms
    have hd : ¬ d = 0 := by omega
    have p0 := pure_ok (C := []) (f := 0) (ds := [encT l (.lt x a b)]) (run_row (encT l (.lt x a b)) n true f_isi)
    have p1 := pure_ok (C := []) (f := 10) (ds := [.str (hw (.lt x a b)), row l (tl l (.lt x a b)), .tup (ns.map .str)]) (run_leaf l (.lt x a b) ns hn h (n + 1) (by omega))
    have p2 := pure_ok (C := []) (f := 9) (ds := [encT l a, .tup (ns.map .str), .int (d - 1)]) (iha ns hn h.2.1 (d - 1) (n + 1) (by omega) (by omega) (by omega))
    have p3 := pure_ok (C := []) (f := 9) (ds := [encT l b, .tup ((ns ++ [x]).map .str), .int (d - 1)]) (ihb (ns ++ [x]) (mem1 hn h.1) h.2.2 (d - 1) (n + 1) (by omega) (by simp; omega) (by omega))
    simp only [List.map_append, List.map_cons, List.map_nil] at p3
    have hl' : ns.length + 1 ≤ 16777216 := by omega
    simp [gdf, hd, f_len, f_ix0, hw_isi, f_form, f_sl, row_len, tl_len, c_eq, c_ne, w_fun, w_let, w_as, w_nlf, row_ix, atD, ixN, b_sub, isFn, isLt, isAs, isLf, row_seq, line_eq', ar1, p0, p1, hl']
    simp [tl, ar, row_ix, atD, ixN, b_sub, push1_v, line, p2, p3, hl']
  | n1 w a iha =>
    intro ns hn h d n h1 hl h3
    simp only [ht] at h1 hl h3
    obtain ⟨n, rfl⟩ : ∃ m, n = m + 2 := ⟨n - 2, by omega⟩
    rw [rn_check_part_terms, x_body rfl]
    unfold b_check_part_terms
    have hd : ¬ d = 0 := by omega
    have p0 := pure_ok (C := []) (f := 0) (ds := [encT l (.n1 w a)]) (run_row (encT l (.n1 w a)) n true f_isi)
    have p1 := pure_ok (C := []) (f := 10) (ds := [.str (hw (.n1 w a)), row l (tl l (.n1 w a)), .tup (ns.map .str)]) (run_leaf l (.n1 w a) ns hn h (n + 1) (by omega))
    have p2 := pure_ok (C := []) (f := 9) (ds := [encT l a, .tup (ns.map .str), .int (d - 1)]) (iha ns hn h (d - 1) (n + 1) (by omega) (by omega) (by omega))
    simp [gdf, hd, f_len, f_ix0, hw_isi, f_form, f_sl, row_len, tl_len, c_eq, c_ne, w_fun, w_let, w_as, w_nlf, row_ix, atD, ixN, b_sub, isFn, isLt, isAs, isLf, row_seq, line_eq', ar1, p0, p1]
    simp [tl, forG_cons, forG_nil, p2, b_sub]
  | n2 w a b iha ihb =>
    intro ns hn h d n h1 hl h3
    simp only [ht] at h1 hl h3
    obtain ⟨n, rfl⟩ : ∃ m, n = m + 2 := ⟨n - 2, by omega⟩
    rw [rn_check_part_terms, x_body rfl]
    unfold b_check_part_terms
    have hd : ¬ d = 0 := by omega
    have p0 := pure_ok (C := []) (f := 0) (ds := [encT l (.n2 w a b)]) (run_row (encT l (.n2 w a b)) n true f_isi)
    have p1 := pure_ok (C := []) (f := 10) (ds := [.str (hw (.n2 w a b)), row l (tl l (.n2 w a b)), .tup (ns.map .str)]) (run_leaf l (.n2 w a b) ns hn h (n + 1) (by omega))
    have p2 := pure_ok (C := []) (f := 9) (ds := [encT l a, .tup (ns.map .str), .int (d - 1)]) (iha ns hn h.1 (d - 1) (n + 1) (by omega) (by omega) (by omega))
    have p3 := pure_ok (C := []) (f := 9) (ds := [encT l b, .tup (ns.map .str), .int (d - 1)]) (ihb ns hn h.2 (d - 1) (n + 1) (by omega) (by omega) (by omega))
    simp [gdf, hd, f_len, f_ix0, hw_isi, f_form, f_sl, row_len, tl_len, c_eq, c_ne, w_fun, w_let, w_as, w_nlf, row_ix, atD, ixN, b_sub, isFn, isLt, isAs, isLf, row_seq, line_eq', ar1, p0, p1]
    simp [tl, forG_cons, forG_nil, p2, p3, b_sub]
  | n3 a b c iha ihb ihc =>
    intro ns hn h d n h1 hl h3
    simp only [ht] at h1 hl h3
    obtain ⟨n, rfl⟩ : ∃ m, n = m + 2 := ⟨n - 2, by omega⟩
    rw [rn_check_part_terms, x_body rfl]
    unfold b_check_part_terms
    have hd : ¬ d = 0 := by omega
    have p0 := pure_ok (C := []) (f := 0) (ds := [encT l (.n3 a b c)]) (run_row (encT l (.n3 a b c)) n true f_isi)
    have p1 := pure_ok (C := []) (f := 10) (ds := [.str (hw (.n3 a b c)), row l (tl l (.n3 a b c)), .tup (ns.map .str)]) (run_leaf l (.n3 a b c) ns hn h (n + 1) (by omega))
    have p2 := pure_ok (C := []) (f := 9) (ds := [encT l a, .tup (ns.map .str), .int (d - 1)]) (iha ns hn h.1 (d - 1) (n + 1) (by omega) (by omega) (by omega))
    have p3 := pure_ok (C := []) (f := 9) (ds := [encT l b, .tup (ns.map .str), .int (d - 1)]) (ihb ns hn h.2.1 (d - 1) (n + 1) (by omega) (by omega) (by omega))
    have p4 := pure_ok (C := []) (f := 9) (ds := [encT l c, .tup (ns.map .str), .int (d - 1)]) (ihc ns hn h.2.2 (d - 1) (n + 1) (by omega) (by omega) (by omega))
    simp [gdf, hd, f_len, f_ix0, hw_isi, f_form, f_sl, row_len, tl_len, c_eq, c_ne, w_fun, w_let, w_as, w_nlf, row_ix, atD, ixN, b_sub, isFn, isLt, isAs, isLf, row_seq, line_eq', ar1, p0, p1]
    simp [tl, forG_cons, forG_nil, p2, p3, p4, b_sub]
end K05

end

section
set_option maxRecDepth 512
set_option maxRecDepth 100000
set_option maxHeartbeats 4000000
set_option linter.all false
namespace K05
open Ev
theorem run_ct (l : Bool) (t : Tm) (h : okT [] t) (h9 : ht t ≤ 9) (n : Nat) (hn : ht t + 13 ≤ n) : run pr n 8 [.v (encT l t), .v (.tup [])] [] = .ok (.v .non) [] := by
  obtain ⟨n, rfl⟩ : ∃ m, n = m + 1 := ⟨n - 1, by omega⟩
  rw [rn_check_term, x_body rfl]
  unfold b_check_term
  have p := pure_ok (C := []) (f := 9) (ds := [encT l t, .tup [], .int 9]) (run_cp l t [] (by simp) h 9 n (by omega) (by simp; omega) (by omega))
  have e1 : biV .tuple [.tup []] = some (.tup []) := rfl
  simp [g_0, g_1, g_2, g_3, g_4, g_5, g_6, gd_0, lm_0, l_0, lm_1, l_1, lm_2, l_2, cl_0, cl_1, cl_2, cl_3, und_0_0, und_0_1, und_0_2, und_0_3, und_1_0, und_1_1, und_1_2, und_1_3, und_2_0, und_2_1, und_2_2, und_2_3, und_3_0, und_3_1, und_3_2, und_3_3, p, e1]
theorem row_f {xs : List D} : row false xs = .tup xs := rfl
theorem run_kept (l : Bool) : ∀ (t : Tm) (ns : List Nm), okT ns t → ∀ n, ht t + 10 ≤ n → run pr n 11 [.v (encT l t)] [] = .ok (.v (encT false t)) [] := by
  intro t
  induction t with
  | lf q =>
    intro ns h n hn
    obtain ⟨n, rfl⟩ : ∃ m, n = m + 1 := ⟨n - 1, by omega⟩
    rw [rn_kept, x_body rfl]
    unfold b_kept
    simp [f_ix0, f_sl, w_fun, w_let, w_as, w_lf, row_ix, atD, ixN, isFn, isLt, isAs, isLf, row_seq, ar, push1_v, line, tl]
    simp [encT, row, hw]
  | fn x k t ih =>
    intro ns h n hn
    obtain ⟨n, rfl⟩ : ∃ m, n = m + 1 := ⟨n - 1, by omega⟩
    simp only [ht] at hn
    rw [rn_kept, x_body rfl]
    unfold b_kept
    have p1 := pure_ok (C := []) (f := 11) (ds := [encT l t]) (ih _ h.2.2 n (by omega))
    have p2 := pure_ok (C := []) (f := 7) (ds := [enc l k]) (run_plain l k n (by have := h.2.1; omega))
    simp [f_ix0, f_sl, w_fun, w_let, w_as, w_lf, row_ix, atD, ixN, isFn, isLt, isAs, isLf, row_seq, ar, push1_v, line, tl, p1, p2]
    simp [encT, row, hw]
  | as_ k t ih =>
    intro ns h n hn
    obtain ⟨n, rfl⟩ : ∃ m, n = m + 1 := ⟨n - 1, by omega⟩
    simp only [ht] at hn
    rw [rn_kept, x_body rfl]
    unfold b_kept
    have p1 := pure_ok (C := []) (f := 11) (ds := [encT l t]) (ih _ h.2 n (by omega))
    have p2 := pure_ok (C := []) (f := 7) (ds := [enc l k]) (run_plain l k n (by have := h.1; omega))
    simp [f_ix0, f_sl, w_fun, w_let, w_as, w_lf, row_ix, atD, ixN, isFn, isLt, isAs, isLf, row_seq, ar, push1_v, line, tl, p1, p2]
    simp [encT, row, hw]
  | lt x a b iha ihb =>
    intro ns h n hn
    obtain ⟨n, rfl⟩ : ∃ m, n = m + 1 := ⟨n - 1, by omega⟩
    simp only [ht] at hn
    rw [rn_kept, x_body rfl]
    unfold b_kept
    have p1 := pure_ok (C := []) (f := 11) (ds := [encT l a]) (iha _ h.2.1 n (by omega))
    have p2 := pure_ok (C := []) (f := 11) (ds := [encT l b]) (ihb _ h.2.2 n (by omega))
    simp [f_ix0, f_sl, w_fun, w_let, w_as, w_lf, row_ix, atD, ixN, isFn, isLt, isAs, isLf, row_seq, ar, push1_v, line, tl, p1, p2]
    simp [encT, row, hw]
  | n1 w a iha =>
    intro ns h n hn
    obtain ⟨n, rfl⟩ : ∃ m, n = m + 1 := ⟨n - 1, by omega⟩
    simp only [ht] at hn
    rw [rn_kept, x_body rfl]
    unfold b_kept
    have p1 := pure_ok (C := []) (f := 11) (ds := [encT l a]) (iha _ h n (by omega))
    simp [f_ix0, f_sl, w_fun, w_let, w_as, w_lf, row_ix, atD, ixN, isFn, isLt, isAs, isLf, row_seq, ar, push1_v, line, tl, genR_cons, genR_nil, wipeE, p1]
    simp [encT, row, hw]
  | n2 w a b iha ihb =>
    intro ns h n hn
    obtain ⟨n, rfl⟩ : ∃ m, n = m + 1 := ⟨n - 1, by omega⟩
    simp only [ht] at hn
    rw [rn_kept, x_body rfl]
    unfold b_kept
    have p1 := pure_ok (C := []) (f := 11) (ds := [encT l a]) (iha _ h.1 n (by omega))
    have p2 := pure_ok (C := []) (f := 11) (ds := [encT l b]) (ihb _ h.2 n (by omega))
    simp [f_ix0, f_sl, w_fun, w_let, w_as, w_lf, row_ix, atD, ixN, isFn, isLt, isAs, isLf, row_seq, ar, push1_v, line, tl, genR_cons, genR_nil, wipeE, p1, p2]
    simp [encT, row, hw]
  | n3 a b c iha ihb ihc =>
    intro ns h n hn
    obtain ⟨n, rfl⟩ : ∃ m, n = m + 1 := ⟨n - 1, by omega⟩
    simp only [ht] at hn
    rw [rn_kept, x_body rfl]
    unfold b_kept
    have p1 := pure_ok (C := []) (f := 11) (ds := [encT l a]) (iha _ h.1 n (by omega))
    have p2 := pure_ok (C := []) (f := 11) (ds := [encT l b]) (ihb _ h.2.1 n (by omega))
    have p3 := pure_ok (C := []) (f := 11) (ds := [encT l c]) (ihc _ h.2.2 n (by omega))
    simp [f_ix0, f_sl, w_fun, w_let, w_as, w_lf, row_ix, atD, ixN, isFn, isLt, isAs, isLf, row_seq, ar, push1_v, line, tl, genR_cons, genR_nil, wipeE, p1, p2, p3]
    simp [encT, row, hw]
/-- a program -/
def PG (t : Tm) : D := .ins 3 [([116, 101, 114, 109], encT false t)]
theorem run_make (l : Bool) (t : Tm) (h : okT [] t) (h9 : ht t ≤ 9) (n : Nat) (hn : 30 ≤ n) (C : Cells) : make pr (run pr n) 3 [.v (encT l t)] C = .ok (.v (PG t)) C := by
  have h1 : run pr n 34 [.r 0, .v (encT l t)] [some (.ins 3 [])] = .ok (.v .non) [some (.ins 3 [([116, 101, 114, 109], .v (encT false t))])] := by
    obtain ⟨n, rfl⟩ : ∃ m, n = m + 1 := ⟨n - 1, by omega⟩
    rw [rn_Program___init__, x_body rfl]
    unfold b_Program___init__
    have p1 := fun C => pure_ok (C := C) (f := 8) (ds := [encT l t, .tup []]) (run_ct l t h h9 n (by omega))
    have p2 := fun C => pure_ok (C := C) (f := 11) (ds := [encT l t]) (run_kept l t [] h n (by omega))
    have e1 : fldOk pr 3 [116, 101, 114, 109] = true := rfl
    simp [push1_v, line, p1, p2, cellAt, e1, putF, endB, leave, lowC, fldsLow]
  simp only [make, show pr.cls[3]? = _ from cl_3]
  simp [makeP, h1, cellAt, valF, PG]
theorem endB_v {C0 : Cells} {d : D} {C : Cells} (h : lowC C0.length (C.take C0.length) = true) : endB C0 (.ret (.v d) C) = .ok (.v d) (C.take C0.length) := by
  simp [endB, leave, h]
end K05

end

section
set_option maxRecDepth 512
set_option maxRecDepth 100000
set_option maxHeartbeats 4000000
set_option linter.all false
namespace K05
open Ev
def parts : Tm → List Tm
  | .lf _ => []
  | .fn _ _ t => [t]
  | .as_ _ t => [t]
  | .lt _ a b => [a, b]
  | .n1 _ a => [a]
  | .n2 _ a b => [a, b]
  | .n3 a b c => [a, b, c]
def own : Tm → List Kd
  | .fn _ k _ => [k]
  | .as_ k _ => [k]
  | _ => []
def places : Tm → List Kd
  | .lf _ => []
  | .fn _ k t => k :: places t
  | .as_ k t => k :: places t
  | .lt _ a b => places a ++ places b
  | .n1 _ a => places a
  | .n2 _ a b => places a ++ places b
  | .n3 a b c => places a ++ (places b ++ places c)
theorem places_eq (t : Tm) : places t = own t ++ (parts t).flatMap places := by cases t <;> simp [places, own, parts]
def size : Tm → Nat
  | .lf _ => 1
  | .fn _ _ t => 1 + size t
  | .as_ _ t => 1 + size t
  | .lt _ a b => 1 + (size a + size b)
  | .n1 _ a => 1 + size a
  | .n2 _ a b => 1 + (size a + size b)
  | .n3 a b c => 1 + (size a + (size b + size c))
theorem size_eq (t : Tm) : size t = 1 + ((parts t).map size).sum := by cases t <;> simp [size, parts]
theorem parts_ht {t s : Tm} (h : s ∈ parts t) : ht s < ht t := by
  cases t <;> simp [parts] at h <;> simp only [ht] <;> rcases h with rfl | h <;> (try rcases h with rfl | h) <;> (try subst h) <;> omega
theorem parts_len (t : Tm) : (parts t).length ≤ 3 := by cases t <;> simp [parts]
theorem ind' {P : Tm → Prop} (h : ∀ t, (∀ s ∈ parts t, P s) → P t) : ∀ t, P t := by
  have key : ∀ n t, ht t ≤ n → P t := by
    intro n
    induction n with
    | zero => intro t ht'; have := ht_pos t; omega
    | succ n ih => intro t ht'; exact h t fun s hs => ih s (by have := parts_ht hs; omega)
  exact fun t => key _ t (Nat.le_refl _)
theorem f_ix {l : Bool} {t : Tm} {i : Int} : idxV (encT l t) (.int i) = atD (.str (hw t) :: tl l t) i := by rw [encT_eq, row_ix]
theorem row_list {l : Bool} {xs : List D} : biV .list [row l xs] = some (.lst xs) := by cases l <;> rfl
theorem run_sub (t : Tm) (n : Nat) : run pr (n + 1) 13 [.v (encT false t)] [] = .ok (.v (.lst ((parts t).map (encT false)))) [] := by
  rw [rn_subterms, x_body rfl]
  unfold b_subterms
  cases t <;> simp [f_ix, f_sl, w_fun, w_let, w_as, w_lf, row_list, atD, ixN, isFn, isLt, isAs, isLf, tl, ar, push1_v, line, parts]
theorem run_lparts (t : Tm) (n : Nat) : run pr (n + 1) 27 [.v (encT false t)] [] = .ok (.v (.lst ((parts t).map (encT false)))) [] := by
  rw [rn__law_parts, x_body rfl]
  unfold b__law_parts
  cases t <;> simp [f_ix, f_sl, w_fun, w_let, w_as, w_lf, row_list, atD, ixN, isFn, isLt, isAs, isLf, tl, ar, push1_v, line, parts]
theorem intsD_map {α : Type} (f : α → Int) : ∀ xs : List α, intsD (xs.map fun x => .int (f x)) = some (xs.map f)
  | [] => rfl
  | x :: xs => by simp [intsD, intsD_map f xs]
theorem sum_cast {α : Type} (f : α → Nat) : ∀ xs : List α, (xs.map fun x => (f x : Int)).sum = ((xs.map f).sum : Nat)
  | [] => rfl
  | x :: xs => by simp [sum_cast f xs]
theorem run_count : ∀ (t : Tm) (n : Nat), ht t + 2 ≤ n → run pr n 17 [.v (encT false t)] [] = .ok (.v (.int (size t))) [] := by
  refine ind' fun t ih n hn => ?_
  obtain ⟨n, rfl⟩ : ∃ m, n = m + 2 := ⟨n - 2, by omega⟩
  rw [rn_count, x_body rfl]
  unfold b_count
  have p1 := pure_ok (C := []) (f := 13) (ds := [encT false t]) (run_sub t n)
  simp [p1, seqD, wipeE]
  rw [genR_map (encT false) (fun s => .int (size s)) (parts t)]
  · have e1 : biV .sum [.lst ((parts t).map fun s => .int (size s))] = some (.int (((parts t).map size).sum : Nat)) := by
      simp only [biV, intsD_map (fun s => (size s : Int)), Option.map_some, sum_cast]
    simp [e1, b_add, size_eq t]
  · intro s hs acc ha
    refine ⟨_, rfl, ?_⟩
    have p2 := pure_ok (C := []) (f := 17) (ds := [encT false s]) (ih s hs (n + 1) (by have := parts_ht hs; omega))
    simp [stepG_b, p2, push1_ok ha]
  · have := parts_len t
    have : line = 16777216 := rfl
    omega
theorem run_lcount : ∀ (t : Tm) (n : Nat), ht t + 2 ≤ n → run pr n 29 [.v (encT false t)] [] = .ok (.v (.int (size t))) [] := by
  refine ind' fun t ih n hn => ?_
  obtain ⟨n, rfl⟩ : ∃ m, n = m + 2 := ⟨n - 2, by omega⟩
  rw [rn__law_count, x_body rfl]
  unfold b__law_count
  have p1 := pure_ok (C := []) (f := 27) (ds := [encT false t]) (run_lparts t n)
  simp [p1, seqD, wipeE]
  rw [genR_map (encT false) (fun s => .int (size s)) (parts t)]
  · have e1 : biV .sum [.lst ((parts t).map fun s => .int (size s))] = some (.int (((parts t).map size).sum : Nat)) := by
      simp only [biV, intsD_map (fun s => (size s : Int)), Option.map_some, sum_cast]
    simp [e1, b_add, size_eq t]
  · intro s hs acc ha
    refine ⟨_, rfl, ?_⟩
    have p2 := pure_ok (C := []) (f := 29) (ds := [encT false s]) (ih s hs (n + 1) (by have := parts_ht hs; omega))
    simp [stepG_b, p2, push1_ok ha]
  · have := parts_len t
    have : line = 16777216 := rfl
    omega
theorem flat_len {α β : Type} (f : α → List β) : ∀ (pre : List α) (x : α) (post : List α), ((pre ++ x :: post).flatMap f).length = (pre.flatMap f).length + ((f x).length + (post.flatMap f).length) := by
  intro pre x post; simp
theorem run_lplaces : ∀ (t : Tm) (n : Nat), ht t + 2 ≤ n → (places t).length ≤ 100000 → run pr n 28 [.v (encT false t)] [] = .ok (.v (.lst ((places t).map (enc false)))) [] := by
  refine ind' fun t ih n hn hl => ?_
  obtain ⟨n, rfl⟩ : ∃ m, n = m + 2 := ⟨n - 2, by omega⟩
  rw [rn__law_places, x_body rfl]
  unfold b__law_places
  have p1 := fun C => pure_ok (C := C) (f := 27) (ds := [encT false t]) (run_lparts t n)
  generalize hS : Sms.cons (.for (.nm 2) (.seq (.call 27 _)) _) _ = S
  have e0 : exS pr (run pr (n + 1)) (lamP pr (run pr (n + 1))) (.asg (.nm 1) (.ite (.cmp .eq (.idx (.slot 0) (.cst (.int 0))) (.cst (.str [102, 117, 110]))) (.lst false (.cons (.idx (.slot 0) (.cst (.int 2))) .nil)) (.ite (.cmp .eq (.idx (.slot 0) (.cst (.int 0))) (.cst (.str [97, 115]))) (.lst false (.cons (.idx (.slot 0) (.cst (.int 1))) .nil)) (.lst false .nil))))
      [some (.v (encT false t)), none, none] [] = .next [some (.v (encT false t)), some (.v (.lst ((own t).map (enc false)))), none] [] := by
    cases t <;> simp [f_ix, f_sl, w_fun, w_let, w_as, w_lf, row_list, atD, ixN, isFn, isLt, isAs, isLf, tl, ar, push1_v, line, own]
  show endB [] (exSs _ _ _ _ [some (.v (encT false t)), none, none] []) = _
  rw [x_scons, e0, seqR_next, ← hS]
  simp [p1, seqD]
  refine for_preM (fun r => endB [] r = _) (encT false) (fun pre env C => ∃ (ks : List Kd) (o : Option E), ks = own t ++ pre.flatMap places ∧ env = [some (.v (encT false t)), some (.v (.lst (ks.map (enc false)))), o] ∧ C = []) ⟨own t, none, by simp, rfl, rfl⟩ ?_ ?_
  · rintro pre s post env C h1 ⟨ks, o, hk, rfl, rfl⟩
    refine ⟨_, rfl, ?_⟩
    have hs : s ∈ parts t := by rw [h1]; simp
    have hb : (places t).length = ks.length + ((places s).length + (post.flatMap places).length) := by rw [places_eq, h1, hk]; simp; omega
    have p2 := pure_ok (C := []) (f := 28) (ds := [encT false s]) (ih s hs (n + 1) (by have := parts_ht hs; omega) (by omega))
    have hle : ks.length + (places s).length ≤ 16777216 := by omega
    simp [p2, bopV, push1_v, line, hle]
    exact .next (by subst hk; simp)
  · rintro env C ⟨ks, o, hk, rfl, rfl⟩
    rw [← places_eq] at hk
    subst hk
    simp
theorem run_kinds_in : ∀ (t : Tm) (n : Nat), ht t + 2 ≤ n → (places t).length ≤ 100000 → run pr n 14 [.v (encT false t)] [] = .ok (.v (.lst ((places t).map (enc false)))) [] := by
  refine ind' fun t ih n hn hl => ?_
  obtain ⟨n, rfl⟩ : ∃ m, n = m + 2 := ⟨n - 2, by omega⟩
  rw [rn_kinds_in, x_body rfl]
  unfold b_kinds_in
  have p1 := fun C => pure_ok (C := C) (f := 13) (ds := [encT false t]) (run_sub t n)
  generalize hS : Sms.cons (.for (.nm 2) (.seq (.call 13 _)) _) _ = S
  have e0 : exS pr (run pr (n + 1)) (lamP pr (run pr (n + 1))) (.asg (.nm 1) (.ite (.cmp .eq (.idx (.slot 0) (.cst (.int 0))) (.cst (.str [102, 117, 110]))) (.lst true (.cons (.idx (.slot 0) (.cst (.int 2))) .nil)) (.ite (.cmp .eq (.idx (.slot 0) (.cst (.int 0))) (.cst (.str [97, 115]))) (.lst true (.cons (.idx (.slot 0) (.cst (.int 1))) .nil)) (.lst true .nil))))
      [some (.v (encT false t)), none, none] [] = .next [some (.v (encT false t)), some (.r 0), none] [some (.lst ((own t).map (enc false)))] := by
    cases t <;> simp [f_ix, f_sl, w_fun, w_let, w_as, w_lf, row_list, atD, ixN, isFn, isLt, isAs, isLf, tl, ar, push1_v, line, own]
  show endB [] (exSs _ _ _ _ [some (.v (encT false t)), none, none] []) = _
  rw [x_scons, e0, seqR_next, ← hS]
  simp [p1, seqD]
  refine for_preM (fun r => endB [] r = _) (encT false) (fun pre env C => ∃ (ks : List Kd) (o : Option E), ks = own t ++ pre.flatMap places ∧ env = [some (.v (encT false t)), some (.r 0), o] ∧ C = [some (.lst (ks.map (enc false)))]) ⟨own t, none, by simp, rfl, rfl⟩ ?_ ?_
  · rintro pre s post env C h1 ⟨ks, o, hk, rfl, rfl⟩
    refine ⟨_, rfl, ?_⟩
    have hs : s ∈ parts t := by rw [h1]; simp
    have hb : (places t).length = ks.length + ((places s).length + (post.flatMap places).length) := by rw [places_eq, h1, hk]; simp; omega
    have p2 := fun C => pure_ok (C := C) (f := 14) (ds := [encT false s]) (ih s hs (n + 1) (by have := parts_ht hs; omega) (by omega))
    have hle : ks.length + (places s).length ≤ 16777216 := by omega
    simp [p2, cellAt, hle]
    exact .next (by subst hk; simp)
  · rintro env C ⟨ks, o, hk, rfl, rfl⟩
    rw [← places_eq] at hk
    subst hk
    simp [frzR, cellAt]
end K05

end

section
set_option maxRecDepth 512
set_option maxRecDepth 100000
set_option maxHeartbeats 4000000
set_option linter.all false
namespace K05
open Ev
/-- kinds told anew, from the front -/
def st : Tm → List Kd → Tm × List Kd
  | .lf q, ks => (.lf q, ks)
  | .fn x _ t, ks => (.fn x (ks.headD .any) (st t ks.tail).1, (st t ks.tail).2)
  | .as_ _ t, ks => (.as_ (ks.headD .any) (st t ks.tail).1, (st t ks.tail).2)
  | .lt x a b, ks => (.lt x (st a ks).1 (st b (st a ks).2).1, (st b (st a ks).2).2)
  | .n1 w a, ks => (.n1 w (st a ks).1, (st a ks).2)
  | .n2 w a b, ks => (.n2 w (st a ks).1 (st b (st a ks).2).1, (st b (st a ks).2).2)
  | .n3 a b c, ks => (.n3 (st a ks).1 (st b (st a ks).2).1 (st c (st b (st a ks).2).2).1, (st c (st b (st a ks).2).2).2)
theorem st_ht : ∀ (t : Tm) (ks : List Kd), ht (st t ks).1 = ht t := by
  intro t
  induction t <;> intro ks <;> simp [st, ht, *]
theorem st_rest : ∀ (t : Tm) (ks : List Kd), (st t ks).2 = ks.drop (places t).length := by
  intro t
  induction t with
  | lf q => intro ks; simp [st, places]
  | fn x k t ih => intro ks; cases ks <;> simp [st, places, ih]
  | as_ k t ih => intro ks; cases ks <;> simp [st, places, ih]
  | n1 w a ih => intro ks; simp [st, places, ih]
  | lt x a b iha ihb => intro ks; simp [st, places, iha, ihb]
  | n2 w a b iha ihb => intro ks; simp [st, places, iha, ihb]
  | n3 a b c iha ihb ihc => intro ks; simp [st, places, iha, ihb, ihc, Nat.add_assoc]
theorem st_places : ∀ (t : Tm) (ks : List Kd), (places t).length ≤ ks.length → places (st t ks).1 = ks.take (places t).length := by
  have app : ∀ (ks : List Kd) (m n : Nat), ks.take m ++ (ks.drop m).take n = ks.take (m + n) := fun ks m n => by rw [List.take_add]
  intro t
  induction t with
  | lf q => intro ks _; simp [st, places]
  | fn x k t ih =>
    intro ks h
    cases ks with
    | nil => simp [places] at h
    | cons k0 kr => simp [places] at h; simp [st, places, ih kr h]
  | as_ k t ih =>
    intro ks h
    cases ks with
    | nil => simp [places] at h
    | cons k0 kr => simp [places] at h; simp [st, places, ih kr h]
  | n1 w a ih => intro ks h; simp [places] at h; simp [st, places, ih ks h]
  | lt x a b iha ihb =>
    intro ks h
    simp [places] at h
    simp [st, places, iha ks (by omega), st_rest, ihb (ks.drop (places a).length) (by simp; omega), app]
  | n2 w a b iha ihb =>
    intro ks h
    simp [places] at h
    simp [st, places, iha ks (by omega), st_rest, ihb (ks.drop (places a).length) (by simp; omega), app]
  | n3 a b c iha ihb ihc =>
    intro ks h
    simp [places] at h
    have h3 := ihc (ks.drop ((places a).length + (places b).length)) (by simp; omega)
    simp [st, places, iha ks (by omega), st_rest, ihb (ks.drop (places a).length) (by simp; omega), h3, app, ← List.append_assoc, Nat.add_assoc]
theorem st_same : ∀ (t : Tm) (r : List Kd), st t (places t ++ r) = (t, r) := by
  intro t
  induction t with
  | lf q => intro r; simp [st, places]
  | fn x k t ih => intro r; simp [st, places, ih]
  | as_ k t ih => intro r; simp [st, places, ih]
  | n1 w a ih => intro r; simp [st, places, ih]
  | lt x a b iha ihb => intro r; simp [st, places, iha, ihb]
  | n2 w a b iha ihb => intro r; simp [st, places, iha, ihb]
  | n3 a b c iha ihb ihc => intro r; simp [st, places, iha, ihb, ihc]
theorem mem_tail {P : Kd → Prop} {ks : List Kd} (h : ∀ k ∈ ks, P k) : ∀ k ∈ ks.tail, P k := fun k hk => h k (List.mem_of_mem_tail hk)
theorem st_mem {P : Kd → Prop} : ∀ (t : Tm) (ks : List Kd), (∀ k ∈ ks, P k) → ∀ k ∈ (st t ks).2, P k := by
  intro t ks h k hk
  rw [st_rest] at hk
  exact h k (List.mem_of_mem_drop hk)
theorem st_ok : ∀ (t : Tm) (ns : List Nm) (ks : List Kd), okT ns t → (∀ k ∈ ks, dp k ≤ 1) → okT ns (st t ks).1 := by
  intro t
  have hd : ∀ ks : List Kd, (∀ k ∈ ks, dp k ≤ 1) → dp (ks.headD .any) ≤ 1 := by
    intro ks h
    cases ks with
    | nil => simp [dp]
    | cons k r => simpa using h k (List.mem_cons_self ..)
  induction t with
  | lf q => intro ns ks h _; exact h
  | fn x k t ih => intro ns ks h hk; exact ⟨h.1, hd ks hk, ih _ _ h.2.2 (mem_tail hk)⟩
  | as_ k t ih => intro ns ks h hk; exact ⟨hd ks hk, ih _ _ h.2 (mem_tail hk)⟩
  | n1 w a ih => intro ns ks h hk; exact ih _ _ h hk
  | lt x a b iha ihb => intro ns ks h hk; exact ⟨h.1, iha _ _ h.2.1 hk, ihb _ _ h.2.2 (st_mem a ks hk)⟩
  | n2 w a b iha ihb => intro ns ks h hk; exact ⟨iha _ _ h.1 hk, ihb _ _ h.2 (st_mem a ks hk)⟩
  | n3 a b c iha ihb ihc => intro ns ks h hk; exact ⟨iha _ _ h.1 hk, ihb _ _ h.2.1 (st_mem a ks hk), ihc _ _ h.2.2 (st_mem b _ (st_mem a ks hk))⟩
theorem row_cutf {xs : List D} {a b : Option Int} : slV (.tup xs) a b = some (.tup (cutL xs a b)) := nrfl rfl
theorem f_sl2 {t : Tm} : slV (encT false t) none (some 2) = some (.tup ((.str (hw t) :: tl false t).take 2)) := by rw [encT_eq, row_cut]; simp [cutL, sIx, row, tl_len]; cases t <;> simp [tl, ar]
theorem lst_sl {x : D} {xs : List D} : slV (.lst (x :: xs)) (some 1) none = some (.lst xs) := by simp [slV, cutL, sIx]
theorem lst_ix {x : D} {xs : List D} : idxV (.lst (x :: xs)) (.int 0) = some x := by simp [idxV, atD, ixN]
theorem run_retold : ∀ (t : Tm) (ks : List Kd) (n : Nat), ht t + 2 ≤ n → (places t).length ≤ ks.length → run pr n 15 [.v (encT false t), .v (.lst (ks.map (enc false)))] [] = .ok (.v (.tup [encT false (st t ks).1, .lst ((st t ks).2.map (enc false))])) [] := by
  intro t
  induction t with
  | lf q =>
    intro ks n hn hl
    obtain ⟨n, rfl⟩ : ∃ m, n = m + 2 := ⟨n - 2, by omega⟩
    rw [rn_retold, x_body rfl]
    unfold b_retold
    simp [f_ix, f_sl, f_sl2, w_fun, w_let, w_nlet, w_as, w_lf, row_list, atD, ixN, isFn, isLt, isAs, isLf, tl, ar, push1_v, line, lst_sl, lst_ix, seqD, forG_cons, forG_nil, cellAt, mmV, isLst, cellD, st]
  | fn x k t ih =>
    intro ks n hn hl
    obtain ⟨n, rfl⟩ : ∃ m, n = m + 2 := ⟨n - 2, by omega⟩
    simp only [ht] at hn
    cases ks with
    | nil => simp [places] at hl
    | cons k0 kr =>
      simp [places] at hl
      rw [rn_retold, x_body rfl]
      unfold b_retold
      have p1 := fun C => pure_ok (C := C) (f := 13) (ds := [encT false (.fn x k t)]) (run_sub (.fn x k t) n)
      have p2 := fun C => pure_ok (C := C) (f := 15) (ds := [encT false t, .lst (kr.map (enc false))]) (ih kr (n + 1) (by omega) hl)
      simp [f_ix, f_sl, f_sl2, w_fun, w_let, w_nlet, w_as, w_lf, row_list, atD, ixN, isFn, isLt, isAs, isLf, tl, ar, push1_v, line, lst_sl, lst_ix, seqD, forG_cons, forG_nil, cellAt, mmV, isLst, cellD, p1, parts]
      simp [f_ix, f_sl, f_sl2, w_fun, w_let, w_nlet, w_as, w_lf, row_list, atD, ixN, isFn, isLt, isAs, isLf, tl, ar, push1_v, line, lst_sl, lst_ix, seqD, forG_cons, forG_nil, cellAt, mmV, isLst, cellD, p2]
      simp [st, encT, row, hw]
  | as_ k t ih =>
    intro ks n hn hl
    obtain ⟨n, rfl⟩ : ∃ m, n = m + 2 := ⟨n - 2, by omega⟩
    simp only [ht] at hn
    cases ks with
    | nil => simp [places] at hl
    | cons k0 kr =>
      simp [places] at hl
      rw [rn_retold, x_body rfl]
      unfold b_retold
      have p1 := fun C => pure_ok (C := C) (f := 13) (ds := [encT false (.as_ k t)]) (run_sub (.as_ k t) n)
      have p2 := fun C => pure_ok (C := C) (f := 15) (ds := [encT false t, .lst (kr.map (enc false))]) (ih kr (n + 1) (by omega) hl)
      simp [f_ix, f_sl, f_sl2, w_fun, w_let, w_nlet, w_as, w_lf, row_list, atD, ixN, isFn, isLt, isAs, isLf, tl, ar, push1_v, line, lst_sl, lst_ix, seqD, forG_cons, forG_nil, cellAt, mmV, isLst, cellD, p1, parts]
      simp [f_ix, f_sl, f_sl2, w_fun, w_let, w_nlet, w_as, w_lf, row_list, atD, ixN, isFn, isLt, isAs, isLf, tl, ar, push1_v, line, lst_sl, lst_ix, seqD, forG_cons, forG_nil, cellAt, mmV, isLst, cellD, p2]
      simp [st, encT, row, hw]
  | n1 w a ih =>
    intro ks n hn hl
    obtain ⟨n, rfl⟩ : ∃ m, n = m + 2 := ⟨n - 2, by omega⟩
    simp only [ht] at hn
    simp [places] at hl
    rw [rn_retold, x_body rfl]
    unfold b_retold
    have p1 := fun C => pure_ok (C := C) (f := 13) (ds := [encT false (.n1 w a)]) (run_sub (.n1 w a) n)
    have p2 := fun C => pure_ok (C := C) (f := 15) (ds := [encT false a, .lst (ks.map (enc false))]) (ih ks (n + 1) (by omega) hl)
    simp [f_ix, f_sl, f_sl2, w_fun, w_let, w_nlet, w_as, w_lf, row_list, atD, ixN, isFn, isLt, isAs, isLf, tl, ar, push1_v, line, lst_sl, lst_ix, seqD, forG_cons, forG_nil, cellAt, mmV, isLst, cellD, p1, parts]
    simp [f_ix, f_sl, f_sl2, w_fun, w_let, w_nlet, w_as, w_lf, row_list, atD, ixN, isFn, isLt, isAs, isLf, tl, ar, push1_v, line, lst_sl, lst_ix, seqD, forG_cons, forG_nil, cellAt, mmV, isLst, cellD, p2]
    simp [st, encT, row, hw]
  | lt x a b iha ihb =>
    intro ks n hn hl
    obtain ⟨n, rfl⟩ : ∃ m, n = m + 2 := ⟨n - 2, by omega⟩
    simp only [ht] at hn
    simp [places] at hl
    rw [rn_retold, x_body rfl]
    unfold b_retold
    have p1 := fun C => pure_ok (C := C) (f := 13) (ds := [encT false (.lt x a b)]) (run_sub (.lt x a b) n)
    have p2 := fun C => pure_ok (C := C) (f := 15) (ds := [encT false a, .lst (ks.map (enc false))]) (iha ks (n + 1) (by omega) (by omega))
    have p3 := fun C => pure_ok (C := C) (f := 15) (ds := [encT false b, .lst ((st a ks).2.map (enc false))]) (ihb (st a ks).2 (n + 1) (by omega) (by rw [st_rest]; simp; omega))
    simp [f_ix, f_sl, f_sl2, w_fun, w_let, w_nlet, w_as, w_lf, row_list, atD, ixN, isFn, isLt, isAs, isLf, tl, ar, push1_v, line, lst_sl, lst_ix, seqD, forG_cons, forG_nil, cellAt, mmV, isLst, cellD, p1, parts]
    simp [f_ix, f_sl, f_sl2, w_fun, w_let, w_nlet, w_as, w_lf, row_list, atD, ixN, isFn, isLt, isAs, isLf, tl, ar, push1_v, line, lst_sl, lst_ix, seqD, forG_cons, forG_nil, cellAt, mmV, isLst, cellD, p2, p3]
    simp [st, encT, row, hw]
  | n2 w a b iha ihb =>
    intro ks n hn hl
    obtain ⟨n, rfl⟩ : ∃ m, n = m + 2 := ⟨n - 2, by omega⟩
    simp only [ht] at hn
    simp [places] at hl
    rw [rn_retold, x_body rfl]
    unfold b_retold
    have p1 := fun C => pure_ok (C := C) (f := 13) (ds := [encT false (.n2 w a b)]) (run_sub (.n2 w a b) n)
    have p2 := fun C => pure_ok (C := C) (f := 15) (ds := [encT false a, .lst (ks.map (enc false))]) (iha ks (n + 1) (by omega) (by omega))
    have p3 := fun C => pure_ok (C := C) (f := 15) (ds := [encT false b, .lst ((st a ks).2.map (enc false))]) (ihb (st a ks).2 (n + 1) (by omega) (by rw [st_rest]; simp; omega))
    simp [f_ix, f_sl, f_sl2, w_fun, w_let, w_nlet, w_as, w_lf, row_list, atD, ixN, isFn, isLt, isAs, isLf, tl, ar, push1_v, line, lst_sl, lst_ix, seqD, forG_cons, forG_nil, cellAt, mmV, isLst, cellD, p1, parts]
    simp [f_ix, f_sl, f_sl2, w_fun, w_let, w_nlet, w_as, w_lf, row_list, atD, ixN, isFn, isLt, isAs, isLf, tl, ar, push1_v, line, lst_sl, lst_ix, seqD, forG_cons, forG_nil, cellAt, mmV, isLst, cellD, p2, p3]
    simp [st, encT, row, hw]
  | n3 a b c iha ihb ihc =>
    intro ks n hn hl
    obtain ⟨n, rfl⟩ : ∃ m, n = m + 2 := ⟨n - 2, by omega⟩
    simp only [ht] at hn
    simp [places] at hl
    rw [rn_retold, x_body rfl]
    unfold b_retold
    have p1 := fun C => pure_ok (C := C) (f := 13) (ds := [encT false (.n3 a b c)]) (run_sub (.n3 a b c) n)
    have p2 := fun C => pure_ok (C := C) (f := 15) (ds := [encT false a, .lst (ks.map (enc false))]) (iha ks (n + 1) (by omega) (by omega))
    have p3 := fun C => pure_ok (C := C) (f := 15) (ds := [encT false b, .lst ((st a ks).2.map (enc false))]) (ihb (st a ks).2 (n + 1) (by omega) (by rw [st_rest]; simp; omega))
    have p4 := fun C => pure_ok (C := C) (f := 15) (ds := [encT false c, .lst ((st b (st a ks).2).2.map (enc false))]) (ihc (st b (st a ks).2).2 (n + 1) (by omega) (by rw [st_rest, st_rest]; simp; omega))
    simp [f_ix, f_sl, f_sl2, w_fun, w_let, w_nlet, w_as, w_lf, row_list, atD, ixN, isFn, isLt, isAs, isLf, tl, ar, push1_v, line, lst_sl, lst_ix, seqD, forG_cons, forG_nil, cellAt, mmV, isLst, cellD, p1, parts]
    simp [f_ix, f_sl, f_sl2, w_fun, w_let, w_nlet, w_as, w_lf, row_list, atD, ixN, isFn, isLt, isAs, isLf, tl, ar, push1_v, line, lst_sl, lst_ix, seqD, forG_cons, forG_nil, cellAt, mmV, isLst, cellD, p2, p3, p4]
    simp [st, encT, row, hw]
end K05

end

section
set_option maxRecDepth 512
set_option maxRecDepth 100000
set_option maxHeartbeats 4000000
set_option linter.all false
namespace Ev
mutual
theorem eqD_self : ∀ d : D, pd d = true → eqD d d = true
  | .non, _ => rfl
  | .bl b, _ => by simp [eqD]
  | .int i, _ => by simp [eqD]
  | .str s, _ => by simp [eqD]
  | .tup xs, h => by
    simp only [pd] at h
    simp only [eqD]
    exact eqDs_self xs h
  | .lst xs, h => by
    simp only [pd] at h
    simp only [eqD]
    exact eqDs_self xs h
  | .dct _, h => by simp [pd] at h
  | .ins _ _, h => by simp [pd] at h
theorem eqDs_self : ∀ xs : List D, pds xs = true → eqDs xs xs = true
  | [], _ => rfl
  | x :: xs, h => by
    simp only [pds, Bool.and_eq_true] at h
    simp only [eqDs, eqD_self x h.1, eqDs_self xs h.2, Bool.and_self]
end
theorem shpPd {d : D} (h : shp d = true) : pd d = true := by
  simp only [shp, Bool.and_eq_true] at h
  exact h.1
theorem eq_self {d : D} (h : shp d = true) : copV .eq d d = some true := by rw [copV_eq h h, eqD_self d (shpPd h)]
theorem ne_self {d : D} (h : shp d = true) : copV .ne d d = some false := by rw [copV_ne h h, eqD_self d (shpPd h)]; rfl
theorem pds_map {α : Type} (f : α → D) : ∀ xs : List α, (∀ x ∈ xs, pd (f x) = true) → pds (xs.map f) = true
  | [], _ => rfl
  | x :: xs, h => by
    simp only [List.map_cons, pds, h x (List.mem_cons_self ..), pds_map f xs fun y hy => h y (List.mem_cons_of_mem _ hy), Bool.and_self]
theorem deps_map {α : Type} (f : α → D) (m : Nat) : ∀ xs : List α, (∀ x ∈ xs, dep (f x) ≤ m) → deps (xs.map f) ≤ m
  | [], _ => Nat.zero_le _
  | x :: xs, h => by
    simp only [List.map_cons, deps]
    have := h x (List.mem_cons_self ..)
    have := deps_map f m xs fun y hy => h y (List.mem_cons_of_mem _ hy)
    omega
theorem shp_map {α : Type} {f : α → D} {xs : List α} (h : ∀ x ∈ xs, pd (f x) = true ∧ dep (f x) ≤ 40) : shp (.lst (xs.map f)) = true := by
  have h1 := pds_map f xs fun x hx => (h x hx).1
  have h2 := deps_map f 40 xs fun x hx => (h x hx).2
  have h3 : dep (.lst (xs.map f)) = deps (xs.map f) + 1 := by simp [dep]
  have h4 : pd (.lst (xs.map f)) = true := by simpa [pd] using h1
  unfold shp
  rw [h4, h3]
  simp; omega
theorem all_true {α : Type} : ∀ xs : List α, (xs.all fun _ => true) = true
  | [] => rfl
  | x :: xs => by simp [List.all_cons, all_true xs]
end Ev
namespace K05
open Ev
theorem pd_nm {x : Nm} (h : x ∈ nms4) : pd (.str x) = true := by
  simp only [nms4, List.mem_cons, List.mem_nil_iff, or_false] at h
  rcases h with rfl | rfl | rfl | rfl <;> rfl
theorem encT_pd (l : Bool) : ∀ (t : Tm) (ns : List Nm), (∀ x ∈ ns, x ∈ nms4) → okT ns t → pd (encT l t) = true ∧ dep (encT l t) ≤ ht t + 1 := by
  have rp : ∀ xs, pds xs = true → pd (row l xs) = true := fun xs h => by cases l <;> simpa [row, pd] using h
  have rd : ∀ xs m, deps xs ≤ m → dep (row l xs) ≤ m + 1 := fun xs m h => by cases l <;> simpa [row, dep] using h
  have mem1 : ∀ {ns : List Nm} {x : Nm}, (∀ x ∈ ns, x ∈ nms4) → x ∈ nms4 → ∀ y ∈ ns ++ [x], y ∈ nms4 := by
    intro ns x hn hx y hy
    rcases List.mem_append.mp hy with hy | hy
    · exact hn y hy
    · simp at hy; subst hy; exact hx
  have pk : ∀ k, pd (enc l k) = true := fun k => pd_enc k
  have dk : ∀ k, dep (enc l k) = dp k := fun k => dep_enc k
  intro t
  induction t with
  | lf q =>
    intro ns hn h
    cases q with
    | num i => exact ⟨rp _ (by rfl), rd _ _ (by simp [deps, dep, lfd])⟩
    | bit b => exact ⟨rp _ (by rfl), rd _ _ (by simp [deps, dep, lfd])⟩
    | nam x => exact ⟨rp _ (by simp [pds, pd_nm (hn x h), lfd]; rfl), rd _ _ (by simp [deps, dep, lfd])⟩
  | fn x k t ih =>
    intro ns hn h
    obtain ⟨h1, h2⟩ := ih _ (mem1 hn h.1) h.2.2
    have := h.2.1
    exact ⟨rp _ (by simp [pds, pk, h1, pd_nm h.1]; rfl), rd _ _ (by simp [deps, dep, dk, ht]; omega)⟩
  | as_ k t ih =>
    intro ns hn h
    obtain ⟨h1, h2⟩ := ih _ hn h.2
    have := h.1
    exact ⟨rp _ (by simp [pds, pk, h1]; rfl), rd _ _ (by simp [deps, dep, dk, ht]; omega)⟩
  | lt x a b iha ihb =>
    intro ns hn h
    obtain ⟨h1, h2⟩ := iha _ hn h.2.1
    obtain ⟨h3, h4⟩ := ihb _ (mem1 hn h.1) h.2.2
    exact ⟨rp _ (by simp [pds, h1, h3, pd_nm h.1]; rfl), rd _ _ (by simp [deps, dep, ht]; omega)⟩
  | n1 w a ih =>
    intro ns hn h
    obtain ⟨h1, h2⟩ := ih _ hn h
    exact ⟨rp _ (by simp [pds, h1]; cases w <;> rfl), rd _ _ (by simp [deps, dep, ht]; omega)⟩
  | n2 w a b iha ihb =>
    intro ns hn h
    obtain ⟨h1, h2⟩ := iha _ hn h.1
    obtain ⟨h3, h4⟩ := ihb _ hn h.2
    exact ⟨rp _ (by simp [pds, h1, h3]; cases w <;> rfl), rd _ _ (by simp [deps, dep, ht]; omega)⟩
  | n3 a b c iha ihb ihc =>
    intro ns hn h
    obtain ⟨h1, h2⟩ := iha _ hn h.1
    obtain ⟨h3, h4⟩ := ihb _ hn h.2.1
    obtain ⟨h5, h6⟩ := ihc _ hn h.2.2
    exact ⟨rp _ (by simp [pds, h1, h3, h5]; rfl), rd _ _ (by simp [deps, dep, ht]; omega)⟩
theorem encT_shp {l : Bool} {t : Tm} (h : okT [] t) (h9 : ht t ≤ 9) : shp (encT l t) = true := by
  obtain ⟨h1, h2⟩ := encT_pd l t [] (by simp) h
  simp only [shp, h1, Bool.true_and, decide_eq_true_eq]; omega
/-- a term that a program may be made of -/
structure Good (t : Tm) : Prop where
  ok : okT [] t
  h : ht t ≤ 9
  p : (places t).length ≤ 100000
theorem Good.st {t : Tm} {ks : List Kd} (g : Good t) (hl : ks.length = (places t).length) (hk : ∀ k ∈ ks, dp k ≤ 1) : Good (st t ks).1 :=
  ⟨st_ok t [] ks g.ok hk, by rw [st_ht]; exact g.h, by rw [st_places t ks (by omega)]; have := g.p; simp; omega⟩
theorem Good.places {t : Tm} {ks : List Kd} (hl : ks.length = (places t).length) : K05.places (K05.st t ks).1 = ks := by
  rw [st_places t ks (by omega), ← hl, List.take_length]
theorem run_eq {t : Tm} (g : Good t) (n : Nat) : run pr (n + 1) 35 [.v (PG t), .v (PG t)] [] = .ok (.v (.bl true)) [] := by
  rw [rn_Program___eq__, x_body rfl]
  unfold b_Program___eq__
  have e1 : iscE pr [] (.v (PG t)) 3 = some true := rfl
  have e2 : attrP pr [] [116, 101, 114, 109] (.v (PG t)) = some (.v (encT false t)) := rfl
  simp [e1, e2, Ev.eq_self (encT_shp (l := false) g.ok g.h)]
theorem run_pplaces {t : Tm} (g : Good t) (n : Nat) (hn : 12 ≤ n) : run pr n 36 [.v (PG t)] [] = .ok (.v (.lst ((places t).map (enc false)))) [] := by
  obtain ⟨n, rfl⟩ : ∃ m, n = m + 1 := ⟨n - 1, by omega⟩
  rw [rn_Program_places, x_body rfl]
  unfold b_Program_places
  have e2 : attrP pr [] [116, 101, 114, 109] (.v (PG t)) = some (.v (encT false t)) := rfl
  have p1 := pure_ok (C := []) (f := 14) (ds := [encT false t]) (run_kinds_in t n (by have := g.h; omega) g.p)
  simp [e2, p1]
theorem m_places {t : Tm} {C : Cells} : methOf pr C [112, 108, 97, 99, 101, 115] (.v (PG t)) = some 36 := nrfl rfl
theorem m_told {t : Tm} {C : Cells} : methOf pr C [116, 111, 108, 100] (.v (PG t)) = some 37 := nrfl rfl
theorem a_term {t : Tm} {C : Cells} : attrP pr C [116, 101, 114, 109] (.v (PG t)) = some (.v (encT false t)) := nrfl rfl
theorem is_kinds (l : Bool) (ks : List Kd) (hk : ∀ k ∈ ks, dp k ≤ 1) (hl : ks.length ≤ 100000) (n : Nat) (hn : 10 ≤ n) (env : Env) (he : ∀ o, ∃ e, asgT (.nm 4) o env = some e ∧ (e[4]?).join = some (.v o)) (C : Cells) :
    genR pr (run pr n) (lamP pr (run pr n)) (.nm 4) .none (.elt (.call 6 (.cons (.slot 4) .nil))) env (ks.map (enc false)) C [] = .ok (ks.map fun _ => .bl true) C := by
  refine genR_map (enc false) (fun _ => .bl true) ks ?_ (by show ks.length < 16777216; omega)
  intro k hm acc ha
  obtain ⟨e, h1, h2⟩ := he (enc false k)
  refine ⟨e, h1, ?_⟩
  have p1 := pure_ok (C := C) (f := 6) (ds := [enc false k]) (run_is_kind false k n (by have := hk k hm; omega) (by omega))
  simp [stepG_b, h2, p1, push1_ok ha]
theorem run_told {t : Tm} (g : Good t) (l : Bool) (ks : List Kd) (hl : ks.length = (places t).length) (hk : ∀ k ∈ ks, dp k ≤ 1) (n : Nat) (hn : 34 ≤ n) :
    run pr n 37 [.v (PG t), .v (row l (ks.map (enc false)))] [] = .ok (.v (PG (st t ks).1)) [] := by
  obtain ⟨n, rfl⟩ : ∃ m, n = m + 2 := ⟨n - 2, by omega⟩
  rw [rn_Program_told, x_body rfl]
  unfold b_Program_told
  have g1 := g.h
  have g2 := g.p
  have p0 := fun C => pure_ok (C := C) (f := 0) (ds := [row l (ks.map (enc false))]) (run_row _ n true row_isi)
  have p1 := fun C => pure_ok (C := C) (f := 36) (ds := [PG t]) (run_pplaces g (n + 1) (by omega))
  have p2 := fun C => pure_ok (C := C) (f := 15) (ds := [encT false t, .lst (ks.map (enc false))]) (run_retold t ks (n + 1) (by omega) (by omega))
  have p3 := run_make false (st t ks).1 (g.st hl hk).ok (g.st hl hk).h (n + 1) (by omega)
  have e1 := all_map (fun _ : Kd => true) ks
  simp [p0, p1, p2, p3, m_places, a_term, row_len, row_list, l_lst, hl, c_ne, row_seq, wipeE]
  rw [is_kinds l ks hk (by omega) (n + 1) (by omega) _ (fun o => ⟨_, rfl, rfl⟩)]
  simp [e1, all_true, p0, p1, p2, p3, m_places, a_term, row_len, row_list]
/-- what can't be told -/
theorem told_len {t : Tm} (g : Good t) (xs : List D) (hl : xs.length ≠ (places t).length) (n : Nat) (hn : 34 ≤ n) : run pr n 37 [.v (PG t), .v (.lst xs)] [] = .exc 2 [([112, 97, 114, 116], .lst xs)] [] := by
  obtain ⟨n, rfl⟩ : ∃ m, n = m + 2 := ⟨n - 2, by omega⟩
  rw [rn_Program_told, x_body rfl]
  unfold b_Program_told
  have p0 := fun C => pure_ok (C := C) (f := 0) (ds := [.lst xs]) (run_row _ n true (by rfl))
  have p1 := fun C => pure_ok (C := C) (f := 36) (ds := [PG t]) (run_pplaces g (n + 1) (by omega))
  have e1 : ¬ (xs.length : Int) = (places t).length := by omega
  simp [p0, p1, m_places, l_lst, c_ne, e1, g_0, g_1, g_2, g_3, g_4, g_5, g_6, gd_0, lm_0, l_0, lm_1, l_1, lm_2, l_2, cl_0, cl_1, cl_2, cl_3, und_0_0, und_0_1, und_0_2, und_0_3, und_1_0, und_1_1, und_1_2, und_1_3, und_2_0, und_2_1, und_2_2, und_2_3, und_3_0, und_3_1, und_3_2, und_3_3]
theorem told_non {t : Tm} (n : Nat) (hn : 34 ≤ n) : run pr n 37 [.v (PG t), .v .non] [] = .exc 2 [([112, 97, 114, 116], .non)] [] := by
  obtain ⟨n, rfl⟩ : ∃ m, n = m + 2 := ⟨n - 2, by omega⟩
  rw [rn_Program_told, x_body rfl]
  unfold b_Program_told
  have p0 := fun C => pure_ok (C := C) (f := 0) (ds := [.non]) (run_row _ n false (by rfl))
  simp [p0, g_0, g_1, g_2, g_3, g_4, g_5, g_6, gd_0, lm_0, l_0, lm_1, l_1, lm_2, l_2, cl_0, cl_1, cl_2, cl_3, und_0_0, und_0_1, und_0_2, und_0_3, und_1_0, und_1_1, und_1_2, und_1_3, und_2_0, und_2_1, und_2_2, und_2_3, und_3_0, und_3_1, und_3_2, und_3_3]
theorem run_zz (n : Nat) (hn : 4 ≤ n) : run pr n 6 [.v (.str [122, 122])] [] = .ok (.v (.bl false)) [] := by
  obtain ⟨n, rfl⟩ : ∃ m, n = m + 4 := ⟨n - 4, by omega⟩
  rfl
theorem told_zz {t : Tm} (g : Good t) (hp : places t ≠ []) (n : Nat) (hn : 34 ≤ n) : run pr n 37 [.v (PG t), .v (.lst (List.replicate (places t).length (.str [122, 122])))] [] = .exc 2 [([112, 97, 114, 116], .lst (List.replicate (places t).length (.str [122, 122])))] [] := by
  obtain ⟨n, rfl⟩ : ∃ m, n = m + 2 := ⟨n - 2, by omega⟩
  rw [rn_Program_told, x_body rfl]
  unfold b_Program_told
  have g2 := g.p
  have hz : List.replicate (places t).length (D.str [122, 122]) = (places t).map fun _ => D.str [122, 122] := by rw [List.map_const']
  have p0 := fun C => pure_ok (C := C) (f := 0) (ds := [.lst (List.replicate (places t).length (.str [122, 122]))]) (run_row _ n true (by rfl))
  have p1 := fun C => pure_ok (C := C) (f := 36) (ds := [PG t]) (run_pplaces g (n + 1) (by omega))
  have p2 := fun C => pure_ok (C := C) (f := 6) (ds := [.str [122, 122]]) (run_zz (n + 1) (by omega))
  have e1 := all_map (fun _ : Kd => false) (places t)
  have e2 : (places t).all (fun _ => false) = false := by
    cases h : places t with
    | nil => exact absurd h hp
    | cons k r => rfl
  rw [hz] at p0 ⊢
  simp [p0, p1, m_places, l_lst, c_ne, seqD, wipeE]
  rw [genR_map (fun _ : Kd => D.str [122, 122]) (fun _ => .bl false) (places t)]
  · simp [e1, e2, g_0, g_1, g_2, g_3, g_4, g_5, g_6, gd_0, lm_0, l_0, lm_1, l_1, lm_2, l_2, cl_0, cl_1, cl_2, cl_3, und_0_0, und_0_1, und_0_2, und_0_3, und_1_0, und_1_1, und_1_2, und_1_3, und_2_0, und_2_1, und_2_2, und_2_3, und_3_0, und_3_1, und_3_2, und_3_3]
  · intro k hm acc ha
    refine ⟨_, rfl, ?_⟩
    simp [stepG_b, p2, push1_ok ha]
  · show (places t).length < 16777216
    omega
end K05

end

section
set_option maxRecDepth 512
set_option maxRecDepth 100000
set_option maxHeartbeats 4000000
set_option linter.all false
namespace Ev
/-! cells: one of them told anew, one more -/
def lstC (C : Cells) : Bool := C.all fun c => match c with
  | some (.ins _ _) => false
  | _ => true
theorem lowC_lst : ∀ (C : Cells) (n : Nat), lstC C = true → lowC n C = true
  | [], n, _ => rfl
  | c :: C, n, h => by
    simp only [lstC, List.all_cons, Bool.and_eq_true] at h
    cases c with
    | none => exact lowC_lst C n h.2
    | some c => cases c <;> first | exact lowC_lst C n h.2 | (simp at h)
theorem lstC_set {C : Cells} {j : Nat} {xs : List D} (h : lstC C = true) : lstC (C.set j (some (.lst xs))) = true := by
  simp only [lstC, List.all_eq_true] at h ⊢
  intro c hc
  rcases List.mem_or_eq_of_mem_set hc with hc | rfl
  · exact h c hc
  · rfl
theorem lstC_app {C : Cells} {xs : List D} (h : lstC C = true) : lstC (C ++ [some (.lst xs)]) = true := by
  simp only [lstC, List.all_append, Bool.and_eq_true] at h ⊢
  exact ⟨h, rfl⟩
theorem at_new {C : Cells} {j : Nat} {x y : Option Cell} : cellAt (C.set j x ++ [y]) C.length = y := by
  have e : (C.set j x ++ [y])[C.length]? = some y := by
    rw [List.getElem?_append_right (by simp)]; simp
  unfold cellAt; rw [e]; cases y <;> rfl
theorem at_old {C : Cells} {j : Nat} {x y : Option Cell} (h : j < C.length) : cellAt (C.set j x ++ [y]) j = x := by
  have e : (C.set j x ++ [y])[j]? = some x := by
    rw [List.getElem?_append_left (by simpa using h)]; simp [h]
  unfold cellAt; rw [e]; cases x <;> rfl
theorem set_new {C : Cells} {j : Nat} {x y z : Option Cell} : (C.set j x ++ [y]).set C.length z = C.set j x ++ [z] := by
  rw [List.set_append_right _ _ (by simp)]; simp
theorem set_old {C : Cells} {j : Nat} {x y z : Option Cell} (h : j < C.length) : (C.set j x ++ [y]).set j z = C.set j z ++ [y] := by
  rw [List.set_append_left _ _ (by simpa using h)]; simp
theorem take_new {C : Cells} {j : Nat} {x y : Option Cell} : (C.set j x ++ [y]).take C.length = C.set j x := by
  rw [List.take_append_of_le_length (by simp)]; exact List.take_of_length_le (by simp)
theorem set_self {C : Cells} {j : Nat} {x : Option Cell} (h : C[j]? = some x) : C.set j x = C := by
  apply List.ext_getElem?
  intro i
  by_cases e : i = j
  · subst e
    rw [h, List.getElem?_set_self (List.getElem?_eq_some_iff.mp h).1]
  · rw [List.getElem?_set_ne fun z => e z.symm]
end Ev
namespace K05
open Ev
theorem endB_new {C : Cells} {j : Nat} {xs : List D} {y : Option Cell} {d : D} (h : lstC C = true) : endB C (.ret (.v d) (C.set j (some (.lst xs)) ++ [y])) = .ok (.v d) (C.set j (some (.lst xs))) := by
  rw [endB_v (by rw [take_new]; exact lowC_lst _ _ (lstC_set h)), take_new]
theorem lst_cut {xs : List D} {a b : Option Int} : slV (.lst xs) a b = some (.lst (cutL xs a b)) := nrfl rfl
theorem tup_lst {xs : List D} : biV .tuple [.lst xs] = some (.tup xs) := nrfl rfl
theorem pop0 {x : D} {xs : List D} : mmV .popAt (.lst (x :: xs)) [.int 0] = some (.lst xs, x) := by simp [mmV, ixN]
theorem isLst_r {C : Cells} {n : Nat} {xs : List D} (h : cellAt C n = some (.lst xs)) : isLst C (.r n) = true := by simp [isLst, h, cellD]
theorem run_lretold : ∀ (t : Tm) (ks : List Kd) (n : Nat) (C : Cells) (j : Nat), ht t + 2 ≤ n → (places t).length ≤ ks.length → lstC C = true → C[j]? = some (some (.lst (ks.map (enc false)))) →
    run pr n 30 [.v (encT false t), .r j] C = .ok (.v (encT false (st t ks).1)) (C.set j (some (.lst ((st t ks).2.map (enc false))))) := by
  intro t
  have cpt : ∀ {s : Tm} {C : Cells}, cpO C (some (encT false s)) = .ok (.r C.length) (C ++ [some (.lst (.str (hw s) :: tl false s))]) := fun {s C} => by rw [encT_eq]; rfl
  have step : ∀ (s : Tm) (n : Nat) (C : Cells) (j : Nat), lstC C = true → j < C.length → ht s + 2 ≤ n → (∀ (ks : List Kd) (n : Nat) (C : Cells) (j : Nat), ht s + 2 ≤ n → (places s).length ≤ ks.length → lstC C = true → C[j]? = some (some (.lst (ks.map (enc false)))) →
      run pr n 30 [.v (encT false s), .r j] C = .ok (.v (encT false (st s ks).1)) (C.set j (some (.lst ((st s ks).2.map (enc false)))))) →
      ∀ (ks : List Kd) (late : List D), (places s).length ≤ ks.length → run pr n 30 [.v (encT false s), .r j] (C.set j (some (.lst (ks.map (enc false)))) ++ [some (.lst late)]) =
        .ok (.v (encT false (st s ks).1)) (C.set j (some (.lst ((st s ks).2.map (enc false)))) ++ [some (.lst late)]) := by
    intro s n C j hC hlt hn ih ks late hl
    rw [ih ks n _ j hn hl (lstC_app (lstC_set hC)) (by rw [List.getElem?_append_left (by simpa using hlt)]; simp [hlt]), set_old hlt]
  induction t with
  | lf q =>
    intro ks n C j hn hl hC hj
    obtain ⟨n, rfl⟩ : ∃ m, n = m + 2 := ⟨n - 2, by omega⟩
    have hlt := (List.getElem?_eq_some_iff.mp hj).1
    rw [rn__law_retold, x_body rfl]
    unfold b__law_retold
    have p1 := fun C => pure_ok (C := C) (f := 27) (ds := [encT false (.lf q)]) (run_lparts (.lf q) n)
    have eN : ∀ x, C ++ [x] = C.set j (some (.lst (ks.map (enc false)))) ++ [x] := by rw [set_self hj]; intro x; rfl
    simp [f_ix, w_fun, w_as, w_fa, f_len, atD, ixN, isFn, isAs, tl, ar, push1_v, line, seqD, genR_cons, genR_nil, pop0, isLst_r, cellD, at_new, hlt, at_old, set_new, set_old, wipeE, l_tup, l_lst, b_sub, lst_cut, tup_lst, cutL, sIx, bopV, eN, p1, parts, cpt, endB_new hC]
    simp [st, encT, row, hw]
  | fn x k t ih =>
    intro ks n C j hn hl hC hj
    obtain ⟨n, rfl⟩ : ∃ m, n = m + 2 := ⟨n - 2, by omega⟩
    simp only [ht] at hn
    cases ks with
    | nil => simp [places] at hl
    | cons k0 kr =>
      simp [places] at hl
      have hlt := (List.getElem?_eq_some_iff.mp hj).1
      rw [rn__law_retold, x_body rfl]
      unfold b__law_retold
      have p1 := fun C => pure_ok (C := C) (f := 27) (ds := [encT false (.fn x k t)]) (run_lparts (.fn x k t) n)
      have eN : ∀ x, C ++ [x] = C.set j (some (.lst ((k0 :: kr).map (enc false)))) ++ [x] := by rw [set_self hj]; intro x; rfl
      have p2 := fun late => step t (n + 1) C j hC hlt (by omega) ih kr late hl
      simp [f_ix, w_fun, w_as, w_fa, f_len, atD, ixN, isFn, isAs, tl, ar, push1_v, line, seqD, genR_cons, genR_nil, pop0, isLst_r, cellD, at_new, hlt, at_old, set_new, set_old, wipeE, l_tup, l_lst, b_sub, lst_cut, tup_lst, cutL, sIx, bopV, eN, p1, parts, cpt]
      simp [f_ix, w_fun, w_as, w_fa, f_len, atD, ixN, isFn, isAs, tl, ar, push1_v, line, seqD, genR_cons, genR_nil, pop0, isLst_r, cellD, at_new, hlt, at_old, set_new, set_old, wipeE, l_tup, l_lst, b_sub, lst_cut, tup_lst, cutL, sIx, bopV, eN, p2, endB_new hC]
      simp [st, encT, row, hw]
  | as_ k t ih =>
    intro ks n C j hn hl hC hj
    obtain ⟨n, rfl⟩ : ∃ m, n = m + 2 := ⟨n - 2, by omega⟩
    simp only [ht] at hn
    cases ks with
    | nil => simp [places] at hl
    | cons k0 kr =>
      simp [places] at hl
      have hlt := (List.getElem?_eq_some_iff.mp hj).1
      rw [rn__law_retold, x_body rfl]
      unfold b__law_retold
      have p1 := fun C => pure_ok (C := C) (f := 27) (ds := [encT false (.as_ k t)]) (run_lparts (.as_ k t) n)
      have eN : ∀ x, C ++ [x] = C.set j (some (.lst ((k0 :: kr).map (enc false)))) ++ [x] := by rw [set_self hj]; intro x; rfl
      have p2 := fun late => step t (n + 1) C j hC hlt (by omega) ih kr late hl
      simp [f_ix, w_fun, w_as, w_fa, f_len, atD, ixN, isFn, isAs, tl, ar, push1_v, line, seqD, genR_cons, genR_nil, pop0, isLst_r, cellD, at_new, hlt, at_old, set_new, set_old, wipeE, l_tup, l_lst, b_sub, lst_cut, tup_lst, cutL, sIx, bopV, eN, p1, parts, cpt]
      simp [f_ix, w_fun, w_as, w_fa, f_len, atD, ixN, isFn, isAs, tl, ar, push1_v, line, seqD, genR_cons, genR_nil, pop0, isLst_r, cellD, at_new, hlt, at_old, set_new, set_old, wipeE, l_tup, l_lst, b_sub, lst_cut, tup_lst, cutL, sIx, bopV, eN, p2, endB_new hC]
      simp [st, encT, row, hw]
  | n1 w a ih =>
    intro ks n C j hn hl hC hj
    obtain ⟨n, rfl⟩ : ∃ m, n = m + 2 := ⟨n - 2, by omega⟩
    simp only [ht] at hn
    simp [places] at hl
    have hlt := (List.getElem?_eq_some_iff.mp hj).1
    rw [rn__law_retold, x_body rfl]
    unfold b__law_retold
    have p1 := fun C => pure_ok (C := C) (f := 27) (ds := [encT false (.n1 w a)]) (run_lparts (.n1 w a) n)
    have eN : ∀ x, C ++ [x] = C.set j (some (.lst (ks.map (enc false)))) ++ [x] := by rw [set_self hj]; intro x; rfl
    have p2 := fun late => step a (n + 1) C j hC hlt (by omega) ih ks late hl
    simp [f_ix, w_fun, w_as, w_fa, f_len, atD, ixN, isFn, isAs, tl, ar, push1_v, line, seqD, genR_cons, genR_nil, pop0, isLst_r, cellD, at_new, hlt, at_old, set_new, set_old, wipeE, l_tup, l_lst, b_sub, lst_cut, tup_lst, cutL, sIx, bopV, eN, p1, parts, cpt]
    simp [f_ix, w_fun, w_as, w_fa, f_len, atD, ixN, isFn, isAs, tl, ar, push1_v, line, seqD, genR_cons, genR_nil, pop0, isLst_r, cellD, at_new, hlt, at_old, set_new, set_old, wipeE, l_tup, l_lst, b_sub, lst_cut, tup_lst, cutL, sIx, bopV, eN, p2, endB_new hC]
    simp [st, encT, row, hw]
  | lt x a b iha ihb =>
    intro ks n C j hn hl hC hj
    obtain ⟨n, rfl⟩ : ∃ m, n = m + 2 := ⟨n - 2, by omega⟩
    simp only [ht] at hn
    simp [places] at hl
    have hlt := (List.getElem?_eq_some_iff.mp hj).1
    rw [rn__law_retold, x_body rfl]
    unfold b__law_retold
    have p1 := fun C => pure_ok (C := C) (f := 27) (ds := [encT false (.lt x a b)]) (run_lparts (.lt x a b) n)
    have eN : ∀ x, C ++ [x] = C.set j (some (.lst (ks.map (enc false)))) ++ [x] := by rw [set_self hj]; intro x; rfl
    have p2 := fun late => step a (n + 1) C j hC hlt (by omega) iha ks late (by omega)
    have p3 := fun late => step b (n + 1) C j hC hlt (by omega) ihb (st a ks).2 late (by rw [st_rest]; simp; omega)
    simp [f_ix, w_fun, w_as, w_fa, f_len, atD, ixN, isFn, isAs, tl, ar, push1_v, line, seqD, genR_cons, genR_nil, pop0, isLst_r, cellD, at_new, hlt, at_old, set_new, set_old, wipeE, l_tup, l_lst, b_sub, lst_cut, tup_lst, cutL, sIx, bopV, eN, p1, parts, cpt]
    simp [f_ix, w_fun, w_as, w_fa, f_len, atD, ixN, isFn, isAs, tl, ar, push1_v, line, seqD, genR_cons, genR_nil, pop0, isLst_r, cellD, at_new, hlt, at_old, set_new, set_old, wipeE, l_tup, l_lst, b_sub, lst_cut, tup_lst, cutL, sIx, bopV, eN, p2, p3, endB_new hC]
    simp [st, encT, row, hw]
  | n2 w a b iha ihb =>
    intro ks n C j hn hl hC hj
    obtain ⟨n, rfl⟩ : ∃ m, n = m + 2 := ⟨n - 2, by omega⟩
    simp only [ht] at hn
    simp [places] at hl
    have hlt := (List.getElem?_eq_some_iff.mp hj).1
    rw [rn__law_retold, x_body rfl]
    unfold b__law_retold
    have p1 := fun C => pure_ok (C := C) (f := 27) (ds := [encT false (.n2 w a b)]) (run_lparts (.n2 w a b) n)
    have eN : ∀ x, C ++ [x] = C.set j (some (.lst (ks.map (enc false)))) ++ [x] := by rw [set_self hj]; intro x; rfl
    have p2 := fun late => step a (n + 1) C j hC hlt (by omega) iha ks late (by omega)
    have p3 := fun late => step b (n + 1) C j hC hlt (by omega) ihb (st a ks).2 late (by rw [st_rest]; simp; omega)
    simp [f_ix, w_fun, w_as, w_fa, f_len, atD, ixN, isFn, isAs, tl, ar, push1_v, line, seqD, genR_cons, genR_nil, pop0, isLst_r, cellD, at_new, hlt, at_old, set_new, set_old, wipeE, l_tup, l_lst, b_sub, lst_cut, tup_lst, cutL, sIx, bopV, eN, p1, parts, cpt]
    simp [f_ix, w_fun, w_as, w_fa, f_len, atD, ixN, isFn, isAs, tl, ar, push1_v, line, seqD, genR_cons, genR_nil, pop0, isLst_r, cellD, at_new, hlt, at_old, set_new, set_old, wipeE, l_tup, l_lst, b_sub, lst_cut, tup_lst, cutL, sIx, bopV, eN, p2, p3, endB_new hC]
    simp [st, encT, row, hw]
  | n3 a b c iha ihb ihc =>
    intro ks n C j hn hl hC hj
    obtain ⟨n, rfl⟩ : ∃ m, n = m + 2 := ⟨n - 2, by omega⟩
    simp only [ht] at hn
    simp [places] at hl
    have hlt := (List.getElem?_eq_some_iff.mp hj).1
    rw [rn__law_retold, x_body rfl]
    unfold b__law_retold
    have p1 := fun C => pure_ok (C := C) (f := 27) (ds := [encT false (.n3 a b c)]) (run_lparts (.n3 a b c) n)
    have eN : ∀ x, C ++ [x] = C.set j (some (.lst (ks.map (enc false)))) ++ [x] := by rw [set_self hj]; intro x; rfl
    have p2 := fun late => step a (n + 1) C j hC hlt (by omega) iha ks late (by omega)
    have p3 := fun late => step b (n + 1) C j hC hlt (by omega) ihb (st a ks).2 late (by rw [st_rest]; simp; omega)
    have p4 := fun late => step c (n + 1) C j hC hlt (by omega) ihc (st b (st a ks).2).2 late (by rw [st_rest, st_rest]; simp; omega)
    simp [f_ix, w_fun, w_as, w_fa, f_len, atD, ixN, isFn, isAs, tl, ar, push1_v, line, seqD, genR_cons, genR_nil, pop0, isLst_r, cellD, at_new, hlt, at_old, set_new, set_old, wipeE, l_tup, l_lst, b_sub, lst_cut, tup_lst, cutL, sIx, bopV, eN, p1, parts, cpt]
    simp [f_ix, w_fun, w_as, w_fa, f_len, atD, ixN, isFn, isAs, tl, ar, push1_v, line, seqD, genR_cons, genR_nil, pop0, isLst_r, cellD, at_new, hlt, at_old, set_new, set_old, wipeE, l_tup, l_lst, b_sub, lst_cut, tup_lst, cutL, sIx, bopV, eN, p2, p3, p4, endB_new hC]
    simp [st, encT, row, hw]
end K05

end

section
set_option maxRecDepth 512
set_option maxRecDepth 100000
set_option maxHeartbeats 4000000
set_option linter.all false
namespace Ev
theorem ixN_mod {n : Nat} (i : Int) (h : 0 < n) : ∃ j, ixN n (i % (n : Int)) = some j ∧ j < n := by
  have h1 := Int.emod_nonneg i (show (n : Int) ≠ 0 by omega)
  have h2 := Int.emod_lt_of_pos i (show (0 : Int) < n by omega)
  exact ⟨(i % (n : Int)).toNat, by simp [ixN, h1, h2], by omega⟩
theorem pds_ints : ∀ ns : List Int, pds (ns.map .int) = true
  | [] => rfl
  | n :: ns => by simp [pds, pd, pds_ints ns]
theorem deps_ints : ∀ ns : List Int, deps (ns.map .int) = 0
  | [] => rfl
  | n :: ns => by simp [deps, dep, deps_ints ns]
theorem shp_ints (ns : List Int) : shp (.lst (ns.map .int)) = true := by simp [shp, pd, dep, pds_ints, deps_ints]
theorem at_mod {ns : List Int} (i : Int) (h : ns ≠ []) : ∃ v, idxV (.lst (ns.map .int)) (.int (i % (ns.length : Int))) = some (.int v) := by
  have hp : 0 < ns.length := List.length_pos_iff.2 h
  obtain ⟨j, hj, hj2⟩ := ixN_mod i hp
  refine ⟨ns[j], ?_⟩
  simp [idxV, atD, hj, hj2]
theorem ne_nil {ns : List Int} : copV .ne (.lst (ns.map .int)) (.lst []) = some (!ns.isEmpty) := by
  rw [copV_ne (shp_ints ns) (by rfl)]
  cases ns <;> simp [eqD, eqDs]
theorem small_mod {i j : Int} (h : 0 < j) (h' : j < 1000000000000) : smallI (i % j) = true := by
  have h1 := Int.emod_nonneg i (show j ≠ 0 by omega)
  have h2 := Int.emod_lt_of_pos i h
  simp only [smallI, decide_eq_true_eq]; omega
theorem rng_mod {i j : Int} (h : 0 < j) (h' : j < 1000000000000) : rngOk (i % j) = true := by
  have h1 := Int.emod_nonneg i (show j ≠ 0 by omega)
  have h2 := Int.emod_lt_of_pos i h
  simp only [rngOk, decide_eq_true_eq]; omega
theorem pow18 : bopV .pow (.int 10) (.int 18) = some (.int 1000000000000000000) := by simp [bopV]
end Ev
namespace K05
open Ev
theorem run_number (ns : List Int) (hn : ns.length ≤ 63) (i : Int) (n : Nat) : ∃ v, run pr (n + 1) 20 [.v (.lst (ns.map .int)), .v (.int i)] [] = .ok (.v (.int v)) [] := by
  rw [rn__law_number, x_body rfl]
  unfold b__law_number
  have s1 : smallI 48271 = true := by decide
  have s2 : smallI 31 = true := by decide
  have s3 : smallI 40503 = true := by decide
  have s4 : smallI 69621 = true := by decide
  have s5 : smallI 977 = true := by decide
  have s6 : ∀ x : Int, smallI (x % 2147483647) = true := fun x => small_mod (by decide) (by decide)
  have s7 : ∀ x : Int, rngOk (x % 60) = true := fun x => rng_mod (by decide) (by decide)
  have s8 : rngOk 0 = true := by decide
  have key : ∀ (a c t : D) (r : Int) (S : Sms) (ds : List D), (∀ (r : Int) (s : Option E), ∃ v, endB [] (exSs pr (run pr n) (lamP pr (run pr n)) S [some (.v (.lst (ns.map .int))), some (.v (.int i)), some (.v (.int r)), s, none, some (.v c), some (.v t)] []) = .ok (.v (.int v)) []) →
      ∃ v, endB [] (seqR pr (run pr n) (lamP pr (run pr n)) S (forG pr (run pr n) (lamP pr (run pr n)) (.nm 3) (.cons (.asg (.nm 2) (.bop .fdiv (.slot 2) (.cst (.int 1009)))) .nil) ds [some (.v (.lst (ns.map .int))), some (.v (.int i)), some (.v (.int r)), none, none, some (.v c), some (.v t)] [])) = .ok (.v (.int v)) [] := by
    intro a c t r S ds h
    refine for_then (fun x => ∃ v, endB [] x = .ok (.v (.int v)) []) (fun env C => ∃ (r : Int) (s : Option E), env = [some (.v (.lst (ns.map .int))), some (.v (.int i)), some (.v (.int r)), s, none, some (.v c), some (.v t)] ∧ C = []) ⟨r, none, rfl, rfl⟩ ?_ ?_
    · rintro x - env C ⟨r, s, rfl, rfl⟩
      refine ⟨_, rfl, ?_⟩
      simp [b_add, b_sub, b_mod, b_fdiv, b_mul, b_mul', c_lt, c_gt, i_int, l_lst, pow18, s1, s2, s3, s4, s5, s6, s7, s8]
      exact .next (by simp)
    · rintro env C ⟨r, s, rfl, rfl⟩
      exact h r s
  by_cases he : ns = []
  · subst he
    have e1 := ne_nil (ns := [])
    simp only [List.map_nil] at e1
    simp [e1, b_add, b_sub, b_mod, b_fdiv, b_mul, b_mul', c_lt, c_gt, i_int, l_lst, pow18, s1, s2, s3, s4, s5, s6, s7, s8]
    simp only [List.map_nil] at key
    refine key .non _ _ _ _ _ fun r s => ?_
    by_cases hr : 0 < r <;> simp [hr, b_add, b_sub, b_mod, b_fdiv, b_mul, b_mul', c_lt, c_gt, i_int, l_lst, pow18, s1, s2, s3, s4, s5, s6, s7, s8]
  · obtain ⟨c, hc⟩ := at_mod i he
    have hp : 0 < (ns.length : Int) := by have := List.length_pos_iff.2 he; omega
    have hq : (ns.length : Int) < 1073741824 := by omega
    have e2 : copV .ne (.lst (ns.map .int)) (.lst []) = some true := by rw [ne_nil]; simp [he]
    have m1 := b_mod (i := i) hp
    have m2 := b_fdiv (i := i) hp hq
    by_cases ht : i / (ns.length : Int) < 60
    · simp [e2, hc, m1, m2, ht, b_add, b_sub, b_mod, b_fdiv, b_mul, b_mul', c_lt, c_gt, i_int, l_lst, pow18, s1, s2, s3, s4, s5, s6, s7, s8]
      refine key .non _ _ _ _ _ fun r s => ?_
      by_cases hr : 0 < r <;> simp [hr, b_add, b_sub, b_mod, b_fdiv, b_mul, b_mul', c_lt, c_gt, i_int, l_lst, pow18, s1, s2, s3, s4, s5, s6, s7, s8]
    · simp [e2, hc, m1, m2, ht, b_add, b_sub, b_mod, b_fdiv, b_mul, b_mul', c_lt, c_gt, i_int, l_lst, pow18, s1, s2, s3, s4, s5, s6, s7, s8]
      refine key .non _ _ _ _ _ fun r s => ?_
      by_cases hr : 0 < r <;> simp [hr, b_add, b_sub, b_mod, b_fdiv, b_mul, b_mul', c_lt, c_gt, i_int, l_lst, pow18, s1, s2, s3, s4, s5, s6, s7, s8]
/-- the draw's cell, and others -/
def dC (ns : List Int) (k : Int) (R : Cells) : Cells := some (.lst [.lst (ns.map .int), .int k]) :: R
def lowR (R : Cells) : Prop := ∀ n, lowC n R = true
theorem lowR_nil : lowR [] := fun _ => rfl
theorem dC_len {ns : List Int} {k : Int} {R : Cells} : (dC ns k R).length = R.length + 1 := by simp [dC]
theorem endB_dC {ns : List Int} {k k' : Int} {R : Cells} {d : D} (h : lowR R) : endB (dC ns k R) (.ret (.v d) (dC ns k' R)) = .ok (.v d) (dC ns k' R) := by
  have e : (dC ns k' R).take (dC ns k R).length = dC ns k' R := by rw [dC_len]; simp [dC]
  rw [endB_v (by rw [e]; exact h _), e]
theorem run_take (ns : List Int) (hn : ns.length ≤ 63) (k many : Int) (R : Cells) (hR : lowR R) (hm : 0 < many) (n : Nat) (h : 2 ≤ n) :
    ∃ v, 0 ≤ v ∧ v < many ∧ run pr n 21 [.r 0, .v (.int many)] (dC ns k R) = .ok (.v (.int v)) (dC ns (k + 1) R) := by
  obtain ⟨n, rfl⟩ : ∃ m, n = m + 2 := ⟨n - 2, by omega⟩
  obtain ⟨v, hv⟩ := run_number ns hn (k + 1) n
  have p1 := fun C => pure_ok (C := C) (ds := [.lst (ns.map .int), .int (k + 1)]) hv
  have m1 := b_mod (i := v) hm
  refine ⟨v % many, Int.emod_nonneg _ (by omega), Int.emod_lt_of_pos _ hm, ?_⟩
  rw [rn__law_take, x_body rfl]
  unfold b__law_take
  have e1 : augV .add (.int k) (.int 1) = some (.int (k + 1)) := rfl
  have e2 := endB_dC (ns := ns) (k := k) (k' := k + 1) (d := .int (v % many)) hR
  simp only [dC] at e2 ⊢
  simp [cellAt, cellD, atD, ixN, e1, p1, m1, i_int, idxV, e2]
theorem run_pick (ns : List Int) (hn : ns.length ≤ 63) (k : Int) (R : Cells) (hR : lowR R) (ds : List D) (hd : 0 < ds.length) (n : Nat) (h : 3 ≤ n) :
    ∃ d ∈ ds, run pr n 22 [.r 0, .v (.lst ds)] (dC ns k R) = .ok (.v d) (dC ns (k + 1) R) := by
  obtain ⟨n, rfl⟩ : ∃ m, n = m + 1 := ⟨n - 1, by omega⟩
  obtain ⟨v, h1, h2, p1⟩ := run_take ns hn k ds.length R hR (by omega) n (by omega)
  have h3 : v.toNat < ds.length := by omega
  refine ⟨ds[v.toNat], List.getElem_mem _, ?_⟩
  have e1 : idxV (.lst ds) (.int v) = some ds[v.toNat] := by simp [idxV, atD, ixN, h1, h2, h3]
  rw [rn__law_pick, x_body rfl]
  unfold b__law_pick
  simp [p1, l_lst, e1, endB_dC hR]
theorem run_kind (ns : List Int) (hn : ns.length ≤ 63) (R : Cells) (hR : lowR R) : ∀ (deep : Nat) (k : Int) (n : Nat), deep + 3 ≤ n →
    ∃ kd k', dp kd ≤ deep ∧ run pr n 23 [.r 0, .v (.int deep)] (dC ns k R) = .ok (.v (enc false kd)) (dC ns k' R) := by
  intro deep
  induction deep with
  | zero =>
    intro k n h
    obtain ⟨n, rfl⟩ : ∃ m, n = m + 1 := ⟨n - 1, by omega⟩
    obtain ⟨v, h1, h2, p1⟩ := run_take ns hn k 3 R hR (by omega) n (by omega)
    obtain rfl | rfl | rfl : v = 0 ∨ v = 1 ∨ v = 2 := by omega
    · refine ⟨.any, k + 1, by decide, ?_⟩
      rw [rn__law_kind, x_body rfl]
      unfold b__law_kind
      simp [p1, c_gt, c_lt, idxV, atD, ixN, endB_dC hR, push1_v, line]
      simp [enc]
    · refine ⟨.num, k + 1, by decide, ?_⟩
      rw [rn__law_kind, x_body rfl]
      unfold b__law_kind
      simp [p1, c_gt, c_lt, idxV, atD, ixN, endB_dC hR, push1_v, line]
      simp [enc]
    · refine ⟨.bit, k + 1, by decide, ?_⟩
      rw [rn__law_kind, x_body rfl]
      unfold b__law_kind
      simp [p1, c_gt, c_lt, idxV, atD, ixN, endB_dC hR, push1_v, line]
      simp [enc]
  | succ deep ih =>
    intro k n h
    obtain ⟨n, rfl⟩ : ∃ m, n = m + 1 := ⟨n - 1, by omega⟩
    obtain ⟨v, h1, h2, p1⟩ := run_take ns hn k 6 R hR (by omega) n (by omega)
    have hd : (0 : Int) < (deep : Int) + 1 := by omega
    have hd2 : (deep : Int) + 1 - 1 = deep := by omega
    by_cases hv : v < 3
    · obtain rfl | rfl | rfl : v = 0 ∨ v = 1 ∨ v = 2 := by omega
      · refine ⟨.any, k + 1, by simp [dp], ?_⟩
        rw [rn__law_kind, x_body rfl]
        unfold b__law_kind
        simp [p1, c_gt, c_lt, idxV, atD, ixN, hd, endB_dC hR, push1_v, line]
        simp [enc]
      · refine ⟨.num, k + 1, by simp [dp], ?_⟩
        rw [rn__law_kind, x_body rfl]
        unfold b__law_kind
        simp [p1, c_gt, c_lt, idxV, atD, ixN, hd, endB_dC hR, push1_v, line]
        simp [enc]
      · refine ⟨.bit, k + 1, by simp [dp], ?_⟩
        rw [rn__law_kind, x_body rfl]
        unfold b__law_kind
        simp [p1, c_gt, c_lt, idxV, atD, ixN, hd, endB_dC hR, push1_v, line]
        simp [enc]
    · obtain ⟨a, k1, a1, pa⟩ := ih (k + 1) n (by omega)
      obtain ⟨b, k2, b1, pb⟩ := ih k1 n (by omega)
      refine ⟨.two (decide (v = 5)) a b, k2, by simp [dp]; omega, ?_⟩
      rw [rn__law_kind, x_body rfl]
      unfold b__law_kind
      by_cases h5 : v = 5
      · subst h5
        simp [p1, c_gt, c_lt, c_eq, hd, b_sub, hd2, pa, pb, endB_dC hR, push1_v, line]
        simp [enc, wd, row]
      · simp [p1, c_gt, c_lt, c_eq, hd, hv, h5, b_sub, hd2, pa, pb, endB_dC hR, push1_v, line]
        simp [enc, wd, row]
end K05

end

section
set_option maxRecDepth 512
set_option maxRecDepth 100000
set_option maxHeartbeats 4000000
set_option linter.all false
namespace K05
open Ev
section
variable (ns : List Int) (hn : ns.length ≤ 63) (R : Cells) (hR : lowR R)
include hn hR
theorem run_ltold (w : Kd) (hw : dp w ≤ 1) (k : Int) (n : Nat) (h : 6 ≤ n) : ∃ kd k', dp kd ≤ 1 ∧ run pr n 24 [.r 0, .v (enc false w)] (dC ns k R) = .ok (.v (enc false kd)) (dC ns k' R) := by
  obtain ⟨n, rfl⟩ : ∃ m, n = m + 1 := ⟨n - 1, by omega⟩
  obtain ⟨v, h1, h2, p1⟩ := run_take ns hn k 6 R hR (by omega) n (by omega)
  by_cases h3 : v < 3
  · refine ⟨.any, k + 1, by simp [dp], ?_⟩
    rw [rn__law_told, x_body rfl]
    unfold b__law_told
    simp [p1, c_lt, h3, endB_dC hR]
    rfl
  · by_cases h5 : v < 5
    · refine ⟨w, k + 1, hw, ?_⟩
      rw [rn__law_told, x_body rfl]
      unfold b__law_told
      simp [p1, c_lt, h3, h5, endB_dC hR]
    · obtain ⟨kd, k', h6, p2⟩ := run_kind ns hn R hR 1 (k + 1) n (by omega)
      simp only [show ((1 : Nat) : Int) = 1 from rfl] at p2
      refine ⟨kd, k', h6, ?_⟩
      rw [rn__law_told, x_body rfl]
      unfold b__law_told
      simp [p1, c_lt, h3, h5, p2, endB_dC hR]
theorem eq_any {k : Kd} : copV .eq (enc false k) (.str [97, 110, 121]) = some (decide (k = .any)) ∨ 20 < dp k := by
  by_cases h : dp k ≤ 20
  · exact .inl (eq_enc h (b := .any) (by simp [dp]))
  · exact .inr (by omega)
theorem run_lleaf : ∀ (w : Kd) (k : Int) (n : Nat), dp w ≤ 1 → dp w + 8 ≤ n → ∃ t k', (∀ xs, okT xs t) ∧ ht t ≤ dp w + 1 ∧ run pr n 26 [.r 0, .v (enc false w)] (dC ns k R) = .ok (.v (encT false t)) (dC ns k' R) := by
  intro w
  have q1 : ∀ w, dp w ≤ 1 → copV .eq (enc false w) (.str [98, 105, 116]) = some (decide (w = .bit)) := fun w h => eq_enc (a := w) (b := .bit) (by omega) (by simp [dp])
  have q2 : ∀ w, dp w ≤ 1 → copV .eq (enc false w) (.str [97, 110, 121]) = some (decide (w = .any)) := fun w h => eq_enc (a := w) (b := .any) (by omega) (by simp [dp])
  induction w with
  | bit =>
    intro k n h1 h2
    obtain ⟨n, rfl⟩ : ∃ m, n = m + 1 := ⟨n - 1, by omega⟩
    obtain ⟨v, _, _, p1⟩ := run_take ns hn k 2 R hR (by omega) n (by omega)
    refine ⟨.lf (.bit (decide (v = 0))), k + 1, fun _ => trivial, by simp [ht], ?_⟩
    rw [rn__law_leaf, x_body rfl]
    unfold b__law_leaf
    simp [p1, q1, c_eq, endB_dC hR, push1_v, line, h1]
    simp [encT, row, lfw, lfd]
  | any =>
    intro k n h1 h2
    obtain ⟨n, rfl⟩ : ∃ m, n = m + 1 := ⟨n - 1, by omega⟩
    obtain ⟨v, _, _, p1⟩ := run_take ns hn k 2 R hR (by omega) n (by omega)
    by_cases hv : v = 0
    · obtain ⟨u, _, _, p2⟩ := run_take ns hn (k + 1) 2 R hR (by omega) n (by omega)
      refine ⟨.lf (.bit (decide (u = 0))), k + 1 + 1, fun _ => trivial, by simp [ht], ?_⟩
      rw [rn__law_leaf, x_body rfl]
      unfold b__law_leaf
      simp [p1, p2, q1, q2, c_eq, endB_dC hR, push1_v, line, h1, hv]
      simp [encT, row, lfw, lfd]
    · obtain ⟨u, u1, u2, p2⟩ := run_take ns hn (k + 1) 5 R hR (by omega) n (by omega)
      refine ⟨.lf (.num u), k + 1 + 1, fun _ => ⟨u1, by omega⟩, by simp [ht], ?_⟩
      rw [rn__law_leaf, x_body rfl]
      unfold b__law_leaf
      simp [p1, p2, q1, q2, c_eq, endB_dC hR, push1_v, line, h1, hv, isi_str, isTwo]
      simp [encT, row, lfw, lfd]
  | num =>
    intro k n h1 h2
    obtain ⟨n, rfl⟩ : ∃ m, n = m + 1 := ⟨n - 1, by omega⟩
    obtain ⟨u, u1, u2, p2⟩ := run_take ns hn k 5 R hR (by omega) n (by omega)
    refine ⟨.lf (.num u), k + 1, fun _ => ⟨u1, by omega⟩, by simp [ht], ?_⟩
    rw [rn__law_leaf, x_body rfl]
    unfold b__law_leaf
    simp [p2, q1, q2, c_eq, endB_dC hR, push1_v, line, h1, isi_str, isTwo]
    simp [encT, row, lfw, lfd]
  | two p a b iha ihb =>
    intro k n h1 h2
    obtain ⟨n, rfl⟩ : ∃ m, n = m + 1 := ⟨n - 1, by omega⟩
    have e := two_dp h1
    have e' : dp a < dp (.two p a b) ∧ dp b < dp (.two p a b) := by simp only [dp]; omega
    cases p with
    | true =>
      obtain ⟨s, k1, s1, s2, p1⟩ := iha k n e.1 (by omega)
      obtain ⟨t, k2, t1, t2, p2⟩ := ihb k1 n e.2.1 (by omega)
      refine ⟨.n2 .pair s t, k2, fun xs => ⟨s1 xs, t1 xs⟩, by simp only [ht]; omega, ?_⟩
      have c1 : copV .eq (.str (wd true)) (.str [112, 97, 105, 114]) = some true := rfl
      rw [rn__law_leaf, x_body rfl]
      unfold b__law_leaf
      simp [p1, p2, q1, q2, c_eq, endB_dC hR, push1_v, line, h1, isi_str, isTwo, ix0, ix1, ix2, c1]
      simp [encT, row, w2w]
    | false =>
      obtain ⟨kd, k1, s1, p1⟩ := run_ltold ns hn R hR a (by omega) k n (by omega)
      obtain ⟨t, k2, t1, t2, p2⟩ := ihb k1 n e.2.1 (by omega)
      refine ⟨.fn [119] kd t, k2, fun xs => ⟨by decide, s1, t1 _⟩, by simp only [ht]; omega, ?_⟩
      have c1 : copV .eq (.str (wd false)) (.str [112, 97, 105, 114]) = some false := rfl
      rw [rn__law_leaf, x_body rfl]
      unfold b__law_leaf
      simp [p1, p2, q1, q2, c_eq, endB_dC hR, push1_v, line, h1, isi_str, isTwo, ix0, ix1, ix2, c1]
      simp [encT, row]
/-- names and their kinds, as the law keeps them -/
def nk (p : Nm × Kd) : D := .tup [.str p.1, enc false p.2]
def S_term : Sms := match b__law_term with
  | .cons _ r => r
  | .nil => .nil
theorem str_nil {xs : List Nm} : copV .ne (.lst (xs.map .str)) (.lst []) = some (!xs.isEmpty) ∨ True := .inr trivial
theorem term_have (ps : List (Nm × Kd)) (w : Kd) (hw : dp w ≤ 1) (hp : ∀ p ∈ ps, dp p.2 ≤ 1) (hl : ps.length ≤ 100) (n : Nat) (o0 o2 o3 o4 o6 : Option E) (hw2 : o2 = some (.v (enc false w))) (C : Cells) :
    genR pr (run pr n) (lamP pr (run pr n)) (.tup (.cons (.nm 7) (.cons (.nm 5) .nil))) (.some (.cmp .eq (.slot 5) (.slot 2))) (.elt (.slot 7)) [o0, some (.v (.lst (ps.map nk))), o2, o3, o4, none, o6, none] (ps.map nk) C [] =
      .ok ((ps.filter fun p => decide (p.2 = w)).map fun p => .str p.1) C := by
  subst hw2
  refine genR_filter nk (fun p => decide (p.2 = w)) (fun p => .str p.1) ps ?_ (by show ps.length < 16777216; omega)
  intro p hm acc ha
  refine ⟨_, rfl, ?_⟩
  have q := eq_enc (a := p.2) (b := w) (by have := hp p hm; omega) (by omega)
  simp [q, stepG_b]
  by_cases e : p.2 = w
  · simp [e, push1_ok ha]
  · simp [e]
theorem ne_names {ps : List (Nm × Kd)} (h : ∀ p ∈ ps, p.1 ∈ nms4) : copV .ne (.lst (ps.map fun p => .str p.1)) (.lst []) = some (!ps.isEmpty) := by
  rw [copV_ne (shp_map fun p hp => ⟨pd_nm (h p hp), by simp [dep]⟩) (by rfl)]
  cases ps <;> simp [eqD, eqDs]
end
end K05

end

section
set_option maxRecDepth 512
set_option maxRecDepth 100000
set_option maxHeartbeats 4000000
set_option linter.all false
namespace K05
open Ev
def S_term2 : Sms := match S_term with
  | .cons _ (.cons _ r) => r
  | _ => .nil
/-- what _law_term promises -/
def TermP (ns : List Int) (R : Cells) (e : Nat) : Prop := ∀ (ps : List (Nm × Kd)) (w : Kd) (k : Int) (n : Nat), dp w ≤ 1 → (∀ p ∈ ps, p.1 ∈ nms4 ∧ dp p.2 ≤ 1) → ps.length + e ≤ 50 → e + 12 ≤ n →
  ∃ t k', okT (ps.map (·.1)) t ∧ ht t ≤ 2 * e + 2 ∧ run pr n 25 [.r 0, .v (.lst (ps.map nk)), .v (enc false w), .v (.int e)] (dC ns k R) = .ok (.v (encT false t)) (dC ns k' R)
theorem in_nb {w : Kd} (h : dp w ≤ 1) : copV .isin (enc false w) (.tup [.str [110, 117, 109], .str [98, 105, 116]]) = some (decide (w = .num ∨ w = .bit)) := by
  have h1 := shp_enc (l := false) (k := w) (by omega)
  have h2 : shps [.str [110, 117, 109], .str [98, 105, 116]] = true := by rfl
  have e1 := eqD_enc .num w
  have e2 := eqD_enc .bit w
  simp only [enc] at e1 e2
  simp only [copV, h1, h2, Bool.and_self, if_true, memD, e1, e2, Bool.or_false, Option.some.injEq]
  cases w <;> simp
theorem w_pair {p : Bool} : copV .eq (.str (wd p)) (.str [112, 97, 105, 114]) = some p := by cases p <;> rfl
theorem eq_num {w : Kd} (h : dp w ≤ 1) : copV .eq (enc false w) (.str [110, 117, 109]) = some (decide (w = .num)) := eq_enc (a := w) (b := .num) (by omega) (by simp [dp])
section
variable (ns : List Int) (hn : ns.length ≤ 63) (R : Cells) (hR : lowR R)
include hn hR
theorem term_end (d : Nat) (hd : ∀ e, d = e + 1 → TermP ns R e) (ps : List (Nm × Kd)) (w : Kd) (hw : dp w ≤ 1) (hp : ∀ p ∈ ps, p.1 ∈ nms4 ∧ dp p.2 ≤ 1) (hl : ps.length + d ≤ 50) (k k0 : Int) (n : Nat) (h9 : d + 11 ≤ n) (hv : D) :
    ∃ t k', okT (ps.map (·.1)) t ∧ ht t ≤ 2 * d + 2 ∧ endB (dC ns k0 R) (exSs pr (run pr n) (lamP pr (run pr n)) S_term2 [some (.r 0), some (.v (.lst (ps.map nk))), some (.v (enc false w)), some (.v (.int d)), some (.v hv), none, none, none] (dC ns k R)) = .ok (.v (encT false t)) (dC ns k' R) := by
  have mem1 : ∀ {ps : List (Nm × Kd)} {x : Nm} {o : Kd}, (∀ p ∈ ps, p.1 ∈ nms4 ∧ dp p.2 ≤ 1) → x ∈ nms4 → dp o ≤ 1 → ∀ p ∈ ps ++ [(x, o)], p.1 ∈ nms4 ∧ dp p.2 ≤ 1 := by
    intro ps x o h1 h2 h3 p hm
    rcases List.mem_append.mp hm with hm | hm
    · exact h1 p hm
    · simp at hm; subst hm; exact ⟨h2, h3⟩
  have cat : ∀ (x : Nm) (o : Kd), bopV .add (.lst (ps.map nk)) (.lst [.tup [.str x, enc false o]]) = some (.lst ((ps ++ [(x, o)]).map nk)) := by
    intro x o
    rw [b_cat (by simp; omega)]
    simp [nk]
  cases d with
  | zero =>
    obtain ⟨t, k', t1, t2, p1⟩ := run_lleaf ns hn R hR w k n hw (by omega)
    refine ⟨t, k', t1 _, by omega, ?_⟩
    unfold S_term2 S_term b__law_term
    cases w <;> simp [c_eq, c_gt, b_sub, push1_v, line, endB_dC hR, isi_tup, isTwo, p1]
  | succ e =>
    have ih := hd e rfl
    have hd1 : (0 : Int) < (e : Int) + 1 := by omega
    have hc : ((e + 1 : Nat) : Int) = (e : Int) + 1 := by omega
    obtain ⟨v, v1, v2, p0⟩ := run_take ns hn k 7 R hR (by omega) n (by omega)
    rw [hc]
    by_cases h0 : v = 0
    · subst h0
      obtain ⟨kd, k1, s1, q1⟩ := run_ltold ns hn R hR w hw (k + 1) n (by omega)
      obtain ⟨t, k2, t1, t2, q2⟩ := ih ps w k1 n hw hp (by omega) (by omega)
      refine ⟨.as_ kd t, k2, ⟨s1, t1⟩, by simp only [ht]; omega, ?_⟩
      unfold S_term2 S_term b__law_term
      simp [c_eq, c_gt, b_sub, push1_v, line, endB_dC hR, isi_tup, isTwo, hd1, p0, q1, q2]
      simp [encT, row]
    by_cases h1 : v = 1
    · subst h1
      obtain ⟨o, k1, o1, q0⟩ := run_kind ns hn R hR 1 (k + 1) n (by omega)
      simp only [show ((1 : Nat) : Int) = 1 from rfl] at q0
      obtain ⟨kd, k2, s1, q1⟩ := run_ltold ns hn R hR o o1 k1 n (by omega)
      obtain ⟨t, k3, t1, t2, q2⟩ := ih (ps ++ [([120], o)]) w k2 n hw (mem1 hp (by decide) o1) (by simp; omega) (by omega)
      obtain ⟨u, k4, u1, u2, q3⟩ := ih ps o k3 n o1 hp (by omega) (by omega)
      refine ⟨.n2 .call (.fn [120] kd t) u, k4, ⟨⟨by decide, s1, by simpa using t1⟩, u1⟩, by simp only [ht]; omega, ?_⟩
      simp only [List.map_append, List.map_cons, List.map_nil] at q2 cat
      unfold S_term2 S_term b__law_term
      simp [c_eq, c_gt, b_sub, push1_v, line, endB_dC hR, isi_tup, isTwo, hd1, p0, q0, q1, cat, q2, q3]
      simp [encT, row, w2w]
    by_cases h2 : v = 2
    · subst h2
      obtain ⟨s, k1, s1, s2, q1⟩ := ih ps .bit (k + 1) n (by simp [dp]) hp (by omega) (by omega)
      obtain ⟨t, k2, t1, t2, q2⟩ := ih ps w k1 n hw hp (by omega) (by omega)
      obtain ⟨u, k3, u1, u2, q3⟩ := ih ps w k2 n hw hp (by omega) (by omega)
      refine ⟨.n3 s t u, k3, ⟨s1, t1, u1⟩, by simp only [ht]; omega, ?_⟩
      simp only [enc] at q1
      unfold S_term2 S_term b__law_term
      simp [c_eq, c_gt, b_sub, push1_v, line, endB_dC hR, isi_tup, isTwo, hd1, p0, q1, q2, q3]
      simp [encT, row]
    by_cases h3 : v = 3
    · subst h3
      obtain ⟨o, k1, o1, q0⟩ := run_kind ns hn R hR 1 (k + 1) n (by omega)
      simp only [show ((1 : Nat) : Int) = 1 from rfl] at q0
      obtain ⟨s, k2, s1, s2, q1⟩ := ih ps o k1 n o1 hp (by omega) (by omega)
      obtain ⟨t, k3, t1, t2, q2⟩ := ih (ps ++ [([121], o)]) w k2 n hw (mem1 hp (by decide) o1) (by simp; omega) (by omega)
      refine ⟨.lt [121] s t, k3, ⟨by decide, s1, by simpa using t1⟩, by simp only [ht]; omega, ?_⟩
      simp only [List.map_append, List.map_cons, List.map_nil] at q2 cat
      unfold S_term2 S_term b__law_term
      simp [c_eq, c_gt, b_sub, push1_v, line, endB_dC hR, isi_tup, isTwo, hd1, p0, q0, q1, cat, q2]
      simp [encT, row]
    by_cases h4 : v = 4
    · subst h4
      obtain ⟨s, k1, s1, s2, q1⟩ := ih ps w (k + 1) n hw hp (by omega) (by omega)
      obtain ⟨t, k2, t1, t2, q2⟩ := run_lleaf ns hn R hR .num k1 n (by simp [dp]) (by simp [dp]; omega)
      refine ⟨.n1 false (.n2 .pair s t), k2, ⟨s1, t1 _⟩, by simp only [ht]; simp [dp] at t2; omega, ?_⟩
      simp only [enc] at q2
      unfold S_term2 S_term b__law_term
      simp [c_eq, c_gt, b_sub, push1_v, line, endB_dC hR, isi_tup, isTwo, hd1, p0, q1, q2]
      simp [encT, row, w2w, w1]
    have hv56 : v = 5 ∨ v = 6 := by omega
    have q5 := in_nb hw
    have q6 := eq_num hw
    by_cases h5 : v = 5 ∧ (w = .num ∨ w = .bit)
    · obtain ⟨rfl, hw2⟩ := h5
      obtain ⟨s, k1, s1, s2, q1⟩ := ih ps .num (k + 1) n (by simp [dp]) hp (by omega) (by omega)
      obtain ⟨t, k2, t1, t2, q2⟩ := ih ps .num k1 n (by simp [dp]) hp (by omega) (by omega)
      simp only [enc] at q1 q2
      rcases hw2 with rfl | rfl
      · refine ⟨.n2 .sum s t, k2, ⟨s1, t1⟩, by simp only [ht]; omega, ?_⟩
        unfold S_term2 S_term b__law_term
        simp [c_eq, c_gt, b_sub, push1_v, line, endB_dC hR, isi_tup, isTwo, hd1, p0, q1, q2, q5, q6]
        simp [encT, row, w2w]
      · refine ⟨.n2 .less s t, k2, ⟨s1, t1⟩, by simp only [ht]; omega, ?_⟩
        unfold S_term2 S_term b__law_term
        simp [c_eq, c_gt, b_sub, push1_v, line, endB_dC hR, isi_tup, isTwo, hd1, p0, q1, q2, q5, q6]
        simp [encT, row, w2w]
    · have lf : isTwo w = false → ∃ t k', okT (ps.map (·.1)) t ∧ ht t ≤ 2 * (e + 1) + 2 ∧ endB (dC ns k0 R) (exSs pr (run pr n) (lamP pr (run pr n)) S_term2 [some (.r 0), some (.v (.lst (ps.map nk))), some (.v (enc false w)), some (.v (.int ((e : Int) + 1))), some (.v hv), none, none, none] (dC ns k R)) = .ok (.v (encT false t)) (dC ns k' R) := by
        intro hT
        obtain ⟨t, k', t1, t2, p1⟩ := run_lleaf ns hn R hR w (k + 1) n hw (by omega)
        refine ⟨t, k', t1 _, by omega, ?_⟩
        unfold S_term2 S_term b__law_term
        rcases hv56 with rfl | rfl
        · simp at h5
          simp [c_eq, c_gt, b_sub, push1_v, line, endB_dC hR, isi_tup, hT, hd1, p0, p1, q5, h5]
        · simp [c_eq, c_gt, b_sub, push1_v, line, endB_dC hR, isi_tup, hT, hd1, p0, p1]
      cases w with
      | two p a b =>
        have e1 := two_dp hw
        cases p with
        | true =>
          obtain ⟨s, k1, s1, s2, q1⟩ := ih ps a (k + 1) n e1.1 hp (by omega) (by omega)
          obtain ⟨t, k2, t1, t2, q2⟩ := ih ps b k1 n e1.2.1 hp (by omega) (by omega)
          refine ⟨.n2 .pair s t, k2, ⟨s1, t1⟩, by simp only [ht]; omega, ?_⟩
          unfold S_term2 S_term b__law_term
          rcases hv56 with rfl | rfl
          · simp [c_eq, c_gt, b_sub, push1_v, line, endB_dC hR, isi_tup, isTwo, hd1, p0, q5, ix0, ix1, ix2, w_pair, q1, q2]
            simp [encT, row, w2w]
          · simp [c_eq, c_gt, b_sub, push1_v, line, endB_dC hR, isi_tup, isTwo, hd1, p0, q5, ix0, ix1, ix2, w_pair, q1, q2]
            simp [encT, row, w2w]
        | false =>
          obtain ⟨kd, k1, s1, q1⟩ := run_ltold ns hn R hR a e1.1 (k + 1) n (by omega)
          obtain ⟨t, k2, t1, t2, q2⟩ := ih (ps ++ [([122], a)]) b k1 n e1.2.1 (mem1 hp (by decide) e1.1) (by simp; omega) (by omega)
          refine ⟨.fn [122] kd t, k2, ⟨by decide, s1, by simpa using t1⟩, by simp only [ht]; omega, ?_⟩
          simp only [List.map_append, List.map_cons, List.map_nil] at q2 cat
          unfold S_term2 S_term b__law_term
          rcases hv56 with rfl | rfl
          · simp [c_eq, c_gt, b_sub, push1_v, line, endB_dC hR, isi_tup, isTwo, hd1, p0, q5, ix0, ix1, ix2, w_pair, q1, cat, q2]
            simp [encT, row]
          · simp [c_eq, c_gt, b_sub, push1_v, line, endB_dC hR, isi_tup, isTwo, hd1, p0, q5, ix0, ix1, ix2, w_pair, q1, cat, q2]
            simp [encT, row]
      | _ => exact lf rfl
theorem term_step (d : Nat) (hd : ∀ e, d = e + 1 → TermP ns R e) : TermP ns R d := by
  intro ps w0 k n hw0 hp hl h9
  obtain ⟨n, rfl⟩ : ∃ m, n = m + 1 := ⟨n - 1, by omega⟩
  rw [rn__law_term, x_body rfl]
  -- behind the first statement
  have rest : ∀ (w : Kd) (k : Int), dp w ≤ 1 → ∃ t k', okT (ps.map (·.1)) t ∧ ht t ≤ 2 * d + 2 ∧ ∀ k0, endB (dC ns k0 R) (exSs pr (run pr n) (lamP pr (run pr n)) S_term [some (.r 0), some (.v (.lst (ps.map nk))), some (.v (enc false w)), some (.v (.int d)), none, none, none, none] (dC ns k R)) = .ok (.v (encT false t)) (dC ns k' R) := by
    intro w k hw
    have hv := term_have ns hn R hR ps w hw (fun p hm => (hp p hm).2) (by omega) n (some (.r 0)) (some (.v (enc false w))) (some (.v (.int d))) none none rfl (dC ns k R)
    have hnn := ne_names ns hn R hR (ps := ps.filter fun p => decide (p.2 = w)) (fun p hm => (hp p (List.mem_filter.1 hm).1).1)
    generalize hT : S_term2 = T
    have hS : S_term = .cons (.asg (.nm 4) (.comp [7, 5] (.tup (.cons (.nm 7) (.cons (.nm 5) .nil))) (.seq (.slot 1)) (.some (.cmp .eq (.slot 5) (.slot 2))) (.elt (.slot 7)))) (.cons (.ife (.and (.cmp .ne (.slot 4) (.lst false .nil)) (.one (.cmp .gt (.call 21 (.cons (.slot 0) (.cons (.cst (.int 3)) .nil))) (.cst (.int 0))))) (.cons (.ret (.tup (.cons (.cst (.str [110, 97, 109, 101])) (.cons (.call 22 (.cons (.slot 0) (.cons (.slot 4) .nil))) .nil)))) .nil) .nil) T) := by rw [← hT]; rfl
    rw [hS]
    by_cases he : (ps.filter fun p => decide (p.2 = w)) = []
    · obtain ⟨t, k', t1, t2, p1⟩ := term_end ns hn R hR d hd ps w hw hp (by omega) k k n (by omega) (.lst [])
      refine ⟨t, k', t1, t2, fun k0 => ?_⟩
      rw [he] at hv hnn
      simp only [List.map_nil] at hv hnn
      rw [hT] at p1
      simp [seqD, wipeE, hv, hnn]
      have e0 : ∀ x, endB (dC ns k0 R) x = endB (dC ns k R) x := fun x => by simp only [endB, dC_len]
      rw [e0, p1]
    · obtain ⟨v, v1, v2, p0⟩ := run_take ns hn k 3 R hR (by omega) n (by omega)
      have hne : (ps.filter fun p => decide (p.2 = w)).isEmpty = false := by
        cases h : (ps.filter fun p => decide (p.2 = w)) with
        | nil => exact absurd h he
        | cons a b => rfl
      rw [hne] at hnn
      by_cases h0 : 0 < v
      · obtain ⟨x, hx, q1⟩ := run_pick ns hn (k + 1) R hR ((ps.filter fun p => decide (p.2 = w)).map fun p => .str p.1) (by rw [List.length_map]; exact List.length_pos_iff.2 he) n (by omega)
        obtain ⟨p, hm, rfl⟩ := List.mem_map.1 hx
        refine ⟨.lf (.nam p.1), k + 1 + 1, List.mem_map.2 ⟨p, (List.mem_filter.1 hm).1, rfl⟩, by simp [ht], fun k0 => ?_⟩
        generalize ((ps.filter fun p => decide (p.2 = w)).map fun p => D.str p.1) = hd' at hv hnn q1
        simp [seqD, wipeE, hv, hnn, p0, c_gt, h0, q1, endB_dC hR, push1_v, line]
        simp [encT, row, lfw, lfd]
      · obtain ⟨t, k', t1, t2, p1⟩ := term_end ns hn R hR d hd ps w hw hp (by omega) (k + 1) k n (by omega) (.lst ((ps.filter fun p => decide (p.2 = w)).map fun p => .str p.1))
        refine ⟨t, k', t1, t2, fun k0 => ?_⟩
        rw [hT] at p1
        generalize ((ps.filter fun p => decide (p.2 = w)).map fun p => D.str p.1) = hd' at hv hnn p1
        simp [seqD, wipeE, hv, hnn, p0, c_gt, h0]
        have e0 : ∀ x, endB (dC ns k0 R) x = endB (dC ns k R) x := fun x => by simp only [endB, dC_len]
        rw [e0, p1]
  obtain ⟨v, v1, v2, p0⟩ := run_take ns hn k 12 R hR (by omega) n (by omega)
  have hb : b__law_term = .cons (.ife (.cmp .eq (.call 21 (.cons (.slot 0) (.cons (.cst (.int 12)) .nil))) (.cst (.int 0))) (.cons (.asg (.nm 2) (.call 23 (.cons (.slot 0) (.cons (.cst (.int 1)) .nil)))) .nil) .nil) S_term := rfl
  rw [hb]
  generalize S_term = S at rest
  by_cases h0 : v = 0
  · subst h0
    obtain ⟨o, k1, o1, q0⟩ := run_kind ns hn R hR 1 (k + 1) n (by omega)
    simp only [show ((1 : Nat) : Int) = 1 from rfl] at q0
    obtain ⟨t, k', t1, t2, p1⟩ := rest o k1 o1
    refine ⟨t, k', t1, t2, ?_⟩
    simp [p0, c_eq, q0, p1]
  · obtain ⟨t, k', t1, t2, p1⟩ := rest w0 (k + 1) hw0
    refine ⟨t, k', t1, t2, ?_⟩
    simp [p0, c_eq, h0, p1]
theorem term_all : ∀ e, TermP ns R e := by
  intro e
  induction e with
  | zero => exact term_step ns hn R hR 0 fun e h => by omega
  | succ e ih => exact term_step ns hn R hR (e + 1) fun e' h => by cases h; exact ih
end
end K05

end

section
set_option maxRecDepth 512
set_option maxRecDepth 100000
set_option maxHeartbeats 4000000
set_option linter.all false
namespace K05
open Ev
/-! lists for tuples -/
theorem isi_tT {t : Tm} {C : Cells} : isiE C (.v (encT false t)) [.tuple] = some true := by cases t <;> rfl
theorem isi_tS {x : Nm} {C : Cells} : isiE C (.v (.str x)) [.tuple] = some false := nrfl rfl
theorem isi_tL {q : Lf} {C : Cells} : isiE C (.v (lfd q)) [.tuple] = some false := by cases q <;> rfl
theorem tup_seq {xs : List D} : seqD (.tup xs) = some xs := nrfl rfl
theorem run_listK : ∀ (k : Kd) (n : Nat), dp k < n → isTwo k = true → run pr n 32 [.v (enc false k)] [] = .ok (.v (enc true k)) [] := by
  intro k
  induction k with
  | two p a b iha ihb =>
    intro n h _
    obtain ⟨n, rfl⟩ := succ_of h
    have e3 := two_dp' h
    have pa : isTwo a = true → ∀ C, pureCall (run pr n) 32 [enc false a] C = .ok (.v (enc true a)) C := fun h C => pure_ok (C := C) (ds := [enc false a]) (iha n e3.1 h)
    have pb : isTwo b = true → ∀ C, pureCall (run pr n) 32 [enc false b] C = .ok (.v (enc true b)) C := fun h C => pure_ok (C := C) (ds := [enc false b]) (ihb n e3.2 h)
    rw [rn__law_listed, x_body rfl]
    unfold b__law_listed
    have sa : isTwo a = false → enc false a = enc true a := by cases a <;> simp [isTwo, enc]
    have sb : isTwo b = false → enc false b = enc true b := by cases b <;> simp [isTwo, enc]
    cases ha : isTwo a <;> cases hb : isTwo b <;> simp [enc, row, tup_seq, wipeE, genR_cons, genR_nil, isi_tS, isi_tup, ha, hb, pa, pb, push1_v, line] <;> simp [sa, sb, ha, hb]
  | _ => intro n _ h; simp [isTwo] at h
theorem listK (k : Kd) (n : Nat) (hn : dp k < n) : (isTwo k = true ∧ ∀ C, pureCall (run pr n) 32 [enc false k] C = .ok (.v (enc true k)) C) ∨ (isTwo k = false ∧ enc false k = enc true k) := by
  cases h : isTwo k with
  | true => exact .inl ⟨rfl, fun C => pure_ok (C := C) (ds := [enc false k]) (run_listK k n hn h)⟩
  | false => exact .inr ⟨rfl, by cases k <;> simp [isTwo] at h <;> rfl⟩
theorem run_listed : ∀ (t : Tm) (xs : List Nm) (n : Nat), okT xs t → ht t + 4 ≤ n → run pr n 32 [.v (encT false t)] [] = .ok (.v (encT true t)) [] := by
  intro t
  induction t with
  | lf q =>
    intro xs n h hn
    obtain ⟨n, rfl⟩ : ∃ m, n = m + 1 := ⟨n - 1, by omega⟩
    rw [rn__law_listed, x_body rfl]
    unfold b__law_listed
    simp [encT, tup_seq, wipeE, genR_cons, genR_nil, isi_tS, isi_tup, isi_tT, isi_tL, push1_v, line, row]
  | fn x k t ih =>
    intro xs n h hn
    obtain ⟨n, rfl⟩ : ∃ m, n = m + 1 := ⟨n - 1, by omega⟩
    simp only [ht] at hn
    rw [rn__law_listed, x_body rfl]
    unfold b__law_listed
    have p1 := fun C => pure_ok (C := C) (ds := [encT false t]) (ih _ n h.2.2 (by omega))
    rcases listK k n (by have := h.2.1; omega) with ⟨h1, p2⟩ | ⟨h1, p2⟩
    · simp [encT, tup_seq, wipeE, genR_cons, genR_nil, isi_tS, isi_tup, isi_tT, isi_tL, push1_v, line, row, p1, p2, h1]
    · simp [encT, tup_seq, wipeE, genR_cons, genR_nil, isi_tS, isi_tup, isi_tT, isi_tL, push1_v, line, row, p1, h1]; simp [p2]
  | as_ k t ih =>
    intro xs n h hn
    obtain ⟨n, rfl⟩ : ∃ m, n = m + 1 := ⟨n - 1, by omega⟩
    simp only [ht] at hn
    rw [rn__law_listed, x_body rfl]
    unfold b__law_listed
    have p1 := fun C => pure_ok (C := C) (ds := [encT false t]) (ih _ n h.2 (by omega))
    rcases listK k n (by have := h.1; omega) with ⟨h1, p2⟩ | ⟨h1, p2⟩
    · simp [encT, tup_seq, wipeE, genR_cons, genR_nil, isi_tS, isi_tup, isi_tT, isi_tL, push1_v, line, row, p1, p2, h1]
    · simp [encT, tup_seq, wipeE, genR_cons, genR_nil, isi_tS, isi_tup, isi_tT, isi_tL, push1_v, line, row, p1, h1]; simp [p2]
  | lt x a b iha ihb =>
    intro xs n h hn
    obtain ⟨n, rfl⟩ : ∃ m, n = m + 1 := ⟨n - 1, by omega⟩
    simp only [ht] at hn
    rw [rn__law_listed, x_body rfl]
    unfold b__law_listed
    have p1 := fun C => pure_ok (C := C) (ds := [encT false a]) (iha _ n h.2.1 (by omega))
    have p2 := fun C => pure_ok (C := C) (ds := [encT false b]) (ihb _ n h.2.2 (by omega))
    simp [encT, tup_seq, wipeE, genR_cons, genR_nil, isi_tS, isi_tup, isi_tT, isi_tL, push1_v, line, row, p1, p2]
  | n1 w a ih =>
    intro xs n h hn
    obtain ⟨n, rfl⟩ : ∃ m, n = m + 1 := ⟨n - 1, by omega⟩
    simp only [ht] at hn
    rw [rn__law_listed, x_body rfl]
    unfold b__law_listed
    have p1 := fun C => pure_ok (C := C) (ds := [encT false a]) (ih _ n h (by omega))
    simp [encT, tup_seq, wipeE, genR_cons, genR_nil, isi_tS, isi_tup, isi_tT, isi_tL, push1_v, line, row, p1]
  | n2 w a b iha ihb =>
    intro xs n h hn
    obtain ⟨n, rfl⟩ : ∃ m, n = m + 1 := ⟨n - 1, by omega⟩
    simp only [ht] at hn
    rw [rn__law_listed, x_body rfl]
    unfold b__law_listed
    have p1 := fun C => pure_ok (C := C) (ds := [encT false a]) (iha _ n h.1 (by omega))
    have p2 := fun C => pure_ok (C := C) (ds := [encT false b]) (ihb _ n h.2 (by omega))
    simp [encT, tup_seq, wipeE, genR_cons, genR_nil, isi_tS, isi_tup, isi_tT, isi_tL, push1_v, line, row, p1, p2]
  | n3 a b c iha ihb ihc =>
    intro xs n h hn
    obtain ⟨n, rfl⟩ : ∃ m, n = m + 1 := ⟨n - 1, by omega⟩
    simp only [ht] at hn
    rw [rn__law_listed, x_body rfl]
    unfold b__law_listed
    have p1 := fun C => pure_ok (C := C) (ds := [encT false a]) (iha _ n h.1 (by omega))
    have p2 := fun C => pure_ok (C := C) (ds := [encT false b]) (ihb _ n h.2.1 (by omega))
    have p3 := fun C => pure_ok (C := C) (ds := [encT false c]) (ihc _ n h.2.2 (by omega))
    simp [encT, tup_seq, wipeE, genR_cons, genR_nil, isi_tS, isi_tup, isi_tT, isi_tL, push1_v, line, row, p1, p2, p3]
/-! programs told -/
theorem isc_PG {t : Tm} {C : Cells} : iscE pr C (.v (PG t)) 3 = some true := nrfl rfl
theorem run_chk {t : Tm} (n : Nat) : run pr (n + 1) 12 [.v (PG t)] [] = .ok (.v .non) [] := by
  rw [rn_check_program, x_body rfl]
  unfold b_check_program
  simp [isc_PG]
theorem run_size {t : Tm} (g : Good t) (n : Nat) (hn : 14 ≤ n) : run pr n 16 [.v (PG t)] [] = .ok (.v (.int (size t))) [] := by
  obtain ⟨n, rfl⟩ : ∃ m, n = m + 2 := ⟨n - 2, by omega⟩
  rw [rn_size_of, x_body rfl]
  unfold b_size_of
  have p1 := fun C => pure_ok (C := C) (ds := [PG t]) (run_chk (t := t) n)
  have p2 := fun C => pure_ok (C := C) (ds := [encT false t]) (run_count t (n + 1) (by have := g.h; omega))
  simp [p1, p2, a_term]
/-- nothing is told -/
def bareK (t : Tm) : List Kd := (places t).map fun _ => .any
def bare (t : Tm) : Tm := (st t (bareK t)).1
theorem bareK_len {t : Tm} : (bareK t).length = (places t).length := by simp [bareK]
theorem bareK_dp {t : Tm} : ∀ k ∈ bareK t, dp k ≤ 1 := by
  intro k hk
  simp only [bareK, List.mem_map] at hk
  obtain ⟨_, _, rfl⟩ := hk
  simp [dp]
theorem bare_good {t : Tm} (g : Good t) : Good (bare t) := g.st bareK_len bareK_dp
theorem bare_places {t : Tm} : places (bare t) = bareK t := Good.places bareK_len
theorem run_bare {t : Tm} (g : Good t) (n : Nat) (hn : 36 ≤ n) : run pr n 19 [.v (PG t)] [] = .ok (.v (PG (bare t))) [] := by
  obtain ⟨n, rfl⟩ : ∃ m, n = m + 2 := ⟨n - 2, by omega⟩
  rw [rn_bare, x_body rfl]
  unfold b_bare
  have p1 := fun C => pure_ok (C := C) (ds := [PG t]) (run_chk (t := t) n)
  have p2 := fun C => pure_ok (C := C) (f := 36) (ds := [PG t]) (run_pplaces g (n + 1) (by omega))
  have p3 := fun C => pure_ok (C := C) (ds := [PG t, row true ((bareK t).map (enc false))]) (run_told g true (bareK t) bareK_len bareK_dp (n + 1) (by omega))
  simp [p1, p2, m_places, m_told, seqD, wipeE]
  rw [genR_map (enc false) (fun _ => .str [97, 110, 121]) (places t)]
  · have e1 : D.lst ((places t).map fun _ => D.str [97, 110, 121]) = row true ((bareK t).map (enc false)) := by simp [row, bareK, enc]
    simp [compE, m_told, e1, p3, bare]
  · intro k hk acc ha
    refine ⟨_, rfl, ?_⟩
    simp [stepG_b, push1_ok ha]
  · have := g.p
    show (places t).length < 16777216
    omega
end K05

end

section
set_option maxRecDepth 512
set_option maxRecDepth 100000
set_option maxHeartbeats 4000000
set_option linter.all false
namespace Ev
/-! rows of names and numbers -/
def encA (ps : List (Nm × Nat)) : List (D × D) := ps.map fun p => (.str p.1, .int p.2)
def lookA (w : Nm) : List (Nm × Nat) → Option Nat
  | [] => none
  | (a, n) :: r => if a = w then some n else lookA w r
def setA (w : Nm) (n : Nat) (ps : List (Nm × Nat)) : List (Nm × Nat) := ps.map fun p => (p.1, if p.1 = w then n else p.2)
def putA (w : Nm) (n : Nat) (ps : List (Nm × Nat)) : List (Nm × Nat) := if (lookA w ps).isSome then setA w n ps else ps ++ [(w, n)]
theorem look_enc (w : Nm) : ∀ ps : List (Nm × Nat), lookK (.str w) (encA ps) = (lookA w ps).map fun n => .int n
  | [] => rfl
  | (a, n) :: r => by
    have ih := look_enc w r
    simp only [encA, List.map_cons, lookK, lookA, kEq] at ih ⊢
    by_cases h : a = w
    · simp [h]
    · have : (a == w) = false := by simpa using h
      simp [h, this, ih]
theorem set_enc (w : Nm) (n : Nat) : ∀ ps : List (Nm × Nat), setK (.str w) (.int n) (encA ps) = encA (setA w n ps)
  | [] => rfl
  | (a, m) :: r => by
    have ih := set_enc w n r
    simp only [encA, setA, List.map_cons, setK, kEq] at ih ⊢
    by_cases h : a = w
    · subst h; simp [ih]
    · have : (a == w) = false := by simpa using h
      simp [h, this, ih]
theorem put_enc (w : Nm) (n : Nat) (ps : List (Nm × Nat)) : putKd (.str w) (.int n) (encA ps) = encA (putA w n ps) := by
  unfold putKd putA
  rw [look_enc]
  cases h : lookA w ps with
  | none => simp [encA]
  | some m => simp [set_enc]
theorem look_put (w v : Nm) (n : Nat) (ps : List (Nm × Nat)) : lookA v (putA w n ps) = if w = v then some n else lookA v ps := by
  have hset : ∀ ps : List (Nm × Nat), (lookA w ps).isSome = true → lookA v (setA w n ps) = if w = v then some n else lookA v ps := by
    intro ps
    induction ps with
    | nil => intro h; simp [lookA] at h
    | cons p r ih =>
      intro h
      obtain ⟨a, m⟩ := p
      simp only [setA, List.map_cons, lookA] at ih ⊢
      by_cases hav : a = v
      · subst hav
        by_cases haw : a = w
        · subst haw; simp
        · have : ¬ w = a := fun z => haw z.symm
          simp [haw, this]
      · simp only [hav, if_false]
        by_cases haw : a = w
        · subst haw
          have hn : ∀ r : List (Nm × Nat), lookA v (r.map fun p => (p.1, if p.1 = a then n else p.2)) = lookA v r := by
            intro r
            induction r with
            | nil => rfl
            | cons q r ih =>
              obtain ⟨b, k⟩ := q
              simp only [List.map_cons, lookA]
              by_cases hb : b = v
              · subst hb
                have : ¬ b = a := fun z => hav z.symm
                simp [this]
              · simp [hb, ih]
          simp [hav, hn]
        · have h' : (lookA w r).isSome = true := by simpa [lookA, haw] using h
          exact ih h'
  have happ : ∀ ps : List (Nm × Nat), lookA v (ps ++ [(w, n)]) = (lookA v ps).or (if w = v then some n else none) := by
    intro ps
    induction ps with
    | nil => simp [lookA]
    | cons p r ih =>
      obtain ⟨a, m⟩ := p
      simp only [List.cons_append, lookA]
      by_cases h : a = v
      · simp [h]
      · simp [h, ih]
  unfold putA
  by_cases h : (lookA w ps).isSome = true
  · rw [if_pos h]; exact hset ps h
  · rw [if_neg h, happ]
    by_cases hw : w = v
    · subst hw
      have : lookA w ps = none := by simpa using h
      simp [this]
    · simp [hw]
theorem look_mem (w : Nm) : ∀ ps : List (Nm × Nat), (lookA w ps).isSome = true ↔ w ∈ ps.map (·.1)
  | [] => by simp [lookA]
  | (a, n) :: r => by
    simp only [lookA, List.map_cons, List.mem_cons]
    by_cases h : a = w
    · subst h; simp
    · have h' : ¬ w = a := fun z => h z.symm
      simp only [h, if_false, h', false_or]
      exact look_mem w r
theorem keys_put (w : Nm) (n : Nat) (ps : List (Nm × Nat)) : (putA w n ps).map (·.1) = if (lookA w ps).isSome then ps.map (·.1) else ps.map (·.1) ++ [w] := by
  unfold putA setA
  split <;> simp
/-- a row tells the counts c -/
structure Tells (ps : List (Nm × Nat)) (c : Nm → Nat) : Prop where
  nd : (ps.map (·.1)).Nodup
  at_ : ∀ w, lookA w ps = if c w = 0 then none else some (c w)
theorem Tells.nil : Tells [] (fun _ => 0) := ⟨List.nodup_nil, fun w => by simp [lookA]⟩
theorem Tells.mem {ps : List (Nm × Nat)} {c : Nm → Nat} (t : Tells ps c) (w : Nm) : w ∈ ps.map (·.1) ↔ c w ≠ 0 := by
  rw [← look_mem, t.at_]
  by_cases h : c w = 0 <;> simp [h]
theorem Tells.put {ps : List (Nm × Nat)} {c : Nm → Nat} (t : Tells ps c) (w : Nm) : Tells (putA w (c w + 1) ps) (fun v => (if w = v then 1 else 0) + c v) where
  nd := by
    rw [keys_put]
    split
    · exact t.nd
    · rename_i h
      have : w ∉ ps.map (·.1) := fun z => h ((look_mem w ps).2 z)
      rw [List.nodup_append]
      exact ⟨t.nd, by simp, fun a ha b hb => by simp at hb; subst hb; exact fun z => this (z ▸ ha)⟩
  at_ := fun v => by
    rw [look_put]
    by_cases h : w = v
    · subst h; simp; omega
    · simp [h, t.at_]
theorem Tells.get {ps : List (Nm × Nat)} {c : Nm → Nat} (t : Tells ps c) (w : Nm) : dgtV (.dct (encA ps)) (.str w) (.int 0) = some (.int (c w)) := by
  simp only [dgtV, keyB, if_true, look_enc, t.at_]
  by_cases h : c w = 0 <;> simp [h]
/-- no more than there are -/
theorem nodup_le {α : Type} [DecidableEq α] : ∀ (L ws : List α), ws.Nodup → (∀ w ∈ ws, w ∈ L) → ws.length ≤ L.length
  | [], ws, _, h => by
    cases ws with
    | nil => simp
    | cons a r => exact absurd (h a (List.mem_cons_self ..)) (by simp)
  | a :: L, ws, hn, h => by
    have h1 := nodup_le L (ws.erase a) (hn.erase a) fun w hw => by
      have h2 := h w (List.mem_of_mem_erase hw)
      have h3 : w ≠ a := fun z => by subst z; exact (hn.not_mem_erase) hw
      simpa [h3] using h2
    by_cases ha : a ∈ ws
    · rw [List.length_erase_of_mem ha] at h1
      have := List.length_pos_of_mem ha
      simp; omega
    · rw [List.erase_of_not_mem ha] at h1
      simp; omega
/-! texts in order -/
theorem lenTotal : ∀ a b : Nm, leN a b = true ∨ leN b a = true
  | [], b => .inl (by simp [leN])
  | a :: x, [] => .inr (by simp [leN])
  | a :: x, b :: y => by
    simp only [leN, Bool.or_eq_true, decide_eq_true_eq, Bool.and_eq_true, beq_iff_eq]
    rcases Nat.lt_trichotomy a b with h | h | h
    · exact .inl (.inl h)
    · rcases lenTotal x y with h2 | h2
      · exact .inl (.inr ⟨h, h2⟩)
      · exact .inr (.inr ⟨h.symm, h2⟩)
    · exact .inr (.inl h)
theorem lenTrans : ∀ a b c : Nm, leN a b = true → leN b c = true → leN a c = true
  | [], _, _, _, _ => by simp [leN]
  | a :: x, [], _, h, _ => by simp [leN] at h
  | a :: x, b :: y, [], _, h => by simp [leN] at h
  | a :: x, b :: y, c :: z, h1, h2 => by
    simp only [leN, Bool.or_eq_true, decide_eq_true_eq, Bool.and_eq_true, beq_iff_eq] at h1 h2 ⊢
    rcases h1 with h1 | ⟨h1, h1'⟩
    · rcases h2 with h2 | ⟨h2, _⟩
      · exact .inl (by omega)
      · exact .inl (by omega)
    · rcases h2 with h2 | ⟨h2, h2'⟩
      · exact .inl (by omega)
      · exact .inr ⟨by omega, lenTrans x y z h1' h2'⟩
theorem lenAnti : ∀ a b : Nm, leN a b = true → leN b a = true → a = b
  | [], [], _, _ => rfl
  | [], b :: y, _, h => by simp [leN] at h
  | a :: x, [], h, _ => by simp [leN] at h
  | a :: x, b :: y, h1, h2 => by
    simp only [leN, Bool.or_eq_true, decide_eq_true_eq, Bool.and_eq_true, beq_iff_eq] at h1 h2
    rcases h1 with h1 | ⟨h1, h1'⟩
    · rcases h2 with h2 | ⟨h2, _⟩ <;> omega
    · rcases h2 with h2 | ⟨_, h2'⟩
      · omega
      · rw [h1, lenAnti x y h1' h2']
theorem ins_perm (x : Nm) : ∀ ys : List Nm, (insN x ys).Perm (x :: ys)
  | [] => List.Perm.refl _
  | y :: r => by
    rw [insN]
    split
    · exact List.Perm.refl _
    · exact ((ins_perm x r).cons y).trans (List.Perm.swap x y r)
theorem sort_perm : ∀ xs : List Nm, (sortN xs).Perm xs
  | [] => List.Perm.refl _
  | x :: r => (ins_perm x _).trans ((sort_perm r).cons x)
theorem ins_sorted (x : Nm) : ∀ ys : List Nm, ys.Pairwise (fun a b => leN a b = true) → (insN x ys).Pairwise (fun a b => leN a b = true)
  | [], _ => by simp [insN]
  | y :: r, h => by
    rw [insN]
    rw [List.pairwise_cons] at h
    split
    · rename_i hxy
      refine List.pairwise_cons.2 ⟨fun z hz => ?_, List.pairwise_cons.2 h⟩
      rcases List.mem_cons.1 hz with rfl | hz
      · exact hxy
      · exact lenTrans _ _ _ hxy (h.1 z hz)
    · rename_i hxy
      have hyx := (lenTotal x y).resolve_left hxy
      refine List.pairwise_cons.2 ⟨fun z hz => ?_, ins_sorted x r h.2⟩
      rcases List.mem_cons.1 ((ins_perm x r).mem_iff.1 hz) with rfl | hz
      · exact hyx
      · exact h.1 z hz
theorem sort_sorted : ∀ xs : List Nm, (sortN xs).Pairwise (fun a b => leN a b = true)
  | [] => List.Pairwise.nil
  | x :: r => ins_sorted x _ (sort_sorted r)
theorem sorted_uniq : ∀ xs ys : List Nm, xs.Pairwise (fun a b => leN a b = true) → ys.Pairwise (fun a b => leN a b = true) → xs.Nodup → ys.Nodup → (∀ w, w ∈ xs ↔ w ∈ ys) → xs = ys
  | [], [], _, _, _, _, _ => rfl
  | [], y :: r, _, _, _, _, h => absurd ((h y).2 (List.mem_cons_self ..)) (by simp)
  | x :: r, [], _, _, _, _, h => absurd ((h x).1 (List.mem_cons_self ..)) (by simp)
  | x :: xs, y :: ys, h1, h2, h3, h4, h => by
    rw [List.pairwise_cons] at h1 h2
    rw [List.nodup_cons] at h3 h4
    have e : x = y := by
      rcases List.mem_cons.1 ((h x).1 (List.mem_cons_self ..)) with e | hx
      · exact e
      · rcases List.mem_cons.1 ((h y).2 (List.mem_cons_self ..)) with e | hy
        · exact e.symm
        · exact lenAnti _ _ (h1.1 y hy) (h2.1 x hx)
    subst e
    rw [sorted_uniq xs ys h1.2 h2.2 h3.2 h4.2 fun w => ?_]
    constructor
    · intro hw
      rcases List.mem_cons.1 ((h w).1 (List.mem_cons_of_mem _ hw)) with e | hw'
      · subst e; exact absurd hw h3.1
      · exact hw'
    · intro hw
      rcases List.mem_cons.1 ((h w).2 (List.mem_cons_of_mem _ hw)) with e | hw'
      · subst e; exact absurd hw h4.1
      · exact hw'
theorem strsD_map : ∀ xs : List Nm, strsD (xs.map .str) = some xs
  | [] => rfl
  | x :: r => by simp [strsD, strsD_map r]
/-- two rows that tell the same -/
theorem Tells.sort_eq {ps qs : List (Nm × Nat)} {c : Nm → Nat} (t : Tells ps c) (u : Tells qs c) : sortN (ps.map (·.1)) = sortN (qs.map (·.1)) :=
  sorted_uniq _ _ (sort_sorted _) (sort_sorted _) ((sort_perm _).nodup_iff.2 t.nd) ((sort_perm _).nodup_iff.2 u.nd) fun w => by
    rw [(sort_perm _).mem_iff, (sort_perm _).mem_iff, t.mem, u.mem]
theorem Tells.len_eq {ps qs : List (Nm × Nat)} {c : Nm → Nat} (t : Tells ps c) (u : Tells qs c) : ps.length = qs.length := by
  have h := congrArg List.length (t.sort_eq u)
  rw [(sort_perm _).length_eq, (sort_perm _).length_eq, List.length_map, List.length_map] at h
  exact h
/-- the row that sorted() makes of it -/
def tidy (ps : List (Nm × Nat)) (c : Nm → Nat) : List (D × D) := (sortN (ps.map (·.1))).map fun w => (.str w, .int (c w))
theorem Tells.eqKV {ps qs : List (Nm × Nat)} {c : Nm → Nat} (t : Tells ps c) (u : Tells qs c) : Ev.eqKV (tidy ps c) (encA qs) = true := by
  have hl : (tidy ps c).length = (encA qs).length := by
    simp only [tidy, encA, List.length_map, (sort_perm _).length_eq]
    exact t.len_eq u
  have ha : ∀ ws : List Nm, (∀ w ∈ ws, c w ≠ 0) → allKV (encA qs) (ws.map fun w => ((.str w, .int (c w)) : D × D)) = true := by
    intro ws
    induction ws with
    | nil => intro _; rfl
    | cons w ws ih =>
      intro h
      have hw := h w (List.mem_cons_self ..)
      simp only [List.map_cons, allKV, look_enc, u.at_, hw, if_false, Option.map_some, sameF, beq_self_eq_true, Bool.true_and]
      exact ih fun v hv => h v (List.mem_cons_of_mem _ hv)
  unfold Ev.eqKV
  rw [hl]
  simp only [beq_self_eq_true, Bool.true_and]
  exact ha _ fun w hw => by
    rw [(sort_perm _).mem_iff] at hw
    exact (t.mem w).1 hw
end Ev

end

section
set_option maxRecDepth 512
set_option maxRecDepth 100000
set_option maxHeartbeats 4000000
set_option linter.all false
namespace K05
open Ev
def words : List Nm := forms.map (·.1)
theorem hw_words (t : Tm) : hw t ∈ words := by
  cases t with
  | lf q => cases q <;> simp only [hw, lfw] <;> decide
  | n1 w a => cases w <;> simp only [hw, w1] <;> decide
  | n2 w a b => cases w <;> simp only [hw, w2w] <;> decide
  | _ => simp only [hw]; decide
def cw : Tm → Nm → Nat
  | .lf q, w => if lfw q = w then 1 else 0
  | .fn _ _ t, w => (if [102, 117, 110] = w then 1 else 0) + cw t w
  | .as_ _ t, w => (if [97, 115] = w then 1 else 0) + cw t w
  | .lt _ a b, w => (if [108, 101, 116] = w then 1 else 0) + (cw a w + cw b w)
  | .n1 v a, w => (if w1 v = w then 1 else 0) + cw a w
  | .n2 v a b, w => (if w2w v = w then 1 else 0) + (cw a w + cw b w)
  | .n3 a b c, w => (if [105, 102] = w then 1 else 0) + (cw a w + (cw b w + cw c w))
theorem cw_eq (t : Tm) (w : Nm) : cw t w = (if hw t = w then 1 else 0) + ((parts t).map (cw · w)).sum := by cases t <;> simp [cw, hw, parts] <;> (split <;> simp_all)
theorem cw_words : ∀ (t : Tm) (w : Nm), cw t w ≠ 0 → w ∈ words := by
  refine ind' fun t ih w h => ?_
  by_cases e : hw t = w
  · subst e; exact hw_words t
  · rw [cw_eq, if_neg e, Nat.zero_add] at h
    apply Classical.byContradiction
    intro hn
    apply h
    have : ∀ l : List Tm, (∀ s ∈ l, cw s w = 0) → (l.map (cw · w)).sum = 0 := by
      intro l
      induction l with
      | nil => intro _; rfl
      | cons s l ih2 => intro hl; simp [hl s (List.mem_cons_self ..), ih2 fun y hy => hl y (List.mem_cons_of_mem _ hy)]
    refine this _ fun s hs => ?_
    apply Classical.byContradiction
    intro hc
    exact hn (ih s hs w hc)
theorem Tells.short {ps : List (Nm × Nat)} {c : Nm → Nat} (t : Tells ps c) (h : ∀ w, c w ≠ 0 → w ∈ words) : ps.length ≤ 13 := by
  have := nodup_le words (ps.map (·.1)) t.nd fun w hw => h w ((t.mem w).1 hw)
  rw [List.length_map] at this
  exact this
theorem isDct_r {C : Cells} {n : Nat} {kvs : List (D × D)} (h : cellAt C n = some (.dct kvs)) : isDct C (.r n) = true := by simp [isDct, h, cellD]
theorem endB_r {C0 C : Cells} {k : Nat} : endB C0 (.ret (.r k) C) = .ok (.r k) C := nrfl rfl
theorem at_of {C : Cells} {j : Nat} {c : Cell} (h : C[j]? = some (some c)) : cellAt C j = some c := by simp [cellAt, h]
theorem encA_len {ps : List (Nm × Nat)} : (encA ps).length = ps.length := by simp [encA]
theorem run_lforms : ∀ (t : Tm) (n : Nat) (C : Cells) (j : Nat) (ps : List (Nm × Nat)) (c : Nm → Nat), ht t + 2 ≤ n → C[j]? = some (some (.dct (encA ps))) → Tells ps c → (∀ w, c w ≠ 0 → w ∈ words) →
    ∃ ps', Tells ps' (fun w => cw t w + c w) ∧ run pr n 31 [.v (encT false t), .r j] C = .ok (.r j) (C.set j (some (.dct (encA ps')))) := by
  refine ind' fun t ih n C j ps c hn hj ht' hw' => ?_
  obtain ⟨n, rfl⟩ : ∃ m, n = m + 2 := ⟨n - 2, by omega⟩
  have hlt := (List.getElem?_eq_some_iff.mp hj).1
  have hp := Tells.short ht' hw'
  have p1 := fun C => pure_ok (C := C) (f := 27) (ds := [encT false t]) (run_lparts t n)
  have h1 := ht'.put (hw t)
  have hput := put_enc (hw t) (c (hw t) + 1) ps
  simp only [Int.natCast_add, Int.natCast_one] at hput
  have loop : ∃ ps', Tells ps' (fun w => cw t w + c w) ∧ endB C (seqR pr (run pr (n + 1)) (lamP pr (run pr (n + 1))) (.cons (.ret (.slot 1)) .nil) (forG pr (run pr (n + 1)) (lamP pr (run pr (n + 1))) (.nm 2) (.cons (.exp (.call 31 (.cons (.slot 2) (.cons (.slot 1) .nil)))) .nil) ((parts t).map (encT false))
      [some (.v (encT false t)), some (.r j), none] (C.set j (some (.dct (encA (putA (hw t) (c (hw t) + 1) ps))))))) = .ok (.r j) (C.set j (some (.dct (encA ps')))) := by
    refine for_preM (fun r => ∃ ps', Tells ps' (fun w => cw t w + c w) ∧ endB C r = .ok (.r j) (C.set j (some (.dct (encA ps'))))) (encT false) (fun pre env C' => ∃ (qs : List (Nm × Nat)) (o : Option E), Tells qs (fun w => (pre.map (cw · w)).sum + ((if hw t = w then 1 else 0) + c w)) ∧ env = [some (.v (encT false t)), some (.r j), o] ∧ C' = C.set j (some (.dct (encA qs)))) ⟨_, none, by simpa using h1, rfl, rfl⟩ ?_ ?_
    · rintro pre s post env C' hs ⟨qs, o, hq, rfl, rfl⟩
      refine ⟨_, rfl, ?_⟩
      have hm : s ∈ parts t := by rw [hs]; simp
      obtain ⟨qs', hq', p2⟩ := ih s hm (n + 1) (C.set j (some (.dct (encA qs)))) j qs _ (by have := parts_ht hm; omega) (by simp [hlt]) hq (by
        intro w hw2
        by_cases e1 : hw t = w
        · subst e1; exact hw_words t
        · by_cases e2 : c w = 0
          · apply cw_words t w
            rw [cw_eq, if_neg e1, hs]
            simp [e1, e2] at hw2
            simp; omega
          · exact hw' w e2)
      simp only [List.set_set] at p2
      simp [p2]
      refine .next ⟨qs', ?_, by simp⟩
      have e : (fun w => (pre.map (cw · w)).sum + cw s w + ((if hw t = w then 1 else 0) + c w)) = fun w => cw s w + ((pre.map (cw · w)).sum + ((if hw t = w then 1 else 0) + c w)) := by
        funext w; omega
      rw [e]; exact hq'
    · rintro env C' ⟨qs, o, hq, rfl, rfl⟩
      refine ⟨qs, ?_, ?_⟩
      · have e : (fun w => ((parts t).map (cw · w)).sum + ((if hw t = w then 1 else 0) + c w)) = fun w => cw t w + c w := by
          funext w; rw [cw_eq]; omega
        rw [← e]; exact hq
      · simp [endB_r]
  obtain ⟨ps', hq, hl⟩ := loop
  refine ⟨ps', hq, ?_⟩
  rw [rn__law_forms, x_body rfl]
  unfold b__law_forms
  have hl2 : ps.length < 16777216 := by omega
  simp [f_ix, atD, ixN, at_of hj, isDct_r (at_of hj), cellD, ht'.get, b_add, keyB, encA_len, hl2, hput, p1, seqD, hl]
end K05

end

section
set_option maxRecDepth 512
set_option maxRecDepth 100000
set_option maxHeartbeats 4000000
set_option linter.all false
namespace K05
open Ev
/-- seen deep -/
def SH (s : Tm) : Prop := pd (encT false s) = true ∧ dep (encT false s) ≤ 40
theorem SH_parts {t s : Tm} (h : SH t) (hs : s ∈ parts t) : SH s := by
  obtain ⟨h1, h2⟩ := h
  cases t <;> simp only [parts, List.mem_cons, List.mem_nil_iff, or_false] at hs <;> simp [encT, row, pd, pds, dep, deps] at h1 h2
  case fn x k t => subst hs; exact ⟨h1.2.2, by omega⟩
  case as_ k t => subst hs; exact ⟨h1.2, by omega⟩
  case lt x a b =>
    rcases hs with rfl | rfl
    · exact ⟨h1.2.1, by omega⟩
    · exact ⟨h1.2.2, by omega⟩
  case n1 w a => subst hs; exact ⟨h1.2, by omega⟩
  case n2 w a b =>
    rcases hs with rfl | rfl
    · exact ⟨h1.2.1, by omega⟩
    · exact ⟨h1.2.2, by omega⟩
  case n3 a b c =>
    rcases hs with rfl | rfl | rfl
    · exact ⟨h1.1, by omega⟩
    · exact ⟨h1.2.1, by omega⟩
    · exact ⟨h1.2.2, by omega⟩
theorem size_pos (t : Tm) : 0 < size t := by cases t <;> simp [size] <;> omega
theorem size_le : ∀ t : Tm, size t ≤ 3 ^ ht t := by
  have key : ∀ t : Tm, size t + 1 ≤ 3 ^ ht t := by
    have mono : ∀ {a b : Nat}, a ≤ b → 3 ^ a ≤ 3 ^ b := fun h => Nat.pow_le_pow_right (by decide) h
    intro t
    induction t with
    | lf q => simp [size, ht]
    | fn x k t ih => simp only [size, ht, Nat.pow_succ]; have := size_pos t; omega
    | as_ k t ih => simp only [size, ht, Nat.pow_succ]; have := size_pos t; omega
    | n1 w t ih => simp only [size, ht, Nat.pow_succ]; have := size_pos t; omega
    | lt x a b iha ihb =>
      have h1 := mono (Nat.le_max_left (ht a) (ht b))
      have h2 := mono (Nat.le_max_right (ht a) (ht b))
      have := size_pos a
      simp only [size, ht, Nat.pow_succ]; omega
    | n2 w a b iha ihb =>
      have h1 := mono (Nat.le_max_left (ht a) (ht b))
      have h2 := mono (Nat.le_max_right (ht a) (ht b))
      have := size_pos a
      simp only [size, ht, Nat.pow_succ]; omega
    | n3 a b c iha ihb ihc =>
      have h1 := mono (show ht a ≤ max (ht a) (max (ht b) (ht c)) by omega)
      have h2 := mono (show ht b ≤ max (ht a) (max (ht b) (ht c)) by omega)
      have h3 := mono (show ht c ≤ max (ht a) (max (ht b) (ht c)) by omega)
      have := size_pos a
      simp only [size, ht, Nat.pow_succ]; omega
  intro t; have := key t; omega
theorem places_size : ∀ t : Tm, (places t).length ≤ size t := by
  intro t
  induction t <;> simp [places, size] <;> omega
theorem good_of {t : Tm} (h : okT [] t) (h9 : ht t ≤ 9) : Good t := by
  refine ⟨h, h9, ?_⟩
  have h1 := places_size t
  have h2 := size_le t
  have h3 : 3 ^ ht t ≤ 3 ^ 9 := Nat.pow_le_pow_right (by decide) h9
  have h4 : 3 ^ 9 = 19683 := by decide
  omega
theorem pop_last {x : D} {xs : List D} : mmV .pop (.lst (xs ++ [x])) [] = some (.lst xs, x) := by simp [mmV]
theorem ne_stack {ss : List Tm} (h : ∀ s ∈ ss, SH s) : copV .ne (.lst (ss.map (encT false))) (.lst []) = some (!ss.isEmpty) := by
  rw [copV_ne (shp_map fun s hs => h s hs) (by rfl)]
  cases ss <;> simp [eqD, eqDs]
def wC : Ex := .cmp .ne (.slot 2) (.lst false .nil)
def wB : Sms := .cons (.asg (.nm 3) (.mm .pop (.slot 2) .nil)) (.cons (.setD (.slot 1) (.idx (.slot 3) (.cst (.int 0))) (.bop .add (.dgt (.slot 1) (.idx (.slot 3) (.cst (.int 0))) (.cst (.int 0))) (.cst (.int 1)))) (.cons (.aug 2 .add (.call 13 (.cons (.slot 3) .nil))) .nil))
theorem while_forms (P0 : D) (n : Nat) (hn : 1 ≤ n) : ∀ (N : Nat) (ss : List Tm) (ps : List (Nm × Nat)) (c : Nm → Nat) (o3 : Option E), (ss.map size).sum < N → N ≤ 100000 → (∀ s ∈ ss, SH s) → Tells ps c → (∀ w, c w ≠ 0 → w ∈ words) →
    ∃ ps' o3', Tells ps' (fun w => (ss.map (cw · w)).sum + c w) ∧ whG pr (run pr n) (lamP pr (run pr n)) wC wB N [some (.v P0), some (.r 0), some (.r 1), o3, none] [some (.dct (encA ps)), some (.lst (ss.map (encT false)))] =
      .next [some (.v P0), some (.r 0), some (.r 1), o3', none] [some (.dct (encA ps')), some (.lst [])] := by
  obtain ⟨n, rfl⟩ : ∃ m, n = m + 1 := ⟨n - 1, by omega⟩
  intro N
  induction N with
  | zero => intro ss ps c o3 h; omega
  | succ N ih =>
    intro ss ps c o3 h hN hs ht' hw'
    rw [whG_succ]
    have hne := ne_stack hs
    rcases List.eq_nil_or_concat ss with rfl | ⟨init, t, rfl⟩
    · refine ⟨ps, o3, by simpa using ht', ?_⟩
      simp only [List.map_nil] at hne
      unfold wC
      simp [cellAt, cellD, hne, push1_v, line]
    · simp only [List.concat_eq_append] at h hs hne ⊢
      have hst := hs t (by simp)
      have hp := Tells.short ht' hw'
      have h1 := ht'.put (hw t)
      have hput := put_enc (hw t) (c (hw t) + 1) ps
      simp only [Int.natCast_add, Int.natCast_one] at hput
      have hsz : ((init ++ parts t).map size).sum + 1 = ((init ++ [t]).map size).sum := by
        have := size_eq t
        simp; omega
      have hlen : ∀ l : List Tm, l.length ≤ (l.map size).sum := by
        intro l
        induction l with
        | nil => simp
        | cons a l ih2 => have := size_pos a; simp; omega
      have hl1 := hlen init
      have hpl := parts_len t
      have hls : init.length + (parts t).length ≤ 16777216 := by simp at h; omega
      obtain ⟨ps', o3', q1, q2⟩ := ih (init ++ parts t) _ _ (some (.v (encT false t))) (by omega) (by omega) (by
        intro s hm
        rcases List.mem_append.1 hm with hm | hm
        · exact hs s (by simp [hm])
        · exact SH_parts hst hm) h1 (by
        intro w hw2
        by_cases e1 : hw t = w
        · subst e1; exact hw_words t
        · simp [e1] at hw2; exact hw' w hw2)
      refine ⟨ps', o3', ?_, ?_⟩
      · have e : (fun w => ((init ++ [t]).map (cw · w)).sum + c w) = fun w => ((init ++ parts t).map (cw · w)).sum + ((if hw t = w then 1 else 0) + c w) := by
          funext w
          have := cw_eq t w
          simp; omega
        rw [e]; exact q1
      · have p1 := fun C => pure_ok (C := C) (f := 13) (ds := [encT false t]) (run_sub t n)
        have hl2 : ps.length < 16777216 := by omega
        have hit : (init ++ [t]).isEmpty = false := by cases init <;> rfl
        rw [hit] at hne
        simp only [List.map_append, List.map_cons, List.map_nil] at hne q2 ⊢
        have step : exSs pr (run pr (n + 1)) (lamP pr (run pr (n + 1))) wB [some (.v P0), some (.r 0), some (.r 1), o3, none] [some (.dct (encA ps)), some (.lst (init.map (encT false) ++ [encT false t]))] =
            .next [some (.v P0), some (.r 0), some (.r 1), some (.v (encT false t)), none] [some (.dct (encA (putA (hw t) (c (hw t) + 1) ps))), some (.lst (init.map (encT false) ++ (parts t).map (encT false)))] := by
          unfold wB
          simp [isLst_r, isLst, cellAt, cellD, pop_last, f_ix, atD, ixN, isDct, ht'.get, b_add, keyB, encA_len, hl2, hput, p1, hls]
        unfold wC at q2 ⊢
        simp [cellAt, cellD, hne, push1_v, line, step, q2]
theorem genD_tidy (c : Nm → Nat) (qs : List (Nm × Nat)) (n : Nat) (o0 o2 o3 : Option E) (C : Cells) (hC : cellAt C 0 = some (.dct (encA qs))) (hq : Tells qs c) : ∀ (vs done : List Nm), (done ++ vs).Nodup → (∀ w ∈ vs, c w ≠ 0) → done.length + vs.length ≤ 1000 →
    genD pr (run pr n) (lamP pr (run pr n)) (.nm 4) .none (.slot 4) (.dix (.slot 1) (.slot 4)) [o0, some (.r 0), o2, o3, none] (vs.map .str) C (encA (done.map fun w => (w, c w))) = .ok (encA ((done ++ vs).map fun w => (w, c w))) C
  | [], done, _, _, _ => by simp [genD_nil]
  | v :: vs, done, hn, hc, hl => by
    have hv := hc v (List.mem_cons_self ..)
    simp at hl
    have hfr : lookA v (done.map fun w => (w, c w)) = none := by
      cases h : lookA v (done.map fun w => (w, c w)) with
      | none => rfl
      | some m =>
        have := (look_mem v (done.map fun w => (w, c w))).1 (by rw [h]; rfl)
        simp at this
        rw [List.nodup_append] at hn
        exact absurd rfl (hn.2.2 v this v (List.mem_cons_self ..))
    have hp : putKd (.str v) (.int (c v)) (encA (done.map fun w => (w, c w))) = encA ((done ++ [v]).map fun w => (w, c w)) := by
      rw [put_enc, putA, hfr]
      simp
    have hd : dixV (.dct (encA qs)) (.str v) = some (.int (c v)) := by
      simp only [dixV, keyB, if_true, look_enc, hq.at_, hv, if_false, Option.map_some]
    have ih := genD_tidy c qs n o0 o2 o3 C hC hq vs (done ++ [v]) (by simpa using hn) (fun w hw => hc w (List.mem_cons_of_mem _ hw)) (by simp; omega)
    have hle : done.length < 16777216 := by omega
    rw [List.map_cons, genD_cons]
    simp only [List.append_assoc, List.cons_append, List.nil_append] at ih
    generalize encA ((done ++ v :: vs).map fun w => (w, c w)) = RR at ih ⊢
    have hla : (encA (done.map fun w => (w, c w))).length < 16777216 := by rw [encA_len, List.length_map]; exact hle
    generalize hD0 : encA (done.map fun w => (w, c w)) = D0 at hp hla ⊢
    generalize encA ((done ++ [v]).map fun w => (w, c w)) = D1 at hp ih
    simp [hC, cellD, hd, keyB, hla, hp, ih]
/-- how often each form stands in it, in order -/
def formsD (t : Tm) : D := .dct (encA (((sortN (forms.map (·.1))).filter fun w => decide (cw t w ≠ 0)).map fun w => (w, cw t w)))
theorem run_forms {t : Tm} (g : Good t) (n : Nat) (hn : 4 ≤ n) : ∃ ps, Tells ps (cw t) ∧ run pr n 18 [.v (PG t)] [] = .ok (.v (.dct (tidy ps (cw t)))) [] := by
  obtain ⟨n, rfl⟩ : ∃ m, n = m + 2 := ⟨n - 2, by omega⟩
  have g1 := g.h
  have h2 := size_le t
  have h3 : 3 ^ ht t ≤ 3 ^ 9 := Nat.pow_le_pow_right (by decide) g1
  have h4 : 3 ^ 9 = 19683 := by decide
  obtain ⟨e1, e2⟩ := encT_pd false t [] (by simp) g.ok
  obtain ⟨ps, o3, q1, q2⟩ := while_forms (PG t) (n + 1) (by omega) 100000 [t] [] (fun _ => 0) none (by simp; omega) (Nat.le_refl _) (by simp; exact ⟨e1, by omega⟩) Tells.nil (by simp)
  have q1 : Tells ps (cw t) := by simpa using q1
  refine ⟨ps, q1, ?_⟩
  have hsh := Tells.short q1 (cw_words t)
  have p1 := fun C => pure_ok (C := C) (ds := [PG t]) (run_chk (t := t) n)
  rw [rn_forms_of, x_body rfl]
  have hb : b_forms_of = .cons (.exp (.call 12 (.cons (.slot 0) .nil))) (.cons (.asg (.nm 1) .dnew) (.cons (.asg (.nm 2) (.lst true (.cons (.attr (.slot 0) [116, 101, 114, 109]) .nil))) (.cons (.while wC wB) (.cons (.ret (.dcomp [4] (.nm 4) (.seq (.bi .sorted (.cons (.slot 1) .nil))) .none (.slot 4) (.dix (.slot 1) (.slot 4)))) .nil)))) := rfl
  rw [hb]
  have hm : pr.most = 100000 := rfl
  have hs : biV .sorted [.dct (encA ps)] = some (.lst ((sortN (ps.map (·.1))).map .str)) := by
    have e : (encA ps).map (·.1) = (ps.map (·.1)).map D.str := by simp [encA]
    simp only [biV, e, strsD_map, Option.bind_some, List.length_map]
    rw [if_pos (by omega)]
  have hgd := genD_tidy (cw t) ps (n + 1) (some (.v (PG t))) (some (.r 1)) o3 [some (.dct (encA ps)), some (.lst [])] (by simp [cellAt]) q1 (sortN (ps.map (·.1))) [] (by simpa using (sort_perm _).nodup_iff.2 q1.nd) (fun w hw => by
    rw [(sort_perm _).mem_iff] at hw
    exact (q1.mem w).1 hw) (by rw [(sort_perm _).length_eq]; simp; omega)
  have ht2 : tidy ps (cw t) = encA ((sortN (ps.map (·.1))).map fun w => (w, cw t w)) := by simp [tidy, encA]
  simp only [List.map_nil, List.nil_append, List.map_cons] at hgd q2
  simp only [show encA ([] : List (Nm × Nat)) = [] from rfl] at hgd q2
  simp [p1, a_term, push1_v, line, hm, q2, cellAt, cellD, hs, seqD, wipeE, hgd, ht2]
end K05

end

section
set_option maxRecDepth 512
set_option maxRecDepth 100000
set_option maxHeartbeats 4000000
set_option linter.all false
namespace Ev
def takeS : Nat → Sms → Sms
  | 0, _ => .nil
  | n + 1, .cons s r => .cons s (takeS n r)
  | _ + 1, .nil => .nil
def dropS : Nat → Sms → Sms
  | 0, s => s
  | n + 1, .cons _ r => dropS n r
  | _ + 1, .nil => .nil
theorem ex_split {P : Prog} {call : Nat → List E → Cells → R E} {lamc : Nat → Env → Cells → R E} : ∀ (n : Nat) (s : Sms) (env : Env) (C : Cells), exSs P call lamc s env C = seqR P call lamc (dropS n s) (exSs P call lamc (takeS n s) env C)
  | 0, s, env, C => by simp [takeS, dropS]
  | n + 1, .nil, env, C => by simp [takeS, dropS]
  | n + 1, .cons s r, env, C => by
    simp only [takeS, dropS, x_scons]
    cases exS P call lamc s env C with
    | next env C => simp only [seqR_next]; exact ex_split n r env C
    | _ => rfl
mutual
/-- alike, for the kernel -/
def eqS : D → D → Bool
  | .non, .non => true
  | .bl a, .bl b => a == b
  | .int i, .int j => i == j
  | .str a, .str b => a == b
  | .tup xs, .tup ys => eqSs xs ys
  | .lst xs, .lst ys => eqSs xs ys
  | _, _ => false
def eqSs : List D → List D → Bool
  | [], [] => true
  | x :: xs, y :: ys => eqS x y && eqSs xs ys
  | _, _ => false
end
mutual
theorem eqS_ok : ∀ (a b : D), eqS a b = true → a = b
  | .non, b, h => by cases b <;> first | rfl | (simp [eqS] at h)
  | .bl x, b, h => by cases b <;> simp [eqS] at h; rw [h]
  | .int x, b, h => by cases b <;> simp [eqS] at h; rw [h]
  | .str x, b, h => by cases b <;> simp [eqS] at h; rw [h]
  | .tup xs, b, h => by cases b <;> simp [eqS] at h; rw [eqSs_ok _ _ h]
  | .lst xs, b, h => by cases b <;> simp [eqS] at h; rw [eqSs_ok _ _ h]
  | .dct _, b, h => by cases b <;> simp [eqS] at h
  | .ins _ _, b, h => by cases b <;> simp [eqS] at h
theorem eqSs_ok : ∀ (a b : List D), eqSs a b = true → a = b
  | [], b, h => by cases b <;> first | rfl | (simp [eqSs] at h)
  | x :: xs, b, h => by
    cases b with
    | nil => simp [eqSs] at h
    | cons y ys =>
      simp only [eqSs, Bool.and_eq_true] at h
      rw [eqS_ok _ _ h.1, eqSs_ok _ _ h.2]
end
/-- refused, with the part p -/
def excB (c : Nat) (f : Nm) (p : D) : R E → Bool
  | .exc c' [(g, q)] _ => c' == c && g == f && eqS q p
  | _ => false
theorem excB_ok {c : Nat} {f : Nm} {p : D} {r : R E} (h : excB c f p r = true) : ∃ C, r = .exc c [(f, p)] C := by
  unfold excB at h
  split at h
  · simp only [Bool.and_eq_true, beq_iff_eq] at h
    obtain ⟨⟨rfl, rfl⟩, h⟩ := h
    rw [eqS_ok _ _ h]
    exact ⟨_, rfl⟩
  · cases h
end Ev
namespace K05
open Ev
def deepD : D := .tup [.str [108, 101, 102, 116], .tup [.str [108, 101, 102, 116], .tup [.str [108, 101, 102, 116], .tup [.str [108, 101, 102, 116], .tup [.str [108, 101, 102, 116], .tup [.str [108, 101, 102, 116], .tup [.str [108, 101, 102, 116], .tup [.str [108, 101, 102, 116], .tup [.str [108, 101, 102, 116], .tup [.str [110, 117, 109, 98, 101, 114], .int 1]]]]]]]]]]
def known : List D := [.tup [.non, .non],
  .tup [.tup [], .tup []],
  .tup [.tup [.str [122, 122]], .tup [.str [122, 122]]],
  .tup [.tup [.str [110, 117, 109, 98, 101, 114], .int 1000], .tup [.str [110, 117, 109, 98, 101, 114], .int 1000]],
  .tup [.tup [.str [110, 117, 109, 98, 101, 114], .bl true], .tup [.str [110, 117, 109, 98, 101, 114], .bl true]],
  .tup [.tup [.str [98, 105, 116], .int 0], .tup [.str [98, 105, 116], .int 0]],
  .tup [.tup [.str [110, 97, 109, 101], .str [120]], .tup [.str [110, 97, 109, 101], .str [120]]],
  .tup [.tup [.str [115, 117, 109], .tup [.str [110, 117, 109, 98, 101, 114], .int 1]], .tup [.str [115, 117, 109], .tup [.str [110, 117, 109, 98, 101, 114], .int 1]]],
  .tup [.tup [.str [115, 117, 109], .tup [.str [110, 117, 109, 98, 101, 114], .int 1], .int 5], .int 5],
  .tup [.tup [.str [102, 117, 110], .str [88], .str [97, 110, 121], .tup [.str [110, 117, 109, 98, 101, 114], .int 1]], .tup [.str [102, 117, 110], .str [88], .str [97, 110, 121], .tup [.str [110, 117, 109, 98, 101, 114], .int 1]]],
  .tup [.tup [.str [102, 117, 110], .str [120], .str [122, 122], .tup [.str [110, 117, 109, 98, 101, 114], .int 1]], .tup [.str [102, 117, 110], .str [120], .str [122, 122], .tup [.str [110, 117, 109, 98, 101, 114], .int 1]]],
  .tup [.tup [.str [102, 117, 110], .str [120], .str [97, 110, 121], .tup [.str [110, 97, 109, 101], .str [121]]], .tup [.str [110, 97, 109, 101], .str [121]]],
  .tup [.tup [.str [108, 101, 116], .str [120], .tup [.str [110, 97, 109, 101], .str [120]], .tup [.str [110, 97, 109, 101], .str [120]]], .tup [.str [110, 97, 109, 101], .str [120]]],
  .tup [.tup [.str [97, 115], .non, .tup [.str [110, 117, 109, 98, 101, 114], .int 1]], .tup [.str [97, 115], .non, .tup [.str [110, 117, 109, 98, 101, 114], .int 1]]],
  .tup [.tup [.str [108, 101, 102, 116], .tup [.str [108, 101, 102, 116], .tup [.str [108, 101, 102, 116], .tup [.str [108, 101, 102, 116], .tup [.str [108, 101, 102, 116], .tup [.str [108, 101, 102, 116], .tup [.str [108, 101, 102, 116], .tup [.str [108, 101, 102, 116], .tup [.str [108, 101, 102, 116], .tup [.str [110, 117, 109, 98, 101, 114], .int 1]]]]]]]]]], .tup [.str [110, 117, 109, 98, 101, 114], .int 1]],
  .tup [.tup [.str [105, 102], .tup [.str [98, 105, 116], .bl true], .int 5, .int 6], .int 5],
  .tup [.tup [.str [102, 117, 110], .str [121, 101, 115], .str [97, 110, 121], .tup [.str [110, 117, 109, 98, 101, 114], .int 1]], .tup [.str [102, 117, 110], .str [121, 101, 115], .str [97, 110, 121], .tup [.str [110, 117, 109, 98, 101, 114], .int 1]]]]

theorem known_ok (call : Nat → List E → Cells → R E) (lamc : Nat → Env → Cells → R E) (o0 o1 o2 o3 o4 o5 o6 o7 o8 o9 o10 o11 o12 o13 : Option E) (C : Cells) :
    exSs pr call lamc (takeS 8 (dropS 10 b_law)) [o0, o1, o2, o3, o4, o5, o6, o7, o8, o9, o10, o11, o12, o13] C =
      .next [o0, o1, o2, o3, o4, o5, o6, some (.v deepD), some (.v (.int 8)), some (.v (.lst known)), o10, o11, o12, o13] C := by
  unfold b_law
  have r9 : rngOk 9 = true := by decide
  simp [takeS, dropS, push1_v, line, r9, rangeD, forG_cons, forG_nil, bopV]
  simp [deepD, known]
theorem mk_exc {w p : D} {C1 : Cells} (h : run pr 39 34 [.r 0, .v w] [some (.ins 3 [])] = .exc 2 [([112, 97, 114, 116], p)] C1) (C : Cells) : make pr (run pr 39) 3 [.v w] C = .exc 2 [([112, 97, 114, 116], p)] C := by
  simp only [make, show pr.cls[3]? = _ from cl_3]
  simp [makeP, h]
def badB (d : D) : Bool := match d with
  | .tup [w, p] => excB 2 [112, 97, 114, 116] p (run pr 39 34 [.r 0, .v w] [some (.ins 3 [])]) && shp p
  | _ => false
theorem bad_b : known.all badB = true := by decide +kernel
theorem bad_all : ∀ d ∈ known, ∃ w p, d = .tup [w, p] ∧ (∀ C, make pr (run pr 39) 3 [.v w] C = .exc 2 [([112, 97, 114, 116], p)] C) ∧ copV .ne p p = some false := by
  intro d hd
  have h := List.all_eq_true.mp bad_b d hd
  unfold badB at h
  split at h
  · rename_i w p
    rw [Bool.and_eq_true] at h
    obtain ⟨C, e⟩ := excB_ok h.1
    exact ⟨w, p, rfl, mk_exc e, ne_self h.2⟩
  · cases h
end K05

end

section
set_option maxRecDepth 512
set_option maxRecDepth 100000
set_option maxHeartbeats 4000000
set_option linter.all false
namespace Ev
theorem seqR_nil {P : Prog} {call : Nat → List E → Cells → R E} {lamc : Nat → Env → Cells → R E} {x : RS} : seqR P call lamc .nil x = x := by cases x <;> rfl
end Ev
namespace K05
open Ev
theorem exc_pure {f : Nat} {ds : List D} {p : D} (h : excB 2 [112, 97, 114, 116] p (run pr 39 f (ds.map .v) []) = true) (C : Cells) : pureCall (run pr 39) f ds C = .exc 2 [([112, 97, 114, 116], p)] C := by
  obtain ⟨C', e⟩ := excB_ok h
  exact pure_exc e
def t0 : Tm := .lt [120] (.lf (.num 1)) (.fn [120] .num (.lf (.nam [120])))
theorem t0_good : Good t0 := good_of ⟨by decide, ⟨by decide, by decide⟩, by decide, by decide, (by decide : ([120] : Nm) ∈ ([[120], [120]] : List Nm))⟩ (by decide)
theorem lam_ok (j : Nat) (l : Ex) (h : pr.lams[j]? = some l) (env : Env) (C : Cells) : lamP pr (run pr 39) j env C = evE pr (run pr 39) (fun _ _ _ => .bad) l env C := by
  unfold lamP
  rw [h]
section
variable (ns : List Int) (hn : ns.length ≤ 63) (R : Cells) (hR : lowR R)
include hn hR
theorem seg18 (o0 o2 o3 o4 o5 o6 o7 o8 o10 o12 o13 : Option E) (hc : cleanE [o0, some (.r 0), o2, o3, o4, o5, o6, o7, o8, none, o10, none, o12, o13] = true) (k : Int) :
    Yes (exSs pr (run pr 39) (lamP pr (run pr 39)) (dropS 18 b_law) [o0, some (.r 0), o2, o3, o4, o5, o6, o7, o8, some (.v (.lst known)), o10, none, o12, o13] (dC ns k R)) := by
  rw [ex_split 1]
  have r6 : rngOk 6 = true := by decide
  have hk : 0 < known.length := by decide
  have hc' := hc
  simp at hc'
  have h0 := exc_pure (f := 16) (ds := [.non]) (p := .non) (by decide +kernel)
  have h1 := exc_pure (f := 19) (ds := [.non]) (p := .non) (by decide +kernel)
  have h2 := exc_pure (f := 18) (ds := [.non]) (p := .non) (by decide +kernel)
  have pm := fun C => run_make false t0 t0_good.ok t0_good.h 39 (by decide) C
  have pp := fun C => pure_ok (C := C) (f := 36) (ds := [PG t0]) (run_pplaces t0_good 39 (by decide))
  have e5 : copV .eq (.lst [.str [110, 117, 109]]) (.lst [.str [110, 117, 109]]) = some true := rfl
  simp only [show encT false t0 = .tup [.str [108, 101, 116], .str [120], .tup [.str [110, 117, 109, 98, 101, 114], .int 1], .tup [.str [102, 117, 110], .str [120], .str [110, 117, 109], .tup [.str [110, 97, 109, 101], .str [120]]]] from rfl] at pm
  simp only [show (places t0).map (enc false) = [.str [110, 117, 109]] from rfl] at pp
  have hl0 := lam_ok 0 l_0 lm_0
  have hl1 := lam_ok 1 l_1 lm_1
  have hl2 := lam_ok 2 l_2 lm_2
  have fin : ∀ (o6 o8 o13 : Option E) (k : Int), nx o6 = true → nx o8 = true → nx o13 = true →
      Yes (exSs pr (run pr 39) (lamP pr (run pr 39)) (dropS 1 (dropS 18 b_law)) [o0, some (.r 0), o2, o3, o4, o5, o6, o7, o8, some (.v (.lst known)), o10, none, o12, o13] (dC ns k R)) := by
    intro o6 o8 o13 k n6 n8 n13
    generalize known = kn
    unfold b_law
    simp only [dropS]
    simp [isNone, hl0, hl1, hl2, g_0, g_1, g_2, g_3, g_4, g_5, g_6, gd_0, lm_0, l_0, lm_1, l_1, lm_2, l_2, cl_0, cl_1, cl_2, cl_3, und_0_0, und_0_1, und_0_2, und_0_3, und_1_0, und_1_1, und_1_2, und_1_3, und_2_0, und_2_1, und_2_2, und_2_3, und_3_0, und_3_1, und_3_2, und_3_3, h0, h1, h2, lookFD, hc', n6, n8, n13, push1_v, line, pm, m_places, pp, e5]
    exact .ret
  generalize hT : dropS 1 (dropS 18 b_law) = T at fin ⊢
  unfold b_law
  simp only [dropS, takeS]
  simp [r6, seqR_nil]
  refine for_pat Yes (fun o => [o0, some (.r 0), o2, o3, o4, o5, o 6, o7, o 8, some (.v (.lst known)), o10, none, o12, o 13]) (fun C => ∃ k', C = dC ns k' R) ⟨rfl, by simpa using hc', _, rfl⟩ ?_ ?_
  · rintro x - o _ hc2 ⟨k', rfl⟩
    obtain ⟨d, hd, p1⟩ := run_pick ns hn k' R hR known hk 39 (by decide)
    obtain ⟨w, p, rfl, q1, q2⟩ := bad_all d hd
    refine ⟨_, rfl, ?_⟩
    simp at hc2
    generalize known = kn at p1 hc2 ⊢
    simp [p1, q1, g_0, g_1, g_2, g_3, g_4, g_5, g_6, gd_0, lm_0, l_0, lm_1, l_1, lm_2, l_2, cl_0, cl_1, cl_2, cl_3, und_0_0, und_0_1, und_0_2, und_0_3, und_1_0, und_1_1, und_1_2, und_1_3, und_2_0, und_2_1, und_2_2, und_2_3, und_3_0, und_3_1, und_3_2, und_3_3, lookFD, q2, hc']
    exact .next ⟨rfl, by simp [hc'], _, rfl⟩
  · rintro o _ hc2 ⟨k', rfl⟩
    simp at hc2
    exact fin (o 6) (o 8) (o 13) k' (by simp [hc2]) (by simp [hc2]) (by simp [hc2])
end
end K05

end

section
set_option maxRecDepth 512
set_option maxRecDepth 100000
set_option maxHeartbeats 4000000
set_option linter.all false
namespace K05
open Ev
theorem rep_flat {x : D} {n : Nat} : (List.replicate n [x]).flatten = List.replicate n x := by
  induction n with
  | zero => rfl
  | succ n ih => rw [List.replicate_succ, List.flatten_cons, ih, List.replicate_succ]; rfl
theorem b_rep {x : D} {n : Nat} (h : n ≤ 100000) : bopV .mul (.lst [x]) (.int n) = some (.lst (List.replicate n x)) := by
  have e : bopV .mul (.lst [x]) (.int n) = if 0 ≤ (n : Int) ∧ (n : Int) ≤ 1000000 ∧ [x].length * ((n : Int)).toNat ≤ line then some (.lst (List.replicate ((n : Int)).toNat [x]).flatten) else none := rfl
  rw [e, if_pos ⟨by omega, by omega, by show 1 * ((n : Int)).toNat ≤ 16777216; omega⟩, Int.toNat_natCast, rep_flat]
theorem shp_kinds {ks : List Kd} (h : ∀ k ∈ ks, dp k ≤ 20) : shp (.lst (ks.map (enc false))) = true := shp_map fun k hk => ⟨pd_enc k, by rw [dep_enc]; have := h k hk; omega⟩
theorem places_dp {t : Tm} : ∀ {ns : List Nm}, okT ns t → ∀ k ∈ places t, dp k ≤ 1 := by
  induction t with
  | lf q => intro ns _ k hk; simp [places] at hk
  | fn x k t ih => intro ns h j hj; rcases List.mem_cons.1 hj with rfl | hj; exact h.2.1; exact ih h.2.2 j hj
  | as_ k t ih => intro ns h j hj; rcases List.mem_cons.1 hj with rfl | hj; exact h.1; exact ih h.2 j hj
  | n1 w t ih => intro ns h j hj; exact ih h j hj
  | lt x a b iha ihb => intro ns h j hj; rcases List.mem_append.1 hj with hj | hj; exact iha h.2.1 j hj; exact ihb h.2.2 j hj
  | n2 w a b iha ihb => intro ns h j hj; rcases List.mem_append.1 hj with hj | hj; exact iha h.1 j hj; exact ihb h.2 j hj
  | n3 a b c iha ihb ihc =>
    intro ns h j hj
    rcases List.mem_append.1 hj with hj | hj
    · exact iha h.1 j hj
    · rcases List.mem_append.1 hj with hj | hj
      · exact ihb h.2.1 j hj
      · exact ihc h.2.2 j hj
theorem ne_kinds {ks : List Kd} (h : ∀ k ∈ ks, dp k ≤ 1) : copV .ne (.lst (ks.map (enc false))) (.lst []) = some (!ks.isEmpty) := by
  rw [copV_ne (shp_kinds fun k hk => by have := h k hk; omega) (by rfl)]
  cases ks <;> simp [eqD, eqDs]
theorem shp_rep {x : D} {n : Nat} (h : pd x = true ∧ dep x ≤ 40) : shp (.lst (List.replicate n x)) = true := by
  have e : List.replicate n x = (List.range n).map fun _ => x := by rw [List.map_const']; simp
  rw [e]
  exact shp_map fun _ _ => h
section
variable (ns : List Int) (hn : ns.length ≤ 63) (R : Cells) (hR : lowR R)
include hn hR
theorem seg9 {t : Tm} (g : Good t) {ks : List Kd} (hl : ks.length = (places t).length) (hk : ∀ k ∈ ks, dp k ≤ 1) (o0 o2 o6 o7 o8 o9 o10 o12 o13 : Option E) (hc : cleanE [o0, some (.r 0), o2, o6, o7, o8, o9, o10, o12, o13] = true) (k : Int) :
    Yes (exSs pr (run pr 39) (lamP pr (run pr 39)) (dropS 9 b_law) [o0, some (.r 0), o2, some (.v (PG t)), some (.v (.lst ((places t).map (enc false)))), some (.v (.lst (ks.map (enc false)))), o6, o7, o8, o9, o10, none, o12, o13] (dC ns k R)) := by
  rw [ex_split 1]
  simp at hc
  have g2 := g.p
  have hpd := places_dp g.ok
  have w1 := fun C => pure_exc (C := C) (f := 37) (ds := [PG t, .lst (ks.map (enc false) ++ [.str [97, 110, 121]])]) (told_len g (ks.map (enc false) ++ [.str [97, 110, 121]]) (by simp; omega) 39 (by decide))
  have w2 := fun C => pure_exc (C := C) (f := 37) (ds := [PG t, .non]) (told_non (t := t) 39 (by decide))
  have n1 : copV .ne (.lst (ks.map (enc false) ++ [.str [97, 110, 121]])) (.lst (ks.map (enc false) ++ [.str [97, 110, 121]])) = some false := by
    have e : ks.map (enc false) ++ [.str [97, 110, 121]] = (ks ++ [Kd.any]).map (enc false) := by simp [enc]
    rw [e]
    exact ne_self (shp_kinds fun k hk2 => by
      rcases List.mem_append.1 hk2 with h | h
      · have := hk k h; omega
      · simp at h; subst h; simp [dp])
  have n2 : copV .ne .non .non = some false := rfl
  have ne := ne_kinds hpd
  have cat : bopV .add (.lst (ks.map (enc false))) (.lst [.str [97, 110, 121]]) = some (.lst (ks.map (enc false) ++ [.str [97, 110, 121]])) := b_cat (by simp; omega)
  have rep := b_rep (x := .str [122, 122]) g2
  have fin : ∀ (o6 : Option E), nx o6 = true → Yes (exSs pr (run pr 39) (lamP pr (run pr 39)) (dropS 1 (dropS 9 b_law)) [o0, some (.r 0), o2, some (.v (PG t)), some (.v (.lst ((places t).map (enc false)))), some (.v (.lst (ks.map (enc false)))), o6, o7, o8, o9, o10, none, o12, o13] (dC ns k R)) := by
    intro o6 n6
    rw [show dropS 1 (dropS 9 b_law) = dropS 10 b_law from rfl, ex_split 8, known_ok, seqR_next]
    exact seg18 ns hn R hR _ _ _ _ _ _ _ _ _ _ _ (by simp [hc, n6]) k
  generalize dropS 1 (dropS 9 b_law) = T at fin ⊢
  unfold b_law
  simp only [dropS, takeS]
  by_cases hp : places t = []
  · have w3 := fun C => pure_exc (C := C) (f := 37) (ds := [PG t, .lst [.str [97, 110, 121]]]) (told_len g [.str [97, 110, 121]] (by rw [hp]; decide) 39 (by decide))
    have n3 : copV .ne (.lst [.str [97, 110, 121]]) (.lst [.str [97, 110, 121]]) = some false := rfl
    have e0 : (places t).isEmpty = true := by rw [hp]; rfl
    rw [e0] at ne
    have fin2 := fin (some (.v (.lst [.str [97, 110, 121]]))) rfl
    generalize places t = pl at ne rep fin2 ⊢
    simp [cat, ne, push1_v, line, seqD, forG_cons, forG_nil, m_told, w1, w2, w3, n1, n2, n3, g_0, g_1, g_2, g_3, g_4, g_5, g_6, gd_0, lm_0, l_0, lm_1, l_1, lm_2, l_2, cl_0, cl_1, cl_2, cl_3, und_0_0, und_0_1, und_0_2, und_0_3, und_1_0, und_1_1, und_1_2, und_1_3, und_2_0, und_2_1, und_2_2, und_2_3, und_3_0, und_3_1, und_3_2, und_3_3, lookFD, hc, seqR_nil]
    exact fin2
  · have w3 := fun C => pure_exc (C := C) (f := 37) (ds := [PG t, .lst (List.replicate (places t).length (.str [122, 122]))]) (told_zz g hp 39 (by decide))
    have n3 : copV .ne (.lst (List.replicate (places t).length (.str [122, 122]))) (.lst (List.replicate (places t).length (.str [122, 122]))) = some false := ne_self (shp_rep ⟨by rfl, by decide⟩)
    have e0 : (places t).isEmpty = false := by
      cases h : places t with
      | nil => exact absurd h hp
      | cons a b => rfl
    rw [e0] at ne
    have fin2 := fin (some (.v (.lst (List.replicate (places t).length (.str [122, 122]))))) rfl
    have ll := l_lst (xs := (places t).map (enc false))
    rw [List.length_map] at ll
    generalize List.replicate (places t).length (D.str [122, 122]) = zz at w3 n3 fin2 rep
    generalize hpl : (places t).map (enc false) = pl at ne fin2 ll ⊢
    simp [cat, ne, push1_v, line, seqD, forG_cons, forG_nil, m_told, w1, w2, w3, n1, n2, n3, g_0, g_1, g_2, g_3, g_4, g_5, g_6, gd_0, lm_0, l_0, lm_1, l_1, lm_2, l_2, cl_0, cl_1, cl_2, cl_3, und_0_0, und_0_1, und_0_2, und_0_3, und_1_0, und_1_1, und_1_2, und_1_3, und_2_0, und_2_1, und_2_2, und_2_3, und_3_0, und_3_1, und_3_2, und_3_3, lookFD, hc, seqR_nil, ll, rep]
    exact fin2
end
end K05

end

section
set_option maxRecDepth 512
set_option maxRecDepth 100000
set_option maxHeartbeats 4000000
set_option linter.all false
namespace K05
open Ev
theorem dC_app {ns : List Int} {k : Int} {R : Cells} {c : Option Cell} : dC ns k R ++ [c] = dC ns k (R ++ [c]) := rfl
theorem dC_at {ns : List Int} {k : Int} {R : Cells} {j : Nat} : cellAt (dC ns k R) (j + 1) = cellAt R j := rfl
theorem lowR_app {R : Cells} (h : lowR R) {kvs : List (D × D)} : lowR (R ++ [some (.dct kvs)]) := by
  have key : ∀ (R : Cells) (n : Nat), lowC n R = true → lowC n (R ++ [some (.dct kvs)]) = true := by
    intro R
    induction R with
    | nil => intro n _; rfl
    | cons c R ih =>
      intro n h
      cases c with
      | none => exact ih n h
      | some c =>
        cases c with
        | ins a b => simp only [List.cons_append, lowC, Bool.and_eq_true] at h ⊢; exact ⟨h.1, ih n h.2⟩
        | _ => exact ih n h
  exact fun n => key R n (h n)
theorem lowR_appL {R : Cells} (h : lowR R) {xs : List D} : lowR (R ++ [some (.lst xs)]) := by
  have key : ∀ (R : Cells) (n : Nat), lowC n R = true → lowC n (R ++ [some (.lst xs)]) = true := by
    intro R
    induction R with
    | nil => intro n _; rfl
    | cons c R ih =>
      intro n h
      cases c with
      | none => exact ih n h
      | some c =>
        cases c with
        | ins a b => simp only [List.cons_append, lowC, Bool.and_eq_true] at h ⊢; exact ⟨h.1, ih n h.2⟩
        | _ => exact ih n h
  exact fun n => key R n (h n)
theorem eqOf_PG {s t : Tm} {C : Cells} : eqOf pr C (.v (PG s)) (.v (PG t)) = some 35 := nrfl rfl
theorem ne_dct {ks ls : List (D × D)} (h : eqKV ks ls = true) : copV .ne (.dct ks) (.dct ls) = some false := by
  have e : copV .ne (.dct ks) (.dct ls) = (dEq (.dct ks) (.dct ls)).map (!·) := rfl
  rw [e, dEq, if_pos h]; rfl
theorem words_pd : words.all (fun w => pd (.str w)) = true := by decide
theorem bare_bare {t : Tm} : bare (bare t) = bare t := by
  have e : bareK (bare t) = places (bare t) := by
    rw [bare_places]
    unfold bareK
    rw [bare_places]
    simp [bareK]
  unfold bare at e ⊢
  rw [show bareK (st t (bareK t)).1 = places (st t (bareK t)).1 from e]
  have h := st_same (st t (bareK t)).1 []
  rw [List.append_nil] at h
  rw [h]
section
variable (ns : List Int) (hn : ns.length ≤ 63)
include hn
/-- kinds drawn, one for each of a row -/
theorem kinds_drawn (R : Cells) (hR : lowR R) (f : D → Env) (hf : ∀ d, ((f d)[1]?).join = some (.r 0)) (env : Env) (he : ∀ d, asgT (.nm 12) d env = some (f d)) : ∀ (L : List D) (acc : List D) (k : Int), acc.length + L.length ≤ 200000 →
    ∃ (ks : List Kd) (k' : Int), ks.length = L.length ∧ (∀ x ∈ ks, dp x ≤ 1) ∧ genR pr (run pr 39) (lamP pr (run pr 39)) (.nm 12) .none (.elt (.call 23 (.cons (.slot 1) (.cons (.cst (.int 1)) .nil)))) env L (dC ns k R) acc = .ok (acc ++ ks.map (enc false)) (dC ns k' R)
  | [], acc, k, _ => ⟨[], k, rfl, by simp, by simp [genR_nil]⟩
  | d :: L, acc, k, h => by
    simp at h
    obtain ⟨o, k1, o1, p1⟩ := run_kind ns hn R hR 1 k 39 (by decide)
    simp only [show ((1 : Nat) : Int) = 1 from rfl] at p1
    obtain ⟨ks, k2, h1, h2, h3⟩ := kinds_drawn R hR f hf env he L (acc ++ [enc false o]) k1 (by simp; omega)
    refine ⟨o :: ks, k2, by simp [h1], ?_, ?_⟩
    · intro x hx
      rcases List.mem_cons.1 hx with rfl | hx
      · exact o1
      · exact h2 x hx
    · have ha : acc.length < line := by show acc.length < 16777216; omega
      rw [genR_cons, he]
      simp [hf, p1, stepG_b, push1_ok ha, h3]
theorem law_yes : Yes (exSs pr (run pr 39) (lamP pr (run pr 39)) b_law [some (.v (.lst (ns.map .int))), none, none, none, none, none, none, none, none, none, none, none, none, none] []) := by
  obtain ⟨w, k1, w1, pk⟩ := run_kind ns hn [] lowR_nil 1 0 39 (by decide)
  simp only [show ((1 : Nat) : Int) = 1 from rfl] at pk
  obtain ⟨t, k2, t1, t2, pt⟩ := term_all ns hn [] lowR_nil 3 [] w k1 39 w1 (by simp) (by simp) (by decide)
  simp only [show ((3 : Nat) : Int) = 3 from rfl, List.map_nil] at pt t1
  have g : Good t := good_of t1 (by omega)
  have gh := g.h
  have gp := g.p
  have hpd := places_dp g.ok
  have pm := fun C => run_make false t g.ok g.h 39 (by decide) C
  have pm2 := fun C => run_make true t g.ok g.h 39 (by decide) C
  have pl := fun C => pure_ok (C := C) (ds := [encT false t]) (run_lplaces t 39 (by omega) gp)
  have pli := fun C => pure_ok (C := C) (ds := [encT false t]) (run_listed t [] 39 g.ok (by omega))
  have peq := fun {s : Tm} (gs : Good s) C => pure_ok (C := C) (ds := [PG s, PG s]) (run_eq gs 38)
  have ppl := fun {s : Tm} (gs : Good s) C => pure_ok (C := C) (ds := [PG s]) (run_pplaces gs 39 (by decide))
  have psz := fun C => pure_ok (C := C) (ds := [PG t]) (run_size g 39 (by decide))
  have plc := fun C => pure_ok (C := C) (ds := [encT false t]) (run_lcount t 39 (by omega))
  have n1 : copV .ne (encT false t) (encT false t) = some false := ne_self (encT_shp g.ok g.h)
  have n2 : copV .ne (.lst ((places t).map (enc false))) (.lst ((places t).map (enc false))) = some false := ne_self (shp_kinds fun k hk => by have := hpd k hk; omega)
  -- forms
  obtain ⟨ps, f1, pf⟩ := run_forms g 39 (by decide)
  have pf := fun C => pure_ok (C := C) (ds := [PG t]) pf
  have fw : Tells [] (fun _ => 0) := Tells.nil
  obtain ⟨qs, f2, pq⟩ := run_lforms t 39 (dC ns k2 [some (.dct [])]) 1 [] (fun _ => 0) (by omega) rfl fw (by simp)
  have f2 : Tells qs (cw t) := by simpa using f2
  have pq : run pr 39 31 [.v (encT false t), .r 1] (dC ns k2 [some (.dct [])]) = .ok (.r 1) (dC ns k2 [some (.dct (encA qs))]) := pq
  obtain ⟨rs, f3, pq2⟩ := run_lforms t 39 (dC ns k2 [some (.dct (encA qs)), some (.dct [])]) 2 [] (fun _ => 0) (by omega) rfl fw (by simp)
  have f3 : Tells rs (cw t) := by simpa using f3
  have pq2 : run pr 39 31 [.v (encT false t), .r 2] (dC ns k2 [some (.dct (encA qs)), some (.dct [])]) = .ok (.r 2) (dC ns k2 [some (.dct (encA qs)), some (.dct (encA rs))]) := pq2
  have n3 := ne_dct (f1.eqKV f2)
  have hs : biV .sorted [.dct (encA rs)] = some (.lst ((sortN (ps.map (·.1))).map .str)) := by
    have e : (encA rs).map (·.1) = (rs.map (·.1)).map D.str := by simp [encA]
    have := Tells.short f3 (cw_words t)
    simp only [biV, e, strsD_map, Option.bind_some, List.length_map]
    rw [if_pos (by omega), f3.sort_eq f1]
  have hk : biV .keys [.dct (tidy ps (cw t))] = some (.lst ((sortN (ps.map (·.1))).map .str)) := by simp [biV, tidy]
  have n4 : copV .ne (.lst ((sortN (ps.map (·.1))).map .str)) (.lst ((sortN (ps.map (·.1))).map .str)) = some false := ne_self (shp_map fun w hw => by
    rw [(sort_perm _).mem_iff] at hw
    have h1 := cw_words t w ((f1.mem w).1 hw)
    exact ⟨List.all_eq_true.1 words_pd w h1, by simp [dep]⟩)
  have lr : lowR [some (.dct (encA qs)), some (.dct (encA rs))] := fun n => rfl
  -- kinds told anew
  obtain ⟨ks, k3, l1, l2, l3⟩ := kinds_drawn ns hn [some (.dct (encA qs)), some (.dct (encA rs))] lr (fun d => [some (.v (.lst (ns.map .int))), some (.r 0), some (.v (encT false t)), some (.v (PG t)), some (.v (.lst ((places t).map (enc false)))), none, none, none, none, none, none, none, some (.v d), none]) (fun _ => rfl)
    [some (.v (.lst (ns.map .int))), some (.r 0), some (.v (encT false t)), some (.v (PG t)), some (.v (.lst ((places t).map (enc false)))), none, none, none, none, none, none, none, none, none] (fun _ => rfl) ((places t).map (enc false)) [] k2 (by simp; omega)
  rw [List.length_map] at l1
  simp only [List.nil_append] at l3
  have gs := g.st l1 l2
  have q1 := fun C => pure_ok (C := C) (ds := [PG t, row true (ks.map (enc false))]) (run_told g true ks l1 l2 39 (by decide))
  have q2 := fun C => pure_ok (C := C) (ds := [PG t, row false (ks.map (enc false))]) (run_told g false ks l1 l2 39 (by decide))
  have q3 := fun C => pure_ok (C := C) (ds := [PG t, row true ((places t).map (enc false))]) (run_told g true (places t) rfl hpd 39 (by decide))
  have es := st_same t []
  rw [List.append_nil] at es
  rw [es] at q3
  have q4 := run_lretold t ks 39 (dC ns k3 [some (.dct (encA qs)), some (.dct (encA rs)), some (.lst (ks.map (enc false)))]) 3 (by omega) (by omega)
  have q4 := q4 rfl rfl
  rw [show ∀ x, (dC ns k3 [some (.dct (encA qs)), some (.dct (encA rs)), some (.lst (ks.map (enc false)))]).set 3 x = dC ns k3 [some (.dct (encA qs)), some (.dct (encA rs)), x] from fun _ => rfl] at q4
  generalize (st t ks).2.map (enc false) = cR at q4
  have pms := fun C => run_make false (st t ks).1 gs.ok gs.h 39 (by decide) C
  have ppls := ppl gs
  rw [Good.places l1] at ppls
  have n5 : copV .ne (.lst (ks.map (enc false))) (.lst (ks.map (enc false))) = some false := ne_self (shp_kinds fun k hk => by have := l2 k hk; omega)
  -- bare ones
  have gb := bare_good g
  have b1 := fun C => pure_ok (C := C) (ds := [PG t]) (run_bare g 39 (by decide))
  have b2 := fun C => pure_ok (C := C) (ds := [PG (bare t)]) (run_bare gb 39 (by decide))
  rw [bare_bare] at b2
  have q5 := fun C => pure_ok (C := C) (ds := [PG t, row true ((bareK t).map (enc false))]) (run_told g true (bareK t) bareK_len bareK_dp 39 (by decide))
  rw [show (st t (bareK t)).1 = bare t from rfl] at q5
  have pplb := ppl gb
  rw [bare_places] at pplb
  have n6 : copV .ne (.lst ((bareK t).map (enc false))) (.lst ((bareK t).map (enc false))) = some false := ne_self (shp_kinds fun k hk => by have := bareK_dp k hk; omega)
  have rep := b_rep (x := .str [97, 110, 121]) gp
  rw [show List.replicate (places t).length (D.str [97, 110, 121]) = (bareK t).map (enc false) from by simp only [bareK, List.map_map]; rw [show (enc false ∘ fun _ => Kd.any) = fun (_ : Kd) => D.str [97, 110, 121] from rfl, List.map_const']] at rep
  have ll := l_lst (xs := (places t).map (enc false))
  rw [List.length_map] at ll
  have t1l : biV .tuple [.lst (ks.map (enc false))] = some (.tup (ks.map (enc false))) := rfl
  have n7 : copV .ne (.int (size t)) (.int (size t)) = some false := by simp [c_ne]
  have eqg := peq g
  have eqs := peq gs
  have eqb := peq gb
  have pplg := ppl g
  have fin := seg9 ns hn [some (.dct (encA qs)), some (.dct (encA rs)), some (.lst cR)] (fun _ => rfl) g l1 l2 (some (.v (.lst (ns.map .int)))) (some (.v (encT false t))) none none none none none none none rfl k3
  simp only [row, if_true, Bool.false_eq_true, if_false] at q1 q2 q3 q5
  have hC0 : [some (Cell.lst [.lst (ns.map .int), .int 0])] = dC ns 0 [] := rfl
  have ed : ∀ x : D, ([] : List (D × D)) = encA [] := fun _ => rfl
  rw [ex_split 4]
  have s4 : exSs pr (run pr 39) (lamP pr (run pr 39)) (takeS 4 b_law) [some (.v (.lst (ns.map .int))), none, none, none, none, none, none, none, none, none, none, none, none, none] [] =
      .next [some (.v (.lst (ns.map .int))), some (.r 0), some (.v (encT false t)), some (.v (PG t)), some (.v (.lst ((places t).map (enc false)))), none, none, none, none, none, none, none, none, none] (dC ns k2 []) := by
    unfold b_law
    simp only [takeS]
    simp [push1_v, line, hC0, pk, pt, pm, pl]
  rw [s4, seqR_next, ex_split 1]
  have s5 : exSs pr (run pr 39) (lamP pr (run pr 39)) (takeS 1 (dropS 4 b_law)) [some (.v (.lst (ns.map .int))), some (.r 0), some (.v (encT false t)), some (.v (PG t)), some (.v (.lst ((places t).map (enc false)))), none, none, none, none, none, none, none, none, none] (dC ns k2 []) =
      .next [some (.v (.lst (ns.map .int))), some (.r 0), some (.v (encT false t)), some (.v (PG t)), some (.v (.lst ((places t).map (enc false)))), none, none, none, none, none, none, none, none, none] (dC ns k2 []) := by
    unfold b_law
    simp only [takeS, dropS]
    simp [a_term, n1, pli, pm2, eqOf_PG, eqg, m_places, pplg, n2, psz, plc, n7]
  rw [s5, seqR_next, show dropS 1 (dropS 4 b_law) = dropS 5 b_law from rfl, ex_split 1]
  have s6 : exSs pr (run pr 39) (lamP pr (run pr 39)) (takeS 1 (dropS 5 b_law)) [some (.v (.lst (ns.map .int))), some (.r 0), some (.v (encT false t)), some (.v (PG t)), some (.v (.lst ((places t).map (enc false)))), none, none, none, none, none, none, none, none, none] (dC ns k2 []) =
      .next [some (.v (.lst (ns.map .int))), some (.r 0), some (.v (encT false t)), some (.v (PG t)), some (.v (.lst ((places t).map (enc false)))), none, none, none, none, none, none, none, none, none] (dC ns k2 [some (.dct (encA qs)), some (.dct (encA rs))]) := by
    unfold b_law
    simp only [takeS, dropS]
    have a1 : cellAt (dC ns k2 [some (.dct (encA qs))]) 1 = some (.dct (encA qs)) := rfl
    have a2 : cellAt (dC ns k2 [some (.dct (encA qs)), some (.dct (encA rs))]) 2 = some (.dct (encA rs)) := rfl
    simp [pf, dC_app, dC_len, pq, a1, cellD, n3, hk, pq2, a2, hs, n4]
  rw [s6, seqR_next, show dropS 1 (dropS 5 b_law) = dropS 6 b_law from rfl, ex_split 2]
  have s8 : exSs pr (run pr 39) (lamP pr (run pr 39)) (takeS 2 (dropS 6 b_law)) [some (.v (.lst (ns.map .int))), some (.r 0), some (.v (encT false t)), some (.v (PG t)), some (.v (.lst ((places t).map (enc false)))), none, none, none, none, none, none, none, none, none] (dC ns k2 [some (.dct (encA qs)), some (.dct (encA rs))]) =
      .next [some (.v (.lst (ns.map .int))), some (.r 0), some (.v (encT false t)), some (.v (PG t)), some (.v (.lst ((places t).map (enc false)))), some (.v (.lst (ks.map (enc false)))), none, none, none, none, none, none, none, none] (dC ns k3 [some (.dct (encA qs)), some (.dct (encA rs)), some (.lst cR)]) := by
    unfold b_law
    simp only [takeS, dropS]
    simp [seqD, wipeE, l3, cpO, dC_app, dC_len, m_told, q1, q4, pms, eqOf_PG, eqs, t1l, q2, m_places, ppls, n5, q3, eqg]
  rw [s8, seqR_next, show dropS 2 (dropS 6 b_law) = dropS 8 b_law from rfl, ex_split 1]
  have s9 : exSs pr (run pr 39) (lamP pr (run pr 39)) (takeS 1 (dropS 8 b_law)) [some (.v (.lst (ns.map .int))), some (.r 0), some (.v (encT false t)), some (.v (PG t)), some (.v (.lst ((places t).map (enc false)))), some (.v (.lst (ks.map (enc false)))), none, none, none, none, none, none, none, none] (dC ns k3 [some (.dct (encA qs)), some (.dct (encA rs)), some (.lst cR)]) =
      .next [some (.v (.lst (ns.map .int))), some (.r 0), some (.v (encT false t)), some (.v (PG t)), some (.v (.lst ((places t).map (enc false)))), some (.v (.lst (ks.map (enc false)))), none, none, none, none, none, none, none, none] (dC ns k3 [some (.dct (encA qs)), some (.dct (encA rs)), some (.lst cR)]) := by
    unfold b_law
    simp only [takeS, dropS]
    generalize hX : (bareK t).map (enc false) = X at q5 pplb n6 rep
    simp [b1, b2, push1_v, line, ll, rep, m_told, q5, eqOf_PG, eqb, m_places, pplb, n6]
  rw [s9, seqR_next, show dropS 1 (dropS 8 b_law) = dropS 9 b_law from rfl]
  exact fin
end
theorem law_true (ns : List Int) (h : ns.length ≤ 63) : ∃ C', Ev.run pr 40 33 [.v (.lst (ns.map .int))] [] = .ok (.v (.bl true)) C' := by
  rw [rn_law]
  exact Yes.body rfl (law_yes ns h)
end K05

end

set_option Elab.async false
set_option linter.all false
set_option maxRecDepth 100000
set_option maxHeartbeats 0

-- TEXT
namespace K05
open Ev
def top (i : Nat) : PySem.Stmt := PySem.Challenge.pw_stepwisekinds_k05_whole_terms.main.body.getD i (.Pass ⟨0, 0, 0, 0⟩)
def d_is_row : DefR := ⟨[105, 115, 95, 114, 111, 119], [105, 115, 95, 114, 111, 119], false, top 7, [[116, 104, 105, 110, 103]], false⟩
def d_is_number : DefR := ⟨[105, 115, 95, 110, 117, 109, 98, 101, 114], [105, 115, 95, 110, 117, 109, 98, 101, 114], false, top 8, [[116, 104, 105, 110, 103]], false⟩
def d_is_below : DefR := ⟨[105, 115, 95, 98, 101, 108, 111, 119], [105, 115, 95, 98, 101, 108, 111, 119], false, top 9, [[116, 104, 105, 110, 103], [98, 111, 117, 110, 100]], false⟩
def d_is_name : DefR := ⟨[105, 115, 95, 110, 97, 109, 101], [105, 115, 95, 110, 97, 109, 101], false, top 10, [[116, 104, 105, 110, 103], [115, 105, 103, 110]], false⟩
def d_check_kind : DefR := ⟨[99, 104, 101, 99, 107, 95, 107, 105, 110, 100], [99, 104, 101, 99, 107, 95, 107, 105, 110, 100], false, top 15, [[107, 105, 110, 100]], false⟩
def d_check_part_kinds : DefR := ⟨[99, 104, 101, 99, 107, 95, 112, 97, 114, 116], [99, 104, 101, 99, 107, 95, 112, 97, 114, 116, 95, 107, 105, 110, 100, 115], false, top 16, [[107, 105, 110, 100], [100, 101, 101, 112]], false⟩
def d_is_kind : DefR := ⟨[105, 115, 95, 107, 105, 110, 100], [105, 115, 95, 107, 105, 110, 100], false, top 18, [[116, 104, 105, 110, 103]], false⟩
def d_plain : DefR := ⟨[112, 108, 97, 105, 110], [112, 108, 97, 105, 110], false, top 19, [[107, 105, 110, 100]], false⟩
def d_check_term : DefR := ⟨[99, 104, 101, 99, 107, 95, 116, 101, 114, 109], [99, 104, 101, 99, 107, 95, 116, 101, 114, 109], false, top 24, [[116, 101, 114, 109], [110, 97, 109, 101, 115]], false⟩
def d_check_part_terms : DefR := ⟨[99, 104, 101, 99, 107, 95, 112, 97, 114, 116], [99, 104, 101, 99, 107, 95, 112, 97, 114, 116, 95, 116, 101, 114, 109, 115], false, top 25, [[116, 101, 114, 109], [110, 97, 109, 101, 115], [100, 101, 101, 112], [119, 111, 114, 100], [114, 101, 115, 116], [112, 97, 114, 116]], false⟩
def d_is_leaf_right : DefR := ⟨[105, 115, 95, 108, 101, 97, 102, 95, 114, 105, 103, 104, 116], [105, 115, 95, 108, 101, 97, 102, 95, 114, 105, 103, 104, 116], false, top 27, [[119, 111, 114, 100], [114, 101, 115, 116], [110, 97, 109, 101, 115]], false⟩
def d_kept : DefR := ⟨[107, 101, 112, 116], [107, 101, 112, 116], false, top 28, [[116, 101, 114, 109], [119, 111, 114, 100], [114, 101, 115, 116], [112, 97, 114, 116]], false⟩
def d_check_program : DefR := ⟨[99, 104, 101, 99, 107, 95, 112, 114, 111, 103, 114, 97, 109], [99, 104, 101, 99, 107, 95, 112, 114, 111, 103, 114, 97, 109], false, top 30, [[112, 114, 111, 103, 114, 97, 109]], false⟩
def d_subterms : DefR := ⟨[115, 117, 98, 116, 101, 114, 109, 115], [115, 117, 98, 116, 101, 114, 109, 115], false, top 31, [[116, 101, 114, 109], [119, 111, 114, 100]], false⟩
def d_kinds_in : DefR := ⟨[107, 105, 110, 100, 115, 95, 105, 110], [107, 105, 110, 100, 115, 95, 105, 110], false, top 32, [[116, 101, 114, 109], [102, 111, 117, 110, 100], [112, 97, 114, 116]], false⟩
def d_retold : DefR := ⟨[114, 101, 116, 111, 108, 100], [114, 101, 116, 111, 108, 100], false, top 33, [[116, 101, 114, 109], [107, 105, 110, 100, 115], [119, 111, 114, 100], [104, 101, 97, 100], [112, 97, 114, 116, 115], [112, 97, 114, 116], [108, 97, 116, 101]], false⟩
def d_size_of : DefR := ⟨[115, 105, 122, 101, 95, 111, 102], [115, 105, 122, 101, 95, 111, 102], false, top 34, [[112, 114, 111, 103, 114, 97, 109]], false⟩
def d_count : DefR := ⟨[99, 111, 117, 110, 116], [99, 111, 117, 110, 116], false, top 35, [[116, 101, 114, 109], [112, 97, 114, 116]], false⟩
def d_forms_of : DefR := ⟨[102, 111, 114, 109, 115, 95, 111, 102], [102, 111, 114, 109, 115, 95, 111, 102], false, top 36, [[112, 114, 111, 103, 114, 97, 109], [102, 111, 117, 110, 100], [108, 105, 110, 101], [116, 101, 114, 109], [119, 111, 114, 100]], false⟩
def d_bare : DefR := ⟨[98, 97, 114, 101], [98, 97, 114, 101], false, top 37, [[112, 114, 111, 103, 114, 97, 109], [107, 105, 110, 100]], false⟩
def d__law_number : DefR := ⟨[95, 108, 97, 119, 95, 110, 117, 109, 98, 101, 114], [95, 108, 97, 119, 95, 110, 117, 109, 98, 101, 114], false, top 39, [[115, 99, 114, 105, 112, 116], [105, 110, 100, 101, 120], [114, 101, 115, 116], [115, 116, 101, 112], [98, 108, 101, 110, 100], [99, 101, 108, 108], [116, 117, 114, 110]], false⟩
def d__law_take : DefR := ⟨[95, 108, 97, 119, 95, 116, 97, 107, 101], [95, 108, 97, 119, 95, 116, 97, 107, 101], false, top 40, [[100, 114, 97, 119], [109, 97, 110, 121]], false⟩
def d__law_pick : DefR := ⟨[95, 108, 97, 119, 95, 112, 105, 99, 107], [95, 108, 97, 119, 95, 112, 105, 99, 107], false, top 41, [[100, 114, 97, 119], [105, 116, 101, 109, 115]], false⟩
def d__law_kind : DefR := ⟨[95, 108, 97, 119, 95, 107, 105, 110, 100], [95, 108, 97, 119, 95, 107, 105, 110, 100], false, top 42, [[100, 114, 97, 119], [100, 101, 101, 112], [107, 105, 110, 100]], false⟩
def d__law_told : DefR := ⟨[95, 108, 97, 119, 95, 116, 111, 108, 100], [95, 108, 97, 119, 95, 116, 111, 108, 100], false, top 43, [[100, 114, 97, 119], [114, 105, 103, 104, 116], [107, 105, 110, 100]], false⟩
def d__law_term : DefR := ⟨[95, 108, 97, 119, 95, 116, 101, 114, 109], [95, 108, 97, 119, 95, 116, 101, 114, 109], false, top 44, [[100, 114, 97, 119], [110, 97, 109, 101, 115], [119, 97, 110, 116], [100, 101, 101, 112], [104, 97, 118, 101], [107, 105, 110, 100], [111, 116, 104, 101, 114], [110, 97, 109, 101]], false⟩
def d__law_leaf : DefR := ⟨[95, 108, 97, 119, 95, 108, 101, 97, 102], [95, 108, 97, 119, 95, 108, 101, 97, 102], false, top 45, [[100, 114, 97, 119], [119, 97, 110, 116]], false⟩
def d__law_parts : DefR := ⟨[95, 108, 97, 119, 95, 112, 97, 114, 116, 115], [95, 108, 97, 119, 95, 112, 97, 114, 116, 115], false, top 46, [[116, 101, 114, 109]], false⟩
def d__law_places : DefR := ⟨[95, 108, 97, 119, 95, 112, 108, 97, 99, 101, 115], [95, 108, 97, 119, 95, 112, 108, 97, 99, 101, 115], false, top 47, [[116, 101, 114, 109], [102, 111, 117, 110, 100], [112, 97, 114, 116]], false⟩
def d__law_count : DefR := ⟨[95, 108, 97, 119, 95, 99, 111, 117, 110, 116], [95, 108, 97, 119, 95, 99, 111, 117, 110, 116], false, top 48, [[116, 101, 114, 109], [112, 97, 114, 116]], false⟩
def d__law_retold : DefR := ⟨[95, 108, 97, 119, 95, 114, 101, 116, 111, 108, 100], [95, 108, 97, 119, 95, 114, 101, 116, 111, 108, 100], false, top 49, [[116, 101, 114, 109], [107, 105, 110, 100, 115], [108, 97, 116, 101], [112, 97, 114, 116, 115], [115, 112, 111, 116, 115], [112, 97, 114, 116]], false⟩
def d__law_forms : DefR := ⟨[95, 108, 97, 119, 95, 102, 111, 114, 109, 115], [95, 108, 97, 119, 95, 102, 111, 114, 109, 115], false, top 50, [[116, 101, 114, 109], [102, 111, 117, 110, 100], [112, 97, 114, 116]], false⟩
def d__law_listed : DefR := ⟨[95, 108, 97, 119, 95, 108, 105, 115, 116, 101, 100], [95, 108, 97, 119, 95, 108, 105, 115, 116, 101, 100], false, top 51, [[116, 101, 114, 109], [112, 97, 114, 116]], false⟩
def d_law : DefR := ⟨[108, 97, 119], [108, 97, 119], false, top 52, [[115, 99, 114, 105, 112, 116], [100, 114, 97, 119], [116, 101, 114, 109], [112, 114, 111, 103, 114, 97, 109], [107, 105, 110, 100, 115], [108, 97, 116, 101], [119, 114, 111, 110, 103], [100, 101, 101, 112], [116, 117, 114, 110], [107, 110, 111, 119, 110], [100, 101, 101, 100], [102, 97, 117, 108, 116], [107, 105, 110, 100], [112, 97, 114, 116]], true⟩
def d_Program___init__ : DefR := ⟨[95, 95, 105, 110, 105, 116, 95, 95], [80, 114, 111, 103, 114, 97, 109], true, clsSt (top 29) 0, [[115, 101, 108, 102], [116, 101, 114, 109]], false⟩
def d_Program___eq__ : DefR := ⟨[95, 95, 101, 113, 95, 95], [80, 114, 111, 103, 114, 97, 109], true, clsSt (top 29) 1, [[115, 101, 108, 102], [111, 116, 104, 101, 114]], false⟩
def d_Program_places : DefR := ⟨[112, 108, 97, 99, 101, 115], [80, 114, 111, 103, 114, 97, 109], true, clsSt (top 29) 2, [[115, 101, 108, 102]], false⟩
def d_Program_told : DefR := ⟨[116, 111, 108, 100], [80, 114, 111, 103, 114, 97, 109], true, clsSt (top 29) 3, [[115, 101, 108, 102], [107, 105, 110, 100, 115], [116, 101, 114, 109], [114, 101, 115, 116], [107, 105, 110, 100]], false⟩
def tb : Tab := { fn := [[105, 115, 95, 114, 111, 119], [105, 115, 95, 110, 117, 109, 98, 101, 114], [105, 115, 95, 98, 101, 108, 111, 119], [105, 115, 95, 110, 97, 109, 101], [99, 104, 101, 99, 107, 95, 107, 105, 110, 100], [99, 104, 101, 99, 107, 95, 112, 97, 114, 116, 95, 107, 105, 110, 100, 115], [105, 115, 95, 107, 105, 110, 100], [112, 108, 97, 105, 110], [99, 104, 101, 99, 107, 95, 116, 101, 114, 109], [99, 104, 101, 99, 107, 95, 112, 97, 114, 116, 95, 116, 101, 114, 109, 115], [105, 115, 95, 108, 101, 97, 102, 95, 114, 105, 103, 104, 116], [107, 101, 112, 116], [99, 104, 101, 99, 107, 95, 112, 114, 111, 103, 114, 97, 109], [115, 117, 98, 116, 101, 114, 109, 115], [107, 105, 110, 100, 115, 95, 105, 110], [114, 101, 116, 111, 108, 100], [115, 105, 122, 101, 95, 111, 102], [99, 111, 117, 110, 116], [102, 111, 114, 109, 115, 95, 111, 102], [98, 97, 114, 101], [95, 108, 97, 119, 95, 110, 117, 109, 98, 101, 114], [95, 108, 97, 119, 95, 116, 97, 107, 101], [95, 108, 97, 119, 95, 112, 105, 99, 107], [95, 108, 97, 119, 95, 107, 105, 110, 100], [95, 108, 97, 119, 95, 116, 111, 108, 100], [95, 108, 97, 119, 95, 116, 101, 114, 109], [95, 108, 97, 119, 95, 108, 101, 97, 102], [95, 108, 97, 119, 95, 112, 97, 114, 116, 115], [95, 108, 97, 119, 95, 112, 108, 97, 99, 101, 115], [95, 108, 97, 119, 95, 99, 111, 117, 110, 116], [95, 108, 97, 119, 95, 114, 101, 116, 111, 108, 100], [95, 108, 97, 119, 95, 102, 111, 114, 109, 115], [95, 108, 97, 119, 95, 108, 105, 115, 116, 101, 100], [108, 97, 119], [], [], [], []], cl := [[75, 105, 110, 100, 69, 114, 114, 111, 114], [66, 97, 100, 75, 105, 110, 100], [66, 97, 100, 84, 101, 114, 109], [80, 114, 111, 103, 114, 97, 109]], gl := [[76, 69, 84, 84, 69, 82, 83], [70, 73, 71, 85, 82, 69, 83], [77, 79, 83, 84, 95, 68, 69, 69, 80, 95, 107, 105, 110, 100, 115], [66, 65, 83, 69, 83], [87, 79, 82, 68, 83], [77, 79, 83, 84, 95, 68, 69, 69, 80, 95, 116, 101, 114, 109, 115], [77, 79, 83, 84, 95, 78, 85, 77, 66, 69, 82]], gd := [[70, 79, 82, 77, 83]] }
def txt : Text := {
  pr := pr, tb := tb, defs := [d_is_row, d_is_number, d_is_below, d_is_name, d_check_kind, d_check_part_kinds, d_is_kind, d_plain, d_check_term, d_check_part_terms, d_is_leaf_right, d_kept, d_check_program, d_subterms, d_kinds_in, d_retold, d_size_of, d_count, d_forms_of, d_bare, d__law_number, d__law_take, d__law_pick, d__law_kind, d__law_told, d__law_term, d__law_leaf, d__law_parts, d__law_places, d__law_count, d__law_retold, d__law_forms, d__law_listed, d_law, d_Program___init__, d_Program___eq__, d_Program_places, d_Program_told],
  cls := [⟨[75, 105, 110, 100, 69, 114, 114, 111, 114], none⟩, ⟨[66, 97, 100, 75, 105, 110, 100], (some (clsSt (top 2) 0, [[112, 97, 114, 116]]))⟩, ⟨[66, 97, 100, 84, 101, 114, 109], (some (clsSt (top 3) 0, [[112, 97, 114, 116]]))⟩, ⟨[80, 114, 111, 103, 114, 97, 109], none⟩] }
end K05
-- law: function 33, statement 52; statements 53

namespace K05
open PySem PySem.Spec PyProof.Rows L2 Ev
abbrev R : PySem.W.OpenRow := PySem.W.OpenLaw.row PySem.Challenge.rw_stepwisekinds_k05_whole_terms
abbrev hk : PySem.W.Hook := He.hookX 12 txt.fa txt.fn txt.ts txt.tf txt.exB
def ob (s : PySem.W.SharedT) : He.AlX := He.obsX 12 txt.fa txt.fn txt.ts txt.tf txt.exB (HandSHeadRun.getT s)
theorem ob_eq (s : PySem.W.SharedT) : ob s = hk.obs s.abs := He.obsX_eq (HandSHeadRun.getT_eq s)
def nm_0 : List PySem.Str := ["KindError", "BadKind", "BadTerm", "LETTERS", "FIGURES", "is_row", "is_number", "is_below", "is_name", "MOST_DEEP_kinds", "BASES", "WORDS", "check_kind", "check_part", "check_part_kinds", "is_kind", "plain", "MOST_DEEP_terms", "MOST_NUMBER", "FORMS", "check_term", "check_part_terms", "is_leaf_right", "kept", "Program", "check_program", "subterms", "kinds_in", "retold", "size_of"]
def nm_1 : List PySem.Str := ["count", "forms_of", "bare", "_law_number", "_law_take", "_law_pick", "_law_kind", "_law_told", "_law_term", "_law_leaf", "_law_parts", "_law_places", "_law_count", "_law_retold", "_law_forms", "_law_listed"]
def nms : List PySem.Str := nm_0 ++ nm_1
theorem run0 (w : World) : HandSHeadRun.RunEq R (PySem.W.view R.prog [52]) hk ob 20000 nms (Ev.wF w false) := by
  intro os
  kernel_rfl
theorem run1 (w : World) : HandSHeadRun.RunEq R (PySem.W.view R.prog [52]) hk ob 20000 nms (Ev.wF w true) := by
  intro os
  kernel_rfl
theorem run (w : World) : HandSHeadRun.RunEq R (PySem.W.view R.prog [52]) hk ob 20000 nms w :=
  Ev.wF_split (P := fun w => HandSHeadRun.RunEq R (PySem.W.view R.prog [52]) hk ob 20000 nms w) (fun w b => match b with | false => run0 w | true => run1 w) w
theorem txt_ok : txt.ok = true := by decide +kernel
end K05
namespace K05
theorem hlaw : ∀ ns : List Int, ns.length ≤ 63 → (∀ z ∈ ns, PySem.Builtin.Int.intBits z ≤ 1048576) → ∃ C', Ev.run pr 40 33 [.v (.lst (ns.map Ev.D.int))] [] = .ok (.v (.bl true)) C' := fun ns h _ => law_true ns h
end K05
open PySem PySem.W PySem.Calls PyProof.Rows
theorem PySem.Challenge.cw_stepwisekinds_k05_whole_terms_holds : PySem.Challenge.rw_stepwisekinds_k05_whole_terms.Holds := by
  w_on; o_law
  refine HandSHeadRun.head_any (r := K05.R) (q := view K05.R.prog [52]) (H := K05.hk) (ob := K05.ob) (M := 20000) (loose := K05.nms) (d := HandSHeadRun.topDef K05.R.prog 52) (kwd := []) K05.ob_eq
    (by kernel_rfl) (fun s => by kernel_rfl) K05.run (by kernel_rfl) (by kernel_rfl) (by kernel_rfl) (by rfl) (by first | assumption | decide +kernel) (by decide +kernel) ⟨rfl, rfl, rfl, rfl, rfl, by decide +kernel⟩ ?hw ?hc
  case hw => w_witness2
  case hc =>
    refine LamX.walk_ofTsE (l := PySem.Challenge.rw_stepwisekinds_k05_whole_terms) (n := 63) (k := 121) (x := "script") (CX := fun w => L2.CX K05.R.prog w) rfl (by decide) (by kernel_rfl) ⟨rfl, by decide, by decide⟩ ?F (fun w H s e s' h => ?hx)
    case F =>
      intro w mg fa h Y G hmg0
      obtain ⟨K, KX, c⟩ := Y
      have hmg : mg (Ev.T K05.d_law.at_) = some (.ref fa) := by
        have e : (HandSHeadRun.topDef K05.R.prog 52).name = Ev.T K05.d_law.at_ := by kernel_rfl
        rw [← e]
        exact hmg0
      exact ⟨K, KX, Ev.law_end (t := K05.txt) (f := 33) (N := 40) (d := K05.d_law) (fn := ⟨1, K05.d_law.N.length, K05.b_law⟩) rfl rfl rfl K05.txt_ok KX c G rfl hmg K05.hlaw⟩
    case hx =>
      obtain ⟨_, _, _, _, _, _, _, _, _, _, _, _, z⟩ := h
      exact z

