import PyProof.Rows.All
import Wide.All
import OpenK.AllK
import Wide.FinOn
import HandS.ForMost
import HandS.ForExc
import HandS.Codes
import HandS.IsInst
import HandS.Style
import HandS.Flow
import HandS.Lambda
import HandS.Star
import HandS.CallSlots
import HandS.ExcField
import HandS.ExcInit
import HandS.TryOnly
import HandS.Walk
import HandS.Deep
import HandS.HeadHook4
import HandS.HeadWalk
import HandS.Head0
import HandS.Head1
import HandS.Head2
import HandS.HeadEnd
import PySem.Challenge.RW_stepwisekinds_k01_whole_kinds
set_option Elab.async false
set_option linter.all false
set_option maxRecDepth 100000

section
set_option maxRecDepth 512
/-! Ev0: values, an IR of a Python subset, its evaluator. Plain Lean. -/
set_option autoImplicit false
namespace Ev

/-- a text by its codes -/
abbrev Nm := List Nat

/-- data: trees -/
inductive D where
  | non
  | bl (b : Bool)
  | int (i : Int)
  | str (s : Nm)
  | tup (xs : List D)
  | lst (xs : List D)
  | dct (kvs : List (D × D))
  | ins (c : Nat) (fs : List (Nm × D))
  deriving Inhabited

/-- what a slot holds: a tree, a reference to a cell, a lambda of the frame, a caught exception -/
inductive E where
  | v (d : D)
  | r (n : Nat)
  | clo (j : Nat)
  | exn (c : Nat) (fs : List (Nm × D))
  deriving Inhabited

/-- what may change -/
inductive Cell where
  | lst (xs : List D)
  | lkd (xs : List D)
  | dct (kvs : List (D × D))
  | ins (c : Nat) (fs : List (Nm × E))
  deriving Inhabited

abbrev Env := List (Option E)
abbrev Cells := List (Option Cell)

/-- the model's line of sizes -/
abbrev line : Nat := 16777216

inductive R (α : Type) where
  | ok (a : α) (C : Cells)
  | exc (c : Nat) (fs : List (Nm × D)) (C : Cells)
  | bad
def R.bind {α β : Type} (x : R α) (f : α → Cells → R β) : R β :=
  match x with
  | .ok a C => f a C
  | .exc c fs C => .exc c fs C
  | .bad => .bad
def R.of {α : Type} (o : Option α) (C : Cells) : R α :=
  match o with
  | some a => .ok a C
  | none => .bad
@[simp] theorem R.bind_ok {α β : Type} (a : α) (C : Cells) (f : α → Cells → R β) : (R.ok a C).bind f = f a C := Eq.trans rfl rfl
@[simp] theorem R.bind_exc {α β : Type} (c : Nat) (fs : List (Nm × D)) (C : Cells) (f : α → Cells → R β) : (R.exc c fs C).bind f = .exc c fs C := Eq.trans rfl rfl
@[simp] theorem R.bind_bad {α β : Type} (f : α → Cells → R β) : (R.bad : R α).bind f = .bad := Eq.trans rfl rfl
@[simp] theorem R.of_some {α : Type} (a : α) (C : Cells) : R.of (some a) C = .ok a C := Eq.trans rfl rfl
@[simp] theorem R.of_none {α : Type} (C : Cells) : R.of (none : Option α) C = .bad := Eq.trans rfl rfl

/-! ### data -/
mutual
/-- None, bools, ints, texts, tuples and lists of such -/
def pd : D → Bool
  | .tup xs => pds xs
  | .lst xs => pds xs
  | .dct _ => false
  | .ins _ _ => false
  | .str s => s.all (· < 1114112)
  | _ => true
def pds : List D → Bool
  | [] => true
  | x :: xs => pd x && pds xs
end
mutual
def dep : D → Nat
  | .tup xs => deps xs + 1
  | .lst xs => deps xs + 1
  | _ => 0
def deps : List D → Nat
  | [] => 0
  | x :: xs => max (dep x) (deps xs)
end
mutual
/-- == of data -/
def eqD : D → D → Bool
  | .non, .non => true
  | .bl a, .bl b => a == b
  | .bl a, .int j => (if a then 1 else 0) == j
  | .int i, .bl b => i == (if b then 1 else 0)
  | .int i, .int j => i == j
  | .str x, .str y => x == y
  | .tup xs, .tup ys => eqDs xs ys
  | .lst xs, .lst ys => eqDs xs ys
  | _, _ => false
def eqDs : List D → List D → Bool
  | [], [] => true
  | x :: xs, y :: ys => eqD x y && eqDs xs ys
  | _, _ => false
end

/-! ### operators -/
inductive Bop where
  | add | sub | mul | fdiv | mod | pow
  deriving DecidableEq
inductive Cop where
  | eq | ne | lt | le | gt | ge | isin | notin
  deriving DecidableEq

def smallI (i : Int) : Bool := decide (-(2 ^ 64) < i ∧ i < 2 ^ 64)
def bopV : Bop → D → D → Option D
  | .add, .int i, .int j => some (.int (i + j))
  | .add, .str x, .str y => if x.length + y.length ≤ line then some (.str (x ++ y)) else none
  | .add, .lst x, .lst y => if x.length + y.length ≤ line then some (.lst (x ++ y)) else none
  | .add, .tup x, .tup y => if x.length + y.length ≤ line then some (.tup (x ++ y)) else none
  | .sub, .int i, .int j => some (.int (i - j))
  | .mul, .int i, .int j => if smallI i || smallI j then some (.int (i * j)) else none
  | .fdiv, .int i, .int j => if 0 < j ∧ j < 1073741824 then some (.int (i / j)) else none
  | .mod, .int i, .int j => if 0 < j then some (.int (i % j)) else none
  | .pow, .int i, .int j => if 0 ≤ j ∧ j ≤ 1000000 ∧ i.natAbs < 2 ^ 64 then some (.int (i ^ j.toNat)) else none
  | _, _, _ => none

/-- op= of what isn't changed in place -/
def augV : Bop → D → D → Option D
  | .add, .int i, .int j => some (.int (i + j))
  | .sub, .int i, .int j => some (.int (i - j))
  | .mul, .int i, .int j => if smallI i || smallI j then some (.int (i * j)) else none
  | .add, .str x, .str y => if x.length + y.length ≤ line then some (.str (x ++ y)) else none
  | _, _, _ => none
def memD (x : D) : List D → Bool
  | [] => false
  | y :: ys => eqD y x || memD x ys

/-- room for a deep look -/
def shp (d : D) : Bool := pd d && decide (dep d ≤ 50)
def shps : List D → Bool
  | [] => true
  | x :: xs => shp x && shps xs

def copV : Cop → D → D → Option Bool
  | .eq, x, y => if shp x && shp y then some (eqD x y) else none
  | .ne, x, y => if shp x && shp y then some (!eqD x y) else none
  | .lt, .int i, .int j => some (decide (i < j))
  | .le, .int i, .int j => some (decide (i ≤ j))
  | .gt, .int i, .int j => some (decide (j < i))
  | .ge, .int i, .int j => some (decide (j ≤ i))
  | .isin, x, .tup ys => if shp x && shps ys then some (memD x ys) else none
  | .isin, x, .lst ys => if shp x && shps ys then some (memD x ys) else none
  | .isin, .str [c], .str y => some (decide (c ∈ y))
  | .notin, x, .tup ys => if shp x && shps ys then some (!memD x ys) else none
  | .notin, x, .lst ys => if shp x && shps ys then some (!memD x ys) else none
  | .notin, .str [c], .str y => some (!decide (c ∈ y))
  | _, _, _ => none

/-- truth -/
def truV : D → Option Bool
  | .non => some false
  | .bl b => some b
  | .int i => some (i != 0)
  | .str s => if s.length ≤ line then some (!s.isEmpty) else none
  | .tup xs => some (!xs.isEmpty)
  | .lst xs => some (!xs.isEmpty)
  | .dct kvs => some (!kvs.isEmpty)
  | .ins _ _ => none

/-- a place in a sequence of n -/
def ixN (n : Nat) (i : Int) : Option Nat :=
  if 0 ≤ i then (if i < n then some i.toNat else none) else if -(n : Int) ≤ i then some (i + n).toNat else none
def atD (xs : List D) (i : Int) : Option D := (ixN xs.length i).bind fun j => xs[j]?
/-- a dict's look -/
def lookD (k : D) : List (D × D) → Option D
  | [] => none
  | (a, b) :: r => if eqD a k then some b else lookD k r
def idxV : D → D → Option D
  | .tup xs, .int i => atD xs i
  | .lst xs, .int i => atD xs i
  | .str s, .int i => if s.length ≤ line then (ixN s.length i).bind fun j => s[j]?.map fun c => .str [c] else none
  | _, _ => none

/-- a slice's bound -/
def sIx (n d : Nat) : Option Int → Nat
  | none => d
  | some v => if v < 0 then (v + (n : Int)).toNat else min v.toNat n
def cutL {α : Type} (xs : List α) (lo hi : Option Int) : List α := (xs.drop (sIx xs.length 0 lo)).take (sIx xs.length xs.length hi - sIx xs.length 0 lo)
def slV : D → Option Int → Option Int → Option D
  | .tup xs, lo, hi => if sIx xs.length 0 lo = 0 ∧ sIx xs.length xs.length hi = xs.length then none else some (.tup (cutL xs lo hi))
  | .lst xs, lo, hi => some (.lst (cutL xs lo hi))
  | .str s, lo, hi => if s.length ≤ line then some (.str (cutL s lo hi)) else none
  | _, _, _ => none

/-- classes that isinstance is asked of -/
inductive Ty where
  | str | int | bool | list | tuple | dict | cls (c : Nat)
  deriving DecidableEq
def isT : D → Ty → Bool
  | .str _, .str => true
  | .int _, .int => true
  | .bl _, .int => true
  | .bl _, .bool => true
  | .lst _, .list => true
  | .tup _, .tuple => true
  | .dct _, .dict => true
  | .ins c _, .cls c' => c == c'
  | _, _ => false

/-- built-in functions of values -/
inductive Bi where
  | len | int | list | tuple | any | all | max | min | sum
  deriving DecidableEq
def bools : List D → Option (List Bool)
  | [] => some []
  | .bl b :: r => (bools r).map (b :: ·)
  | _ => none
def intsD : List D → Option (List Int)
  | [] => some []
  | .int i :: r => (intsD r).map (i :: ·)
  | _ => none
def biV : Bi → List D → Option D
  | .len, [.tup xs] => some (.int xs.length)
  | .len, [.lst xs] => some (.int xs.length)
  | .len, [.str s] => if s.length ≤ line then some (.int s.length) else none
  | .int, [.int i] => some (.int i)
  | .int, [.bl b] => some (.int (if b then 1 else 0))
  | .list, [.tup xs] => some (.lst xs)
  | .list, [.lst xs] => some (.lst xs)
  | .tuple, [.tup xs] => some (.tup xs)
  | .tuple, [.lst xs] => some (.tup xs)
  | .any, [.lst xs] => (bools xs).map fun bs => .bl (bs.any id)
  | .all, [.lst xs] => (bools xs).map fun bs => .bl (bs.all id)
  | .max, [.int i, .int j] => some (.int (if j > i then j else i))
  | .min, [.int i, .int j] => some (.int (if j < i then j else i))
  | .sum, [.lst xs] => (intsD xs).map fun ns => .int ns.sum
  | _, _ => none

/-- built-in methods that read -/
inductive Bm where
  | count | index
  deriving DecidableEq
def countD (x : D) : List D → Nat
  | [] => 0
  | y :: ys => (if eqD y x then 1 else 0) + countD x ys
def indexD (x : D) : List D → Option Nat
  | [] => none
  | y :: ys => if eqD y x then some 0 else (indexD x ys).map (· + 1)
def bmV : Bm → D → List D → Option D
  | .count, .lst xs, [x] => if shp x && shps xs then some (.int (countD x xs)) else none
  | .index, .lst xs, [x] => if shp x && shps xs then (indexD x xs).map fun n => .int n else none
  | _, _, _ => none

/-- methods that change a cell -/
inductive Mm where
  | append | pop | popAt
  deriving DecidableEq
def mmV : Mm → Cell → List D → Option (Cell × D)
  | .append, .lst xs, [x] => if xs.length < line then some (.lst (xs ++ [x]), .non) else none
  | .pop, .lst xs, [] => xs[xs.length - 1]?.map fun y => (.lst xs.dropLast, y)
  | .popAt, .lst xs, [.int i] => (ixN xs.length i).bind fun k => xs[k]?.map fun y => (.lst (xs.eraseIdx k), y)
  | _, _, _ => none

/-! ### cells -/
def cellAt (C : Cells) (n : Nat) : Option Cell := (C[n]?).join
def cellD : Cell → Option D
  | .lst xs => some (.lst xs)
  | .lkd xs => some (.lst xs)
  | .dct kvs => some (.dct kvs)
  | .ins _ _ => none
/-- the tree that a value shows -/
def see (C : Cells) : E → Option D
  | .v d => some d
  | .r n => (cellAt C n).bind cellD
  | _ => none
def vals : List E → Option (List D)
  | [] => some []
  | .v d :: r => (vals r).map (d :: ·)
  | _ => none
def sees (C : Cells) : List E → Option (List D)
  | [] => some []
  | e :: r => (see C e).bind fun d => (sees C r).map (d :: ·)

/-! ### the IR -/
mutual
inductive Tg where
  | nm (i : Nat)
  | tup (ts : Tgs)
inductive Tgs where
  | nil
  | cons (t : Tg) (ts : Tgs)
end
mutual
/-- the slots of a target -/
def tsl : Tg → List Nat
  | .nm i => [i]
  | .tup ts => tsls ts
def tsls : Tgs → List Nat
  | .nil => []
  | .cons t ts => tsl t ++ tsls ts
end
/-- constants -/
inductive K where
  | non | bl (b : Bool) | int (i : Int) | str (s : Nm)
  deriving DecidableEq
def K.d : K → D
  | .non => .non
  | .bl b => .bl b
  | .int i => .int i
  | .str s => .str s

mutual
inductive Ex where
  | slot (i : Nat)
  | cst (k : K)
  | glob (g : Nat)
  | tup (es : Es)
  | lst (m : Bool) (es : Es)
  | bop (o : Bop) (a b : Ex)
  | cmp (o : Cop) (a b : Ex)
  | cmp2 (o o' : Cop) (a b c : Ex)
  | isN (neg : Bool) (a : Ex)
  | and (a b : Ex)
  | or (a b : Ex)
  | one (a : Ex)
  | not (a : Ex)
  | ite (c a b : Ex)
  | idx (a i : Ex)
  | sl (a : Ex) (lo hi : Eo)
  | xf (i : Nat) (f : Nm)
  | attr (a : Ex) (f : Nm)
  | call (f : Nat) (es : Es)
  | callP (f : Nat) (es : Es)
  | meth (o : Ex) (m : Nm) (es : Es)
  | new (c : Nat) (es : Es)
  | bi (b : Bi) (es : Es)
  | isi (a : Ex) (ts : List Ty)
  | bm (m : Bm) (a : Ex) (es : Es)
  | mm (m : Mm) (a : Ex) (es : Es)
  | comp (own : List Nat) (t : Tg) (it : It) (ifs : Eo) (r : Gn)
  | cp (a : Ex)
  | frz (a : Ex)
  | callL (i : Nat)
inductive Gn where
  | elt (e : Ex)
  | gen (t : Tg) (it : It) (ifs : Eo) (r : Gn)
inductive Es where
  | nil
  | cons (e : Ex) (es : Es)
  | star (e : Ex) (es : Es)
inductive Eo where
  | none
  | some (e : Ex)
inductive It where
  | seq (e : Ex)
  | range1 (a : Ex)
  | range2 (a b : Ex)
  | enum (e : Ex)
  | zip (a b : Ex)
end

/-- the slots of the clauses within -/
def gsl : Gn → List Nat
  | .elt _ => []
  | .gen t _ _ r => tsl t ++ gsl r
mutual
inductive Sm where
  | exp (e : Ex)
  | ret (e : Ex)
  | retN
  | pass
  | brk
  | cont
  | asg (t : Tg) (e : Ex)
  | par (i j : Nat) (a b : Ex)
  | aug (i : Nat) (o : Bop) (e : Ex)
  | augI (o i : Ex) (op : Bop) (e : Ex)
  | setI (o i e : Ex)
  | setA (o : Ex) (f : Nm) (e : Ex)
  | augA (o : Ex) (f : Nm) (op : Bop) (e : Ex)
  | ife (c : Ex) (a b : Sms)
  | for (t : Tg) (it : It) (b : Sms)
  | forL (i : Nat) (js : List Nat) (b : Sms)
  | while (c : Ex) (b : Sms)
  | raise (c : Nat) (es : Es)
  | try (b : Sms) (hs : Hs)
inductive Sms where
  | nil
  | cons (s : Sm) (r : Sms)
inductive Hs where
  | nil
  | cons (c : Nat) (as : Option Nat) (b : Sms) (r : Hs)
end

structure Fn where
  ps : Nat
  ns : Nat
  body : Sms
structure Cl where
  /-- __init__ -/
  init : Option Nat
  /-- its instances stay as they are made -/
  val : Bool
  ms : List (Nm × Nat)
  /-- of an exception: it is one; its fields; what it is under -/
  exn : Bool
  flds : List Nm
  ups : List Nat
structure Prog where
  fns : List Fn
  cls : List Cl
  globs : List D
  lams : List Ex
  /-- turns of a while -/
  most : Nat

/-! ### the evaluator -/
mutual
/-- a tree is stored at a target -/
def asgT : Tg → D → Env → Option Env
  | .nm i, d, env => some (env.set i (some (.v d)))
  | .tup ts, .tup xs, env => asgTs ts xs env
  | .tup ts, .lst xs, env => asgTs ts xs env
  | .tup _, _, _ => none
def asgTs : Tgs → List D → Env → Option Env
  | .nil, [], env => some env
  | .cons t ts, x :: xs, env => (asgT t x env).bind fun e => asgTs ts xs e
  | _, _, _ => none
end
def asgE : Tg → E → Env → Option Env
  | .nm i, e, env => some (env.set i (some e))
  | .tup ts, .v d, env => asgT (.tup ts) d env
  | .tup _, _, _ => none
def wipeE (env : Env) : List Nat → Env
  | [] => env
  | i :: is => (wipeE env is).set i none

/-- lo, lo + s, .., n of them -/
def rangeD (lo s : Int) : Nat → List D
  | 0 => []
  | n + 1 => .int lo :: rangeD (lo + s) s n
def rngOk (i : Int) : Bool := decide (-(2 ^ 62) ≤ i ∧ i < 2 ^ 62)
def enumD (k : Nat) : List D → List D
  | [] => []
  | x :: xs => .tup [.int k, x] :: enumD (k + 1) xs
def zipD : List D → List D → List D
  | x :: xs, y :: ys => .tup [x, y] :: zipD xs ys
  | _, _ => []
/-- what a list, a tuple, a text yields -/
def seqD : D → Option (List D)
  | .lst xs => some xs
  | .tup xs => some xs
  | .str s => some (s.map fun c => .str [c])
  | _ => none
def lsD : D → Option (List D)
  | .lst xs => some xs
  | _ => none
/-- what is walked stays as it is -/
def lock (C : Cells) : E → Cells
  | .r n => match cellAt C n with
    | some (.lst xs) => C.set n (some (.lkd xs))
    | _ => C
  | _ => C
def unlock (C0 C : Cells) : E → Cells
  | .r n => match cellAt C0 n with
    | some (.lst xs) => C.set n (some (.lst xs))
    | _ => C
  | _ => C

/-- no exception leaves a comprehension -/
def noexc {α : Type} : R α → R α
  | .ok a C => .ok a C
  | _ => .bad
/-- a turn of a comprehension's walk: the items, what is made so far -/
def compL (env : Env) (t : Tg) (body : Env → Cells → List D → R (List D)) : List D → Cells → List D → R (List D)
  | [], C, acc => .ok acc C
  | x :: xs, C, acc =>
    match asgT t x env with
    | none => .bad
    | some e => (body e C acc).bind fun a C => compL env t body xs C a

def pushD (r : R E) (acc : List D) : R (List D) := r.bind fun x C => match x with
  | .v d => if acc.length < line then .ok (acc ++ [d]) C else .bad
  | _ => .bad
/-- a turn's test, then its element -/
def stepC (t : R Bool) (e : Cells → R (List D)) (acc : List D) : R (List D) := t.bind fun b C => if b then e C else .ok acc C
/-- an inner walk -/
def walkC (w : R (List D × E)) (f : List D → Cells → R (List D)) : R (List D) := w.bind fun w C => (f w.1 (lock C w.2)).bind fun ds C' => .ok ds (unlock C C' w.2)

def lookF (f : Nm) : List (Nm × E) → Option E
  | [] => none
  | (g, e) :: r => if g = f then some e else lookF f r
def lookFD (f : Nm) : List (Nm × D) → Option D
  | [] => none
  | (g, e) :: r => if g = f then some e else lookFD f r
def putF (f : Nm) (e : E) : List (Nm × E) → List (Nm × E)
  | [] => [(f, e)]
  | (g, x) :: r => if g = f then (g, e) :: r else (g, x) :: putF f e r
def lookM (m : Nm) : List (Nm × Nat) → Option Nat
  | [] => none
  | (g, e) :: r => if g = m then some e else lookM m r
def valF : List (Nm × E) → Option (List (Nm × D))
  | [] => some []
  | (f, .v d) :: r => (valF r).map ((f, d) :: ·)
  | _ => none
def attrE (C : Cells) (f : Nm) : E → Option E
  | .v (.ins _ fs) => (lookFD f fs).map .v
  | .r n => match cellAt C n with
    | some (.ins _ fs) => lookF f fs
    | _ => none
  | _ => none
def clsE (C : Cells) : E → Option Nat
  | .v (.ins c _) => some c
  | .r n => match cellAt C n with
    | some (.ins c _) => some c
    | _ => none
  | _ => none
/-- the class of a value, for isinstance -/
def isE (C : Cells) (e : E) (t : Ty) : Option Bool :=
  match see C e with
  | some d => some (isT d t)
  | none => match e with
    | .r n => match cellAt C n with
      | some (.ins c _) => some (match t with
        | .cls c' => c == c'
        | _ => false)
      | _ => none
    | _ => none
def isEs (C : Cells) (e : E) : List Ty → Option Bool
  | [] => some false
  | t :: ts => (isE C e t).bind fun b => if b then some true else isEs C e ts
def dOk : D → Bool
  | .ins _ _ => false
  | .dct _ => false
  | _ => true
def isiE (C : Cells) (e : E) (ts : List Ty) : Option Bool :=
  match see C e with
  | some d => if dOk d then isEs [] (.v d) ts else none
  | none => none
def isLst (C : Cells) (x : E) : Bool := match see C x with
  | some (.lst _) => true
  | _ => false
def isNone (neg : Bool) : E → Bool
  | .v .non => !neg
  | _ => neg
def truE (C : Cells) (e : E) : Option Bool := (see C e).bind truV

def truR (r : R E) : R Bool := r.bind fun x C => R.of (truE C x) C
section
variable (P : Prog) (call : Nat → List E → Cells → R E) (lamc : Nat → Env → Cells → R E)

/-- a call whose arguments and answer are trees: it sees no cells -/
def pureCall (f : Nat) (ds : List D) (C : Cells) : R E :=
  match call f (ds.map .v) [] with
  | .ok (.v d) _ => .ok (.v d) C
  | .ok _ _ => .bad
  | .exc c fs _ => .exc c fs C
  | .bad => .bad
/-- a new instance of the class c: its cell, __init__, then a tree where the class says so -/
def make (c : Nat) (es : List E) (C : Cells) : R E :=
  match P.cls[c]? with
  | none => .bad
  | some cl =>
    let n := C.length
    let fin : Cells → R E := fun C => if cl.val then
        match cellAt C n with
        | some (.ins c' fs) => match valF fs with
          | some ds => .ok (.v (.ins c' ds)) (C.set n none)
          | none => .bad
        | _ => .bad
      else .ok (.r n) C
    match cl.init with
    | none => if es.isEmpty then fin (C ++ [some (.ins c [])]) else .bad
    | some f => (call f (.r n :: es) (C ++ [some (.ins c [])])).bind fun e C => match e with
      | .v .non => fin C
      | _ => .bad
def methCall (m : Nm) (o : E) (es : List E) (C : Cells) : R E :=
  match clsE C o with
  | none => .bad
  | some c => match P.cls[c]? with
    | none => .bad
    | some cl => match lookM m cl.ms with
      | none => .bad
      | some f => match attrE C m o with
        | none => call f (o :: es) C
        | some _ => .bad

mutual
def evE : Ex → Env → Cells → R E
  | .slot i, env, C => match (env[i]?).join with
    | some (.v d) => .ok (.v d) C
    | some (.r n) => .ok (.r n) C
    | _ => .bad
  | .cst k, _, C => .ok (.v k.d) C
  | .glob g, _, C => R.of ((P.globs[g]?).map .v) C
  | .tup es, env, C => (evEs es env C).bind fun xs C => R.of ((vals xs).bind fun ds => if ds.length ≤ line then some (.v (.tup ds)) else none) C
  | .lst m es, env, C => (evEs es env C).bind fun xs C => match vals xs with
    | none => .bad
    | some ds => if ds.length ≤ line then (if m then .ok (.r C.length) (C ++ [some (.lst ds)]) else .ok (.v (.lst ds)) C) else .bad
  | .bop o a b, env, C => (evE a env C).bind fun x C => (evE b env C).bind fun y C =>
      R.of ((see C x).bind fun x => (see C y).bind fun y => (bopV o x y).map .v) C
  | .cmp o a b, env, C => (evE a env C).bind fun x C => (evE b env C).bind fun y C =>
      R.of ((see C x).bind fun x => (see C y).bind fun y => (copV o x y).map fun b => .v (.bl b)) C
  | .cmp2 o o' a b c, env, C => (evE a env C).bind fun x C => (evE b env C).bind fun y C =>
      match (see C x).bind fun x => (see C y).bind fun y => copV o x y with
      | none => .bad
      | some false => .ok (.v (.bl false)) C
      | some true => (evE c env C).bind fun z C => R.of ((see C y).bind fun y => (see C z).bind fun z => (copV o' y z).map fun b => .v (.bl b)) C
  | .isN neg a, env, C => (evE a env C).bind fun x C => .ok (.v (.bl (isNone neg x))) C
  | .and a b, env, C => (evE a env C).bind fun x C => match truE C x with
    | none => .bad
    | some true => evE b env C
    | some false => .ok x C
  | .or a b, env, C => (evE a env C).bind fun x C => match truE C x with
    | none => .bad
    | some true => .ok x C
    | some false => evE b env C
  | .one a, env, C => evE a env C
  | .not a, env, C => (evE a env C).bind fun x C => match truE C x with
    | none => .bad
    | some b => .ok (.v (.bl (!b))) C
  | .ite c a b, env, C => (evE c env C).bind fun x C => match truE C x with
    | none => .bad
    | some true => evE a env C
    | some false => evE b env C
  | .idx a i, env, C => (evE a env C).bind fun x C => (evE i env C).bind fun y C =>
      R.of ((see C x).bind fun x => (see C y).bind fun y => (idxV x y).map .v) C
  | .sl a lo hi, env, C => (evE a env C).bind fun x C => (evO lo env C).bind fun l C => (evO hi env C).bind fun h C =>
      R.of ((see C x).bind fun x => (slV x l h).map .v) C
  | .xf i f, env, C => match (env[i]?).join with
    | some (.exn c fs) => match P.cls[c]? with
      | some cl => if cl.flds.contains f then R.of ((lookFD f fs).map .v) C else .bad
      | none => .bad
    | _ => .bad
  | .attr a f, env, C => (evE a env C).bind fun x C => R.of (attrE C f x) C
  | .call f es, env, C => (evEs es env C).bind fun xs C => call f xs C
  | .callP f es, env, C => (evEs es env C).bind fun xs C => match vals xs with
    | none => .bad
    | some ds => pureCall call f ds C
  | .meth o m es, env, C => (evE o env C).bind fun x C => (evEs es env C).bind fun xs C => methCall P call m x xs C
  | .new c es, env, C => (evEs es env C).bind fun xs C => make P call c xs C
  | .bi b es, env, C => (evEs es env C).bind fun xs C => R.of ((sees C xs).bind fun ds => (biV b ds).map .v) C
  | .isi a ts, env, C => (evE a env C).bind fun x C => R.of ((isiE C x ts).map fun b => .v (.bl b)) C
  | .bm m a es, env, C => (evE a env C).bind fun x C => if isLst C x then (evEs es env C).bind fun xs C =>
      R.of ((see C x).bind fun x => (sees C xs).bind fun ds => (bmV m x ds).map .v) C else .bad
  | .mm m a es, env, C => (evE a env C).bind fun x C => if isLst C x then (evEs es env C).bind fun xs C => match x with
    | .r n => match (cellAt C n).bind fun c => (vals xs).bind fun ds => mmV m c ds with
      | some (c, d) => .ok (.v d) (C.set n (some c))
      | none => .bad
    | _ => .bad else .bad
  | .comp own t it ifs r, env, C => (evI it env C).bind fun w C =>
      (noexc (compL (wipeE env own) t (fun env C acc => stepC (evC ifs env C) (fun C => evG r env C acc) acc) w.1 (lock C w.2) [])).bind fun ds C' => .ok (.v (.lst ds)) (unlock C C' w.2)
  | .cp a, env, C => (evE a env C).bind fun x C => match see C x with
    | some (.lst xs) => .ok (.r C.length) (C ++ [some (.lst xs)])
    | some (.tup xs) => .ok (.r C.length) (C ++ [some (.lst xs)])
    | _ => .bad
  | .frz a, env, C => (evE a env C).bind fun x C => match x with
    | .v d => .ok (.v d) C
    | .r n => match cellAt C n with
      | some (.lst xs) => .ok (.v (.lst xs)) (C.set n none)
      | _ => .bad
    | _ => .bad
  | .callL i, env, C => match (env[i]?).join with
    | some (.clo j) => lamc j env C
    | _ => .bad
/-- what a comprehension's innermost turn makes; a generator within another -/
def evG : Gn → Env → Cells → List D → R (List D)
  | .elt e, env, C, acc => pushD (evE e env C) acc
  | .gen t it ifs r, env, C, acc => walkC (evI it env C) fun ds C =>
      compL (wipeE env (tsl t ++ gsl r)) t (fun env C acc => stepC (evC ifs env C) (fun C => evG r env C acc) acc) ds C acc
def evC : Eo → Env → Cells → R Bool
  | .none, _, C => .ok true C
  | .some c, env, C => truR (evE c env C)
def evEs : Es → Env → Cells → R (List E)
  | .nil, _, C => .ok [] C
  | .cons e es, env, C => (evE e env C).bind fun x C => (evEs es env C).bind fun xs C => .ok (x :: xs) C
  | .star e es, env, C => (evE e env C).bind fun x C => match (see C x).bind seqD with
    | none => .bad
    | some ds => match see C x with
      | some (.str _) => .bad
      | _ => (evEs es env C).bind fun xs C => .ok (ds.map .v ++ xs) C
def evO : Eo → Env → Cells → R (Option Int)
  | .none, _, C => .ok none C
  | .some e, env, C => (evE e env C).bind fun x C => match x with
    | .v (.int i) => .ok (some i) C
    | _ => .bad
/-- the items of what is walked; what is locked for it -/
def evI : It → Env → Cells → R (List D × E)
  | .seq e, env, C => (evE e env C).bind fun x C => match (see C x).bind seqD with
    | none => .bad
    | some ds => .ok (ds, x) C
  | .range1 a, env, C => (evE a env C).bind fun x C => match x with
    | .v (.int j) => if rngOk j then .ok (rangeD 0 1 j.toNat, .v .non) C else .bad
    | _ => .bad
  | .range2 a b, env, C => (evE a env C).bind fun x C => (evE b env C).bind fun y C => match x, y with
    | .v (.int i), .v (.int j) => if rngOk i && rngOk j then .ok (rangeD i 1 (j - i).toNat, .v .non) C else .bad
    | _, _ => .bad
  | .enum e, env, C => (evE e env C).bind fun x C => match (see C x).bind lsD with
    | none => .bad
    | some ds => .ok (enumD 0 ds, x) C
  | .zip a b, env, C => (evE a env C).bind fun x C => (evE b env C).bind fun y C => match x, y with
    | .v x, .v y => match seqD x, seqD y with
      | some xs, some ys => .ok (zipD xs ys, .v .non) C
      | _, _ => .bad
    | _, _ => .bad
end

/-- what a statement comes to -/
inductive RS where
  | next (env : Env) (C : Cells)
  | ret (e : E) (C : Cells)
  | brk (env : Env) (C : Cells)
  | ct (env : Env) (C : Cells)
  | exc (c : Nat) (fs : List (Nm × D)) (env : Env) (C : Cells)
  | bad

def R.st {α : Type} (x : R α) (env : Env) (f : α → Cells → RS) : RS :=
  match x with
  | .ok a C => f a C
  | .exc c fs C => .exc c fs env C
  | .bad => .bad
def RS.map (x : RS) (f : Cells → Cells) : RS :=
  match x with
  | .next env C => .next env (f C)
  | .ret e C => .ret e (f C)
  | .brk env C => .brk env (f C)
  | .ct env C => .ct env (f C)
  | .exc c fs env C => .exc c fs env (f C)
  | .bad => .bad

def forL (t : Tg) (body : Env → Cells → RS) : List D → Env → Cells → RS
  | [], env, C => .next env C
  | x :: xs, env, C =>
    match asgT t x env with
    | none => .bad
    | some e => match body e C with
      | .next env C => forL t body xs env C
      | .ct env C => forL t body xs env C
      | .brk env C => .next env C
      | .ret e C => .ret e C
      | .exc c fs env C => .exc c fs env C
      | .bad => .bad
def forLam (i : Nat) (body : Env → Cells → RS) : List Nat → Env → Cells → RS
  | [], env, C => .next env C
  | j :: js, env, C =>
    match body (env.set i (some (.clo j))) C with
    | .next env C => forLam i body js env C
    | .ct env C => forLam i body js env C
    | .brk env C => .next env C
    | .ret e C => .ret e C
    | .exc c fs env C => .exc c fs env C
    | .bad => .bad
def whileL (test : Env → Cells → R Bool) (body : Env → Cells → RS) : Nat → Env → Cells → RS
  | 0, _, _ => .bad
  | n + 1, env, C => (test env C).st env fun b C => if b then
      match body env C with
      | .next env C => whileL test body n env C
      | .ct env C => whileL test body n env C
      | .brk env C => .next env C
      | .ret e C => .ret e C
      | .exc c fs env C => .exc c fs env C
      | .bad => .bad
    else .next env C
def cleanE (env : Env) : Bool := env.all fun o => match o with
  | some (.exn _ _) => false
  | _ => true
def under (c d : Nat) : Bool := c == d || match P.cls[c]? with
  | some cl => cl.ups.contains d
  | none => false

mutual
def exS : Sm → Env → Cells → RS
  | .exp e, env, C => (evE P call lamc e env C).st env fun _ C => .next env C
  | .ret e, env, C => (evE P call lamc e env C).st env fun x C => .ret x C
  | .retN, _, C => .ret (.v .non) C
  | .pass, env, C => .next env C
  | .brk, env, C => .brk env C
  | .cont, env, C => .ct env C
  | .asg t e, env, C => (evE P call lamc e env C).st env fun x C => match asgE t x env with
    | none => .bad
    | some env => .next env C
  | .par i j a b, env, C => (evE P call lamc a env C).st env fun x C => (evE P call lamc b env C).st env fun y C => .next ((env.set i (some x)).set j (some y)) C
  | .aug i o e, env, C => match (env[i]?).join with
    | some (.v x) => (evE P call lamc e env C).st env fun y C => match (see C y).bind fun y => augV o x y with
      | none => .bad
      | some z => .next (env.set i (some (.v z))) C
    | some (.r n) => (evE P call lamc e env C).st env fun y C => match o, cellAt C n, see C y with
      | .add, some (.lst xs), some (.lst ys) => if xs.length + ys.length ≤ line then .next (env.set i (some (.r n))) (C.set n (some (.lst (xs ++ ys)))) else .bad
      | _, _, _ => .bad
    | _ => .bad
  | .augI o i op e, env, C => (evE P call lamc o env C).st env fun x C => (evE P call lamc i env C).st env fun y C => match x, y with
    | .r n, .v (.int k) => match cellAt C n with
      | some (.lst xs) => match atD xs k with
        | none => .bad
        | some old => (evE P call lamc e env C).st env fun z C => match z with
          | .v z => match augV op old z, cellAt C n with
            | some w, some (.lst xs) => match ixN xs.length k with
              | some j => .next env (C.set n (some (.lst (xs.set j w))))
              | none => .bad
            | _, _ => .bad
          | _ => .bad
      | _ => .bad
    | _, _ => .bad
  | .setI o i e, env, C => (evE P call lamc e env C).st env fun z C => (evE P call lamc o env C).st env fun x C => (evE P call lamc i env C).st env fun y C => match x, y, z with
    | .r n, .v (.int k), .v z => match cellAt C n with
      | some (.lst xs) => match ixN xs.length k with
        | some j => .next env (C.set n (some (.lst (xs.set j z))))
        | none => .bad
      | _ => .bad
    | _, _, _ => .bad
  | .setA o f e, env, C => (evE P call lamc e env C).st env fun z C => (evE P call lamc o env C).st env fun x C => match x with
    | .r n => match cellAt C n with
      | some (.ins c fs) => .next env (C.set n (some (.ins c (putF f z fs))))
      | _ => .bad
    | _ => .bad
  | .augA o f op e, env, C => (evE P call lamc o env C).st env fun x C => match x with
    | .r n => match cellAt C n with
      | some (.ins _ fs) => match lookF f fs with
        | some (.v old) => (evE P call lamc e env C).st env fun z C => match z, cellAt C n with
          | .v z, some (.ins c fs) => match augV op old z with
            | some w => .next env (C.set n (some (.ins c (putF f (.v w) fs))))
            | none => .bad
          | _, _ => .bad
        | _ => .bad
      | _ => .bad
    | _ => .bad
  | .ife c a b, env, C => (evE P call lamc c env C).st env fun x C => match truE C x with
    | none => .bad
    | some true => exSs a env C
    | some false => exSs b env C
  | .for t it b, env, C => (evI P call lamc it env C).st env fun w C => (forL t (fun env C => exSs b env C) w.1 env (lock C w.2)).map fun C' => unlock C C' w.2
  | .forL i js b, env, C => forLam i (fun env C => exSs b env C) js env C
  | .while c b, env, C => whileL (fun env C => truR (evE P call lamc c env C)) (fun env C => exSs b env C) P.most env C
  | .raise c es, env, C => (evEs P call lamc es env C).st env fun xs C => match vals xs, P.cls[c]? with
    | some ds, some cl => if ds.length = cl.flds.length then .exc c (cl.flds.zip ds) env C else .bad
    | _, _ => .bad
  | .try b hs, env, C => match exSs b env C with
    | .exc c fs env C => exH hs c fs env C
    | r => r
def exSs : Sms → Env → Cells → RS
  | .nil, env, C => .next env C
  | .cons s r, env, C => match exS s env C with
    | .next env C => exSs r env C
    | x => x
def exH : Hs → Nat → List (Nm × D) → Env → Cells → RS
  | .nil, c, fs, env, C => .exc c fs env C
  | .cons d as b r, c, fs, env, C => if under P c d then
      match as with
      | none => match exSs b env C with
        | .exc _ _ _ _ => .bad
        | x => x
      | some i => match exSs b (env.set i (some (.exn c fs))) C with
        | .next env C => if cleanE (env.set i none) then .next (env.set i none) C else .bad
        | .ct env C => if cleanE (env.set i none) then .ct (env.set i none) C else .bad
        | .brk env C => if cleanE (env.set i none) then .brk (env.set i none) C else .bad
        | .ret e C => .ret e C
        | _ => .bad
    else exH r c fs env C
end
end

def startE (ns : Nat) (es : List E) : Env := es.map some ++ List.replicate (ns - es.length) none
/-- a reference of fields below n -/
def fldsLow (n : Nat) : List (Nm × E) → Bool
  | [] => true
  | (_, .r k) :: r => decide (k < n) && fldsLow n r
  | (_, .v _) :: r => fldsLow n r
  | _ => false
def lowC (n : Nat) : Cells → Bool
  | [] => true
  | some (.ins _ fs) :: r => fldsLow n fs && lowC n r
  | _ :: r => lowC n r
/-- what a call leaves: where nothing new can be come to, the new cells go -/
def leave (n : Nat) (e : E) (C : Cells) : R E :=
  match e with
  | .v d => if lowC n (C.take n) then .ok (.v d) (C.take n) else .ok (.v d) C
  | .r k => .ok (.r k) C
  | _ => .bad
def body (P : Prog) (call : Nat → List E → Cells → R E) (fn : Fn) (es : List E) (C : Cells) : R E :=
  if es.length = fn.ps then
    match exSs P call (fun j env C => match P.lams[j]? with
        | none => .bad
        | some e => evE P call (fun _ _ _ => .bad) e env C) fn.body (startE fn.ns es) C with
    | .next _ C' => leave C.length (.v .non) C'
    | .ret e C' => leave C.length e C'
    | .exc c fs _ C' => if lowC C.length (C'.take C.length) then .exc c fs (C'.take C.length) else .exc c fs C'
    | _ => .bad
  else .bad
/-- n calls within one another -/
def run (P : Prog) : Nat → Nat → List E → Cells → R E
  | 0, _, _, _ => .bad
  | n + 1, f, es, C => match P.fns[f]? with
    | none => .bad
    | some fn => body P (run P n) fn es C
end Ev

end

section
set_option maxRecDepth 512
set_option Elab.async false
set_option linter.all false
set_option maxRecDepth 100000
set_option maxHeartbeats 4000000
namespace Ev
open PySem L2 PySem.Spec PyProof.Rows

/-- where the text's classes lie; the tables of code objects with what their lambdas are called -/
structure Cfg0 where
  cls : Nat → Option Addr
  tb : List (Addr × Str)
abbrev T (l : Nm) : Str := ⟨l.toArray⟩
theorem T_inj {a b : Nm} (h : T a = T b) : a = b := by
  have := congrArg (fun x : Str => x.cps.toList) h
  simpa [T] using this

section
variable (K : PySem.W.Frag) (cA : Cfg0) (G : Hp)
mutual
/-- a tree, as it lies in the frozen part G of the heap -/
def RelD : D → V → Prop
  | .non, v => v = .non
  | .bl b, v => v = .bl b
  | .int i, v => v = .int i
  | .str s, v => v = .str (T s)
  | .tup xs, v => ∃ a us, v = .ref a ∧ SqT K G a us ∧ RelDs xs us
  | .lst xs, v => ∃ a us, v = .ref a ∧ SqL K G a us ∧ RelDs xs us
  | .dct _, _ => False
  | .ins c fs, v => ∃ a C dx gs, v = .ref a ∧ cA.cls c = some C ∧ G a = some (.ins C dx gs) ∧ RelF fs gs
def RelDs : List D → List V → Prop
  | [], us => us = []
  | x :: xs, us => ∃ u r, us = u :: r ∧ RelD x u ∧ RelDs xs r
def RelF : List (Nm × D) → List (Str × V) → Prop
  | [], gs => gs = []
  | (f, d) :: r, gs => ∃ v rest, gs = (T f, v) :: rest ∧ RelD d v ∧ RelF r rest
end
end

theorem Same.sqt {K : PySem.W.Frag} {H H' : Hp} {a : Addr} {xs : List V} (e : Same H H') (h : SqT K H a xs) : SqT K H' a xs := by
  rcases h with (h | ⟨o, h⟩) | h
  · exact .inl (.inl (e _ _ h))
  · exact .inl (.inr ⟨o, e _ _ h⟩)
  · exact .inr h

section
variable {K : PySem.W.Frag} {cA : Cfg0} {G G' : Hp}
mutual
theorem RelD.mono (e : Same G G') : ∀ {d : D} {v : V}, RelD K cA G d v → RelD K cA G' d v
  | .non, _, h => by simpa only [RelD] using h
  | .bl _, _, h => by simpa only [RelD] using h
  | .int _, _, h => by simpa only [RelD] using h
  | .str _, _, h => by simpa only [RelD] using h
  | .tup xs, _, h => by
    simp only [RelD] at h ⊢
    obtain ⟨a, us, rfl, h1, h2⟩ := h
    exact ⟨a, us, rfl, Same.sqt e h1, RelDs.mono e h2⟩
  | .lst xs, _, h => by
    simp only [RelD] at h ⊢
    obtain ⟨a, us, rfl, h1, h2⟩ := h
    exact ⟨a, us, rfl, e.seq h1, RelDs.mono e h2⟩
  | .dct _, _, h => by simp only [RelD] at h
  | .ins c fs, _, h => by
    simp only [RelD] at h ⊢
    obtain ⟨a, C, dx, gs, rfl, h1, h2, h3⟩ := h
    exact ⟨a, C, dx, gs, rfl, h1, e _ _ h2, RelF.mono e h3⟩
theorem RelDs.mono (e : Same G G') : ∀ {ds : List D} {vs : List V}, RelDs K cA G ds vs → RelDs K cA G' ds vs
  | [], _, h => by simpa only [RelDs] using h
  | x :: xs, _, h => by
    simp only [RelDs] at h ⊢
    obtain ⟨u, r, rfl, h1, h2⟩ := h
    exact ⟨u, r, rfl, RelD.mono e h1, RelDs.mono e h2⟩
theorem RelF.mono (e : Same G G') : ∀ {ds : List (Nm × D)} {vs : List (Str × V)}, RelF K cA G ds vs → RelF K cA G' ds vs
  | [], _, h => by simpa only [RelF] using h
  | (f, d) :: xs, _, h => by
    simp only [RelF] at h ⊢
    obtain ⟨u, r, rfl, h1, h2⟩ := h
    exact ⟨u, r, rfl, RelD.mono e h1, RelF.mono e h2⟩
end
theorem RelDs.length : ∀ {ds : List D} {vs : List V}, RelDs K cA G ds vs → ds.length = vs.length
  | [], _, h => by simp only [RelDs] at h; subst h; rfl
  | x :: xs, _, h => by
    simp only [RelDs] at h
    obtain ⟨u, r, rfl, _, h2⟩ := h
    simp [RelDs.length h2]
theorem RelDs.get : ∀ {ds : List D} {vs : List V} {i : Nat} {d : D}, RelDs K cA G ds vs → ds[i]? = some d → ∃ v, vs[i]? = some v ∧ RelD K cA G d v
  | [], _, _, _, h, e => by simp at e
  | x :: xs, _, i, d, h, e => by
    simp only [RelDs] at h
    obtain ⟨u, r, rfl, h1, h2⟩ := h
    cases i with
    | zero => simp at e; subst e; exact ⟨u, rfl, h1⟩
    | succ i => simpa using RelDs.get (i := i) h2 (by simpa using e)
theorem RelDs.append : ∀ {ds es : List D} {vs us : List V}, RelDs K cA G ds vs → RelDs K cA G es us → RelDs K cA G (ds ++ es) (vs ++ us)
  | [], _, _, _, h, h' => by simp only [RelDs] at h; subst h; simpa using h'
  | x :: xs, _, _, _, h, h' => by
    simp only [RelDs] at h
    obtain ⟨u, r, rfl, h1, h2⟩ := h
    simp only [List.cons_append, RelDs]
    exact ⟨u, _, rfl, h1, RelDs.append h2 h'⟩
theorem RelDs.drop : ∀ {ds : List D} {vs : List V} (n : Nat), RelDs K cA G ds vs → RelDs K cA G (ds.drop n) (vs.drop n)
  | _, _, 0, h => by simpa using h
  | [], _, n + 1, h => by simp only [RelDs] at h; subst h; simp [RelDs]
  | x :: xs, _, n + 1, h => by
    simp only [RelDs] at h
    obtain ⟨u, r, rfl, h1, h2⟩ := h
    simpa using RelDs.drop n h2
theorem RelDs.take : ∀ {ds : List D} {vs : List V} (n : Nat), RelDs K cA G ds vs → RelDs K cA G (ds.take n) (vs.take n)
  | _, _, 0, h => by simp [RelDs]
  | [], _, n + 1, h => by simp only [RelDs] at h; subst h; simp [RelDs]
  | x :: xs, _, n + 1, h => by
    simp only [RelDs] at h
    obtain ⟨u, r, rfl, h1, h2⟩ := h
    simp only [List.take_succ_cons, RelDs]
    exact ⟨u, _, rfl, h1, RelDs.take n h2⟩
theorem RelDs.set : ∀ {ds : List D} {vs : List V} {d : D} {v : V} (n : Nat), RelDs K cA G ds vs → RelD K cA G d v → RelDs K cA G (ds.set n d) (vs.set n v)
  | [], _, _, _, n, h, _ => by simp only [RelDs] at h; subst h; simp [RelDs]
  | x :: xs, _, _, _, 0, h, h' => by
    simp only [RelDs] at h
    obtain ⟨u, r, rfl, h1, h2⟩ := h
    simp only [List.set_cons_zero, RelDs]
    exact ⟨_, _, rfl, h', h2⟩
  | x :: xs, _, _, _, n + 1, h, h' => by
    simp only [RelDs] at h
    obtain ⟨u, r, rfl, h1, h2⟩ := h
    simp only [List.set_cons_succ, RelDs]
    exact ⟨_, _, rfl, h1, RelDs.set n h2 h'⟩
theorem RelDs.one {d : D} {v : V} (h : RelD K cA G d v) : RelDs K cA G [d] [v] := by simp only [RelDs]; exact ⟨v, [], rfl, h, rfl⟩

/-! ### values -/
def RelE (K : PySem.W.Frag) (cA : Cfg0) (G : Hp) (am : List Addr) : E → V → Prop
  | .v d, v => RelD K cA G d v
  | .r n, v => ∃ a, am[n]? = some a ∧ v = .ref a
  | .clo _, _ => False
  | .exn _ _, _ => False
def RelFE (K : PySem.W.Frag) (cA : Cfg0) (G : Hp) (am : List Addr) : List (Nm × E) → List (Str × V) → Prop
  | [], gs => gs = []
  | (f, e) :: r, gs => ∃ v rest, gs = (T f, v) :: rest ∧ RelE K cA G am e v ∧ RelFE K cA G am r rest
def RelEs (K : PySem.W.Frag) (cA : Cfg0) (G : Hp) (am : List Addr) : List E → List V → Prop
  | [], us => us = []
  | x :: xs, us => ∃ u r, us = u :: r ∧ RelE K cA G am x u ∧ RelEs K cA G am xs r
/-- how a cell lies -/
def CellO (K : PySem.W.Frag) (cA : Cfg0) (G : Hp) (am : List Addr) (H : Hp) (a : Addr) : Cell → Prop
  | .lst xs => ∃ us, H a = some (.lst us) ∧ RelDs K cA G xs us
  | .lkd xs => ∃ us, H a = some (.lst us) ∧ RelDs K cA G xs us
  | .dct _ => False
  | .ins c fs => ∃ C dx gs, cA.cls c = some C ∧ H a = some (.ins C dx gs) ∧ H dx = some (.own a) ∧ RelFE K cA G am fs gs
def Live (am : List Addr) (C : Cells) (a : Addr) : Prop := ∃ (i : Nat) (c : Cell), C[i]? = some (some c) ∧ am[i]? = some a
/-- a table of code objects: each that it tells is known -/
def TabG (G H : Hp) (P : Addr) (q : Str) : Prop := ∃ ps : Array Value, H P = some (.tbl ps) ∧ TriplesOk ps.toList ∧ ∀ (pos : Pos) (cv : Value), codeAmong pos ps.toList = some cv → ∃ c, cv = .ref c ∧ G c = some (LamX.CodeO c q)
theorem TabG.mono {G G' H H' : Hp} {P : Addr} {q : Str} (t : TabG G H P q) (sg : Same G G') (sh : ∀ ps, H P = some (.tbl ps) → H' P = some (.tbl ps)) : TabG G' H' P q := by
  obtain ⟨ps, h1, h2, h3⟩ := t
  exact ⟨ps, sh _ h1, h2, fun pos cv hc => let ⟨c, e1, e2⟩ := h3 pos cv hc; ⟨c, e1, sg _ _ e2⟩⟩
structure Wd (K : PySem.W.Frag) (cA : Cfg0) (G : Hp) (am : List Addr) (C : Cells) (H : Hp) : Prop where
  tabs : ∀ p ∈ cA.tb, TabG G H p.1 p.2 ∧ G p.1 = none
  sub : Same G H
  len : am.length = C.length
  cell : ∀ (i : Nat) (c : Cell), C[i]? = some (some c) → ∃ a, am[i]? = some a ∧ CellO K cA G am H a c ∧ G a = none
  inj : ∀ (i j : Nat) (c d : Cell) (a : Addr), C[i]? = some (some c) → C[j]? = some (some d) → am[i]? = some a → am[j]? = some a → i = j
/-- from one world to a later one -/
structure Ext (G : Hp) (am : List Addr) (C : Cells) (H : Hp) (G' : Hp) (am' : List Addr) (C' : Cells) (H' : Hp) : Prop where
  g : Same G G'
  a : ∃ t, am' = am ++ t
  keep : ∀ a o, H a = some o → ¬ Live am C a → (∀ ps, o ≠ .tbl ps) → H' a = some o
  tab : ∀ a ps, H a = some (.tbl ps) → ¬ Live am C a → ∃ ps', H' a = some (.tbl ps')
  live : ∀ a, Live am' C' a → Live am C a ∨ H a = none
  gn : ∀ a o, G' a = some o → G a = some o ∨ H a = none ∨ Live am C a
  lk : ∀ (n : Nat) (xs : List D), C[n]? = some (some (.lkd xs)) → C'[n]? = some (some (.lkd xs))
theorem Ext.refl {am : List Addr} {C : Cells} {H : Hp} : Ext G am C H G am C H := ⟨Same.refl _, ⟨[], by simp⟩, fun _ _ h _ _ => h, fun _ ps h _ => ⟨ps, h⟩, fun _ h => .inl h, fun _ _ h => .inl h, fun _ _ h => h⟩
theorem tbl_or (o : HO) : (∃ ps, o = .tbl ps) ∨ ∀ ps, o ≠ .tbl ps := by
  cases o with
  | tbl ps => exact .inl ⟨ps, rfl⟩
  | _ => exact .inr fun ps z => by cases z
/-- nothing that stands goes -/
theorem Ext.some' {G G' : Hp} {am am' : List Addr} {C C' : Cells} {H H' : Hp} (x : Ext G am C H G' am' C' H') {a : Addr} {o : HO} (h : H a = some o) (n : ¬ Live am C a) : H' a ≠ none := fun z => by
  rcases tbl_or o with ⟨ps, rfl⟩ | t
  · obtain ⟨ps', e⟩ := x.tab a ps h n
    rw [z] at e; cases e
  · rw [x.keep a o h n t] at z; cases z
theorem Ext.trans {G1 G2 G3 : Hp} {a1 a2 a3 : List Addr} {C1 C2 C3 : Cells} {H1 H2 H3 : Hp} (x : Ext G1 a1 C1 H1 G2 a2 C2 H2) (y : Ext G2 a2 C2 H2 G3 a3 C3 H3) : Ext G1 a1 C1 H1 G3 a3 C3 H3 where
  g := x.g.trans y.g
  a := by
    obtain ⟨t, rfl⟩ := x.a
    obtain ⟨u, rfl⟩ := y.a
    exact ⟨t ++ u, by simp⟩
  keep := fun a o h n t => y.keep a o (x.keep a o h n t) (fun l => by
    rcases x.live a l with z | z
    · exact n z
    · rw [h] at z; cases z) t
  tab := fun a ps h n => by
    obtain ⟨ps', e⟩ := x.tab a ps h n
    exact y.tab a ps' e fun l => by
      rcases x.live a l with z | z
      · exact n z
      · rw [h] at z; cases z
  live := fun a l => by
    rcases y.live a l with z | z
    · exact x.live a z
    · cases e : H1 a with
      | none => exact .inr rfl
      | some o =>
        by_cases n : Live a1 C1 a
        · exact .inl n
        · exact (x.some' e n z).elim
  gn := fun a o h => by
    have nn : H2 a = none → H1 a = none ∨ Live a1 C1 a := fun z => by
      cases e : H1 a with
      | none => exact .inl rfl
      | some o =>
        by_cases n : Live a1 C1 a
        · exact .inr n
        · exact (x.some' e n z).elim
    rcases y.gn a o h with z | z | z
    · exact x.gn a o z
    · exact .inr (nn z)
    · rcases x.live a z with z | z
      · exact .inr (.inr z)
      · exact .inr (.inl z)
  lk := fun n xs h => y.lk n xs (x.lk n xs h)
theorem RelE.mono {am am' : List Addr} (e : Same G G') (ha : ∃ t, am' = am ++ t) : ∀ {x : E} {v : V}, RelE K cA G am x v → RelE K cA G' am' x v
  | .v d, _, h => RelD.mono e h
  | .r n, _, h => by
    obtain ⟨a, h1, h2⟩ := h
    obtain ⟨t, rfl⟩ := ha
    exact ⟨a, by rw [List.getElem?_append_left]; exact h1; exact (List.getElem?_eq_some_iff.mp h1).1, h2⟩
  | .clo _, _, h => h
  | .exn _ _, _, h => h
theorem RelFE.mono {am am' : List Addr} (e : Same G G') (ha : ∃ t, am' = am ++ t) : ∀ {x : List (Nm × E)} {v : List (Str × V)}, RelFE K cA G am x v → RelFE K cA G' am' x v
  | [], _, h => h
  | (f, x) :: xs, _, h => by
    obtain ⟨v, r, rfl, h1, h2⟩ := h
    exact ⟨v, r, rfl, h1.mono e ha, RelFE.mono e ha h2⟩
theorem RelEs.mono {am am' : List Addr} (e : Same G G') (ha : ∃ t, am' = am ++ t) : ∀ {x : List E} {v : List V}, RelEs K cA G am x v → RelEs K cA G' am' x v
  | [], _, h => h
  | x :: xs, _, h => by
    obtain ⟨v, r, rfl, h1, h2⟩ := h
    exact ⟨v, r, rfl, h1.mono e ha, RelEs.mono e ha h2⟩
end
end Ev

end

section
set_option maxRecDepth 512
set_option Elab.async false
set_option linter.all false
set_option maxRecDepth 100000
set_option maxHeartbeats 4000000
namespace Ev
open PySem L2 PySem.Spec PyProof.Rows

/-! ### readings by the evaluator -/
/-- what a frame knows: its cells, what its lambdas are called, what they are; the exception that its suite handles -/
structure Cfg extends Cfg0 where
  cells : List (Str × Addr)
  q : Str
  lam : Nat → Arguments → Expr → Scope → Prop
  exc : Option (Addr × Addr × Option Addr)
instance : Coe Cfg Cfg0 := ⟨Cfg.toCfg0⟩
/-- the lambda at f -/
def LamO (q : Str) (p : Arguments) (b : Expr) (sc : Scope) (cl : List (Str × Addr)) (c' f : Addr) : HO := .ext fun h => ∃ pm ctv : Value, h.get? f = some (PySem.W.kla_obj "<lambda>" q p b sc cl pm c' ctv)
def RelC (cA : Cfg) (G : Hp) (j : Nat) (v : V) : Prop := ∃ p b sc f c', cA.lam j p b sc ∧ v = .ref f ∧ G f = some (LamO cA.q p b sc (cloFrom cA.cells sc.names []) c' f) ∧ G c' = some (LamX.CodeO c' cA.q)
theorem RelC.mono {cA : Cfg} {G G' : Hp} {j : Nat} {v : V} (s : Same G G') (h : RelC cA G j v) : RelC cA G' j v :=
  let ⟨p, b, sc, f, c', h1, h2, h3, h4⟩ := h; ⟨p, b, sc, f, c', h1, h2, s _ _ h3, s _ _ h4⟩
/-- the exception that is handled -/
def RelN (K : PySem.W.Frag) (cA : Cfg) (G : Hp) (c : Nat) (fs : List (Nm × D)) (v : V) : Prop :=
  ∃ a C dd, cA.exc = some (a, C, dd) ∧ v = .ref a ∧ cA.cls c = some C ∧ (fs = [] ∨ ∃ b gs, dd = some b ∧ G b = some (.xd gs) ∧ ∀ f d, lookFD f fs = some d → ∃ v, gs.lookup (T f) = some v ∧ RelD K cA G d v)
theorem RelN.mono {K : PySem.W.Frag} {cA : Cfg} {G G' : Hp} {c : Nat} {fs : List (Nm × D)} {v : V} (s : Same G G') (h : RelN K cA G c fs v) : RelN K cA G' c fs v := by
  obtain ⟨a, C, dd, h1, h2, h3, h4⟩ := h
  refine ⟨a, C, dd, h1, h2, h3, h4.imp id fun ⟨b, gs, g1, g2, g3⟩ => ⟨b, gs, g1, s _ _ g2, fun f d e => let ⟨v, v1, v2⟩ := g3 f d e; ⟨v, v1, v2.mono s⟩⟩⟩
/-- what a slot holds -/
def RelSl (K : PySem.W.Frag) (cA : Cfg) (G : Hp) (am : List Addr) (e : E) (v : V) : Prop :=
  RelE K cA G am e v ∨ (∃ j, e = .clo j ∧ RelC cA G j v) ∨ ∃ c fs, e = .exn c fs ∧ RelN K cA G c fs v
theorem RelSl.mono {K : PySem.W.Frag} {cA : Cfg} {G G' : Hp} {am am' : List Addr} {e : E} {v : V} (s : Same G G') (ha : ∃ t, am' = am ++ t) (h : RelSl K cA G am e v) : RelSl K cA G' am' e v :=
  h.imp (RelE.mono s ha) fun h => h.imp (fun ⟨j, h1, h2⟩ => ⟨j, h1, h2.mono s⟩) fun ⟨c, fs, h1, h2⟩ => ⟨c, fs, h1, h2.mono s⟩
def RelEnv (K : PySem.W.Frag) (cA : Cfg) (G : Hp) (am : List Addr) (env : Env) (σ : L2.St) : Prop :=
  env.length = σ.length ∧ ∀ (i : Nat) (e : E), env[i]? = some (some e) → ∃ v, σ[i]? = some (some v) ∧ RelSl K cA G am e v
section
variable (K : PySem.W.Frag) (cA : Cfg0)
/-- an exception as it lies -/
def RelX (G : Hp) (c : Nat) (fs : List (Nm × D)) (cls : Value) (dd : Option Addr) : Prop :=
  ∃ C, cA.cls c = some C ∧ cls = .ref C ∧ (fs = [] ∨ ∃ a gs, dd = some a ∧ G a = some (.xd gs) ∧ ∀ f d, lookFD f fs = some d → ∃ v, gs.lookup (T f) = some v ∧ RelD K cA G d v)
abbrev WRel (α β : Type) := Hp → List Addr → Cells → Hp → α → β → Prop
/-- what a result asks -/
def Dn {α β : Type} (Rl : WRel α β) (W : WX) (σ : L2.St) (r : R α) (G : Hp) (am : List Addr) (C : Cells) (H : Hp) (Q : β → Hp → Prop) : Prop :=
  match r with
  | .ok a C' => ∀ G' am' H' v, Ext G am C H G' am' C' H' → Wd K cA G' am' C' H' → Rl G' am' C' H' a v → Q v H'
  | .exc c fs C' => ∀ G' am' H' cls dd, Ext G am C H G' am' C' H' → Wd K cA G' am' C' H' → RelX K cA G' c fs cls dd → W cls dd σ H'
  | .bad => False
end
section
variable {K : PySem.W.Frag} {cA : Cfg0} {α β γ δ : Type} {Rl : WRel α β} {Rm : WRel γ δ} {W : WX} {σ : L2.St} {G G' : Hp} {am am' : List Addr} {C C' : Cells} {H H' : Hp}
theorem RelEnv.mono {cA : Cfg} {env : Env} (x : Ext G am C H G' am' C' H') (h : RelEnv K cA G am env σ) : RelEnv K cA G' am' env σ :=
  ⟨h.1, fun i e he => let ⟨v, h1, h2⟩ := h.2 i e he; ⟨v, h1, h2.mono x.g x.a⟩⟩
theorem Dn.shift {r : R α} {Q : β → Hp → Prop} (x : Ext G am C H G' am' C' H') (h : Dn K cA Rl W σ r G am C H Q) : Dn K cA Rl W σ r G' am' C' H' Q := by
  cases r with
  | ok a C2 => exact fun G2 am2 H2 v x2 w2 r2 => h G2 am2 H2 v (x.trans x2) w2 r2
  | exc c fs C2 => exact fun G2 am2 H2 v dd x2 w2 r2 => h G2 am2 H2 v dd (x.trans x2) w2 r2
  | bad => exact h
theorem Dn.bind {r : R α} {f : α → Cells → R γ} {Q : δ → Hp → Prop} (h : Dn K cA Rm W σ (r.bind f) G am C H Q) :
    Dn K cA Rl W σ r G am C H fun v H1 => ∃ G1 am1 C1 a, Ext G am C H G1 am1 C1 H1 ∧ Wd K cA G1 am1 C1 H1 ∧ Rl G1 am1 C1 H1 a v ∧ Dn K cA Rm W σ (f a C1) G1 am1 C1 H1 Q := by
  cases r with
  | ok a C2 => exact fun G2 am2 H2 v x2 w2 r2 => ⟨G2, am2, C2, a, x2, w2, r2, h.shift x2⟩
  | exc c fs C2 => exact h
  | bad => exact h
theorem Dn.imp {r : R α} {Q Q' : β → Hp → Prop} (h : Dn K cA Rl W σ r G am C H Q) (hq : ∀ v H', Q v H' → Q' v H') : Dn K cA Rl W σ r G am C H Q' := by
  cases r with
  | ok a C2 => exact fun G2 am2 H2 v x2 w2 r2 => hq _ _ (h G2 am2 H2 v x2 w2 r2)
  | exc c fs C2 => exact h
  | bad => exact h
/-- an answer that is there -/
theorem Dn.here {a : α} {Q : β → Hp → Prop} {v : β} (h : Dn K cA Rl W σ (.ok a C) G am C H Q) (wd : Wd K cA G am C H) (r : Rl G am C H a v) : Q v H := h G am H v Ext.refl wd r
end

def rE (K : PySem.W.Frag) (cA : Cfg0) : WRel E V := fun G am _ _ e v => RelE K cA G am e v
def rEs (K : PySem.W.Frag) (cA : Cfg0) : WRel (List E) (List V) := fun G am _ _ e v => RelEs K cA G am e v

/-- an expression reads as the evaluator says -/
def tE (K : PySem.W.Frag) (cA : Cfg) (W : WX) (ev : Env → Cells → R E) : TE := fun σ H Q =>
  ∃ env G am C, RelEnv K cA G am env σ ∧ Wd K cA G am C H ∧ Dn K cA (rE K cA) W σ (ev env C) G am C H Q
def tEs (K : PySem.W.Frag) (cA : Cfg) (W : WX) (ev : Env → Cells → R (List E)) : TA := fun σ H Q =>
  ∃ env G am C, RelEnv K cA G am env σ ∧ Wd K cA G am C H ∧ Dn K cA (rEs K cA) W σ (ev env C) G am C H Q
def rB : WRel Bool Bool := fun _ _ _ _ a b => a = b
def tT (K : PySem.W.Frag) (cA : Cfg) (W : WX) (ev : Env → Cells → R Bool) : TT := fun σ H Q =>
  ∃ env G am C, RelEnv K cA G am env σ ∧ Wd K cA G am C H ∧ Dn K cA rB W σ (ev env C) G am C H Q

theorem PE.imp {X : Cx} {e : Expr} {t t' : TE} (h : PE X e t) (i : ∀ σ H Q, t' σ H Q → t σ H Q) : PE X e t' := ⟨fun pins s σ H Q I q => h.run pins s σ H Q I (i σ H Q q)⟩
theorem PT.imp {X : Cx} {e : Expr} {t t' : TT} (h : PT X e t) (i : ∀ σ H Q, t' σ H Q → t σ H Q) : PT X e t' := ⟨fun pins s σ H Q I q => h.run pins s σ H Q I (i σ H Q q)⟩
theorem PW.imp {X : Cx} {e : Expr} {t t' : TT} (h : PW X e t) (i : ∀ σ H Q, t' σ H Q → t σ H Q) : PW X e t' := ⟨fun wh pins s σ H Q I q => h.run wh pins s σ H Q I (i σ H Q q)⟩
theorem PA.imp {X : Cx} {e : List Expr} {t t' : TA} (h : PA X e t) (i : ∀ σ H Q, t' σ H Q → t σ H Q) : PA X e t' := ⟨fun pos pins s σ H Q I q => h.run pos pins s σ H Q I (i σ H Q q)⟩

/-! ### what a value shows -/
section
variable {K : PySem.W.Frag} {cA : Cfg0} {G G' : Hp} {am am' : List Addr} {C C' : Cells} {H H' : Hp}
/-- a list may lie in a cell -/
def RelS (K : PySem.W.Frag) (cA : Cfg0) (G H : Hp) : D → V → Prop
  | .lst xs, v => ∃ a us, v = .ref a ∧ SqL K H a us ∧ RelDs K cA G xs us
  | d, v => RelD K cA G d v
theorem RelD.relS (s : Same G H) {d : D} {v : V} (h : RelD K cA G d v) : RelS K cA G H d v := by
  cases d <;> first | exact h | skip
  case lst xs =>
    simp only [RelD] at h
    obtain ⟨a, us, rfl, h1, h2⟩ := h
    exact ⟨a, us, rfl, s.seq h1, h2⟩
theorem see_rel (wd : Wd K cA G am C H) {e : E} {v : V} {d : D} (h : RelE K cA G am e v) (hs : see C e = some d) : RelS K cA G H d v := by
  cases e with
  | v d' => simp only [see, Option.some.injEq] at hs; subst hs; exact RelD.relS wd.sub h
  | r n =>
    obtain ⟨a, h1, rfl⟩ := h
    simp only [see, cellAt] at hs
    cases hc : C[n]? with
    | none => simp [hc] at hs
    | some o =>
      cases o with
      | none => simp [hc] at hs
      | some c =>
        simp [hc] at hs
        obtain ⟨a', ha, hO, _⟩ := wd.cell n c hc
        rw [h1] at ha; cases ha
        cases c with
        | lst xs =>
          simp [cellD] at hs; subst hs
          obtain ⟨us, z, rd⟩ := hO
          exact ⟨a, us, rfl, SqL.of z, rd⟩
        | lkd xs =>
          simp [cellD] at hs; subst hs
          obtain ⟨us, z, rd⟩ := hO
          exact ⟨a, us, rfl, SqL.of z, rd⟩
        | dct kvs => exact hO.elim
        | ins c fs => simp [cellD] at hs
  | clo j => simp [see] at hs
  | exn c fs => simp [see] at hs
/-- something new at a free place, in the frozen part -/
theorem Wd.new (wd : Wd K cA G am C H) {p : Addr} (hp : H p = none) (o : HO) : Wd K cA (upd G p o) am C (upd H p o) ∧ Ext G am C H (upd G p o) am C (upd H p o) := by
  have hg : G p = none := by
    cases e : G p with
    | none => rfl
    | some u => rw [wd.sub _ _ e] at hp; cases hp
  have sg : Same G (upd G p o) := fun b u q => by rw [upd_ne (ne_of_none q hg)]; exact q
  have sh : Same H (upd H p o) := fun b u q => by rw [upd_ne (ne_of_none q hp)]; exact q
  refine ⟨⟨fun P hp => ⟨(wd.tabs P hp).1.mono sg fun ps e => sh _ _ e, by rw [upd_ne (fun z => by obtain ⟨⟨ps, e, _⟩, _⟩ := wd.tabs P hp; rw [z] at e; cases hp' : H p <;> simp_all)]; exact (wd.tabs P hp).2⟩, fun b u q => ?_, wd.len, fun i c e => ?_, wd.inj⟩, ⟨sg, ⟨[], by simp⟩, fun a u q _ _ => sh a u q, fun a ps q _ => ⟨ps, sh a _ q⟩, fun a l => .inl l, fun a u q => ?_, fun _ _ h => h⟩⟩
  · by_cases hb : b = p
    · subst hb; rw [upd_same] at q ⊢; exact q
    · rw [upd_ne hb] at q ⊢; exact wd.sub _ _ q
  · obtain ⟨a, h1, h2, h3⟩ := wd.cell i c e
    have hap : a ≠ p := by
      intro z; subst z
      cases c with
      | lst xs => obtain ⟨us, z, _⟩ := h2; rw [hp] at z; cases z
      | lkd xs => obtain ⟨us, z, _⟩ := h2; rw [hp] at z; cases z
      | dct kvs => exact h2
      | ins c fs => obtain ⟨_, _, _, _, z, _⟩ := h2; rw [hp] at z; cases z
    refine ⟨a, h1, ?_, by rw [upd_ne hap]; exact h3⟩
    cases c with
    | lst xs => obtain ⟨us, z, r⟩ := h2; exact ⟨us, sh _ _ z, r.mono sg⟩
    | lkd xs => obtain ⟨us, z, r⟩ := h2; exact ⟨us, sh _ _ z, r.mono sg⟩
    | dct kvs => exact h2
    | ins c fs => obtain ⟨Ca, dx, gs, z1, z2, z3, r⟩ := h2; exact ⟨Ca, dx, gs, z1, sh _ _ z2, sh _ _ z3, r.mono sg ⟨[], by simp⟩⟩
  · by_cases hb : a = p
    · subst hb; exact .inr (.inl hp)
    · rw [upd_ne hb] at q; exact .inl q
theorem Wd.free (wd : Wd K cA G am C H) {p : Addr} (hp : H p = none) : G p = none := by
  cases e : G p with
  | none => rfl
  | some u => rw [wd.sub _ _ e] at hp; cases hp
end

theorem Wd.tab_to {K : PySem.W.Frag} {cA : Cfg0} {G G' : Hp} {am : List Addr} {C : Cells} {H H' : Hp} (wd : Wd K cA G am C H) (sg : Same G G') (sh : ∀ P ps, H P = some (.tbl ps) → H' P = some (.tbl ps)) (gn : ∀ P ps, H P = some (.tbl ps) → G P = none → G' P = none) : ∀ p ∈ cA.tb, TabG G' H' p.1 p.2 ∧ G' p.1 = none := fun p hp => by
  obtain ⟨t, n⟩ := wd.tabs p hp
  obtain ⟨ps, e, _⟩ := id t
  exact ⟨t.mono sg fun ps e => sh _ _ e, gn _ ps e n⟩
/-! ### data: deep looks -/
def py : D → PyData
  | .non => .none
  | .bl b => .bool b
  | .int i => .int i
  | .str s => .str (T s)
  | .tup xs => .tuple (pys xs)
  | .lst xs => .list (pys xs)
  | .dct _ => .none
  | .ins _ _ => .none
where
  pys : List D → List PyData
  | [] => []
  | x :: xs => py x :: pys xs
mutual
theorem py_lay : ∀ d : D, pd d = true → (py d).canLay0 = true
  | .non, _ => rfl
  | .bl _, _ => rfl
  | .int _, _ => rfl
  | .str s, h => by
    simp only [pd] at h
    simpa [py, PyData.canLay0, PyData.strOk, T] using h
  | .tup xs, h => py_lays xs (by simpa only [pd] using h)
  | .lst xs, h => py_lays xs (by simpa only [pd] using h)
theorem py_lays : ∀ ds : List D, pds ds = true → PyData.canLayAll0 (py.pys ds) = true
  | [], _ => rfl
  | x :: xs, h => by
    simp only [pds, Bool.and_eq_true] at h
    simp only [py.pys, PyData.canLayAll0, Bool.and_eq_true]
    exact ⟨py_lay x h.1, py_lays xs h.2⟩
end
mutual
theorem py_dep : ∀ d : D, (py d).depth ≤ dep d
  | .non => Nat.le_refl _
  | .bl _ => Nat.le_refl _
  | .int _ => Nat.le_refl _
  | .str _ => Nat.le_refl _
  | .tup xs => by simp only [py, dep, PyData.depth]; exact Nat.succ_le_succ (py_deps xs)
  | .lst xs => by simp only [py, dep, PyData.depth]; exact Nat.succ_le_succ (py_deps xs)
  | .dct _ => Nat.zero_le _
  | .ins _ _ => Nat.zero_le _
theorem py_deps : ∀ ds : List D, PyData.depthAll (py.pys ds) ≤ deps ds
  | [] => Nat.le_refl _
  | x :: xs => by
    simp only [py.pys, deps, PyData.depthAll]
    have h1 := py_dep x
    have h2 := py_deps xs
    omega
end
theorem T_beq (a b : Nm) : (T a == T b) = (a == b) := by
  by_cases h : a = b
  · subst h; simp
  · have : T a ≠ T b := fun z => h (T_inj z)
    rw [beq_eq_false_iff_ne.mpr this, beq_eq_false_iff_ne.mpr h]
mutual
theorem py_eq : ∀ a b : D, pd a = true → pd b = true → PyData.eqv (py a) (py b) = eqD a b
  | .non, b, _, hb => by cases b <;> first | rfl | (simp [pd] at hb)
  | .bl x, b, _, hb => by cases b <;> first | rfl | (simp [pd] at hb)
  | .int x, b, _, hb => by cases b <;> first | rfl | (simp [pd] at hb)
  | .str x, b, _, hb => by
    cases b <;> first | rfl | (simp [pd] at hb; done) | skip
    case str y => simp only [py, PyData.eqv, eqD]; exact T_beq x y
  | .tup xs, b, ha, hb => by
    cases b <;> first | rfl | (simp [pd] at hb; done) | skip
    case tup ys => simp only [py, PyData.eqv, eqD]; exact py_eqs xs ys (by simpa only [pd] using ha) (by simpa only [pd] using hb)
  | .lst xs, b, ha, hb => by
    cases b <;> first | rfl | (simp [pd] at hb; done) | skip
    case lst ys => simp only [py, PyData.eqv, eqD]; exact py_eqs xs ys (by simpa only [pd] using ha) (by simpa only [pd] using hb)
theorem py_eqs : ∀ as bs : List D, pds as = true → pds bs = true → PyData.eqvAll (py.pys as) (py.pys bs) = eqDs as bs
  | [], [], _, _ => rfl
  | [], _ :: _, _, _ => rfl
  | _ :: _, [], _, _ => rfl
  | a :: as, b :: bs, ha, hb => by
    simp only [pds, Bool.and_eq_true] at ha hb
    simp only [py.pys, PyData.eqvAll, eqDs, py_eq a b ha.1 hb.1, py_eqs as bs ha.2 hb.2]
end
section
variable {X : Cx} {pins : List (Addr × Obj)} {σ : L2.St} {G H : Hp} {s : Shared} {cA : Cfg0}
mutual
theorem reads_D (I : Inv X pins σ H s) (sb : Same G H) : ∀ {d : D} {v : V} {u : Value}, pd d = true → RelD X.K cA G d v → RelV v u → ∃ as, Reads s.heap u (py d) as
  | .non, _, _, _, h, r => by simp only [RelD] at h; subst h; cases r; exact ⟨_, .none⟩
  | .bl b, _, _, _, h, r => by simp only [RelD] at h; subst h; cases r; exact ⟨_, .bool b⟩
  | .int i, _, _, _, h, r => by simp only [RelD] at h; subst h; obtain ⟨t, rfl⟩ := r; exact ⟨_, .int i t⟩
  | .str x, _, _, _, h, r => by simp only [RelD] at h; subst h; obtain ⟨t, rfl⟩ := r; exact ⟨_, .str _ t⟩
  | .tup xs, _, _, hp, h, r => by
    simp only [RelD] at h
    obtain ⟨a, us, rfl, h1, h2⟩ := h
    cases r
    obtain ⟨its, rv, ⟨o, e1, e2, n, e3⟩, hz⟩ := I.tuple (Same.sqt sb h1)
    obtain ⟨as, ra⟩ := reads_Ds I sb (by simpa only [pd] using hp) h2 rv
    exact ⟨_, .tuple e1 e2 e3 (by simpa using ra)⟩
  | .lst xs, _, _, hp, h, r => by
    simp only [RelD] at h
    obtain ⟨a, us, rfl, h1, h2⟩ := h
    cases r
    obtain ⟨its, rv, ⟨o, n, e1, e2, _, e3⟩, hz⟩ := I.list (sb.seq h1)
    obtain ⟨as, ra⟩ := reads_Ds I sb (by simpa only [pd] using hp) h2 rv
    exact ⟨_, .list e1 e2 e3 (by simpa using ra)⟩
  | .dct _, _, _, hp, _, _ => by simp [pd] at hp
  | .ins _ _, _, _, hp, _, _ => by simp [pd] at hp
theorem reads_Ds (I : Inv X pins σ H s) (sb : Same G H) : ∀ {ds : List D} {vs : List V} {us : List Value}, pds ds = true → RelDs X.K cA G ds vs → Vals vs us → ∃ as, ReadsAll s.heap us (py.pys ds) as
  | [], _, _, _, h, r => by simp only [RelDs] at h; subst h; cases r; exact ⟨_, .nil⟩
  | x :: xs, _, _, hp, h, r => by
    simp only [RelDs] at h
    obtain ⟨u, rr, rfl, h1, h2⟩ := h
    simp only [pds, Bool.and_eq_true] at hp
    cases r with
    | cons r1 r2 =>
      obtain ⟨as, ra⟩ := reads_D I sb hp.1 h1 r1
      obtain ⟨bs, rb⟩ := reads_Ds I sb hp.2 h2 r2
      exact ⟨_, .cons ra rb⟩
end
theorem reads_S (I : Inv X pins σ H s) (sb : Same G H) {d : D} {v : V} {u : Value} (hp : pd d = true) (h : RelS X.K cA G H d v) (r : RelV v u) : ∃ as, Reads s.heap u (py d) as := by
  cases d with
  | lst xs =>
    obtain ⟨a, us, rfl, h1, h2⟩ := h
    cases r
    obtain ⟨its, rv, ⟨o, n, e1, e2, _, e3⟩, hz⟩ := I.list h1
    obtain ⟨as, ra⟩ := reads_Ds I sb (by simpa only [pd] using hp) h2 rv
    exact ⟨_, .list e1 e2 e3 (by simpa using ra)⟩
  | _ => exact reads_D (cA := cA) I sb hp h r
theorem shp_room {a b : D} {A : Around} (hu : A.units + 64 < cLine) (ha : shp a = true) (hb : shp b = true) : A.units + min (py a).depth (py b).depth < cLine := by
  simp only [shp, Bool.and_eq_true, decide_eq_true_eq] at ha hb
  have h1 := py_dep a
  omega
theorem shp_pd {a : D} (h : shp a = true) : pd a = true := by simp only [shp, Bool.and_eq_true] at h; exact h.1
/-- == -/
theorem op_eqS (hu : X.A.units + 64 < cLine) : OpR X (compareOp .Eq) (fun x y H Q => ∃ G a b, Same G H ∧ RelS X.K cA G H a x ∧ RelS X.K cA G H b y ∧ shp a = true ∧ shp b = true ∧ Q (.bl (eqD a b)) H) := by
  intro pins s σ H x y v u Q I rx ry ⟨G, a, b, sb, ra, rb, ha, hb, q⟩
  obtain ⟨as, r1⟩ := reads_S I sb (shp_pd ha) ra rx
  obtain ⟨bs, r2⟩ := reads_S I sb (shp_pd hb) rb ry
  refine SeqAt.compareEq_reads r1 r2 (py_lay _ (shp_pd ha)) (py_lay _ (shp_pd hb)) (shp_room hu ha hb) ⟨.bl _, H, I, rfl, ?_⟩
  rw [py_eq a b (shp_pd ha) (shp_pd hb)]
  exact q
theorem op_neS (hu : X.A.units + 64 < cLine) : OpR X (compareOp .NotEq) (fun x y H Q => ∃ G a b, Same G H ∧ RelS X.K cA G H a x ∧ RelS X.K cA G H b y ∧ shp a = true ∧ shp b = true ∧ Q (.bl (!eqD a b)) H) := by
  intro pins s σ H x y v u Q I rx ry ⟨G, a, b, sb, ra, rb, ha, hb, q⟩
  obtain ⟨as, r1⟩ := reads_S I sb (shp_pd ha) ra rx
  obtain ⟨bs, r2⟩ := reads_S I sb (shp_pd hb) rb ry
  refine SeqAt.compareNe_reads r1 r2 (py_lay _ (shp_pd ha)) (py_lay _ (shp_pd hb)) (shp_room hu ha hb) ⟨.bl _, H, I, rfl, ?_⟩
  rw [py_eq a b (shp_pd ha) (shp_pd hb)]
  exact q

/-! ### in -/
noncomputable def eqOn (h : Heap) (x : PyData) (y : Value) : Bool := by
  classical exact if hh : ∃ d as, Reads h y d as ∧ d.canLay0 = true then PyData.eqv hh.choose x else false
theorem eqOn_of {h : Heap} {x d : PyData} {y : Value} {as : List Addr} (r : Reads h y d as) (l : d.canLay0 = true) : eqOn h x y = PyData.eqv d x := by
  unfold eqOn
  have hh : ∃ d as, Reads h y d as ∧ d.canLay0 = true := ⟨d, as, r, l⟩
  rw [dif_pos hh]
  obtain ⟨as', r', l'⟩ := hh.choose_spec
  rw [SeqAt.Reads.unique _ _ _ _ _ l r r']
theorem shps_get : ∀ {ds : List D}, shps ds = true → ∀ d ∈ ds, shp d = true
  | x :: xs, h, d, hd => by
    simp only [shps, Bool.and_eq_true] at h
    rcases List.mem_cons.mp hd with rfl | hd
    · exact h.1
    · exact shps_get h.2 d hd
theorem each_eq (I : Inv X pins σ H s) (sb : Same G H) {x : D} {xu : Value} {bs : List Addr} (hx : shp x = true) (rx : Reads s.heap xu (py x) bs) {A : Around} (hu : A.units + 64 < cLine) :
    ∀ {ds : List D} {vs : List V} {us : List Value}, shps ds = true → RelDs X.K cA G ds vs → Vals vs us → (∀ y ∈ us, SeqAt.EqAt A s y xu (eqOn s.heap (py x) y)) ∧ us.any (eqOn s.heap (py x)) = memD x ds
  | [], _, _, _, h, r => by simp only [RelDs] at h; subst h; cases r; exact ⟨fun y hy => (by cases hy), rfl⟩
  | d :: ds, _, _, hp, h, r => by
    simp only [RelDs] at h
    obtain ⟨u, rr, rfl, h1, h2⟩ := h
    simp only [shps, Bool.and_eq_true] at hp
    cases r with
    | cons r1 r2 =>
      obtain ⟨as, ra⟩ := reads_D I sb (shp_pd hp.1) h1 r1
      obtain ⟨i1, i2⟩ := each_eq I sb hx rx hu hp.2 h2 r2
      have e := eqOn_of (x := py x) ra (py_lay _ (shp_pd hp.1))
      refine ⟨fun y hy => ?_, ?_⟩
      · rcases List.mem_cons.mp hy with rfl | hy
        · rw [e]
          exact SeqAt.eqAt_reads _ _ A s _ _ _ _ ra rx (py_lay _ (shp_pd hp.1)) (py_lay _ (shp_pd hx)) (shp_room hu hp.1 hx)
        · exact i1 y hy
      · rw [List.any_cons, i2, e, py_eq _ _ (shp_pd hp.1) (shp_pd hx), memD]
/-- x in a list, a tuple -/
theorem op_inS (neg : Bool) (hu : X.A.units + 65 < cLine) : OpR X (compareOp (if neg then .NotIn else .In)) (fun x y H Q => ∃ G a bs, Same G H ∧ RelS X.K cA G H a x ∧ (∃ p us, y = .ref p ∧ (SqL X.K H p us ∨ SqT X.K H p us) ∧ RelDs X.K cA G bs us) ∧ shp a = true ∧ shps bs = true ∧ Q (.bl (if neg then !memD a bs else memD a bs)) H) := by
  intro pins s σ H x y v u Q I rx ry ⟨G, a, bs, sb, ra, ⟨p, us, e, hq, rb⟩, ha, hb, q⟩
  subst e
  cases ry
  obtain ⟨as, r1⟩ := reads_S I sb (shp_pd ha) ra rx
  rcases hq with hq | hq
  · obtain ⟨its, rv, pl, hz⟩ := I.list hq
    obtain ⟨i1, i2⟩ := each_eq (A := X.A.in1) I sb ha r1 (by show X.A.units + 1 + 64 < cLine; omega) hb rb rv
    cases neg with
    | false => exact SeqAt.in_listAt (eqOn s.heap (py a)) pl.isList (fun w hw => i1 w (by simpa using hw)) ⟨.bl _, H, I, rfl, by rw [show its.toArray.any (eqOn s.heap (py a)) = its.any (eqOn s.heap (py a)) by simp, i2]; exact q⟩
    | true => exact SeqAt.notIn_listAt (eqOn s.heap (py a)) pl.isList (fun w hw => i1 w (by simpa using hw)) ⟨.bl _, H, I, rfl, by rw [show its.toArray.any (eqOn s.heap (py a)) = its.any (eqOn s.heap (py a)) by simp, i2]; exact q⟩
  · obtain ⟨its, rv, pl, hz⟩ := I.tuple hq
    obtain ⟨i1, i2⟩ := each_eq (A := X.A.in1) I sb ha r1 (by show X.A.units + 1 + 64 < cLine; omega) hb rb rv
    cases neg with
    | false => exact SeqAt.in_tupleAt (eqOn s.heap (py a)) pl (fun w hw => i1 w (by simpa using hw)) ⟨.bl _, H, I, rfl, by rw [show its.toArray.any (eqOn s.heap (py a)) = its.any (eqOn s.heap (py a)) by simp, i2]; exact q⟩
    | true => exact SeqAt.notIn_tupleAt (eqOn s.heap (py a)) pl (fun w hw => i1 w (by simpa using hw)) ⟨.bl _, H, I, rfl, by rw [show its.toArray.any (eqOn s.heap (py a)) = its.any (eqOn s.heap (py a)) by simp, i2]; exact q⟩
end
end Ev

end

section
set_option maxRecDepth 512
set_option Elab.async false
set_option linter.all false
set_option maxRecDepth 100000
set_option maxHeartbeats 4000000
namespace Ev
open PySem L2 PySem.Spec PyProof.Rows

section
variable {X : Cx} {cA : Cfg0} {pins : List (Addr × Obj)} {σ : L2.St} {s : Shared}
theorem of_some {K : PySem.W.Frag} {W : WX} {σ : L2.St} {G : Hp} {am : List Addr} {C : Cells} {H : Hp} {α β : Type} {Rl : WRel α β} {o : Option α} {Q : β → Hp → Prop} (h : Dn K cA Rl W σ (R.of o C) G am C H Q) : ∃ a, o = some a ∧ Dn K cA Rl W σ (.ok a C) G am C H Q := by
  cases o with
  | none => exact h.elim
  | some a => exact ⟨a, rfl, h⟩
/-- a value that shows something -/
def Sees (K : PySem.W.Frag) (cA : Cfg0) (G : Hp) (am : List Addr) (C : Cells) (H : Hp) (d : D) (v : V) : Prop := Wd K cA G am C H ∧ RelS K cA G H d v
/-- what a tree-valued answer asks of Q -/
def Ans (K : PySem.W.Frag) (cA : Cfg0) (G : Hp) (am : List Addr) (C : Cells) (H : Hp) (d : D) (Q : VK) : Prop :=
  ∀ G' am' H' v, Ext G am C H G' am' C H' → Wd K cA G' am' C H' → RelD K cA G' d v → Q v H'
theorem Ans.of {W : WX} {K : PySem.W.Frag} {G : Hp} {am : List Addr} {C : Cells} {H : Hp} {d : D} {Q : VK} (h : Dn K cA (rE K cA) W σ (.ok (.v d) C) G am C H Q) : Ans K cA G am C H d Q := fun G' am' H' v x w r => h G' am' H' v x w r
/-- .. that leaves the heap -/
theorem Ans.flat {K : PySem.W.Frag} {G : Hp} {am : List Addr} {C : Cells} {H : Hp} {d : D} {Q : VK} {v : V} (h : Ans K cA G am C H d Q) (wd : Wd K cA G am C H) (r : RelD K cA G d v) : Q v H := h G am H v Ext.refl wd r
/-- .. a new tuple -/
theorem Ans.tup {K : PySem.W.Frag} {G : Hp} {am : List Addr} {C : Cells} {H : Hp} {ds : List D} {us : List V} {Q : VK} (h : Ans K cA G am C H (.tup ds) Q) (wd : Wd K cA G am C H) (r : RelDs K cA G ds us) : ∀ p, H p = none → Q (.ref p) (upd H p (.tup us)) := fun p hp => by
  obtain ⟨w, x⟩ := wd.new hp (.tup us)
  exact h _ _ _ _ x w (by simp only [RelD]; exact ⟨p, us, rfl, SqT.of upd_same, r.mono x.g⟩)
/-- .. a new list -/
theorem Ans.lst {K : PySem.W.Frag} {G : Hp} {am : List Addr} {C : Cells} {H : Hp} {ds : List D} {us : List V} {Q : VK} (h : Ans K cA G am C H (.lst ds) Q) (wd : Wd K cA G am C H) (r : RelDs K cA G ds us) : ∀ p, H p = none → Q (.ref p) (upd H p (.lst us)) := fun p hp => by
  obtain ⟨w, x⟩ := wd.new hp (.lst us)
  exact h _ _ _ _ x w (by simp only [RelD]; exact ⟨p, us, rfl, SqL.of upd_same, r.mono x.g⟩)

/-! ### arithmetic -/
def bopO : Bop → Operator
  | .add => .Add
  | .sub => .Sub
  | .mul => .Mult
  | .fdiv => .FloorDiv
  | .mod => .Mod
  | .pow => .Pow
theorem T_add (a b : Nm) : T a ++ T b = T (a ++ b) := SX.S_cat a b
theorem T_len (a : Nm) : (T a).length = a.length := SX.S_len a
theorem line_eq : line = sizeLine := by rw [sizeLine_eq]
theorem op_bop (o : Bop) : OpR X (binaryOp (bopO o)) (fun x y H Q => ∃ G am C a b z, Wd X.K cA G am C H ∧ RelS X.K cA G H a x ∧ RelS X.K cA G H b y ∧ bopV o a b = some z ∧ Ans X.K cA G am C H z Q) := by
  intro pins s σ H x y v u Q I rx ry ⟨G, am, C, a, b, z, wd, ra, rb, e, q⟩
  have int : ∀ {i : Int} {v : V}, RelS X.K cA G H (.int i) v → v = .int i := fun h => by simpa only [RelS, RelD] using h
  have str : ∀ {i : Nm} {v : V}, RelS X.K cA G H (.str i) v → v = .str (T i) := fun h => by simpa only [RelS, RelD] using h
  unfold bopV at e
  split at e
  · cases e; exact op_add pins s σ H x y v u Q I rx ry ⟨_, _, int ra, int rb, q.flat wd (by simp only [RelD])⟩
  · split at e
    · rename_i hl
      cases e
      refine op_add_str pins s σ H x y v u Q I rx ry ⟨_, _, str ra, str rb, ?_, q.flat wd (by simp only [RelD, T_add])⟩
      rw [T_len, T_len, ← line_eq]; exact hl
    · cases e
  · split at e
    · rename_i hl
      cases e
      obtain ⟨p, us, rfl, h1, h2⟩ := ra
      obtain ⟨p', us', rfl, h1', h2'⟩ := rb
      cases rx
      cases ry
      obtain ⟨its, rv, pl, hz⟩ := I.list h1
      obtain ⟨its', rv', pl', hz'⟩ := I.list h1'
      have l1 := h2.length
      have l2 := h2'.length
      have l3 := rv.length
      have l4 := rv'.length
      have hsz : its.length + its'.length ≤ sizeLine := by rw [← line_eq]; omega
      obtain ⟨⟨cls, dd, data, sl⟩, ho, hc, n, hd⟩ := pl.isList
      obtain ⟨⟨cls2, dd2, data2, sl2⟩, ho2, hc2, n2, hd2⟩ := pl'.isList
      simp only at hc hd hc2 hd2
      subst hc hd hc2 hd2
      refine concat_meets ⟨_, ho, rfl⟩ ⟨_, ho2, rfl⟩ noFill_list_add seq_list_add PySem.F.slot_list_add PySem.F.entry_list_add (PySem.F.args_list_add_2 _ _) (list_addW p p' its.toArray its'.toArray n n2 dd dd2 sl sl2 (by simpa using hsz)) ⟨ho, ho2, ?_⟩
      rw [show its.toArray ++ its'.toArray = (its ++ its').toArray by simp]
      exact ⟨.ref _, _, I.lnew (t' := s.toks) (rv.append rv') (by rw [List.length_append, l3, l4]; exact hsz), rfl, q.lst wd (h2.append h2') _ I.fresh⟩
    · cases e
  · split at e
    · rename_i hl
      cases e
      simp only [RelS, RelD] at ra rb
      obtain ⟨p, us, rfl, h1, h2⟩ := ra
      obtain ⟨p', us', rfl, h1', h2'⟩ := rb
      cases rx
      cases ry
      have h1 := Same.sqt wd.sub h1
      have h1' := Same.sqt wd.sub h1'
      obtain ⟨its, rv, pl, hz⟩ := I.tuple h1
      obtain ⟨its', rv', pl', hz'⟩ := I.tuple h1'
      have l1 := h2.length
      have l2 := h2'.length
      have l3 := rv.length
      have l4 := rv'.length
      have hsz : its.length + its'.length ≤ sizeLine := by rw [← line_eq]; omega
      obtain ⟨⟨cls, dd, data, sl⟩, ho, hc, n, hd⟩ := id pl
      obtain ⟨⟨cls2, dd2, data2, sl2⟩, ho2, hc2, n2, hd2⟩ := id pl'
      simp only at hc hd hc2 hd2
      subst hc hd hc2 hd2
      by_cases e1 : its = []
      · subst e1
        refine concat_meets ⟨_, ho, rfl⟩ ⟨_, ho2, rfl⟩ noFill_tuple_add seq_tuple_add PySem.F.slot_tuple_add PySem.F.entry_tuple_add (PySem.F.args_tuple_add_2 _ _) (tuple_addW0 p p' [].toArray its'.toArray n n2 dd dd2 sl sl2 (by simp)) ⟨ho, ho2, ?_⟩
        have en := List.length_eq_zero_iff.mp (l1.trans l3)
        subst en
        exact ⟨.ref p', H, I, rfl, q.flat wd (by simp only [List.nil_append, RelD]; exact ⟨p', us', rfl, by assumption, h2'⟩)⟩
      · by_cases e2 : its' = []
        · subst e2
          refine concat_meets ⟨_, ho, rfl⟩ ⟨_, ho2, rfl⟩ noFill_tuple_add seq_tuple_add PySem.F.slot_tuple_add PySem.F.entry_tuple_add (PySem.F.args_tuple_add_2 _ _) (tuple_addW1 p p' its.toArray [].toArray n n2 dd dd2 sl sl2 (by simpa using e1) (by simp)) ⟨ho, ho2, ?_⟩
          have en := List.length_eq_zero_iff.mp (l2.trans l4)
          subst en
          exact ⟨.ref p, H, I, rfl, q.flat wd (by simp only [List.append_nil, RelD]; exact ⟨p, us, rfl, by assumption, h2⟩)⟩
        · refine concat_meets ⟨_, ho, rfl⟩ ⟨_, ho2, rfl⟩ noFill_tuple_add seq_tuple_add PySem.F.slot_tuple_add PySem.F.entry_tuple_add (PySem.F.args_tuple_add_2 _ _) (tuple_addW2 p p' its.toArray its'.toArray n n2 dd dd2 sl sl2 (by simpa using e1) (by simpa using e2) (by simpa using hsz)) ⟨ho, ho2, ?_⟩
          rw [show its.toArray ++ its'.toArray = (its ++ its').toArray by simp]
          refine ⟨.ref _, _, I.laid (t' := s.toks) (o := .tup (us ++ us')) (fun b u e => Heap.get?_push_of_some _ e) (Nat.le_refl _) ?_, rfl, q.tup wd (h2.append h2') _ I.fresh⟩
          exact ⟨by rw [List.length_append, l3, l4]; exact hsz, _, rv.append rv', ⟨_, Heap.get?_push_size _ rfl, rfl, _, rfl⟩⟩
    · cases e
  · cases e; exact op_sub pins s σ H x y v u Q I rx ry ⟨_, _, int ra, int rb, q.flat wd (by simp only [RelD])⟩
  · split at e
    · rename_i hs
      cases e
      refine op_mul pins s σ H x y v u Q I rx ry ⟨_, _, int ra, int rb, ?_, q.flat wd (by simp only [RelD])⟩
      simp only [smallI, Bool.or_eq_true, decide_eq_true_eq] at hs
      exact hs
    · cases e
  · split at e
    · rename_i hs
      cases e
      exact op_fdiv pins s σ H x y v u Q I rx ry ⟨_, _, int ra, int rb, hs, q.flat wd (by simp only [RelD])⟩
    · cases e
  · split at e
    · rename_i hs
      cases e
      exact op_mod pins s σ H x y v u Q I rx ry ⟨_, _, int ra, int rb, hs, q.flat wd (by simp only [RelD])⟩
    · cases e
  · split at e
    · rename_i hs
      cases e
      exact op_pow pins s σ H x y v u Q I rx ry ⟨_, _, int ra, int rb, hs, q.flat wd (by simp only [RelD])⟩
    · cases e
  · cases e

/-! ### comparisons -/
def copO : Cop → CmpOp
  | .eq => .Eq
  | .ne => .NotEq
  | .lt => .Lt
  | .le => .LtE
  | .gt => .Gt
  | .ge => .GtE
  | .isin => .In
  | .notin => .NotIn
theorem RelS.seq {K : PySem.W.Frag} {G H : Hp} {xs : List D} {v : V} (sb : Same G H) : RelS K cA G H (.lst xs) v → ∃ p us, v = .ref p ∧ (SqL K H p us ∨ SqT K H p us) ∧ RelDs K cA G xs us := fun ⟨p, us, e, h1, h2⟩ => ⟨p, us, e, .inl h1, h2⟩
theorem RelS.seqT {K : PySem.W.Frag} {G H : Hp} {xs : List D} {v : V} (sb : Same G H) : RelS K cA G H (.tup xs) v → ∃ p us, v = .ref p ∧ (SqL K H p us ∨ SqT K H p us) ∧ RelDs K cA G xs us := fun h => by
  simp only [RelS, RelD] at h
  obtain ⟨p, us, e, h1, h2⟩ := h
  exact ⟨p, us, e, .inr (Same.sqt sb h1), h2⟩
theorem occ_one (y : Nm) (c : Nat) : (!(Builtin.Str.occurrences (T y) (T [c]) 0 (T y).length 1).isEmpty) = decide (c ∈ y) := by
  have := StrLaws.found_one (T y) c
  simpa [T] using this
theorem op_cop (o : Cop) (hu : X.A.units + 65 < cLine) : OpR X (compareOp (copO o)) (fun x y H Q => ∃ G am C a b z, Wd X.K cA G am C H ∧ RelS X.K cA G H a x ∧ RelS X.K cA G H b y ∧ copV o a b = some z ∧ Q (.bl z) H) := by
  intro pins s σ H x y v u Q I rx ry ⟨G, am, C, a, b, z, wd, ra, rb, e, q⟩
  have int : ∀ {i : Int} {v : V}, RelS X.K cA G H (.int i) v → v = .int i := fun h => by simpa only [RelS, RelD] using h
  have str : ∀ {i : Nm} {v : V}, RelS X.K cA G H (.str i) v → v = .str (T i) := fun h => by simpa only [RelS, RelD] using h
  unfold copV at e
  split at e
  · split at e
    · rename_i hs; cases e
      rw [Bool.and_eq_true] at hs
      exact op_eqS (cA := cA) (by omega) pins s σ H x y v u Q I rx ry ⟨G, _, _, wd.sub, ra, rb, hs.1, hs.2, q⟩
    · cases e
  · split at e
    · rename_i hs; cases e
      rw [Bool.and_eq_true] at hs
      exact op_neS (cA := cA) (by omega) pins s σ H x y v u Q I rx ry ⟨G, _, _, wd.sub, ra, rb, hs.1, hs.2, q⟩
    · cases e
  · cases e; exact op_lt pins s σ H x y v u Q I rx ry ⟨_, _, int ra, int rb, q⟩
  · cases e; exact op_le pins s σ H x y v u Q I rx ry ⟨_, _, int ra, int rb, q⟩
  · cases e; exact op_gt pins s σ H x y v u Q I rx ry ⟨_, _, int ra, int rb, q⟩
  · cases e; exact op_ge pins s σ H x y v u Q I rx ry ⟨_, _, int ra, int rb, q⟩
  · split at e
    · rename_i hs; cases e
      rw [Bool.and_eq_true] at hs
      exact op_inS (cA := cA) false hu pins s σ H x y v u Q I rx ry ⟨G, _, _, wd.sub, ra, rb.seqT wd.sub, hs.1, hs.2, q⟩
    · cases e
  · split at e
    · rename_i hs; cases e
      rw [Bool.and_eq_true] at hs
      exact op_inS (cA := cA) false hu pins s σ H x y v u Q I rx ry ⟨G, _, _, wd.sub, ra, rb.seq wd.sub, hs.1, hs.2, q⟩
    · cases e
  · cases e; exact op_in_str pins s σ H x y v u Q I rx ry ⟨_, _, str ra, str rb, by rw [occ_one]; exact q⟩
  · split at e
    · rename_i hs; cases e
      rw [Bool.and_eq_true] at hs
      exact op_inS (cA := cA) true hu pins s σ H x y v u Q I rx ry ⟨G, _, _, wd.sub, ra, rb.seqT wd.sub, hs.1, hs.2, q⟩
    · cases e
  · split at e
    · rename_i hs; cases e
      rw [Bool.and_eq_true] at hs
      exact op_inS (cA := cA) true hu pins s σ H x y v u Q I rx ry ⟨G, _, _, wd.sub, ra, rb.seq wd.sub, hs.1, hs.2, q⟩
    · cases e
  · cases e; exact op_notin_str pins s σ H x y v u Q I rx ry ⟨_, _, str ra, str rb, by rw [occ_one]; exact q⟩
  · cases e
end
end Ev

end

section
set_option maxRecDepth 512
set_option Elab.async false
set_option linter.all false
set_option maxRecDepth 100000
set_option maxHeartbeats 4000000
namespace Ev
open PySem L2 PySem.Spec PyProof.Rows

section
variable {X : Cx} {cA : Cfg0} {pins : List (Addr × Obj)} {σ : L2.St} {s : Shared}
/-! ### a[i] -/
theorem ixN_eq (n : Nat) (i : Int) : Ev.ixN n i = L2.ixN n i := rfl
theorem atD_get {K : PySem.W.Frag} {G : Hp} {xs : List D} {us : List V} {i : Int} {z : D} (r : RelDs K cA G xs us) (h : atD xs i = some z) : ∃ v, atI us i = some v ∧ RelD K cA G z v := by
  unfold atD at h
  cases e : Ev.ixN xs.length i with
  | none => rw [e] at h; cases h
  | some j =>
    rw [e] at h
    obtain ⟨v, h1, h2⟩ := r.get (i := j) h
    refine ⟨v, ?_, h2⟩
    unfold atI
    rw [← r.length, ← ixN_eq, e]
    exact h1
theorem ix_ok : IxR X (fun x y H Q => ∃ G am C a b z, Wd X.K cA G am C H ∧ RelS X.K cA G H a x ∧ RelS X.K cA G H b y ∧ idxV a b = some z ∧ Ans X.K cA G am C H z Q) := by
  intro value slice pins s σ H x y v u Q I rx ry ⟨G, am, C, a, b, z, wd, ra, rb, e, q⟩ hs
  have int : ∀ {i : Int} {v : V}, RelS X.K cA G H (.int i) v → v = .int i := fun h => by simpa only [RelS, RelD] using h
  unfold idxV at e
  split at e
  · simp only [RelS, RelD] at ra
    obtain ⟨p, us, rfl, h1, h2⟩ := ra
    obtain ⟨w, e1, e2⟩ := atD_get h2 e
    exact ix_tup value slice pins s σ H _ y v u Q I rx ry ⟨p, us, _, w, rfl, int rb, Same.sqt wd.sub h1, e1, q.flat wd e2⟩ hs
  · obtain ⟨p, us, rfl, h1, h2⟩ := ra
    obtain ⟨w, e1, e2⟩ := atD_get h2 e
    exact ix_list value slice pins s σ H _ y v u Q I rx ry ⟨p, us, _, w, rfl, int rb, h1, e1, q.flat wd e2⟩ hs
  · split at e
    · rename_i hl
      have e' := e
      simp only [RelS, RelD] at ra
      subst ra
      cases ej : Ev.ixN _ _ with
      | none => rw [ej] at e'; cases e'
      | some j =>
        rw [ej] at e'
        simp only [Option.bind_some, Option.map_eq_some_iff] at e'
        obtain ⟨c, hc, rfl⟩ := e'
        refine ix_str value slice pins s σ H _ y v u Q I rx ry ⟨_, _, c, rfl, int rb, by rw [T_len, ← line_eq]; exact hl, ?_, q.flat wd (by simp only [RelD])⟩ hs
        unfold atI
        rw [show (T _).cps.toList = _ from rfl, ← ixN_eq, ej]
        exact hc
    · cases e
  · cases e

/-! ### slices -/
theorem sIx_eq : Ev.sIx = HT.sIx := by
  funext n d o
  cases o <;> rfl
theorem cut_rel {K : PySem.W.Frag} {G : Hp} {xs : List D} {us : List V} (r : RelDs K cA G xs us) (lo hi : Option Int) : RelDs K cA G (cutL xs lo hi) (cutV us lo hi) := by
  unfold cutL cutV
  rw [← r.length, sIx_eq]
  exact (r.drop _).take _
theorem sl_ok : SlR X (fun x lo hi H Q => ∃ G am C a z, Wd X.K cA G am C H ∧ RelS X.K cA G H a x ∧ slV a lo hi = some z ∧ Ans X.K cA G am C H z Q) := by
  intro pins s σ H x v vl vu lo hi sl Q I rx hs pl pu ⟨G, am, C, a, z, wd, ra, e, q⟩
  unfold slV at e
  split at e
  · split at e
    · cases e
    · rename_i hw
      cases e
      simp only [RelS, RelD] at ra
      obtain ⟨p, us, rfl, h1, h2⟩ := ra
      refine sl_tup pins s σ H _ v vl vu lo hi sl Q I rx hs pl pu ⟨p, us, rfl, Same.sqt wd.sub h1, ?_, q.tup wd (cut_rel h2 lo hi)⟩
      rw [← h2.length, ← sIx_eq]; exact hw
  · cases e
    obtain ⟨p, us, rfl, h1, h2⟩ := ra
    exact sl_list pins s σ H _ v vl vu lo hi sl Q I rx hs pl pu ⟨p, us, rfl, h1, q.lst wd (cut_rel h2 lo hi)⟩
  · split at e
    · rename_i hl
      cases e
      simp only [RelS, RelD] at ra
      subst ra
      refine sl_str pins s σ H _ v vl vu lo hi sl Q I rx hs pl pu ⟨_, rfl, by rw [T_len, ← line_eq]; exact hl, ?_⟩
      refine q.flat wd ?_
      simp only [RelD]
      unfold cutS cutL
      rw [T_len, sIx_eq]
    · cases e
  · cases e

/-! ### truth -/
theorem tru_rel {G H : Hp} {d : D} {v : V} {b : Bool} (sb : Same G H) (r : RelS X.K cA G H d v) (e : truV d = some b) : TruV X.K v H b := by
  cases d with
  | non => simp only [RelS, RelD] at r; subst r; cases e; rfl
  | bl c => simp only [RelS, RelD] at r; subst r; cases e; rfl
  | int i => simp only [RelS, RelD] at r; subst r; cases e; rfl
  | str x =>
    simp only [RelS, RelD] at r; subst r
    simp only [truV] at e
    split at e
    · rename_i hl
      cases e
      refine ⟨by rw [T_len, ← line_eq]; exact hl, ?_⟩
      rw [T_len]
      cases x with
      | nil => rfl
      | cons a r =>
        have : ((a :: r).length : Int) ≠ 0 := by simp; omega
        rw [bne_iff_ne.mpr this]
        rfl
    · cases e
  | tup xs =>
    simp only [RelS, RelD] at r
    obtain ⟨p, us, rfl, h1, h2⟩ := r
    cases e
    refine .inr (.inl ⟨us, Same.sqt sb h1, ?_⟩)
    have l := h2.length
    cases xs <;> cases us <;> simp_all
  | lst xs =>
    obtain ⟨p, us, rfl, h1, h2⟩ := r
    cases e
    refine .inl ⟨us, h1, ?_⟩
    have l := h2.length
    cases xs <;> cases us <;> simp_all
  | dct kvs => simp only [RelS, RelD] at r
  | ins c fs => cases e

/-! ### built-in functions of values -/
def RelSs (K : PySem.W.Frag) (cA : Cfg0) (G H : Hp) : List D → List V → Prop
  | [], vs => vs = []
  | d :: ds, vs => ∃ v r, vs = v :: r ∧ RelS K cA G H d v ∧ RelSs K cA G H ds r
theorem sees_rel {K : PySem.W.Frag} {G : Hp} {am : List Addr} {C : Cells} {H : Hp} (wd : Wd K cA G am C H) : ∀ {es : List E} {vs : List V} {ds : List D}, RelEs K cA G am es vs → sees C es = some ds → RelSs K cA G H ds vs
  | [], vs, ds, h, e => by cases e; exact h
  | x :: xs, vs, ds, h, e => by
    obtain ⟨v, r, rfl, h1, h2⟩ := h
    simp only [sees] at e
    cases e1 : see C x with
    | none => rw [e1] at e; cases e
    | some d =>
      cases e2 : sees C xs with
      | none => rw [e1, e2] at e; cases e
      | some ds' =>
        rw [e1, e2] at e; cases e
        exact ⟨v, r, rfl, see_rel wd h1 e1, sees_rel wd h2 e2⟩
theorem vals_rel {K : PySem.W.Frag} {G : Hp} {am : List Addr} : ∀ {es : List E} {vs : List V} {ds : List D}, RelEs K cA G am es vs → vals es = some ds → RelDs K cA G ds vs
  | [], vs, ds, h, e => by cases e; simp only [RelDs]; exact h
  | .v d :: xs, vs, ds, h, e => by
    obtain ⟨v, r, rfl, h1, h2⟩ := h
    simp only [vals, Option.map_eq_some_iff] at e
    obtain ⟨ds', e', rfl⟩ := e
    simp only [RelDs]
    exact ⟨v, r, rfl, h1, vals_rel h2 e'⟩
  | .r n :: xs, vs, ds, h, e => by cases e
  | .clo n :: xs, vs, ds, h, e => by cases e
  | .exn n _ :: xs, vs, ds, h, e => by cases e
theorem bools_rel {K : PySem.W.Frag} {G : Hp} : ∀ {ds : List D} {vs : List V} {bs : List Bool}, RelDs K cA G ds vs → bools ds = some bs → vs = bs.map V.bl
  | [], _, _, h, e => by cases e; simp only [RelDs] at h; exact h
  | d :: ds, _, _, h, e => by
    simp only [RelDs] at h
    obtain ⟨u, r, rfl, h1, h2⟩ := h
    cases d <;> first | (simp only [bools] at e; cases e; done) | skip
    case bl b =>
      simp only [bools, Option.map_eq_some_iff] at e
      obtain ⟨bs, e', rfl⟩ := e
      simp only [RelD] at h1
      rw [h1, bools_rel h2 e', List.map_cons]
theorem ints_rel {K : PySem.W.Frag} {G : Hp} : ∀ {ds : List D} {vs : List V} {bs : List Int}, RelDs K cA G ds vs → intsD ds = some bs → vs = bs.map V.int
  | [], _, _, h, e => by cases e; simp only [RelDs] at h; exact h
  | d :: ds, _, _, h, e => by
    simp only [RelDs] at h
    obtain ⟨u, r, rfl, h1, h2⟩ := h
    cases d <;> first | (simp only [intsD] at e; cases e; done) | skip
    case int b =>
      simp only [intsD, Option.map_eq_some_iff] at e
      obtain ⟨bs, e', rfl⟩ := e
      simp only [RelD] at h1
      rw [h1, ints_rel h2 e', List.map_cons]
def biN : Bi → String
  | .len => "len"
  | .int => "int"
  | .list => "list"
  | .tuple => "tuple"
  | .any => "any"
  | .all => "all"
  | .max => "max"
  | .min => "min"
  | .sum => "sum"
def biF : Bi → Value
  | .int => .type "int"
  | .list => .type "list"
  | .tuple => .type "tuple"
  | b => .builtin (biN b)
theorem biBoot (b : Bi) : bootBuiltins (biN b) = some (biF b) := by
  cases b
  · exact PySem.boot_len
  · exact PyProof.Rows.boot_int
  · exact PyProof.Rows.boot_list
  · exact PyProof.Rows.boot_tuple
  · exact PyProof.Rows.boot_any
  · exact PyProof.Rows.boot_all
  · exact PyProof.Rows.boot_max
  · exact PyProof.Rows.boot_min
  · exact PyProof.Rows.boot_sum
/-- which are known where an exception is handled -/
def biHot : Bi → Bool
  | .any | .all | .max | .min | .sum => false
  | _ => true
def rBi (X : Cx) (cA : Cfg0) (b : Bi) : List V → Hp → VK → Prop := fun xs H Q => ∃ G am C ds z, Wd X.K cA G am C H ∧ RelSs X.K cA G H ds xs ∧ biV b ds = some z ∧ Ans X.K cA G am C H z Q
theorem bi_ok (b : Bi) (hc : biHot b = true ∨ X.calm = true) : CallR X (biF b) (rBi X cA b) := by
  intro pins s σ H xs us Q I rs ⟨G, am, C, ds, z, wd, r, e, q⟩
  have one : ∀ {d : D}, RelSs X.K cA G H [d] xs → ∃ v, xs = [v] ∧ RelS X.K cA G H d v := fun h => by
    obtain ⟨v, rr, e1, h1, h2⟩ := h
    exact ⟨v, by rw [e1, show rr = [] from h2], h1⟩
  have two : ∀ {d d' : D}, RelSs X.K cA G H [d, d'] xs → ∃ v v', xs = [v, v'] ∧ RelS X.K cA G H d v ∧ RelS X.K cA G H d' v' := fun h => by
    obtain ⟨v, rr, e1, h1, v', r', e2, h2, h3⟩ := h
    exact ⟨v, v', by rw [e1, e2, show r' = [] from h3], h1, h2⟩
  have int : ∀ {i : Int} {v : V}, RelS X.K cA G H (.int i) v → v = .int i := fun h => by simpa only [RelS, RelD] using h
  unfold biV at e
  split at e
  · cases e
    obtain ⟨v, rfl, h⟩ := one r
    simp only [RelS, RelD] at h
    obtain ⟨p, us', rfl, h1, h2⟩ := h
    exact call_len_seq pins s σ H _ us Q I rs ⟨p, us', rfl, .inr (Same.sqt wd.sub h1), q.flat wd (by simp only [RelD]; rw [h2.length])⟩
  · cases e
    obtain ⟨v, rfl, h⟩ := one r
    obtain ⟨p, us', rfl, h1, h2⟩ := h
    exact call_len_seq pins s σ H _ us Q I rs ⟨p, us', rfl, .inl h1, q.flat wd (by simp only [RelD]; rw [h2.length])⟩
  · split at e
    · rename_i hl
      cases e
      obtain ⟨v, rfl, h⟩ := one r
      simp only [RelS, RelD] at h; subst h
      exact call_len_str pins s σ H _ us Q I rs ⟨_, rfl, by rw [T_len, ← line_eq]; exact hl, q.flat wd (by simp only [RelD]; rw [T_len])⟩
    · cases e
  · cases e
    obtain ⟨v, rfl, h⟩ := one r
    have h := int h; subst h
    exact call_int1 pins s σ H _ us Q I rs (.inl ⟨_, rfl, q.flat wd (by simp only [RelD])⟩)
  · cases e
    obtain ⟨v, rfl, h⟩ := one r
    simp only [RelS, RelD] at h; subst h
    exact call_int1 pins s σ H _ us Q I rs (.inr ⟨_, rfl, q.flat wd (by simp only [RelD])⟩)
  · cases e
    obtain ⟨v, rfl, h⟩ := one r
    simp only [RelS, RelD] at h
    obtain ⟨p, us', rfl, h1, h2⟩ := h
    exact call_list_of pins s σ H _ us Q I rs ⟨p, us', rfl, .inr (Same.sqt wd.sub h1), q.lst wd h2⟩
  · cases e
    obtain ⟨v, rfl, h⟩ := one r
    obtain ⟨p, us', rfl, h1, h2⟩ := h
    exact call_list_of pins s σ H _ us Q I rs ⟨p, us', rfl, .inl h1, q.lst wd h2⟩
  · cases e
    obtain ⟨v, rfl, h⟩ := one r
    have h' := h
    simp only [RelS, RelD] at h
    obtain ⟨p, us', rfl, h1, h2⟩ := h
    refine call_tuple_of pins s σ H _ us Q I rs ⟨p, us', rfl, .inr ⟨Same.sqt wd.sub h1, q.flat wd h'⟩⟩
  · cases e
    obtain ⟨v, rfl, h⟩ := one r
    obtain ⟨p, us', rfl, h1, h2⟩ := h
    exact call_tuple_of pins s σ H _ us Q I rs ⟨p, us', rfl, .inl ⟨h1, q.tup wd h2⟩⟩
  · simp only [Option.map_eq_some_iff] at e
    obtain ⟨bs, e, rfl⟩ := e
    obtain ⟨v, rfl, h⟩ := one r
    obtain ⟨p, us', rfl, h1, h2⟩ := h
    have hb := bools_rel h2 e; subst hb
    exact cr_any (hc.resolve_left (by decide)) pins s σ H _ us Q I rs ⟨p, bs, rfl, h1, q.flat wd (by simp only [RelD])⟩
  · simp only [Option.map_eq_some_iff] at e
    obtain ⟨bs, e, rfl⟩ := e
    obtain ⟨v, rfl, h⟩ := one r
    obtain ⟨p, us', rfl, h1, h2⟩ := h
    have hb := bools_rel h2 e; subst hb
    exact cr_all (hc.resolve_left (by decide)) pins s σ H _ us Q I rs ⟨p, bs, rfl, h1, q.flat wd (by simp only [RelD])⟩
  · cases e
    obtain ⟨v, v', rfl, h, h'⟩ := two r
    have h := int h; subst h
    have h' := int h'; subst h'
    exact call_max2 (hc.resolve_left (by decide)) pins s σ H _ us Q I rs ⟨_, _, rfl, q.flat wd (by simp only [RelD])⟩
  · cases e
    obtain ⟨v, v', rfl, h, h'⟩ := two r
    have h := int h; subst h
    have h' := int h'; subst h'
    exact call_min2 (hc.resolve_left (by decide)) pins s σ H _ us Q I rs ⟨_, _, rfl, q.flat wd (by simp only [RelD])⟩
  · simp only [Option.map_eq_some_iff] at e
    obtain ⟨bs, e, rfl⟩ := e
    obtain ⟨v, rfl, h⟩ := one r
    obtain ⟨p, us', rfl, h1, h2⟩ := h
    have hb := ints_rel h2 e; subst hb
    exact cr_sum (hc.resolve_left (by decide)) pins s σ H _ us Q I rs ⟨p, bs, rfl, h1, q.flat wd (by simp only [RelD])⟩
  · cases e
end
end Ev

end

section
set_option maxRecDepth 512
set_option Elab.async false
set_option linter.all false
set_option maxRecDepth 100000
set_option maxHeartbeats 4000000
namespace Ev
open PySem L2 PySem.Spec PyProof.Rows

/-! ### what the text looks like -/
structure Tab where
  fn : List Nm
  cl : List Nm
  gl : List Nm
structure Sx where
  N : List Nm
  sc : Scope
  hot : Bool
  top : Bool
  lam : Bool
  exc : Bool
  st : List Nm
def plainX : Expr → Bool
  | .Starred .. => false
  | .Slice .. => false
  | .Set .. => false
  | .NamedExpr .. => false
  | _ => true
def attrX : Expr → Bool
  | .Call (.Name _ _) [] [] _ => false
  | _ => true
def noComp : Expr → Bool
  | .ListComp .. => false
  | .SetComp .. => false
  | .DictComp .. => false
  | _ => true
def testX : Expr → Bool
  | .UnaryOp .Not _ _ => false
  | .BoolOp .. => false
  | .IfExp .. => false
  | .Compare .. => false
  | _ => true
theorem star_cons {e : Expr} {es : List Expr} {env : PySem.Env} (h : plainX e = true) : starEach (e :: es) env = (false, eval e env) :: starEach es env := by
  cases e <;> first | rfl | (simp [plainX] at h)
theorem star_any0 {pos : Pos} {env : PySem.Env} : ∀ {es : List Expr}, es.all plainX = true → (backTo pos (starEach es env)).any (·.1) = false
  | [], _ => rfl
  | e :: es, h => by
    rw [List.all_cons, Bool.and_eq_true] at h
    rw [star_cons h.1]
    exact star_any0 h.2
theorem attr_base {e : Expr} {a : Str} {env : PySem.Env} {whole : Sem Value} (h : attrX e = true) : attributeBase e a env whole = whole := by
  unfold attributeBase
  split
  · simp [attrX] at h
  · rfl
theorem sw_plain {e : Expr} {t : Option Expr} {l : Nat} {env : PySem.Env} (h : noComp e = true) : swapsWith e t l env = pure false := by
  cases e <;> first | rfl | (simp [noComp] at h)
theorem ix_plain {e : Expr} (h : plainX e = true) : PlainIx e := by
  intro o i
  cases e <;> first | rfl | (simp [plainX] at h)
theorem test_plain {e : Expr} {env : PySem.Env} (h : testX e = true) : ∀ whole, isTrue e env whole = (do let v ← whole; standAt e.pos; holding [v] (truthy v)) := by
  intro whole
  cases e with
  | UnaryOp op x p => cases op <;> first | rfl | (simp [testX] at h)
  | BoolOp => simp [testX] at h
  | IfExp => simp [testX] at h
  | Compare => simp [testX] at h
  | _ => rfl
theorem folded_plain {e : Expr} {env : PySem.Env} (h : plainX e = true) : ∀ x, foldedSetIterable e env x = pure x := by
  intro x
  cases e <;> first | rfl | (simp [plainX] at h)

def nmAt (N : List Nm) (i : Nat) (x : Str) : Bool := decide (N[i]?.map T = some x)
def visB (sc : Scope) (x : Str) : Bool := match sc.names.lookup x with
  | some .local => true
  | some .cell => true
  | some .free => true
  | _ => false
def nmOk (x : Str) : Bool := !(x == ("__debug__" : Str)) && !(x == ("__classdict__" : Str)) && decide (x ≠ "__name__")
def glB (sc : Scope) (x : Str) : Bool := decide (sc.names.lookup x = some .globalImplicit) && nmOk x
theorem visB_ok {sc : Scope} {x : Str} (h : visB sc x = true) : Vis sc x := by
  unfold visB at h
  split at h
  · exact .inl (by assumption)
  · exact .inr (.inl (by assumption))
  · exact .inr (.inr (by assumption))
  · cases h

/-! ### a context that bears the evaluator's readings -/
structure Gd (sx : Sx) (k : Nat) (W : WX) (X : Cx) : Prop where
  N : X.N = sx.N.map T
  nd : X.N.Nodup
  sc : X.env.scope = sx.sc
  un : X.A.units + 65 < cLine
  tk : Takes X W
  calm : sx.hot = false → X.calm = true
  room : sx.hot = false → Room k X.A
  top : sx.top = true → X.stack = X.env :: X.outer ∧ X.env.frame = some X.env.locals
  own : sx.top = true → sx.hot = false → PassesOwn (model X.prog X.w) X.A X.env X.xe
  stb : ∀ x ∈ sx.st, Loc X.env.scope (T x) ∧ (X.fn (T x) = true ∨ X.env.scope.names.lookup (T x) = some .local)
theorem Gd.at {sx : Sx} {k : Nat} {W : WX} {X : Cx} (g : Gd sx k W X) {i : Nat} {x : Str} (h : nmAt sx.N i x = true) : X.N[i]? = some x := by
  unfold nmAt at h
  rw [g.N, List.getElem?_map]
  exact of_decide_eq_true h
theorem Gd.gl {sx : Sx} {k : Nat} {W : WX} {X : Cx} (g : Gd sx k W X) {x : Str} (h : glB sx.sc x = true) : Gl X x ∧ (x == ("__debug__" : Str)) = false ∧ x ≠ "__name__" := by
  unfold glB nmOk at h
  simp only [Bool.and_eq_true, Bool.not_eq_true', decide_eq_true_eq] at h
  refine ⟨?_, h.2.1.1, h.2.2⟩
  show X.env.scope.names.lookup x = _
  rw [g.sc]; exact h.1

/-- what a def of the text promises: what the evaluator's call says -/
def spF (K : PySem.W.Frag) (cA : Cfg0) (call : Nat → List E → Cells → R E) (f : Nat) : Sp := fun vs H Q Ex =>
  ∃ es G am C, Wd K cA G am C H ∧ RelEs K cA G am es vs ∧ Dn K cA (rE K cA) (fun cls dd _ H => Ex cls dd H) [] (call f es C) G am C H Q
/-- __init__ of an own exception: it keeps what it is given, by the names fl -/
def spI (C : Addr) (fl : List Nm) : Sp := fun vs H Q _ => ∃ a xs, vs = .ref a :: xs ∧ xs.length = fl.length ∧ fl ≠ [] ∧ H a = some (L2.exo a C none) ∧
  ∀ dx, H dx = none → dx ≠ a → Q .non (L2.upd (L2.upd H dx (L2.exd dx ((fl.map T).zip xs).reverse)) a (L2.exo a C (some dx)))
structure Facts (P : Program) (w : World) (K : PySem.W.Frag) (mg : Str → Option Value) (base : Heap) (cA : Cfg0) (pr : Prog) (tb : Tab) (k : Nat) (call : Nat → List E → Cells → R E) : Prop where
  fn : ∀ (f : Nat) (nm : Nm), tb.fn[f]? = some nm → nm ≠ [] → ∃ fa fd ps, mg (T nm) = some (.ref fa) ∧ PySem.W.keepIn K (.ref fa) = true ∧ Binds K fd ps [] ∧ FnOk P w K mg base (L2.CX P w) k fa fd ps (spF K cA call f)
  bi : ∀ b : Bi, mg (biN b) = none
  cn : ∀ (c : Nat) (nm : Nm), tb.cl[c]? = some nm → nm ≠ [] → ∃ C, cA.cls c = some C ∧ mg (T nm) = some (.ref C)
  /-- the classes that may be raised -/
  xr : ∀ (c : Nat) (cl : Cl) (C : Addr), pr.cls[c]? = some cl → cl.flds ≠ [] → cA.cls c = some C → L2.OexC K C ∧ L2.XfC K C ∧ cl.flds.Nodup ∧ (∀ f ∈ cl.flds, PySem.W.findIn K (.ref C) (T f) = some none) ∧
    ∃ fI fd ps, PySem.W.findIn K (.ref C) "__init__" = some (some (.ref fI)) ∧ PySem.W.typeIn K (.ref fI) = some (.type "function") ∧ Binds K fd ps [] ∧ FnOk P w K mg base (L2.CX P w) k fI fd ps (spI C cl.flds)
  xm : ∀ (c d : Nat) (cl : Cl) (C D : Addr), pr.cls[d]? = some cl → cl.exn = true → cA.cls c = some C → cA.cls d = some D → PySem.W.exmOne K (.ref C) (.ref D) = some (under pr c d)
  isi : mg "isinstance" = none
  ty : ∀ x ∈ (["str", "int", "bool", "list", "tuple", "dict"] : List Str), mg x = none
  range : mg "range" = none
  enum : mg "enumerate" = none
  zip : mg "zip" = none
  gl : ∀ (g : Nat) (nm : Nm) (d : D), tb.gl[g]? = some nm → pr.globs[g]? = some d → ∃ u v, mg (T nm) = some u ∧ RelV v u ∧ RelD K cA (fun _ => none) d v

/-! ### the readings' laws -/
section
variable {K : PySem.W.Frag} {cA : Cfg} {W : WX} {σ : L2.St} {H : Hp} {Q : VK}
theorem tE_two {fa fb : Env → Cells → R E} {g : E → E → Cells → R E} (h : tE K cA W (fun env C => (fa env C).bind fun x C => (fb env C).bind fun y C => g x y C) σ H Q) :
    tE K cA W fa σ H fun vx H1 => tE K cA W fb σ H1 fun vy H2 => ∃ env G am C x y, RelEnv K cA G am env σ ∧ Wd K cA G am C H2 ∧ RelE K cA G am x vx ∧ RelE K cA G am y vy ∧ Dn K cA (rE K cA) W σ (g x y C) G am C H2 Q := by
  obtain ⟨env, G, am, C, re, wd, d⟩ := h
  refine ⟨env, G, am, C, re, wd, (Dn.bind (Rl := rE K cA) d).imp fun v H1 ⟨G1, am1, C1, a, x1, w1, r1, d1⟩ => ?_⟩
  refine ⟨env, G1, am1, C1, re.mono x1, w1, (Dn.bind (Rl := rE K cA) d1).imp fun v2 H2 ⟨G2, am2, C2, b, x2, w2, r2, d2⟩ => ?_⟩
  exact ⟨env, G2, am2, C2, a, b, (re.mono x1).mono x2, w2, RelE.mono x2.g x2.a r1, r2, d2⟩
theorem tE_one {fa : Env → Cells → R E} {g : Env → E → Cells → R E} (h : tE K cA W (fun env C => (fa env C).bind fun x C => g env x C) σ H Q) :
    tE K cA W fa σ H fun vx H1 => ∃ env G am C x, RelEnv K cA G am env σ ∧ Wd K cA G am C H1 ∧ RelE K cA G am x vx ∧ Dn K cA (rE K cA) W σ (g env x C) G am C H1 Q := by
  obtain ⟨env, G, am, C, re, wd, d⟩ := h
  refine ⟨env, G, am, C, re, wd, (Dn.bind (Rl := rE K cA) d).imp fun v H1 ⟨G1, am1, C1, a, x1, w1, r1, d1⟩ => ?_⟩
  exact ⟨env, G1, am1, C1, a, re.mono x1, w1, r1, d1⟩
theorem tEs_one {fa : Env → Cells → R (List E)} {g : Env → List E → Cells → R E} (h : tE K cA W (fun env C => (fa env C).bind fun x C => g env x C) σ H Q) :
    tEs K cA W fa σ H fun vx H1 => ∃ env G am C x, RelEnv K cA G am env σ ∧ Wd K cA G am C H1 ∧ RelEs K cA G am x vx ∧ Dn K cA (rE K cA) W σ (g env x C) G am C H1 Q := by
  obtain ⟨env, G, am, C, re, wd, d⟩ := h
  refine ⟨env, G, am, C, re, wd, (Dn.bind (Rl := rEs K cA) d).imp fun v H1 ⟨G1, am1, C1, a, x1, w1, r1, d1⟩ => ?_⟩
  exact ⟨env, G1, am1, C1, a, re.mono x1, w1, r1, d1⟩
end

def kOk : Ev.K → Const → Prop
  | .non, .none => True
  | .bl b, .bool b' => b = b'
  | .int i, .int j => i = j
  | .str s, .str t => T s = t
  | _, _ => False
instance (k : Ev.K) (c : Const) : Decidable (kOk k c) := by
  cases k <;> cases c <;> simp only [kOk] <;> infer_instance
/-! ### the rules -/
section
variable {X : Cx} {cA : Cfg} {sx : Sx} {k : Nat} {W : WX} {a b c : Expr} {fa fb fc : Env → Cells → R E} {pos : Pos}

theorem r_slot (g : Gd sx k W X) {i : Nat} {x : Str} (h : nmAt sx.N i x = true) (hv : visB sx.sc x = true) (ho : nmOk x = true) : PE X (.Name x pos) (tE X.K cA W fun env C => match (env[i]?).join with
    | some (.v d) => .ok (.v d) C
    | some (.r n) => .ok (.r n) C
    | _ => .bad) := by
  unfold nmOk at ho
  simp only [Bool.and_eq_true, Bool.not_eq_true'] at ho
  refine PE.imp (pe_var (g.at h) (visB_ok (by rw [g.sc]; exact hv)) ho.1.1 ho.1.2) fun σ H Q ⟨env, G, am, C, re, wd, d⟩ => ?_
  dsimp only at d
  cases e1 : env[i]? with
  | none => simp only [e1, Option.join_none] at d; exact d.elim
  | some o =>
    cases o with
    | none => simp only [e1, Option.join_some] at d; exact d.elim
    | some e' =>
      obtain ⟨v, h1, h2⟩ := re.2 i _ e1
      simp only [e1, Option.join_some] at d
      cases e' with
      | v dd =>
        rcases h2 with h2 | ⟨j, z, _⟩ | ⟨c, fs, z, _⟩
        · exact ⟨v, h1, d.here wd h2⟩
        · cases z
        · cases z
      | r n =>
        rcases h2 with h2 | ⟨j, z, _⟩ | ⟨c, fs, z, _⟩
        · exact ⟨v, h1, d.here wd h2⟩
        · cases z
        · cases z
      | clo j => exact d.elim
      | exn c fs => exact d.elim
theorem r_cst (K' : Ev.K) (c : Const) (n : Nat) (h : kOk K' c) : PE X (.Constant c n pos) (tE X.K cA W fun _ C => .ok (.v K'.d) C) := by
  cases K' <;> cases c <;> first | exact h.elim | skip
  · exact PE.imp pe_non fun σ H Q ⟨env, G, am, C, re, wd, d⟩ => d.here wd (by simp only [rE, RelE, K.d, RelD])
  · have h : _ = _ := h
    subst h
    exact PE.imp pe_bl fun σ H Q ⟨env, G, am, C, re, wd, d⟩ => d.here wd (by simp only [rE, RelE, K.d, RelD])
  · have h : _ = _ := h
    subst h
    exact PE.imp pe_int fun σ H Q ⟨env, G, am, C, re, wd, d⟩ => d.here wd (by simp only [rE, RelE, K.d, RelD])
  · have h : _ = _ := h
    subst h
    exact PE.imp pe_str fun σ H Q ⟨env, G, am, C, re, wd, d⟩ => d.here wd (by simp only [rE, RelE, K.d, RelD])
theorem relD_none {K : PySem.W.Frag} {cA : Cfg0} {G : Hp} {d : D} {v : V} (h : RelD K cA (fun _ => none) d v) : RelD K cA G d v := RelD.mono (fun _ _ e => absurd e (by simp)) h
theorem r_bop (o : Bop) (ha : PE X a (tE X.K cA W fa)) (hb : PE X b (tE X.K cA W fb)) : PE X (.BinOp a (bopO o) b pos) (tE X.K cA W fun env C => (fa env C).bind fun x C => (fb env C).bind fun y C => R.of ((see C x).bind fun x => (see C y).bind fun y => (bopV o x y).map .v) C) := by
  refine PE.imp (pe_op (op_bop (cA := cA) o) ha hb) fun σ H Q h => ?_
  obtain ⟨env, G, am, C, re, wd, d⟩ := tE_two h
  refine ⟨env, G, am, C, re, wd, Dn.imp d fun vx H1 ⟨env1, G1, am1, C1, re1, w1, d1⟩ => ⟨env1, G1, am1, C1, re1, w1, Dn.imp d1 fun vy H2 ⟨env2, G2, am2, C2, x, y, re2, w2, rx, ry, d2⟩ => ?_⟩⟩
  obtain ⟨e, he, d2⟩ := of_some d2
  simp only [Option.bind_eq_some_iff, Option.map_eq_some_iff] at he
  obtain ⟨dx, hx, dy, hy, z, hz, rfl⟩ := he
  exact ⟨G2, am2, C2, dx, dy, z, w2, see_rel w2 rx hx, see_rel w2 ry hy, hz, Ans.of d2⟩
theorem r_cmp (g : Gd sx k W X) (o : Cop) (ha : PE X a (tE X.K cA W fa)) (hb : PE X b (tE X.K cA W fb)) (hp : plainX b = true) : PE X (.Compare a [copO o] [b] pos) (tE X.K cA W fun env C => (fa env C).bind fun x C => (fb env C).bind fun y C => R.of ((see C x).bind fun x => (see C y).bind fun y => (copV o x y).map fun b => .v (.bl b)) C) := by
  have hm : behindInMarks (copO o) b = false := by cases b <;> first | rfl | (simp [plainX] at hp)
  refine PE.imp (pe_cmpR (op_cop (cA := cA) o g.un) ha hb hm) fun σ H Q h => ?_
  obtain ⟨env, G, am, C, re, wd, d⟩ := tE_two h
  refine ⟨env, G, am, C, re, wd, Dn.imp d fun vx H1 ⟨env1, G1, am1, C1, re1, w1, d1⟩ => ⟨env1, G1, am1, C1, re1, w1, Dn.imp d1 fun vy H2 ⟨env2, G2, am2, C2, x, y, re2, w2, rx, ry, d2⟩ => ?_⟩⟩
  obtain ⟨e, he, d2⟩ := of_some d2
  simp only [Option.bind_eq_some_iff, Option.map_eq_some_iff] at he
  obtain ⟨dx, hx, dy, hy, z, hz, rfl⟩ := he
  exact ⟨G2, am2, C2, dx, dy, z, w2, see_rel w2 rx hx, see_rel w2 ry hy, hz, d2.here w2 (by simp only [rE, RelE, RelD])⟩
theorem r_isN (neg : Bool) {n : Nat} {p2 : Pos} (ha : PE X a (tE X.K cA W fa)) : PE X (.Compare a [if neg then .IsNot else .Is] [.Constant .none n p2] pos) (tE X.K cA W fun env C => (fa env C).bind fun x C => .ok (.v (.bl (isNone neg x))) C) := by
  have key : ∀ {σ H Q}, tE X.K cA W (fun env C => (fa env C).bind fun x C => .ok (.v (.bl (isNone neg x))) C) σ H Q → tE X.K cA W fa σ H fun x H1 => Q (.bl (if neg then !decide (x = .non) else decide (x = .non))) H1 := fun {σ H Q} h => by
    obtain ⟨env, G, am, C, re, wd, d⟩ := tE_one h
    refine ⟨env, G, am, C, re, wd, Dn.imp d fun vx H1 ⟨env1, G1, am1, C1, x, re1, w1, rx, d1⟩ => ?_⟩
    refine d1.here w1 ?_
    simp only [rE, RelE, RelD]
    congr 1
    unfold isNone
    cases x with
    | v d =>
      cases d <;> simp only [RelE, RelD] at rx
      case non => subst rx; cases neg <;> rfl
      case bl => subst rx; cases neg <;> rfl
      case int => subst rx; cases neg <;> rfl
      case str => subst rx; cases neg <;> rfl
      case tup => obtain ⟨p, us, rfl, _⟩ := rx; cases neg <;> rfl
      case lst => obtain ⟨p, us, rfl, _⟩ := rx; cases neg <;> rfl
      case ins => obtain ⟨p, _, _, us, rfl, _⟩ := rx; cases neg <;> rfl
    | r n => obtain ⟨p, _, rfl⟩ := rx; cases neg <;> rfl
    | clo j => exact rx.elim
    | exn c fs => exact rx.elim
  cases neg with
  | false => exact PE.imp (pe_cmp (pc_isN ha) (nobehind _ (by decide) (by decide))) fun σ H Q h => key h
  | true => exact PE.imp (pe_cmp (pc_notN ha) (nobehind _ (by decide) (by decide))) fun σ H Q h => key h

theorem bind_assoc {α β γ : Type} (r : R α) (f : α → Cells → R β) (h : β → Cells → R γ) : (r.bind f).bind h = r.bind fun a C => (f a C).bind h := by cases r <;> rfl
theorem r_glob {P : Program} {w : World} {base : Heap} {pr : Prog} {tb : Tab} {call : Nat → List E → Cells → R E} {j : Nat} (g : Gd sx k W X) (F : Facts P w X.K X.mg base cA pr tb j call) {gi : Nat} {x : Str} {nm : Nm} (h : tb.gl[gi]? = some nm) (hx : T nm = x) (hg : glB sx.sc x = true) :
    PE X (.Name x pos) (tE X.K cA W fun _ C => R.of ((pr.globs[gi]?).map .v) C) := by
  cases e : pr.globs[gi]? with
  | none => exact ⟨fun pins s σ H Q I ⟨env, G, am, C, re, wd, d⟩ => by simp only [e] at d; exact d.elim⟩
  | some d0 =>
    obtain ⟨u, v, h1, h2, h3⟩ := F.gl gi nm d0 h e
    obtain ⟨g1, g2, g3⟩ := g.gl hg
    subst hx
    refine PE.imp (pe_glob g1 h1 h2 g2) fun σ H Q ⟨env, G, am, C, re, wd, d⟩ => ?_
    simp only [e] at d
    exact d.here wd (relD_none h3)
theorem r_and (ha : PE X a (tE X.K cA W fa)) {rest : List Expr} (hb : PE X (.BoolOp .And (b :: rest) pos) (tE X.K cA W fb)) : PE X (.BoolOp .And (a :: b :: rest) pos) (tE X.K cA W fun env C => (fa env C).bind fun x C => match truE C x with
    | none => .bad
    | some true => fb env C
    | some false => .ok x C) := by
  refine PE.imp (pe_andT ha hb) fun σ H Q h => ?_
  obtain ⟨env, G, am, C, re, wd, d⟩ := tE_one h
  refine ⟨env, G, am, C, re, wd, Dn.imp d fun vx H1 ⟨env1, G1, am1, C1, x, re1, w1, rx, d1⟩ => ?_⟩
  unfold truE at d1
  cases e1 : see C1 x with
  | none => simp only [e1, Option.bind_none] at d1; exact d1.elim
  | some dx =>
    simp only [e1, Option.bind_some] at d1
    cases e2 : truV dx with
    | none => simp only [e2] at d1; exact d1.elim
    | some t =>
      simp only [e2] at d1
      refine ⟨t, tru_rel w1.sub (see_rel w1 rx e1) e2, ?_⟩
      cases t with
      | true => exact iteT ⟨env1, G1, am1, C1, re1, w1, d1⟩
      | false => exact iteF (d1.here w1 rx)
theorem r_or (ha : PE X a (tE X.K cA W fa)) {rest : List Expr} (hb : PE X (.BoolOp .Or (b :: rest) pos) (tE X.K cA W fb)) : PE X (.BoolOp .Or (a :: b :: rest) pos) (tE X.K cA W fun env C => (fa env C).bind fun x C => match truE C x with
    | none => .bad
    | some true => .ok x C
    | some false => fb env C) := by
  refine PE.imp (pe_orT ha hb) fun σ H Q h => ?_
  obtain ⟨env, G, am, C, re, wd, d⟩ := tE_one h
  refine ⟨env, G, am, C, re, wd, Dn.imp d fun vx H1 ⟨env1, G1, am1, C1, x, re1, w1, rx, d1⟩ => ?_⟩
  unfold truE at d1
  cases e1 : see C1 x with
  | none => simp only [e1, Option.bind_none] at d1; exact d1.elim
  | some dx =>
    simp only [e1, Option.bind_some] at d1
    cases e2 : truV dx with
    | none => simp only [e2] at d1; exact d1.elim
    | some t =>
      simp only [e2] at d1
      refine ⟨t, tru_rel w1.sub (see_rel w1 rx e1) e2, ?_⟩
      cases t with
      | true => exact iteT (d1.here w1 rx)
      | false => exact iteF ⟨env1, G1, am1, C1, re1, w1, d1⟩
theorem r_not (ha : PE X a (tE X.K cA W fa)) : PE X (.UnaryOp .Not a pos) (tE X.K cA W fun env C => (fa env C).bind fun x C => match truE C x with
    | none => .bad
    | some b => .ok (.v (.bl (!b))) C) := by
  refine PE.imp (pe_notT ha) fun σ H Q h => ?_
  obtain ⟨env, G, am, C, re, wd, d⟩ := tE_one h
  refine ⟨env, G, am, C, re, wd, Dn.imp d fun vx H1 ⟨env1, G1, am1, C1, x, re1, w1, rx, d1⟩ => ?_⟩
  unfold truE at d1
  cases e1 : see C1 x with
  | none => simp only [e1, Option.bind_none] at d1; exact d1.elim
  | some dx =>
    simp only [e1, Option.bind_some] at d1
    cases e2 : truV dx with
    | none => simp only [e2] at d1; exact d1.elim
    | some t =>
      simp only [e2] at d1
      exact ⟨t, tru_rel w1.sub (see_rel w1 rx e1) e2, d1.here w1 (by simp only [rE, RelE, RelD])⟩

/-! ### tests -/
abbrev tru (r : R E) : R Bool := truR r
theorem r_test (ha : PE X a (tE X.K cA W fa)) (h : testX a = true) : PT X a (tT X.K cA W fun env C => tru (fa env C)) := by
  refine PT.imp (pt_truth ha (test_plain h)) fun σ H Q ⟨env, G, am, C, re, wd, d⟩ => ?_
  refine ⟨env, G, am, C, re, wd, Dn.imp (Dn.bind (Rl := rE X.K cA) d) fun vx H1 ⟨G1, am1, C1, x, x1, w1, rx, d1⟩ => ?_⟩
  obtain ⟨t, e, d1⟩ := of_some d1
  unfold truE at e
  rw [Option.bind_eq_some_iff] at e
  obtain ⟨dx, e1, e2⟩ := e
  exact ⟨t, tru_rel w1.sub (see_rel w1 rx e1) e2, d1.here w1 rfl⟩
/-- a comparison as a test -/
theorem r_tcmp (g : Gd sx k W X) (o : Cop) (ha : PE X a (tE X.K cA W fa)) (hb : PE X b (tE X.K cA W fb)) (hp : plainX b = true) : PT X (.Compare a [copO o] [b] pos) (tT X.K cA W fun env C => tru ((fa env C).bind fun x C => (fb env C).bind fun y C => R.of ((see C x).bind fun x => (see C y).bind fun y => (copV o x y).map fun b => .v (.bl b)) C)) := by
  have hm : behindInMarks (copO o) b = false := by cases b <;> first | rfl | (simp [plainX] at hp)
  refine PT.imp (pt_cmpR (op_cop (cA := cA) o g.un) ha hb hm) fun σ H Q ⟨env, G, am, C, re, wd, d⟩ => ?_
  simp only [tru, truR, bind_assoc] at d
  refine ⟨env, G, am, C, re, wd, Dn.imp (Dn.bind (Rl := rE X.K cA) d) fun vx H1 ⟨G1, am1, C1, x, x1, w1, rx, d1⟩ => ?_⟩
  refine ⟨env, G1, am1, C1, re.mono x1, w1, Dn.imp (Dn.bind (Rl := rE X.K cA) d1) fun vy H2 ⟨G2, am2, C2, y, x2, w2, ry, d2⟩ => ?_⟩
  cases e : (see C2 x).bind fun x => (see C2 y).bind fun y => (copV o x y).map fun b => E.v (.bl b) with
  | none => simp only [e] at d2; exact d2.elim
  | some z =>
    simp only [e, R.of_some, R.bind_ok] at d2
    simp only [Option.bind_eq_some_iff, Option.map_eq_some_iff] at e
    obtain ⟨dx, hx, dy, hy, z, hz, rfl⟩ := e
    exact ⟨G2, am2, C2, dx, dy, z, w2, see_rel w2 (RelE.mono x2.g x2.a rx) hx, see_rel w2 ry hy, hz, z, rfl, d2.here w2 rfl⟩
theorem r_tisN (neg : Bool) {n : Nat} {p2 : Pos} (ha : PE X a (tE X.K cA W fa)) : PT X (.Compare a [if neg then .IsNot else .Is] [.Constant .none n p2] pos) (tT X.K cA W fun env C => tru ((fa env C).bind fun x C => .ok (.v (.bl (isNone neg x))) C)) := by
  have key : ∀ {σ H Q}, tT X.K cA W (fun env C => tru ((fa env C).bind fun x C => .ok (.v (.bl (isNone neg x))) C)) σ H Q → tE X.K cA W fa σ H fun x H1 => Q (if neg then !decide (x = .non) else decide (x = .non)) H1 := fun {σ H Q} ⟨env, G, am, C, re, wd, d⟩ => by
    simp only [tru, truR, bind_assoc] at d
    refine ⟨env, G, am, C, re, wd, Dn.imp (Dn.bind (Rl := rE X.K cA) d) fun vx H1 ⟨G1, am1, C1, x, x1, w1, rx, d1⟩ => ?_⟩
    refine Dn.here (a := isNone neg x) d1 w1 ?_
    show isNone neg x = _
    unfold isNone
    cases x with
    | v d =>
      cases d <;> simp only [rE, RelE, RelD] at rx
      case non => subst rx; cases neg <;> rfl
      case bl => subst rx; cases neg <;> rfl
      case int => subst rx; cases neg <;> rfl
      case str => subst rx; cases neg <;> rfl
      case tup => obtain ⟨p, us, rfl, _⟩ := rx; cases neg <;> rfl
      case lst => obtain ⟨p, us, rfl, _⟩ := rx; cases neg <;> rfl
      case ins => obtain ⟨p, _, _, us, rfl, _⟩ := rx; cases neg <;> rfl
    | r n => obtain ⟨p, _, rfl⟩ := rx; cases neg <;> rfl
    | clo j => exact rx.elim
    | exn c fs => exact rx.elim
  cases neg with
  | false =>
    refine PT.imp (pt_cmp (pc_isN ha) (nobehind _ (by decide) (by decide))) fun σ H Q h => ?_
    obtain ⟨env, G, am, C, re, wd, d⟩ := key h
    exact ⟨env, G, am, C, re, wd, d.imp fun v H1 q => ⟨_, rfl, q⟩⟩
  | true =>
    refine PT.imp (pt_cmp (pc_notN ha) (nobehind _ (by decide) (by decide))) fun σ H Q h => ?_
    obtain ⟨env, G, am, C, re, wd, d⟩ := key h
    exact ⟨env, G, am, C, re, wd, d.imp fun v H1 q => ⟨_, rfl, q⟩⟩
theorem r_tnot {pa : PT X a (tT X.K cA W fun env C => tru (fa env C))} : PT X (.UnaryOp .Not a pos) (tT X.K cA W fun env C => tru ((fa env C).bind fun x C => match truE C x with
    | none => .bad
    | some b => .ok (.v (.bl (!b))) C)) := by
  refine PT.imp (pt_not pa) fun σ H Q ⟨env, G, am, C, re, wd, d⟩ => ?_
  refine ⟨env, G, am, C, re, wd, ?_⟩
  dsimp only at d ⊢
  cases e : fa env C with
  | bad => rw [e] at d; exact d.elim
  | exc c fs C1 => rw [e] at d; exact d
  | ok x C1 =>
    rw [e] at d
    simp only [tru, truR, R.bind_ok] at d ⊢
    cases t : truE C1 x with
    | none => simp only [t, R.bind_bad] at d; exact d.elim
    | some b =>
      simp only [t, R.of_some] at d ⊢
      simp only [R.bind_ok, truE, see, Option.bind_some, truV, R.of_some] at d
      intro G' am' H' v x1 w1 e1
      cases e1
      exact d G' am' H' _ x1 w1 rfl
/-- the reading of a test that hangs on one -/
theorem tT_ite {fc : Env → Cells → R E} {g1 g2 : Env → Cells → R E} {σ : L2.St} {H : Hp} {Q : Bool → Hp → Prop} (h : tT X.K cA W (fun env C => tru ((fc env C).bind fun x C => match truE C x with
    | none => .bad
    | some true => g1 env C
    | some false => g2 env C)) σ H Q) : tT X.K cA W (fun env C => tru (fc env C)) σ H fun c H1 => if c = true then tT X.K cA W (fun env C => tru (g1 env C)) σ H1 Q else tT X.K cA W (fun env C => tru (g2 env C)) σ H1 Q := by
  obtain ⟨env, G, am, C, re, wd, d⟩ := h
  refine ⟨env, G, am, C, re, wd, ?_⟩
  dsimp only at d ⊢
  cases e : fc env C with
  | bad => rw [e] at d; exact d.elim
  | exc c fs C1 => rw [e] at d; exact d
  | ok x C1 =>
    rw [e] at d
    simp only [tru, truR, R.bind_ok] at d ⊢
    cases t : truE C1 x with
    | none => simp only [t, R.bind_bad] at d; exact d.elim
    | some b =>
      simp only [R.of_some]
      intro G' am' H' v x1 w1 e1
      cases e1
      cases b with
      | true => simp only [t] at d; exact iteT ⟨env, G', am', C1, re.mono x1, w1, d.shift x1⟩
      | false => simp only [t] at d; exact iteF ⟨env, G', am', C1, re.mono x1, w1, d.shift x1⟩
theorem tE_ite {fc : Env → Cells → R E} {g1 g2 : Env → Cells → R E} {σ : L2.St} {H : Hp} {Q : VK} (h : tE X.K cA W (fun env C => (fc env C).bind fun x C => match truE C x with
    | none => .bad
    | some true => g1 env C
    | some false => g2 env C) σ H Q) : tT X.K cA W (fun env C => tru (fc env C)) σ H fun c H1 => if c = true then tE X.K cA W g1 σ H1 Q else tE X.K cA W g2 σ H1 Q := by
  obtain ⟨env, G, am, C, re, wd, d⟩ := h
  refine ⟨env, G, am, C, re, wd, ?_⟩
  dsimp only at d ⊢
  cases e : fc env C with
  | bad => rw [e] at d; exact d.elim
  | exc c fs C1 => rw [e] at d; exact d
  | ok x C1 =>
    rw [e] at d
    simp only [tru, truR, R.bind_ok] at d ⊢
    cases t : truE C1 x with
    | none => simp only [t] at d; exact d.elim
    | some b =>
      simp only [R.of_some]
      intro G' am' H' v x1 w1 e1
      cases e1
      cases b with
      | true => simp only [t] at d; exact iteT ⟨env, G', am', C1, re.mono x1, w1, d.shift x1⟩
      | false => simp only [t] at d; exact iteF ⟨env, G', am', C1, re.mono x1, w1, d.shift x1⟩
/-- the same of a value that is dropped at its truth -/
theorem tT_and {fc : Env → Cells → R E} {g1 : Env → Cells → R E} {σ : L2.St} {H : Hp} {Q : Bool → Hp → Prop} (h : tT X.K cA W (fun env C => tru ((fc env C).bind fun x C => match truE C x with
    | none => .bad
    | some true => g1 env C
    | some false => .ok x C)) σ H Q) : tT X.K cA W (fun env C => tru (fc env C)) σ H fun c H1 => if c = true then tT X.K cA W (fun env C => tru (g1 env C)) σ H1 Q else Q false H1 := by
  obtain ⟨env, G, am, C, re, wd, d⟩ := h
  refine ⟨env, G, am, C, re, wd, ?_⟩
  dsimp only at d ⊢
  cases e : fc env C with
  | bad => rw [e] at d; exact d.elim
  | exc c fs C1 => rw [e] at d; exact d
  | ok x C1 =>
    rw [e] at d
    simp only [tru, truR, R.bind_ok] at d ⊢
    cases t : truE C1 x with
    | none => simp only [t, R.bind_bad] at d; exact d.elim
    | some b =>
      simp only [R.of_some]
      intro G' am' H' v x1 w1 e1
      cases e1
      cases b with
      | true => simp only [t] at d; exact iteT ⟨env, G', am', C1, re.mono x1, w1, d.shift x1⟩
      | false => simp only [t, R.bind_ok, R.of_some] at d; exact iteF (d G' am' H' _ x1 w1 rfl)
theorem tT_or {fc : Env → Cells → R E} {g1 : Env → Cells → R E} {σ : L2.St} {H : Hp} {Q : Bool → Hp → Prop} (h : tT X.K cA W (fun env C => tru ((fc env C).bind fun x C => match truE C x with
    | none => .bad
    | some true => .ok x C
    | some false => g1 env C)) σ H Q) : tT X.K cA W (fun env C => tru (fc env C)) σ H fun c H1 => if c = true then Q true H1 else tT X.K cA W (fun env C => tru (g1 env C)) σ H1 Q := by
  obtain ⟨env, G, am, C, re, wd, d⟩ := h
  refine ⟨env, G, am, C, re, wd, ?_⟩
  dsimp only at d ⊢
  cases e : fc env C with
  | bad => rw [e] at d; exact d.elim
  | exc c fs C1 => rw [e] at d; exact d
  | ok x C1 =>
    rw [e] at d
    simp only [tru, truR, R.bind_ok] at d ⊢
    cases t : truE C1 x with
    | none => simp only [t, R.bind_bad] at d; exact d.elim
    | some b =>
      simp only [R.of_some]
      intro G' am' H' v x1 w1 e1
      cases e1
      cases b with
      | true => simp only [t, R.bind_ok, R.of_some] at d; exact iteT (d G' am' H' _ x1 w1 rfl)
      | false => simp only [t] at d; exact iteF ⟨env, G', am', C1, re.mono x1, w1, d.shift x1⟩
theorem r_ite (hc : PT X c (tT X.K cA W fun env C => tru (fc env C))) (ha : PE X a (tE X.K cA W fa)) (hb : PE X b (tE X.K cA W fb)) : PE X (.IfExp c a b pos) (tE X.K cA W fun env C => (fc env C).bind fun x C => match truE C x with
    | none => .bad
    | some true => fa env C
    | some false => fb env C) := PE.imp (pe_ifExp hc ha hb) fun σ H Q h => tE_ite h
theorem r_tite (hc : PT X c (tT X.K cA W fun env C => tru (fc env C))) (ha : PT X a (tT X.K cA W fun env C => tru (fa env C))) (hb : PT X b (tT X.K cA W fun env C => tru (fb env C))) : PT X (.IfExp c a b pos) (tT X.K cA W fun env C => tru ((fc env C).bind fun x C => match truE C x with
    | none => .bad
    | some true => fa env C
    | some false => fb env C)) := by
  refine ⟨fun pins s σ H Q I h => ?_⟩
  refine isTrue_IfExp (thn (hc.run pins s σ H _ I (tT_ite h)) fun t s1 ⟨H1, I1, q1⟩ => ?_)
  cases t with
  | true => exact ha.run pins s1 σ H1 Q I1 q1
  | false => exact hb.run pins s1 σ H1 Q I1 q1
theorem r_wand {rest : List Expr} (ha : PT X a (tT X.K cA W fun env C => tru (fa env C))) (hb : PW X (.BoolOp .And (b :: rest) pos) (tT X.K cA W fun env C => tru (fb env C))) : PW X (.BoolOp .And (a :: b :: rest) pos) (tT X.K cA W fun env C => tru ((fa env C).bind fun x C => match truE C x with
    | none => .bad
    | some true => fb env C
    | some false => .ok x C)) := PW.imp (pw_and ha hb) fun σ H Q h => tT_and h
theorem r_wor {rest : List Expr} (ha : PT X a (tT X.K cA W fun env C => tru (fa env C))) (hb : PW X (.BoolOp .Or (b :: rest) pos) (tT X.K cA W fun env C => tru (fb env C))) : PW X (.BoolOp .Or (a :: b :: rest) pos) (tT X.K cA W fun env C => tru ((fa env C).bind fun x C => match truE C x with
    | none => .bad
    | some true => .ok x C
    | some false => fb env C)) := PW.imp (pw_or ha hb) fun σ H Q h => tT_or h
end
end Ev

end

section
set_option maxRecDepth 512
set_option Elab.async false
set_option linter.all false
set_option maxRecDepth 100000
set_option maxHeartbeats 4000000
namespace Ev
open PySem L2 PySem.Spec PyProof.Rows

section
variable {K : PySem.W.Frag} {cA : Cfg0} {G G' : Hp} {am am' : List Addr}
theorem RelEs.append : ∀ {xs ys : List E} {us vs : List V}, RelEs K cA G am xs us → RelEs K cA G am ys vs → RelEs K cA G am (xs ++ ys) (us ++ vs)
  | [], _, _, _, h, h' => by rw [show _ = _ from h]; exact h'
  | x :: xs, _, _, _, h, h' => by
    obtain ⟨v, r, rfl, h1, h2⟩ := h
    exact ⟨v, _, rfl, h1, RelEs.append h2 h'⟩
theorem RelEs.ofD : ∀ {ds : List D} {us : List V}, RelDs K cA G ds us → RelEs K cA G am (ds.map .v) us
  | [], _, h => by simp only [RelDs] at h; exact h
  | x :: xs, _, h => by
    simp only [RelDs] at h
    obtain ⟨v, r, rfl, h1, h2⟩ := h
    exact ⟨v, r, rfl, h1, RelEs.ofD h2⟩
theorem RelEs.length : ∀ {xs : List E} {us : List V}, RelEs K cA G am xs us → xs.length = us.length
  | [], us, h => by
    have e : us = [] := h
    rw [e]; rfl
  | x :: xs, _, h => by
    obtain ⟨v, r, rfl, h1, h2⟩ := h
    simp [RelEs.length h2]
/-- the items that a tuple, a list shows -/
theorem seq_rel {H : Hp} (sb : Same G H) {d : D} {ds : List D} {v : V} (r : RelS K cA G H d v) (e : seqD d = some ds) : (∃ x, d = .str x) ∨ ∃ p us, v = .ref p ∧ (SqT K H p us ∨ SqL K H p us) ∧ RelDs K cA G ds us := by
  cases d <;> simp only [seqD] at e <;> first | (cases e; done) | skip
  case str x => exact .inl ⟨x, rfl⟩
  case tup xs =>
    cases e
    simp only [RelS, RelD] at r
    obtain ⟨p, us, rfl, h1, h2⟩ := r
    exact .inr ⟨p, us, rfl, .inl (Same.sqt sb h1), h2⟩
  case lst xs =>
    cases e
    obtain ⟨p, us, rfl, h1, h2⟩ := r
    exact .inr ⟨p, us, rfl, .inr h1, h2⟩
end

section
variable {X : Cx} {cA : Cfg} {sx : Sx} {k : Nat} {W : WX} {a b c : Expr} {es : List Expr} {fa fb fc : Env → Cells → R E} {fs : Env → Cells → R (List E)} {pos : Pos}

/-! ### rows of expressions -/
theorem r_nil : PA X [] (tEs X.K cA W fun _ C => .ok [] C) := PA.imp pa_nil fun σ H Q ⟨env, G, am, C, re, wd, d⟩ => d.here wd rfl
theorem r_cons (hp : plainX a = true) (ha : PE X a (tE X.K cA W fa)) (hs : PA X es (tEs X.K cA W fs)) : PA X (a :: es) (tEs X.K cA W fun env C => (fa env C).bind fun x C => (fs env C).bind fun xs C => .ok (x :: xs) C) := by
  refine PA.imp (pa_cons ha hs (star_cons hp)) fun σ H Q ⟨env, G, am, C, re, wd, d⟩ => ?_
  refine ⟨env, G, am, C, re, wd, (Dn.bind (Rl := rE X.K cA) d).imp fun v H1 ⟨G1, am1, C1, x, x1, w1, r1, d1⟩ => ?_⟩
  refine ⟨env, G1, am1, C1, re.mono x1, w1, (Dn.bind (Rl := rEs X.K cA) d1).imp fun vs H2 ⟨G2, am2, C2, xs, x2, w2, r2, d2⟩ => ?_⟩
  exact d2.here w2 ⟨v, vs, rfl, RelE.mono x2.g x2.a r1, r2⟩
theorem r_star {p : Pos} (ha : PE X a (tE X.K cA W fa)) (hs : PA X es (tEs X.K cA W fs)) : PA X (.Starred a p :: es) (tEs X.K cA W fun env C => (fa env C).bind fun x C => match (see C x).bind seqD with
    | none => .bad
    | some ds => match see C x with
      | some (.str _) => .bad
      | _ => (fs env C).bind fun xs C => .ok (ds.map .v ++ xs) C) := by
  refine PA.imp (StX.pa_star ha hs) fun σ H Q ⟨env, G, am, C, re, wd, d⟩ => ?_
  refine ⟨env, G, am, C, re, wd, (Dn.bind (Rl := rE X.K cA) d).imp fun v H1 ⟨G1, am1, C1, x, x1, w1, r1, d1⟩ => ?_⟩
  cases e1 : see C1 x with
  | none => simp only [e1, Option.bind_none] at d1; exact d1.elim
  | some dx =>
    simp only [e1, Option.bind_some] at d1
    cases e2 : seqD dx with
    | none => simp only [e2] at d1; exact d1.elim
    | some ds =>
      simp only [e2] at d1
      rcases seq_rel w1.sub (see_rel w1 r1 e1) e2 with ⟨z, rfl⟩ | ⟨p, us, rfl, hq, rd⟩
      · exact d1.elim
      · have d2 : Dn X.K cA (rEs X.K cA) W σ ((fs env C1).bind fun xs C => .ok (ds.map .v ++ xs) C) G1 am1 C1 H1 Q := by
          cases dx <;> first | exact d1 | exact d1.elim
        refine ⟨p, us, rfl, hq, env, G1, am1, C1, re.mono x1, w1, (Dn.bind (Rl := rEs X.K cA) d2).imp fun vs H2 ⟨G2, am2, C2, xs, x2, w2, r2, d3⟩ => ?_⟩
        exact d3.here w2 (RelEs.append (RelEs.ofD (rd.mono x2.g)) r2)
theorem r_tup {n : Nat} (hs : PA X es (tEs X.K cA W fs)) : PE X (.Tuple es n pos) (tE X.K cA W fun env C => (fs env C).bind fun xs C => R.of ((vals xs).bind fun ds => if ds.length ≤ line then some (.v (.tup ds)) else none) C) := by
  refine PE.imp (pe_tup hs) fun σ H Q h => ?_
  obtain ⟨env, G, am, C, re, wd, d⟩ := tEs_one h
  refine ⟨env, G, am, C, re, wd, Dn.imp d fun vs H1 ⟨env1, G1, am1, C1, xs, re1, w1, rx, d1⟩ => ?_⟩
  obtain ⟨e, he, d1⟩ := of_some d1
  simp only [Option.bind_eq_some_iff] at he
  obtain ⟨ds, h1, h2⟩ := he
  split at h2
  · rename_i hl
    cases h2
    have rd := vals_rel rx h1
    exact ⟨by rw [← rd.length, ← line_eq]; exact hl, (Ans.of d1).tup w1 rd⟩
  · cases h2
theorem r_lst (hs : PA X es (tEs X.K cA W fs)) : PE X (.List es pos) (tE X.K cA W fun env C => (fs env C).bind fun xs C => match vals xs with
    | none => .bad
    | some ds => if ds.length ≤ line then .ok (.v (.lst ds)) C else .bad) := by
  refine PE.imp (pe_lst hs) fun σ H Q h => ?_
  obtain ⟨env, G, am, C, re, wd, d⟩ := tEs_one h
  refine ⟨env, G, am, C, re, wd, Dn.imp d fun vs H1 ⟨env1, G1, am1, C1, xs, re1, w1, rx, d1⟩ => ?_⟩
  cases h1 : vals xs with
  | none => simp only [h1] at d1; exact d1.elim
  | some ds =>
    simp only [h1] at d1
    split at d1
    · rename_i hl
      have rd := vals_rel rx h1
      exact ⟨by rw [← rd.length, ← line_eq]; exact hl, (Ans.of d1).lst w1 rd⟩
    · exact d1.elim
/-- a new cell -/
theorem Wd.newC {K : PySem.W.Frag} {G : Hp} {am : List Addr} {C : Cells} {H : Hp} (wd : Wd K cA G am C H) {p : Addr} (hp : H p = none) {o : HO} {cl : Cell} (hc : CellO K cA G (am ++ [p]) (upd H p o) p cl) :
    Wd K cA G (am ++ [p]) (C ++ [some cl]) (upd H p o) ∧ Ext G am C H G (am ++ [p]) (C ++ [some cl]) (upd H p o) := by
  have hg := wd.free hp
  have sh : Same H (upd H p o) := fun b u q => by rw [upd_ne (ne_of_none q hp)]; exact q
  have old : ∀ {i : Nat} {c : Cell}, C[i]? = some (some c) → ∀ {a}, am[i]? = some a → a ≠ p := fun {i c} e {a} ha z => by
    subst z
    obtain ⟨a', h1, h2, h3⟩ := wd.cell i c e
    rw [ha] at h1; cases h1
    cases c with
    | lst xs => obtain ⟨us, z, _⟩ := h2; rw [hp] at z; cases z
    | lkd xs => obtain ⟨us, z, _⟩ := h2; rw [hp] at z; cases z
    | dct kvs => exact h2
    | ins c fs => obtain ⟨_, _, _, _, z, _⟩ := h2; rw [hp] at z; cases z
  have split : ∀ {i : Nat} {c : Cell}, (C ++ [some cl])[i]? = some (some c) → (C[i]? = some (some c) ∧ i < C.length) ∨ (i = C.length ∧ c = cl) := fun {i c} e => by
    by_cases hi : i < C.length
    · rw [List.getElem?_append_left hi] at e; exact .inl ⟨e, hi⟩
    · rw [List.getElem?_append_right (by omega)] at e
      have : i - C.length = 0 := by
        cases hz : i - C.length with
        | zero => rfl
        | succ n => rw [hz] at e; simp at e
      rw [this] at e
      simp at e
      exact .inr ⟨by omega, e.symm⟩
  have amL : ∀ {i : Nat}, i < C.length → (am ++ [p])[i]? = am[i]? := fun {i} hi => List.getElem?_append_left (by rw [wd.len]; exact hi)
  have amN : (am ++ [p])[C.length]? = some p := by rw [List.getElem?_append_right (by rw [wd.len]; exact Nat.le_refl _), wd.len]; simp
  refine ⟨⟨wd.tab_to (Same.refl _) (fun P ps e => sh _ _ e) fun _ _ _ n => n, fun b u q => sh _ _ (wd.sub _ _ q), by simp [wd.len], fun i c e => ?_, fun i j c d a e1 e2 h1 h2 => ?_⟩, ⟨Same.refl _, ⟨[p], rfl⟩, fun b u q _ _ => sh b u q, fun b ps q _ => ⟨ps, sh b _ q⟩, fun b l => ?_, fun b u q => .inl q, fun n xs h => ?_⟩⟩
  · rcases split e with ⟨e, hi⟩ | ⟨rfl, rfl⟩
    · obtain ⟨a, h1, h2, h3⟩ := wd.cell i c e
      refine ⟨a, by rw [amL hi]; exact h1, ?_, h3⟩
      cases c with
      | lst xs => obtain ⟨us, z, r⟩ := h2; exact ⟨us, sh _ _ z, r⟩
      | lkd xs => obtain ⟨us, z, r⟩ := h2; exact ⟨us, sh _ _ z, r⟩
      | dct kvs => exact h2
      | ins c fs => obtain ⟨Ca, dx, gs, z1, z2, z3, r⟩ := h2; exact ⟨Ca, dx, gs, z1, sh _ _ z2, sh _ _ z3, r.mono (Same.refl _) ⟨[p], rfl⟩⟩
    · exact ⟨p, amN, hc, hg⟩
  · rcases split e1 with ⟨f1, hi⟩ | ⟨i1, i2⟩
    · rw [amL hi] at h1
      rcases split e2 with ⟨f2, hj⟩ | ⟨j1, j2⟩
      · rw [amL hj] at h2
        exact wd.inj i j c d a f1 f2 h1 h2
      · rw [j1, amN] at h2; cases h2
        exact absurd rfl (old f1 h1)
    · rw [i1, amN] at h1; cases h1
      rcases split e2 with ⟨f2, hj⟩ | ⟨j1, j2⟩
      · rw [amL hj] at h2
        exact absurd rfl (old f2 h2)
      · rw [i1, j1]
  · obtain ⟨i, c, e, h⟩ := l
    rcases split e with ⟨e, hi⟩ | ⟨rfl, rfl⟩
    · rw [amL hi] at h
      exact .inl ⟨i, c, e, h⟩
    · rw [amN] at h; cases h
      exact .inr hp
  · rw [List.getElem?_append_left (List.getElem?_eq_some_iff.mp h).1]; exact h
theorem r_lstM (hs : PA X es (tEs X.K cA W fs)) : PE X (.List es pos) (tE X.K cA W fun env C => (fs env C).bind fun xs C => match vals xs with
    | none => .bad
    | some ds => if ds.length ≤ line then .ok (.r C.length) (C ++ [some (.lst ds)]) else .bad) := by
  refine PE.imp (pe_lst hs) fun σ H Q h => ?_
  obtain ⟨env, G, am, C, re, wd, d⟩ := tEs_one h
  refine ⟨env, G, am, C, re, wd, Dn.imp d fun vs H1 ⟨env1, G1, am1, C1, xs, re1, w1, rx, d1⟩ => ?_⟩
  cases h1 : vals xs with
  | none => simp only [h1] at d1; exact d1.elim
  | some ds =>
    simp only [h1] at d1
    split at d1
    · rename_i hl
      have rd := vals_rel rx h1
      refine ⟨by rw [← rd.length, ← line_eq]; exact hl, fun p hp => ?_⟩
      obtain ⟨w2, x2⟩ := w1.newC hp (o := .lst vs) (cl := .lst ds) ⟨vs, upd_same, rd⟩
      refine d1 G1 (am1 ++ [p]) _ (.ref p) x2 w2 ⟨p, ?_, rfl⟩
      rw [List.getElem?_append_right (by rw [w1.len]; exact Nat.le_refl _), w1.len]; simp
    · exact d1.elim

/-! ### subscripts -/
theorem r_idx (hp : plainX b = true) (ha : PE X a (tE X.K cA W fa)) (hb : PE X b (tE X.K cA W fb)) : PE X (.Subscript a b pos) (tE X.K cA W fun env C => (fa env C).bind fun x C => (fb env C).bind fun y C =>
      R.of ((see C x).bind fun x => (see C y).bind fun y => (idxV x y).map .v) C) := by
  refine PE.imp (pe_ix (ix_ok (cA := cA)) ha hb (ix_plain hp)) fun σ H Q h => ?_
  obtain ⟨env, G, am, C, re, wd, d⟩ := tE_two h
  refine ⟨env, G, am, C, re, wd, Dn.imp d fun vx H1 ⟨env1, G1, am1, C1, re1, w1, d1⟩ => ⟨env1, G1, am1, C1, re1, w1, Dn.imp d1 fun vy H2 ⟨env2, G2, am2, C2, x, y, re2, w2, rx, ry, d2⟩ => ?_⟩⟩
  obtain ⟨e, he, d2⟩ := of_some d2
  simp only [Option.bind_eq_some_iff, Option.map_eq_some_iff] at he
  obtain ⟨dx, hx, dy, hy, z, hz, rfl⟩ := he
  exact ⟨G2, am2, C2, dx, dy, z, w2, see_rel w2 rx hx, see_rel w2 ry hy, hz, Ans.of d2⟩
/-- a slice's part -/
def rO : WRel (Option Int) (Option Int) := fun _ _ _ _ a b => a = b
def tO (K : PySem.W.Frag) (cA : Cfg) (W : WX) (ev : Env → Cells → R (Option Int)) : TO := fun σ H Q =>
  ∃ env G am C, RelEnv K cA G am env σ ∧ Wd K cA G am C H ∧ Dn K cA rO W σ (ev env C) G am C H Q
theorem PO.imp {X : Cx} {e : Option Expr} {t t' : TO} (h : PO X e t) (i : ∀ σ H Q, t' σ H Q → t σ H Q) : PO X e t' := ⟨fun pins s σ H Q I q => h.run pins s σ H Q I (i σ H Q q)⟩
theorem r_noPart : PO X none (tO X.K cA W fun _ C => .ok none C) := PO.imp po_none fun σ H Q ⟨env, G, am, C, re, wd, d⟩ => d.here wd rfl
theorem r_part (ha : PE X a (tE X.K cA W fa)) : PO X (some a) (tO X.K cA W fun env C => (fa env C).bind fun x C => match x with
    | .v (.int i) => .ok (some i) C
    | _ => .bad) := by
  refine PO.imp (po_some ha) fun σ H Q ⟨env, G, am, C, re, wd, d⟩ => ?_
  refine ⟨env, G, am, C, re, wd, Dn.imp (Dn.bind (Rl := rE X.K cA) d) fun v H1 ⟨G1, am1, C1, x, x1, w1, rx, d1⟩ => ?_⟩
  cases x with
  | v dx =>
    cases dx <;> first | exact d1.elim | skip
    case int i =>
      simp only [rE, RelE, RelD] at rx
      exact ⟨i, rx, d1.here w1 rfl⟩
  | _ => exact d1.elim
theorem r_sl {lo hi : Option Expr} {fl fh : Env → Cells → R (Option Int)} {p2 : Pos} (ha : PE X a (tE X.K cA W fa)) (hl : PO X lo (tO X.K cA W fl)) (hh : PO X hi (tO X.K cA W fh)) : PE X (.Subscript a (.Slice lo hi none p2) pos) (tE X.K cA W fun env C => (fa env C).bind fun x C => (fl env C).bind fun l C => (fh env C).bind fun h C =>
      R.of ((see C x).bind fun x => (slV x l h).map .v) C) := by
  refine PE.imp (pe_slice (sl_ok (cA := cA)) ha hl hh) fun σ H Q ⟨env, G, am, C, re, wd, d⟩ => ?_
  refine ⟨env, G, am, C, re, wd, Dn.imp (Dn.bind (Rl := rE X.K cA) d) fun vx H1 ⟨G1, am1, C1, x, x1, w1, rx, d1⟩ => ?_⟩
  refine ⟨env, G1, am1, C1, re.mono x1, w1, Dn.imp (Dn.bind (Rl := rO) d1) fun l H2 ⟨G2, am2, C2, l', x2, w2, r2, d2⟩ => ?_⟩
  refine ⟨env, G2, am2, C2, (re.mono x1).mono x2, w2, Dn.imp (Dn.bind (Rl := rO) d2) fun h H3 ⟨G3, am3, C3, h', x3, w3, r3, d3⟩ => ?_⟩
  cases r2
  cases r3
  obtain ⟨e, he, d3⟩ := of_some d3
  simp only [Option.bind_eq_some_iff, Option.map_eq_some_iff] at he
  obtain ⟨dx, hx, z, hz, rfl⟩ := he
  exact ⟨G3, am3, C3, dx, z, w3, see_rel w3 (RelE.mono x3.g x3.a (RelE.mono x2.g x2.a rx)) hx, hz, Ans.of d3⟩

/-! ### calls of built-ins -/
theorem r_bi {P : Program} {w : World} {base : Heap} {pr : Prog} {tb : Tab} {call : Nat → List E → Cells → R E} {j : Nat} (g : Gd sx k W X) (F : Facts P w X.K X.mg base cA pr tb j call) (bi : Bi) {x : Str} {p : Pos} (hx : (biN bi : Str) = x) (hg : glB sx.sc x = true) (hh : biHot bi = true ∨ sx.hot = false)
    (hp : plainX a = true) (hps : es.all plainX = true) (hs : PA X (a :: es) (tEs X.K cA W fs)) : PE X (.Call (.Name x p) (a :: es) [] pos) (tE X.K cA W fun env C => (fs env C).bind fun xs C => R.of ((sees C xs).bind fun ds => (biV bi ds).map .v) C) := by
  obtain ⟨g1, g2, g3⟩ := g.gl hg
  have hc : biHot bi = true ∨ X.calm = true := hh.imp id g.calm
  have rd : ∀ σ H Q, tE X.K cA W (fun env C => (fs env C).bind fun xs C => R.of ((sees C xs).bind fun ds => (biV bi ds).map .v) C) σ H Q → tCB (rBi X cA bi) (tEs X.K cA W fs) σ H Q := fun σ H Q h => by
    obtain ⟨env, G, am, C, re, wd, d⟩ := tEs_one h
    refine ⟨env, G, am, C, re, wd, Dn.imp d fun vs H1 ⟨env1, G1, am1, C1, xs, re1, w1, rx, d1⟩ => ?_⟩
    obtain ⟨e, he, d1⟩ := of_some d1
    simp only [Option.bind_eq_some_iff, Option.map_eq_some_iff] at he
    obtain ⟨ds, h1, z, hz, rfl⟩ := he
    exact ⟨G1, am1, C1, ds, z, w1, sees_rel w1 rx h1, hz, Ans.of d1⟩
  subst hx
  have hb := biBoot bi
  have hr := bi_ok (X := X) (cA := cA) bi hc
  cases bi <;> first
    | exact PE.imp (pe_callB hr g1 (F.bi _) hb hs g3 g2 (star_cons hp) (star_any0 hps)) rd
    | exact PE.imp (pe_callTy hr g1 (F.bi _) hb hs g3 g2 (star_cons hp) (star_any0 hps)) rd

/-! ### calls of the text's own defs -/
theorem call_sp {call : Nat → List E → Cells → R E} {f : Nat} {σ : L2.St} {es : List E} {vs : List V} {G : Hp} {am : List Addr} {C : Cells} {H : Hp} {Q : VK} (wd : Wd X.K cA G am C H) (re : RelEs X.K cA G am es vs) (d : Dn X.K cA (rE X.K cA) W σ (call f es C) G am C H Q) :
    spF X.K cA call f vs H Q (WE W σ) := by
  refine ⟨es, G, am, C, wd, re, ?_⟩
  cases e : call f es C with
  | ok x C' => rw [e] at d; exact d
  | bad => rw [e] at d; exact d
  | exc c fs C' => rw [e] at d; exact d
/-- a callee that sees no cells -/
theorem pure_dn {call : Nat → List E → Cells → R E} {f : Nat} {σ : L2.St} {ds : List D} {G : Hp} {am : List Addr} {C : Cells} {H : Hp} {Q : VK} (wd : Wd X.K cA G am C H) (d : Dn X.K cA (rE X.K cA) W σ (pureCall call f ds C) G am C H Q) :
    Wd X.K cA G [] [] H ∧ Dn X.K cA (rE X.K cA) W σ (call f (ds.map .v) []) G [] [] H Q := by
  have w0 : Wd X.K cA G [] [] H := ⟨wd.tabs, wd.sub, rfl, fun i c e => by simp at e, fun i j c d a e => by simp at e⟩
  have up : ∀ {G' am' C' H'}, Ext G [] [] H G' am' C' H' → Wd X.K cA G' am' C' H' → Wd X.K cA G' am C H' ∧ Ext G am C H G' am C H' := fun {G' am' C' H'} x w => by
    have nl : ∀ b, ¬ Live [] [] b := fun b ⟨i, c, e, _⟩ => by simp at e
    have hk : ∀ b o, H b = some o → (∀ ps, o ≠ .tbl ps) → H' b = some o := fun b o e t => x.keep b o e (nl b) t
    refine ⟨⟨w.tabs, w.sub, wd.len, fun i c e => ?_, wd.inj⟩, ⟨x.g, ⟨[], by simp⟩, fun b o e _ t => hk b o e t, fun b ps e _ => x.tab b ps e (nl b), fun b l => .inl l, fun b o e => ?_, fun _ _ h => h⟩⟩
    · obtain ⟨b, h1, h2, h3⟩ := wd.cell i c e
      have there : ∃ o, H b = some o := by
        cases c with
        | lst xs => obtain ⟨us, z, _⟩ := h2; exact ⟨_, z⟩
        | lkd xs => obtain ⟨us, z, _⟩ := h2; exact ⟨_, z⟩
        | dct kvs => exact h2.elim
        | ins c fs => obtain ⟨_, _, _, _, z, _⟩ := h2; exact ⟨_, z⟩
      refine ⟨b, h1, ?_, ?_⟩
      · cases c with
        | lst xs => obtain ⟨us, z, r⟩ := h2; exact ⟨us, hk _ _ z (by intro ps q; cases q), r.mono x.g⟩
        | lkd xs => obtain ⟨us, z, r⟩ := h2; exact ⟨us, hk _ _ z (by intro ps q; cases q), r.mono x.g⟩
        | dct kvs => exact h2
        | ins c fs => obtain ⟨Ca, dx, gs, z1, z2, z3, r⟩ := h2; exact ⟨Ca, dx, gs, z1, hk _ _ z2 (by intro ps q; cases q), hk _ _ z3 (by intro ps q; cases q), r.mono x.g ⟨[], by simp⟩⟩
      · cases e2 : G' b with
        | none => rfl
        | some o =>
          obtain ⟨o', e3⟩ := there
          rcases x.gn b o e2 with z | z | z
          · rw [h3] at z; cases z
          · rw [e3] at z; cases z
          · exact (nl b z).elim
    · rcases x.gn b o e with z | z | z
      · exact .inl z
      · exact .inr (.inl z)
      · exact (nl b z).elim
  refine ⟨w0, ?_⟩
  unfold pureCall at d
  cases e : call f (ds.map .v) [] with
  | bad => rw [e] at d; exact d
  | exc c fs C' =>
    rw [e] at d
    intro G' am' H' cls dd x w r
    obtain ⟨w2, x2⟩ := up x w
    exact d G' am H' cls dd x2 w2 r
  | ok y C' =>
    rw [e] at d
    cases y with
    | v dy =>
      intro G' am' H' v x w r
      obtain ⟨w2, x2⟩ := up x w
      exact d G' am H' v x2 w2 r
    | _ => exact d.elim
theorem r_call {pr : Prog} {tb : Tab} {call : Nat → List E → Cells → R E} (g : Gd sx k W X) (F : Facts X.prog X.w X.K X.mg X.base cA pr tb k call) {f : Nat} {nm : Nm} {x : Str} {p : Pos} (hf : tb.fn[f]? = some nm) (hn : nm ≠ []) (hx : T nm = x) (hg : glB sx.sc x = true) (hh : sx.hot = false)
    (hp : plainX a = true) (hps : es.all plainX = true) (hs : PA X (a :: es) (tEs X.K cA W fs)) : PE X (.Call (.Name x p) (a :: es) [] pos) (tE X.K cA W fun env C => (fs env C).bind fun xs C => call f xs C) := by
  obtain ⟨g1, g2, g3⟩ := g.gl hg
  obtain ⟨fa, fd, ps, h1, h2, h3, h4⟩ := F.fn f nm hf hn
  subst hx
  refine PE.imp (pe_callSD h4 (g.room hh) g1 h1 h2 h3 .nil (fun σ => passAt g.tk σ) hs g2 (star_cons hp) (star_any0 hps)) fun σ H Q h => ?_
  obtain ⟨env, G, am, C, re, wd, d⟩ := tEs_one h
  refine ⟨env, G, am, C, re, wd, Dn.imp d fun vs H1 ⟨env1, G1, am1, C1, xs, re1, w1, rx, d1⟩ => ?_⟩
  rw [List.append_nil]
  exact call_sp w1 rx d1
theorem r_callP {pr : Prog} {tb : Tab} {call : Nat → List E → Cells → R E} (g : Gd sx k W X) (F : Facts X.prog X.w X.K X.mg X.base cA pr tb k call) {f : Nat} {nm : Nm} {x : Str} {p : Pos} (hf : tb.fn[f]? = some nm) (hn : nm ≠ []) (hx : T nm = x) (hg : glB sx.sc x = true) (hh : sx.hot = false)
    (hp : plainX a = true) (hps : es.all plainX = true) (hs : PA X (a :: es) (tEs X.K cA W fs)) : PE X (.Call (.Name x p) (a :: es) [] pos) (tE X.K cA W fun env C => (fs env C).bind fun xs C => match vals xs with
      | none => .bad
      | some ds => pureCall call f ds C) := by
  obtain ⟨g1, g2, g3⟩ := g.gl hg
  obtain ⟨fa, fd, ps, h1, h2, h3, h4⟩ := F.fn f nm hf hn
  subst hx
  refine PE.imp (pe_callSD h4 (g.room hh) g1 h1 h2 h3 .nil (fun σ => passAt g.tk σ) hs g2 (star_cons hp) (star_any0 hps)) fun σ H Q h => ?_
  obtain ⟨env, G, am, C, re, wd, d⟩ := tEs_one h
  refine ⟨env, G, am, C, re, wd, Dn.imp d fun vs H1 ⟨env1, G1, am1, C1, xs, re1, w1, rx, d1⟩ => ?_⟩
  rw [List.append_nil]
  cases e : vals xs with
  | none => simp only [e] at d1; exact d1.elim
  | some ds =>
    simp only [e] at d1
    obtain ⟨w2, d2⟩ := pure_dn w1 d1
    exact call_sp w2 (RelEs.ofD (vals_rel rx e)) d2
theorem r_call0 {pr : Prog} {tb : Tab} {call : Nat → List E → Cells → R E} (g : Gd sx k W X) (F : Facts X.prog X.w X.K X.mg X.base cA pr tb k call) {f : Nat} {nm : Nm} {x : Str} {p : Pos} (hf : tb.fn[f]? = some nm) (hn : nm ≠ []) (hx : T nm = x) (hg : glB sx.sc x = true) (hh : sx.hot = false) :
    PE X (.Call (.Name x p) [] [] pos) (tE X.K cA W fun env C => call f [] C) := by
  obtain ⟨g1, g2, g3⟩ := g.gl hg
  obtain ⟨fa, fd, ps, h1, h2, h3, h4⟩ := F.fn f nm hf hn
  subst hx
  refine ⟨fun pins s σ H Q I ⟨env, G, am, C, re, wd, d⟩ => ?_⟩
  refine wpAny_Call_Name_kw (ld_glob I g1 h1 ?_ g2)
  exact PySem.W.callWith_K0 I.kIn h2 (run_fnSD (us := []) (vs := []) h4 (g.room hh) h3 .nil (passAt g.tk σ) I .nil (call_sp (es := []) (vs := []) wd rfl d))
theorem r_callP0 {pr : Prog} {tb : Tab} {call : Nat → List E → Cells → R E} (g : Gd sx k W X) (F : Facts X.prog X.w X.K X.mg X.base cA pr tb k call) {f : Nat} {nm : Nm} {x : Str} {p : Pos} (hf : tb.fn[f]? = some nm) (hn : nm ≠ []) (hx : T nm = x) (hg : glB sx.sc x = true) (hh : sx.hot = false) :
    PE X (.Call (.Name x p) [] [] pos) (tE X.K cA W fun env C => pureCall call f [] C) := by
  obtain ⟨g1, g2, g3⟩ := g.gl hg
  obtain ⟨fa, fd, ps, h1, h2, h3, h4⟩ := F.fn f nm hf hn
  subst hx
  refine ⟨fun pins s σ H Q I ⟨env, G, am, C, re, wd, d⟩ => ?_⟩
  obtain ⟨w2, d2⟩ := pure_dn wd d
  refine wpAny_Call_Name_kw (ld_glob I g1 h1 ?_ g2)
  exact PySem.W.callWith_K0 I.kIn h2 (run_fnSD (us := []) (vs := []) h4 (g.room hh) h3 .nil (passAt g.tk σ) I .nil (call_sp (es := []) (vs := []) w2 rfl d2))
end
end Ev

end

section
set_option maxRecDepth 512
set_option Elab.async false
set_option linter.all false
set_option maxRecDepth 100000
set_option maxHeartbeats 4000000
namespace Ev
open PySem L2 PySem.Spec PyProof.Rows

/-! ### isinstance of built-in classes -/
def tyN : Ty → String
  | .str => "str"
  | .int => "int"
  | .bool => "bool"
  | .list => "list"
  | .tuple => "tuple"
  | .dict => "dict"
  | .cls _ => ""
def tyOk : Ty → Bool
  | .cls _ => false
  | _ => true
theorem tyBoot {t : Ty} (h : tyOk t = true) : bootBuiltins (tyN t) = some (.type (tyN t)) := by
  cases t <;> first | (simp [tyOk] at h; done) | skip
  · exact PyProof.Rows.boot_str
  · exact PyProof.Rows.boot_int
  · exact PyProof.Rows.boot_bool
  · exact PyProof.Rows.boot_list
  · exact PyProof.Rows.boot_tuple
  · exact PyProof.Rows.boot_dict
def dTy : D → String
  | .non => "NoneType"
  | .bl _ => "bool"
  | .int _ => "int"
  | .str _ => "str"
  | .tup _ => "tuple"
  | .lst _ => "list"
  | .dct _ => "dict"
  | .ins _ _ => ""
theorem kit_all {K : PySem.W.Frag} {d : D} {t : Ty} (hd : dOk d = true) (h : tyOk t = true) : PySem.W.kitOne K (.type (dTy d)) (.type (tyN t)) = some (isT d t) := by
  cases d <;> first | (simp [dOk] at hd; done) | skip
  all_goals (cases t <;> first | (simp [tyOk] at h; done) | skip)
  all_goals exact kit_ty (by simp only [dTy, tyN, isT]; decide +kernel)
theorem kit_any {K : PySem.W.Frag} {d : D} (hd : dOk d = true) : ∀ {ts : List Ty} {b : Bool}, ts.all tyOk = true → isEs [] (.v d) ts = some b → PySem.W.kitAny K (.type (dTy d)) (ts.map fun t => .type (tyN t)) = some b
  | [], b, _, e => by cases e; rfl
  | t :: ts, b, h, e => by
    rw [List.all_cons, Bool.and_eq_true] at h
    simp only [isEs, isE, see, Option.bind_some] at e
    simp only [List.map_cons, PySem.W.kitAny, kit_all hd h.1]
    cases z : isT d t with
    | true => simp only [z, if_true] at e; cases e; rfl
    | false => simp only [z, Bool.false_eq_true, if_false] at e; exact kit_any hd h.2 e
theorem tyX_of {K : PySem.W.Frag} {cA : Cfg} {G H : Hp} (sb : Same G H) {d : D} {v : V} (hd : dOk d = true) (r : RelS K cA G H d v) : TyX K H v (.type (dTy d)) := by
  cases d <;> first | (simp [dOk] at hd; done) | skip
  · simp only [RelS, RelD] at r; subst r; exact .base .non
  · simp only [RelS, RelD] at r; subst r; exact .base (.bl _)
  · simp only [RelS, RelD] at r; subst r; exact .base (.int _)
  · simp only [RelS, RelD] at r; subst r; exact .base (.str _)
  · simp only [RelS, RelD] at r
    obtain ⟨p, us, rfl, h1, _⟩ := r
    rcases Same.sqt sb h1 with (h | ⟨o, h⟩) | ⟨o, its, n, h, hc, _⟩
    · exact .base (.tup h)
    · exact .fTuple h
    · exact .kTuple h hc
  · obtain ⟨p, us, rfl, h1, _⟩ := r
    rcases h1 with (h | ⟨o, h⟩) | ⟨o, its, n, h, hc, _⟩
    · exact .base (.lst h)
    · exact .base (.frz h)
    · exact .kList h hc
section
variable {X : Cx} {cA : Cfg} {sx : Sx} {k : Nat} {W : WX} {a b c : Expr} {es : List Expr} {fa fb fc : Env → Cells → R E} {fs : Env → Cells → R (List E)} {pos : Pos}
theorem starEach_one {e : Expr} {env : PySem.Env} (h : plainX e = true) : starEach [e] env = [(false, eval e env)] := star_cons h
/-- isinstance(a, T) -/
theorem r_isi1 {P : Program} {w : World} {base : Heap} {pr : Prog} {tb : Tab} {j : Nat} {call : Nat → List E → Cells → R E} (g : Gd sx k W X) (F : Facts P w X.K X.mg base cA pr tb j call) {x : Str} {p q : Pos} (hx : ("isinstance" : Str) = x) (hg : glB sx.sc x = true) {t : Ty} {y : Str} (ht : tyOk t = true) (hy : (tyN t : Str) = y) (hm : X.mg y = none) (hgy : glB sx.sc y = true) (hp : plainX a = true)
    (ha : PE X a (tE X.K cA W fa)) : PE X (.Call (.Name x p) [a, .Name y q] [] pos) (tE X.K cA W fun env C => (fa env C).bind fun x C => R.of ((isiE C x [t]).map fun b => .v (.bl b)) C) := by
  obtain ⟨g1, g2, g3⟩ := g.gl hg
  obtain ⟨g4, g5, g6⟩ := g.gl hgy
  subst hx
  subst hy
  refine PE.imp (pe_callB call_isi g1 F.isi PyProof.Rows.boot_isinstance (pa_cons ha (pa_cons (pe_bltn (v := .ty (tyN t)) g4 hm (tyBoot ht) rfl g6 g5) pa_nil (star_cons rfl)) (star_cons hp)) g3 g2 (star_cons hp) rfl) fun σ H Q h => ?_
  obtain ⟨env, G, am, C, re, wd, d⟩ := tE_one h
  refine ⟨env, G, am, C, re, wd, Dn.imp d fun vx H1 ⟨env1, G1, am1, C1, x, re1, w1, rx, d1⟩ => ?_⟩
  obtain ⟨e, he, d1⟩ := of_some d1
  rw [Option.map_eq_some_iff] at he
  obtain ⟨bb, he, rfl⟩ := he
  unfold isiE at he
  cases e1 : see C1 x with
  | none => simp only [e1] at he; cases he
  | some dx =>
    simp only [e1] at he
    split at he
    · rename_i hd
      have ka := kit_any (K := X.K) hd (ts := [t]) (by simp [ht]) he
      have k1 : PySem.W.kitOne X.K (.type (dTy dx)) (.type (tyN t)) = some bb := by
        have k0 := kit_all (K := X.K) hd ht
        rw [k0]
        simp only [isEs, isE, see, Option.bind_some] at he
        cases z : isT dx t <;> simp [z] at he <;> rw [← he]
      exact ⟨vx, .ty (tyN t), .type (dTy dx), .type (tyN t), bb, rfl, .ty _, tyX_of w1.sub hd (see_rel w1 rx e1), k1, d1.here w1 (by simp only [rE, RelE, RelD])⟩
    · cases he
/-- isinstance(a, (T, U)) -/
theorem tys_vals : ∀ ts : List Ty, Paired ClsV (ts.map fun t => V.ty (tyN t)) (ts.map fun t => Value.type (tyN t))
  | [] => .nil
  | t :: ts => .cons (.ty _) (tys_vals ts)
theorem r_isi2 {P : Program} {w : World} {base : Heap} {pr : Prog} {tb : Tab} {j : Nat} {call : Nat → List E → Cells → R E} (g : Gd sx k W X) (F : Facts P w X.K X.mg base cA pr tb j call) {x : Str} {p q1 q2 q3 : Pos} {n : Nat} (hx : ("isinstance" : Str) = x) (hg : glB sx.sc x = true)
    {t u : Ty} {y z : Str} (ht : tyOk t = true) (hy : (tyN t : Str) = y) (hm : X.mg y = none) (hgy : glB sx.sc y = true) (ht2 : tyOk u = true) (hz : (tyN u : Str) = z) (hm2 : X.mg z = none) (hgz : glB sx.sc z = true) (hp : plainX a = true)
    (ha : PE X a (tE X.K cA W fa)) : PE X (.Call (.Name x p) [a, .Tuple [.Name y q1, .Name z q2] n q3] [] pos) (tE X.K cA W fun env C => (fa env C).bind fun x C => R.of ((isiE C x [t, u]).map fun b => .v (.bl b)) C) := by
  obtain ⟨g1, g2, g3⟩ := g.gl hg
  obtain ⟨g4, g5, g6⟩ := g.gl hgy
  obtain ⟨g7, g8, g9⟩ := g.gl hgz
  subst hx
  subst hy
  subst hz
  refine PE.imp (pe_callB call_isiT g1 F.isi PyProof.Rows.boot_isinstance (pa_cons ha (pa_cons (pe_tup (pa_cons (pe_bltn (v := .ty (tyN t)) g4 hm (tyBoot ht) rfl g6 g5) (pa_cons (pe_bltn (v := .ty (tyN u)) g7 hm2 (tyBoot ht2) rfl g9 g8) pa_nil (star_cons rfl)) (star_cons rfl))) pa_nil (star_cons rfl)) (star_cons hp)) g3 g2 (star_cons hp) rfl) fun σ H Q h => ?_
  obtain ⟨env, G, am, C, re, wd, d⟩ := tE_one h
  refine ⟨env, G, am, C, re, wd, Dn.imp d fun vx H1 ⟨env1, G1, am1, C1, x, re1, w1, rx, d1⟩ => ?_⟩
  obtain ⟨e, he, d1⟩ := of_some d1
  rw [Option.map_eq_some_iff] at he
  obtain ⟨bb, he, rfl⟩ := he
  unfold isiE at he
  cases e1 : see C1 x with
  | none => simp only [e1] at he; cases he
  | some dx =>
    simp only [e1] at he
    split at he
    · rename_i hd
      have ka := kit_any (K := X.K) hd (ts := [t, u]) (by simp [ht, ht2]) he
      refine ⟨by show 2 ≤ sizeLine; decide, fun p hp => ?_⟩
      obtain ⟨w2, x2⟩ := w1.new hp (.tup [.ty (tyN t), .ty (tyN u)])
      exact ⟨vx, p, [.ty (tyN t), .ty (tyN u)], .type (dTy dx), [.type (tyN t), .type (tyN u)], bb, rfl, upd_same, tys_vals [t, u], tyX_of w2.sub hd (see_rel w2 (RelE.mono x2.g x2.a rx) e1), ka, d1.shift x2 |>.here w2 (by simp only [rE, RelE, RelD])⟩
    · cases he
end
end Ev

end

section
set_option maxRecDepth 512
set_option Elab.async false
set_option linter.all false
set_option maxRecDepth 100000
set_option maxHeartbeats 4000000
namespace Ev
open PySem L2 PySem.Spec PyProof.Rows

section
variable {K : PySem.W.Frag} {cA : Cfg} {G G' : Hp} {am : List Addr} {C : Cells} {H : Hp} {σ : L2.St} {env : Env}
theorem RelEnv.setS {i : Nat} {e : E} {v : V} (re : RelEnv K cA G am env σ) (r : RelSl K cA G am e v) : RelEnv K cA G am (env.set i (some e)) (σ.set i (some v)) := by
  refine ⟨by simp [re.1], fun j e' h => ?_⟩
  by_cases hj : i = j
  · subst hj
    by_cases hl : i < env.length
    · rw [List.getElem?_set_self hl] at h
      cases h
      exact ⟨v, List.getElem?_set_self (by rw [← re.1]; exact hl), r⟩
    · rw [List.getElem?_eq_none (by simpa using hl)] at h; cases h
  · rw [List.getElem?_set_ne hj] at h
    obtain ⟨v', h1, h2⟩ := re.2 j e' h
    exact ⟨v', by rw [List.getElem?_set_ne hj]; exact h1, h2⟩
theorem RelEnv.set {i : Nat} {e : E} {v : V} (re : RelEnv K cA G am env σ) (r : RelE K cA G am e v) : RelEnv K cA G am (env.set i (some e)) (σ.set i (some v)) := re.setS (.inl r)
theorem RelEnv.drop {i : Nat} {o : Option V} (re : RelEnv K cA G am env σ) : RelEnv K cA G am (env.set i none) (σ.set i o) := by
  refine ⟨by simp [re.1], fun j e' h => ?_⟩
  by_cases hj : i = j
  · subst hj
    by_cases hl : i < env.length
    · rw [List.getElem?_set_self hl] at h; cases h
    · rw [List.getElem?_eq_none (by simpa using hl)] at h; cases h
  · rw [List.getElem?_set_ne hj] at h
    obtain ⟨v', h1, h2⟩ := re.2 j e' h
    exact ⟨v', by rw [List.getElem?_set_ne hj]; exact h1, h2⟩
theorem RelEnv.wipe (re : RelEnv K cA G am env σ) : ∀ is : List Nat, RelEnv K cA G am (wipeE env is) (L2.wipe σ is)
  | [] => re
  | i :: is => (RelEnv.wipe re is).drop
end

/-! ### targets -/
/-- alike but at some slots -/
def Off (is : List Nat) (σ σ' : L2.St) : Prop := σ'.length = σ.length ∧ ∀ i, i ∉ is → σ'[i]? = σ[i]?
theorem Off.refl {is : List Nat} {σ : L2.St} : Off is σ σ := ⟨rfl, fun _ _ => rfl⟩
theorem Off.trans {is : List Nat} {σ σ1 σ2 : L2.St} (a : Off is σ σ1) (b : Off is σ1 σ2) : Off is σ σ2 := ⟨b.1.trans a.1, fun i h => (b.2 i h).trans (a.2 i h)⟩
theorem Off.mono {is js : List Nat} {σ σ' : L2.St} (a : Off is σ σ') (h : ∀ i ∈ is, i ∈ js) : Off js σ σ' := ⟨a.1, fun i hi => a.2 i fun z => hi (h i z)⟩
theorem wipe_get {σ : L2.St} : ∀ {vs : List Nat} {i : Nat}, (L2.wipe σ vs)[i]? = if i ∈ vs then (if i < σ.length then some none else none) else σ[i]?
  | [], i => by simp [L2.wipe]
  | v :: vs, i => by
    unfold L2.wipe
    by_cases hi : v = i
    · subst hi
      by_cases hl : v < σ.length
      · rw [List.getElem?_set_self (by rw [wipe_length]; exact hl)]; simp [hl]
      · rw [List.getElem?_eq_none (by simp [wipe_length]; omega)]; simp [hl]
    · rw [List.getElem?_set_ne hi, wipe_get]
      have : i ≠ v := fun e => hi e.symm
      simp [this]
theorem Off.wipe {is vs : List Nat} {σ σ' : L2.St} (a : Off is σ σ') (h : ∀ i ∈ is, i ∈ vs) : L2.wipe σ' vs = L2.wipe σ vs := by
  apply List.ext_getElem?
  intro i
  rw [wipe_get, wipe_get, a.1]
  by_cases hi : i ∈ vs
  · simp [hi]
  · simp only [hi, if_false]
    exact a.2 i fun z => hi (h i z)
def tG (K : PySem.W.Frag) (cA : Cfg) (t : Tg) : TG := fun v σ H Q =>
  ∃ env G am C d env', RelEnv K cA G am env σ ∧ Wd K cA G am C H ∧ RelD K cA G d v ∧ asgT t d env = some env' ∧ ∀ σ', RelEnv K cA G am env' σ' → Off (tsl t) σ σ' → Q σ' H
def tGs (K : PySem.W.Frag) (cA : Cfg) (t : Tgs) : TGs := fun vs σ H Q =>
  ∃ env G am C ds env', RelEnv K cA G am env σ ∧ Wd K cA G am C H ∧ RelDs K cA G ds vs ∧ asgTs t ds env = some env' ∧ ∀ σ', RelEnv K cA G am env' σ' → Off (tsls t) σ σ' → Q σ' H
theorem PG.imp {X : Cx} {e : Expr} {t t' : TG} (h : PG X e t) (i : ∀ v σ H Q, t' v σ H Q → t v σ H Q) : PG X e t' := ⟨fun pins s σ H v u Q I r q => h.run pins s σ H v u Q I r (i v σ H Q q)⟩
theorem PG.or {X : Cx} {e : Expr} {t t' : TG} (h : PG X e t) (h' : PG X e t') : PG X e (fun v σ H Q => t v σ H Q ∨ t' v σ H Q) := ⟨fun pins s σ H v u Q I r q => q.elim (h.run pins s σ H v u Q I r) (h'.run pins s σ H v u Q I r)⟩
theorem PGs.imp {X : Cx} {e : List Expr} {t t' : TGs} (h : PGs X e t) (i : ∀ v σ H Q, t' v σ H Q → t v σ H Q) : PGs X e t' := ⟨fun pins s σ H v u Q I r q => h.run pins s σ H v u Q I r (i v σ H Q q)⟩
mutual
def ckT (sx : Sx) : Tg → Expr → Bool
  | .nm i, .Name x _ => nmAt sx.N i x && sx.st.any fun y => decide (T y = x)
  | .tup ts, .Tuple es _ _ => !sx.hot && ckTs sx ts es
  | _, _ => false
def ckTs (sx : Sx) : Tgs → List Expr → Bool
  | .nil, [] => true
  | .cons t ts, e :: es => plainX e && ckT sx t e && ckTs sx ts es
  | _, _ => false
end
theorem each_len {env : PySem.Env} : ∀ {es : List Expr}, es.all plainX = true → (assignEach es env).length = es.length
  | [], _ => rfl
  | e :: es, h => by
    rw [List.all_cons, Bool.and_eq_true] at h
    have := each_len (env := env) h.2
    cases e <;> first | (simp [plainX] at h; done) | (show (assignEach es env).length + 1 = es.length + 1; rw [this])
theorem each_idx {env : PySem.Env} : ∀ {es : List Expr}, es.all plainX = true → (assignEach es env).findIdx? (·.1) = none
  | [], _ => rfl
  | e :: es, h => by
    rw [List.all_cons, Bool.and_eq_true] at h
    have ih := each_idx (env := env) h.2
    have e1 : assignEach (e :: es) env = (false, assign e env) :: assignEach es env := by
      cases e <;> first | rfl | (simp [plainX] at h)
    rw [e1, List.findIdx?_cons]
    simp [ih]
theorem ckTs_plain {sx : Sx} : ∀ {ts : Tgs} {es : List Expr}, ckTs sx ts es = true → es.all plainX = true
  | .nil, [], _ => rfl
  | .cons t ts, e :: es, h => by
    simp only [ckTs, Bool.and_eq_true] at h
    rw [List.all_cons, Bool.and_eq_true]
    exact ⟨h.1.1, ckTs_plain h.2⟩
  | .nil, _ :: _, h => by simp [ckTs] at h
  | .cons _ _, [], h => by simp [ckTs] at h
def tlen : Tgs → Nat
  | .nil => 0
  | .cons _ ts => tlen ts + 1
theorem ckTs_len {sx : Sx} : ∀ {ts : Tgs} {es : List Expr}, ckTs sx ts es = true → es.length = tlen ts
  | .nil, [], _ => rfl
  | .cons t ts, e :: es, h => by
    simp only [ckTs, Bool.and_eq_true] at h
    simp [tlen, ckTs_len h.2]
  | .nil, _ :: _, h => by simp [ckTs] at h
  | .cons _ _, [], h => by simp [ckTs] at h
theorem asgTs_len : ∀ {ts : Tgs} {ds : List D} {env env' : Env}, asgTs ts ds env = some env' → ds.length = tlen ts
  | .nil, [], _, _, _ => rfl
  | .nil, _ :: _, _, _, h => by simp [asgTs] at h
  | .cons _ _, [], _, _, h => by simp [asgTs] at h
  | .cons t ts, d :: ds, env, env', h => by
    simp only [asgTs, Option.bind_eq_some_iff] at h
    obtain ⟨e1, _, h⟩ := h
    simp [tlen, asgTs_len h]
section
variable {X : Cx} {cA : Cfg} {sx : Sx} {k : Nat} {W : WX}
mutual
theorem r_tg (g : Gd sx k W X) : ∀ {t : Tg} {e : Expr}, ckT sx t e = true → PG X e (tG X.K cA t)
  | .nm i, .Name x p, h => by
    simp only [ckT, Bool.and_eq_true, List.any_eq_true, decide_eq_true_eq] at h
    obtain ⟨h1, y, hy, rfl⟩ := h
    obtain ⟨l1, l2⟩ := g.stb y hy
    refine PG.imp (pg_name g.nd (g.at h1) l1 l2) fun v σ H Q ⟨env, G, am, C, d, env', re, wd, rd, ea, q⟩ => ?_
    simp only [asgT, Option.some.injEq] at ea
    subst ea
    exact q _ (re.set (e := .v d) rd) ⟨by simp, fun j hj => List.getElem?_set_ne fun e => hj (by simp [tsl, e])⟩
  | .tup ts, .Tuple es n p, h => by
    simp only [ckT, Bool.and_eq_true, Bool.not_eq_true'] at h
    have pl := ckTs_plain h.2
    have hh := g.calm h.1
    have len := (each_len (env := X.env) pl).trans (ckTs_len h.2)
    have ps := r_tgs g h.2
    refine PG.imp (PG.or (pg_tup hh ps len (each_idx pl)) (pg_lst hh ps len (each_idx pl))) fun v σ H Q ⟨env, G, am, C, d, env', re, wd, rd, ea, q⟩ => ?_
    cases d with
    | tup xs =>
      simp only [asgT] at ea
      simp only [RelD] at rd
      obtain ⟨a, us, rfl, h1, h2⟩ := rd
      exact .inl ⟨a, us, rfl, Same.sqt wd.sub h1, by rw [← h2.length]; exact asgTs_len ea, env, G, am, C, xs, env', re, wd, h2, ea, fun σ' r o => q σ' r o⟩
    | lst xs =>
      simp only [asgT] at ea
      simp only [RelD] at rd
      obtain ⟨a, us, rfl, h1, h2⟩ := rd
      exact .inr ⟨a, us, rfl, wd.sub.seq h1, by rw [← h2.length]; exact asgTs_len ea, env, G, am, C, xs, env', re, wd, h2, ea, fun σ' r o => q σ' r o⟩
    | _ => simp [asgT] at ea
theorem r_tgs (g : Gd sx k W X) : ∀ {ts : Tgs} {es : List Expr}, ckTs sx ts es = true → PGs X es (tGs X.K cA ts)
  | .nil, [], h => PGs.imp pgs_nil fun vs σ H Q ⟨env, G, am, C, ds, env', re, wd, rd, ea, q⟩ => by
    cases ds with
    | nil =>
      simp only [asgTs, Option.some.injEq] at ea
      subst ea
      exact ⟨by simpa only [RelDs] using rd, q σ re Off.refl⟩
    | cons d ds => simp [asgTs] at ea
  | .cons t ts, e :: es, h => by
    simp only [ckTs, Bool.and_eq_true] at h
    have hs : (assignEach (e :: es) X.env).map (·.2) = assign e X.env :: (assignEach es X.env).map (·.2) := by
      have := h.1.1
      cases e <;> first | rfl | (simp [plainX] at this)
    refine PGs.imp (pgs_cons (r_tg g h.1.2) (r_tgs g h.2) hs) fun vs σ H Q ⟨env, G, am, C, ds, env', re, wd, rd, ea, q⟩ => ?_
    cases ds with
    | nil => simp [asgTs] at ea
    | cons d ds =>
      simp only [asgTs, Option.bind_eq_some_iff] at ea
      obtain ⟨e1, a1, a2⟩ := ea
      simp only [RelDs] at rd
      obtain ⟨v, r, rfl, r1, r2⟩ := rd
      exact ⟨v, r, rfl, env, G, am, C, d, e1, re, wd, r1, a1, fun σ' re' o1 => ⟨e1, G, am, C, ds, env', re', wd, r2, a2, fun σ'' r'' o2 => q σ'' r'' ((o1.mono fun i hi => by simp [tsls, hi]).trans (o2.mono fun i hi => by simp [tsls, hi]))⟩⟩
end
end

/-! ### what is walked -/
theorem PI.imp {X : Cx} {tg e : Expr} {t t' : TI} (h : PI X tg e t) (i : ∀ σ H Q, t' σ H Q → t σ H Q) : PI X tg e t' := ⟨fun pins s σ H R I q => h.run pins s σ H R I (i σ H R q)⟩
theorem PI.or {X : Cx} {tg e : Expr} {t t' : TI} (h : PI X tg e t) (h' : PI X tg e t') : PI X tg e (fun σ H R => t σ H R ∨ t' σ H R) := ⟨fun pins s σ H R I q => q.elim (h.run pins s σ H R I) (h'.run pins s σ H R I)⟩
/-- behind a world, for what is walked -/
structure Bhd (G : Hp) (am : List Addr) (C : Cells) (G2 : Hp) (am2 : List Addr) (C2 : Cells) : Prop where
  g : Same G G2
  a : ∃ t, am2 = am ++ t
  lk : ∀ (n : Nat) (xs : List D), C[n]? = some (some (.lkd xs)) → C2[n]? = some (some (.lkd xs))
/-- J yields the trees ds, in any world behind this one -/
def WalkD (K : PySem.W.Frag) (cA : Cfg) (J : L2.It) (ds : List D) (G : Hp) (am : List Addr) (C : Cells) (H : Hp) : Prop :=
  ∀ G2 am2 C2 H2, Bhd G am C G2 am2 C2 → Wd K cA G2 am2 C2 H2 →
    (∀ i, i < ds.length → J.go i H2) ∧ J.stop ds.length H2 ∧ ∀ i x H', i < ds.length → J.yld i H2 x H' → ∃ d G', ds[i]? = some d ∧ Ext G2 am2 C2 H2 G' am2 C2 H' ∧ Wd K cA G' am2 C2 H' ∧ RelD K cA G' d x
/-- what a walk asks -/
def DnI (K : PySem.W.Frag) (cA : Cfg) (W : WX) (σ : L2.St) (r : R (List D × E)) (G : Hp) (am : List Addr) (C : Cells) (H : Hp) (R : L2.It → Hp → Prop) : Prop :=
  match r with
  | .ok a C' => ∀ G' am' H' J, Ext G am C H G' am' C' H' → Wd K cA G' am' C' H' → WalkD K cA J a.1 G' am' (lock C' a.2) H' → R J H'
  | .exc c fs C' => ∀ G' am' H' cls dd, Ext G am C H G' am' C' H' → Wd K cA G' am' C' H' → RelX K cA G' c fs cls dd → W cls dd σ H'
  | .bad => False
def tI (K : PySem.W.Frag) (cA : Cfg) (W : WX) (ev : Env → Cells → R (List D × E)) : TI := fun σ H R =>
  ∃ env G am C, RelEnv K cA G am env σ ∧ Wd K cA G am C H ∧ DnI K cA W σ (ev env C) G am C H R
section
variable {K : PySem.W.Frag} {cA : Cfg} {W : WX} {σ : L2.St} {G G' : Hp} {am am' : List Addr} {C C' : Cells} {H H' : Hp}
theorem DnI.shift {r : R (List D × E)} {Q : L2.It → Hp → Prop} (x : Ext G am C H G' am' C' H') (h : DnI K cA W σ r G am C H Q) : DnI K cA W σ r G' am' C' H' Q := by
  cases r with
  | ok a C2 => exact fun G2 am2 H2 v x2 w2 r2 => h G2 am2 H2 v (x.trans x2) w2 r2
  | exc c fs C2 => exact fun G2 am2 H2 v dd x2 w2 r2 => h G2 am2 H2 v dd (x.trans x2) w2 r2
  | bad => exact h
theorem DnI.bind {α β : Type} {Rl : WRel α β} {r : R α} {f : α → Cells → R (List D × E)} {Q : L2.It → Hp → Prop} (h : DnI K cA W σ (r.bind f) G am C H Q) :
    Dn K cA Rl W σ r G am C H fun v H1 => ∃ G1 am1 C1 a, Ext G am C H G1 am1 C1 H1 ∧ Wd K cA G1 am1 C1 H1 ∧ Rl G1 am1 C1 H1 a v ∧ DnI K cA W σ (f a C1) G1 am1 C1 H1 Q := by
  cases r with
  | ok a C2 => exact fun G2 am2 H2 v x2 w2 r2 => ⟨G2, am2, C2, a, x2, w2, r2, h.shift x2⟩
  | exc c fs C2 => exact h
  | bad => exact h
/-- a walk over a list, as one of its items' makes tells -/
theorem walkD_of {J : L2.It} {ds : List D} {Gp : Hp → Prop} {n : Nat} {Y : Nat → Hp → V → Hp → Prop} (w : Walk J n Gp Y) (hn : n = ds.length)
    (h : ∀ G2 am2 C2 H2, Bhd G am C G2 am2 C2 → Wd K cA G2 am2 C2 H2 → Gp H2 ∧ ∀ i x H', i < ds.length → Y i H2 x H' → ∃ d G', ds[i]? = some d ∧ Ext G2 am2 C2 H2 G' am2 C2 H' ∧ Wd K cA G' am2 C2 H' ∧ RelD K cA G' d x) : WalkD K cA J ds G am C H := by
  subst hn
  intro G2 am2 C2 H2 x w2
  obtain ⟨h1, h2⟩ := h G2 am2 C2 H2 x w2
  exact ⟨fun i hi => w.goes i H2 hi h1, w.stops H2 h1, fun i x H' hi y => h2 i x H' hi (w.yields i H2 x H' hi h1 y)⟩
/-- where the items lie that a value shows -/
theorem lock_src {e : E} {v : V} {xs : List D} (wd : Wd K cA G am C H) (r : RelE K cA G am e v) (hs : see C e = some (.lst xs)) :
    ∃ a, v = .ref a ∧ (∃ us, SqL K H a us) ∧ ∀ G2 am2 C2 H2, Bhd G am (lock C e) G2 am2 C2 → Wd K cA G2 am2 C2 H2 → ∃ us, us.length = xs.length ∧ SqL K H2 a us ∧ RelDs K cA G2 xs us := by
  cases e with
  | v d =>
    simp only [see, Option.some.injEq] at hs
    subst hs
    simp only [RelE, RelD] at r
    obtain ⟨a, us, rfl, h1, h2⟩ := r
    exact ⟨a, rfl, ⟨us, wd.sub.seq h1⟩, fun G2 am2 C2 H2 x w2 => ⟨us, h2.length.symm, w2.sub.seq (x.g.seq h1), h2.mono x.g⟩⟩
  | r n =>
    obtain ⟨a, h1, rfl⟩ := r
    simp only [see, cellAt] at hs
    cases hc : C[n]? with
    | none => simp [hc] at hs
    | some o =>
      cases o with
      | none => simp [hc] at hs
      | some c =>
        simp [hc] at hs
        obtain ⟨a', ha, hO, _⟩ := wd.cell n c hc
        rw [h1] at ha; cases ha
        have hl : (lock C (.r n))[n]? = some (some (.lkd xs)) := by
          simp only [lock, cellAt, hc, Option.join_some]
          cases c with
          | lst ys =>
            simp [cellD] at hs; subst hs
            exact List.getElem?_set_self (List.getElem?_eq_some_iff.mp hc).1
          | lkd ys =>
            simp [cellD] at hs; subst hs
            exact hc
          | dct kvs => exact hO.elim
          | ins c fs => simp [cellD] at hs
        refine ⟨a, rfl, ?_, fun G2 am2 C2 H2 x w2 => ?_⟩
        · cases c with
          | lst ys => obtain ⟨us, z, _⟩ := hO; exact ⟨us, SqL.of z⟩
          | lkd ys => obtain ⟨us, z, _⟩ := hO; exact ⟨us, SqL.of z⟩
          | dct kvs => exact hO.elim
          | ins c fs => simp [cellD] at hs
        · obtain ⟨b, hb, ⟨us, z, rd⟩, _⟩ := w2.cell n _ (x.lk n xs hl)
          obtain ⟨t, ht⟩ := x.a
          rw [ht, List.getElem?_append_left (List.getElem?_eq_some_iff.mp h1).1, h1] at hb
          cases hb
          exact ⟨us, rd.length.symm, SqL.of z, rd⟩
  | clo j => exact r.elim
  | exn c fs => exact r.elim
end
end Ev

end

section
set_option maxRecDepth 512
set_option Elab.async false
set_option linter.all false
set_option maxRecDepth 100000
set_option maxHeartbeats 4000000
namespace Ev
open PySem L2 PySem.Spec PyProof.Rows

section
variable {K : PySem.W.Frag} {cA : Cfg} {W : WX} {σ : L2.St} {G G' : Hp} {am am' : List Addr} {C C' : Cells} {H H' : Hp}
theorem RelDs.back {ds : List D} {us : List V} {i : Nat} {x : V} (r : RelDs K cA G ds us) (h : us[i]? = some x) : ∃ d, ds[i]? = some d ∧ RelD K cA G d x := by
  have hi : i < ds.length := by rw [r.length]; exact (List.getElem?_eq_some_iff.mp h).1
  obtain ⟨v, h1, h2⟩ := r.get (i := i) (d := ds[i]) (by simp [hi])
  rw [h] at h1; cases h1
  exact ⟨ds[i], by simp [hi], h2⟩
theorem rangeD_get : ∀ (n : Nat) (lo s : Int) (i : Nat), i < n → (rangeD lo s n)[i]? = some (.int (lo + (i : Nat) * s))
  | 0, _, _, _, h => by omega
  | n + 1, lo, s, 0, _ => by simp [rangeD]
  | n + 1, lo, s, i + 1, h => by
    have e : lo + s + (i : Int) * s = lo + ((i + 1 : Nat) : Int) * s := by
      have : ((i + 1 : Nat) : Int) * s = (i : Int) * s + s := by rw [Int.natCast_succ, Int.add_mul, Int.one_mul]
      omega
    rw [rangeD, List.getElem?_cons_succ, rangeD_get n (lo + s) s i (by omega), e]
theorem rangeD_len : ∀ (n : Nat) (lo s : Int), (rangeD lo s n).length = n
  | 0, _, _ => rfl
  | n + 1, lo, s => by rw [rangeD, List.length_cons, rangeD_len]
theorem enumD_get : ∀ (xs : List D) (k i : Nat) {d : D}, xs[i]? = some d → (enumD k xs)[i]? = some (.tup [.int ((k + i : Nat) : Int), d])
  | [], _, _, _, h => by simp at h
  | x :: xs, k, 0, _, h => by simp at h; subst h; simp [enumD]
  | x :: xs, k, i + 1, _, h => by
    rw [enumD, List.getElem?_cons_succ, enumD_get xs (k + 1) i (by simpa using h), show k + 1 + i = k + (i + 1) by omega]
theorem enumD_len : ∀ (xs : List D) (k : Nat), (enumD k xs).length = xs.length
  | [], _ => rfl
  | x :: xs, k => by rw [enumD, List.length_cons, enumD_len, List.length_cons]
end
section
variable {X : Cx} {cA : Cfg} {sx : Sx} {k : Nat} {W : WX} {a b c : Expr} {es : List Expr} {fa fb fc : Env → Cells → R E} {fs : Env → Cells → R (List E)} {pos : Pos}
theorem r_seq {tg : Expr} (ha : PE X a (tE X.K cA W fa)) : PI X tg a (tI X.K cA W fun env C => (fa env C).bind fun x C => match (see C x).bind seqD with
    | none => .bad
    | some ds => .ok (ds, x) C) := by
  refine PI.imp (PI.or (PI.or (pi_list ha) (pi_tup ha)) (pi_str ha)) fun σ H R ⟨env, G, am, C, re, wd, d⟩ => ?_
  dsimp only at d
  cases e : fa env C with
  | bad => rw [e] at d; exact d.elim
  | exc c fs C1 => rw [e] at d; exact .inl (.inl ⟨env, G, am, C, re, wd, by rw [e]; exact d⟩)
  | ok x C1 =>
    rw [e, Ev.R.bind_ok] at d
    cases e1 : see C1 x with
    | none => simp only [e1, Option.bind_none] at d; exact d.elim
    | some dx =>
      simp only [e1, Option.bind_some] at d
      cases e2 : seqD dx with
      | none => simp only [e2] at d; exact d.elim
      | some ds =>
        simp only [e2] at d
        cases dx <;> simp only [seqD] at e2 <;> first | (cases e2; done) | skip
        case str z =>
          cases e2
          refine .inr ⟨env, G, am, C, re, wd, ?_⟩
          rw [e]
          intro G' am' H' v x1 w1 rl
          have hs := see_rel w1 rl e1
          simp only [RelS, RelD] at hs
          subst hs
          refine ⟨_, rfl, d G' am' H' _ x1 w1 (walkD_of (walk_str (z := T z)) (by simp [T]) fun G2 am2 C2 H2 x2 w2 => ⟨True.intro, fun i y H3 hi ⟨q1, c, q2, q3⟩ => ?_⟩)⟩
          subst q1 q3
          have q2' : z[i]? = some c := by simpa [T] using q2
          exact ⟨.str [c], G2, by simp [q2'], Ext.refl, w2, by simp only [RelD]⟩
        case tup xs =>
          cases e2
          refine .inl (.inr ⟨env, G, am, C, re, wd, ?_⟩)
          rw [e]
          intro G' am' H' v x1 w1 rl
          have hs := see_rel w1 rl e1
          simp only [RelS, RelD] at hs
          obtain ⟨p, us, rfl, h1, h2⟩ := hs
          refine ⟨p, rfl, ⟨us, Same.sqt w1.sub h1⟩, d G' am' H' _ x1 w1 (walkD_of (walk_tup (K := X.K) (a := p) (xs := us)) h2.length.symm fun G2 am2 C2 H2 x2 w2 => ⟨Same.sqt w2.sub (Same.sqt x2.g h1), fun i y H3 hi ⟨q1, q2⟩ => ?_⟩)⟩
          subst q1
          obtain ⟨d2, q3, q4⟩ := (h2.mono x2.g).back q2
          exact ⟨d2, G2, q3, Ext.refl, w2, q4⟩
        case lst xs =>
          cases e2
          refine .inl (.inl ⟨env, G, am, C, re, wd, ?_⟩)
          rw [e]
          intro G' am' H' v x1 w1 rl
          obtain ⟨p, rfl, hs, later⟩ := lock_src w1 rl e1
          refine ⟨p, rfl, hs, d G' am' H' _ x1 w1 fun G2 am2 C2 H2 x2 w2 => ?_⟩
          obtain ⟨us, hl, hq, rd⟩ := later G2 am2 C2 H2 x2 w2
          have wk := walk_list (K := X.K) (a := p) (xs := us)
          refine ⟨fun i hi => wk.goes i H2 (by rw [hl]; exact hi) hq, by have z := wk.stops H2 hq; rw [hl] at z; exact z, fun i y H3 hi q => ?_⟩
          obtain ⟨q1, q2⟩ := wk.yields i H2 y H3 (by rw [hl]; exact hi) hq q
          subst q1
          obtain ⟨d2, q3, q4⟩ := rd.back q2
          exact ⟨d2, G2, q3, Ext.refl, w2, q4⟩
theorem rng_ok {i : Int} (h : rngOk i = true) : -(2 ^ 62) ≤ i ∧ i < 2 ^ 62 := of_decide_eq_true h
theorem walk_rng {lo : Int} {n : Nat} {G : Hp} {am : List Addr} {C : Cells} {H : Hp} : WalkD X.K cA (Itr lo n) (rangeD lo 1 n) G am C H :=
  walkD_of walk_range (rangeD_len _ _ _).symm fun G2 am2 C2 H2 x2 w2 => ⟨True.intro, fun i y H3 hi ⟨q1, q2⟩ => by
    subst q1 q2
    rw [rangeD_len] at hi
    exact ⟨_, G2, rangeD_get n lo 1 i hi, Ext.refl, w2, by simp only [RelD, Int.mul_one]⟩⟩
theorem r_range1 {P : Program} {w : World} {base : Heap} {pr : Prog} {tb : Tab} {j : Nat} {call : Nat → List E → Cells → R E} (g : Gd sx k W X) (F : Facts P w X.K X.mg base cA pr tb j call) {tg : Expr} {x : Str} {p : Pos} (hx : ("range" : Str) = x) (hg : glB sx.sc x = true) (hp : plainX a = true)
    (ha : PE X a (tE X.K cA W fa)) : PI X tg (.Call (.Name x p) [a] [] pos) (tI X.K cA W fun env C => (fa env C).bind fun x C => match x with
    | .v (.int j) => if rngOk j then .ok (rangeD 0 1 j.toNat, .v .non) C else .bad
    | _ => .bad) := by
  obtain ⟨g1, g2, g3⟩ := g.gl hg
  subst hx
  refine PI.imp (pi_range1 g1 F.range (pa_cons ha pa_nil (star_cons hp)) (starEach_one hp)) fun σ H R ⟨env, G, am, C, re, wd, d⟩ => ?_
  refine ⟨env, G, am, C, re, wd, Dn.imp (DnI.bind (Rl := rE X.K cA) d) fun vx H1 ⟨G1, am1, C1, x, x1, w1, rl, d1⟩ => ?_⟩
  cases x with
  | v dx =>
    cases dx <;> first | exact d1.elim | skip
    case int i =>
      simp only at d1
      split at d1
      · rename_i hr
        simp only [rE, RelE, RelD] at rl
        exact ⟨i, by rw [rl], (rng_ok hr).1, (rng_ok hr).2, d1 G1 am1 H1 _ Ext.refl w1 walk_rng⟩
      · exact d1.elim
  | _ => exact d1.elim
theorem r_range2 {P : Program} {w : World} {base : Heap} {pr : Prog} {tb : Tab} {j : Nat} {call : Nat → List E → Cells → R E} (g : Gd sx k W X) (F : Facts P w X.K X.mg base cA pr tb j call) {tg : Expr} {x : Str} {p : Pos} (hx : ("range" : Str) = x) (hg : glB sx.sc x = true) (hp : plainX a = true) (hpb : plainX b = true)
    (ha : PE X a (tE X.K cA W fa)) (hb : PE X b (tE X.K cA W fb)) : PI X tg (.Call (.Name x p) [a, b] [] pos) (tI X.K cA W fun env C => (fa env C).bind fun x C => (fb env C).bind fun y C => match x, y with
    | .v (.int i), .v (.int j) => if rngOk i && rngOk j then .ok (rangeD i 1 (j - i).toNat, .v .non) C else .bad
    | _, _ => .bad) := by
  obtain ⟨g1, g2, g3⟩ := g.gl hg
  subst hx
  refine PI.imp (pi_range2 g1 F.range (pa_cons ha (pa_cons hb pa_nil (star_cons hpb)) (star_cons hp)) (by rw [star_cons hp, star_cons hpb]; rfl) (star_cons hpb)) fun σ H R ⟨env, G, am, C, re, wd, d⟩ => ?_
  refine ⟨env, G, am, C, re, wd, Dn.imp (DnI.bind (Rl := rE X.K cA) d) fun vx H1 ⟨G1, am1, C1, x, x1, w1, rl, d1⟩ => ?_⟩
  refine ⟨env, G1, am1, C1, re.mono x1, w1, Dn.imp (DnI.bind (Rl := rE X.K cA) d1) fun vy H2 ⟨G2, am2, C2, y, x2, w2, rl2, d2⟩ => ?_⟩
  cases x with
  | v dx =>
    cases dx <;> first | (cases y <;> exact d2.elim) | skip
    case int i0 =>
      cases y with
      | v dy =>
        cases dy <;> first | exact d2.elim | skip
        case int jj =>
          simp only at d2
          split at d2
          · rename_i hr
            rw [Bool.and_eq_true] at hr
            simp only [rE, RelE, RelD] at rl rl2
            exact ⟨_, _, by rw [rl, rl2], ⟨(rng_ok hr.1).1, (rng_ok hr.1).2, (rng_ok hr.2).1, (rng_ok hr.2).2⟩, d2 G2 am2 H2 _ Ext.refl w2 walk_rng⟩
          · exact d2.elim
      | _ => exact d2.elim
  | _ => exact d2.elim
/-- enumerate of a list -/
theorem r_enum {P : Program} {w : World} {base : Heap} {pr : Prog} {tb : Tab} {j : Nat} {call : Nat → List E → Cells → R E} (g : Gd sx k W X) (F : Facts P w X.K X.mg base cA pr tb j call) {tes : List Expr} {tn : Nat} {tp : Pos} {x : Str} {p : Pos} (hx : ("enumerate" : Str) = x) (hg : glB sx.sc x = true) (hp : plainX a = true)
    (ha : PE X a (tE X.K cA W fa)) : PI X (.Tuple tes tn tp) (.Call (.Name x p) [a] [] pos) (tI X.K cA W fun env C => (fa env C).bind fun x C => match (see C x).bind lsD with
    | none => .bad
    | some ds => .ok (enumD 0 ds, x) C) := by
  obtain ⟨g1, g2, g3⟩ := g.gl hg
  subst hx
  refine PI.imp (pi_enum g1 F.enum (pa_cons ha pa_nil (star_cons hp)) (starEach_one hp)) fun σ H R ⟨env, G, am, C, re, wd, d⟩ => ?_
  refine ⟨env, G, am, C, re, wd, ?_⟩
  dsimp only at d
  cases e : fa env C with
  | bad => rw [e] at d; exact d.elim
  | exc c fs C1 => rw [e] at d; exact d
  | ok x C1 =>
    rw [e, Ev.R.bind_ok] at d
    intro G' am' H' v x1 w1 rl
    cases e1 : see C1 x with
    | none => simp only [e1, Option.bind_none] at d; exact d.elim
    | some dx =>
      simp only [e1, Option.bind_some] at d
      cases dx <;> simp only [lsD] at d <;> first | exact d.elim | skip
      case lst xs =>
        obtain ⟨p, rfl, ⟨us0, hs⟩, later⟩ := lock_src w1 rl e1
        refine ⟨p, us0, rfl, hs, d G' am' H' _ x1 w1 fun G2 am2 C2 H2 x2 w2 => ?_⟩
        obtain ⟨us, hl, hq, rd⟩ := later G2 am2 C2 H2 x2 w2
        have wk := walk_enum (K := X.K) (a := p) (xs := us)
        dsimp only
        rw [enumD_len]
        refine ⟨fun i hi => wk.goes i H2 (by rw [hl]; exact hi) hq, by have z := wk.stops H2 hq; rw [hl] at z; exact z, fun i y H3 hi q => ?_⟩
        obtain ⟨TT, z1, z2, rfl, hn, rfl, q1, q2⟩ := wk.yields i H2 y H3 (by rw [hl]; exact hi) hq q
        cases q1
        obtain ⟨d2, q3, q4⟩ := rd.back q2
        obtain ⟨w3, x3⟩ := w2.new hn (.tup [.int (i : Nat), z2])
        refine ⟨.tup [.int ((0 + i : Nat) : Int), d2], _, enumD_get xs 0 i q3, x3, w3, ?_⟩
        simp only [RelD, RelDs]
        exact ⟨TT, _, rfl, SqT.of upd_same, _, _, rfl, by simp, _, _, rfl, q4.mono x3.g, rfl⟩
end
end Ev

end

section
set_option maxRecDepth 512
set_option Elab.async false
set_option linter.all false
set_option maxRecDepth 100000
set_option maxHeartbeats 4000000
namespace Ev
open PySem L2 PySem.Spec PyProof.Rows
section
variable {elt t0 i0 t1 i1 : Expr} {ifs0 ifs1 : List Expr} {gens : List Comprehension} {scope : Scope} {pos : Pos} {d : Nat} {it acc : Value} {env : PySem.Env}
theorem turn_mid (h0 : gens[d]? = some ⟨t0, i0, ifs0, 0⟩) (h1 : gens[d + 1]? = some ⟨t1, i1, ifs1, 0⟩) :
    compTurn (.ListComp elt gens scope pos) d it acc env = (do
      standAt i0.pos
      match ← pyNext it with
      | none => pure (.done .next)
      | some v =>
        letOwnedTupleGo t0 it v
        assign t0 env v
        let mut ok := true
        for c in ifs0 do
          if ok then ok ← isTrue c env (eval c env)
        if ok then
          let x ← eval i1 env
          standAt i1.pos
          let x ← foldedSetIterable i1 env x
          let _ ← runOwn (.compStart (.ListComp elt gens scope pos) (d + 1) (← holding [x] (pyIter x)) acc env) env
        again (.compLoop (.ListComp elt gens scope pos) d it acc env)) := by
  unfold compTurn
  simp only [h0, h1]
  rfl
theorem turn_last (h0 : gens[d]? = some ⟨t0, i0, ifs0, 0⟩) (h1 : gens[d + 1]? = none) :
    compTurn (.ListComp elt gens scope pos) d it acc env = (do
      standAt i0.pos
      match ← pyNext it with
      | none => pure (.done .next)
      | some v =>
        letOwnedTupleGo t0 it v
        assign t0 env v
        let mut ok := true
        for c in ifs0 do
          if ok then ok ← isTrue c env (eval c env)
        if ok then
          (do let _ ← call (.builtin "list.append") [acc, ← eval elt env])
        again (.compLoop (.ListComp elt gens scope pos) d it acc env)) := by
  unfold compTurn
  simp only [h0, h1]
  rfl
end
section
variable {prog : Program} {w : World} {A : Around} {R : Result → Shared → Prop} {s : Shared} {elt t0 i0 : Expr} {ifs0 : List Expr} {gens : List Comprehension} {scope : Scope} {pos : Pos} {d : Nat} {it acc : Value} {env : PySem.Env}
/-- what follows a turn's tests -/
def emitOk (prog : Program) (w : World) (A : Around) (elt : Expr) (gens : List Comprehension) (scope : Scope) (pos : Pos) (d : Nat) (acc : Value) (env : PySem.Env) (Z : Shared → Prop) (s : Shared) : Prop :=
  match gens[d + 1]? with
  | none => wpAny (model prog w) A (eval elt env) (fun x s₄ => wpAny (model prog w) A (call (.builtin "list.append") [acc, x]) (fun _ s₅ => Z s₅) (fun _ _ => False) s₄) (fun _ _ => False) s
  | some ⟨_, i1, _, 0⟩ => (∀ x, foldedSetIterable i1 env x = pure x) ∧ wpAny (model prog w) A (eval i1 env) (fun x s₄ => wpAny (model prog w) A (pyIter x) (fun it1 s₅ =>
              codeAny (model prog w) A (.compStart (.ListComp elt gens scope pos) (d + 1) it1 acc env) (fun r s' => match r with
                | .ok _ => Z s'
                | .error _ => False) s₅) (fun _ _ => False) s₄) (fun _ _ => False) s
  | _ => False
theorem emit_mono {Z Z' : Shared → Prop} (h : emitOk prog w A elt gens scope pos d acc env Z s) (hz : ∀ s', Z s' → Z' s') : emitOk prog w A elt gens scope pos d acc env Z' s := by
  unfold emitOk at h ⊢
  split at h
  · exact wpAny_mono h (fun x s4 h4 => wpAny_mono h4 (fun _ s5 h5 => hz _ h5) fun _ _ z => z) fun _ _ z => z
  · refine ⟨h.1, wpAny_mono h.2 (fun x s4 h4 => wpAny_mono h4 (fun it s5 h5 => codeAny_mono h5 fun r s' hr => ?_) fun _ _ z => z) fun _ _ z => z⟩
    cases r with
    | ok f => exact hz _ hr
    | error e => exact hr
  · exact h
theorem loopG (hz : ∀ g ∈ gens, g.is_async = 0) (h0 : gens[d]? = some ⟨t0, i0, ifs0, 0⟩) (I : Nat → Shared → Prop)
    (turn : ∀ n s, I n s → wpAny (model prog w) A (pyNext it) (fun r s₁ => match r with
      | none => R (.ok .next) s₁
      | some v => wpAny (model prog w) A (letOwnedTupleGo t0 it v) (fun _ s₁' => wpAny (model prog w) A (assign t0 env v) (fun _ s₂ =>
          wpAny (model prog w) A (forIn ifs0 true fun c r => if r = true then do let ok ← isTrue c env (eval c env); pure (ForInStep.yield ok) else pure (ForInStep.yield r)) (fun ok s₃ =>
            if ok = true then emitOk prog w A elt gens scope pos d acc env (fun s' => ∃ m, m < n ∧ I m s') s₃
            else ∃ m, m < n ∧ I m s₃) (fun _ _ => False) s₂) (fun _ _ => False) s₁') (fun _ _ => False) s₁) (fun _ _ => False) s)
    (n : Nat) (h : I n s) :
    codeAny (model prog w) A (.compLoop (.ListComp elt gens scope pos) d it acc env) R s := by
  refine codeAny_loop rfl I (fun n s hI => ?_) n h
  show wpAny _ A ((compTurn (.ListComp elt gens scope pos) d it acc env).onRaise (fun x => do noteFrame x env; theTreesLotGoes x)) _ _ s
  refine wpAny_noted ?_
  cases h1 : gens[d + 1]? with
  | none =>
    rw [turn_last h0 h1]
    refine wpAny_bind (wpAny_standAt (wpAny_bind (wpAny_mono (turn n s hI) (fun r s₁ h₁ => ?_) fun _ _ h' => h'.elim)))
    cases r with
    | none => exact wpAny_pure h₁
    | some v =>
      refine wpAny_bind (wpAny_mono h₁ (fun _ s₁' h₁' => ?_) fun _ _ h' => h'.elim)
      refine wpAny_bind (wpAny_mono h₁' (fun _ s₂ h₂ => wpAny_bind (wpAny_mono h₂ (fun ok s₃ h₃ => ?_) fun _ _ h' => h'.elim)) fun _ _ h' => h'.elim)
      cases ok with
      | false => exact wpAny_pure ⟨rfl, h₃⟩
      | true =>
        rw [if_pos rfl] at h₃
        unfold emitOk at h₃
        simp only [h1] at h₃
        exact wpAny_bind (wpAny_bind (wpAny_mono h₃ (fun x s₄ h₄ => wpAny_bind (wpAny_mono h₄ (fun _ s₅ h₅ => wpAny_pure (wpAny_pure ⟨rfl, h₅⟩)) fun _ _ h' => h'.elim)) fun _ _ h' => h'.elim))
  | some g =>
    obtain ⟨t1, i1, ifs1, as⟩ := g
    have key : as = 0 ∨ as ≠ 0 := by omega
    rcases key with rfl | has
    · rw [turn_mid h0 h1]
      refine wpAny_bind (wpAny_standAt (wpAny_bind (wpAny_mono (turn n s hI) (fun r s₁ h₁ => ?_) fun _ _ h' => h'.elim)))
      cases r with
      | none => exact wpAny_pure h₁
      | some v =>
        refine wpAny_bind (wpAny_mono h₁ (fun _ s₁' h₁' => ?_) fun _ _ h' => h'.elim)
        refine wpAny_bind (wpAny_mono h₁' (fun _ s₂ h₂ => wpAny_bind (wpAny_mono h₂ (fun ok s₃ h₃ => ?_) fun _ _ h' => h'.elim)) fun _ _ h' => h'.elim)
        cases ok with
        | false => exact wpAny_pure ⟨rfl, h₃⟩
        | true =>
          rw [if_pos rfl] at h₃
          unfold emitOk at h₃
          simp only [h1] at h₃
          obtain ⟨hs, h₃⟩ := h₃
          refine wpAny_bind (wpAny_mono h₃ (fun x s₄ h₄ => ?_) fun _ _ h' => h'.elim)
          refine wpAny_bind (wpAny_standAt (wpAny_bind (wpAny_of_eq (hs x) (wpAny_bind (wpAny_holding (wpAny_mono h₄ (fun it1 s₅ h₅ => ?_) fun _ _ h' => h'.elim))))))
          refine wpAny_bind (wpAny_runOwn ?_)
          rw [Around.mark_none]
          refine codeAny_mono h₅ fun r s' hr => ?_
          cases r with
          | ok f =>
            first
              | exact wpAny_pure ⟨rfl, hr⟩
              | exact wpAny_bind (wpAny_pure (wpAny_pure ⟨rfl, hr⟩))
          | error e => exact hr.elim
    · exact absurd (hz _ (List.mem_of_getElem? h1)) has
theorem startG (h1 : gens[d]? = some ⟨t0, i0, ifs0, 0⟩) (h0 : codeAny (model prog w) A (.compLoop (.ListComp elt gens scope pos) d it acc env) R s)
    (h : wpAny (model prog w) A (pyIter it) (fun it' s' => codeAny (model prog w) A (.compLoop (.ListComp elt gens scope pos) d it' acc env) R s')
      (notedBy (model prog w) A env fun x s' => R (.error x) s') s) :
    codeAny (model prog w) A (.compStart (.ListComp elt gens scope pos) d it acc env) R s := by
  have hcl : (clausesOf (.ListComp elt gens scope pos))[d]? = some ⟨t0, i0, ifs0, 0⟩ := h1
  refine codeAny_of_tree ?_
  show wpAny _ _ ((compStart (.ListComp elt gens scope pos) d it acc env).onRaise (fun x => do noteFrame x env; standAt theWindowsPlace)) _ _ s
  refine wpAny_notedAt ?_
  unfold compStart
  rw [hcl]
  show wpAny _ _ (ask >>= _) _ _ s
  refine wpAny_bind (wpAny_askSetting (wpAny_ite ?_))
  split
  · first
      | exact wpAny_bind (wpAny_pure (wpAny_pure (And.intro rfl h0)))
      | exact wpAny_pure (And.intro rfl h0)
  · first
      | exact wpAny_bind (wpAny_rule (wpAny_bind (wpAny_standAt (wpAny_bind (wpAny_mono h (fun it' s' h' => wpAny_pure (And.intro rfl h')) fun _ _ x => x)))))
      | (refine wpAny_bind (wpAny_rule ?_); show wpAny _ _ (standAt i0.pos >>= _) _ _ s; exact wpAny_bind (wpAny_standAt (wpAny_bind (wpAny_mono h (fun it' s' h' => wpAny_pure (And.intro rfl h')) fun _ _ x => x))))
end
/-- slots that know what the block knew at its start -/
structure Keeps (own : List Nat) (σ σ' : L2.St) : Prop where
  len : σ'.length = σ.length
  k : ∀ (j : Nat) v, (L2.wipe σ own)[j]? = some (some v) → σ'[j]? = some (some v)
/-- what is to be done in a turn of the d-th clause -/
structure PEm (B : Cx) (elt : Expr) (gens : List Comprehension) (scope : Scope) (pos : Pos) (d : Nat) (own : List Nat) (tb : Addr → L2.St → Hp → (Hp → Prop) → Prop) : Prop where
  run : ∀ (D : Addr) (pins : List (Addr × Obj)) (s : Shared) (σ : L2.St) (H : Hp) (Nx : Hp → Prop), Inv B pins σ H s → tb D σ H Nx →
    emitOk B.prog B.w B.A elt gens scope pos d (.ref D) B.env (fun s' => ∃ σ' H', Inv B pins σ' H' s' ∧ Keeps own σ σ' ∧ Nx H') s
def tElt (te : TE) : Addr → L2.St → Hp → (Hp → Prop) → Prop := fun D σ H Nx => te σ H fun y H4 => ∃ acc, H4 D = some (.lst acc) ∧ acc.length < sizeLine ∧ Nx (L2.upd H4 D (.lst (acc ++ [y])))
def tGen (wi : TI) (g : TG) (tt : TT) (tb : Addr → L2.St → Hp → (Hp → Prop) → Prop) (vs : List Nat) : Addr → L2.St → Hp → (Hp → Prop) → Prop := fun D σ H Nx =>
  wi σ H fun J H1 => ∃ W : Nat → Nat → Hp → Prop, (∃ m, W 0 m H1) ∧ ∀ i m H, W i m H →
    (J.stop i H ∧ Nx H) ∨ (J.go i H ∧ ∃ Nx1 : Hp → Prop, (∀ H', Nx1 H' → ∃ m', m' < m ∧ W (i + 1) m' H') ∧ ∀ x H', J.yld i H x H' → g x (L2.wipe σ vs) H' fun σ2 H2 => L2.wipe σ2 vs = L2.wipe σ vs ∧ tt σ2 H2 fun b H3 => if b = true then tb D σ2 H3 Nx1 else Nx1 H3)
section
variable {B : Cx} {elt : Expr} {gens : List Comprehension} {scope : Scope} {pos : Pos} {d : Nat} {own vs : List Nat}
theorem wipe_wipe {σ : L2.St} {vs : List Nat} : L2.wipe (L2.wipe σ vs) vs = L2.wipe σ vs := by
  apply List.ext_getElem?
  intro i
  rw [wipe_get, wipe_length]
  by_cases hi : i ∈ vs
  · simp only [hi, if_true]
    rw [wipe_get]; simp [hi]
  · simp [hi]
theorem wipe_mem {σ : L2.St} {vs own : List Nat} (h : ∀ i ∈ vs, i ∈ own) : L2.wipe (L2.wipe σ vs) own = L2.wipe σ own := by
  apply List.ext_getElem?
  intro i
  rw [wipe_get, wipe_get, wipe_length, wipe_get]
  by_cases hi : i ∈ own
  · simp [hi]
  · have : i ∉ vs := fun z => hi (h i z)
    simp [hi, this]
theorem Keeps.mono {σ σ2 : L2.St} (h : ∀ i ∈ vs, i ∈ own) (k : Keeps vs σ σ2) : Keeps own σ σ2 :=
  ⟨k.len, fun j v q => k.k j v (by
    rw [wipe_get] at q ⊢
    by_cases hj : j ∈ own
    · simp only [hj, if_true] at q
      split at q <;> cases q
    · have : j ∉ vs := fun z => hj (h j z)
      simp only [hj, if_false] at q
      simp only [this, if_false]; exact q)⟩
/-- the turns of a clause -/
theorem turnsG {t0 i0 : Expr} {ifs0 : List Expr} {g : TG} {tt : TT} {tb : Addr → L2.St → Hp → (Hp → Prop) → Prop} {D it : Addr} {fp : List Addr} {tn : Nat → Heap → Prop} {J : L2.It} {pins : List (Addr × Obj)} {σ : L2.St} {H0 : Hp} {s0 : Shared} {Nx : Hp → Prop} {W : Nat → Nat → Hp → Prop} {m0 : Nat} {R : Result → Shared → Prop}
    (hc : B.calm = true) (hx : ∀ e s, ¬ B.xe e s) (hz : ∀ g ∈ gens, g.is_async = 0) (h0 : gens[d]? = some ⟨t0, i0, ifs0, 0⟩) (pg : PG B t0 g) (pt : PTs B ifs0 tt) (pe : PEm B elt gens scope pos d own tb) (hv : ∀ i ∈ own, i ∈ vs)
    (T : Turn B.prog B.w B.K t0 J fp it tn) (I0 : Inv B pins σ H0 s0) (st0 : tn 0 s0.heap) (f0 : ∀ b ∈ fp, H0 b = none) (fpk : ∀ {σ' : L2.St} {H' : Hp} {s' : Shared}, Inv B pins σ' H' s' → (∀ b ∈ fp, H' b = none) → ∀ b ∈ fp, FpOk B pins H' b) (w0 : W 0 m0 H0)
    (turn : ∀ i m H, W i m H → (J.stop i H ∧ Nx H) ∨ (J.go i H ∧ ∃ Nx1 : Hp → Prop, (∀ H', Nx1 H' → ∃ m', m' < m ∧ W (i + 1) m' H') ∧ ∀ x H', J.yld i H x H' → g x (L2.wipe σ vs) H' fun σ2 H2 => L2.wipe σ2 vs = L2.wipe σ vs ∧ tt σ2 H2 fun b H3 => if b = true then tb D σ2 H3 Nx1 else Nx1 H3))
    (hR : ∀ s' H', Inv B pins (L2.wipe σ vs) H' s' → Nx H' → R (.ok .next) s') :
    codeAny (model B.prog B.w) B.A (.compLoop (.ListComp elt gens scope pos) d (.ref it) (.ref D) B.env) R s0 := by
  refine loopG hz h0 (fun n s' => ∃ i H', Inv B pins (L2.wipe σ vs) H' s' ∧ tn i s'.heap ∧ (∀ b ∈ fp, H' b = none) ∧ W i n H') ?_ m0 ⟨0, H0, I0.weak (wipe_length _ _) (fun j v e => (wipe_some e).1), st0, f0, w0⟩
  rintro n s5 ⟨i, H5, I5, st5, n5, w5⟩
  rcases turn i n H5 w5 with ⟨stop, qq⟩ | ⟨go, Nx1, hNx, step⟩
  · refine thnF (T.done B rfl rfl rfl hc i pins s5 _ H5 (fun _ _ => False) I5 (fpk I5 n5) st5 stop) fun r s6 ⟨hr, I6⟩ => ?_
    subst hr
    exact hR s6 H5 I6 qq
  · refine thnF (T.item B rfl rfl rfl hc i pins s5 _ H5 (fun _ _ => False) I5 (fpk I5 n5) st5 go) fun r s6 ⟨u, hr, h6⟩ => ?_
    subst hr
    refine thnF h6 fun _ s7 ⟨x, H7, I7, r7, y7, st7, n7⟩ => ?_
    have I7' := I7.pinned (fpk I7 n7) (T.obj _ _ st7)
    refine wpAny_mono (pg.run _ s7 _ H7 x u _ I7' r7 (step x H7 y7)) (fun _ s8 ⟨σ8, H8, I8, hw8, q8⟩ => ?_) fun e s z => (hx e s z).elim
    refine wpAny_mono (pt.run _ s8 σ8 H8 _ I8 q8) (fun b s9 ⟨H9, I9, q9⟩ => ?_) fun e s z => (hx e s z).elim
    have fin : ∀ {σ9 : L2.St} {s' : Shared} {H' : Hp}, Inv B (pins ++ pinsAt fp s7.heap) σ9 H' s' → Keeps vs σ8 σ9 → Nx1 H' →
        ∃ m, m < n ∧ ∃ i H', Inv B pins (L2.wipe σ vs) H' s' ∧ tn i s'.heap ∧ (∀ b ∈ fp, H' b = none) ∧ W i m H' := fun {σ9 s' H'} I' hk nx => by
      obtain ⟨m', hm, w'⟩ := hNx H' nx
      have pin' : ∀ b ∈ fp, ∀ o, s7.heap.get? b = some o → s'.heap.get? b = some o ∧ H' b = none := fun b hb o e =>
        let z := I'.pin (b, o) (List.mem_append_right _ (List.mem_append_right _ (mem_pinsAt hb e)))
        ⟨z.1, z.2.1⟩
      refine ⟨m', hm, i + 1, H', I'.unpinned.weak (by rw [hk.len, ← hw8, wipe_length]) (fun j v e => hk.k j v (by rw [hw8]; exact e)), T.keep _ _ _ st7 fun b hb o e => (pin' b hb o e).1, fun b hb => ?_, w'⟩
      obtain ⟨o, e, _⟩ := T.obj _ _ st7 b hb
      exact (pin' b hb o e).2
    cases b with
    | false =>
      simp only [Bool.false_eq_true, if_false] at q9 ⊢
      exact fin I9 ⟨rfl, fun j v e => (wipe_some e).1⟩ q9
    | true =>
      simp only [if_true] at q9 ⊢
      have z := pe.run D _ s9 σ8 H9 Nx1 I9 q9
      refine emit_mono z fun s' ⟨σ', H', I', k', nx⟩ => fin I' (k'.mono hv) nx
/-- the innermost: the item is made -/
theorem pem_elt {te : TE} (hx : ∀ e s, ¬ B.xe e s) (h1 : gens[d + 1]? = none) (he : PE B elt te) : PEm B elt gens scope pos d [] (tElt te) := by
  refine ⟨fun D pins s σ H Nx I h => ?_⟩
  unfold emitOk
  simp only [h1]
  refine wpAny_mono (he.run _ s σ H _ I h) (fun z s17 ⟨yv, H17, I17, r17, acc, hD17, hz17, nx⟩ => ?_) fun e s z => (hx e s z).elim
  exact app_ok (X := B) I17 hD17 hz17 r17 fun s18 I18 => ⟨σ, _, I18, ⟨rfl, fun j v e => (wipe_some e).1⟩, nx⟩
/-- a clause within -/
theorem pem_gen {t1 i1 : Expr} {ifs1 : List Expr} {wi : TI} {g : TG} {tt : TT} {tb : Addr → L2.St → Hp → (Hp → Prop) → Prop}
    (hc : B.calm = true) (hx : ∀ e s, ¬ B.xe e s) (hz : ∀ g ∈ gens, g.is_async = 0) (h1 : gens[d + 1]? = some ⟨t1, i1, ifs1, 0⟩) (hs : ∀ env x, foldedSetIterable i1 env x = pure x)
    (pi : PI B t1 i1 wi) (pg : PG B t1 g) (pt : PTs B ifs1 tt) (pe : PEm B elt gens scope pos (d + 1) own tb) (hv : ∀ i ∈ own, i ∈ vs) : PEm B elt gens scope pos d vs (tGen wi g tt tb vs) := by
  refine ⟨fun D pins s σ H Nx I h => ?_⟩
  unfold emitOk
  simp only [h1]
  refine ⟨hs _, wpAny_mono (pi.run _ s σ H _ I h) (fun xv s10 hx' => wpAny_mono hx' (fun itv s11 h11 => ?_) fun e s z => (hx e s z).elim) fun e s z => (hx e s z).elim⟩
  obtain ⟨it1, fp1, tn1, J1, H11, e1, I11, T1, st11, f11, W1, ⟨m1, w1⟩, turn1⟩ := h11
  subst e1
  have loop1 := turnsG (R := fun r s' => match r with
      | .ok _ => ∃ σ' H', Inv B pins σ' H' s' ∧ Keeps vs σ σ' ∧ Nx H'
      | .error _ => False) (pos := pos) (scope := scope) hc hx hz h1 pg pt pe hv T1 I11 st11 (fun b hb => (f11 b hb).1) (fun I' hn b hb => ⟨hn b hb, (f11 b hb).2⟩) w1 turn1 fun s' H' I' nx => ⟨_, H', I', ⟨wipe_length _ _, fun j v e => e⟩, nx⟩
  exact startG h1 loop1 (T1.self B.A 0 _ _ _ st11 loop1)
end
/-! ### the whole -/
def tLcG (wi : TI) (g : TG) (tt : TT) (tb : Addr → L2.St → Hp → (Hp → Prop) → Prop) (vs : List Nat) : TE := fun σ H Q => wi σ H fun J H1 => ∀ D, H1 D = none → ∃ W : Nat → Nat → Hp → Prop, (∃ m, W 0 m (L2.upd H1 D (.lst []))) ∧ ∀ i m H, W i m H →
  (J.stop i H ∧ Q (.ref D) H) ∨ (J.go i H ∧ ∃ Nx : Hp → Prop, (∀ H', Nx H' → ∃ m', m' < m ∧ W (i + 1) m' H') ∧ ∀ x H', J.yld i H x H' → g x (L2.wipe σ vs) H' fun σ2 H2 => L2.wipe σ2 vs = L2.wipe σ vs ∧ tt σ2 H2 fun b H3 => if b = true then tb D σ2 H3 Nx else Nx H3)
section
variable {X : Cx}
theorem lcG_core {pins : List (Addr × Obj)} {s : Shared} {σ : L2.St} {H : Hp} {Q : VK} {elt tg iter : Expr} {ifs : List Expr} {gs : List Comprehension} {scope : Scope} {own : List (Str × Nat)} {vs1 : List Nat} {pos pos' : Pos} {wi : TI} {g : TG} {tt : TT} {tb : Addr → L2.St → Hp → (Hp → Prop) → Prop} {use : Option (Value → Sem Unit)} {Qf : Value → Shared → Prop}
    (hc : X.calm = true) (hN : X.N.Nodup) (I : Inv X pins σ H s) (hi : PI X tg iter wi) (ok : BlkOk X.N X.env.scope scope own) (hz : ∀ g ∈ gs, g.is_async = 0) (hv : ∀ i ∈ vs1, i ∈ own.map (·.2))
    (hg : ∀ (s : Shared) (H : Hp) (C : Addr) (cl : List (Str × Addr)) (fp : List Addr), PG (X.blk s H scope (compEnvC scope cl C X.env) fp) tg g) (ht : ∀ (s : Shared) (H : Hp) (C : Addr) (cl : List (Str × Addr)) (fp : List Addr), PTs (X.blk s H scope (compEnvC scope cl C X.env) fp) ifs tt)
    (he : ∀ (s : Shared) (H : Hp) (C : Addr) (cl : List (Str × Addr)) (fp : List Addr), PEm (X.blk s H scope (compEnvC scope cl C X.env) fp) elt (⟨tg, iter, ifs, 0⟩ :: gs) scope pos 0 vs1 tb) (hs : ∀ x, foldedSetIterable iter X.env x = pure x)
    (h : tLcG wi g tt tb (own.map (·.2)) σ H Q)
    (hRR : ∀ D C s' m H', Inv X pins σ H' s' → Q (.ref D) H' → s'.heap.Ns C m → FpOk X pins H' C → compPost (model X.prog X.w) X.A X.xe use Qf (.ref D) C (.ok .next) s') :
    wpAny (model X.prog X.w) X.A (comprehension (.ListComp elt (⟨tg, iter, ifs, 0⟩ :: gs) scope pos) scope X.env pos' (newList []) false (eval iter X.env) use) Qf X.xe s := by
  have hfree : ∀ y ∈ scope.names, y.2 = .free → ∃ c, X.env.cells.lookup y.1 = some c := fun y hy e => by
    rcases ok.free y hy e with k | k
    · exact I.ok.has _ (.inl k)
    · exact I.ok.has _ (.inr k)
  refine wpAny_comprehension_free (use := use) rfl hs (closure_ok hfree) ok.kind (fun y hy e => by rw [ok.uniq y hy, e])
    (thn (hi.run pins s σ H _ I h) fun xv s1 hx => thn hx fun itv s2 h2 => ?_)
  obtain ⟨it, fp, tn, J, H2, e, I2, T, st2, f2, q⟩ := h2
  subst e
  refine wpAny_newObj_type (newEnv_comp ?_) (by show 0 ≤ sizeLine; decide)
  generalize hD : s2.heap.objs.size = D
  have hDn : H2 D = none := I2.hok.fresh (Nat.le_of_eq hD)
  obtain ⟨W, ⟨m0, w0⟩, turn⟩ := q D hDn
  generalize hs3 : ({ s2 with heap := s2.heap.push { cls := .type "list", data := .seq ([] : List Value).toArray } } : Shared) = s3
  have I3 : Inv X pins σ (L2.upd H2 D (.lst [])) s3 := by
    rw [← hs3]
    refine I2.laid (t' := s2.toks) (fun b o e => Heap.get?_push_of_some _ e) (Nat.le_of_eq hD) ⟨Nat.zero_le _, [], 0, .nil, ?_⟩
    rw [← hD]
    exact Heap.get?_push_size _ rfl
  have h3 : s3.heap = s2.heap.push { cls := .type "list", data := .seq ([] : List Value).toArray } := by rw [← hs3]
  have sz : ∀ b ∈ fp, b < s2.heap.objs.size := fun b hb => by
    obtain ⟨o, e, _⟩ := T.obj _ _ st2 b hb
    exact Heap.lt_size e
  have f3 : ∀ b ∈ fp, FpOk X pins (L2.upd H2 D (.lst [])) b ∧ b < s3.heap.objs.size := fun b hb => by
    have hlt := sz b hb
    refine ⟨⟨?_, (f2 b hb).2⟩, by rw [h3, Heap.size_push]; exact Nat.lt_succ_of_lt hlt⟩
    rw [upd_ne (by rw [← hD]; exact Nat.ne_of_lt hlt)]
    exact (f2 b hb).1
  have st3 : tn 0 s3.heap := T.keep _ _ _ st2 fun b _ o e => by rw [h3]; exact Heap.get?_push_of_some _ e
  have I4 := block_start I3 ok hN f3
  have pg := hg s3 (L2.upd H2 D (.lst [])) s3.heap.objs.size (cellsFrom (s3.heap.objs.size + 1) scope.names (cloFrom X.env.cells scope.names [])) fp
  have pt := ht s3 (L2.upd H2 D (.lst [])) s3.heap.objs.size (cellsFrom (s3.heap.objs.size + 1) scope.names (cloFrom X.env.cells scope.names [])) fp
  have pe := he s3 (L2.upd H2 D (.lst [])) s3.heap.objs.size (cellsFrom (s3.heap.objs.size + 1) scope.names (cloFrom X.env.cells scope.names [])) fp
  show codeAny _ _ (.compStart (.ListComp elt (⟨tg, iter, ifs, 0⟩ :: gs) scope pos) 0 (.ref it) (.ref D) (compEnvC scope (cellsFrom (s3.heap.objs.size + 1) scope.names (cloFrom X.env.cells scope.names [])) s3.heap.objs.size X.env)) (compPost (model X.prog X.w) X.A X.xe use Qf (.ref D) s3.heap.objs.size) { s3 with heap := pushCells (s3.heap.push { cls := .type "dict", data := .dict #[] }) scope.names }
  have nfp : ∀ b ∈ fp, (L2.upd H2 D (.lst [])) b = none := fun b hb => (f3 b hb).1.1
  generalize hce : compEnvC scope (cellsFrom (s3.heap.objs.size + 1) scope.names (cloFrom X.env.cells scope.names [])) s3.heap.objs.size X.env = ce at I4 pg pt pe ⊢
  have cL : ce.locals = s3.heap.objs.size := by subst hce; rfl
  generalize hH3 : L2.upd H2 D (.lst []) = H3 at I3 I4 pg pt pe w0 nfp f3
  generalize hs4 : ({ s3 with heap := pushCells (s3.heap.push { cls := .type "dict", data := .dict #[] }) scope.names } : Shared) = s4 at I4 ⊢
  have st4 : tn 0 s4.heap := T.keep _ _ _ st3 fun b _ o e => by rw [← hs4]; exact pushCells_keeps _ _ _ _ (Heap.get?_push_of_some _ e)
  have stat : ∀ {σ' : L2.St} {H' : Hp} {s' : Shared}, Inv (X.blk s3 H3 scope ce fp) [] σ' H' s' → (∀ b ∈ fp, H' b = none) → ∀ b ∈ fp, FpOk (X.blk s3 H3 scope ce fp) [] H' b := fun {σ' H' s'} I' hn b hb =>
    ⟨hn b hb, (I'.ok.exf b hb).1, I'.ok.exfs b hb, .inl hb, fun x c e => (I'.ok.exf b hb).2 x c e, fun p hp => absurd (show p ∈ ([] : List (Addr × Obj)) ++ [] from hp) (by simp)⟩
  have loop : codeAny (model X.prog X.w) X.A (.compLoop (.ListComp elt (⟨tg, iter, ifs, 0⟩ :: gs) scope pos) 0 (.ref it) (.ref D) ce) (compPost (model X.prog X.w) X.A X.xe use Qf (.ref D) s3.heap.objs.size) s4 := by
    refine turnsG (B := X.blk s3 H3 scope ce fp) (Nx := Q (.ref D)) (σ := L2.wipe σ (own.map (·.2))) (vs := own.map (·.2)) (gens := ⟨tg, iter, ifs, 0⟩ :: gs) (d := 0) hc (fun _ _ z => z) (fun g hg => ?_) rfl pg pt pe hv T I4 st4 nfp stat w0 (fun i m H w => ?_) fun s6 H5 I6 qq => ?_
    · rcases List.mem_cons.mp hg with rfl | hg
      · rfl
      · exact hz g hg
    · rw [wipe_wipe]
      exact turn i m H w
    · have I7 : Inv X pins σ H5 s6 := I3.call' (ch := fp) I6.os I6.base I6.hok I6.bare fun b hb => ⟨(f3 b hb).1.2.2.2.1, (f3 b hb).1.2.1, (f3 b hb).1.2.2.2.2.1, (f3 b hb).1.2.2.2.2.2⟩
      have nC : H5 s3.heap.objs.size = none := by
        have z : H5 ce.locals = none := I6.free
        rw [cL] at z
        exact z
      obtain ⟨m, hn, _⟩ := I6.loc
      have hn : s6.heap.Ns ce.locals m := hn
      rw [cL] at hn
      exact hRR D s3.heap.objs.size s6 m H5 I7 qq hn (I3.fpOk (Nat.le_refl _) nC)
  exact codeAny_compStart_list loop (T.self X.A 0 _ _ _ st4 loop)
end
end Ev

end

section
set_option maxRecDepth 512
set_option Elab.async false
set_option linter.all false
set_option maxRecDepth 100000
set_option maxHeartbeats 4000000
namespace Ev
open PySem L2 PySem.Spec PyProof.Rows

/-! ### a list that is being made -/
section
variable {K : PySem.W.Frag} {cA : Cfg0} {G G' G0 : Hp} {am am' am0 : List Addr} {C C' C0 : Cells} {H H' H0 : Hp} {D : Addr} {us : List V}
structure Side (G : Hp) (am : List Addr) (C : Cells) (H : Hp) (D : Addr) (us : List V) : Prop where
  here : H D = some (.lst us)
  g : G D = none
  l : ¬ Live am C D
theorem Side.ext (s : Side G am C H D us) (x : Ext G am C H G' am' C' H') : Side G' am' C' H' D us where
  here := x.keep _ _ s.here s.l (by intro ps q; cases q)
  g := by
    cases e : G' D with
    | none => rfl
    | some o =>
      rcases x.gn D o e with z | z | z
      · rw [s.g] at z; cases z
      · rw [s.here] at z; cases z
      · exact (s.l z).elim
  l := fun z => by
    rcases x.live D z with z | z
    · exact s.l z
    · rw [s.here] at z; cases z
theorem Side.wd (s : Side G am C H D us) (wd : Wd K cA G am C H) (o : HO) : Wd K cA G am C (upd H D o) := by
  refine ⟨wd.tab_to (Same.refl _) (fun P ps e => by rw [upd_ne (fun z => by rw [z, s.here] at e; cases e)]; exact e) fun _ _ _ n => n, fun b u q => ?_, wd.len, fun i c e => ?_, wd.inj⟩
  · have : b ≠ D := fun z => by rw [z, s.g] at q; cases q
    rw [upd_ne this]; exact wd.sub _ _ q
  · obtain ⟨a, h1, h2, h3⟩ := wd.cell i c e
    have na : a ≠ D := fun z => s.l ⟨i, c, e, z ▸ h1⟩
    refine ⟨a, h1, ?_, h3⟩
    cases c with
    | lst xs => obtain ⟨us, z, r⟩ := h2; exact ⟨us, by rw [upd_ne na]; exact z, r⟩
    | lkd xs => obtain ⟨us, z, r⟩ := h2; exact ⟨us, by rw [upd_ne na]; exact z, r⟩
    | dct kvs => exact h2
    | ins c fs =>
      obtain ⟨Ca, dx, gs, z1, z2, z3, r⟩ := h2
      have nd : dx ≠ D := fun z => by rw [z, s.here] at z3; cases z3
      exact ⟨Ca, dx, gs, z1, by rw [upd_ne na]; exact z2, by rw [upd_ne nd]; exact z3, r⟩
theorem Side.upd (s : Side G am C H D us) (vs : List V) : Side G am C (L2.upd H D (.lst vs)) D vs := ⟨upd_same, s.g, s.l⟩
theorem Ext.side (x : Ext G0 am0 C0 H0 G am C H) (hn : H0 D = none) (o : HO) : Ext G0 am0 C0 H0 G am C (L2.upd H D o) :=
  ⟨x.g, x.a, fun b u q n t => by rw [upd_ne (ne_of_none q hn)]; exact x.keep b u q n t, fun b ps q n => by rw [upd_ne (ne_of_none q hn)]; exact x.tab b ps q n, x.live, x.gn, x.lk⟩
theorem Side.new (wd : Wd K cA G am C H) (hn : H D = none) : Side G am C (L2.upd H D (.lst us)) D us ∧ Wd K cA G am C (L2.upd H D (.lst us)) := by
  have nl : ¬ Live am C D := fun ⟨i, c, e, h⟩ => by
    obtain ⟨a, h1, h2, h3⟩ := wd.cell i c e
    rw [h] at h1; cases h1
    cases c with
    | lst xs => obtain ⟨us, z, _⟩ := h2; rw [hn] at z; cases z
    | lkd xs => obtain ⟨us, z, _⟩ := h2; rw [hn] at z; cases z
    | dct kvs => exact h2
    | ins c fs => obtain ⟨_, _, _, _, z, _⟩ := h2; rw [hn] at z; cases z
  have hg := wd.free hn
  refine ⟨⟨upd_same, hg, nl⟩, ?_⟩
  have sh : Same H (L2.upd H D (.lst us)) := fun b u q => by rw [upd_ne (ne_of_none q hn)]; exact q
  refine ⟨wd.tab_to (Same.refl _) (fun P ps e => sh _ _ e) fun _ _ _ n => n, fun b u q => sh _ _ (wd.sub _ _ q), wd.len, fun i c e => ?_, wd.inj⟩
  obtain ⟨a, h1, h2, h3⟩ := wd.cell i c e
  refine ⟨a, h1, ?_, h3⟩
  cases c with
  | lst xs => obtain ⟨us, z, r⟩ := h2; exact ⟨us, sh _ _ z, r⟩
  | lkd xs => obtain ⟨us, z, r⟩ := h2; exact ⟨us, sh _ _ z, r⟩
  | dct kvs => exact h2
  | ins c fs => obtain ⟨Ca, dx, gs, z1, z2, z3, r⟩ := h2; exact ⟨Ca, dx, gs, z1, sh _ _ z2, sh _ _ z3, r⟩
/-- it is made: a tree -/
theorem Side.done (s : Side G am C H D us) (wd : Wd K cA G am C H) : Wd K cA (L2.upd G D (.lst us)) am C H ∧ Same G (L2.upd G D (.lst us)) := by
  have sg : Same G (L2.upd G D (.lst us)) := fun b u q => by rw [upd_ne (ne_of_none q s.g)]; exact q
  refine ⟨⟨wd.tab_to sg (fun _ _ e => e) fun P ps e n => by rw [upd_ne (fun z => by rw [z, s.here] at e; cases e)]; exact n, fun b u q => ?_, wd.len, fun i c e => ?_, wd.inj⟩, sg⟩
  · by_cases hb : b = D
    · subst hb; rw [upd_same] at q; cases q; exact s.here
    · rw [upd_ne hb] at q; exact wd.sub _ _ q
  · obtain ⟨a, h1, h2, h3⟩ := wd.cell i c e
    have na : a ≠ D := fun z => s.l ⟨i, c, e, z ▸ h1⟩
    refine ⟨a, h1, ?_, by rw [upd_ne na]; exact h3⟩
    cases c with
    | lst xs => obtain ⟨us, z, r⟩ := h2; exact ⟨us, z, r.mono sg⟩
    | lkd xs => obtain ⟨us, z, r⟩ := h2; exact ⟨us, z, r.mono sg⟩
    | dct kvs => exact h2
    | ins c fs => obtain ⟨Ca, dx, gs, z1, z2, z3, r⟩ := h2; exact ⟨Ca, dx, gs, z1, z2, z3, r.mono sg ⟨[], by simp⟩⟩
theorem Ext.done (x : Ext G0 am0 C0 H0 G am C H) (wd0 : Wd K cA G0 am0 C0 H0) (hn : H0 D = none) : Ext G0 am0 C0 H0 (L2.upd G D (.lst us)) am C H :=
  ⟨fun b u q => by
      have : b ≠ D := fun z => by
        have := wd0.sub _ _ q
        rw [z, hn] at this; cases this
      rw [upd_ne this]; exact x.g _ _ q, x.a, x.keep, x.tab, x.live, fun b u q => by
      by_cases hb : b = D
      · subst hb; exact .inr (.inl hn)
      · rw [upd_ne hb] at q; exact x.gn b u q, x.lk⟩
/-! ### locks -/
theorem lock_get (e : E) (i : Nat) : (lock C e)[i]? = C[i]? ∨ ∃ n xs, e = .r n ∧ i = n ∧ C[n]? = some (some (.lst xs)) ∧ (lock C e)[i]? = some (some (.lkd xs)) := by
  cases e with
  | r n =>
    simp only [lock, cellAt]
    cases hc : C[n]? with
    | none => simp [hc]
    | some o =>
      cases o with
      | none => simp [hc]
      | some c =>
        cases c <;> simp only [Option.join_some] <;> first | exact .inl trivial | skip
        case lst xs =>
          by_cases hi : i = n
          · subst hi
            exact .inr ⟨i, xs, rfl, rfl, hc, List.getElem?_set_self (List.getElem?_eq_some_iff.mp hc).1⟩
          · exact .inl (List.getElem?_set_ne fun z => hi z.symm)
  | _ => exact .inl rfl
theorem lock_live {e : E} {a : Addr} : Live am (lock C e) a ↔ Live am C a := by
  constructor
  · rintro ⟨i, c, e1, h⟩
    rcases lock_get (C := C) e i with z | ⟨n, xs, rfl, rfl, z, _⟩
    · exact ⟨i, c, by rw [← z]; exact e1, h⟩
    · exact ⟨_, _, z, h⟩
  · rintro ⟨i, c, e1, h⟩
    rcases lock_get (C := C) e i with z | ⟨n, xs, rfl, rfl, z, q⟩
    · exact ⟨i, c, by rw [z]; exact e1, h⟩
    · exact ⟨_, _, q, h⟩
theorem Wd.lock (wd : Wd K cA G am C H) (e : E) : Wd K cA G am (lock C e) H ∧ Ext G am C H G am (Ev.lock C e) H := by
  have ln : (Ev.lock C e).length = C.length := by
    cases e with
    | r n =>
      simp only [Ev.lock]
      split
      · simp
      · rfl
    | _ => rfl
  refine ⟨⟨wd.tabs, wd.sub, wd.len.trans ln.symm, fun i c e1 => ?_, fun i j c d a e1 e2 h1 h2 => ?_⟩, ⟨Same.refl _, ⟨[], by simp⟩, fun _ _ h _ _ => h, fun _ ps h _ => ⟨ps, h⟩, fun a h => .inl (lock_live.mp h), fun _ _ h => .inl h, fun n xs h => ?_⟩⟩
  · rcases lock_get (C := C) e i with z | ⟨n, xs, rfl, rfl, z, q⟩
    · rw [z] at e1; exact wd.cell i c e1
    · rw [q] at e1; cases e1
      obtain ⟨a, h1, h2, h3⟩ := wd.cell _ _ z
      exact ⟨a, h1, h2, h3⟩
  · have get : ∀ {i : Nat} {c : Cell}, (Ev.lock C e)[i]? = some (some c) → ∃ c', C[i]? = some (some c') := fun {i c} h => by
      rcases lock_get (C := C) e i with z | ⟨n, xs, rfl, rfl, z, q⟩
      · exact ⟨c, by rw [← z]; exact h⟩
      · exact ⟨_, z⟩
    obtain ⟨c', f1⟩ := get e1
    obtain ⟨d', f2⟩ := get e2
    exact wd.inj i j c' d' a f1 f2 h1 h2
  · rcases lock_get (C := C) e n with z | ⟨n', ys, rfl, rfl, z, q⟩
    · rw [z]; exact h
    · rw [z] at h; cases h
/-- back: what stood locked is as it was -/
theorem Wd.unlock {e : E} (x : Ext G am (Ev.lock C e) H G' am' C' H') (w : Wd K cA G' am' C' H') : Wd K cA G' am' (Ev.unlock C C' e) H' ∧ Ext G am C H G' am' (Ev.unlock C C' e) H' := by
  have x0 : Ext G am C H G' am' C' H' → ∀ {C2 : Cells}, (∀ a, Live am' C2 a → Live am' C' a) → (∀ (n : Nat) (xs : List Ev.D), C[n]? = some (some (.lkd xs)) → C2[n]? = some (some (.lkd xs))) → Ext G am C H G' am' C2 H' := fun y {C2} hl hk => ⟨y.g, y.a, y.keep, y.tab, fun a h => y.live a (hl a h), y.gn, hk⟩
  have x1 : Ext G am C H G' am' C' H' := ⟨x.g, x.a, fun a o h n t => x.keep a o h (fun z => n (lock_live.mp z)) t, fun a ps h n => x.tab a ps h fun z => n (lock_live.mp z), fun a h => (x.live a h).imp lock_live.mp id, fun a o h => (x.gn a o h).imp id (Or.imp id lock_live.mp), fun n xs h => x.lk n xs (by
    rcases lock_get (C := C) e n with z | ⟨n', ys, rfl, rfl, z, q⟩
    · rw [z]; exact h
    · rw [z] at h; cases h)⟩
  cases e with
  | r n =>
    simp only [Ev.unlock, cellAt]
    cases hc : C[n]? with
    | none => simp [hc]; exact ⟨w, x1⟩
    | some o =>
      cases o with
      | none => simp [hc]; exact ⟨w, x1⟩
      | some c =>
        cases c <;> simp only [Option.join_some] <;> first | exact ⟨w, x1⟩ | skip
        case lst xs =>
          have hl : (Ev.lock C (.r n))[n]? = some (some (.lkd xs)) := by
            simp only [Ev.lock, cellAt, hc, Option.join_some]
            exact List.getElem?_set_self (List.getElem?_eq_some_iff.mp hc).1
          have hn := x.lk n xs hl
          have hlt := (List.getElem?_eq_some_iff.mp hn).1
          have get : ∀ {i : Nat} {c : Cell}, (C'.set n (some (.lst xs)))[i]? = some (some c) → (i = n ∧ c = .lst xs) ∨ (i ≠ n ∧ C'[i]? = some (some c)) := fun {i c} h => by
            by_cases hi : i = n
            · subst hi; rw [List.getElem?_set_self hlt] at h; cases h; exact .inl ⟨rfl, rfl⟩
            · rw [List.getElem?_set_ne fun z => hi z.symm] at h; exact .inr ⟨hi, h⟩
          have lv : ∀ a, Live am' (C'.set n (some (.lst xs))) a → Live am' C' a := fun a ⟨i, c, h, q⟩ => by
            rcases get h with ⟨rfl, rfl⟩ | ⟨_, h⟩
            · exact ⟨_, _, hn, q⟩
            · exact ⟨i, c, h, q⟩
          refine ⟨⟨w.tabs, w.sub, by simp [w.len], fun i c h => ?_, fun i j c d a h1 h2 q1 q2 => ?_⟩, x0 x1 lv fun m ys h => ?_⟩
          · rcases get h with ⟨rfl, rfl⟩ | ⟨_, h⟩
            · obtain ⟨a, h1, h2, h3⟩ := w.cell _ _ hn
              exact ⟨a, h1, h2, h3⟩
            · exact w.cell _ _ h
          · have f1 : ∃ c', C'[i]? = some (some c') := by
              rcases get h1 with ⟨rfl, rfl⟩ | ⟨_, h⟩
              · exact ⟨_, hn⟩
              · exact ⟨_, h⟩
            have f2 : ∃ c', C'[j]? = some (some c') := by
              rcases get h2 with ⟨rfl, rfl⟩ | ⟨_, h⟩
              · exact ⟨_, hn⟩
              · exact ⟨_, h⟩
            obtain ⟨c', f1⟩ := f1
            obtain ⟨d', f2⟩ := f2
            exact w.inj i j c' d' a f1 f2 q1 q2
          · have hm : m ≠ n := fun z => by rw [z, hc] at h; cases h
            rw [List.getElem?_set_ne fun z => hm z.symm]
            exact x1.lk m ys h
  | _ => exact ⟨w, x1⟩
end

/-- nothing is let out -/
abbrev W0 : WX := fun _ _ _ _ => False
theorem noexc_bad {K : PySem.W.Frag} {cA : Cfg0} {α β γ : Type} {Rl : WRel γ β} {W : WX} {σ : L2.St} {G : Hp} {am : List Addr} {C : Cells} {H : Hp} {Q : β → Hp → Prop} {r : Ev.R α} {f : α → Cells → Ev.R γ} (d : Dn K cA Rl W σ ((noexc r).bind f) G am C H Q) : ∃ a C', r = .ok a C' := by
  cases r with
  | ok a C' => exact ⟨a, C', rfl⟩
  | exc c fs C' => exact d.elim
  | bad => exact d.elim

/-! ### the turns of a clause -/
def delD (H : Hp) (D : Addr) : Hp := fun a => if a = D then none else H a
theorem delD_ne {H : Hp} {D a : Addr} (h : a ≠ D) : delD H D a = H a := if_neg h
theorem delD_some {H : Hp} {D a : Addr} {o : HO} (h : delD H D a = some o) : a ≠ D ∧ H a = some o := by
  unfold delD at h
  split at h
  · cases h
  · exact ⟨by assumption, h⟩
/-- behind a world, but for what stands at D -/
abbrev ExtD (D : Addr) (G : Hp) (am : List Addr) (C : Cells) (H : Hp) (G' : Hp) (am' : List Addr) (C' : Cells) (H' : Hp) : Prop := Ext G am C (delD H D) G' am' C' H'
section
variable {K : PySem.W.Frag} {cA : Cfg0} {G G' G0 : Hp} {am am' am0 : List Addr} {C C' C0 : Cells} {H H' H0 : Hp} {D : Addr} {us : List V}
theorem Ext.toD (x : Ext G am C H G' am' C' H') : ExtD D G am C H G' am' C' H' where
  g := x.g
  a := x.a
  keep := fun a o h n t => x.keep a o (delD_some h).2 n t
  tab := fun a ps h n => x.tab a ps (delD_some h).2 n
  live := fun a l => (x.live a l).imp id fun z => by
    unfold delD; split <;> first | rfl | exact z
  gn := fun a o h => (x.gn a o h).imp id (Or.imp (fun z => by unfold delD; split <;> first | rfl | exact z) id)
  lk := x.lk
theorem Ext.offD {H'' : Hp} (x : ExtD D G am C H G' am' C' H') (h : ∀ a, a ≠ D → H'' a = H' a) : ExtD D G am C H G' am' C' H'' :=
  ⟨x.g, x.a, fun a o e n t => by rw [h a (delD_some e).1]; exact x.keep a o e n t, fun a ps e n => by rw [h a (delD_some e).1]; exact x.tab a ps e n, x.live, x.gn, x.lk⟩
theorem ExtD.refl : ExtD D G am C H G am C H := Ext.refl.toD
theorem ExtD.trans {G1 : Hp} {am1 : List Addr} {C1 : Cells} {H1 : Hp} (x : ExtD D G am C H G' am' C' H') (y : ExtD D G' am' C' H' G1 am1 C1 H1) : ExtD D G am C H G1 am1 C1 H1 :=
  Ext.trans (x.offD (H'' := delD H' D) fun a h => delD_ne h) y
theorem Ext.bhd (x : Ext G am C H G' am' C' H') : Bhd G am C G' am' C' := ⟨x.g, x.a, x.lk⟩
theorem unlock_live {e : E} (x : Ext G am (Ev.lock C e) H G' am' C' H') {a : Addr} (h : Live am' (Ev.unlock C C' e) a) : Live am' C' a := by
  cases e with
  | r n =>
    simp only [Ev.unlock, cellAt] at h
    cases hc : C[n]? with
    | none => simp [hc] at h; exact h
    | some o =>
      cases o with
      | none => simp [hc] at h; exact h
      | some c =>
        simp only [hc, Option.join_some] at h
        cases c <;> first | exact h | skip
        case lst xs =>
          have hl : (Ev.lock C (.r n))[n]? = some (some (.lkd xs)) := by
            simp only [Ev.lock, cellAt, hc, Option.join_some]
            exact List.getElem?_set_self (List.getElem?_eq_some_iff.mp hc).1
          have hn := x.lk n xs hl
          obtain ⟨i, c, h1, h2⟩ := h
          by_cases hi : i = n
          · subst hi; exact ⟨i, _, hn, h2⟩
          · rw [List.getElem?_set_ne fun z => hi z.symm] at h1; exact ⟨i, c, h1, h2⟩
  | _ => exact h
theorem upd_off {o : HO} : ∀ a, a ≠ D → L2.upd H D o a = H a := fun a h => upd_ne h
end
def tB (K : PySem.W.Frag) (cA : Cfg) (fr : Env → Cells → List D → Ev.R (List D)) : Addr → L2.St → Hp → (Hp → Prop) → Prop := fun D σ H Nx =>
  ∃ env G am C acc us ds C', RelEnv K cA G am env σ ∧ Wd K cA G am C H ∧ Side G am C H D us ∧ RelDs K cA G acc us ∧ fr env C acc = .ok ds C' ∧
    ∀ G' am' H' us', ExtD D G am C H G' am' C' H' → Wd K cA G' am' C' H' → Side G' am' C' H' D us' → RelDs K cA G' ds us' → Nx H'
section
variable {X : Cx} {cA : Cfg} {pos : Pos}
theorem turns_rel {t : Tg} {vs : List Nat} {ft : Env → Cells → Ev.R Bool} {fr : Env → Cells → List D → Ev.R (List D)} {D : Addr} {σ : L2.St} {env : Env} {G1 : Hp} {am1 : List Addr} {C1 : Cells} {H1 : Hp} {us : List V} {acc ds dsF : List Ev.D} {CF : Cells} {J : L2.It} {Fin : Hp → Prop} {K : PySem.W.Frag}
    (re : RelEnv K cA G1 am1 env σ) (w1 : Wd K cA G1 am1 C1 H1) (s1 : Side G1 am1 C1 H1 D us) (ra : RelDs K cA G1 acc us) (wk : WalkD K cA J ds G1 am1 C1 H1) (ht : ∀ i ∈ tsl t, i ∈ vs)
    (hF : compL (wipeE env vs) t (fun env C acc => stepC (ft env C) (fun C => fr env C acc) acc) ds C1 acc = .ok dsF CF)
    (hfin : ∀ G' am' H' us', ExtD D G1 am1 C1 H1 G' am' CF H' → Wd K cA G' am' CF H' → Side G' am' CF H' D us' → RelDs K cA G' dsF us' → Fin H') :
    ∃ W : Nat → Nat → Hp → Prop, (∃ m, W 0 m H1) ∧ ∀ i m H, W i m H →
      (J.stop i H ∧ Fin H) ∨ (J.go i H ∧ ∃ Nx1 : Hp → Prop, (∀ H', Nx1 H' → ∃ m', m' < m ∧ W (i + 1) m' H') ∧ ∀ x H', J.yld i H x H' → tG K cA t x (L2.wipe σ vs) H' fun σ2 H2 => L2.wipe σ2 vs = L2.wipe σ vs ∧ tT K cA W0 ft σ2 H2 fun b H3 => if b = true then tB K cA fr D σ2 H3 Nx1 else Nx1 H3) := by
  have re0 := re.wipe vs
  generalize henv : wipeE env vs = env0 at hF re0
  generalize hbd : (fun (env : Env) (C : Cells) (acc : List Ev.D) => stepC (ft env C) (fun C => fr env C acc) acc) = bd at hF
  let Pv : Nat → Hp → Prop := fun i Hc => ∃ G2 am2 C2 acc us, ExtD D G1 am1 C1 H1 G2 am2 C2 Hc ∧ Wd K cA G2 am2 C2 Hc ∧ Side G2 am2 C2 Hc D us ∧ RelDs K cA G2 acc us ∧ compL env0 t bd (ds.drop i) C2 acc = .ok dsF CF
  refine ⟨fun i m Hc => m = ds.length - i ∧ i ≤ ds.length ∧ Pv i Hc, ⟨ds.length, by simp, Nat.zero_le _, G1, am1, C1, acc, us, ExtD.refl, w1, s1, ra, by rw [List.drop_zero]; exact hF⟩, ?_⟩
  rintro i m Hc ⟨rfl, hi', G2, am2, C2, acc, us, x2, w2, s2, ra, hfu⟩
  obtain ⟨go, stop, yld⟩ := wk G2 am2 C2 Hc x2.bhd w2
  by_cases hlt : i < ds.length
  · refine .inr ⟨go i hlt, Pv (i + 1), fun H' p => ⟨ds.length - (i + 1), by omega, rfl, hlt, p⟩, fun x H' y => ?_⟩
    obtain ⟨dd, G3, hd, x3, w3, rd⟩ := yld i x H' hlt y
    have hdrop : ds.drop i = dd :: ds.drop (i + 1) := by
      rw [List.drop_eq_getElem_cons hlt]
      congr 1
      have := List.getElem?_eq_getElem hlt
      rw [this] at hd; exact Option.some.inj hd
    rw [hdrop, compL] at hfu
    cases ha : asgT t dd env0 with
    | none => rw [ha] at hfu; dsimp only at hfu; cases hfu
    | some e1 =>
      rw [ha] at hfu
      dsimp only at hfu
      have re3 : RelEnv K cA G3 am2 env0 (L2.wipe σ vs) := (re0.mono x2).mono x3
      refine ⟨env0, G3, am2, C2, dd, e1, re3, w3, rd, ha, fun σ2 re2 off => ⟨(off.wipe ht).trans wipe_wipe, ?_⟩⟩
      have hb1 : bd e1 C2 acc = (ft e1 C2).bind fun b C => if b then fr e1 C acc else .ok acc C := by rw [← hbd]; rfl
      rw [hb1] at hfu
      refine ⟨e1, G3, am2, C2, re2, w3, ?_⟩
      cases et : ft e1 C2 with
      | bad => rw [et, Ev.R.bind_bad, Ev.R.bind_bad] at hfu; cases hfu
      | exc c fs C3 => rw [et, Ev.R.bind_exc, Ev.R.bind_exc] at hfu; cases hfu
      | ok b C3 =>
        rw [et, Ev.R.bind_ok] at hfu
        intro G4 am4 H4 v x4 w4 ev
        cases ev
        have x34 := x3.trans x4
        have s4 := s2.ext x34
        have x24 := ExtD.trans x2 (Ext.toD (D := D) x34)
        have ra4 := ra.mono x34.g
        cases b with
        | false =>
          rw [if_neg (by decide)] at hfu ⊢
          rw [Ev.R.bind_ok] at hfu
          exact ⟨G4, am4, C3, acc, us, x24, w4, s4, ra4, hfu⟩
        | true =>
          rw [if_pos rfl] at hfu ⊢
          cases ee : fr e1 C3 acc with
          | bad => rw [ee, Ev.R.bind_bad] at hfu; cases hfu
          | exc c fs C4 => rw [ee, Ev.R.bind_exc] at hfu; cases hfu
          | ok acc2 C4 =>
            rw [ee, Ev.R.bind_ok] at hfu
            exact ⟨e1, G4, am4, C3, acc, us, acc2, C4, re2.mono x4, w4, s4, ra4, ee, fun G5 am5 H5 us5 x5 w5 s5 r5 => ⟨G5, am5, C4, acc2, us5, ExtD.trans x24 x5, w5, s5, r5, hfu⟩⟩
  · have hie : i = ds.length := by omega
    subst hie
    refine .inl ⟨stop, ?_⟩
    rw [List.drop_length, compL] at hfu
    cases hfu
    exact hfin G2 am2 Hc us x2 w2 s2 ra
/-- the innermost -/
theorem r_elt {B : Cx} {elt : Expr} {gens : List Comprehension} {scope : Scope} {d : Nat} {fe : Env → Cells → Ev.R E} (hx : ∀ e s, ¬ B.xe e s) (h1 : gens[d + 1]? = none) (he : PE B elt (tE B.K cA W0 fe)) :
    PEm B elt gens scope pos d [] (tB B.K cA fun env C acc => pushD (fe env C) acc) := by
  refine ⟨fun D pins s σ H Nx I h => (pem_elt hx h1 he).run D pins s σ H Nx I ?_⟩
  obtain ⟨env, G, am, C, acc, us, ds, C', re, wd, sd, ra, hf, k⟩ := h
  refine ⟨env, G, am, C, re, wd, ?_⟩
  dsimp only [pushD] at hf
  cases ee : fe env C with
  | bad => rw [ee, Ev.R.bind_bad] at hf; cases hf
  | exc c fs C4 => rw [ee, Ev.R.bind_exc] at hf; cases hf
  | ok z C4 =>
    rw [ee, Ev.R.bind_ok] at hf
    cases z with
    | v dz =>
      dsimp only at hf
      by_cases hlen : acc.length < line
      · rw [if_pos hlen] at hf
        cases hf
        intro G5 am5 H5 yv x5 w5 rz
        have s5 := sd.ext x5
        exact ⟨us, s5.here, by rw [← ra.length, ← line_eq]; exact hlen, k G5 am5 _ _ ((Ext.toD x5).offD upd_off) (s5.wd w5 _) (s5.upd _) ((ra.mono x5.g).append (RelDs.one rz))⟩
      · rw [if_neg hlen] at hf; cases hf
    | _ => dsimp only at hf; cases hf
/-- a clause within -/
theorem r_gen {B : Cx} {elt t1 i1 : Expr} {ifs1 : List Expr} {gens : List Comprehension} {scope : Scope} {d : Nat} {t : Tg} {own vs : List Nat} {fi : Env → Cells → Ev.R (List D × E)} {ft : Env → Cells → Ev.R Bool} {fr : Env → Cells → List D → Ev.R (List D)}
    (hc : B.calm = true) (hx : ∀ e s, ¬ B.xe e s) (hz : ∀ g ∈ gens, g.is_async = 0) (h1 : gens[d + 1]? = some ⟨t1, i1, ifs1, 0⟩) (hs : plainX i1 = true)
    (pi : PI B t1 i1 (tI B.K cA W0 fi)) (pg : PG B t1 (tG B.K cA t)) (pt : PTs B ifs1 (tT B.K cA W0 ft)) (pe : PEm B elt gens scope pos (d + 1) own (tB B.K cA fr)) (hv : ∀ i ∈ own, i ∈ vs) (ht : ∀ i ∈ tsl t, i ∈ vs) :
    PEm B elt gens scope pos d vs (tB B.K cA fun env C acc => walkC (fi env C) fun ds C => compL (wipeE env vs) t (fun env C acc => stepC (ft env C) (fun C => fr env C acc) acc) ds C acc) := by
  refine ⟨fun D pins s σ H Nx I h => (pem_gen hc hx hz h1 (fun env => folded_plain hs) pi pg pt pe hv).run D pins s σ H Nx I ?_⟩
  obtain ⟨env, G, am, C, acc, us, ds, C', re, wd, sd, ra, hf, k⟩ := h
  refine ⟨env, G, am, C, re, wd, ?_⟩
  dsimp only [walkC] at hf
  cases ei : fi env C with
  | bad => rw [ei, Ev.R.bind_bad] at hf; cases hf
  | exc c fs C4 => rw [ei, Ev.R.bind_exc] at hf; cases hf
  | ok wv C1 =>
    obtain ⟨ds1, e⟩ := wv
    rw [ei, Ev.R.bind_ok] at hf
    dsimp only at hf
    intro G1 am1 H1 J x1 w1 wk
    dsimp only at wk
    cases ec : compL (wipeE env vs) t (fun env C acc => stepC (ft env C) (fun C => fr env C acc) acc) ds1 (lock C1 e) acc with
    | bad => rw [ec, Ev.R.bind_bad] at hf; cases hf
    | exc c fs C4 => rw [ec, Ev.R.bind_exc] at hf; cases hf
    | ok dsF CF =>
      rw [ec, Ev.R.bind_ok] at hf
      cases hf
      obtain ⟨w1l, x1l⟩ := w1.lock e
      have s1 := (sd.ext x1).ext x1l
      exact turns_rel ((re.mono x1).mono x1l) w1l s1 (ra.mono x1.g) wk ht ec fun G' am' H' us' x' w' s' r' => by
        obtain ⟨w4, x4⟩ := Wd.unlock x' w'
        exact k G' am' H' us' (ExtD.trans (Ext.toD x1) x4) w4 ⟨s'.here, s'.g, fun l => s'.l (unlock_live x' l)⟩ r'
theorem lcG_rel {W : WX} {σ : L2.St} {H : Hp} {Q : VK} {fi : Env → Cells → Ev.R (List D × E)} {t : Tg} {own : List (Str × Nat)} {ft : Env → Cells → Ev.R Bool} {fr : Env → Cells → List D → Ev.R (List D)} {scope : Scope}
    (nd : X.N.Nodup) (ok : BlkOk X.N X.env.scope scope own) (hown : ∀ i ∈ tsl t, i ∈ own.map (·.2)) (h : tE X.K cA W (fun env C => (fi env C).bind fun w C =>
      (noexc (compL (wipeE env (own.map (·.2))) t (fun env C acc => stepC (ft env C) (fun C => fr env C acc) acc) w.1 (lock C w.2) [])).bind fun ds C' => .ok (.v (.lst ds)) (unlock C C' w.2)) σ H Q) :
    tLcG (tI X.K cA W fi) (tG X.K cA t) (tT X.K cA W0 ft) (tB X.K cA fr) (own.map (·.2)) σ H Q := by
  obtain ⟨env, G, am, C, re, wd, d⟩ := h
  refine ⟨env, G, am, C, re, wd, ?_⟩
  dsimp only at d
  cases ei : fi env C with
  | bad => rw [ei] at d; exact d.elim
  | exc c fs C1 => rw [ei] at d; exact d
  | ok wv C1 =>
    obtain ⟨ds, e⟩ := wv
    rw [ei, Ev.R.bind_ok] at d
    intro G1 am1 H1 J x1 w1 wk L hL
    have d1 := d.shift x1
    dsimp only at d1 wk
    obtain ⟨dsF, CF, hF⟩ := noexc_bad d1
    rw [hF] at d1
    simp only [noexc, Ev.R.bind_ok] at d1
    obtain ⟨w1l, x1l⟩ := w1.lock e
    obtain ⟨s1, w2⟩ := Side.new (us := []) w1l hL
    refine turns_rel ((re.mono x1).mono x1l) w2 s1 (by simp only [RelDs]) (fun G2 am2 C2 H2 x2 w2 => wk G2 am2 C2 H2 x2 w2) hown hF fun G' am' H' us' x' w' s' r' => ?_
    have xx : Ext G1 am1 (lock C1 e) H1 G' am' CF H' := by
      have e0 : delD (L2.upd H1 L (.lst [])) L = H1 := by
        funext b
        by_cases hb : b = L
        · subst hb; unfold delD; rw [if_pos rfl, hL]
        · rw [delD_ne hb, upd_ne hb]
      have x' := x'
      unfold ExtD at x'
      rw [e0] at x'
      exact x'
    obtain ⟨w3, sg⟩ := s'.done w'
    have x3 := xx.done (us := us') w1l hL
    obtain ⟨w4, x4⟩ := Wd.unlock x3 w3
    refine d1 _ _ _ (.ref L) x4 w4 ?_
    simp only [rE, RelE, RelD]
    exact ⟨L, us', rfl, SqL.of upd_same, r'.mono sg⟩
theorem r_comp {W : WX} {fi : Env → Cells → Ev.R (List D × E)} {t : Tg} {own : List (Str × Nat)} {vs1 : List Nat} {ft : Env → Cells → Ev.R Bool} {fr : Env → Cells → List D → Ev.R (List D)} {tg iter elt : Expr} {ifs : List Expr} {gs : List Comprehension} {scope : Scope}
    (hc : X.calm = true) (nd : X.N.Nodup) (hi : PI X tg iter (tI X.K cA W fi)) (ok : BlkOk X.N X.env.scope scope own) (hz : ∀ g ∈ gs, g.is_async = 0) (hown : ∀ i ∈ tsl t, i ∈ own.map (·.2)) (hv : ∀ i ∈ vs1, i ∈ own.map (·.2))
    (hg : ∀ (s : Shared) (H : Hp) (C : Addr) (cl : List (Str × Addr)) (fp : List Addr), PG (X.blk s H scope (compEnvC scope cl C X.env) fp) tg (tG X.K cA t))
    (ht : ∀ (s : Shared) (H : Hp) (C : Addr) (cl : List (Str × Addr)) (fp : List Addr), PTs (X.blk s H scope (compEnvC scope cl C X.env) fp) ifs (tT X.K cA W0 ft))
    (he : ∀ (s : Shared) (H : Hp) (C : Addr) (cl : List (Str × Addr)) (fp : List Addr), PEm (X.blk s H scope (compEnvC scope cl C X.env) fp) elt (⟨tg, iter, ifs, 0⟩ :: gs) scope pos 0 vs1 (tB X.K cA fr)) (hs : plainX iter = true) :
    PE X (.ListComp elt (⟨tg, iter, ifs, 0⟩ :: gs) scope pos) (tE X.K cA W fun env C => (fi env C).bind fun w C =>
      (noexc (compL (wipeE env (own.map (·.2))) t (fun env C acc => stepC (ft env C) (fun C => fr env C acc) acc) w.1 (lock C w.2) [])).bind fun ds C' => .ok (.v (.lst ds)) (unlock C C' w.2)) := by
  refine ⟨fun pins s σ H Q I h => ?_⟩
  rw [eval_ListComp]
  refine lcG_core hc nd I hi ok hz hv hg ht he (folded_plain hs) (lcG_rel nd ok hown h) fun D C s' m H' I' q hn f => ⟨m, hn, fun h'' sb => ?_⟩
  obtain ⟨f0, f1, f2, f3, f4, f5⟩ := f
  exact ⟨.ref D, H', I'.turned (t' := s'.toks) (fun b o hb e => (sb.2 b hb).trans e) f0 f1 f3 f4 f5, rfl, q⟩
/-- the list is stored at once -/
theorem r_setLc {W : WX} {fi : Env → Cells → Ev.R (List D × E)} {t : Tg} {own : List (Str × Nat)} {vs1 : List Nat} {ft : Env → Cells → Ev.R Bool} {fr : Env → Cells → List D → Ev.R (List D)} {tg iter elt : Expr} {ifs : List Expr} {gs : List Comprehension} {scope : Scope} {i : Nat} {y : Str} {py spos : Pos}
    (hc : X.calm = true) (nd : X.N.Nodup) (hy : X.N[i]? = some y) (hyl : X.env.scope.names.lookup y = some .local) (hsw : swapsWith (.ListComp elt (⟨tg, iter, ifs, 0⟩ :: gs) scope pos) (some (.Name y py)) spos.line X.env = pure true)
    (hi : PI X tg iter (tI X.K cA W fi)) (ok : BlkOk X.N X.env.scope scope own) (hz : ∀ g ∈ gs, g.is_async = 0) (hown : ∀ i ∈ tsl t, i ∈ own.map (·.2)) (hv : ∀ i ∈ vs1, i ∈ own.map (·.2))
    (hg : ∀ (s : Shared) (H : Hp) (C : Addr) (cl : List (Str × Addr)) (fp : List Addr), PG (X.blk s H scope (compEnvC scope cl C X.env) fp) tg (tG X.K cA t))
    (ht : ∀ (s : Shared) (H : Hp) (C : Addr) (cl : List (Str × Addr)) (fp : List Addr), PTs (X.blk s H scope (compEnvC scope cl C X.env) fp) ifs (tT X.K cA W0 ft))
    (he : ∀ (s : Shared) (H : Hp) (C : Addr) (cl : List (Str × Addr)) (fp : List Addr), PEm (X.blk s H scope (compEnvC scope cl C X.env) fp) elt (⟨tg, iter, ifs, 0⟩ :: gs) scope pos 0 vs1 (tB X.K cA fr)) (hs : plainX iter = true) :
    PS X (.Assign [.Name y py] (.ListComp elt (⟨tg, iter, ifs, 0⟩ :: gs) scope pos) spos) (tAsg (tE X.K cA W fun env C => (fi env C).bind fun w C =>
      (noexc (compL (wipeE env (own.map (·.2))) t (fun env C acc => stepC (ft env C) (fun C => fr env C acc) acc) w.1 (lock C w.2) [])).bind fun ds C' => .ok (.v (.lst ds)) (unlock C C' w.2)) (gName i)) := by
  refine ⟨fun pins s σ H D I h => ?_⟩
  rw [exec_Assign_Name_used _ _ _ _ hsw]
  refine wpAny_bind (wpAny_standAt (wpAny_bind ?_))
  show wpAny _ X.A (do let _ ← comprehension (.ListComp elt (⟨tg, iter, ifs, 0⟩ :: gs) scope pos) scope X.env (firstIterPos (⟨tg, iter, ifs, 0⟩ :: gs) pos) (newList []) false (eval iter X.env) (some (assign (.Name y py) X.env))) _ _ s
  refine wpAny_bind (thn (lcG_core (Qf := fun _ s' => SP X pins D .next s') hc nd I hi ok hz hv hg ht he (folded_plain hs) (lcG_rel (Q := fun x H1 => gName i x σ H1 D.nx) nd ok hown h) fun L C s' m H' I' q hn f => ?_) fun _ s' hq => wpAny_pure (wpAny_pure hq))
  show wpAny _ _ (assign (.Name y py) X.env (.ref L)) _ _ _
  refine wpAny_assign_Name (store_ok2 (v := V.ref L) I' nd hy (.inl hyl) rfl (fun s2 I2 ⟨a, sb, ha⟩ => ?_) (.inr hyl))
  obtain ⟨f0, f1, f2, f3, f4, f5⟩ := f
  have haC : C ≠ a := by
    rcases ha with z | z
    · rw [z]; exact f1
    · exact fun e => f4 y a z e.symm
  refine ⟨m, hn.sameBut sb haC, fun h3 sb3 => ?_⟩
  exact ⟨_, H', I2.turned (t' := s2.toks) (fun b o hb e => (sb3.2 b hb).trans e) f0 f1 f3 f4 f5, q⟩
end
end Ev

end

section
set_option maxRecDepth 512
set_option Elab.async false
set_option linter.all false
set_option maxRecDepth 100000
set_option maxHeartbeats 4000000
namespace Ev
open PySem L2 PySem.Spec PyProof.Rows

/-! ### statements read by the evaluator -/
def DnS (K : PySem.W.Frag) (cA : Cfg) (W : WX) (r : RS) (G : Hp) (am : List Addr) (C : Cells) (H : Hp) (D : Ends) : Prop :=
  match r with
  | .next env' C' => ∀ G' am' H' σ', Ext G am C H G' am' C' H' → Wd K cA G' am' C' H' → RelEnv K cA G' am' env' σ' → D.nx σ' H'
  | .ret e C' => ∀ G' am' H' v, Ext G am C H G' am' C' H' → Wd K cA G' am' C' H' → RelE K cA G' am' e v → D.rt v H'
  | .brk env' C' => ∀ G' am' H' σ', Ext G am C H G' am' C' H' → Wd K cA G' am' C' H' → RelEnv K cA G' am' env' σ' → D.bk σ' H'
  | .ct env' C' => ∀ G' am' H' σ', Ext G am C H G' am' C' H' → Wd K cA G' am' C' H' → RelEnv K cA G' am' env' σ' → D.ct σ' H'
  | .exc c fs env' C' => ∀ G' am' H' σ' cls dd, Ext G am C H G' am' C' H' → Wd K cA G' am' C' H' → RelEnv K cA G' am' env' σ' → RelX K cA G' c fs cls dd → W cls dd σ' H'
  | .bad => False
def tS (K : PySem.W.Frag) (cA : Cfg) (W : WX) (ev : Env → Cells → RS) : TS := fun D σ H =>
  ∃ env G am C, RelEnv K cA G am env σ ∧ Wd K cA G am C H ∧ DnS K cA W (ev env C) G am C H D
theorem PS.imp {X : Cx} {e : Stmt} {t t' : TS} (h : PS X e t) (i : ∀ D σ H, t' D σ H → t D σ H) : PS X e t' := ⟨fun pins s σ H D I q => h.run pins s σ H D I (i D σ H q)⟩
theorem PSs.imp {X : Cx} {e : List Stmt} {t t' : TS} (h : PSs X e t) (i : ∀ D σ H, t' D σ H → t D σ H) : PSs X e t' := ⟨fun pins s σ H D I q => h.run pins s σ H D I (i D σ H q)⟩
section
variable {K : PySem.W.Frag} {cA : Cfg} {W : WX} {σ : L2.St} {G G' : Hp} {am am' : List Addr} {C C' : Cells} {H H' : Hp} {D : Ends}
theorem DnS.shift {r : RS} (x : Ext G am C H G' am' C' H') (h : DnS K cA W r G am C H D) : DnS K cA W r G' am' C' H' D := by
  cases r with
  | next env C2 => exact fun G2 am2 H2 σ' x2 w2 r2 => h G2 am2 H2 σ' (x.trans x2) w2 r2
  | ret e C2 => exact fun G2 am2 H2 v x2 w2 r2 => h G2 am2 H2 v (x.trans x2) w2 r2
  | brk env C2 => exact fun G2 am2 H2 σ' x2 w2 r2 => h G2 am2 H2 σ' (x.trans x2) w2 r2
  | ct env C2 => exact fun G2 am2 H2 σ' x2 w2 r2 => h G2 am2 H2 σ' (x.trans x2) w2 r2
  | exc c fs env C2 => exact fun G2 am2 H2 σ' cls dd x2 w2 re r2 => h G2 am2 H2 σ' cls dd (x.trans x2) w2 re r2
  | bad => exact h
/-- an expression, then what it is for -/
theorem DnS.st {α β : Type} {Rl : WRel α β} {r : Ev.R α} {env : Env} {f : α → Cells → RS} (re : RelEnv K cA G am env σ) (h : DnS K cA W (r.st env f) G am C H D) :
    Dn K cA Rl W σ r G am C H fun v H1 => ∃ G1 am1 C1 a, Ext G am C H G1 am1 C1 H1 ∧ Wd K cA G1 am1 C1 H1 ∧ Rl G1 am1 C1 H1 a v ∧ RelEnv K cA G1 am1 env σ ∧ DnS K cA W (f a C1) G1 am1 C1 H1 D := by
  cases r with
  | ok a C2 => exact fun G2 am2 H2 v x2 w2 r2 => ⟨G2, am2, C2, a, x2, w2, r2, re.mono x2, DnS.shift x2 h⟩
  | exc c fs C2 => exact fun G2 am2 H2 cls dd x2 w2 r2 => h G2 am2 H2 σ cls dd x2 w2 (re.mono x2) r2
  | bad => exact h
theorem DnS.next {env : Env} (h : DnS K cA W (.next env C) G am C H D) (wd : Wd K cA G am C H) (re : RelEnv K cA G am env σ) : D.nx σ H := h G am H σ Ext.refl wd re
end
section
variable {X : Cx} {cA : Cfg} {sx : Sx} {k : Nat} {W : WX} {a b c : Expr} {fa fb fc : Env → Cells → Ev.R E} {ga gb : Env → Cells → RS} {pos : Pos} {ss rs : List Stmt} {st : Stmt}
theorem s_nil : PSs X [] (tS X.K cA W fun env C => .next env C) := PSs.imp pss_nil fun D σ H ⟨env, G, am, C, re, wd, d⟩ => DnS.next d wd re
theorem s_cons (hs : PS X st (tS X.K cA W ga)) (hr : PSs X rs (tS X.K cA W gb)) : PSs X (st :: rs) (tS X.K cA W fun env C => match ga env C with
    | .next env C => gb env C
    | x => x) := by
  refine PSs.imp (pss_cons hs hr) fun D σ H ⟨env, G, am, C, re, wd, d⟩ => ?_
  refine ⟨env, G, am, C, re, wd, ?_⟩
  dsimp only at d
  cases e : ga env C with
  | next env' C' =>
    rw [e] at d
    exact fun G2 am2 H2 σ' x2 w2 r2 => ⟨env', G2, am2, C', r2, w2, DnS.shift x2 d⟩
  | ret e2 C' => rw [e] at d; exact d
  | brk env' C' => rw [e] at d; exact d
  | ct env' C' => rw [e] at d; exact d
  | exc c fs env' C' => rw [e] at d; exact d
  | bad => rw [e] at d; exact d
theorem s_pass : PS X (.Pass pos) (tS X.K cA W fun env C => .next env C) := PS.imp ps_pass fun D σ H ⟨env, G, am, C, re, wd, d⟩ => DnS.next d wd re
theorem s_brk : PS X (.Break pos) (tS X.K cA W fun env C => .brk env C) := PS.imp ps_break fun D σ H ⟨env, G, am, C, re, wd, d⟩ => d G am H σ Ext.refl wd re
theorem s_ct : PS X (.Continue pos) (tS X.K cA W fun env C => .ct env C) := PS.imp ps_continue fun D σ H ⟨env, G, am, C, re, wd, d⟩ => d G am H σ Ext.refl wd re
theorem s_exp (ha : PE X a (tE X.K cA W fa)) (hn : noComp a = true) : PS X (.Expr a pos) (tS X.K cA W fun env C => (fa env C).st env fun _ C => .next env C) := by
  refine PS.imp (ps_expr ha (sw_plain hn)) fun D σ H ⟨env, G, am, C, re, wd, d⟩ => ?_
  exact ⟨env, G, am, C, re, wd, Dn.imp (DnS.st (Rl := rE X.K cA) re d) fun v H1 ⟨G1, am1, C1, x, x1, w1, rx, re1, d1⟩ => DnS.next d1 w1 re1⟩
theorem s_ret (ha : PE X a (tE X.K cA W fa)) : PS X (.Return (some a) pos) (tS X.K cA W fun env C => (fa env C).st env fun x C => .ret x C) := by
  refine PS.imp (ps_ret ha) fun D σ H ⟨env, G, am, C, re, wd, d⟩ => ?_
  exact ⟨env, G, am, C, re, wd, Dn.imp (DnS.st (Rl := rE X.K cA) re d) fun v H1 ⟨G1, am1, C1, x, x1, w1, rx, re1, d1⟩ => d1 G1 am1 H1 v Ext.refl w1 rx⟩
theorem s_retN : PS X (.Return none pos) (tS X.K cA W fun _ C => .ret (.v .non) C) := PS.imp ps_retN fun D σ H ⟨env, G, am, C, re, wd, d⟩ => d G am H .non Ext.refl wd (by simp only [RelE, RelD])
theorem s_ife (hc : PT X c (tT X.K cA W fun env C => truR (fc env C))) (ha : PSs X ss (tS X.K cA W ga)) (hb : PSs X rs (tS X.K cA W gb)) : PS X (.If c ss rs pos) (tS X.K cA W fun env C => (fc env C).st env fun x C => match truE C x with
    | none => .bad
    | some true => ga env C
    | some false => gb env C) := by
  refine PS.imp (ps_if hc ha hb) fun D σ H ⟨env, G, am, C, re, wd, d⟩ => ?_
  refine ⟨env, G, am, C, re, wd, ?_⟩
  dsimp only at d ⊢
  cases e : fc env C with
  | bad => rw [e] at d; exact d.elim
  | exc c fs C1 => rw [e] at d; exact fun G2 am2 H2 cls dd x2 w2 r2 => d G2 am2 H2 σ cls dd x2 w2 (re.mono x2) r2
  | ok x C1 =>
    rw [e] at d
    simp only [Ev.R.st] at d
    simp only [truR, Ev.R.bind_ok]
    cases t : truE C1 x with
    | none => simp only [t] at d; exact d.elim
    | some b =>
      simp only [Ev.R.of_some]
      intro G' am' H' v x1 w1 e1
      cases e1
      cases b with
      | true => simp only [t] at d; exact iteT ⟨env, G', am', C1, re.mono x1, w1, DnS.shift x1 d⟩
      | false => simp only [t] at d; exact iteF ⟨env, G', am', C1, re.mono x1, w1, DnS.shift x1 d⟩
/-- what a store asks of its text -/
def swapB (sc : Scope) (tg e : Expr) (line : Nat) : Option Bool :=
  match e, tg with
  | .ListComp _ _ s p, .Name t tp => some (decide (sc.names.lookup t = some .local) && tp.line == p.line && !(s.names.any fun (n, k) => n == t && (k == .local || k == .cell)))
  | .ListComp .., _ => some false
  | .SetComp .., _ => none
  | .DictComp .., _ => none
  | _, _ => some false
end
end Ev

end

section
set_option maxRecDepth 512
set_option Elab.async false
set_option linter.all false
set_option maxRecDepth 100000
set_option maxHeartbeats 4000000
namespace Ev
open PySem L2 PySem.Spec PyProof.Rows

section
variable {K : PySem.W.Frag} {cA : Cfg0} {G : Hp} {am : List Addr} {C : Cells} {H : Hp}
/-- the cell that a reference names -/
theorem Wd.at (wd : Wd K cA G am C H) {n : Nat} {v : V} {c : Cell} (r : RelE K cA G am (.r n) v) (h : cellAt C n = some c) : ∃ a, v = .ref a ∧ am[n]? = some a ∧ C[n]? = some (some c) ∧ CellO K cA G am H a c ∧ G a = none := by
  obtain ⟨a, h1, rfl⟩ := r
  have hc : C[n]? = some (some c) := by
    unfold cellAt at h
    cases e : C[n]? with
    | none => rw [e] at h; cases h
    | some o => rw [e] at h; simp only [Option.join_some] at h; rw [h]
  obtain ⟨a', h2, h3, h4⟩ := wd.cell n c hc
  rw [h1] at h2; cases h2
  exact ⟨a, rfl, h1, hc, h3, h4⟩
/-- a list's cell is written -/
theorem Wd.put (wd : Wd K cA G am C H) {n : Nat} {a : Addr} {xs ys : List D} {us vs : List V} (h1 : am[n]? = some a) (hc : C[n]? = some (some (.lst xs))) (hH : H a = some (.lst us)) (rd : RelDs K cA G ys vs) :
    Wd K cA G am (C.set n (some (.lst ys))) (L2.upd H a (.lst vs)) ∧ Ext G am C H G am (C.set n (some (.lst ys))) (L2.upd H a (.lst vs)) := by
  have hlt := (List.getElem?_eq_some_iff.mp hc).1
  have lv : Live am C a := ⟨n, _, hc, h1⟩
  have hg : G a = none := by
    obtain ⟨a', h2, _, h4⟩ := wd.cell n _ hc
    rw [h1] at h2; cases h2; exact h4
  have get : ∀ {i : Nat} {c : Cell}, (C.set n (some (.lst ys)))[i]? = some (some c) → (i = n ∧ c = .lst ys) ∨ (i ≠ n ∧ C[i]? = some (some c)) := fun {i c} h => by
    by_cases hi : i = n
    · subst hi; rw [List.getElem?_set_self hlt] at h; cases h; exact .inl ⟨rfl, rfl⟩
    · rw [List.getElem?_set_ne fun z => hi z.symm] at h; exact .inr ⟨hi, h⟩
  have lv2 : ∀ b, Live am (C.set n (some (.lst ys))) b → Live am C b := fun b ⟨i, c, h, q⟩ => by
    rcases get h with ⟨rfl, rfl⟩ | ⟨_, h⟩
    · exact ⟨_, _, hc, q⟩
    · exact ⟨i, c, h, q⟩
  refine ⟨⟨wd.tab_to (Same.refl _) (fun P ps e => by rw [upd_ne (fun z => by rw [z, hH] at e; cases e)]; exact e) fun _ _ _ n => n, fun b u q => ?_, by simp [wd.len], fun i c h => ?_, fun i j c d b e1 e2 q1 q2 => ?_⟩,
    ⟨Same.refl _, ⟨[], by simp⟩, fun b o q nl t => ?_, fun b ps q nl => ?_, fun b l => .inl (lv2 b l), fun b o q => .inl q, fun m zs h => ?_⟩⟩
  · have : b ≠ a := fun z => by rw [z, hg] at q; cases q
    rw [upd_ne this]; exact wd.sub _ _ q
  · rcases get h with ⟨rfl, rfl⟩ | ⟨hi, h⟩
    · exact ⟨a, h1, ⟨vs, upd_same, rd⟩, hg⟩
    · obtain ⟨b, q1, q2, q3⟩ := wd.cell i c h
      have nb : b ≠ a := fun z => hi (wd.inj i n c _ a h hc (by rw [← z]; exact q1) h1)
      refine ⟨b, q1, ?_, q3⟩
      cases c with
      | lst xs => obtain ⟨us, z, r⟩ := q2; exact ⟨us, by rw [upd_ne nb]; exact z, r⟩
      | lkd xs => obtain ⟨us, z, r⟩ := q2; exact ⟨us, by rw [upd_ne nb]; exact z, r⟩
      | dct kvs => exact q2
      | ins c fs =>
        obtain ⟨Ca, dx, gs, z1, z2, z3, r⟩ := q2
        have nd : dx ≠ a := fun z => by rw [z, hH] at z3; cases z3
        exact ⟨Ca, dx, gs, z1, by rw [upd_ne nb]; exact z2, by rw [upd_ne nd]; exact z3, r⟩
  · have f1 : ∃ c', C[i]? = some (some c') := by
      rcases get e1 with ⟨rfl, rfl⟩ | ⟨_, h⟩
      · exact ⟨_, hc⟩
      · exact ⟨_, h⟩
    have f2 : ∃ c', C[j]? = some (some c') := by
      rcases get e2 with ⟨rfl, rfl⟩ | ⟨_, h⟩
      · exact ⟨_, hc⟩
      · exact ⟨_, h⟩
    obtain ⟨c', f1⟩ := f1
    obtain ⟨d', f2⟩ := f2
    exact wd.inj i j c' d' b f1 f2 q1 q2
  · have : b ≠ a := fun z => nl (z ▸ lv)
    rw [upd_ne this]; exact q
  · have : b ≠ a := fun z => nl (z ▸ lv)
    exact ⟨ps, by rw [upd_ne this]; exact q⟩
  · have hm : m ≠ n := fun z => by rw [z, hc] at h; cases h
    rw [List.getElem?_set_ne fun z => hm z.symm]; exact h
end
section
variable {X : Cx} {cA : Cfg} {sx : Sx} {k : Nat} {W : WX} {a b c : Expr} {fa fb fc fo : Env → Cells → Ev.R E} {pos : Pos}
theorem Gd.sto (g : Gd sx k W X) {y : Nm} (h : y ∈ sx.st) : Loc X.env.scope (T y) ∧ (X.fn (T y) = true ∨ X.env.scope.names.lookup (T y) = some .local) := g.stb y h
def stoB (sx : Sx) (x : Str) : Bool := sx.st.any fun y => decide (T y = x)
theorem stoB_ok (g : Gd sx k W X) {x : Str} (h : stoB sx x = true) : Loc X.env.scope x ∧ (X.fn x = true ∨ X.env.scope.names.lookup x = some .local) := by
  unfold stoB at h
  simp only [List.any_eq_true, decide_eq_true_eq] at h
  obtain ⟨y, hy, rfl⟩ := h
  exact g.stb y hy
theorem tAsg_name {i : Nat} {D : Ends} {σ : L2.St} {H : Hp} (h : tS X.K cA W (fun env C => (fa env C).st env fun x C => match asgE (.nm i) x env with
    | none => .bad
    | some env => .next env C) D σ H) : tAsg (tE X.K cA W fa) (gName i) D σ H := by
  obtain ⟨env, G, am, C, re, wd, d⟩ := h
  refine ⟨env, G, am, C, re, wd, Dn.imp (DnS.st (Rl := rE X.K cA) re d) fun v H1 ⟨G1, am1, C1, x, x1, w1, rx, re1, d1⟩ => ?_⟩
  exact d1 G1 am1 H1 _ Ext.refl w1 (re1.set rx)
/-- name = e -/
theorem s_asgN (g : Gd sx k W X) {i : Nat} {x : Str} {p : Pos} (h : nmAt sx.N i x = true) (hs : stoB sx x = true) (ha : PE X a (tE X.K cA W fa)) (hsw : swapsWith a (some (.Name x p)) pos.line X.env = pure false) :
    PS X (.Assign [.Name x p] a pos) (tS X.K cA W fun env C => (fa env C).st env fun x C => match asgE (.nm i) x env with
    | none => .bad
    | some env => .next env C) := by
  obtain ⟨l1, l2⟩ := stoB_ok g hs
  exact PS.imp (ps_set g.nd (g.at h) l1 ha hsw l2) fun D σ H h => tAsg_name h
/-- a, (b, ..) = e -/
theorem s_asgT (g : Gd sx k W X) {ts : Tgs} {es : List Expr} {n : Nat} {p : Pos} (h : ckT sx (.tup ts) (.Tuple es n p) = true) (ha : PE X a (tE X.K cA W fa)) (hsw : swapsWithSole [.Tuple es n p] a pos.line X.env = pure false) (hw : swappedStores [.Tuple es n p] a X.env = pure none) :
    PS X (.Assign [.Tuple es n p] a pos) (tS X.K cA W fun env C => (fa env C).st env fun x C => match asgE (.tup ts) x env with
    | none => .bad
    | some env => .next env C) := by
  refine PS.imp (ps_asg ha (r_tg (cA := cA) g h) hsw hw) fun D σ H ⟨env, G, am, C, re, wd, d⟩ => ?_
  refine ⟨env, G, am, C, re, wd, Dn.imp (DnS.st (Rl := rE X.K cA) re d) fun v H1 ⟨G1, am1, C1, x, x1, w1, rx, re1, d1⟩ => ?_⟩
  cases x with
  | v dx =>
    simp only [asgE] at d1
    cases e : asgT (.tup ts) dx env with
    | none => simp only [e] at d1; exact d1.elim
    | some env' =>
      simp only [e] at d1
      exact ⟨env, G1, am1, C1, dx, env', re1, w1, rx, e, fun σ' r' o => d1 G1 am1 H1 σ' Ext.refl w1 r'⟩
  | _ => exact d1.elim
/-- a, b = x, y of plain local names -/
theorem s_par (g : Gd sx k W X) {i j : Nat} {x y : Str} {px py pt pt2 : Pos} {kt k2 : Nat} (hh : sx.hot = false) (hi : nmAt sx.N i x = true) (hj : nmAt sx.N j y = true) (hij : i ≠ j) (hx : sx.sc.names.lookup x = some .local) (hy : sx.sc.names.lookup y = some .local)
    (pa : plainX a = true) (pb : plainX b = true) (ha : PE X a (tE X.K cA W fa)) (hb : PE X b (tE X.K cA W fb)) (hw : swappedStores [.Tuple [.Name x px, .Name y py] kt pt] (.Tuple [a, b] k2 pt2) X.env = pure (some [x, y])) :
    PS X (.Assign [.Tuple [.Name x px, .Name y py] kt pt] (.Tuple [a, b] k2 pt2) pos) (tS X.K cA W fun env C => (fa env C).st env fun x C => (fb env C).st env fun y C => .next ((env.set i (some x)).set j (some y)) C) := by
  refine PS.imp (ps_par (g.calm hh) g.nd (g.at hi) (g.at hj) hij (by rw [g.sc]; exact hx) (by rw [g.sc]; exact hy) (pa_cons ha (pa_cons hb pa_nil (star_cons pb)) (star_cons pa)) hw) fun D σ H ⟨env, G, am, C, re, wd, d⟩ => ?_
  refine ⟨env, G, am, C, re, wd, Dn.imp (DnS.st (Rl := rE X.K cA) re d) fun v H1 ⟨G1, am1, C1, x, x1, w1, rx, re1, d1⟩ => ?_⟩
  refine ⟨env, G1, am1, C1, re1, w1, Dn.imp (DnS.st (Rl := rE X.K cA) re1 d1) fun v2 H2 ⟨G2, am2, C2, y, x2, w2, ry, re2, d2⟩ => ?_⟩
  exact ⟨v, v2, rfl, d2 G2 am2 H2 _ Ext.refl w2 ((re2.set (RelE.mono x2.g x2.a rx)).set ry)⟩

/-! ### op= -/
theorem op_augD (o : Bop) : OpR X (inplaceOp (bopO o)) (fun x y H Q => ∃ dx dy z, RelD X.K cA (fun _ => none) dx x ∧ RelD X.K cA (fun _ => none) dy y ∧ augV o dx dy = some z ∧ ∀ v, RelD X.K cA (fun _ => none) z v → Q v H) := by
  intro pins s σ H x y v u Q I rx ry ⟨a, b, z, ra, rb, e, q⟩
  have int : ∀ {i : Int} {v : V}, RelD X.K cA (fun _ => none) (.int i) v → v = .int i := fun h => by simpa only [RelD] using h
  have str : ∀ {i : Nm} {v : V}, RelD X.K cA (fun _ => none) (.str i) v → v = .str (T i) := fun h => by simpa only [RelD] using h
  unfold augV at e
  split at e
  · cases e; exact iop_add pins s σ H x y v u Q I rx ry ⟨_, _, int ra, int rb, q _ (by simp only [RelD])⟩
  · cases e; exact iop_sub pins s σ H x y v u Q I rx ry ⟨_, _, int ra, int rb, q _ (by simp only [RelD])⟩
  · split at e
    · rename_i hs
      cases e
      refine iop_mul pins s σ H x y v u Q I rx ry ⟨_, _, int ra, int rb, ?_, q _ (by simp only [RelD])⟩
      simp only [smallI, Bool.or_eq_true, decide_eq_true_eq] at hs
      exact hs
    · cases e
  · split at e
    · rename_i hl
      cases e
      refine iop_add_str pins s σ H x y v u Q I rx ry ⟨_, _, str ra, str rb, ?_, q _ (by simp only [RelD, T_add])⟩
      rw [T_len, T_len, ← line_eq]; exact hl
    · cases e
  · cases e
theorem OpR.or {f : Value → Value → Sem Value} {r r' : R2} (h : OpR X f r) (h' : OpR X f r') : OpR X f (fun x y H Q => r x y H Q ∨ r' x y H Q) := fun pins s σ H x y v u Q I rx ry q => q.elim (h pins s σ H x y v u Q I rx ry) (h' pins s σ H x y v u Q I rx ry)
/-- a flat tree -/
def flatD : D → Bool
  | .int _ => true
  | .str _ => true
  | _ => false
theorem flat_any {K : PySem.W.Frag} {cA : Cfg0} {G G' : Hp} {d : D} {v : V} (h : flatD d = true) (r : RelD K cA G d v) : RelD K cA G' d v := by
  cases d <;> first | (simp [flatD] at h; done) | (simp only [RelD] at r ⊢; exact r)
theorem aug_flat {o : Bop} {x y z : D} (h : augV o x y = some z) : flatD x = true ∧ flatD y = true ∧ flatD z = true := by
  unfold augV at h
  split at h <;> first | (cases h; exact ⟨rfl, rfl, rfl⟩) | (split at h <;> first | (cases h; exact ⟨rfl, rfl, rfl⟩) | cases h) | cases h
theorem iaddW (l : Addr) (items : Array Value) (n : Nat) (b : Addr) (items2 : Array Value) (n2 : Nat) (dd : Option Addr) (sl : Array (Option Value)) (hs0 : ¬(!items.isEmpty && Builtin.List.listTooLong (items.size + items2.size)) = true) (hs1 : items.size ≤ sizeLine) (hs2 : items.size + items2.size ≤ sizeLine + 1) :
    Meets (Builtin.«list.__iadd__» ⟨[.ref l, .ref b], []⟩) (fun _ R s => s.heap.get? l = some { cls := .type "list", dict := none, data := .seq items n, slots := #[] } ∧ s.heap.get? b = some { cls := .type "list", dict := dd, data := .seq items2 n2, slots := sl } ∧ R (.ok (.ret (Value.ref l))) { s with heap := s.heap.update l (Obj.mapSeq fun x => x ++ items2) }) :=
  .of_wp fun prog w A R s h => by
    obtain ⟨hp, g, d, tk, os⟩ := s
    obtain ⟨hl, hb, h⟩ := h
    have f1 := AutoSeq1.idx_int
    have f2 := AutoSeq1.sub_tuple_tuple
    have f3 := AutoSeq1.sub_list_list
    have f4 := AutoSeq1.sub_tuple_list
    have f5 := AutoSeq1.sub_list_tuple
    have hz' : (items ++ items2).size ≤ sizeLine + 1 := by rw [Array.size_append]; exact hs2
    wp_walk using (wpAny_updateSeq hl rfl (hz := hs1) (_hz' := hz')), AutoSeq1.wpAny_loadPart' hl, AutoSeq1.wpAny_loadPart' hb
    exact ⟨_, rfl, h⟩
/-- a list that may be written, op= any list -/
theorem op_extD : OpR X (inplaceOp .Add) (fun x y H Q => ∃ l b xs zs, x = .ref l ∧ y = .ref b ∧ H l = some (.lst xs) ∧ SqL X.K H b zs ∧ xs.length + zs.length ≤ sizeLine ∧ Q (.ref l) (L2.upd H l (.lst (xs ++ zs)))) := by
  intro pins s σ H x y v u Q I rx ry h
  obtain ⟨l, b, xs, zs, rfl, rfl, hH, hB, hz, q⟩ := h
  cases rx
  cases ry
  obtain ⟨z, its, n, r, hl, e⟩ := I.lstM hH
  obtain ⟨its2, r2, pl, hl2⟩ := I.list hB
  have l1 := r.length
  have l2 := r2.length
  obtain ⟨⟨cls, dd, data, sl⟩, e2, hc, n2, hd⟩ := pl.isList
  simp only at hc hd
  subst hc hd
  have hsz : its.toArray.size + its2.toArray.size ≤ sizeLine := by rw [List.size_toArray, List.size_toArray]; omega
  have hlong : ¬ (!its.toArray.isEmpty && Builtin.List.listTooLong (its.toArray.size + its2.toArray.size)) = true := by
    rw [notLongL hsz, Bool.and_false]
    exact Bool.false_ne_true
  refine iadd_road ⟨_, e, rfl⟩ ⟨_, e2, rfl⟩ (call_meets PySem.F.slot_list_iadd ⟨_, e, rfl⟩ PySem.F.entry_list_iadd (PySem.F.args_list_iadd_2 _ _)
    (iaddW l its.toArray n b its2.toArray n2 dd sl hlong (by rw [List.size_toArray]; omega) (by omega)) ⟨e, e2, ?_⟩)
  refine ⟨.ref l, _, I.lset (its' := its ++ its2) (t' := s.toks) hH e (by simp) (r.append r2) ?_, rfl, q⟩
  rw [List.length_append]
  omega
theorem s_aug (g : Gd sx k W X) {i : Nat} {x : Str} {p : Pos} (o : Bop) (h : nmAt sx.N i x = true) (hs : stoB sx x = true) (ha : PE X a (tE X.K cA W fa)) :
    PS X (.AugAssign (.Name x p) (bopO o) a pos) (tS X.K cA W fun env C => match (env[i]?).join with
    | some (.v x) => (fa env C).st env fun y C => match (see C y).bind fun y => augV o x y with
      | none => .bad
      | some z => .next (env.set i (some (.v z))) C
    | some (.r n) => (fa env C).st env fun y C => match o, cellAt C n, see C y with
      | .add, some (.lst xs), some (.lst ys) => if xs.length + ys.length ≤ line then .next (env.set i (some (.r n))) (C.set n (some (.lst (xs ++ ys)))) else .bad
      | _, _, _ => .bad
    | _ => .bad) := by
  obtain ⟨l1, l2⟩ := stoB_ok g hs
  have pip : PIp X (bopO o) (fun x y H Q => (∃ dx dy z, RelD X.K cA (fun _ => none) dx x ∧ RelD X.K cA (fun _ => none) dy y ∧ augV o dx dy = some z ∧ ∀ v, RelD X.K cA (fun _ => none) z v → Q v H) ∨
      o = .add ∧ ∃ l b xs zs, x = .ref l ∧ y = .ref b ∧ H l = some (.lst xs) ∧ SqL X.K H b zs ∧ xs.length + zs.length ≤ sizeLine ∧ Q (.ref l) (L2.upd H l (.lst (xs ++ zs)))) := fun pins s σ H x y v u Q I rx ry q => by
    rcases q with q | ⟨rfl, q⟩
    · exact op_augD (cA := cA) o pins s σ H x y v u Q I rx ry q
    · exact op_extD pins s σ H x y v u Q I rx ry q
  refine PS.imp (ps_aug g.nd (g.at h) l1 ha pip l2) fun D σ H ⟨env, G, am, C, re, wd, d⟩ => ?_
  dsimp only at d
  cases e1 : env[i]? with
  | none => simp only [e1, Option.join_none] at d; exact d.elim
  | some o1 =>
    cases o1 with
    | none => simp only [e1, Option.join_some] at d; exact d.elim
    | some e' =>
      obtain ⟨v, h1, h2⟩ := re.2 i _ e1
      simp only [e1, Option.join_some] at d
      cases e' with
      | clo j => exact d.elim
      | exn c fs => exact d.elim
      | v dx =>
        have h2 : RelD X.K cA G dx v := by
          rcases h2 with h2 | ⟨j, z, _⟩ | ⟨c, fs, z, _⟩
          · exact h2
          · cases z
          · cases z
        refine ⟨v, h1, env, G, am, C, re, wd, Dn.imp (DnS.st (Rl := rE X.K cA) re d) fun w H1 ⟨G1, am1, C1, y, x1, w1, ry, re1, d1⟩ => ?_⟩
        cases ez : (see C1 y).bind fun y => augV o dx y with
        | none => simp only [ez] at d1; exact d1.elim
        | some z =>
          simp only [ez] at d1
          rw [Option.bind_eq_some_iff] at ez
          obtain ⟨dy, hy, ez⟩ := ez
          obtain ⟨f1, f2, f3⟩ := aug_flat ez
          have ry' : RelD X.K cA (fun _ => none) dy w := by
            have := see_rel w1 ry hy
            cases dy <;> first | (simp [flatD] at f2; done) | exact flat_any (G := G1) f2 this
          exact .inl ⟨dx, dy, z, flat_any f1 h2, ry', ez, fun v2 rv => d1 G1 am1 H1 _ Ext.refl w1 (re1.set (e := .v z) (flat_any f3 rv))⟩
      | r n =>
        have h2 : RelE X.K cA G am (.r n) v := by
          rcases h2 with h2 | ⟨j, z, _⟩ | ⟨c, fs, z, _⟩
          · exact h2
          · cases z
          · cases z
        refine ⟨v, h1, env, G, am, C, re, wd, Dn.imp (DnS.st (Rl := rE X.K cA) re d) fun w H1 ⟨G1, am1, C1, y, x1, w1, ry, re1, d1⟩ => ?_⟩
        have h2' := RelE.mono x1.g x1.a h2
        cases o <;> first | exact d1.elim | skip
        cases ec : cellAt C1 n with
        | none => simp only [ec] at d1; exact d1.elim
        | some cl =>
          cases cl <;> simp only [ec] at d1 <;> first | exact d1.elim | skip
          case lst xs =>
            cases ey : see C1 y with
            | none => simp only [ey] at d1; exact d1.elim
            | some dy =>
              cases dy <;> simp only [ey] at d1 <;> first | exact d1.elim | skip
              case lst ys =>
                split at d1
                · rename_i hl
                  obtain ⟨a2, e2, h3, h4, ⟨us, h5, h6⟩, h7⟩ := w1.at h2' ec
                  obtain ⟨b, vs, rfl, h8, h9⟩ := see_rel w1 ry ey
                  obtain ⟨w2, x2⟩ := w1.put h3 h4 h5 (h6.append h9)
                  refine .inr ⟨rfl, a2, b, us, vs, e2, rfl, h5, h8, by rw [← h6.length, ← h9.length, ← line_eq]; exact hl, ?_⟩
                  exact d1 G1 am1 _ _ x2 w2 ((re1.mono x2).set (e := .r n) ⟨a2, h3, rfl⟩)
                · exact d1.elim
end
end Ev

end

section
set_option maxRecDepth 512
set_option Elab.async false
set_option linter.all false
set_option maxRecDepth 100000
set_option maxHeartbeats 4000000
namespace Ev
open PySem L2 PySem.Spec PyProof.Rows
section
variable {X : Cx} {cA : Cfg} {sx : Sx} {k : Nat} {W : WX} {a b c : Expr} {fa fb fc fo : Env → Cells → Ev.R E} {pos : Pos}
theorem get_list : PGet X (fun o i H Q => ∃ p xs k v, o = .ref p ∧ i = .int k ∧ SqL X.K H p xs ∧ L2.atI xs k = some v ∧ Q v H) := by
  intro pins s σ H x y v u Q I rx ry h
  obtain ⟨p, xs, i, z, rfl, rfl, hq, he, q⟩ := h
  cases rx
  obtain ⟨t, rfl⟩ := ry
  obtain ⟨its, r, pl, hz⟩ := I.list hq
  obtain ⟨j, h1, h2, h3, h4, h5⟩ := atI_get he
  obtain ⟨w, ew, rw'⟩ := r.get h2
  have hl := r.length
  have hn := line63
  have fin : EP X pins σ Q w s := ⟨z, H, I, rw', q⟩
  by_cases h0 : 0 ≤ i
  · have hj : i.toNat = j := by
      rw [seqIndex_of h0 h5] at h1
      exact Option.some.inj h1
    exact wpAny_getItem_list pl.isList h0 (by omega) (by rw [hj]; simpa using ew) fin
  · have hj : (i + (its.toArray.size : Int)).toNat = j := by
      rw [seqIndex_neg (by omega) h4] at h1
      rw [List.size_toArray, ← hl]
      exact Option.some.inj h1
    exact wpAny_getItem_list_neg pl.isList (by omega) (by rw [List.size_toArray] <;> omega) (by omega) (by rw [hj]; simpa using ew) fin
theorem aug_store {e : Expr} (h : plainX e = true) : ∀ ov iv new, augStore e ov iv new = (do holding [new, ov, iv] (setItem ov iv new); release [new, ov, iv] []; pure .next) := by
  intro ov iv new
  cases e <;> first | rfl | (simp [plainX] at h)
theorem s_augI {e : Expr} {fi fe : Env → Cells → Ev.R E} {tp : Pos} (op : Bop) (hp : plainX b = true) (ho : PE X a (tE X.K cA W fo)) (hi : PE X b (tE X.K cA W fi)) (he : PE X e (tE X.K cA W fe)) :
    PS X (.AugAssign (.Subscript a b tp) (bopO op) e pos) (tS X.K cA W fun env C => (fo env C).st env fun x C => (fi env C).st env fun y C => match x, y with
    | .r n, .v (.int k) => match cellAt C n with
      | some (.lst xs) => match atD xs k with
        | none => .bad
        | some old => (fe env C).st env fun z C => match z with
          | .v z => match augV op old z, cellAt C n with
            | some w, some (.lst xs) => match ixN xs.length k with
              | some j => .next env (C.set n (some (.lst (xs.set j w))))
              | none => .bad
            | _, _ => .bad
          | _ => .bad
      | _ => .bad
    | _, _ => .bad) := by
  have pip : PIp X (bopO op) (fun x y H Q => ∃ dx dy z, RelD X.K cA (fun _ => none) dx x ∧ RelD X.K cA (fun _ => none) dy y ∧ augV op dx dy = some z ∧ ∀ v, RelD X.K cA (fun _ => none) z v → Q v H) := fun pins s σ H x y v u Q I rx ry q => op_augD (cA := cA) op pins s σ H x y v u Q I rx ry q
  refine PS.imp (ps_augS ho hi get_list he pip set_list (aug_store hp)) fun D σ H ⟨env, G, am, C, re, wd, d⟩ => ?_
  refine ⟨env, G, am, C, re, wd, Dn.imp (DnS.st (Rl := rE X.K cA) re d) fun vo H1 ⟨G1, am1, C1, x, x1, w1, rx, re1, d1⟩ => ?_⟩
  refine ⟨env, G1, am1, C1, re1, w1, Dn.imp (DnS.st (Rl := rE X.K cA) re1 d1) fun vi H2 ⟨G2, am2, C2, y, x2, w2, ry, re2, d2⟩ => ?_⟩
  cases x with
  | r n =>
    cases y with
    | v dy =>
      cases dy <;> first | exact d2.elim | skip
      case int kk =>
        simp only at d2
        cases ec : cellAt C2 n with
        | none => simp only [ec] at d2; exact d2.elim
        | some cl =>
          cases cl <;> simp only [ec] at d2 <;> first | exact d2.elim | skip
          case lst xs =>
            cases ea : atD xs kk with
            | none => simp only [ea] at d2; exact d2.elim
            | some old =>
              simp only [ea] at d2
              have rx2 : RelE X.K cA G2 am2 (.r n) vo := RelE.mono x2.g x2.a rx
              obtain ⟨p, e2, h3, h4, ⟨us, h5, h6⟩, h7⟩ := w2.at rx2 ec
              obtain ⟨vold, hv1, hv2⟩ := atD_get h6 ea
              simp only [rE, RelE, RelD] at ry
              refine ⟨p, us, kk, vold, e2, ry, SqL.of h5, hv1, env, G2, am2, C2, re2, w2, Dn.imp (DnS.st (Rl := rE X.K cA) re2 d2) fun vz H3 ⟨G3, am3, C3, z, x3, w3, rz, re3, d3⟩ => ?_⟩
              cases z with
              | v dz =>
                simp only at d3
                cases ew : augV op old dz with
                | none => simp only [ew] at d3; exact d3.elim
                | some wv =>
                  cases ec3 : cellAt C3 n with
                  | none => simp only [ew, ec3] at d3; exact d3.elim
                  | some cl3 =>
                    cases cl3 <;> simp only [ew, ec3] at d3 <;> first | exact d3.elim | skip
                    case lst xs3 =>
                      cases ej : Ev.ixN xs3.length kk with
                      | none => simp only [ej] at d3; exact d3.elim
                      | some j =>
                        simp only [ej] at d3
                        obtain ⟨f1, f2, f3⟩ := aug_flat ew
                        have rx3 : RelE X.K cA G3 am3 (.r n) vo := RelE.mono x3.g x3.a rx2
                        obtain ⟨p3, e3, g3, g4, ⟨us3, g5, g6⟩, g7⟩ := w3.at rx3 ec3
                        refine ⟨old, dz, wv, flat_any f1 hv2, flat_any (G := G3) f2 rz, ew, fun v2 rv2 => ?_⟩
                        obtain ⟨w4, x4⟩ := w3.put g3 g4 g5 (g6.set j (flat_any f3 rv2))
                        exact ⟨p3, us3, kk, j, e3, ry, g5, by rw [← g6.length, ← ixN_eq]; exact ej, d3 G3 am3 _ σ x4 w4 (re3.mono x4)⟩
              | _ => exact d3.elim
    | _ => exact d2.elim
  | _ => exact d2.elim
theorem s_setI (g : Gd sx k W X) {e : Expr} {fi fe : Env → Cells → Ev.R E} {tp : Pos} (hp : plainX b = true) (hn : noComp e = true) (ho : PE X a (tE X.K cA W fo)) (hi : PE X b (tE X.K cA W fi)) (he : PE X e (tE X.K cA W fe)) :
    PS X (.Assign [.Subscript a b tp] e pos) (tS X.K cA W fun env C => (fe env C).st env fun z C => (fo env C).st env fun x C => (fi env C).st env fun y C => match x, y, z with
    | .r n, .v (.int k), .v z => match cellAt C n with
      | some (.lst xs) => match ixN xs.length k with
        | some j => .next env (C.set n (some (.lst (xs.set j z))))
        | none => .bad
      | _ => .bad
    | _, _, _ => .bad) := by
  have pg := pg_sub (pos := tp) ho hi (set_list (X := X)) (by intro v; cases b <;> first | rfl | (simp [plainX] at hp))
  have hsw : swapsWithSole [.Subscript a b tp] e pos.line X.env = pure false := by show swapsWith e (some (.Subscript a b tp)) pos.line X.env = pure false; exact sw_plain hn
  have hw : swappedStores [.Subscript a b tp] e X.env = pure none := by unfold swappedStores; rfl
  refine PS.imp (ps_asg he pg hsw hw) fun D σ H ⟨env, G, am, C, re, wd, d⟩ => ?_
  refine ⟨env, G, am, C, re, wd, Dn.imp (DnS.st (Rl := rE X.K cA) re d) fun vz H1 ⟨G1, am1, C1, z, x1, w1, rz, re1, d1⟩ => ?_⟩
  refine ⟨env, G1, am1, C1, re1, w1, Dn.imp (DnS.st (Rl := rE X.K cA) re1 d1) fun vo H2 ⟨G2, am2, C2, x, x2, w2, rx, re2, d2⟩ => ?_⟩
  refine ⟨env, G2, am2, C2, re2, w2, Dn.imp (DnS.st (Rl := rE X.K cA) re2 d2) fun vi H3 ⟨G3, am3, C3, y, x3, w3, ry, re3, d3⟩ => ?_⟩
  cases x with
  | r n =>
    cases y with
    | v dy =>
      cases dy <;> first | exact d3.elim | skip
      case int kk =>
        cases z with
        | v dz =>
          simp only at d3
          cases ec : cellAt C3 n with
          | none => simp only [ec] at d3; exact d3.elim
          | some cl =>
            cases cl <;> simp only [ec] at d3 <;> first | exact d3.elim | skip
            case lst xs =>
              cases ej : Ev.ixN xs.length kk with
              | none => simp only [ej] at d3; exact d3.elim
              | some j =>
                simp only [ej] at d3
                have rx3 : RelE X.K cA G3 am3 (.r n) vo := RelE.mono x3.g x3.a rx
                obtain ⟨p3, e3, g3, g4, ⟨us3, g5, g6⟩, g7⟩ := w3.at rx3 ec
                simp only [rE, RelE, RelD] at ry
                have rz3 : RelD X.K cA G3 dz vz := RelD.mono (x2.trans x3).g rz
                obtain ⟨w4, x4⟩ := w3.put g3 g4 g5 (g6.set j rz3)
                exact ⟨p3, us3, kk, j, e3, ry, g5, by rw [← g6.length, ← ixN_eq]; exact ej, d3 G3 am3 _ σ x4 w4 (re3.mono x4)⟩
        | _ => exact d3.elim
    | _ => exact d3.elim
  | _ => exact d3.elim

/-! ### loops -/
theorem RS.map_next {f : Cells → Cells} {env : Env} {C : Cells} : (RS.next env C).map f = .next env (f C) := rfl
/-- a for's suite: what follows one of its turns -/
theorem s_for (g : Gd sx k W X) {t : Tg} {fi : Env → Cells → Ev.R (List D × E)} {fb : Env → Cells → RS} {tg iter : Expr} {body : List Stmt} (hp : PassesOwn (model X.prog X.w) X.A X.env X.xe) (hh : sx.hot = false) (hi : PI X tg iter (tI X.K cA W fi)) (ht : ckT sx t tg = true) (hb : PSs X body (tS X.K cA W fb)) (hs : plainX iter = true) :
    PS X (.For tg iter body [] pos) (tS X.K cA W fun env C => (fi env C).st env fun w C => (forL t fb w.1 env (lock C w.2)).map fun C' => unlock C C' w.2) := by
  refine PS.imp (ps_for hp (g.calm hh) hi (r_tg (cA := cA) g ht) hb (folded_plain hs)) fun D σ H ⟨env, G, am, C, re, wd, d⟩ => ?_
  refine ⟨env, G, am, C, re, wd, ?_⟩
  dsimp only at d
  cases ei : fi env C with
  | bad => rw [ei] at d; exact d.elim
  | exc c fs C1 => rw [ei] at d; exact fun G2 am2 H2 cls dd x2 w2 r2 => d G2 am2 H2 σ cls dd x2 w2 (re.mono x2) r2
  | ok wv C1 =>
    obtain ⟨ds, e⟩ := wv
    rw [ei] at d
    simp only [Ev.R.st] at d
    intro G1 am1 H1 J x1 w1 wk
    dsimp only at wk
    have d1 : DnS X.K cA W ((forL t fb ds env (lock C1 e)).map fun C' => unlock C1 C' e) G1 am1 C1 H1 D := DnS.shift x1 d
    obtain ⟨w1l, x1l⟩ := w1.lock e
    generalize hr : (forL t fb ds env (lock C1 e)) = full at d1
    refine ⟨fun i m σ H => m = ds.length - i ∧ i ≤ ds.length ∧ ∃ env2 G2 am2 C2, Ext G1 am1 (lock C1 e) H1 G2 am2 C2 H ∧ Wd X.K cA G2 am2 C2 H ∧ RelEnv X.K cA G2 am2 env2 σ ∧ forL t fb (ds.drop i) env2 C2 = full,
      ⟨ds.length, by simp, Nat.zero_le _, env, G1, am1, lock C1 e, Ext.refl, w1l, re.mono x1, by rw [List.drop_zero]; exact hr⟩, ?_⟩
    rintro i m σ2 H2 ⟨rfl, hi', env2, G2, am2, C2, x2, w2, re2, hfu⟩
    obtain ⟨go, stop, yld⟩ := wk G2 am2 C2 H2 x2.bhd w2
    by_cases hlt : i < ds.length
    · refine .inr ⟨go i hlt, fun σ' H' => ∃ env2 G2 am2 C2, Ext G1 am1 (lock C1 e) H1 G2 am2 C2 H' ∧ Wd X.K cA G2 am2 C2 H' ∧ RelEnv X.K cA G2 am2 env2 σ' ∧ forL t fb (ds.drop (i + 1)) env2 C2 = full, fun σ' H' p => ⟨ds.length - (i + 1), by omega, rfl, hlt, p⟩, fun x H' y => ?_⟩
      obtain ⟨dd, G3, hd, x3, w3, rd⟩ := yld i x H' hlt y
      have hdrop : ds.drop i = dd :: ds.drop (i + 1) := by
        rw [List.drop_eq_getElem_cons hlt]
        congr 1
        have := List.getElem?_eq_getElem hlt
        rw [this] at hd; exact Option.some.inj hd
      rw [hdrop, forL] at hfu
      cases ha : asgT t dd env2 with
      | none => rw [ha] at hfu; dsimp only at hfu; rw [← hfu] at d1; exact d1.elim
      | some e1 =>
        rw [ha] at hfu
        dsimp only at hfu
        have x23 := x2.trans x3
        refine ⟨env2, G3, am2, C2, dd, e1, re2.mono x3, w3, rd, ha, fun σ3 re3 off => ⟨e1, G3, am2, C2, re3, w3, ?_⟩⟩
        cases eb : fb e1 C2 with
        | next env4 C4 => rw [eb] at hfu; exact fun G4 am4 H4 σ4 x4 w4 r4 => ⟨env4, G4, am4, C4, x23.trans x4, w4, r4, hfu⟩
        | ct env4 C4 => rw [eb] at hfu; exact fun G4 am4 H4 σ4 x4 w4 r4 => ⟨env4, G4, am4, C4, x23.trans x4, w4, r4, hfu⟩
        | brk env4 C4 =>
          rw [eb] at hfu
          rw [← hfu] at d1
          exact fun G4 am4 H4 σ4 x4 w4 r4 => let ⟨w5, x5⟩ := Wd.unlock (x23.trans x4) w4; d1 G4 am4 H4 σ4 x5 w5 r4
        | ret e4 C4 =>
          rw [eb] at hfu
          rw [← hfu] at d1
          exact fun G4 am4 H4 σ4 x4 w4 r4 => let ⟨w5, x5⟩ := Wd.unlock (x23.trans x4) w4; d1 G4 am4 H4 σ4 x5 w5 r4
        | exc c fs env4 C4 =>
          rw [eb] at hfu
          rw [← hfu] at d1
          exact fun G4 am4 H4 σ4 cls dd x4 w4 re4 r4 => let ⟨w5, x5⟩ := Wd.unlock (x23.trans x4) w4; d1 G4 am4 H4 σ4 cls dd x5 w5 re4 r4
        | bad => rw [eb] at hfu; rw [← hfu] at d1; exact d1.elim
    · have hie : i = ds.length := by omega
      subst hie
      refine .inl ⟨stop, ?_⟩
      rw [List.drop_length, forL] at hfu
      rw [← hfu] at d1
      obtain ⟨w5, x5⟩ := Wd.unlock x2 w2
      exact d1 G2 am2 H2 σ2 x5 w5 re2
end
end Ev

end

section
set_option maxRecDepth 512
set_option Elab.async false
set_option linter.all false
set_option maxRecDepth 100000
set_option maxHeartbeats 4000000
namespace Ev
open PySem L2 PySem.Spec PyProof.Rows

theorem upd_comm {H : Hp} {a b : Addr} {o u : HO} (h : a ≠ b) : L2.upd (L2.upd H a o) b u = L2.upd (L2.upd H b u) a o := by
  funext x
  by_cases ha : x = a
  · subst ha; rw [upd_same, upd_ne h, upd_same]
  · by_cases hb : x = b
    · subst hb; rw [upd_same, upd_ne ha, upd_same]
    · rw [upd_ne hb, upd_ne ha, upd_ne ha, upd_ne hb]
section
variable {K : PySem.W.Frag} {cA : Cfg0} {G G' : Hp} {am am' : List Addr} {C C' : Cells} {H H' : Hp}
theorem Wd.notbl (wd : Wd K cA G am C H) {P : Addr} {ps : Array Value} (h : H P = some (.tbl ps)) : ¬ Live am C P := fun ⟨i, c, e, q⟩ => by
  obtain ⟨a, h1, h2, _⟩ := wd.cell i c e
  rw [q] at h1; cases h1
  cases c with
  | lst xs => obtain ⟨us, z, _⟩ := h2; rw [h] at z; cases z
  | lkd xs => obtain ⟨us, z, _⟩ := h2; rw [h] at z; cases z
  | dct kvs => exact h2
  | ins c fs => obtain ⟨_, _, _, _, z, _⟩ := h2; rw [h] at z; cases z
/-- a table has grown -/
theorem Wd.tabUp (wd : Wd K cA G am C H) {P : Addr} {q : Str} {ps ps' : Array Value} (hP : H P = some (.tbl ps)) (hg : G P = none) (ht : TriplesOk ps'.toList) (ha : ∀ (pos : Pos) (cv : Value), codeAmong pos ps'.toList = some cv → ∃ c, cv = .ref c ∧ G c = some (LamX.CodeO c q)) (hu : ∀ p ∈ cA.tb, p.1 = P → p.2 = q) :
    Wd K cA G am C (L2.upd H P (.tbl ps')) ∧ Ext G am C H G am C (L2.upd H P (.tbl ps')) := by
  have nl := wd.notbl hP
  refine ⟨⟨fun p hp => ?_, fun b u e => ?_, wd.len, fun i c e => ?_, wd.inj⟩, ⟨Same.refl _, ⟨[], by simp⟩, fun b o e _ t => ?_, fun b qs e _ => ?_, fun _ l => .inl l, fun _ _ e => .inl e, fun _ _ e => e⟩⟩
  · by_cases h : p.1 = P
    · rw [hu p hp h, h]
      exact ⟨⟨ps', upd_same, ht, ha⟩, hg⟩
    · obtain ⟨t, n⟩ := wd.tabs p hp
      exact ⟨t.mono (Same.refl _) fun qs e => by rw [upd_ne h]; exact e, n⟩
  · have : b ≠ P := fun z => by rw [z, hg] at e; cases e
    rw [upd_ne this]; exact wd.sub _ _ e
  · obtain ⟨a, h1, h2, h3⟩ := wd.cell i c e
    have na : a ≠ P := fun z => nl ⟨i, c, e, z ▸ h1⟩
    refine ⟨a, h1, ?_, h3⟩
    cases c with
    | lst xs => obtain ⟨us, z, r⟩ := h2; exact ⟨us, by rw [upd_ne na]; exact z, r⟩
    | lkd xs => obtain ⟨us, z, r⟩ := h2; exact ⟨us, by rw [upd_ne na]; exact z, r⟩
    | dct kvs => exact h2
    | ins c fs =>
      obtain ⟨Ca, dx, gs, z1, z2, z3, r⟩ := h2
      have nd : dx ≠ P := fun z => by rw [z, hP] at z3; cases z3
      exact ⟨Ca, dx, gs, z1, by rw [upd_ne na]; exact z2, by rw [upd_ne nd]; exact z3, r⟩
  · have : b ≠ P := fun z => by rw [z, hP] at e; cases e; exact t _ rfl
    rw [upd_ne this]; exact e
  · by_cases h : b = P
    · subst h; exact ⟨ps', upd_same⟩
    · exact ⟨qs, by rw [upd_ne h]; exact e⟩
end
section
variable {X : Cx} {pins : List (Addr × Obj)} {σ : L2.St} {H : Hp} {s : Shared}
/-- a lambda's object just made is known from now on -/
theorem inv_lam {q : Str} {p : Arguments} {b : Expr} {sc : Scope} {cl : List (Str × Addr)} {c' : Addr} {pm ctv : Value} {t' : Nat} (I : L2.Inv X pins σ H s) :
    L2.Inv X pins σ (L2.upd H s.heap.objs.size (LamO q p b sc cl c' s.heap.objs.size)) { s with heap := s.heap.push (PySem.W.kla_obj "<lambda>" q p b sc cl pm c' ctv), toks := t' } := by
  refine I.laid (a := s.heap.objs.size) (fun b u e => Heap.get?_push_of_some _ e) (Nat.le_refl _) ?_
  have e : (s.heap.push (PySem.W.kla_obj "<lambda>" q p b sc cl pm c' ctv)).get? s.heap.objs.size = some (PySem.W.kla_obj "<lambda>" q p b sc cl pm c' ctv) := Heap.get?_push_size _ rfl
  exact ⟨⟨pm, ctv, e⟩, ⟨_, e⟩, fun h1 h2 ⟨p, t, z⟩ st => ⟨p, t, st _ z⟩⟩
theorem lam_mk {cA : Cfg0} {G : Hp} {am : List Addr} {C : Cells} {c P : Addr} {q : Str} {params : Arguments} {body : Expr} {scope : Scope} {pos : Pos} {E : Value → Shared → Prop} {Q : Value → Shared → Prop} (I : L2.Inv X pins σ H s) (wd : Wd X.K cA G am C H) (TB : LamX.TabB X.base X.mg c P) (hcode : X.env.code = .ref c)
    (hq : q = X.env.qual ++ "<lambda>") (hm : (P, q) ∈ cA.tb) (hu : ∀ p ∈ cA.tb, p.1 = P → p.2 = q) (hdef : defaultsOf params X.env = ([], [])) (hfree : ∀ y ∈ scope.names, y.2 = .free → ∃ c, X.env.cells.lookup y.1 = some c)
    (h : ∀ (f c' : Addr) (G1 H1 : Hp) (s' : Shared), L2.Inv X pins σ H1 s' → Ext G am C H G1 am C H1 → Wd X.K cA G1 am C H1 → G1 f = some (LamO q params body scope (cloFrom X.env.cells scope.names []) c' f) → G1 c' = some (LamX.CodeO c' q) → Q (.ref f) s') :
    wpAny (model X.prog X.w) X.A (eval (.Lambda params body scope pos) X.env) Q E s := by
  subst hq
  obtain ⟨⟨ps, hP, ht, ha⟩, hgP⟩ := wd.tabs _ hm
  refine PySem.W.kla_eval hdef ?_
  have bP : s.heap.BuiltinsAt X.mg P := TB.bm.keeps I.bk
  have hP' : s.heap.get? P = some { cls := .none, data := .fields ps } := I.hok P _ hP
  cases hc : codeAmong pos ps.toList with
  | none =>
    refine PySem.W.kla_makeFunction (mg := X.mg) (c := c) (P := P) (ps := ps) (closure_ok hfree) I.ok.glob (I.mod.glob.keeps I.bk) hcode (TB.code.keeps I.bk) hP' ht hc TB.gP bP fun c' ctv h' tk hx hge hlt hrec htb => ?_
    obtain ⟨c2, oc, vs, t, e2, hoc, hd, hv⟩ := hrec
    cases e2
    have nC : H c' = none := I.hok.fresh hge
    have hPc : P ≠ c' := ne_of_none hP nC
    have I1 := LamX.inv_table (t' := tk) (q := X.env.qual ++ "<lambda>") (more := #[rawInt pos.line, rawInt pos.col, .ref c']) (h' := h') I hP (fun b o hb e => hx b o hb e) htb hge ⟨oc, vs, t, hoc, hd, hv⟩
    rw [upd_comm hPc] at I1
    obtain ⟨w1, x1⟩ := wd.new nC (LamX.CodeO c' (X.env.qual ++ "<lambda>"))
    have eL : (ps ++ #[rawInt pos.line, rawInt pos.col, .ref c']).toList = ps.toList ++ [rawInt pos.line, rawInt pos.col, .ref c'] := by simp
    obtain ⟨w2, x2⟩ := w1.tabUp (P := P) (q := X.env.qual ++ "<lambda>") (ps := ps) (ps' := ps ++ #[rawInt pos.line, rawInt pos.col, .ref c']) (by rw [upd_ne hPc]; exact hP) (by rw [upd_ne hPc]; exact hgP) (by rw [eL]; exact PySem.TriplesOk_snoc _ _ _ _ ht) (fun p' cv hcv => by
      rw [eL] at hcv
      rcases LamX.among_app _ ht hcv with z | z
      · obtain ⟨c0, e1, e2⟩ := ha p' cv z
        exact ⟨c0, e1, x1.g _ _ e2⟩
      · exact ⟨c', z, upd_same⟩) hu
    have nF := I1.hok.fresh (Nat.le_refl _)
    have I2 := inv_lam (q := X.env.qual ++ "<lambda>") (p := params) (b := body) (sc := scope) (cl := cloFrom X.env.cells scope.names []) (c' := c') (pm := (X.mg "__name__").getD .none) (ctv := ctv) (t' := tk) I1
    obtain ⟨w3, x3⟩ := w2.new nF (LamO (X.env.qual ++ "<lambda>") params body scope (cloFrom X.env.cells scope.names []) c' h'.objs.size)
    refine h h'.objs.size c' _ _ _ I2 ((x1.trans x2).trans x3) w3 upd_same ?_
    exact (upd_ne (Nat.ne_of_lt hlt)).trans upd_same
  | some cv =>
    obtain ⟨c', e, hco⟩ := ha pos cv hc
    subst e
    refine PySem.W.kla_makeFunctionHit (mg := X.mg) (c := c) (P := P) (ps := ps) (closure_ok hfree) I.ok.glob (I.mod.glob.keeps I.bk) hcode (TB.code.keeps I.bk) hP' ht hc bP fun ctv h' tk hx hsz => ?_
    have I1 : L2.Inv X pins σ H { s with heap := h', toks := tk } := I.kept hx
    have nF : H h'.objs.size = none := I1.hok.fresh (Nat.le_refl _)
    have I2 := inv_lam (q := X.env.qual ++ "<lambda>") (p := params) (b := body) (sc := scope) (cl := cloFrom X.env.cells scope.names []) (c' := c') (pm := (X.mg "__name__").getD .none) (ctv := ctv) (t' := tk) I1
    obtain ⟨w3, x3⟩ := wd.new nF (LamO (X.env.qual ++ "<lambda>") params body scope (cloFrom X.env.cells scope.names []) c' h'.objs.size)
    exact h h'.objs.size c' _ _ _ I2 x3 w3 upd_same (x3.g _ _ hco)
end
/-! ### rows of lambdas -/
/-- what a frame with lambdas knows -/
structure LamF (cA : Cfg) (X : Cx) : Prop where
  cells : cA.cells = X.env.cells
  q : cA.q = X.env.qual ++ "<lambda>"
  tb : ∃ c P, LamX.TabB X.base X.mg c P ∧ X.env.code = .ref c ∧ (P, cA.q) ∈ cA.tb ∧ ∀ p ∈ cA.tb, p.1 = P → p.2 = cA.q
def lamX : Expr → Option (Arguments × Expr × Scope)
  | .Lambda p b sc _ => some (p, b, sc)
  | _ => none
def argsB (p : Arguments) : Bool := p.posonlyargs.isEmpty && p.args.isEmpty && p.vararg.isNone && p.kwonlyargs.isEmpty && p.kw_defaults.isEmpty && p.kwarg.isNone && p.defaults.isEmpty
/-- the lambdas js stand there -/
def ckL (cA : Cfg) (sc : Scope) : List Nat → List Expr → Prop
  | [], [] => True
  | j :: js, e :: es => (∃ p b s, lamX e = some (p, b, s) ∧ cA.lam j p b s ∧ LamX.LamS sc s ∧ argsB p = true) ∧ ckL cA sc js es
  | _, _ => False
def RelCs (cA : Cfg) (G : Hp) : List Nat → List V → Prop
  | [], us => us = []
  | j :: js, us => ∃ u r, us = u :: r ∧ RelC cA G j u ∧ RelCs cA G js r
theorem RelCs.mono {cA : Cfg} {G G' : Hp} (s : Same G G') : ∀ {js : List Nat} {us : List V}, RelCs cA G js us → RelCs cA G' js us
  | [], _, h => h
  | j :: js, _, h => by
    obtain ⟨u, r, rfl, h1, h2⟩ := h
    exact ⟨u, r, rfl, h1.mono s, RelCs.mono s h2⟩
theorem RelCs.length {cA : Cfg} {G : Hp} : ∀ {js : List Nat} {us : List V}, RelCs cA G js us → us.length = js.length
  | [], us, h => by rw [show us = [] from h]; rfl
  | j :: js, _, h => by
    obtain ⟨u, r, rfl, h1, h2⟩ := h
    simp [RelCs.length h2]
theorem RelCs.get {cA : Cfg} {G : Hp} : ∀ {js : List Nat} {us : List V} {i : Nat} {u : V}, RelCs cA G js us → us[i]? = some u → ∃ j, js[i]? = some j ∧ RelC cA G j u
  | [], us, _, _, h, e => by rw [show us = [] from h] at e; simp at e
  | j :: js, _, i, u, h, e => by
    obtain ⟨v, r, rfl, h1, h2⟩ := h
    cases i with
    | zero => simp at e; subst e; exact ⟨j, rfl, h1⟩
    | succ i => simpa using RelCs.get (i := i) h2 (by simpa using e)
theorem argsB_def {p : Arguments} {env : PySem.Env} (h : argsB p = true) : defaultsOf p env = ([], []) := by
  unfold argsB at h
  simp only [Bool.and_eq_true, List.isEmpty_iff] at h
  obtain ⟨⟨⟨⟨⟨⟨h1, h2⟩, h3⟩, h4⟩, h5⟩, h6⟩, h7⟩ := h
  cases p
  simp only at h5 h7
  subst h5 h7
  rfl
section
variable {X : Cx} {cA : Cfg} {sx : Sx} {k : Nat} {W : WX} {pos : Pos}
theorem r_lams (lf : LamF cA X) : ∀ {js : List Nat} {es : List Expr}, ckL cA X.env.scope js es → PA X es fun σ H Q => ∃ G am C, Wd X.K cA G am C H ∧ ∀ G1 H1 us, Ext G am C H G1 am C H1 → Wd X.K cA G1 am C H1 → RelCs cA G1 js us → Q us H1
  | [], [], _ => PA.imp pa_nil fun σ H Q ⟨G, am, C, wd, q⟩ => q G H [] Ext.refl wd rfl
  | j :: js, e :: es, h => by
    obtain ⟨⟨p, b, s, h1, h2, h3, h4⟩, hr⟩ := h
    have e1 : ∃ lp, e = .Lambda p b s lp := by
      unfold lamX at h1
      split at h1
      · cases h1; exact ⟨_, rfl⟩
      · cases h1
    obtain ⟨lp, rfl⟩ := e1
    have pe : PE X (.Lambda p b s lp) fun σ H Q => ∃ G am C, Wd X.K cA G am C H ∧ ∀ G1 H1 u, Ext G am C H G1 am C H1 → Wd X.K cA G1 am C H1 → RelC cA G1 j u → Q u H1 := by
      refine ⟨fun pins st σ H Q I ⟨G, am, C, wd, q⟩ => ?_⟩
      obtain ⟨c, P, TB, hcode, hm, hu⟩ := lf.tb
      refine lam_mk I wd TB hcode lf.q hm hu (argsB_def h4) (h3.has I.ok) fun f c' G1 H1 s' I1 x1 w1 g1 g2 => ?_
      exact ⟨.ref f, H1, I1, rfl, q G1 H1 (.ref f) x1 w1 ⟨p, b, s, f, c', h2, rfl, by rw [lf.cells]; exact g1, g2⟩⟩
    refine PA.imp (pa_cons pe (r_lams lf hr) rfl) fun σ H Q ⟨G, am, C, wd, q⟩ => ?_
    exact ⟨G, am, C, wd, fun G1 H1 u x1 w1 r1 => ⟨G1, am, C, w1, fun G2 H2 us x2 w2 r2 => q G2 H2 (u :: us) (x1.trans x2) w2 ⟨u, us, rfl, r1.mono x2.g, r2⟩⟩⟩
  | [], _ :: _, h => h.elim
  | _ :: _, [], h => h.elim
/-- for x in ((lambda: ..), ..): the walk -/
theorem s_forL (g : Gd sx k W X) (lf : LamF cA X) {i : Nat} {js : List Nat} {es : List Expr} {x : Str} {xp tp : Pos} {n : Nat} {fb : Env → Cells → RS} {body : List Stmt} (hp : PassesOwn (model X.prog X.w) X.A X.env X.xe) (hh : sx.hot = false) (h : nmAt sx.N i x = true) (hs : stoB sx x = true)
    (hl : ckL cA X.env.scope js es) (hz : js.length ≤ 1000) (hb : PSs X body (tS X.K cA W fb)) :
    PS X (.For (.Name x xp) (.Tuple es n tp) body [] pos) (tS X.K cA W fun env C => forLam i fb js env C) := by
  obtain ⟨l1, l2⟩ := stoB_ok g hs
  refine PS.imp (ps_for hp (g.calm hh) (pi_tup (pe_tup (r_lams lf hl))) (pg_name g.nd (g.at h) l1 l2) hb) fun D σ H ⟨env, G, am, C, re, wd, d⟩ => ?_
  refine ⟨G, am, C, wd, fun G1 H1 us x1 w1 r1 => ?_⟩
  have hlen := r1.length
  refine ⟨by rw [hlen, sizeLine_eq]; omega, fun p hp => ⟨p, rfl, ⟨us, SqT.of upd_same⟩, ?_⟩⟩
  obtain ⟨w2, x2⟩ := w1.new hp (.tup us)
  have d1 : DnS X.K cA W (forLam i fb js env C) _ _ _ _ D := DnS.shift (x1.trans x2) d
  have re1 := re.mono (x1.trans x2)
  have r2 := r1.mono x2.g
  generalize hr : forLam i fb js env C = full at d1
  have hsq : SqT X.K (L2.upd G1 p (.tup us)) p us := SqT.of upd_same
  generalize hG2 : L2.upd G1 p (.tup us) = G2 at w2 x2 d1 re1 r2 hsq
  generalize hH2 : L2.upd H1 p (.tup us) = H2 at w2 x2 d1 re1
  refine ⟨fun ii m σ H => m = js.length - ii ∧ ii ≤ js.length ∧ ∃ env2 G3 am3 C3, Ext G2 am C H2 G3 am3 C3 H ∧ Wd X.K cA G3 am3 C3 H ∧ RelEnv X.K cA G3 am3 env2 σ ∧ forLam i fb (js.drop ii) env2 C3 = full,
    ⟨js.length, by simp, Nat.zero_le _, env, G2, am, C, Ext.refl, w2, re1, by rw [List.drop_zero]; exact hr⟩, ?_⟩
  rintro ii m σ2 H3 ⟨rfl, hi', env2, G3, am3, C3, x3, w3, re3, hfu⟩
  have hsq3 : SqT X.K H3 p us := Same.sqt w3.sub (Same.sqt x3.g hsq)
  have wk := walk_tup (K := X.K) (a := p) (xs := us)
  by_cases hlt : ii < js.length
  · refine .inr ⟨wk.goes ii H3 (by rw [hlen]; exact hlt) hsq3, fun σ' H' => ∃ env2 G3 am3 C3, Ext G2 am C H2 G3 am3 C3 H' ∧ Wd X.K cA G3 am3 C3 H' ∧ RelEnv X.K cA G3 am3 env2 σ' ∧ forLam i fb (js.drop (ii + 1)) env2 C3 = full, fun σ' H' p => ⟨js.length - (ii + 1), by omega, rfl, hlt, p⟩, fun xv H' y => ?_⟩
    obtain ⟨q1, q2⟩ := wk.yields ii H3 xv H' (by rw [hlen]; exact hlt) hsq3 y
    subst q1
    obtain ⟨j, hj, rc⟩ := (r2.mono x3.g).get q2
    have hdrop : js.drop ii = j :: js.drop (ii + 1) := by
      rw [List.drop_eq_getElem_cons hlt]
      congr 1
      have := List.getElem?_eq_getElem hlt
      rw [this] at hj; exact Option.some.inj hj
    rw [hdrop, forLam] at hfu
    refine ⟨env2.set i (some (.clo j)), G3, am3, C3, re3.setS (e := .clo j) (.inr (.inl ⟨j, rfl, rc⟩)), w3, ?_⟩
    cases eb : fb (env2.set i (some (.clo j))) C3 with
    | next env4 C4 => rw [eb] at hfu; exact fun G4 am4 H4 σ4 x4 w4 r4 => ⟨env4, G4, am4, C4, x3.trans x4, w4, r4, hfu⟩
    | ct env4 C4 => rw [eb] at hfu; exact fun G4 am4 H4 σ4 x4 w4 r4 => ⟨env4, G4, am4, C4, x3.trans x4, w4, r4, hfu⟩
    | brk env4 C4 =>
      rw [eb] at hfu
      rw [← hfu] at d1
      exact fun G4 am4 H4 σ4 x4 w4 r4 => d1 G4 am4 H4 σ4 (x3.trans x4) w4 r4
    | ret e4 C4 =>
      rw [eb] at hfu
      rw [← hfu] at d1
      exact fun G4 am4 H4 σ4 x4 w4 r4 => d1 G4 am4 H4 σ4 (x3.trans x4) w4 r4
    | exc c fs env4 C4 =>
      rw [eb] at hfu
      rw [← hfu] at d1
      exact fun G4 am4 H4 σ4 cls dd x4 w4 re4 r4 => d1 G4 am4 H4 σ4 cls dd (x3.trans x4) w4 re4 r4
    | bad => rw [eb] at hfu; rw [← hfu] at d1; exact d1.elim
  · have hie : ii = js.length := by omega
    subst hie
    refine .inl ⟨by have z := wk.stops H3 hsq3; rw [hlen] at z; exact z, ?_⟩
    rw [List.drop_length, forLam] at hfu
    rw [← hfu] at d1
    exact d1 G3 am3 H3 σ2 x3 w3 re3
end
end Ev

end

section
set_option maxRecDepth 512
set_option Elab.async false
set_option linter.all false
set_option maxRecDepth 100000
set_option maxHeartbeats 4000000
namespace Ev
open PySem L2 PySem.Spec PyProof.Rows
section
variable {X : Cx} {cA : Cfg} {sx : Sx} {k : Nat} {W : WX} {pos : Pos}
theorem bindArgs_none {p : Arguments} (h : argsB p = true) (q : Str) (b : Expr) (sc : Scope) (cl : List (Str × Addr)) (pm cv ctv : Value) : bindArgs (PySem.W.kla_fn "<lambda>" q p b sc cl pm cv ctv) ⟨[], []⟩ = pure [] := by
  unfold argsB at h
  simp only [Bool.and_eq_true, List.isEmpty_iff, Option.isNone_iff_eq_none] at h
  obtain ⟨⟨⟨⟨⟨⟨h1, h2⟩, h3⟩, h4⟩, h5⟩, h6⟩, h7⟩ := h
  cases p
  simp only at h1 h2 h3 h4 h5 h6 h7
  subst h1 h2 h3 h4 h5 h6 h7
  rfl
/-- x() of a lambda -/
theorem r_callL (g : Gd sx k W X) (lf : LamF cA X) {lamc : Nat → Env → Cells → Ev.R E} {i : Nat} {x : Str} {p1 : Pos} (h : nmAt sx.N i x = true) (hv : visB sx.sc x = true) (ho : nmOk x = true) (hh : sx.hot = false) (hr : Room (k + 1) X.A)
    (hl : ∀ j p b sc, cA.lam j p b sc → LamX.LamS X.env.scope sc ∧ argsB p = true ∧ ∀ (A : Around) (outer : List PySem.Env) (s : Shared) (H : Hp) (E : XK) (f c' : Addr), Room k (A.deeper (LamX.lamEnv X sc s.heap.objs.size f c')) → PE (LamX.lamCx X A outer s H E sc f c') b (tE X.K cA (fun cls d _ H => E cls d H) (lamc j))) :
    PE X (.Call (.Name x p1) [] [] pos) (tE X.K cA W fun env C => match (env[i]?).join with
      | some (.clo j) => lamc j env C
      | _ => .bad) := by
  have ho' := ho
  unfold nmOk at ho'
  simp only [Bool.and_eq_true, Bool.not_eq_true'] at ho'
  refine ⟨fun pins s σ H Q I ⟨env, G, am, C, re, wd, d⟩ => ?_⟩
  dsimp only at d
  cases e1 : env[i]? with
  | none => simp only [e1, Option.join_none] at d; exact d.elim
  | some o1 =>
    cases o1 with
    | none => simp only [e1, Option.join_some] at d; exact d.elim
    | some e' =>
      obtain ⟨v, h1, h2⟩ := re.2 i _ e1
      simp only [e1, Option.join_some] at d
      cases e' with
      | v dd => exact d.elim
      | r n => exact d.elim
      | exn c fs => exact d.elim
      | clo j =>
        have rc : RelC cA G j v := by
          rcases h2 with h2 | ⟨j', z, q⟩ | ⟨c, fs, z, _⟩
          · exact h2.elim
          · cases z; exact q
          · cases z
        obtain ⟨p, b, sc, f, c', l1, rfl, l3, l4⟩ := rc
        obtain ⟨L, ha, hbody⟩ := hl j p b sc l1
        rw [lf.cells, lf.q] at l3
        rw [lf.q] at l4
        have hf := wd.sub _ _ l3
        have hc := wd.sub _ _ l4
        refine wpAny_Call_Name_kw (thn ((pe_var (pos := p1) (i := i) (g.at h) (visB_ok (by rw [g.sc]; exact hv)) ho'.1.1 ho'.1.2).run pins s σ H (fun v H1 => v = .ref f ∧ H1 = H) I ⟨.ref f, h1, rfl, rfl⟩) fun u s1 ⟨v, H1, I1, r1, q1⟩ => ?_)
        obtain ⟨ev, eH⟩ := q1
        subst ev
        rw [eH] at I1
        obtain rfl : u = Value.ref f := r1
        obtain ⟨⟨pm, ctv, of1⟩, _, _⟩ := I1.hok f _ hf
        obtain ⟨⟨oc, vs, t, hoc, hdc, hvc⟩, _, _⟩ := I1.hok c' _ hc
        refine PySem.W.callWith_F0 ⟨_, _, _, _, of1⟩ ?_
        have rc : codeAny (model X.prog X.w) X.A (.call (.ref f) ⟨[], []⟩) (CR (L2.CX X.prog X.w) X.stack X.prog X.w H s1 Q (WE W σ)) s1 := by
          refine PySem.W.kla_callFunE hr.depth of1 rfl L.co L.gen rfl ⟨c', oc, vs, t, rfl, hoc, hdc, hvc⟩ ?_
          rw [bindArgs_none ha]
          refine wpAny_pure (wpAny_newFunctionEnv (fun y hy => (L.own y hy).2) (fun y hy => absurd hy (by simp)) (fun h₁ hns hsb => ⟨I1.nolimit.fresh _ hsb, ?_⟩) L.kind)
          show codeAny _ _ (.expr b (LamX.lamEnv X sc s1.heap.objs.size f c')) _ _
          have kp : ∀ b o, s1.heap.get? b = some o → h₁.get? b = some o := fun b o e => hsb.extBut b o (Nat.ne_of_lt (Heap.lt_size e)) (Heap.get?_push_of_some _ e)
          have J : L2.Inv (LamX.lamCx X X.A X.stack s1 H (WE W σ) sc f c') [] σ H { s1 with heap := h₁, toks := s1.toks + ([] : List (Str × Value)).length } :=
            LamX.lam_start2 I1 L I1.env0 (I1.ok.hd (g.calm hh)) (Un.kept fun b o e => e) hns kp
          refine PySem.W.kla_codeExpr (wpAny_mono ((hbody X.A X.stack s1 H (WE W σ) f c' (hr.deeper _)).run [] _ _ H Q J ⟨env, G, am, C, re, wd, ?_⟩) (fun v s' hq => ?_) fun e s' hq => hq)
          · have d' : Dn X.K cA (rE X.K cA) W σ (lamc j env C) G am C H Q := d
            cases e2 : lamc j env C with
            | ok a C' => rw [e2] at d'; exact d'
            | exc c fs C' => rw [e2] at d'; exact d'
            | bad => rw [e2] at d'; exact d'
          · obtain ⟨w', H', J', rv, q⟩ := hq
            exact ⟨w', H', J'.os, J'.bare, J'.base, J'.hok, rv, q⟩
        have hx : PassesAt (L2.CX X.prog X.w) X σ (WE W σ) := passAt g.tk σ
        refine wpAny_call (codeAny_mono rc fun r s' hq => ?_)
        cases r with
        | error e => exact hx pins H s1 e s' I1 hq
        | ok fl =>
          cases fl with
          | ret u => exact I1.after hq
          | next => exact False.elim hq
          | brk => exact False.elim hq
          | cont => exact False.elim hq
end
/-! ### exceptions -/
section
variable {K : PySem.W.Frag} {cA : Cfg} {G : Hp} {am : List Addr} {env : Env} {σ : L2.St}
theorem RelEnv.toExc {z : Addr × Addr × Option Addr} (hc : cA.exc = none) (re : RelEnv K cA G am env σ) : RelEnv K { cA with exc := some z } G am env σ := by
  refine ⟨re.1, fun i e h => ?_⟩
  obtain ⟨v, h1, h2⟩ := re.2 i e h
  refine ⟨v, h1, ?_⟩
  rcases h2 with h2 | ⟨j, h3, h4⟩ | ⟨c, fs, h3, h4⟩
  · exact .inl h2
  · exact .inr (.inl ⟨j, h3, h4⟩)
  · obtain ⟨a, C, dd, z, _⟩ := h4
    rw [hc] at z; cases z
theorem RelEnv.ofExc {z : Addr × Addr × Option Addr} (hc : cleanE env = true) (re : RelEnv K { cA with exc := some z } G am env σ) : RelEnv K cA G am env σ := by
  refine ⟨re.1, fun i e h => ?_⟩
  obtain ⟨v, h1, h2⟩ := re.2 i e h
  refine ⟨v, h1, ?_⟩
  rcases h2 with h2 | ⟨j, h3, h4⟩ | ⟨c, fs, h3, h4⟩
  · exact .inl h2
  · exact .inr (.inl ⟨j, h3, h4⟩)
  · unfold cleanE at hc
    rw [List.all_eq_true] at hc
    have := hc _ (List.mem_of_getElem? h)
    subst h3
    simp at this
end
section
variable {X : Cx} {cA : Cfg} {sx : Sx} {k : Nat} {W : WX} {pos : Pos} {P : Program} {w : World} {base : Heap} {pr : Prog} {tb : Tab} {call : Nat → List E → Cells → Ev.R E}
/-- the field of the exception that is handled -/
theorem r_xf {Y : Cx} {a C : Addr} {oe : Obj} {d : Option Addr} {pn : List (Addr × Obj)} {j : Nat} (g : Gd sx k W (Y.suite a ((a, oe) :: pn))) (F : Facts P w Y.K Y.mg base cA pr tb j call) (hx : cA.exc = some (a, C, d)) (hz : Zc (.ref C) d oe) (hf : ∃ vs, oe.data = .fields vs)
    {i : Nat} {x : Str} {f : Nm} {n : Str} {p : Pos} (h : nmAt sx.N i x = true) (hv : visB sx.sc x = true) (ho : nmOk x = true) (hn : T f = n) :
    PE (Y.suite a ((a, oe) :: pn)) (.Attribute (.Name x p) n pos) (tE Y.K cA W fun env C => match (env[i]?).join with
    | some (.exn c fs) => match pr.cls[c]? with
      | some cl => if cl.flds.contains f then Ev.R.of ((lookFD f fs).map .v) C else .bad
      | none => .bad
    | _ => .bad) := by
  unfold nmOk at ho
  simp only [Bool.and_eq_true, Bool.not_eq_true'] at ho
  refine ⟨fun pins s σ H Q I hh => ?_⟩
  obtain ⟨env, G, am, C1, re, wd, d1⟩ := id hh
  dsimp only at d1
  cases e1 : env[i]? with
  | none => simp only [e1, Option.join_none] at d1; exact d1.elim
  | some o1 =>
    cases o1 with
    | none => simp only [e1, Option.join_some] at d1; exact d1.elim
    | some e' =>
      obtain ⟨v, h1, h2⟩ := re.2 i _ e1
      simp only [e1, Option.join_some] at d1
      cases e' with
      | v dd => exact d1.elim
      | r n => exact d1.elim
      | clo j => exact d1.elim
      | exn c fs =>
        rcases h2 with h2 | ⟨j', z, q⟩ | ⟨c2, fs2, z, a2, C2, dd, z1, z2, z3, z4⟩
        · exact h2.elim
        · cases z
        · cases z
          rw [hx] at z1
          cases z1
          simp only at d1
          cases ecl : pr.cls[c]? with
          | none => simp only [ecl] at d1; exact d1.elim
          | some cl =>
            simp only [ecl] at d1
            split at d1
            · rename_i hcon
              have hmem : f ∈ cl.flds := by simpa using hcon
              cases el : lookFD f fs with
              | none => simp only [el] at d1; exact d1.elim
              | some dv =>
                simp only [el, Option.map_some, Ev.R.of_some] at d1
                obtain ⟨_, T1, _, hno, _⟩ := F.xr c cl C ecl (fun z => by rw [z] at hmem; cases hmem) z3
                subst hn
                refine (pe_xf T1 (hno f hmem) hz hf (pe_var (g.at h) (visB_ok (by rw [g.sc]; exact hv)) ho.1.1 ho.1.2)).run pins s σ H Q I ?_
                rcases z4 with z4 | ⟨b, gs, g1, g2, g3⟩
                · rw [z4] at el; cases el
                · obtain ⟨vv, v1, v2⟩ := g3 f dv el
                  exact ⟨v, h1, z2, rfl, b, gs, vv, g1, wd.sub _ _ g2, v1, d1.here wd v2⟩
            · exact d1.elim
/-- except C as x -/
theorem s_tryAs (g : Gd sx k W X) {j : Nat} (F : Facts P w X.K X.mg base cA pr tb j call) (ht : sx.top = true) (hc : cA.exc = none) {body suite : List Stmt} {b₀ : Stmt} {c : Nat} {nm : Nm} {i : Nat} {x n : Str} {np pos' : Pos} {fb fs : Env → Cells → RS}
    (hcl : tb.cl[c]? = some nm) (hne : nm ≠ []) (hx : T nm = x) (hgl : glB sx.sc x = true) (hi : nmAt sx.N i n = true) (hl : sx.sc.names.lookup n = some .local) {cl : Cl} (hcc : pr.cls[c]? = some cl) (hex : cl.exn = true)
    (hb : ∀ (W : WX) (pn : List (Addr × Obj)) (xe : Value → Shared → Prop), Takes (X.tr pn xe) W → PassesOwn (model X.prog X.w) X.A X.env xe → PSs (X.tr pn xe) body (tS X.K cA W fb))
    (hs : ∀ (a : Addr) (oe : Obj) (C : Addr) (d : Option Addr) (pn : List (Addr × Obj)), Zc (.ref C) d oe → (∃ vs, oe.data = .fields vs) → PSs (X.suite a ((a, oe) :: pn)) (b₀ :: suite) (tS X.K { cA with exc := some (a, C, d) } W0 fs)) :
    PS X (.Try body [.ExceptHandler (some (.Name x np)) (some n) (b₀ :: suite) pos'] [] [] pos) (tS X.K cA W fun env C => match fb env C with
      | .exc c' fl env C => if under pr c' c then
          match fs (env.set i (some (.exn c' fl))) C with
          | .next env C => if cleanE (env.set i none) then .next (env.set i none) C else .bad
          | .ct env C => if cleanE (env.set i none) then .ct (env.set i none) C else .bad
          | .brk env C => if cleanE (env.set i none) then .brk (env.set i none) C else .bad
          | .ret e C => .ret e C
          | _ => .bad
        else .exc c' fl env C
      | r => r) := by
  obtain ⟨Cd, hC, hm⟩ := F.cn c nm hcl hne
  subst hx
  obtain ⟨g1, g2, g3⟩ := g.gl hgl
  obtain ⟨t1, t2⟩ := g.top ht
  let tsu : Addr → Value → Option Addr → TS := fun a cls d D σ H => ∃ C, cls = .ref C ∧ tS X.K { cA with exc := some (a, C, d) } W0 fs D σ H
  refine PS.imp (ps_try_as (c := .ref Cd) (tb := fun W => tS X.K cA W fb) (ts := tsu) t1 t2 g.nd (g.at hi) (by show X.env.scope.names.lookup n = _; rw [g.sc]; exact hl) ⟨g1, g2, .inl hm⟩ g.tk hb fun a oe cls d pn hz hf => ⟨fun pins s σ H D I ⟨C, hcls, q⟩ => ?_⟩) fun D σ H ⟨env, G, am, C, re, wd, d⟩ => ?_
  · subst hcls
    exact (hs a oe C d pn hz hf).run pins s σ H D I q
  · refine ⟨env, G, am, C, re, wd, ?_⟩
    dsimp only at d
    cases eb : fb env C with
    | next env' C' => rw [eb] at d; exact d
    | ret e2 C' => rw [eb] at d; exact d
    | brk env' C' => rw [eb] at d; exact d
    | ct env' C' => rw [eb] at d; exact d
    | bad => rw [eb] at d; exact d
    | exc c' fl env1 C1 =>
      rw [eb] at d
      dsimp only at d
      intro G1 am1 H1 σ1 cls dd x1 w1 re1 rx
      obtain ⟨C', hC', rfl, hfl⟩ := id rx
      refine ⟨under pr c' c, F.xm c' c cl C' Cd hcc hex hC' hC, fun hu a ha => ⟨C', rfl, ?_⟩, fun hu => ?_⟩
      · rw [if_pos hu] at d
        have re2 : RelEnv X.K { cA with exc := some (a, C', dd) } G1 am1 (env1.set i (some (.exn c' fl))) (σ1.set i (some (.ref a))) :=
          (re1.toExc hc).setS (.inr (.inr ⟨c', fl, rfl, a, C', dd, rfl, rfl, hC', hfl⟩))
        refine ⟨_, G1, am1, C1, re2, w1, ?_⟩
        cases es : fs (env1.set i (some (.exn c' fl))) C1 with
        | next env' C2 =>
          rw [es] at d
          dsimp only at d
          split at d
          · rename_i hcl
            exact fun G2 am2 H2 σ2 x2 w2 re2 => d G2 am2 H2 _ (x1.trans x2) w2 (RelEnv.ofExc (z := (a, C', dd)) hcl re2.drop)
          · exact d.elim
        | ct env' C2 =>
          rw [es] at d
          dsimp only at d
          split at d
          · rename_i hcl
            exact fun G2 am2 H2 σ2 x2 w2 re2 => d G2 am2 H2 _ (x1.trans x2) w2 (RelEnv.ofExc (z := (a, C', dd)) hcl re2.drop)
          · exact d.elim
        | brk env' C2 =>
          rw [es] at d
          dsimp only at d
          split at d
          · rename_i hcl
            exact fun G2 am2 H2 σ2 x2 w2 re2 => d G2 am2 H2 _ (x1.trans x2) w2 (RelEnv.ofExc (z := (a, C', dd)) hcl re2.drop)
          · exact d.elim
        | ret e2 C2 => rw [es] at d; exact fun G2 am2 H2 v x2 w2 r2 => d G2 am2 H2 v (x1.trans x2) w2 r2
        | exc c2 fl2 env2 C2 => rw [es] at d; exact d.elim
        | bad => rw [es] at d; exact d.elim
      · rw [if_neg (by rw [hu]; decide)] at d
        exact d G1 am1 H1 σ1 (.ref C') dd x1 w1 re1 ⟨C', hC', rfl, hfl⟩
/-- except C -/
theorem s_tryOnly (g : Gd sx k W X) {j : Nat} (F : Facts P w X.K X.mg base cA pr tb j call) (ht : sx.top = true) {body suite : List Stmt} {b₀ : Stmt} {c : Nat} {nm : Nm} {x : Str} {np pos' : Pos} {fb fs : Env → Cells → RS}
    (hcl : tb.cl[c]? = some nm) (hne : nm ≠ []) (hx : T nm = x) (hgl : glB sx.sc x = true) {cl : Cl} (hcc : pr.cls[c]? = some cl) (hex : cl.exn = true)
    (hb : ∀ (W : WX) (pn : List (Addr × Obj)) (xe : Value → Shared → Prop), Takes (X.tr pn xe) W → PassesOwn (model X.prog X.w) X.A X.env xe → PSs (X.tr pn xe) body (tS X.K cA W fb))
    (hs : ∀ (a : Addr) (oe : Obj) (pn : List (Addr × Obj)), PSs (X.suite a ((a, oe) :: pn)) (b₀ :: suite) (tS X.K cA W0 fs)) :
    PS X (.Try body [.ExceptHandler (some (.Name x np)) none (b₀ :: suite) pos'] [] [] pos) (tS X.K cA W fun env C => match fb env C with
      | .exc c' fl env C => if under pr c' c then
          match fs env C with
          | .exc _ _ _ _ => .bad
          | x => x
        else .exc c' fl env C
      | r => r) := by
  obtain ⟨Cd, hC, hm⟩ := F.cn c nm hcl hne
  subst hx
  obtain ⟨g1, g2, g3⟩ := g.gl hgl
  obtain ⟨t1, t2⟩ := g.top ht
  refine PS.imp (ps_try_only (c := .ref Cd) (tb := fun W => tS X.K cA W fb) (ts := fun a cls d => tS X.K cA W0 fs) t1 t2 ⟨g1, g2, .inl hm⟩ g.tk hb fun a oe cls d pn hz hf => hs a oe pn) fun D σ H ⟨env, G, am, C, re, wd, d⟩ => ?_
  refine ⟨env, G, am, C, re, wd, ?_⟩
  dsimp only at d
  cases eb : fb env C with
  | next env' C' => rw [eb] at d; exact d
  | ret e2 C' => rw [eb] at d; exact d
  | brk env' C' => rw [eb] at d; exact d
  | ct env' C' => rw [eb] at d; exact d
  | bad => rw [eb] at d; exact d
  | exc c' fl env1 C1 =>
    rw [eb] at d
    dsimp only at d
    intro G1 am1 H1 σ1 cls dd x1 w1 re1 rx
    obtain ⟨C', hC', rfl, hfl⟩ := id rx
    refine ⟨under pr c' c, F.xm c' c cl C' Cd hcc hex hC' hC, fun hu a ha => ⟨env1, G1, am1, C1, re1, w1, ?_⟩, fun hu => ?_⟩
    · rw [if_pos hu] at d
      cases es : fs env1 C1 with
      | next env' C2 => rw [es] at d; exact DnS.shift x1 (r := .next env' C2) d
      | ct env' C2 => rw [es] at d; exact DnS.shift x1 (r := .ct env' C2) d
      | brk env' C2 => rw [es] at d; exact DnS.shift x1 (r := .brk env' C2) d
      | ret e2 C2 => rw [es] at d; exact DnS.shift x1 (r := .ret e2 C2) d
      | exc c2 fl2 env2 C2 => rw [es] at d; exact d.elim
      | bad => rw [es] at d; exact d.elim
    · rw [if_neg (by rw [hu]; decide)] at d
      exact d G1 am1 H1 σ1 (.ref C') dd x1 w1 re1 ⟨C', hC', rfl, hfl⟩
end
end Ev

end

section
set_option maxRecDepth 512
set_option Elab.async false
set_option linter.all false
set_option maxRecDepth 100000
set_option maxHeartbeats 4000000
namespace Ev
open PySem L2 PySem.Spec PyProof.Rows
section
variable {K : PySem.W.Frag} {cA : Cfg0} {G : Hp}
theorem fld_at : ∀ {fl : List Nm} {ds : List D} {vs : List V} {f : Nm} {d : D}, RelDs K cA G ds vs → lookFD f (fl.zip ds) = some d → ∃ v, (T f, v) ∈ (fl.map T).zip vs ∧ RelD K cA G d v
  | [], _, _, _, _, _, h => by simp [lookFD] at h
  | f0 :: fl, [], _, _, _, _, h => by simp [lookFD] at h
  | f0 :: fl, d0 :: ds, vs, f, d, r, h => by
    simp only [RelDs] at r
    obtain ⟨v0, vr, rfl, r1, r2⟩ := r
    simp only [List.zip_cons_cons, lookFD] at h
    split at h
    · rename_i he
      cases h
      subst he
      exact ⟨v0, by simp, r1⟩
    · obtain ⟨v, h1, h2⟩ := fld_at r2 h
      exact ⟨v, by simp only [List.map_cons, List.zip_cons_cons]; exact List.mem_cons_of_mem _ h1, h2⟩
theorem lookup_of {l : List (Str × V)} (nd : (l.map (·.1)).Nodup) {x : Str} {v : V} (h : (x, v) ∈ l) : l.lookup x = some v := by
  induction l with
  | nil => cases h
  | cons p l ih =>
    obtain ⟨y, w⟩ := p
    rw [List.map_cons, List.nodup_cons] at nd
    rcases List.mem_cons.mp h with e | h
    · cases e; simp [List.lookup]
    · have : x ≠ y := fun z => nd.1 (List.mem_map.mpr ⟨_, h, z⟩)
      have e : (x == y) = false := by simpa using this
      simp [List.lookup, e, ih nd.2 h]
theorem zip_keys : ∀ {xs : List Str} {vs : List V}, xs.length = vs.length → ((xs.zip vs).map (·.1)) = xs
  | [], _, _ => rfl
  | x :: xs, [], h => by simp at h
  | x :: xs, v :: vs, h => by simp only [List.zip_cons_cons, List.map_cons]; rw [zip_keys (by simpa using h)]
end
section
variable {X : Cx} {cA : Cfg} {sx : Sx} {k : Nat} {W : WX} {pos : Pos} {P : Program} {w : World} {base : Heap} {pr : Prog} {tb : Tab} {call : Nat → List E → Cells → Ev.R E}
theorem s_raise (g : Gd sx k W X) (F : Facts X.prog X.w X.K X.mg base cA pr tb k call) (hb0 : X.base = base) (hh : sx.hot = false) (hr : Room (k + 1) X.A) {c : Nat} {nm : Nm} {x : Str} {a : Expr} {es : List Expr} {p pos' : Pos} {fs : Env → Cells → Ev.R (List E)} {cl : Cl}
    (hcl : tb.cl[c]? = some nm) (hne : nm ≠ []) (hx : T nm = x) (hgl : glB sx.sc x = true) (hcc : pr.cls[c]? = some cl) (hfl : cl.flds ≠ []) (hlen : cl.flds.length ≤ 900) (hp : plainX a = true) (hps : es.all plainX = true) (hs : PA X (a :: es) (tEs X.K cA W fs)) :
    PS X (.Raise (some (.Call (.Name x p) (a :: es) [] pos)) none pos') (tS X.K cA W fun env C => (fs env C).st env fun xs C => match vals xs, pr.cls[c]? with
    | some ds, some cl => if ds.length = cl.flds.length then .exc c (cl.flds.zip ds) env C else .bad
    | _, _ => .bad) := by
  subst hb0
  obtain ⟨C, hC, hm⟩ := F.cn c nm hcl hne
  subst hx
  obtain ⟨g1, g2, g3⟩ := g.gl hgl
  obtain ⟨TO, _, hnd, _, fI, fd, ps, iC, tI, hbd, hFn⟩ := F.xr c cl C hcc hfl hC
  have mk := pmk_oex (X := X) (ps := ps) (ds := []) (dvs := []) (p := p) (pos := pos) TO iC tI hFn hr hbd .nil (passes_call (W := W) (E := fun _ _ _ => False) g.tk fun _ _ _ _ h => h.elim) g1 hm hs g2 (star_cons hp) (star_any0 hps)
  refine PS.imp (ps_raise (g.calm hh) g.tk mk) fun D σ H ⟨env, G, am, C0, re, wd, d⟩ => ?_
  refine ⟨env, G, am, C0, re, wd, Dn.imp (DnS.st (Rl := rEs X.K cA) re d) fun vs H1 ⟨G1, am1, C1, xs, x1, w1, rx, re1, d1⟩ => ?_⟩
  cases ev : vals xs with
  | none => simp only [ev] at d1; exact d1.elim
  | some dds =>
    simp only [ev, hcc] at d1
    split at d1
    · rename_i hl
      have rd := vals_rel rx ev
      have hvl : vs.length = cl.flds.length := by rw [← rd.length, hl]
      refine ⟨by omega, fun ax ha => ⟨ax, vs, by simp, hvl, hfl, upd_same, fun dx hdx hne => ⟨rfl, dx, ((cl.flds.map T).zip vs).reverse, upd_same, ?_, ?_, ?_⟩⟩⟩
      · rw [upd_ne hne, upd_same]
      · rw [upd_ne hne] at hdx; exact hdx
      · have hdx1 : H1 dx = none := by rw [upd_ne hne] at hdx; exact hdx
        have e : L2.upd (L2.del (L2.upd (L2.upd (L2.upd H1 ax (L2.exo ax C none)) dx (L2.exd dx ((cl.flds.map T).zip vs).reverse)) ax (L2.exo ax C (some dx))) ax) dx (.xd ((cl.flds.map T).zip vs).reverse) = L2.upd H1 dx (.xd ((cl.flds.map T).zip vs).reverse) := by
          funext b
          by_cases hb : b = dx
          · subst hb; rw [upd_same, upd_same]
          · rw [upd_ne hb, upd_ne hb]
            by_cases hb2 : b = ax
            · subst hb2; rw [del_same, ha]
            · rw [del_ne hb2, upd_ne hb2, upd_ne hb, upd_ne hb2]
        rw [e]
        obtain ⟨w2, x2⟩ := w1.new hdx1 (.xd ((cl.flds.map T).zip vs).reverse)
        refine d1 _ _ _ σ (.ref C) (some dx) x2 w2 (re1.mono x2) ⟨C, hC, rfl, .inr ⟨dx, _, rfl, upd_same, fun f dd hf => ?_⟩⟩
        obtain ⟨v, h1, h2⟩ := fld_at rd hf
        refine ⟨v, lookup_of ?_ (List.mem_reverse.mpr h1), h2.mono x2.g⟩
        rw [List.map_reverse, zip_keys (by simp [hvl])]
        have hn2 : (cl.flds.map T).Nodup := List.Pairwise.map _ (fun a b h z => h (T_inj z)) hnd
        exact List.pairwise_reverse.mpr (List.Pairwise.imp (fun h => Ne.symm h) hn2)
    · exact d1.elim
end
end Ev

end

section
set_option maxRecDepth 512
set_option Elab.async false
set_option linter.all false
set_option maxRecDepth 100000
set_option maxHeartbeats 4000000
namespace Ev
open PySem L2 PySem.Spec PyProof.Rows
section
variable {X : Cx} {cA : Cfg} {sx : Sx} {k : Nat} {W : WX} {pos : Pos} {P : Program} {w : World} {base : Heap} {pr : Prog} {tb : Tab} {call : Nat → List E → Cells → Ev.R E} {a b : Expr} {fa fb : Env → Cells → Ev.R E}
/-- a cell's list is let go: from now on a tree -/
theorem r_frz (ha : PE X a (tE X.K cA W fa)) : PE X a (tE X.K cA W fun env C => (fa env C).bind fun x C => match x with
    | .v d => .ok (.v d) C
    | .r n => match cellAt C n with
      | some (.lst xs) => .ok (.v (.lst xs)) (C.set n none)
      | _ => .bad
    | _ => .bad) := by
  refine PE.imp ha fun σ H Q h => ?_
  obtain ⟨env, G, am, C, re, wd, d⟩ := tE_one h
  refine ⟨env, G, am, C, re, wd, Dn.imp d fun vx H1 ⟨env1, G1, am1, C1, x, re1, w1, rx, d1⟩ => ?_⟩
  cases x with
  | v dx => exact d1.here w1 rx
  | r n =>
    simp only at d1
    cases ec : cellAt C1 n with
    | none => simp only [ec] at d1; exact d1.elim
    | some cl =>
      cases cl <;> simp only [ec] at d1 <;> first | exact d1.elim | skip
      case lst xs =>
        obtain ⟨p, e2, h3, h4, ⟨us, h5, h6⟩, h7⟩ := w1.at rx ec
        subst e2
        have hlt := (List.getElem?_eq_some_iff.mp h4).1
        have lv : Live am1 C1 p := ⟨n, _, h4, h3⟩
        have sg : Same G1 (L2.upd G1 p (.lst us)) := fun b u q => by rw [upd_ne (ne_of_none q h7)]; exact q
        have get : ∀ {i : Nat} {c : Cell}, (C1.set n none)[i]? = some (some c) → i ≠ n ∧ C1[i]? = some (some c) := fun {i c} h => by
          by_cases hi : i = n
          · subst hi; rw [List.getElem?_set_self hlt] at h; cases h
          · rw [List.getElem?_set_ne fun z => hi z.symm] at h; exact ⟨hi, h⟩
        refine d1 (L2.upd G1 p (.lst us)) am1 H1 (.ref p) ⟨sg, ⟨[], by simp⟩, fun b o q _ _ => q, fun b ps q _ => ⟨ps, q⟩, fun b ⟨i, c, h, q⟩ => .inl ⟨i, c, (get h).2, q⟩, fun b o q => ?_, fun m zs h => ?_⟩
          ⟨w1.tab_to sg (fun _ _ e => e) fun P ps e nn => by rw [upd_ne (fun z => by rw [z, h5] at e; cases e)]; exact nn, fun b u q => ?_, by simp [w1.len], fun i c h => ?_, fun i j c d b e1 e2 q1 q2 => w1.inj i j c d b (get e1).2 (get e2).2 q1 q2⟩ ?_
        · by_cases hb : b = p
          · subst hb; exact .inr (.inr lv)
          · rw [upd_ne hb] at q; exact .inl q
        · have hm : m ≠ n := fun z => by rw [z, h4] at h; cases h
          rw [List.getElem?_set_ne fun z => hm z.symm]; exact h
        · by_cases hb : b = p
          · subst hb; rw [upd_same] at q; cases q; exact h5
          · rw [upd_ne hb] at q; exact w1.sub _ _ q
        · obtain ⟨hi, h⟩ := get h
          obtain ⟨b, q1, q2, q3⟩ := w1.cell i c h
          have nb : b ≠ p := fun z => hi (w1.inj i n c _ p h h4 (by rw [← z]; exact q1) h3)
          refine ⟨b, q1, ?_, by rw [upd_ne nb]; exact q3⟩
          cases c with
          | lst xs => obtain ⟨us, z, r⟩ := q2; exact ⟨us, z, r.mono sg⟩
          | lkd xs => obtain ⟨us, z, r⟩ := q2; exact ⟨us, z, r.mono sg⟩
          | dct kvs => exact q2
          | ins c fs => obtain ⟨Ca, dx, gs, z1, z2, z3, r⟩ := q2; exact ⟨Ca, dx, gs, z1, z2, z3, r.mono sg ⟨[], by simp⟩⟩
        · simp only [rE, RelE, RelD]
          exact ⟨p, us, rfl, SqL.of upd_same, h6.mono sg⟩
  | _ => exact d1.elim
/-- list(e), a cell -/
theorem r_cp {j : Nat} (g : Gd sx k W X) (F : Facts P w X.K X.mg base cA pr tb j call) {x : Str} {p : Pos} (hx : ("list" : Str) = x) (hg : glB sx.sc x = true) (hh : sx.hot = false) (hp : plainX a = true) (ha : PE X a (tE X.K cA W fa)) :
    PE X (.Call (.Name x p) [a] [] pos) (tE X.K cA W fun env C => (fa env C).bind fun x C => match see C x with
    | some (.lst xs) => .ok (.r C.length) (C ++ [some (.lst xs)])
    | some (.tup xs) => .ok (.r C.length) (C ++ [some (.lst xs)])
    | _ => .bad) := by
  obtain ⟨g1, g2, g3⟩ := g.gl hg
  subst hx
  refine PE.imp (pe_callTy (call_list_of (X := X)) g1 (F.bi .list) PyProof.Rows.boot_list (pa_cons ha pa_nil (star_cons hp)) g3 g2 (star_cons hp) rfl) fun σ H Q h => ?_
  obtain ⟨env, G, am, C, re, wd, d⟩ := tE_one h
  refine ⟨env, G, am, C, re, wd, Dn.imp d fun vx H1 ⟨env1, G1, am1, C1, x, re1, w1, rx, d1⟩ => ?_⟩
  cases e1 : see C1 x with
  | none => simp only [e1] at d1; exact d1.elim
  | some dx =>
    have rs := see_rel w1 rx e1
    have fin : ∀ {p0 : Addr} {us : List V} {xs : List D}, RelDs X.K cA G1 xs us → Dn X.K cA (rE X.K cA) W σ (.ok (.r C1.length) (C1 ++ [some (.lst xs)])) G1 am1 C1 H1 Q → ∀ p, H1 p = none → Q (.ref p) (L2.upd H1 p (.lst us)) := fun {p0 us xs} r d p hp => by
      obtain ⟨w2, x2⟩ := w1.newC hp (o := .lst us) (cl := .lst xs) ⟨us, upd_same, r⟩
      refine d G1 (am1 ++ [p]) _ (.ref p) x2 w2 ⟨p, ?_, rfl⟩
      rw [List.getElem?_append_right (by rw [w1.len]; exact Nat.le_refl _), w1.len]; simp
    cases dx <;> simp only [e1] at d1 <;> first | exact d1.elim | skip
    case tup xs =>
      simp only [RelS, RelD] at rs
      obtain ⟨p, us, rfl, h1, h2⟩ := rs
      exact ⟨p, us, rfl, .inr (Same.sqt w1.sub h1), fin (p0 := p) h2 d1⟩
    case lst xs =>
      obtain ⟨p, us, rfl, h1, h2⟩ := rs
      exact ⟨p, us, rfl, .inl h1, fin (p0 := p) h2 d1⟩
end
end Ev

end

section
set_option maxRecDepth 512
set_option Elab.async false
set_option linter.all false
set_option maxRecDepth 100000
set_option maxHeartbeats 4000000
namespace Ev
open PySem L2 PySem.Spec PyProof.Rows
def bmS : Bm → Str
  | .count => "count"
  | .index => "index"
def mmS : Mm → Str
  | .append => "append"
  | .pop => "pop"
  | .popAt => "pop"
section
variable {X : Cx} {cA : Cfg} {sx : Sx} {k : Nat} {W : WX} {pos cpos apos : Pos} {a b : Expr} {fa fb : Env → Cells → Ev.R E}
theorem countD_eq (I : L2.Inv X pins σ H s) {G : Hp} (sb : Same G H) {x : D} {xu : Value} {bs : List Addr} (hx : shp x = true) (rx : Reads s.heap xu (py x) bs) :
    ∀ {ds : List D} {vs : List V} {us : List Value}, shps ds = true → RelDs X.K cA G ds vs → Vals vs us → us.countP (eqOn s.heap (py x)) = countD x ds
  | [], _, _, _, h, r => by simp only [RelDs] at h; subst h; cases r; rfl
  | d :: ds, _, _, hp, h, r => by
    simp only [RelDs] at h
    obtain ⟨u, rr, rfl, h1, h2⟩ := h
    simp only [shps, Bool.and_eq_true] at hp
    cases r with
    | cons r1 r2 =>
      obtain ⟨as, ra⟩ := reads_D I sb (shp_pd hp.1) h1 r1
      have ih := countD_eq I sb hx rx hp.2 h2 r2
      have e := eqOn_of (x := py x) ra (py_lay _ (shp_pd hp.1))
      rw [py_eq _ _ (shp_pd hp.1) (shp_pd hx)] at e
      rw [List.countP_cons, ih, countD, e]
      omega
theorem mt_countG (hu : X.A.units + 65 < cLine) : MtR X "list.count" (fun x xs H Q => ∃ G a ds, Same G H ∧ (∃ p us, x = .ref p ∧ SqL X.K H p us ∧ RelDs X.K cA G ds us) ∧ (∃ v, xs = [v] ∧ RelS X.K cA G H a v) ∧ shp a = true ∧ shps ds = true ∧ Q (.int (countD a ds)) H) := by
  intro pins s σ H x xs v us Q I rx rxs ⟨G, a, ds, sb, ⟨p, ws, e, hq, rb⟩, ⟨va, e2, ra⟩, ha, hb, q⟩
  subst e e2
  cases rx
  obtain ⟨ua, rfl, rua⟩ := rxs.one
  obtain ⟨as, r1⟩ := reads_S I sb (shp_pd ha) ra rua
  obtain ⟨its, rv, pl, hz⟩ := I.list hq
  obtain ⟨i1, i2⟩ := each_eq (A := X.A.in1) I sb ha r1 (by show X.A.units + 1 + 64 < cLine; omega) hb rb rv
  have ic := countD_eq I sb ha r1 hb rb rv
  obtain ⟨⟨cls, dd, data, sl⟩, ho, hc, n, hd⟩ := pl.isList
  simp only at hc hd
  subst hc hd
  refine call_meets PySem.F.slot_list_count ⟨_, ho, rfl⟩ PySem.F.entry_list_count (PySem.F.args_list_count_2 _ _) (SeqAt.list_countAt p its.toArray n dd sl ua (eqOn s.heap (py a))) ⟨ho, fun y hy => i1 y (by simpa using hy), ?_⟩
  refine ⟨.int _, H, I.tok _, ⟨_, rfl⟩, ?_⟩
  rw [show its.toArray.toList = its by simp, ic]
  exact q
theorem few1 {e : Expr} {env : PySem.Env} (h : plainX e = true) : ((backTo cpos (starEach [e] env)).all (fun x => !x.1) && (backToKw cpos (keywordEach [] env)).all (fun x => x.1.isSome)
      && decide ([e].length + ([] : List Keyword).length + (if ([] : List Keyword).isEmpty then 0 else 1) < 30)) = true := by
  rw [star_cons h]
  rfl
theorem isLst_tyV {K : PySem.W.Frag} {cA : Cfg0} {G : Hp} {am : List Addr} {C : Cells} {H : Hp} {x : E} {v : V} (wd : Wd K cA G am C H) (r : RelE K cA G am x v) (h : isLst C x = true) : tyV K "list" v H := by
  unfold isLst at h
  cases e : see C x with
  | none => rw [e] at h; cases h
  | some d =>
    rw [e] at h
    cases d <;> first | (cases h; done) | skip
    case lst xs =>
      obtain ⟨p, us, rfl, h1, h2⟩ := see_rel wd r e
      exact .inl ⟨rfl, us, h1⟩
theorem r_count (g : Gd sx k W X) (hao : attrX a = true) (hp : plainX b = true) (hl : (apos.endLine == cpos.line) = true) (ha : PE X a (tE X.K cA W fa)) {fs : Env → Cells → Ev.R (List E)} (hs : PA X [b] (tEs X.K cA W fs)) :
    PE X (.Call (.Attribute a "count" apos) [b] [] cpos) (tE X.K cA W fun env C => (fa env C).bind fun x C => if isLst C x then (fs env C).bind fun xs C =>
      Ev.R.of ((see C x).bind fun x => (sees C xs).bind fun ds => (bmV .count x ds).map .v) C else .bad) := by
  refine PE.imp (pe_bm PySem.F.plainAttrs_list PySem.F.slot_list_count PySem.F.type_list_count (mt_countG (cA := cA) g.un) ha hs (attr_base hao) (few1 hp) hl (star_cons hp) rfl) fun σ H Q h => ?_
  obtain ⟨env, G, am, C, re, wd, d⟩ := tE_one h
  refine ⟨env, G, am, C, re, wd, Dn.imp d fun vx H1 ⟨env1, G1, am1, C1, x, re1, w1, rx, d1⟩ => ?_⟩
  split at d1
  · rename_i hil
    refine ⟨isLst_tyV w1 rx hil, env1, G1, am1, C1, re1, w1, Dn.imp (Dn.bind (Rl := rEs X.K cA) d1) fun vs H2 ⟨G2, am2, C2, xs, x2, w2, r2, d2⟩ => ?_⟩
    obtain ⟨e, he, d2⟩ := of_some d2
    simp only [Option.bind_eq_some_iff, Option.map_eq_some_iff] at he
    obtain ⟨dx, hx, ds, hds, z, hz, rfl⟩ := he
    have rs := see_rel w2 (RelE.mono x2.g x2.a rx) hx
    have rd := sees_rel w2 r2 hds
    unfold bmV at hz
    split at hz
    · split at hz
      · rename_i hc
        cases hz
        rw [Bool.and_eq_true] at hc
        obtain ⟨p, us, e3, h1, h2⟩ := rs
        obtain ⟨v, rr, e1, h3, h4⟩ := rd
        exact ⟨G2, _, _, w2.sub, ⟨p, us, e3, h1, h2⟩, ⟨v, by rw [e1, show rr = [] from h4], h3⟩, hc.1, hc.2, d2.here w2 (by simp only [rE, RelE, RelD])⟩
      · cases hz
    · exact absurd ‹Bm.count = Bm.index› (by decide)
    · cases hz
  · exact d1.elim
theorem r_append (hao : attrX a = true) (hp : plainX b = true) (hl : (apos.endLine == cpos.line) = true) (ha : PE X a (tE X.K cA W fa)) {fs : Env → Cells → Ev.R (List E)} (hs : PA X [b] (tEs X.K cA W fs)) :
    PE X (.Call (.Attribute a "append" apos) [b] [] cpos) (tE X.K cA W fun env C => (fa env C).bind fun x C => if isLst C x then (fs env C).bind fun xs C => match x with
    | .r n => match (cellAt C n).bind fun c => (vals xs).bind fun ds => mmV .append c ds with
      | some (c, d) => .ok (.v d) (C.set n (some c))
      | none => .bad
    | _ => .bad else .bad) := by
  refine PE.imp (pe_bm PySem.F.plainAttrs_list PySem.F.slot_list_append PySem.F.type_list_append mt_append ha hs (attr_base hao) (few1 hp) hl (star_cons hp) rfl) fun σ H Q h => ?_
  obtain ⟨env, G, am, C, re, wd, d⟩ := tE_one h
  refine ⟨env, G, am, C, re, wd, Dn.imp d fun vx H1 ⟨env1, G1, am1, C1, x, re1, w1, rx, d1⟩ => ?_⟩
  split at d1
  · rename_i hil
    refine ⟨isLst_tyV w1 rx hil, env1, G1, am1, C1, re1, w1, Dn.imp (Dn.bind (Rl := rEs X.K cA) d1) fun vs H2 ⟨G2, am2, C2, xs, x2, w2, r2, d2⟩ => ?_⟩
    cases x with
    | r n =>
      simp only at d2
      cases ec : cellAt C2 n with
      | none => simp only [ec, Option.bind_none] at d2; exact d2.elim
      | some cl =>
        cases ev : vals xs with
        | none => simp only [ec, ev, Option.bind_some, Option.bind_none] at d2; exact d2.elim
        | some ds =>
          simp only [ec, ev, Option.bind_some] at d2
          have rx2 : RelE X.K cA G2 am2 (.r n) vx := RelE.mono x2.g x2.a rx
          cases cl <;> simp only [mmV] at d2 <;> first | exact d2.elim | skip
          case lst ys =>
            cases ds with
            | nil => simp only [mmV] at d2; exact d2.elim
            | cons y r0 =>
              cases r0 with
              | cons y2 r1 => simp only [mmV] at d2; exact d2.elim
              | nil =>
                simp only [mmV] at d2
                by_cases hlen : ys.length < line
                · rw [if_pos hlen] at d2
                  dsimp only at d2
                  obtain ⟨p, e2, h3, h4, ⟨us, h5, h6⟩, h7⟩ := w2.at rx2 ec
                  have rd := vals_rel r2 ev
                  simp only [RelDs] at rd
                  obtain ⟨v, rr, e1, h8, h9⟩ := rd
                  have e1' : vs = [v] := by rw [e1, h9]
                  obtain ⟨w3, x3⟩ := w2.put h3 h4 h5 (h6.append (RelDs.one h8))
                  exact ⟨p, us, v, e2, e1', h5, by rw [← h6.length, ← line_eq]; exact hlen, d2 G2 am2 _ .non x3 w3 (by simp only [rE, RelE, RelD])⟩
                · rw [if_neg hlen] at d2; exact d2.elim
    | _ => exact d2.elim
  · exact d1.elim
end
end Ev

end

section
set_option maxRecDepth 512
set_option Elab.async false
set_option linter.all false
set_option maxRecDepth 100000
set_option maxHeartbeats 4000000
namespace Ev
open PySem L2 PySem.Spec PyProof.Rows

/-! ### the text that an IR stands for -/
def nmIs (o : Option Nm) (x : Str) : Bool := match o with
  | some nm => decide (T nm = x) && !nm.isEmpty
  | none => false
theorem nmIs_ok {o : Option Nm} {x : Str} (h : nmIs o x = true) : ∃ nm, o = some nm ∧ T nm = x ∧ nm ≠ [] := by
  unfold nmIs at h
  split at h
  · rename_i nm
    simp only [Bool.and_eq_true, decide_eq_true_eq, Bool.not_eq_true', List.isEmpty_eq_false_iff] at h
    exact ⟨nm, rfl, h.1, h.2⟩
  · cases h
def ownP (N : List Nm) (own : List Nat) : List (Str × Nat) := own.map fun i => (T (N[i]?.getD []), i)
theorem ownP_snd (N : List Nm) (own : List Nat) : (ownP N own).map (·.2) = own := by
  unfold ownP
  rw [List.map_map]
  conv => rhs; rw [← List.map_id own]
  rfl
def blkSx (sx : Sx) (scope : Scope) (own : List Nat) : Sx :=
  { N := sx.N, sc := relS scope sx.sc, hot := sx.hot, top := false, lam := false, exc := false, st := own.map fun i => sx.N[i]?.getD [] }
def stC (scope : Scope) (x : Str) : Bool := match scope.names.lookup x with
  | some .local => true
  | some .cell => true
  | _ => false
section
variable (pr : Prog) (tb : Tab)
mutual
def ckE (sx : Sx) : Ex → Expr → Bool
  | .slot i, x0 => match x0 with
    | .Name x _ => nmAt sx.N i x && visB sx.sc x && nmOk x
    | _ => false
  | .cst k, x0 => match x0 with
    | .Constant c _ _ => decide (kOk k c)
    | _ => false
  | .glob gi, x0 => match x0 with
    | .Name x _ => nmIs tb.gl[gi]? x && glB sx.sc x
    | _ => false
  | .tup es, x0 => match x0 with
    | .Tuple xs _ _ => ckEs sx es xs
    | _ => false
  | .lst _ es, x0 => match x0 with
    | .List xs _ => ckEs sx es xs
    | _ => false
  | .bop o a b, x0 => match x0 with
    | .BinOp x op y _ => decide (op = bopO o) && ckE sx a x && ckE sx b y
    | _ => false
  | .cmp o a b, x0 => match x0 with
    | .Compare x [op] [y] _ => decide (op = copO o) && plainX y && ckE sx a x && ckE sx b y
    | _ => false
  | .isN neg a, x0 => match x0 with
    | .Compare x [op] [.Constant .none _ _] _ => decide (op = if neg then .IsNot else .Is) && ckE sx a x
    | _ => false
  | .and a b, x0 => match x0 with
    | .BoolOp .And (x :: y :: rest) pos => ckE sx a x && ckE sx b (.BoolOp .And (y :: rest) pos)
    | _ => false
  | .or a b, x0 => match x0 with
    | .BoolOp .Or (x :: y :: rest) pos => ckE sx a x && ckE sx b (.BoolOp .Or (y :: rest) pos)
    | _ => false
  | .one a, x0 => match x0 with
    | .BoolOp _ [x] _ => ckE sx a x
    | _ => false
  | .not a, x0 => match x0 with
    | .UnaryOp .Not x _ => ckE sx a x
    | _ => false
  | .ite c a b, x0 => match x0 with
    | .IfExp x y z _ => ckE sx c x && ckE sx a y && ckE sx b z
    | _ => false
  | .idx a i, x0 => match x0 with
    | .Subscript x y _ => plainX y && ckE sx a x && ckE sx i y
    | _ => false
  | .sl a lo hi, x0 => match x0 with
    | .Subscript x (.Slice lo' hi' none _) _ => ckE sx a x && ckO sx lo lo' && ckO sx hi hi'
    | _ => false
  | .xf i f, x0 => match x0 with
    | .Attribute (.Name x _) n _ => sx.exc && nmAt sx.N i x && visB sx.sc x && nmOk x && decide (T f = n)
    | _ => false
  | .call f es, x0 => match x0 with
    | .Call (.Name x _) xs [] _ => nmIs tb.fn[f]? x && glB sx.sc x && !sx.hot && xs.all plainX && ckEs sx es xs
    | _ => false
  | .callP f es, x0 => match x0 with
    | .Call (.Name x _) xs [] _ => nmIs tb.fn[f]? x && glB sx.sc x && !sx.hot && xs.all plainX && ckEs sx es xs
    | _ => false
  | .bi b es, x0 => match x0 with
    | .Call (.Name x _) xs [] _ => decide ((biN b : Str) = x) && glB sx.sc x && (biHot b || !sx.hot) && xs.all plainX && !xs.isEmpty && ckEs sx es xs
    | _ => false
  | .isi a ts, x0 => match ts, x0 with
    | [t], .Call (.Name x _) [y, .Name z _] [] _ => decide (("isinstance" : Str) = x) && glB sx.sc x && tyOk t && decide ((tyN t : Str) = z) && glB sx.sc z && plainX y && ckE sx a y
    | [t, u], .Call (.Name x _) [y, .Tuple [.Name z _, .Name v _] _ _] [] _ => decide (("isinstance" : Str) = x) && glB sx.sc x && tyOk t && decide ((tyN t : Str) = z) && glB sx.sc z && tyOk u && decide ((tyN u : Str) = v) && glB sx.sc v && plainX y && ckE sx a y
    | _, _ => false
  | .bm m a es, x0 => match m, x0 with
    | .count, .Call (.Attribute x n p) [y] [] q => decide (n = ("count" : Str)) && attrX x && (p.endLine == q.line) && ckE sx a x && plainX y && ckEs sx es [y]
    | _, _ => false
  | .mm m a es, x0 => match m, x0 with
    | .append, .Call (.Attribute x n p) [y] [] q => decide (n = ("append" : Str)) && attrX x && (p.endLine == q.line) && ckE sx a x && plainX y && ckEs sx es [y]
    | _, _ => false
  | .comp own t it ifs r, x0 => match x0 with
    | .ListComp elt (⟨tg, iter, ifs', 0⟩ :: gs) scope _ => !sx.hot && ckI sx it tg iter && plainX iter && blkC (sx.N.map T) sx.sc scope (ownP sx.N own) && (tsl t).all (own.contains ·) && (gsl r).all (own.contains ·) && gs.all (·.is_async == 0) &&
      own.all (fun i => stC scope (T (sx.N[i]?.getD []))) && ckT (blkSx sx scope own) t tg && ckC (blkSx sx scope own) ifs ifs' && ckG (blkSx sx scope own) r elt gs
    | _ => false
  | .cp a, x0 => match x0 with
    | .Call (.Name x _) [y] [] _ => decide (("list" : Str) = x) && glB sx.sc x && !sx.hot && plainX y && ckE sx a y
    | _ => false
  | .frz a, x => testX x && ckE sx a x
  | .callL i, x0 => match x0 with
    | .Call (.Name x _) [] [] _ => (sx.lam && sx.top) && !sx.hot && nmAt sx.N i x && visB sx.sc x && nmOk x
    | _ => false
  | .cmp2 _ _ _ _ _, _ => false
  | .attr _ _, _ => false
  | .meth _ _ _, _ => false
  | .new _ _, _ => false
def ckG (sx : Sx) : Gn → Expr → List Comprehension → Bool
  | .elt e, elt, gs => match gs with
    | [] => ckE sx e elt
    | _ => false
  | .gen t it ifs r, elt, gs => match gs with
    | ⟨tg, iter, ifs', 0⟩ :: gs => ckI sx it tg iter && plainX iter && ckT sx t tg && ckC sx ifs ifs' && ckG sx r elt gs
    | _ => false
def ckC (sx : Sx) : Eo → List Expr → Bool
  | .none, xs => xs.isEmpty
  | .some c, xs => match xs with
    | [x] => ckE sx c x
    | _ => false
def ckEs (sx : Sx) : Es → List Expr → Bool
  | .nil, xs => xs.isEmpty
  | .cons e es, xs => match xs with
    | x :: xs => plainX x && ckE sx e x && ckEs sx es xs
    | _ => false
  | .star e es, xs => match xs with
    | .Starred x _ :: xs => ckE sx e x && ckEs sx es xs
    | _ => false
def ckO (sx : Sx) : Eo → Option Expr → Bool
  | .none, o => o.isNone
  | .some e, o => match o with
    | some x => ckE sx e x
    | none => false
def ckI (sx : Sx) : It → Expr → Expr → Bool
  | .seq e, _, x => ckE sx e x
  | .range1 a, _, x0 => match x0 with
    | .Call (.Name x _) [y] [] _ => decide (("range" : Str) = x) && glB sx.sc x && plainX y && ckE sx a y
    | _ => false
  | .range2 a b, _, x0 => match x0 with
    | .Call (.Name x _) [y, z] [] _ => decide (("range" : Str) = x) && glB sx.sc x && plainX y && plainX z && ckE sx a y && ckE sx b z
    | _ => false
  | .enum e, tg, x0 => match tg, x0 with
    | .Tuple _ _ _, .Call (.Name x _) [y] [] _ => decide (("enumerate" : Str) = x) && glB sx.sc x && plainX y && ckE sx e y
    | _, _ => false
  | .zip _ _, _, _ => false
end
end

theorem _root_.L2.PE.cast {X : Cx} {cA : Cfg} {W : WX} {x : Expr} {f f' : Env → Cells → Ev.R E} (h : PE X x (tE X.K cA W f)) (e : ∀ env C, f' env C = f env C) : PE X x (tE X.K cA W f') := by
  have : f' = f := funext fun env => funext fun C => e env C
  rw [this]; exact h
/-- what holds where an IR stands for a text -/
structure Hy (pr : Prog) (tb : Tab) (call : Nat → List E → Cells → Ev.R E) (lamc : Nat → Env → Cells → Ev.R E) (cA : Cfg) (sx : Sx) (k : Nat) (W : WX) (X : Cx) : Prop where
  g : Gd sx k W X
  F : Facts X.prog X.w X.K X.mg X.base cA pr tb k call
  hR : sx.top = true → sx.hot = false → Room (k + 1) X.A
  hL : sx.lam = true → LamF cA X ∧ ∀ j p b sc, cA.lam j p b sc → LamX.LamS X.env.scope sc ∧ argsB p = true ∧ ∀ (A : Around) (outer : List PySem.Env) (s : Shared) (H : Hp) (E : XK) (f c' : Addr), Room k (A.deeper (LamX.lamEnv X sc s.heap.objs.size f c')) → PE (LamX.lamCx X A outer s H E sc f c') b (tE X.K cA (fun cls d _ H => E cls d H) (lamc j))
  hE : ∀ a C d, cA.exc = some (a, C, d) → sx.exc = true → ∃ (Y : Cx) (oe : Obj) (pn : List (Addr × Obj)), X = Y.suite a ((a, oe) :: pn) ∧ Zc (.ref C) d oe ∧ ∃ vs, oe.data = .fields vs
section
variable {pr : Prog} {tb : Tab} {call : Nat → List E → Cells → Ev.R E} {lamc : Nat → Env → Cells → Ev.R E} {cA : Cfg} {sx : Sx} {k : Nat} {W : WX} {X : Cx}
theorem relS_keep {scope sc : Scope} {x : Str} {k : NameKind} (hk : k ≠ .free) (h : scope.names.lookup x = some k) : (relS scope sc).names.lookup x = some k := lookup_relS_keep hk h
/-- a comprehension's block -/
theorem Hy.blk (h : Hy pr tb call lamc cA sx k W X) {scope : Scope} {own : List Nat} (ho : own.all (fun i => stC scope (T (sx.N[i]?.getD []))) = true) (s : Shared) (H : Hp) (C : Addr) (cl : List (Str × Addr)) (fp : List Addr) :
    Hy pr tb call lamc cA (blkSx sx scope own) k W0 (X.blk s H scope (compEnvC scope cl C X.env) fp) where
  g := {
    N := h.g.N
    nd := h.g.nd
    sc := by
      show relS scope X.env.scope = relS scope sx.sc
      rw [h.g.sc]
    un := h.g.un
    tk := LamX.takes0
    calm := h.g.calm
    room := h.g.room
    top := fun z => by cases z
    own := fun z => by cases z
    stb := fun x hx => by
      obtain ⟨i, hi, rfl⟩ := List.mem_map.mp hx
      have hs := List.all_eq_true.mp ho i hi
      unfold stC at hs
      split at hs
      · rename_i hl
        exact ⟨.inl (relS_keep (by decide) hl), .inr (relS_keep (by decide) hl)⟩
      · rename_i hl
        refine ⟨.inr (relS_keep (by decide) hl), .inl ?_⟩
        show (scope.names.lookup _ == some NameKind.cell) = true
        rw [hl]; rfl
      · cases hs }
  F := h.F
  hR := fun z => by cases z
  hL := fun z => by cases z
  hE := fun _ _ _ _ z => by cases z
abbrev Gl3 (lamc : Nat → Env → Cells → Ev.R E) (X : Cx) (cA : Cfg) (W : WX) (pr : Prog) (call : Nat → List E → Cells → Ev.R E) (e : Ex) (x : Expr) : Prop :=
  PE X x (tE X.K cA W (evE pr call lamc e)) ∧ PT X x (tT X.K cA W fun env C => truR (evE pr call lamc e env C)) ∧ ((∃ o es p, x = .BoolOp o es p) → PW X x (tT X.K cA W fun env C => truR (evE pr call lamc e env C)))
theorem gl3 {e : Ex} {x : Expr} (h : PE X x (tE X.K cA W (evE pr call lamc e))) (ht : testX x = true) : Gl3 lamc X cA W pr call e x :=
  ⟨h, r_test h ht, fun ⟨o, es, p, z⟩ => by subst z; cases ht⟩
theorem _root_.L2.PT.cast {x : Expr} {f f' : Env → Cells → Ev.R E} (h : PT X x (tT X.K cA W fun env C => truR (f env C))) (e : ∀ env C, f' env C = f env C) : PT X x (tT X.K cA W fun env C => truR (f' env C)) := by
  have : f' = f := funext fun env => funext fun C => e env C
  rw [this]; exact h
theorem _root_.L2.PW.cast {x : Expr} {f f' : Env → Cells → Ev.R E} (h : PW X x (tT X.K cA W fun env C => truR (f env C))) (e : ∀ env C, f' env C = f env C) : PW X x (tT X.K cA W fun env C => truR (f' env C)) := by
  have : f' = f := funext fun env => funext fun C => e env C
  rw [this]; exact h
theorem _root_.L2.PA.cast {x : List Expr} {f f' : Env → Cells → Ev.R (List E)} (h : PA X x (tEs X.K cA W f)) (e : ∀ env C, f' env C = f env C) : PA X x (tEs X.K cA W f') := by
  have : f' = f := funext fun env => funext fun C => e env C
  rw [this]; exact h
theorem _root_.L2.PO.cast {x : Option Expr} {f f' : Env → Cells → Ev.R (Option Int)} (h : PO X x (tO X.K cA W f)) (e : ∀ env C, f' env C = f env C) : PO X x (tO X.K cA W f') := by
  have : f' = f := funext fun env => funext fun C => e env C
  rw [this]; exact h
theorem _root_.L2.PI.cast {t x : Expr} {f f' : Env → Cells → Ev.R (List D × E)} (h : PI X t x (tI X.K cA W f)) (e : ∀ env C, f' env C = f env C) : PI X t x (tI X.K cA W f') := by
  have : f' = f := funext fun env => funext fun C => e env C
  rw [this]; exact h
end
end Ev

end

section
set_option maxRecDepth 512
set_option Elab.async false
set_option linter.all false
set_option maxRecDepth 100000
set_option maxHeartbeats 4000000
namespace Ev
open PySem L2 PySem.Spec PyProof.Rows
section
variable {pr : Prog} {tb : Tab} {call : Nat → List E → Cells → Ev.R E} {lamc : Nat → Env → Cells → Ev.R E} {cA : Cfg} {k : Nat}
theorem r_xf0 {X : Cx} {W : WX} {pos p : Pos} {x n : Str} {i : Nat} {f : Nm} (hx : cA.exc = none) : PE X (.Attribute (.Name x p) n pos) (tE X.K cA W fun env C => match (env[i]?).join with
    | some (.exn c fs) => match pr.cls[c]? with
      | some cl => if cl.flds.contains f then Ev.R.of ((lookFD f fs).map .v) C else .bad
      | none => .bad
    | _ => .bad) := by
  refine ⟨fun pins s σ H Q I ⟨env, G, am, C, re, wd, d⟩ => ?_⟩
  dsimp only at d
  cases e1 : env[i]? with
  | none => simp only [e1, Option.join_none] at d; exact d.elim
  | some o1 =>
    cases o1 with
    | none => simp only [e1, Option.join_some] at d; exact d.elim
    | some e' =>
      obtain ⟨v, h1, h2⟩ := re.2 i _ e1
      simp only [e1, Option.join_some] at d
      cases e' with
      | v dd => exact d.elim
      | r n => exact d.elim
      | clo j => exact d.elim
      | exn c fs =>
        rcases h2 with h2 | ⟨j', z, q⟩ | ⟨c2, fs2, z, a2, C2, dd, z1, _⟩
        · exact h2.elim
        · cases z
        · rw [hx] at z1; cases z1
theorem PEm.cast {B : Cx} {elt : Expr} {gens : List Comprehension} {scope : Scope} {pos : Pos} {d : Nat} {own : List Nat} {f f' : Env → Cells → List D → Ev.R (List D)} (h : PEm B elt gens scope pos d own (tB B.K cA f)) (e : ∀ env C acc, f' env C acc = f env C acc) : PEm B elt gens scope pos d own (tB B.K cA f') := by
  have : f' = f := funext fun env => funext fun C => funext fun acc => e env C acc
  rw [this]; exact h
theorem nobool {x : Expr} {P : Prop} (h : testX x = true) : (∃ o es p, x = .BoolOp o es p) → P := fun ⟨o, es, p, z⟩ => by subst z; cases h
theorem drop_get {α : Type} {l : List α} {n : Nat} {a : α} {r : List α} (h : l.drop n = a :: r) : l[n]? = some a ∧ l.drop (n + 1) = r := by
  have hlt : n < l.length := by
    rcases Nat.lt_or_ge n l.length with z | z
    · exact z
    · rw [List.drop_eq_nil_of_le z] at h; cases h
  rw [List.drop_eq_getElem_cons hlt] at h
  cases h
  exact ⟨by simp [hlt], rfl⟩
theorem drop_nil {α : Type} {l : List α} {n : Nat} (h : l.drop n = []) : l[n]? = none := by
  rw [List.getElem?_eq_none_iff]
  exact List.drop_eq_nil_iff.mp h
abbrev asyncOk (gens : List Comprehension) : Prop := ∀ g ∈ gens, g.is_async = 0
mutual
theorem okE : ∀ (e : Ex) (sx : Sx) (W : WX) (X : Cx) (h : Hy pr tb call lamc cA sx k W X) (x : Expr), ckE tb sx e x = true → Gl3 lamc X cA W pr call e x
  | .slot i, sx, W, X, h, x, hc => by
    rw [ckE.eq_def] at hc; dsimp only at hc
    split at hc
    · simp only [Bool.and_eq_true] at hc
      exact gl3 ((r_slot h.g hc.1.1 hc.1.2 hc.2).cast fun env C => by rw [evE] <;> rfl) rfl
    · cases hc
  | .cst kk, sx, W, X, h, x, hc => by
    rw [ckE.eq_def] at hc; dsimp only at hc
    split at hc
    · exact gl3 ((r_cst kk _ _ (of_decide_eq_true hc)).cast fun env C => by rw [evE] <;> rfl) rfl
    · cases hc
  | .glob gi, sx, W, X, h, x, hc => by
    rw [ckE.eq_def] at hc; dsimp only at hc
    split at hc
    · rw [Bool.and_eq_true] at hc
      obtain ⟨nm, h1, h2, h3⟩ := nmIs_ok hc.1
      exact gl3 ((r_glob h.g h.F h1 h2 hc.2).cast fun env C => by rw [evE] <;> rfl) rfl
    · cases hc
  | .tup es, sx, W, X, h, x, hc => by
    rw [ckE.eq_def] at hc; dsimp only at hc
    split at hc
    · exact gl3 ((r_tup (okEs es sx W X h _ hc)).cast fun env C => by rw [evE] <;> rfl) rfl
    · cases hc
  | .lst m es, sx, W, X, h, x, hc => by
    rw [ckE.eq_def] at hc; dsimp only at hc
    split at hc
    · cases m with
      | true => exact gl3 ((r_lstM (okEs es sx W X h _ hc)).cast fun env C => by rw [evE] <;> rfl) rfl
      | false => exact gl3 ((r_lst (okEs es sx W X h _ hc)).cast fun env C => by rw [evE] <;> rfl) rfl
    · cases hc
  | .bop o a b, sx, W, X, h, x, hc => by
    rw [ckE.eq_def] at hc; dsimp only at hc
    split at hc
    · simp only [Bool.and_eq_true, decide_eq_true_eq] at hc
      obtain ⟨⟨rfl, h1⟩, h2⟩ := hc
      exact gl3 ((r_bop o (okE a sx W X h _ h1).1 (okE b sx W X h _ h2).1).cast fun env C => by rw [evE] <;> rfl) rfl
    · cases hc
  | .cmp o a b, sx, W, X, h, x, hc => by
    rw [ckE.eq_def] at hc; dsimp only at hc
    split at hc
    · simp only [Bool.and_eq_true, decide_eq_true_eq] at hc
      obtain ⟨⟨⟨rfl, h0⟩, h1⟩, h2⟩ := hc
      have ha := (okE a sx W X h _ h1).1
      have hb := (okE b sx W X h _ h2).1
      exact ⟨(r_cmp h.g o ha hb h0).cast fun env C => by rw [evE] <;> rfl, PT.cast (r_tcmp h.g o ha hb h0) fun env C => by rw [evE] <;> rfl, fun ⟨_, _, _, z⟩ => by cases z⟩
    · cases hc
  | .cmp2 o o' a b c, sx, W, X, h, x, hc => by
    rw [ckE.eq_def] at hc; dsimp only at hc
    cases hc
  | .isN neg a, sx, W, X, h, x, hc => by
    rw [ckE.eq_def] at hc; dsimp only at hc
    split at hc
    · simp only [Bool.and_eq_true, decide_eq_true_eq] at hc
      obtain ⟨rfl, h1⟩ := hc
      have ha := (okE a sx W X h _ h1).1
      exact ⟨(r_isN neg ha).cast fun env C => by rw [evE] <;> rfl, PT.cast (r_tisN neg ha) fun env C => by rw [evE] <;> rfl, fun ⟨_, _, _, z⟩ => by cases z⟩
    · cases hc
  | .and a b, sx, W, X, h, x, hc => by
    rw [ckE.eq_def] at hc; dsimp only at hc
    split at hc
    · rw [Bool.and_eq_true] at hc
      have ha := okE a sx W X h _ hc.1
      have hb := okE b sx W X h _ hc.2
      have pw := PW.cast (r_wand ha.2.1 (hb.2.2 ⟨_, _, _, rfl⟩)) (f' := evE pr call lamc (.and a b)) fun env C => by rw [evE] <;> rfl
      exact ⟨(r_and ha.1 hb.1).cast fun env C => by rw [evE] <;> rfl, pw.pt, fun _ => pw⟩
    · cases hc
  | .or a b, sx, W, X, h, x, hc => by
    rw [ckE.eq_def] at hc; dsimp only at hc
    split at hc
    · rw [Bool.and_eq_true] at hc
      have ha := okE a sx W X h _ hc.1
      have hb := okE b sx W X h _ hc.2
      have pw := PW.cast (r_wor ha.2.1 (hb.2.2 ⟨_, _, _, rfl⟩)) (f' := evE pr call lamc (.or a b)) fun env C => by rw [evE] <;> rfl
      exact ⟨(r_or ha.1 hb.1).cast fun env C => by rw [evE] <;> rfl, pw.pt, fun _ => pw⟩
    · cases hc
  | .one a, sx, W, X, h, x, hc => by
    rw [ckE.eq_def] at hc; dsimp only at hc
    split at hc
    · rename_i op y p
      have ha := okE a sx W X h _ hc
      have pw : PW X (.BoolOp op [y] p) (tT X.K cA W fun env C => truR (evE pr call lamc (.one a) env C)) := PW.cast (by
        cases op with
        | And => exact pw_and1 ha.2.1
        | Or => exact pw_or1 ha.2.1) fun env C => by rw [evE] <;> rfl
      exact ⟨(pe_one ha.1).cast fun env C => by rw [evE] <;> rfl, pw.pt, fun _ => pw⟩
    · cases hc
  | .not a, sx, W, X, h, x, hc => by
    rw [ckE.eq_def] at hc; dsimp only at hc
    split at hc
    · have ha := okE a sx W X h _ hc
      exact ⟨(r_not ha.1).cast fun env C => by rw [evE] <;> rfl, PT.cast (r_tnot (pa := ha.2.1)) fun env C => by rw [evE] <;> rfl, fun ⟨_, _, _, z⟩ => by cases z⟩
    · cases hc
  | .ite c a b, sx, W, X, h, x, hc => by
    rw [ckE.eq_def] at hc; dsimp only at hc
    split at hc
    · simp only [Bool.and_eq_true] at hc
      have hc' := okE c sx W X h _ hc.1.1
      have ha := okE a sx W X h _ hc.1.2
      have hb := okE b sx W X h _ hc.2
      exact ⟨(r_ite hc'.2.1 ha.1 hb.1).cast fun env C => by rw [evE] <;> rfl, PT.cast (r_tite hc'.2.1 ha.2.1 hb.2.1) fun env C => by rw [evE] <;> rfl, fun ⟨_, _, _, z⟩ => by cases z⟩
    · cases hc
  | .idx a i, sx, W, X, h, x, hc => by
    rw [ckE.eq_def] at hc; dsimp only at hc
    split at hc
    · simp only [Bool.and_eq_true] at hc
      exact gl3 ((r_idx hc.1.1 (okE a sx W X h _ hc.1.2).1 (okE i sx W X h _ hc.2).1).cast fun env C => by rw [evE] <;> rfl) rfl
    · cases hc
  | .sl a lo hi, sx, W, X, h, x, hc => by
    rw [ckE.eq_def] at hc; dsimp only at hc
    split at hc
    · simp only [Bool.and_eq_true] at hc
      exact gl3 ((r_sl (okE a sx W X h _ hc.1.1).1 (okO lo sx W X h _ hc.1.2) (okO hi sx W X h _ hc.2)).cast fun env C => by rw [evE] <;> rfl) rfl
    · cases hc
  | .xf i f, sx, W, X, h, x, hc => by
    rw [ckE.eq_def] at hc; dsimp only at hc
    split at hc
    · simp only [Bool.and_eq_true, decide_eq_true_eq] at hc
      obtain ⟨⟨⟨⟨h0, h1⟩, h2⟩, h3⟩, h4⟩ := hc
      cases hx : cA.exc with
      | none => exact gl3 ((r_xf0 hx).cast fun env C => by rw [evE] <;> rfl) rfl
      | some z =>
        obtain ⟨a, C, d⟩ := z
        obtain ⟨Y, oe, pn, rfl, hz, hf⟩ := h.hE a C d hx h0
        exact gl3 ((r_xf h.g h.F hx hz hf h1 h2 h3 h4).cast fun env C => by rw [evE] <;> rfl) rfl
    · cases hc
  | .attr a f, sx, W, X, h, x, hc => by
    rw [ckE.eq_def] at hc; dsimp only at hc
    cases hc
  | .call f es, sx, W, X, h, x, hc => by
    rw [ckE.eq_def] at hc; dsimp only at hc
    split at hc
    · rename_i xs p
      simp only [Bool.and_eq_true, Bool.not_eq_true'] at hc
      obtain ⟨⟨⟨⟨h0, h1⟩, h2⟩, h3⟩, h4⟩ := hc
      obtain ⟨nm, n1, n2, n3⟩ := nmIs_ok h0
      have hs := okEs es sx W X h _ h4
      cases xs with
      | nil =>
        cases es with
        | nil => exact gl3 ((r_call0 h.g h.F n1 n3 n2 h1 h2).cast fun env C => by rw [evE, evEs] <;> rfl) rfl
        | cons => rw [ckEs.eq_def] at h4; dsimp only at h4; cases h4
        | star => rw [ckEs.eq_def] at h4; dsimp only at h4; cases h4
      | cons y ys =>
        rw [List.all_cons, Bool.and_eq_true] at h3
        exact gl3 ((r_call h.g h.F n1 n3 n2 h1 h2 h3.1 h3.2 hs).cast fun env C => by rw [evE] <;> rfl) rfl
    · cases hc
  | .callP f es, sx, W, X, h, x, hc => by
    rw [ckE.eq_def] at hc; dsimp only at hc
    split at hc
    · rename_i xs p
      simp only [Bool.and_eq_true, Bool.not_eq_true'] at hc
      obtain ⟨⟨⟨⟨h0, h1⟩, h2⟩, h3⟩, h4⟩ := hc
      obtain ⟨nm, n1, n2, n3⟩ := nmIs_ok h0
      have hs := okEs es sx W X h _ h4
      cases xs with
      | nil =>
        cases es with
        | nil => exact gl3 ((r_callP0 h.g h.F n1 n3 n2 h1 h2).cast fun env C => by rw [evE, evEs] <;> rfl) rfl
        | cons => rw [ckEs.eq_def] at h4; dsimp only at h4; cases h4
        | star => rw [ckEs.eq_def] at h4; dsimp only at h4; cases h4
      | cons y ys =>
        rw [List.all_cons, Bool.and_eq_true] at h3
        exact gl3 ((r_callP h.g h.F n1 n3 n2 h1 h2 h3.1 h3.2 hs).cast fun env C => by rw [evE] <;> rfl) rfl
    · cases hc
  | .meth o m es, sx, W, X, h, x, hc => by
    rw [ckE.eq_def] at hc; dsimp only at hc
    cases hc
  | .new c es, sx, W, X, h, x, hc => by
    rw [ckE.eq_def] at hc; dsimp only at hc
    cases hc
  | .bi b es, sx, W, X, h, x, hc => by
    rw [ckE.eq_def] at hc; dsimp only at hc
    split at hc
    · rename_i xs p
      simp only [Bool.and_eq_true, Bool.not_eq_true', decide_eq_true_eq, Bool.or_eq_true] at hc
      obtain ⟨⟨⟨⟨⟨h0, h1⟩, h2⟩, h3⟩, h4⟩, h5⟩ := hc
      have hs := okEs es sx W X h _ h5
      cases xs with
      | nil => cases h4
      | cons y ys =>
        rw [List.all_cons, Bool.and_eq_true] at h3
        exact gl3 ((r_bi h.g h.F b h0 h1 h2 h3.1 h3.2 hs).cast fun env C => by rw [evE] <;> rfl) rfl
    · cases hc
  | .isi a ts, sx, W, X, h, x, hc => by
    have ty : ∀ {t : Ty} {z : Str}, tyOk t = true → (tyN t : Str) = z → X.mg z = none := fun {t z} ht hz => by
      subst hz
      refine h.F.ty _ ?_
      cases t <;> first | (cases ht; done) | (simp [tyN])
    rw [ckE.eq_def] at hc; dsimp only at hc
    split at hc
    · simp only [Bool.and_eq_true, decide_eq_true_eq] at hc
      obtain ⟨⟨⟨⟨⟨⟨h0, h1⟩, h2⟩, h3⟩, h4⟩, h5⟩, h6⟩ := hc
      exact gl3 ((r_isi1 h.g h.F h0 h1 h2 h3 (ty h2 h3) h4 h5 (okE a sx W X h _ h6).1).cast fun env C => by rw [evE] <;> rfl) rfl
    · simp only [Bool.and_eq_true, decide_eq_true_eq] at hc
      obtain ⟨⟨⟨⟨⟨⟨⟨⟨⟨h0, h1⟩, h2⟩, h3⟩, h4⟩, h7⟩, h8⟩, h9⟩, h5⟩, h6⟩ := hc
      exact gl3 ((r_isi2 h.g h.F h0 h1 h2 h3 (ty h2 h3) h4 h7 h8 (ty h7 h8) h9 h5 (okE a sx W X h _ h6).1).cast fun env C => by rw [evE] <;> rfl) rfl
    · cases hc
  | .bm m a es, sx, W, X, h, x, hc => by
    rw [ckE.eq_def] at hc; dsimp only at hc
    split at hc
    · simp only [Bool.and_eq_true, decide_eq_true_eq] at hc
      obtain ⟨⟨⟨⟨⟨rfl, h1⟩, h2⟩, h3⟩, h4⟩, h5⟩ := hc
      exact gl3 ((r_count h.g h1 h4 h2 (okE a sx W X h _ h3).1 (okEs es sx W X h _ h5)).cast fun env C => by rw [evE] <;> rfl) rfl
    · cases hc
  | .mm m a es, sx, W, X, h, x, hc => by
    rw [ckE.eq_def] at hc; dsimp only at hc
    split at hc
    · simp only [Bool.and_eq_true, decide_eq_true_eq] at hc
      obtain ⟨⟨⟨⟨⟨rfl, h1⟩, h2⟩, h3⟩, h4⟩, h5⟩ := hc
      exact gl3 ((r_append h1 h4 h2 (okE a sx W X h _ h3).1 (okEs es sx W X h _ h5)).cast fun env C => by rw [evE] <;> rfl) rfl
    · cases hc
  | .comp own t it ifs r, sx, W, X, h, x, hc => by
    rw [ckE.eq_def] at hc; dsimp only at hc
    split at hc
    · rename_i elt tg iter ifs' gs scope p
      simp only [Bool.and_eq_true, Bool.not_eq_true', List.all_eq_true, beq_iff_eq] at hc
      obtain ⟨⟨⟨⟨⟨⟨⟨⟨⟨⟨h0, h1⟩, h2⟩, h3⟩, h4⟩, h5⟩, h6⟩, h7⟩, h8⟩, h9⟩, h10⟩ := hc
      have h7' : own.all (fun i => stC scope (T (sx.N[i]?.getD []))) = true := List.all_eq_true.mpr h7
      have bk := fun s H C cl fp => Hy.blk h h7' s H C cl fp
      refine gl3 ((r_comp (own := ownP sx.N own) (vs1 := gsl r) (ft := evC pr call lamc ifs) (fr := evG pr call lamc r) (h.g.calm h0) h.g.nd (okI it sx W X h tg iter h1) (by rw [h.g.N, h.g.sc]; exact blkOk_by h3) h6 (by rw [ownP_snd]; exact fun i hi => by simpa using h4 i hi) (by rw [ownP_snd]; exact fun i hi => by simpa using h5 i hi)
        (fun s H C cl fp => r_tg (cA := cA) (bk s H C cl fp).g h8) (fun s H C cl fp => okC ifs _ _ _ (bk s H C cl fp) ifs' h9) (fun s H C cl fp => okG r _ _ (bk s H C cl fp) (fun _ _ z => z) h0 elt (⟨tg, iter, ifs', 0⟩ :: gs) scope p 0 gs rfl (fun g hg => by
          rcases List.mem_cons.mp hg with rfl | hg
          · rfl
          · exact h6 g hg) h10) h2).cast fun env C => by rw [evE, ownP_snd] <;> rfl) rfl
    · cases hc
  | .cp a, sx, W, X, h, x, hc => by
    rw [ckE.eq_def] at hc; dsimp only at hc
    split at hc
    · simp only [Bool.and_eq_true, Bool.not_eq_true', decide_eq_true_eq] at hc
      obtain ⟨⟨⟨⟨h0, h1⟩, h2⟩, h3⟩, h4⟩ := hc
      exact gl3 ((r_cp h.g h.F h0 h1 h2 h3 (okE a sx W X h _ h4).1).cast fun env C => by rw [evE] <;> rfl) rfl
    · cases hc
  | .frz a, sx, W, X, h, x, hc => by
    rw [ckE.eq_def] at hc; dsimp only at hc
    rw [Bool.and_eq_true] at hc
    exact gl3 ((r_frz (okE a sx W X h _ hc.2).1).cast fun env C => by rw [evE] <;> rfl) hc.1
  | .callL i, sx, W, X, h, x, hc => by
    rw [ckE.eq_def] at hc; dsimp only at hc
    split at hc
    · simp only [Bool.and_eq_true, Bool.not_eq_true'] at hc
      obtain ⟨⟨⟨⟨h0, h1⟩, h2⟩, h3⟩, h4⟩ := hc
      obtain ⟨lf, hl⟩ := h.hL h0.1
      exact gl3 ((r_callL h.g lf h2 h3 h4 h1 (h.hR h0.2 h1) hl).cast fun env C => by rw [evE] <;> rfl) rfl
    · cases hc
theorem okG : ∀ (r : Gn) (sx : Sx) (X : Cx) (h : Hy pr tb call lamc cA sx k W0 X) (hx : ∀ e s, ¬ X.xe e s) (hh : sx.hot = false) (elt : Expr) (gens : List Comprehension) (scope : Scope) (pos : Pos) (d : Nat) (gs : List Comprehension), gens.drop (d + 1) = gs → asyncOk gens → ckG tb sx r elt gs = true →
    PEm X elt gens scope pos d (gsl r) (tB X.K cA (evG pr call lamc r))
  | .elt e, sx, X, h, hx, hh, elt, gens, scope, pos, d, gs, hg, hz, hc => by
    cases gs with
    | nil =>
      rw [ckG.eq_def] at hc; dsimp only at hc
      exact PEm.cast (r_elt hx (drop_nil hg) (okE e sx W0 X h _ hc).1) fun env C acc => by rw [evG] <;> rfl
    | cons g gs => rw [ckG.eq_def] at hc; dsimp only at hc; cases hc
  | .gen t it ifs r, sx, X, h, hx, hh, elt, gens, scope, pos, d, gs, hg, hz, hc => by
    cases gs with
    | nil => rw [ckG.eq_def] at hc; dsimp only at hc; cases hc
    | cons g gs =>
      obtain ⟨tg, iter, ifs', as⟩ := g
      obtain ⟨g1, g2⟩ := drop_get hg
      have h0 := hz _ (List.mem_of_getElem? g1)
      simp only at h0
      subst h0
      rw [ckG.eq_def] at hc; dsimp only at hc
      simp only [Bool.and_eq_true] at hc
      obtain ⟨⟨⟨⟨h1, h2⟩, h3⟩, h4⟩, h5⟩ := hc
      exact PEm.cast (r_gen (vs := tsl t ++ gsl r) (h.g.calm hh) hx hz g1 h2 (okI it sx W0 X h tg iter h1) (r_tg (cA := cA) h.g h3) (okC ifs sx W0 X h ifs' h4) (okG r sx X h hx hh elt gens scope pos (d + 1) gs g2 hz h5) (fun i hi => List.mem_append_right _ hi) (fun i hi => List.mem_append_left _ hi)) fun env C acc => by rw [evG] <;> rfl
theorem okC : ∀ (c : Eo) (sx : Sx) (W : WX) (X : Cx) (h : Hy pr tb call lamc cA sx k W X) (xs : List Expr), ckC tb sx c xs = true → PTs X xs (tT X.K cA W (evC pr call lamc c))
  | .none, sx, W, X, h, xs, hc => by
    cases xs with
    | nil => exact ⟨fun pins s σ H Q I ⟨env, G, am, C, re, wd, d⟩ => pts_nil.run pins s σ H Q I (by rw [evC] at d; exact d.here wd rfl)⟩
    | cons => rw [ckC.eq_def] at hc; dsimp only at hc; cases hc
  | .some c, sx, W, X, h, xs, hc => by
    cases xs with
    | nil => rw [ckC.eq_def] at hc; dsimp only at hc; cases hc
    | cons x r =>
      cases r with
      | cons => rw [ckC.eq_def] at hc; dsimp only at hc; cases hc
      | nil =>
        rw [ckC.eq_def] at hc; dsimp only at hc
        have e : evC pr call lamc (.some c) = fun env C => truR (evE pr call lamc c env C) := funext fun env => funext fun C => by rw [evC]
        rw [e]
        exact pts_one (okE c sx W X h x hc).2.1
theorem okEs : ∀ (es : Es) (sx : Sx) (W : WX) (X : Cx) (h : Hy pr tb call lamc cA sx k W X) (xs : List Expr), ckEs tb sx es xs = true → PA X xs (tEs X.K cA W (evEs pr call lamc es))
  | .nil, sx, W, X, h, xs, hc => by
    cases xs with
    | nil => exact PA.cast r_nil fun env C => by rw [evEs] <;> rfl
    | cons => rw [ckEs.eq_def] at hc; dsimp only at hc; cases hc
  | .cons e es, sx, W, X, h, xs, hc => by
    cases xs with
    | nil => rw [ckEs.eq_def] at hc; dsimp only at hc; cases hc
    | cons x xs =>
      rw [ckEs.eq_def] at hc; dsimp only at hc
      simp only [Bool.and_eq_true] at hc
      exact PA.cast (r_cons hc.1.1 (okE e sx W X h x hc.1.2).1 (okEs es sx W X h xs hc.2)) fun env C => by rw [evEs] <;> rfl
  | .star e es, sx, W, X, h, xs, hc => by
    cases xs with
    | nil => rw [ckEs.eq_def] at hc; dsimp only at hc; cases hc
    | cons x xs =>
      cases x <;> first | (rw [ckEs.eq_def] at hc; dsimp only at hc; cases hc; done) | skip
      case Starred x p =>
        rw [ckEs.eq_def] at hc; dsimp only at hc
        simp only [Bool.and_eq_true] at hc
        exact PA.cast (r_star (okE e sx W X h x hc.1).1 (okEs es sx W X h xs hc.2)) fun env C => by rw [evEs] <;> rfl
theorem okO : ∀ (o : Eo) (sx : Sx) (W : WX) (X : Cx) (h : Hy pr tb call lamc cA sx k W X) (x : Option Expr), ckO tb sx o x = true → PO X x (tO X.K cA W (evO pr call lamc o))
  | .none, sx, W, X, h, x, hc => by
    cases x with
    | none => exact PO.cast r_noPart fun env C => by rw [evO] <;> rfl
    | some => rw [ckO.eq_def] at hc; dsimp only at hc; cases hc
  | .some e, sx, W, X, h, x, hc => by
    cases x with
    | none => rw [ckO.eq_def] at hc; dsimp only at hc; cases hc
    | some x =>
      rw [ckO.eq_def] at hc; dsimp only at hc
      exact PO.cast (r_part (okE e sx W X h x hc).1) fun env C => by rw [evO] <;> rfl
theorem okI : ∀ (it : It) (sx : Sx) (W : WX) (X : Cx) (h : Hy pr tb call lamc cA sx k W X) (tg x : Expr), ckI tb sx it tg x = true → PI X tg x (tI X.K cA W (evI pr call lamc it))
  | .seq e, sx, W, X, h, tg, x, hc => by
    rw [ckI.eq_def] at hc; dsimp only at hc
    exact PI.cast (r_seq (okE e sx W X h x hc).1) fun env C => by rw [evI] <;> rfl
  | .range1 a, sx, W, X, h, tg, x, hc => by
    rw [ckI.eq_def] at hc; dsimp only at hc
    split at hc
    · simp only [Bool.and_eq_true, decide_eq_true_eq] at hc
      exact PI.cast (r_range1 h.g h.F hc.1.1.1 hc.1.1.2 hc.1.2 (okE a sx W X h _ hc.2).1) fun env C => by rw [evI] <;> rfl
    · cases hc
  | .range2 a b, sx, W, X, h, tg, x, hc => by
    rw [ckI.eq_def] at hc; dsimp only at hc
    split at hc
    · simp only [Bool.and_eq_true, decide_eq_true_eq] at hc
      exact PI.cast (r_range2 h.g h.F hc.1.1.1.1.1 hc.1.1.1.1.2 hc.1.1.1.2 hc.1.1.2 (okE a sx W X h _ hc.1.2).1 (okE b sx W X h _ hc.2).1) fun env C => by rw [evI] <;> rfl
    · cases hc
  | .enum e, sx, W, X, h, tg, x, hc => by
    rw [ckI.eq_def] at hc; dsimp only at hc
    split at hc
    · simp only [Bool.and_eq_true, decide_eq_true_eq] at hc
      exact PI.cast (r_enum h.g h.F hc.1.1.1 hc.1.1.2 hc.1.2 (okE e sx W X h _ hc.2).1) fun env C => by rw [evI] <;> rfl
    · cases hc
  | .zip a b, sx, W, X, h, tg, x, hc => by
    rw [ckI.eq_def] at hc; dsimp only at hc
    cases hc
end
end
end Ev

end

section
set_option maxRecDepth 512
set_option Elab.async false
set_option linter.all false
set_option maxRecDepth 100000
set_option maxHeartbeats 4000000
namespace Ev
open PySem L2 PySem.Spec PyProof.Rows
/-! ### stores -/
def swV (sc : Scope) (x tg : Expr) : Bool := match x, tg with
  | .ListComp _ _ s p, .Name y py => decide (sc.names.lookup y = some .local) && (py.line == p.line) && !(s.names.any fun (n, k) => n == y && (k == .local || k == .cell))
  | _, _ => false
def noSet : Expr → Bool
  | .SetComp .. => false
  | .DictComp .. => false
  | _ => true
theorem sw_sole {x tg : Expr} {l : Nat} {env : PySem.Env} (hk : env.scope.kind = .function) (hn : noSet x = true) : swapsWithSole [tg] x l env = pure (swV env.scope x tg) := by
  show swapsWith x (some tg) l env = _
  have hb : env.blockKind = .function := by unfold PySem.Env.blockKind; rw [hk]; rfl
  cases x <;> first | rfl | (simp [noSet] at hn; done) | skip
  case ListComp elt gs s p =>
    cases tg <;> first | rfl | skip
    case Name y py =>
      show (pure (env.blockKind == .function && env.kindOf y == some .local && py.line == p.line && !(s.names.any fun (n, k) => n == y && (k == .local || k == .cell))) : Sem Bool) = _
      have e : (env.scope.names.lookup y == some NameKind.local) = decide (env.scope.names.lookup y = some .local) := by
        cases hh : env.scope.names.lookup y with
        | none => rfl
        | some k => cases k <;> rfl
      rw [hb]
      show (pure ((ScopeKind.function == ScopeKind.function) && (env.scope.names.lookup y == some NameKind.local) && py.line == p.line && !(s.names.any fun (n, k) => n == y && (k == .local || k == .cell))) : Sem Bool) = _
      rw [e]
      rfl
def notTup : Expr → Bool
  | .Tuple .. => false
  | _ => true
theorem ss_plain {x : Expr} {ts : List Expr} {n : Nat} {p : Pos} {env : PySem.Env} (h : notTup x = true) : swappedStores [.Tuple ts n p] x env = pure none := by
  cases x <;> first | (simp [notTup] at h; done) | (unfold swappedStores; rfl)
theorem ss_name {x : Expr} {y : Str} {p : Pos} {env : PySem.Env} : swappedStores [.Name y p] x env = pure none := by
  unfold swappedStores; cases x <;> rfl
/-- the names that are stored from the right -/
def ssN (sc : Scope) (ts : List Expr) : List Str := ts.filterMap fun
    | .Name id pos => if sc.names.lookup id == some .local && pos.line == (ts.head?.map (·.pos.line)).getD 0 then some id else none
    | _ => none
def starX : Expr → Bool
  | .Starred .. => true
  | _ => false
theorem ss_eq {ts vs : List Expr} {n m : Nat} {p q : Pos} {env : PySem.Env} (hk : env.scope.kind = .function) : ∃ Z, swappedStores [.Tuple ts n p] (.Tuple vs m q) env =
    (if (!(ts.length == 2 || ts.length == 3) || vs.length != ts.length) = true then pure none else if vs.any starX = true then pure none else
      if ((ssN env.scope ts).length != ts.length || (ssN env.scope ts).eraseDups.length != (ssN env.scope ts).length) = true then pure none else if vs.all (foldedForSure 8) = true then pure none else if vs.all (constantsAlone 8) = true then Z else pure (some (ssN env.scope ts))) := by
  have hb : env.blockKind = .function := by unfold PySem.Env.blockKind; rw [hk]; rfl
  unfold swappedStores
  rw [hb]
  have e : (!(ts.length == 2 || ts.length == 3) || vs.length != ts.length || ScopeKind.function != ScopeKind.function) = (!(ts.length == 2 || ts.length == 3) || vs.length != ts.length) := by simp
  dsimp only
  rw [e]
  exact ⟨_, rfl⟩
/-- stored as a pair (none: the model does not say) -/
def ssV (sc : Scope) (ts vs : List Expr) : Option Bool :=
  if !(ts.length == 2 || ts.length == 3) || vs.length != ts.length then some false
  else if vs.any starX then some false
  else if (ssN sc ts).length != ts.length || (ssN sc ts).eraseDups.length != (ssN sc ts).length then some false
  else if vs.all (foldedForSure 8) then some false
  else if vs.all (constantsAlone 8) then none
  else some true
theorem ss_no {ts vs : List Expr} {n m : Nat} {p q : Pos} {env : PySem.Env} (hk : env.scope.kind = .function) (h : ssV env.scope ts vs = some false) : swappedStores [.Tuple ts n p] (.Tuple vs m q) env = pure none := by
  obtain ⟨Z, hz⟩ := ss_eq (ts := ts) (vs := vs) (n := n) (m := m) (p := p) (q := q) hk
  rw [hz]
  unfold ssV at h
  split at h
  · rename_i c; rw [if_pos c]
  · rename_i c; rw [if_neg c]
    split at h
    · rename_i c; rw [if_pos c]
    · rename_i c; rw [if_neg c]
      split at h
      · rename_i c; rw [if_pos c]
      · rename_i c; rw [if_neg c]
        split at h
        · rename_i c; rw [if_pos c]
        · split at h <;> cases h
theorem ss_yes {ts vs : List Expr} {n m : Nat} {p q : Pos} {env : PySem.Env} (hk : env.scope.kind = .function) (h : ssV env.scope ts vs = some true) : swappedStores [.Tuple ts n p] (.Tuple vs m q) env = pure (some (ssN env.scope ts)) := by
  obtain ⟨Z, hz⟩ := ss_eq (ts := ts) (vs := vs) (n := n) (m := m) (p := p) (q := q) hk
  rw [hz]
  unfold ssV at h
  split at h
  · cases h
  · rename_i c; rw [if_neg c]
    split at h
    · cases h
    · rename_i c; rw [if_neg c]
      split at h
      · cases h
      · rename_i c; rw [if_neg c]
        split at h
        · cases h
        · rename_i c; rw [if_neg c]
          split at h
          · cases h
          · rename_i c; rw [if_neg c]
def ssB (sc : Scope) (tg x : Expr) : Bool := match tg, x with
  | .Tuple ts _ _, .Tuple vs _ _ => decide (ssV sc ts vs = some false)
  | _, _ => true

/-! ### statements -/
def trySx (sx : Sx) : Sx := { sx with exc := false }
def suiteSx (sx : Sx) (as : Bool) : Sx := { sx with hot := true, lam := false, exc := as }
def lamSx (sx : Sx) (s : Scope) : Sx := { N := sx.N, sc := s, hot := false, top := false, lam := false, exc := false, st := [] }
section
variable (pr : Prog) (tb : Tab)
/-- the text (p, b, s) is the lambda j -/
def lamB (sx : Sx) (j : Nat) (p : Arguments) (b : Expr) (s : Scope) : Bool := LamX.lamSB sx.sc s && argsB p && (match pr.lams[j]? with
  | some e => ckE tb (lamSx sx s) e b
  | none => false)
def ckLs (sx : Sx) : List Nat → List Expr → Bool
  | [], es => es.isEmpty
  | j :: js, es => match es with
    | .Lambda p b s _ :: es => lamB pr tb sx j p b s && ckLs sx js es
    | _ => false
mutual
def ckS (sx : Sx) : Sm → Stmt → Bool
  | .exp e, x0 => match x0 with
    | .Expr x _ => noComp x && ckE tb sx e x
    | _ => false
  | .ret e, x0 => match x0 with
    | .Return (some x) _ => ckE tb sx e x
    | _ => false
  | .retN, x0 => match x0 with
    | .Return none _ => true
    | _ => false
  | .pass, x0 => match x0 with
    | .Pass _ => true
    | _ => false
  | .brk, x0 => match x0 with
    | .Break _ => true
    | _ => false
  | .cont, x0 => match x0 with
    | .Continue _ => true
    | _ => false
  | .asg t e, x0 => match t, x0 with
    | .nm i, .Assign [.Name y p] x _ => noSet x && decide (sx.sc.kind = .function) && nmAt sx.N i y && stoB sx y && ckE tb sx e x && (match swV sx.sc x (.Name y p), e with
      | false, _ => true
      | true, .comp .. => true
      | _, _ => false)
    | .tup ts, .Assign [.Tuple es n p] x _ => noSet x && decide (sx.sc.kind = .function) && ckT sx (.tup ts) (.Tuple es n p) && ssB sx.sc (.Tuple es n p) x && ckE tb sx e x
    | _, _ => false
  | .par i j a b, x0 => match x0 with
    | .Assign [.Tuple [.Name y py, .Name z pz] n p] (.Tuple [x, w] m q) _ => decide (sx.sc.kind = .function) && !sx.hot && nmAt sx.N i y && nmAt sx.N j z && decide (i ≠ j) && decide (sx.sc.names.lookup y = some .local) && decide (sx.sc.names.lookup z = some .local) && plainX x && plainX w && ckE tb sx a x && ckE tb sx b w &&
        decide (ssV sx.sc [.Name y py, .Name z pz] [x, w] = some true) && decide (ssN sx.sc [.Name y py, .Name z pz] = [y, z])
    | _ => false
  | .aug i o e, x0 => match x0 with
    | .AugAssign (.Name y _) op x _ => decide (op = bopO o) && nmAt sx.N i y && stoB sx y && ckE tb sx e x
    | _ => false
  | .augI o i op e, x0 => match x0 with
    | .AugAssign (.Subscript x y _) op' z _ => decide (op' = bopO op) && plainX y && ckE tb sx o x && ckE tb sx i y && ckE tb sx e z
    | _ => false
  | .setI o i e, x0 => match x0 with
    | .Assign [.Subscript x y _] z _ => plainX y && noComp z && ckE tb sx o x && ckE tb sx i y && ckE tb sx e z
    | _ => false
  | .setA _ _ _, _ => false
  | .augA _ _ _ _, _ => false
  | .ife c a b, x0 => match x0 with
    | .If x ys zs _ => ckE tb sx c x && ckSs sx a ys && ckSs sx b zs
    | _ => false
  | .for t it b, x0 => match x0 with
    | .For tg iter body [] _ => sx.top && !sx.hot && ckI tb sx it tg iter && ckT sx t tg && plainX iter && ckSs sx b body
    | _ => false
  | .forL i js b, x0 => match x0 with
    | .For (.Name y _) (.Tuple es _ _) body [] _ => sx.top && sx.lam && !sx.hot && nmAt sx.N i y && stoB sx y && ckLs pr tb sx js es && decide (js.length ≤ 1000) && ckSs sx b body
    | _ => false
  | .while _ _, _ => false
  | .raise c es, x0 => match x0 with
    | .Raise (some (.Call (.Name x _) xs [] _)) none _ => sx.top && !sx.hot && nmIs tb.cl[c]? x && glB sx.sc x && !xs.isEmpty && xs.all plainX && ckEs tb sx es xs && (match pr.cls[c]? with
      | some cl => !cl.flds.isEmpty && decide (cl.flds.length ≤ 900)
      | none => false)
    | _ => false
  | .try b hs, x0 => match x0 with
    | .Try body [.ExceptHandler (some (.Name x _)) nm (s₀ :: suite) _] [] [] _ => sx.top && !sx.hot && glB sx.sc x && ckSs (trySx sx) b body && ckH sx hs x nm (s₀ :: suite)
    | _ => false
def ckSs (sx : Sx) : Sms → List Stmt → Bool
  | .nil, xs => xs.isEmpty
  | .cons s r, xs => match xs with
    | x :: xs => ckS sx s x && ckSs sx r xs
    | _ => false
def ckH (sx : Sx) : Hs → Str → Option Str → List Stmt → Bool
  | .nil, _, _, _ => false
  | .cons c as b .nil, x, nm, suite => nmIs tb.cl[c]? x && (match pr.cls[c]? with
      | some cl => cl.exn
      | none => false) && (match as, nm with
      | none, none => true
      | some i, some n => nmAt sx.N i n && decide (sx.sc.names.lookup n = some .local)
      | _, _ => false) && ckSs (suiteSx sx as.isSome) b suite
  | .cons _ _ _ (.cons _ _ _ _), _, _, _ => false
end
end
end Ev

end

section
set_option maxRecDepth 512
set_option Elab.async false
set_option linter.all false
set_option maxRecDepth 100000
set_option maxHeartbeats 4000000
namespace Ev
open PySem L2 PySem.Spec PyProof.Rows
section
variable {pr : Prog} {tb : Tab} {call : Nat → List E → Cells → Ev.R E} {lamc : Nat → Env → Cells → Ev.R E} {k : Nat}
theorem _root_.L2.PS.cast {X : Cx} {cA : Cfg} {W : WX} {x : Stmt} {f f' : Env → Cells → RS} (h : PS X x (tS X.K cA W f)) (e : ∀ env C, f' env C = f env C) : PS X x (tS X.K cA W f') := by
  have : f' = f := funext fun env => funext fun C => e env C
  rw [this]; exact h
theorem _root_.L2.PSs.cast {X : Cx} {cA : Cfg} {W : WX} {x : List Stmt} {f f' : Env → Cells → RS} (h : PSs X x (tS X.K cA W f)) (e : ∀ env C, f' env C = f env C) : PSs X x (tS X.K cA W f') := by
  have : f' = f := funext fun env => funext fun C => e env C
  rw [this]; exact h
/-- cA's lambdas are those that the check saw -/
def LamT (pr : Prog) (tb : Tab) (cA : Cfg) (sx : Sx) : Prop := ∀ j p b s, lamB pr tb sx j p b s = true → cA.lam j p b s
theorem ckLs_ok {cA : Cfg} {sx : Sx} (hl : LamT pr tb cA sx) : ∀ {js : List Nat} {es : List Expr}, ckLs pr tb sx js es = true → ckL cA sx.sc js es
  | [], es, h => by
    rw [ckLs.eq_def] at h
    cases es with
    | nil => trivial
    | cons => cases h
  | j :: js, es, h => by
    rw [ckLs.eq_def] at h
    dsimp only at h
    split at h
    · rename_i p b s lp es'
      rw [Bool.and_eq_true] at h
      have h1 := h.1
      unfold lamB at h1
      simp only [Bool.and_eq_true] at h1
      exact ⟨⟨p, b, s, rfl, hl j p b s h.1, LamX.lamS_by h1.1.1, h1.1.2⟩, ckLs_ok hl h.2⟩
    · cases h
theorem Hy.tr {cA : Cfg} {sx : Sx} {W W' : WX} {X : Cx} (h : Hy pr tb call lamc cA sx k W X) (pn : List (Addr × Obj)) (xe : Value → Shared → Prop) (tk : Takes (X.tr pn xe) W') (ow : PassesOwn (model X.prog X.w) X.A X.env xe) : Hy pr tb call lamc cA (trySx sx) k W' (X.tr pn xe) where
  g := { N := h.g.N, nd := h.g.nd, sc := h.g.sc, un := h.g.un, tk := tk, calm := h.g.calm, room := h.g.room, top := h.g.top, own := fun _ _ => ow, stb := h.g.stb }
  F := h.F
  hR := h.hR
  hL := fun z => let ⟨lf, q⟩ := h.hL z; ⟨⟨lf.cells, lf.q, lf.tb⟩, q⟩
  hE := fun _ _ _ _ z => by cases z
theorem Hy.suite {cA : Cfg} {sx : Sx} {W : WX} {X : Cx} (h : Hy pr tb call lamc cA sx k W X) (a : Addr) (oe : Obj) (pn : List (Addr × Obj)) (as : Bool) (cA' : Cfg) (h0 : cA'.toCfg0 = cA.toCfg0) (he : ∀ a' C d, cA'.exc = some (a', C, d) → as = true → a' = a ∧ Zc (.ref C) d oe ∧ ∃ vs, oe.data = .fields vs) :
    Hy pr tb call lamc cA' (suiteSx sx as) k W0 (X.suite a ((a, oe) :: pn)) where
  g := { N := h.g.N, nd := h.g.nd, sc := h.g.sc, un := h.g.un, tk := LamX.takes0, calm := (fun z => by cases z), room := (fun z => by cases z), top := h.g.top, own := (fun _ z => by cases z), stb := h.g.stb }
  F := by rw [h0]; exact h.F
  hR := fun _ z => by cases z
  hL := fun z => by cases z
  hE := fun a' C d hx z => by
    obtain ⟨rfl, z1, z2⟩ := he a' C d hx z
    exact ⟨X, oe, pn, rfl, z1, z2⟩
mutual
theorem okS : ∀ (s : Sm) (cA : Cfg) (sx : Sx) (W : WX) (X : Cx) (h : Hy pr tb call lamc cA sx k W X) (hl : LamT pr tb cA sx) (he : sx.hot = false → cA.exc = none) (x : Stmt), ckS pr tb sx s x = true → PS X x (tS X.K cA W (exS pr call lamc s))
  | .exp e, cA, sx, W, X, h, hl, he, x, hc => by
    rw [ckS.eq_def] at hc; dsimp only at hc
    split at hc
    · rw [Bool.and_eq_true] at hc
      exact (s_exp (okE e sx W X h _ hc.2).1 hc.1).cast fun env C => by rw [exS] <;> rfl
    · cases hc
  | .ret e, cA, sx, W, X, h, hl, he, x, hc => by
    rw [ckS.eq_def] at hc; dsimp only at hc
    split at hc
    · exact (s_ret (okE e sx W X h _ hc).1).cast fun env C => by rw [exS] <;> rfl
    · cases hc
  | .retN, cA, sx, W, X, h, hl, he, x, hc => by
    rw [ckS.eq_def] at hc; dsimp only at hc
    split at hc
    · exact s_retN.cast fun env C => by rw [exS] <;> rfl
    · cases hc
  | .pass, cA, sx, W, X, h, hl, he, x, hc => by
    rw [ckS.eq_def] at hc; dsimp only at hc
    split at hc
    · exact s_pass.cast fun env C => by rw [exS] <;> rfl
    · cases hc
  | .brk, cA, sx, W, X, h, hl, he, x, hc => by
    rw [ckS.eq_def] at hc; dsimp only at hc
    split at hc
    · exact s_brk.cast fun env C => by rw [exS] <;> rfl
    · cases hc
  | .cont, cA, sx, W, X, h, hl, he, x, hc => by
    rw [ckS.eq_def] at hc; dsimp only at hc
    split at hc
    · exact s_ct.cast fun env C => by rw [exS] <;> rfl
    · cases hc
  | .asg t e, cA, sx, W, X, h, hl, he, x0, hc => by
    rw [ckS.eq_def] at hc; dsimp only at hc
    split at hc
    · rename_i i y p x pos
      simp only [Bool.and_eq_true, decide_eq_true_eq] at hc
      obtain ⟨⟨⟨⟨⟨h1, h2⟩, h3⟩, h4⟩, h5⟩, h6⟩ := hc
      have hk : X.env.scope.kind = .function := by rw [h.g.sc]; exact h2
      have sw := sw_sole (tg := .Name y p) (l := pos.line) hk h1
      rw [h.g.sc] at sw
      cases hv : swV sx.sc x (.Name y p) with
      | false =>
        rw [hv] at sw
        exact (s_asgN h.g h3 h4 (okE e sx W X h _ h5).1 sw).cast fun env C => by rw [exS] <;> rfl
      | true =>
        rw [hv] at h6 sw
        cases e <;> first | (cases h6; done) | skip
        case comp own t it ifs r =>
          rw [ckE.eq_def] at h5; dsimp only at h5
          split at h5
          · rename_i elt tg iter ifs' gs scope q
            simp only [Bool.and_eq_true, Bool.not_eq_true', List.all_eq_true, beq_iff_eq] at h5
            obtain ⟨⟨⟨⟨⟨⟨⟨⟨⟨⟨h0, h1⟩, h2⟩, h3'⟩, h4'⟩, h5⟩, h6⟩, h7⟩, h8⟩, h9⟩, h10⟩ := h5
            have h7' : own.all (fun i => stC scope (T (sx.N[i]?.getD []))) = true := List.all_eq_true.mpr h7
            have bk := fun s H C cl fp => Hy.blk h h7' s H C cl fp
            have hyl : X.env.scope.names.lookup y = some .local := by
              rw [h.g.sc]
              unfold swV at hv
              simp only [Bool.and_eq_true, decide_eq_true_eq] at hv
              exact hv.1.1
            refine PS.cast (f := fun env C => (evE pr call lamc (.comp own t it ifs r) env C).st env fun x C => match asgE (.nm i) x env with
              | none => .bad
              | some env => .next env C) (PS.imp (r_setLc (cA := cA) (W := W) (own := ownP sx.N own) (vs1 := gsl r) (ft := evC pr call lamc ifs) (fr := evG pr call lamc r) (h.g.calm h0) h.g.nd (h.g.at h3) hyl sw (okI it sx W X h tg iter h1) (by rw [h.g.N, h.g.sc]; exact blkOk_by h3') h6 (by rw [ownP_snd]; exact fun i hi => by simpa using h4' i hi) (by rw [ownP_snd]; exact fun i hi => by simpa using h5 i hi)
              (fun s H C cl fp => r_tg (cA := cA) (bk s H C cl fp).g h8) (fun s H C cl fp => okC ifs _ _ _ (bk s H C cl fp) ifs' h9) (fun s H C cl fp => okG r _ _ (bk s H C cl fp) (fun _ _ z => z) h0 elt (⟨tg, iter, ifs', 0⟩ :: gs) scope q 0 gs rfl (fun g hg => by
                rcases List.mem_cons.mp hg with rfl | hg
                · rfl
                · exact h6 g hg) h10) h2) fun D σ H hh => ?_) fun env C => by rw [exS] <;> rfl
            refine tAsg_name ?_
            have e : (evE pr call lamc (.comp own t it ifs r)) = fun env C => (evI pr call lamc it env C).bind fun w C =>
              (noexc (compL (wipeE env ((ownP sx.N own).map (·.2))) t (fun env C acc => stepC (evC pr call lamc ifs env C) (fun C => evG pr call lamc r env C acc) acc) w.1 (lock C w.2) [])).bind fun ds C' => .ok (.v (.lst ds)) (unlock C C' w.2) := funext fun env => funext fun C => by rw [evE, ownP_snd] <;> rfl
            rw [e] at hh
            exact hh
          · cases h5
    · rename_i ts es n p x pos
      simp only [Bool.and_eq_true, decide_eq_true_eq] at hc
      obtain ⟨⟨⟨⟨h1, h2⟩, h3⟩, h4⟩, h5⟩ := hc
      have hk : X.env.scope.kind = .function := by rw [h.g.sc]; exact h2
      have sw := sw_sole (tg := .Tuple es n p) (l := pos.line) hk h1
      have sv : swV X.env.scope x (.Tuple es n p) = false := by cases x <;> rfl
      rw [sv] at sw
      have ss : swappedStores [.Tuple es n p] x X.env = pure none := by
        cases x <;> first | exact ss_plain rfl | skip
        case Tuple vs m q =>
          unfold ssB at h4
          simp only [decide_eq_true_eq] at h4
          exact ss_no hk (by rw [h.g.sc]; exact h4)
      exact (s_asgT h.g h3 (okE e sx W X h _ h5).1 sw ss).cast fun env C => by rw [exS] <;> rfl
    · cases hc
  | .par i j a b, cA, sx, W, X, h, hl, he, x, hc => by
    rw [ckS.eq_def] at hc; dsimp only at hc
    split at hc
    · rename_i y py z pz nn pp xx ww mm qq pos
      simp only [Bool.and_eq_true, Bool.not_eq_true', decide_eq_true_eq] at hc
      obtain ⟨⟨⟨⟨⟨⟨⟨⟨⟨⟨⟨⟨h0, h1⟩, h2⟩, h3⟩, h4⟩, h5⟩, h6⟩, h7⟩, h8⟩, h9⟩, h10⟩, h11⟩, h12⟩ := hc
      have hk : X.env.scope.kind = .function := by rw [h.g.sc]; exact h0
      have ss := ss_yes (n := nn) (m := mm) (p := pp) (q := qq) hk (by rw [h.g.sc]; exact h11)
      rw [h.g.sc, h12] at ss
      exact (s_par h.g h1 h2 h3 h4 h5 h6 h7 h8 (okE a sx W X h _ h9).1 (okE b sx W X h _ h10).1 ss).cast fun env C => by rw [exS] <;> rfl
    · cases hc
  | .aug i o e, cA, sx, W, X, h, hl, he, x, hc => by
    rw [ckS.eq_def] at hc; dsimp only at hc
    split at hc
    · simp only [Bool.and_eq_true, decide_eq_true_eq] at hc
      obtain ⟨⟨⟨rfl, h1⟩, h2⟩, h3⟩ := hc
      exact (s_aug h.g o h1 h2 (okE e sx W X h _ h3).1).cast fun env C => by rw [exS] <;> rfl
    · cases hc
  | .augI o i op e, cA, sx, W, X, h, hl, he, x, hc => by
    rw [ckS.eq_def] at hc; dsimp only at hc
    split at hc
    · simp only [Bool.and_eq_true, decide_eq_true_eq] at hc
      obtain ⟨⟨⟨⟨rfl, h1⟩, h2⟩, h3⟩, h4⟩ := hc
      exact (s_augI op h1 (okE o sx W X h _ h2).1 (okE i sx W X h _ h3).1 (okE e sx W X h _ h4).1).cast fun env C => by rw [exS] <;> rfl
    · cases hc
  | .setI o i e, cA, sx, W, X, h, hl, he, x, hc => by
    rw [ckS.eq_def] at hc; dsimp only at hc
    split at hc
    · simp only [Bool.and_eq_true, decide_eq_true_eq] at hc
      obtain ⟨⟨⟨⟨h0, h1⟩, h2⟩, h3⟩, h4⟩ := hc
      exact (s_setI h.g h0 h1 (okE o sx W X h _ h2).1 (okE i sx W X h _ h3).1 (okE e sx W X h _ h4).1).cast fun env C => by rw [exS] <;> rfl
    · cases hc
  | .setA o f e, cA, sx, W, X, h, hl, he, x, hc => by
    rw [ckS.eq_def] at hc; cases hc
  | .augA o f op e, cA, sx, W, X, h, hl, he, x, hc => by
    rw [ckS.eq_def] at hc; cases hc
  | .ife c a b, cA, sx, W, X, h, hl, he, x, hc => by
    rw [ckS.eq_def] at hc; dsimp only at hc
    split at hc
    · simp only [Bool.and_eq_true] at hc
      exact (s_ife (okE c sx W X h _ hc.1.1).2.1 (okSs a cA sx W X h hl he _ hc.1.2) (okSs b cA sx W X h hl he _ hc.2)).cast fun env C => by rw [exS] <;> rfl
    · cases hc
  | .for t it b, cA, sx, W, X, h, hl, he, x, hc => by
    rw [ckS.eq_def] at hc; dsimp only at hc
    split at hc
    · simp only [Bool.and_eq_true, Bool.not_eq_true'] at hc
      obtain ⟨⟨⟨⟨⟨h0, h1⟩, h2⟩, h3⟩, h4⟩, h5⟩ := hc
      exact (s_for h.g (h.g.own h0 h1) h1 (okI it sx W X h _ _ h2) h3 (okSs b cA sx W X h hl he _ h5) h4).cast fun env C => by rw [exS] <;> rfl
    · cases hc
  | .forL i js b, cA, sx, W, X, h, hl, he, x, hc => by
    rw [ckS.eq_def] at hc; dsimp only at hc
    split at hc
    · simp only [Bool.and_eq_true, Bool.not_eq_true', decide_eq_true_eq] at hc
      obtain ⟨⟨⟨⟨⟨⟨⟨h0, h1⟩, h2⟩, h3⟩, h4⟩, h5⟩, h6⟩, h7⟩ := hc
      obtain ⟨lf, _⟩ := h.hL h1
      exact (s_forL h.g lf (h.g.own h0 h2) h2 h3 h4 (by rw [h.g.sc]; exact ckLs_ok hl h5) h6 (okSs b cA sx W X h hl he _ h7)).cast fun env C => by rw [exS] <;> rfl
    · cases hc
  | .while c b, cA, sx, W, X, h, hl, he, x, hc => by
    rw [ckS.eq_def] at hc; cases hc
  | .raise c es, cA, sx, W, X, h, hl, he, x, hc => by
    rw [ckS.eq_def] at hc; dsimp only at hc
    split at hc
    · rename_i y p xs pos pos'
      simp only [Bool.and_eq_true, Bool.not_eq_true'] at hc
      obtain ⟨⟨⟨⟨⟨⟨⟨h0, h1⟩, h2⟩, h3⟩, h4⟩, h5⟩, h6⟩, h7⟩ := hc
      obtain ⟨nm, n1, n2, n3⟩ := nmIs_ok h2
      split at h7
      · rename_i cl hcl
        simp only [Bool.and_eq_true, Bool.not_eq_true', decide_eq_true_eq] at h7
        cases xs with
        | nil => cases h4
        | cons z zs =>
          rw [List.all_cons, Bool.and_eq_true] at h5
          exact (s_raise h.g h.F rfl h1 (h.hR h0 h1) n1 n3 n2 h3 hcl (by intro z; rw [z] at h7; cases h7.1) h7.2 h5.1 h5.2 (okEs es sx W X h _ h6)).cast fun env C => by rw [exS] <;> rfl
      · cases h7
    · cases hc
  | .try b hs, cA, sx, W, X, h, hl, he, x, hc => by
    rw [ckS.eq_def] at hc; dsimp only at hc
    split at hc
    · rename_i body y p nm s₀ suite p2 p3
      simp only [Bool.and_eq_true, Bool.not_eq_true'] at hc
      obtain ⟨⟨⟨⟨h0, h1⟩, h2⟩, h3⟩, h4⟩ := hc
      have hb : ∀ (W : WX) (pn : List (Addr × Obj)) (xe : Value → Shared → Prop), Takes (X.tr pn xe) W → PassesOwn (model X.prog X.w) X.A X.env xe → PSs (X.tr pn xe) body (tS X.K cA W (exSs pr call lamc b)) := fun W' pn xe tk ow => okSs b cA (trySx sx) W' (X.tr pn xe) (h.tr pn xe tk ow) hl he body h3
      cases hs with
      | nil => rw [ckH.eq_def] at h4; cases h4
      | cons c as bs r =>
        cases r with
        | cons => rw [ckH.eq_def] at h4; cases h4
        | nil =>
          rw [ckH.eq_def] at h4; dsimp only at h4
          simp only [Bool.and_eq_true] at h4
          obtain ⟨⟨⟨h5, h6⟩, h7⟩, h8⟩ := h4
          obtain ⟨nn, n1, n2, n3⟩ := nmIs_ok h5
          split at h6
          · rename_i cl hcl
            split at h7
            · refine (s_tryOnly h.g h.F h0 n1 n3 n2 h2 hcl h6 hb fun a oe pn => okSs bs cA (suiteSx sx false) W0 _ (h.suite a oe pn false cA rfl fun _ _ _ _ z => by cases z) hl (fun z => by cases z) _ h8).cast fun env C => ?_
              rw [exS]
              cases exSs pr call lamc b env C <;> first | rfl | (rw [exH, exH] <;> rfl)
            · rename_i i n
              simp only [Bool.and_eq_true, decide_eq_true_eq] at h7
              refine (s_tryAs h.g h.F h0 (he h1) n1 n3 n2 h2 h7.1 h7.2 hcl h6 hb fun a oe C d pn hz hf => okSs bs { cA with exc := some (a, C, d) } (suiteSx sx true) W0 _ (h.suite a oe pn true _ rfl fun a' C' d' hx _ => by
                cases hx
                exact ⟨rfl, hz, hf⟩) hl (fun z => by cases z) _ h8).cast fun env C => ?_
              rw [exS]
              cases exSs pr call lamc b env C <;> first | rfl | (rw [exH, exH] <;> rfl)
            · cases h7
          · cases h6
    · cases hc
theorem okSs : ∀ (s : Sms) (cA : Cfg) (sx : Sx) (W : WX) (X : Cx) (h : Hy pr tb call lamc cA sx k W X) (hl : LamT pr tb cA sx) (he : sx.hot = false → cA.exc = none) (x : List Stmt), ckSs pr tb sx s x = true → PSs X x (tS X.K cA W (exSs pr call lamc s))
  | .nil, cA, sx, W, X, h, hl, he, x, hc => by
    rw [ckSs.eq_def] at hc; dsimp only at hc
    cases x with
    | nil => exact s_nil.cast fun env C => by rw [exSs]
    | cons => cases hc
  | .cons s r, cA, sx, W, X, h, hl, he, x, hc => by
    rw [ckSs.eq_def] at hc; dsimp only at hc
    split at hc
    · rw [Bool.and_eq_true] at hc
      exact (s_cons (okS s cA sx W X h hl he _ hc.1) (okSs r cA sx W X h hl he _ hc.2)).cast fun env C => by rw [exSs] <;> rfl
    · cases hc
end
end
end Ev

end

section
set_option maxRecDepth 512
set_option Elab.async false
set_option linter.all false
set_option maxRecDepth 100000
set_option maxHeartbeats 4000000
namespace Ev
open PySem L2 PySem.Spec PyProof.Rows
/-- plain parameters of these names -/
def plainArgs (p : Arguments) (ps : List Str) : Bool := p.posonlyargs.isEmpty && decide (p.args.map (·.arg) = ps) && p.vararg.isNone && p.kwonlyargs.isEmpty && p.kwarg.isNone
theorem lookup_zip : ∀ {ps : List Str} {us : List Value} {n : Str}, us.length = ps.length → n ∈ ps → ((ps.zip us).lookup n).isNone = false
  | [], _, _, _, h => by cases h
  | p :: ps, [], _, h, _ => by simp at h
  | p :: ps, u :: us, n, h, hm => by
    rw [List.zip_cons_cons, List.lookup_cons]
    cases e : n == p with
    | true => rfl
    | false =>
      rcases List.mem_cons.mp hm with z | z
      · subst z; simp at e
      · exact lookup_zip (by simpa using h) z
theorem fmc {α β : Type} {f g : α → Option β} : ∀ {l : List α}, (∀ n ∈ l, f n = g n) → l.filterMap f = l.filterMap g
  | [], _ => rfl
  | a :: l, h => by
    rw [List.filterMap_cons, List.filterMap_cons, h a List.mem_cons_self, fmc fun n hn => h n (List.mem_cons_of_mem _ hn)]
theorem fm_zip : ∀ {ps : List Str} {us : List Value}, us.length = ps.length → ps.Nodup → (ps.filterMap fun n => ((ps.zip us).lookup n).map fun x => (n, x)) = ps.zip us
  | [], us, _, _ => by simp
  | p :: ps, [], h, _ => by simp at h
  | p :: ps, u :: us, h, nd => by
    rw [List.nodup_cons] at nd
    rw [List.zip_cons_cons, List.filterMap_cons]
    simp only [List.lookup_cons, beq_self_eq_true, Option.map_some]
    congr 1
    have ih := fm_zip (us := us) (by simpa using h) nd.2
    conv => rhs; rw [← ih]
    refine fmc fun n hn => ?_
    have : (n == p) = false := by
      have : n ≠ p := fun z => nd.1 (z ▸ hn)
      simpa using this
    rw [this]
theorem bind_plain {x qual : Str} {params : Arguments} {body : List Stmt} {scope : Scope} {ps : List Str} (h : plainArgs params ps = true) (nd : ps.Nodup) (kV doc pm : Value) (an : Option Addr) (cdv ct : Value) (us : List Value) (hl : us.length = ps.length) :
    bindArgs (PySem.W.fnOf x qual params body scope .none kV doc pm an cdv ct) ⟨us, []⟩ = pure (ps.zip us) := by
  unfold plainArgs at h
  simp only [Bool.and_eq_true, List.isEmpty_iff, Option.isNone_iff_eq_none, decide_eq_true_eq] at h
  obtain ⟨⟨⟨⟨h1, h2⟩, h3⟩, h4⟩, h5⟩ := h
  obtain ⟨pa, ar, va, ko, kd, ka, de⟩ := params
  simp only at h1 h2 h3 h4 h5
  subst h1 h3 h4 h5
  have hm : ((ps.take ps.length).filter fun n => ((ps.zip us).lookup n).isNone) = [] := by
    rw [List.filter_eq_nil_iff]
    intro n hn
    rw [List.take_length] at hn
    rw [lookup_zip hl hn]; decide
  have hs : seqItems? Value.none = pure Option.none := rfl
  unfold bindArgs
  simp only [PySem.W.fnOf, List.map_nil, List.nil_append, h2, hs]
  simp only [pure_bind, Option.getD_none, List.length_nil, Nat.zero_sub, List.drop_nil, Nat.sub_zero, hl, Nat.lt_irrefl, gt_iff_lt, decide_false, Bool.false_and, List.zip_nil_right, List.drop_zero, hm]
  simp [fm_zip hl nd, hm]
  intro y hy hn
  have z := lookup_zip hl hy
  cases e : (ps.zip us).lookup y with
  | none => rw [e] at z; cases z
  | some v => exact (hn v (PySem.mem_of_lookup e)).elim

/-! ### __init__ of own exceptions -/
def initBody : List Stmt → List Nm → List Nm → Bool
  | [], [], [] => true
  | .Assign [.Attribute (.Name x _) f _] (.Name y _) _ :: r, fl :: fls, p :: ps => decide (x = ("self" : Str)) && decide (T fl = f) && decide (T p = y) && nmOk y && initBody r fls ps
  | _, _, _ => false
def selfNm : Nm := [115, 101, 108, 102]
def initB (st : Stmt) (fls ps : List Nm) : Bool := C8.scC ((selfNm :: ps).map T) ((selfNm :: ps).map T) (defScope st) && plainArgs (defArgs st) ((selfNm :: ps).map T) && initBody (defBody st) fls ps && decide (fls.length = ps.length) && !fls.isEmpty && decide (fls.length ≤ 900)
theorem self_T : T selfNm = ("self" : Str) := by decide
def tInit (K : PySem.W.Frag) : List (Nm × Nat) → TS
  | [] => tNext
  | (f, i) :: r => tSeq (tOst K (T f) (tVar 0) (tVar i)) (tInit K r)
def slotsFrom (n : Nat) : List Nm → List (Nm × Nat)
  | [] => []
  | f :: r => (f, n) :: slotsFrom (n + 1) r
section
variable {X : Cx}
theorem init_body : ∀ {body : List Stmt} {fls ps : List Nm} {n : Nat}, (∀ (i : Nat) (x : Nm), ps[i]? = some x → X.N[n + i]? = some (T x) ∧ Vis X.env.scope (T x)) → X.N[0]? = some ("self" : Str) → Vis X.env.scope ("self" : Str) → initBody body fls ps = true → PSs X body (tInit X.K (slotsFrom n fls))
  | [], fls, ps, n, hN, h0, hv, h => by
    cases fls with
    | nil => exact pss_nil
    | cons => cases ps <;> simp [initBody] at h
  | st :: body, fls, ps, n, hN, h0, hv, h => by
    rw [initBody.eq_def] at h
    split at h
    · rename_i heq; cases heq
    · rename_i x p0 f p1 y p2 p3 r fl fls pp ps heq
      cases heq
      simp only [Bool.and_eq_true, decide_eq_true_eq] at h
      obtain ⟨⟨⟨⟨rfl, rfl⟩, rfl⟩, h4⟩, h5⟩ := h
      unfold nmOk at h4
      simp only [Bool.and_eq_true, Bool.not_eq_true'] at h4
      obtain ⟨n1, n2⟩ := hN 0 _ rfl
      have pe1 : PE X (.Name "self" p0) (tVar 0) := pe_var h0 hv (by decide) (by decide)
      have pe2 : PE X (.Name (T pp) p2) (tVar n) := pe_var n1 n2 h4.1.1 h4.1.2
      refine pss_cons (ps_ost pe1 pe2) (init_body (fun i x hi => ?_) h0 hv h5)
      have := hN (i + 1) x (by simpa using hi)
      rw [show n + 1 + i = n + (i + 1) by omega]
      exact this
    · cases h
end
/-- the heap while it is made: its dict at dx holds fs -/
def Hm (H : Hp) (a C dx : Addr) (fs : List (Str × V)) : Hp := L2.upd (L2.upd H dx (L2.exd dx fs)) a (L2.exo a C (some dx))
theorem Hm_a {H : Hp} {a C dx : Addr} {fs : List (Str × V)} : Hm H a C dx fs a = some (L2.exo a C (some dx)) := upd_same
theorem Hm_d {H : Hp} {a C dx : Addr} {fs : List (Str × V)} (h : dx ≠ a) : Hm H a C dx fs dx = some (L2.exd dx fs) := by unfold Hm; rw [upd_ne h, upd_same]
theorem Hm_up {H : Hp} {a C dx : Addr} {fs gs : List (Str × V)} (h : dx ≠ a) : L2.upd (Hm H a C dx fs) dx (L2.exd dx gs) = Hm H a C dx gs := by
  unfold Hm
  rw [upd_comm (Ne.symm h), L2.upd_upd]
theorem init_more {K : PySem.W.Frag} {C : Addr} (TO : L2.OexC K C) {D : Ends} {H : Hp} {a dx : Addr} (hne : dx ≠ a) {σ : L2.St} (h0 : σ[0]? = some (some (.ref a))) :
    ∀ {fls : List Nm} {xs : List V} {n : Nat} {fs : List (Str × V)}, fls.length = xs.length → fs.length + fls.length ≤ 901 → (∀ f ∈ fls, PySem.W.findIn K (.ref C) (T f) = some none) → (∀ (i : Nat) (x : V), xs[i]? = some x → σ[n + i]? = some (some x)) →
      D.nx σ (Hm H a C dx (((fls.map T).zip xs).reverse ++ fs)) → tInit K (slotsFrom n fls) D σ (Hm H a C dx fs)
  | [], xs, n, fs, hl, hz, hno, hx, q => by
    cases xs with
    | nil => exact q
    | cons => simp at hl
  | f :: fls, [], n, fs, hl, hz, hno, hx, q => by simp at hl
  | f :: fls, x :: xs, n, fs, hl, hz, hno, hx, q => by
    refine ⟨x, by simpa using hx 0 x rfl, .ref a, h0, a, C, rfl, TO, hno f List.mem_cons_self, .inr ⟨dx, fs, Hm_a, Hm_d hne, by simp at hz; omega, ?_⟩⟩
    rw [Hm_up hne]
    refine init_more TO hne h0 (by simpa using hl) (by simp at hz ⊢; omega) (fun g hg => hno g (List.mem_cons_of_mem _ hg)) (fun i y hy => ?_) (by simpa using q)
    have := hx (i + 1) y (by simpa using hy)
    rw [show n + 1 + i = n + (i + 1) by omega]
    exact this
theorem ok_init {P : Program} {w : World} {K : PySem.W.Frag} {mg : Str → Option Value} {base : Heap} {fI C : Addr} {fd : FuncData} {qual : Str} {st : Stmt} {fls ps : List Nm} (F : FunD K "__init__" qual (defArgs st) (defBody st) (defScope st) [] [] fI fd) (hb : initB st fls ps = true) (TO : L2.OexC K C) (hno : ∀ f ∈ fls, PySem.W.findIn K (.ref C) (T f) = some none) (k : Nat) :
    Binds K fd ((selfNm :: ps).map T) [] ∧ FnOk P w K mg base (L2.CX P w) (k + 1) fI fd ((selfNm :: ps).map T) (spI C fls) := by
  unfold initB at hb
  simp only [Bool.and_eq_true, decide_eq_true_eq, Bool.not_eq_true'] at hb
  obtain ⟨⟨⟨⟨⟨h1, h2⟩, h3⟩, h4⟩, h5⟩, h6⟩ := hb
  have S := C8.fnScope_by h1
  refine ⟨F.bindsN fun kV doc pm an cdv ct us hl => bind_plain h2 S.nd kV doc pm an cdv ct us hl, F.ok S (fun vs H Q E ⟨a, xs, e1, e2, _⟩ => ?_) fun cdv A outer s H vs Q E hr ⟨a, xs, e1, e2, e3, e4, q⟩ => ⟨_, init_body (n := 1) (fun i x hi => ⟨?_, ?_⟩) ?_ ?_ h3, ?_⟩⟩
  · subst e1
    simp [e2, h4]
  · show ((selfNm :: ps).map T)[1 + i]? = _
    rw [Nat.add_comm, List.map_cons, List.getElem?_cons_succ, List.getElem?_map, hi]; rfl
  · have hm : T x ∈ (selfNm :: ps).map T := List.mem_map.mpr ⟨x, List.mem_cons_of_mem _ (List.mem_of_getElem? hi), rfl⟩
    exact (S.par _ hm).elim .inl fun z => .inr (.inl z)
  · show ((selfNm :: ps).map T)[0]? = _
    rw [List.map_cons, List.getElem?_cons_zero, self_T]
  · have hm : T selfNm ∈ (selfNm :: ps).map T := by simp
    rw [← self_T]
    exact (S.par _ hm).elim .inl fun z => .inr (.inl z)
  · subst e1
    cases fls with
    | nil => exact absurd rfl e3
    | cons f fls =>
      cases xs with
      | nil => simp at e2
      | cons x xs =>
        have hs : ∀ (i : Nat) (v : V), (V.ref a :: x :: xs)[i]? = some v → (L2.start ((selfNm :: ps).map T) (V.ref a :: x :: xs))[i]? = some (some v) := fun i v hi => by
          unfold L2.start
          rw [List.getElem?_append_left (by
            have := (List.getElem?_eq_some_iff.mp hi).1
            simpa using this), List.getElem?_map, hi]; rfl
        refine ⟨x, hs 1 x rfl, .ref a, hs 0 _ rfl, a, C, rfl, TO, hno f List.mem_cons_self, .inl ⟨e4, fun dx hdx hne => ?_⟩⟩
        have := init_more (H := H) (D := { nx := fun _ H' => Q .non H', rt := Q }) TO hne (hs 0 _ rfl) (fls := fls) (xs := xs) (n := 2) (fs := [(T f, x)]) (by simpa using e2.symm) (by simp at h6 ⊢; omega) (fun g hg => hno g (List.mem_cons_of_mem _ hg)) (fun i v hi => hs (2 + i) v (by rw [Nat.add_comm]; simpa using hi)) (by
          have z := q dx hdx hne
          simpa [Hm] using z)
        exact this
end Ev

end

section
set_option maxRecDepth 512
set_option Elab.async false
set_option linter.all false
set_option maxRecDepth 100000
set_option maxHeartbeats 4000000
namespace Ev
open PySem L2 PySem.Spec PyProof.Rows

/-! ### the text -/
structure DefR where
  name : Nm
  st : Stmt
  N : List Nm
  lam : Bool
structure ClsR where
  name : Nm
  init : Option (Stmt × List Nm)
structure Text where
  pr : Prog
  tb : Tab
  defs : List DefR
  cls : List ClsR
/-- the j-th statement of a class -/
def clsSt (s : Stmt) (j : Nat) : Stmt := match s with
  | .ClassDef (body := b) .. => b.getD j (.Pass ⟨0, 0, 0, 0⟩)
  | _ => .Pass ⟨0, 0, 0, 0⟩
def locB (sc : Scope) (x : Str) : Bool := match sc.names.lookup x with
  | some .local => true
  | some .cell => true
  | _ => false
def sxOf (d : DefR) : Sx := { N := d.N, sc := defScope d.st, hot := false, top := true, lam := d.lam, exc := false, st := d.N.filter fun x => locB (defScope d.st) (T x) }
def okDef (pr : Prog) (tb : Tab) (d : DefR) (fn : Fn) : Bool :=
  decide (fn.ns = d.N.length) && decide (fn.ps ≤ fn.ns) && C8.scC (d.N.map T) ((d.N.take fn.ps).map T) (defScope d.st) && plainArgs (defArgs d.st) ((d.N.take fn.ps).map T) && ckSs pr tb (sxOf d) fn.body (defBody d.st)
def lamQ (d : DefR) : Str := (envOfC (T d.name) (defScope d.st) 0 0 .none).qual ++ "<lambda>"
def bltNames : List Str := ["len", "int", "list", "tuple", "any", "all", "max", "min", "sum", "isinstance", "range", "enumerate", "zip", "str", "bool", "dict"]
def Text.fa (t : Text) : List He.Fa := bltNames.map .free ++ t.defs.map (fun d => .glo (T d.name)) ++ t.cls.map (fun c => .glo (T c.name)) ++ t.defs.map (fun d => .keep (T d.name))
def defD (d : DefR) : He.DefD := ⟨(T d.name, none), T d.name, T d.name, defArgs d.st, defBody d.st, defScope d.st, [], []⟩
def initD (c : ClsR) : Option He.DefD := c.init.map fun p => ⟨(T c.name, some "__init__"), "__init__", T c.name ++ ".__init__", defArgs p.1, defBody p.1, defScope p.1, [], []⟩
def Text.fn (t : Text) : List He.DefD := t.defs.map defD ++ t.cls.filterMap initD
def Text.tf (t : Text) : List He.Defn := (t.defs.filter (·.lam)).map fun d => (T d.name, none)
/-! what a global holds -/
mutual
def relDB (K : PySem.W.Frag) : D → Value → Bool
  | .non, .none => true
  | .bl b, .bool c => b == c
  | .int i, .int j _ => decide (i = j)
  | .str s, .str x _ => decide (T s = x)
  | .tup xs, .ref a => (match K.lookup a with
    | some ⟨.type n, _, .seq its _, _⟩ => decide (n = "tuple") && decide (its.size ≤ sizeLine) && relDsB K xs its.toList
    | _ => false)
  | .lst xs, .ref a => (match K.lookup a with
    | some ⟨.type n, none, .seq its _, _⟩ => decide (n = "list") && decide (its.size ≤ sizeLine) && relDsB K xs its.toList
    | _ => false)
  | _, _ => false
def relDsB (K : PySem.W.Frag) : List D → List Value → Bool
  | [], [] => true
  | x :: xs, u :: us => relDB K x u && relDsB K xs us
  | _, _ => false
end
section
variable {K : PySem.W.Frag} {cA : Cfg0}
mutual
theorem relDB_ok : ∀ {d : D} {u : Value}, relDB K d u = true → ∃ v, L2.RelV v u ∧ RelD K cA (fun _ => none) d v
  | .non, u, h => by
    cases u <;> first | (simp [relDB] at h; done) | skip
    exact ⟨.non, rfl, by simp only [RelD]⟩
  | .bl b, u, h => by
    cases u <;> first | (simp [relDB] at h; done) | skip
    simp [relDB] at h
    subst h
    exact ⟨.bl b, rfl, by simp only [RelD]⟩
  | .int i, u, h => by
    cases u <;> first | (simp [relDB] at h; done) | skip
    simp [relDB] at h
    subst h
    exact ⟨.int i, ⟨_, rfl⟩, by simp only [RelD]⟩
  | .str s, u, h => by
    cases u <;> first | (simp [relDB] at h; done) | skip
    rw [relDB, decide_eq_true_eq] at h
    subst h
    exact ⟨.str (T s), ⟨_, rfl⟩, by simp only [RelD]⟩
  | .tup xs, u, h => by
    cases u <;> first | (simp [relDB] at h; done) | skip
    case ref a =>
      rw [relDB] at h
      split at h
      · rename_i n od its m sl hk
        simp only [Bool.and_eq_true, decide_eq_true_eq] at h
        obtain ⟨⟨rfl, h2⟩, h3⟩ := h
        obtain ⟨vs, r1, r2⟩ := relDsB_ok h3
        refine ⟨.ref a, rfl, ?_⟩
        simp only [RelD]
        exact ⟨a, vs, rfl, .inr ⟨_, its, m, hk, rfl, rfl, h2, r1⟩, r2⟩
      · cases h
  | .lst xs, u, h => by
    cases u <;> first | (simp [relDB] at h; done) | skip
    case ref a =>
      rw [relDB] at h
      split at h
      · rename_i n its m sl hk
        simp only [Bool.and_eq_true, decide_eq_true_eq] at h
        obtain ⟨⟨rfl, h2⟩, h3⟩ := h
        obtain ⟨vs, r1, r2⟩ := relDsB_ok h3
        refine ⟨.ref a, rfl, ?_⟩
        simp only [RelD]
        exact ⟨a, vs, rfl, .inr ⟨_, its, m, hk, rfl, rfl, rfl, h2, r1⟩, r2⟩
      · cases h
  | .dct _, u, h => by cases u <;> simp [relDB] at h
  | .ins _ _, u, h => by cases u <;> simp [relDB] at h
theorem relDsB_ok : ∀ {ds : List D} {us : List Value}, relDsB K ds us = true → ∃ vs, L2.Vals vs us ∧ RelDs K cA (fun _ => none) ds vs
  | [], us, h => by
    cases us <;> first | (simp [relDsB] at h; done) | exact ⟨[], .nil, by simp only [RelDs]⟩
  | d :: ds, us, h => by
    cases us with
    | nil => simp [relDsB] at h
    | cons u us =>
      rw [relDsB, Bool.and_eq_true] at h
      obtain ⟨v, r1, r2⟩ := relDB_ok h.1
      obtain ⟨vs, r3, r4⟩ := relDsB_ok h.2
      exact ⟨v :: vs, .cons r1 r3, by simp only [RelDs]; exact ⟨v, vs, rfl, r2, r4⟩⟩
end
end
/-- an own exception's class -/
def oexB (K : PySem.W.Frag) (C : Addr) : Bool := (match K.lookup C with
  | some ⟨.type n, _, .cls cd, sl⟩ => (match cd.mro, sl.toList with
    | .ref C' :: bm, [_, _, _, _, some (.builtin m), _] => decide (n = "type") && decide (C' = C) && decide (m = "ValueError.__new__") && !cd.hasDel && cd.hasDict && PySem.HandSPX.refsVE bm
    | _, _ => false)
  | _ => false) && decide (PySem.W.findIn K (.ref C) "__setattr__" = some (some (.builtin "object.__setattr__"))) && decide (PySem.W.subIn K (.ref C) (.type "BaseException") = some true) && decide (PySem.W.typeIn K (.ref C) = some (.type "type")) && PySem.W.keepIn K (.ref C)
theorem oexB_ok {K : PySem.W.Frag} {C : Addr} (h : oexB K C = true) : L2.OexC K C := by
  unfold oexB at h
  simp only [Bool.and_eq_true, decide_eq_true_eq] at h
  obtain ⟨⟨⟨⟨h1, h2⟩, h3⟩, h4⟩, h5⟩ := h
  refine ⟨?_, h2, h3, h4, h5⟩
  split at h1
  · rename_i n dd cd sl ho
    split at h1
    · rename_i C' bm k0 k1 k2 k3 m k5 hm hs
      simp only [Bool.and_eq_true, decide_eq_true_eq, Bool.not_eq_true'] at h1
      obtain ⟨⟨⟨⟨⟨rfl, rfl⟩, rfl⟩, hdel⟩, hhd⟩, ht⟩ := h1
      obtain ⟨nm, bs, mro, ns, qn, hd, sn, sub, ab, col, del⟩ := cd
      dsimp only at hm hdel hhd
      subst hm hdel hhd
      have hsl : sl = #[k0, k1, k2, k3, some (.builtin "ValueError.__new__"), k5] := by
        obtain ⟨l⟩ := sl
        simp only at hs
        rw [hs]
      subst hsl
      exact ⟨nm, qn, ns, bs, bm, sn, sub, ab, col, dd, k0, k1, k2, k3, k5, ho, ht⟩
    · cases h1
  · cases h1
def Text.exB (t : Text) (K : PySem.W.Frag) : Bool :=
  ((List.range t.cls.length).all fun c => match t.cls[c]?, t.pr.cls[c]? with
    | some r, some cl => let C := He.ga K (T r.name)
      (cl.flds.isEmpty || (oexB K C && L2.xfB K C && cl.flds.all (fun f => decide (PySem.W.findIn K (.ref C) (T f) = some none)) && decide (PySem.W.findIn K (.ref C) "__init__" = some (some (.ref (He.ma K C "__init__")))) && decide (PySem.W.typeIn K (.ref (He.ma K C "__init__")) = some (.type "function")))) &&
      (!cl.exn || (List.range t.cls.length).all fun b => match t.cls[b]? with
        | some q => decide (PySem.W.exmOne K (.ref (He.ga K (T q.name))) (.ref C) = some (under t.pr b c))
        | none => false)
    | _, _ => false) &&
  ((List.range t.tb.gl.length).all fun g => match t.tb.gl[g]?, t.pr.globs[g]? with
    | some nm, some d => (match PySem.W.nsIn K mainGlobals (T nm) with
      | some (some u) => relDB K d u
      | _ => false)
    | _, _ => false) &&
  (t.defs.all fun d => !d.lam || t.defs.all fun e => !e.lam || (!decide ((He.cT K (T d.name, none)).2 = (He.cT K (T e.name, none)).2) || decide (lamQ d = lamQ e)))
def Text.ok (t : Text) : Bool :=
  decide (t.tb.fn = t.defs.map (·.name)) && decide (t.tb.cl = t.cls.map (·.name)) && decide (t.pr.fns.length = t.defs.length) && decide (t.pr.cls.length = t.cls.length) && decide (t.pr.globs.length = t.tb.gl.length) &&
  ((List.range t.defs.length).all fun f => match t.defs[f]?, t.pr.fns[f]? with
    | some d, some fn => okDef t.pr t.tb d fn
    | _, _ => false) &&
  ((List.range t.cls.length).all fun c => match t.cls[c]?, t.pr.cls[c]? with
    | some r, some cl => cl.flds.isEmpty || (decide cl.flds.Nodup && (match r.init with
      | some (st, ps) => initB st cl.flds ps
      | none => false))
    | _, _ => false)
def cfg0 (t : Text) (K : PySem.W.Frag) : Cfg0 := { cls := fun c => (t.tb.cl[c]?).map fun nm => He.ga K (T nm), tb := (t.defs.filter (·.lam)).map fun d => ((He.cT K (T d.name, none)).2, lamQ d) }
end Ev

end

section
set_option maxRecDepth 512
set_option Elab.async false
set_option linter.all false
set_option maxRecDepth 100000
set_option maxHeartbeats 4000000
namespace Ev
open PySem L2 PySem.Spec PyProof.Rows

/-- what the head leaves -/
structure Left (t : Text) (K : PySem.W.Frag) (mg : Str → Option Value) (base : Heap) : Prop where
  X : K.In base
  G : base.Ns mainGlobals mg
  S : He.SaysD t.fa t.fn K
  ex : t.exB K = true
  ok : t.ok = true
  tb : ∀ p ∈ t.tf, LamX.TabB base mg (He.cT K p).1 (He.cT K p).2
section
variable {t : Text} {P : Program} {w : World} {K : PySem.W.Frag} {mg : Str → Option Value} {base : Heap}
theorem Left.free (L : Left t K mg base) {x : Str} (h : x ∈ bltNames) : mg x = none := by
  refine He.free_ok L.X L.G (L.S.facts (f := .free x) ?_)
  unfold Text.fa
  simp only [List.append_assoc]
  exact List.mem_append_left _ (List.mem_map.mpr ⟨x, h, rfl⟩)
theorem Left.glo (L : Left t K mg base) {d : DefR} (h : d ∈ t.defs) : mg (T d.name) = some (.ref (He.ga K (T d.name))) := by
  refine He.glo_ok L.X L.G (L.S.facts (f := .glo (T d.name)) ?_)
  unfold Text.fa
  simp only [List.append_assoc]
  exact List.mem_append_right _ (List.mem_append_left _ (List.mem_map.mpr ⟨d, h, rfl⟩))
theorem Left.gloC (L : Left t K mg base) {c : ClsR} (h : c ∈ t.cls) : mg (T c.name) = some (.ref (He.ga K (T c.name))) := by
  refine He.glo_ok L.X L.G (L.S.facts (f := .glo (T c.name)) ?_)
  unfold Text.fa
  simp only [List.append_assoc]
  exact List.mem_append_right _ (List.mem_append_right _ (List.mem_append_left _ (List.mem_map.mpr ⟨c, h, rfl⟩)))
theorem Left.def' (L : Left t K mg base) {d : DefR} (h : d ∈ t.defs) : ∃ fd, FunD K (T d.name) (T d.name) (defArgs d.st) (defBody d.st) (defScope d.st) [] [] (He.ga K (T d.name)) fd := by
  have := L.S.defs (d := defD d) (by unfold Text.fn; exact List.mem_append_left _ (List.mem_map.mpr ⟨d, h, rfl⟩))
  exact this
theorem Left.okD (L : Left t K mg base) {f : Nat} {d : DefR} (h : t.defs[f]? = some d) : ∃ fn, t.pr.fns[f]? = some fn ∧ okDef t.pr t.tb d fn = true := by
  have := L.ok
  unfold Text.ok at this
  simp only [Bool.and_eq_true] at this
  have h1 := List.all_eq_true.mp this.1.2 f (List.mem_range.mpr (List.getElem?_eq_some_iff.mp h).1)
  rw [h] at h1
  split at h1
  · rename_i d' fn e1 e2
    cases e1
    exact ⟨fn, e2, h1⟩
  · cases h1
theorem Left.fnN (L : Left t K mg base) : t.tb.fn = t.defs.map (·.name) := by
  have := L.ok
  unfold Text.ok at this
  simp only [Bool.and_eq_true, decide_eq_true_eq] at this
  exact this.1.1.1.1.1.1
theorem Left.clN (L : Left t K mg base) : t.tb.cl = t.cls.map (·.name) := by
  have := L.ok
  unfold Text.ok at this
  simp only [Bool.and_eq_true, decide_eq_true_eq] at this
  exact this.1.1.1.1.1.2
theorem cls_at (L : Left t K mg base) {c : Nat} {C : Addr} (h : (cfg0 t K).cls c = some C) : ∃ r, t.cls[c]? = some r ∧ C = He.ga K (T r.name) := by
  unfold cfg0 at h
  simp only [Option.map_eq_some_iff] at h
  obtain ⟨nm, h1, rfl⟩ := h
  rw [L.clN, List.getElem?_map, Option.map_eq_some_iff] at h1
  obtain ⟨r, h2, rfl⟩ := h1
  exact ⟨r, h2, rfl⟩
theorem Left.exC (L : Left t K mg base) {c : Nat} {r : ClsR} {cl : Cl} (h : t.cls[c]? = some r) (h' : t.pr.cls[c]? = some cl) :
    (cl.flds.isEmpty || (oexB K (He.ga K (T r.name)) && L2.xfB K (He.ga K (T r.name)) && cl.flds.all (fun f => decide (PySem.W.findIn K (.ref (He.ga K (T r.name))) (T f) = some none)) && decide (PySem.W.findIn K (.ref (He.ga K (T r.name))) "__init__" = some (some (.ref (He.ma K (He.ga K (T r.name)) "__init__")))) && decide (PySem.W.typeIn K (.ref (He.ma K (He.ga K (T r.name)) "__init__")) = some (.type "function")))) = true ∧
      (!cl.exn || (List.range t.cls.length).all fun b => match t.cls[b]? with
        | some q => decide (PySem.W.exmOne K (.ref (He.ga K (T q.name))) (.ref (He.ga K (T r.name))) = some (under t.pr b c))
        | none => false) = true := by
  have := L.ex
  unfold Text.exB at this
  simp only [Bool.and_eq_true] at this
  have h1 := List.all_eq_true.mp this.1.1 c (List.mem_range.mpr (List.getElem?_eq_some_iff.mp h).1)
  rw [h, h'] at h1
  simp only [Bool.and_eq_true] at h1
  refine ⟨?_, h1.2⟩
  simpa only [Bool.and_eq_true] using h1.1
theorem facts_of (L : Left t K mg base) {k : Nat} {call : Nat → List E → Cells → Ev.R E} (hk : 1 ≤ k)
    (hf : ∀ (f : Nat) (d : DefR), t.defs[f]? = some d → ∃ fd ps, Binds K fd ps [] ∧ FnOk P w K mg base (L2.CX P w) k (He.ga K (T d.name)) fd ps (spF K (cfg0 t K) call f)) : Facts P w K mg base (cfg0 t K) t.pr t.tb k call where
  fn := fun f nm h _ => by
    rw [L.fnN, List.getElem?_map, Option.map_eq_some_iff] at h
    obtain ⟨d, h1, rfl⟩ := h
    have hm := List.mem_of_getElem? h1
    obtain ⟨fd, ps, b, F⟩ := hf f d h1
    obtain ⟨fd', D⟩ := L.def' hm
    exact ⟨_, fd, ps, L.glo hm, D.kp, b, F⟩
  bi := fun b => L.free (by cases b <;> simp [bltNames, biN])
  cn := fun c nm h _ => by
    have h' := h
    rw [L.clN, List.getElem?_map, Option.map_eq_some_iff] at h
    obtain ⟨r, h1, rfl⟩ := h
    exact ⟨He.ga K (T r.name), by unfold cfg0; simp [h'], L.gloC (List.mem_of_getElem? h1)⟩
  xr := fun c cl C h1 h2 h3 => by
    obtain ⟨r, h4, rfl⟩ := cls_at L h3
    have hz := (L.exC h4 h1).1
    have hne : cl.flds.isEmpty = false := by simpa using h2
    rw [hne, Bool.false_or] at hz
    simp only [Bool.and_eq_true, decide_eq_true_eq, List.all_eq_true] at hz
    obtain ⟨⟨⟨⟨z1, z2⟩, z3⟩, z4⟩, z5⟩ := hz
    have ho := L.ok
    unfold Text.ok at ho
    simp only [Bool.and_eq_true] at ho
    have h5 := List.all_eq_true.mp ho.2 c (List.mem_range.mpr (List.getElem?_eq_some_iff.mp h4).1)
    rw [h4, h1] at h5
    simp only [hne, Bool.false_or, Bool.and_eq_true, decide_eq_true_eq] at h5
    obtain ⟨h6, h7⟩ := h5
    split at h7
    · rename_i st ps hin
      have hD := L.S.defs (d := ⟨(T r.name, some "__init__"), "__init__", T r.name ++ ".__init__", defArgs st, defBody st, defScope st, [], []⟩) (by
        unfold Text.fn
        refine List.mem_append_right _ (List.mem_filterMap.mpr ⟨r, List.mem_of_getElem? h4, ?_⟩)
        unfold initD
        rw [hin]; rfl)
      obtain ⟨fd, D⟩ := hD
      obtain ⟨b, F⟩ := ok_init (P := P) (w := w) (mg := mg) (base := base) D h7 (oexB_ok z1) z3 0
      exact ⟨oexB_ok z1, L2.xfB_ok z2, h6, z3, _, fd, _, z4, z5, b, F.mono hk⟩
    · cases h7
  xm := fun c d cl C D h1 h2 h3 h4 => by
    obtain ⟨r, h5, rfl⟩ := cls_at L h3
    obtain ⟨q, h6, rfl⟩ := cls_at L h4
    have hz := (L.exC h6 h1).2
    rw [h2] at hz
    have := List.all_eq_true.mp (by simpa using hz) c (List.mem_range.mpr (List.getElem?_eq_some_iff.mp h5).1)
    rw [h5] at this
    simpa using this
  isi := L.free (by decide)
  ty := fun x hx => L.free (by
    simp only [List.mem_cons, List.mem_nil_iff, or_false] at hx
    rcases hx with rfl | rfl | rfl | rfl | rfl | rfl <;> decide)
  range := L.free (by decide)
  enum := L.free (by decide)
  zip := L.free (by decide)
  gl := fun g nm d h1 h2 => by
    have := L.ex
    unfold Text.exB at this
    simp only [Bool.and_eq_true] at this
    have h3 := List.all_eq_true.mp this.1.2 g (List.mem_range.mpr (List.getElem?_eq_some_iff.mp h1).1)
    rw [h1, h2] at h3
    simp only at h3
    split at h3
    · rename_i u hu
      obtain ⟨v, r1, r2⟩ := relDB_ok (cA := cfg0 t K) h3
      exact ⟨u, v, PySem.W.mg_of L.X L.G hu, r1, r2⟩
    · cases h3
end
end Ev

end

section
set_option maxRecDepth 512
set_option Elab.async false
set_option linter.all false
set_option maxRecDepth 100000
set_option maxHeartbeats 4000000
namespace Ev
open PySem L2 PySem.Spec PyProof.Rows
/-! ### what a call leaves -/
section
variable {K : PySem.W.Frag} {cA : Cfg0} {G G' : Hp} {am am' : List Addr} {C C' : Cells} {H H' : Hp}
theorem low_at : ∀ {n : Nat} {C : Cells} {i : Nat} {c : Nat} {fs : List (Nm × E)}, lowC n C = true → C[i]? = some (some (.ins c fs)) → fldsLow n fs = true
  | n, [], i, c, fs, _, h => by simp at h
  | n, o :: C, 0, c, fs, h, e => by
    simp at e; subst e
    rw [lowC, Bool.and_eq_true] at h
    exact h.1
  | n, o :: C, i + 1, c, fs, h, e => by
    have h2 : lowC n C = true := by
      unfold lowC at h
      split at h
      · cases ‹_ :: _ = []›
      · rename_i heq; cases heq; rw [Bool.and_eq_true] at h; exact h.2
      · rename_i heq; cases heq; exact h
    exact low_at h2 (by simpa using e)
theorem RelFE.cut {n : Nat} : ∀ {fs : List (Nm × E)} {gs : List (Str × V)}, fldsLow n fs = true → RelFE K cA G am fs gs → RelFE K cA G (am.take n) fs gs
  | [], _, _, h => h
  | (f, e) :: r, _, hl, h => by
    obtain ⟨v, rest, rfl, h1, h2⟩ := h
    cases e with
    | v d =>
      rw [fldsLow] at hl
      exact ⟨v, rest, rfl, h1, RelFE.cut hl h2⟩
    | r k =>
      rw [fldsLow, Bool.and_eq_true, decide_eq_true_eq] at hl
      obtain ⟨a, h3, h4⟩ := h1
      exact ⟨v, rest, rfl, ⟨a, by rw [List.getElem?_take]; simp [hl.1, h3], h4⟩, RelFE.cut hl.2 h2⟩
    | clo j => exact h1.elim
    | exn c fs => exact h1.elim
theorem take_some {α : Type} {l : List α} {n i : Nat} {a : α} (h : (l.take n)[i]? = some a) : i < n ∧ l[i]? = some a := by
  rw [List.getElem?_take] at h
  split at h
  · exact ⟨by assumption, h⟩
  · cases h
theorem Wd.cut (wd : Wd K cA G am C H) {n : Nat} (hl : lowC n (C.take n) = true) : Wd K cA G (am.take n) (C.take n) H := by
  refine ⟨wd.tabs, wd.sub, by simp [wd.len], fun i c h => ?_, fun i j c d a h1 h2 q1 q2 => wd.inj i j c d a (take_some h1).2 (take_some h2).2 (take_some q1).2 (take_some q2).2⟩
  obtain ⟨hi, h'⟩ := take_some h
  obtain ⟨a, h1, h2, h3⟩ := wd.cell i c h'
  refine ⟨a, by rw [List.getElem?_take]; simp [hi, h1], ?_, h3⟩
  cases c with
  | lst xs => exact h2
  | lkd xs => exact h2
  | dct kvs => exact h2
  | ins c fs =>
    obtain ⟨Ca, dx, gs, z1, z2, z3, r⟩ := h2
    exact ⟨Ca, dx, gs, z1, z2, z3, RelFE.cut (low_at hl h) r⟩
theorem Ext.cut (x : Ext G am C H G' am' C' H') (hl : am.length = C.length) : Ext G am C H G' (am'.take C.length) (C'.take C.length) H' where
  g := x.g
  a := by
    obtain ⟨t, rfl⟩ := x.a
    exact ⟨[], by rw [← hl]; simp⟩
  keep := x.keep
  tab := x.tab
  live := fun a ⟨i, c, h, q⟩ => x.live a ⟨i, c, (take_some h).2, (take_some q).2⟩
  gn := x.gn
  lk := fun n xs h => by
    have hn := (List.getElem?_eq_some_iff.mp h).1
    rw [List.getElem?_take]
    simp [hn, x.lk n xs h]
theorem RelEs.sts : ∀ {es : List E} {vs : List V} {i : Nat} {e : E}, RelEs K cA G am es vs → es[i]? = some e → ∃ v, vs[i]? = some v ∧ RelE K cA G am e v
  | [], _, _, _, _, h => by simp at h
  | x :: xs, _, i, e, h, q => by
    obtain ⟨u, r, rfl, h1, h2⟩ := h
    cases i with
    | zero => simp at q; subst q; exact ⟨u, rfl, h1⟩
    | succ i => simpa using RelEs.sts (i := i) h2 (by simpa using q)
theorem start_rel {cA' : Cfg} {es : List E} {vs : List V} {N : List Str} {ns : Nat} (h0 : cA'.toCfg0 = cA) (r : RelEs K cA G am es vs) (hn : ns = N.length) (hl : es.length ≤ ns) : RelEnv K cA' G am (startE ns es) (L2.start N vs) := by
  have hlen := r.length
  subst h0
  refine ⟨?_, fun i e h => ?_⟩
  · unfold startE L2.start
    simp only [List.length_append, List.length_map, List.length_replicate]
    omega
  · unfold startE at h
    by_cases hi : i < es.length
    · rw [List.getElem?_append_left (by simpa using hi), List.getElem?_map, Option.map_eq_some_iff] at h
      obtain ⟨e', h1, h2⟩ := h
      cases h2
      obtain ⟨v, h3, h4⟩ := r.sts h1
      refine ⟨v, ?_, .inl h4⟩
      unfold L2.start
      rw [List.getElem?_append_left (by rw [List.length_map, ← hlen]; exact hi), List.getElem?_map, h3]; rfl
    · rw [List.getElem?_append_right (by simpa using hi)] at h
      simp only [List.length_map] at h
      rw [List.getElem?_replicate] at h
      split at h <;> cases h
/-- the end of a body -/
theorem body_dn {cA' : Cfg} (h0 : cA'.toCfg0 = cA) {pr : Prog} {call : Nat → List E → Cells → Ev.R E} {fn : Fn} {es : List E} {E : XK} {Q : VK} {r : RS} (wd : Wd K cA G am C H)
    (d : Dn K cA (rE K cA) (fun cls dd _ H => E cls dd H) [] (match r with
      | .next _ C' => leave C.length (.v .non) C'
      | .ret e C' => leave C.length e C'
      | .exc c fs _ C' => if lowC C.length (C'.take C.length) then .exc c fs (C'.take C.length) else .exc c fs C'
      | _ => .bad) G am C H Q) : DnS K cA' (fun cls dd _ H => E cls dd H) r G am C H { nx := fun _ H' => Q .non H', rt := Q } := by
  subst h0
  have lv : ∀ {e : Ev.E} {C' : Cells} {G' : Hp} {am' : List Addr} {H' : Hp} {v : V}, Dn K cA'.toCfg0 (rE K cA'.toCfg0) (fun cls dd _ H => E cls dd H) [] (leave C.length e C') G am C H Q → Ext G am C H G' am' C' H' → Wd K cA'.toCfg0 G' am' C' H' → RelE K cA'.toCfg0 G' am' e v → Q v H' := fun {e C' G' am' H' v} d x w r => by
    unfold leave at d
    cases e with
    | v dd =>
      simp only at d
      split at d
      · rename_i hl
        exact d G' _ H' v (x.cut wd.len) (w.cut hl) r
      · exact d G' am' H' v x w r
    | r k => exact d G' am' H' v x w r
    | clo j => exact d.elim
    | exn c fs => exact d.elim
  cases r with
  | next env' C' => exact fun G' am' H' σ' x w _ => lv d x w (by simp only [RelE, RelD])
  | ret e C' => exact fun G' am' H' v x w r => lv d x w r
  | exc c fs env' C' =>
    intro G' am' H' σ' cls dd x w _ rx
    simp only at d
    split at d
    · rename_i hl
      exact d G' _ H' cls dd (x.cut wd.len) (w.cut hl) rx
    · exact d G' am' H' cls dd x w rx
  | brk env' C' => exact d.elim
  | ct env' C' => exact d.elim
  | bad => exact d.elim
end
section
variable {t : Text} {P : Program} {w : World} {K : PySem.W.Frag} {mg : Str → Option Value} {base : Heap}
/-- the frame of a def -/
def cfgOf (t : Text) (K : PySem.W.Frag) (d : DefR) (cells : List (Str × Addr)) : Cfg := { cfg0 t K with cells := cells, q := lamQ d, lam := fun j p b s => lamB t.pr t.tb (sxOf d) j p b s = true, exc := none }
def lamcOf (pr : Prog) (call : Nat → List E → Cells → Ev.R E) : Nat → Env → Cells → Ev.R E := fun j env C => match pr.lams[j]? with
  | none => .bad
  | some e => evE pr call (fun _ _ _ => .bad) e env C
theorem def_ok (L : Left t K mg base) {f k : Nat} {d : DefR} {call : Nat → List E → Cells → Ev.R E} (hd : t.defs[f]? = some d) (F : Facts P w K mg base (cfg0 t K) t.pr t.tb k call) :
    ∃ fd fn, t.pr.fns[f]? = some fn ∧ FunD K (T d.name) (T d.name) (defArgs d.st) (defBody d.st) (defScope d.st) [] [] (He.ga K (T d.name)) fd ∧ plainArgs (defArgs d.st) ((d.N.take fn.ps).map T) = true ∧ ((d.N.take fn.ps).map T).Nodup ∧ FnOk P w K mg base (L2.CX P w) (k + 2) (He.ga K (T d.name)) fd ((d.N.take fn.ps).map T) (spF K (cfg0 t K) (fun f es C => match t.pr.fns[f]? with
      | none => .bad
      | some fn => body t.pr call fn es C) f) := by
  obtain ⟨fn, hfn, hok⟩ := L.okD hd
  have hm := List.mem_of_getElem? hd
  obtain ⟨fd, D⟩ := L.def' hm
  unfold okDef at hok
  simp only [Bool.and_eq_true, decide_eq_true_eq] at hok
  obtain ⟨⟨⟨⟨h1, h2⟩, h3⟩, h4⟩, h5⟩ := hok
  have S := C8.fnScope_by h3
  have hnd : ((d.N.take fn.ps).map T).Nodup := by
    have := S.pre
    rw [← this]
    exact S.nd.sublist (List.take_sublist _ _)
  have hps : ((d.N.take fn.ps).map T).length = fn.ps := by simp; omega
  refine ⟨fd, fn, hfn, D, h4, hnd, ?_⟩
  obtain ⟨oc, od, dV, kV, doc, pm, an, cdv, ct, osl, rfl, lk, hcd, _, _⟩ := D.ex
  have len : ∀ vs H Q E, spF K (cfg0 t K) (fun f es C => match t.pr.fns[f]? with
      | none => .bad
      | some fn => body t.pr call fn es C) f vs H Q E → vs.length = ((d.N.take fn.ps).map T).length := fun vs H Q E ⟨es, G, am, C, wd, re, dn⟩ => by
    simp only [hfn] at dn
    unfold body at dn
    split at dn
    · rename_i he
      rw [← re.length, he, hps]
    · exact dn.elim
  refine fn_of lk hcd S len fun A outer s H vs Q E hr hsp => ?_
  obtain ⟨es, G, am, C, wd, re, dn⟩ := hsp
  simp only [hfn] at dn
  unfold body at dn
  split at dn
  · rename_i he
    generalize hX : cxOf (L2.CX P w) P w K mg base (d.N.map T) (T d.name) (defScope d.st) (He.ga K (T d.name)) cdv A outer s H E = X
    have hy : Hy t.pr t.tb call (lamcOf t.pr call) (cfgOf t K d X.env.cells) (sxOf d) k (fun cls dd _ H => E cls dd H) X := by
      subst hX
      refine ⟨{ N := rfl, nd := S.nd, sc := rfl, un := ?_, tk := takes_of rfl rfl rfl rfl, calm := fun _ => rfl, room := fun _ => hr.mono (Nat.le_succ _), top := fun _ => ⟨rfl, rfl⟩, own := fun _ _ => passes_of rfl, stb := fun x hx => ?_ }, F, fun _ _ => hr, fun hlam => ?_, fun a C d z => by cases z⟩
      · have := hr.un
        show (A.deeper _).units + 65 < cLine
        omega
      · have hx2 := (List.mem_filter.mp hx).2
        unfold locB at hx2
        split at hx2
        · rename_i hl; exact ⟨.inl hl, .inl rfl⟩
        · rename_i hl; exact ⟨.inr hl, .inl rfl⟩
        · cases hx2
      · have hlam : d.lam = true := hlam
        have hmf : d ∈ t.defs.filter (·.lam) := List.mem_filter.mpr ⟨hm, hlam⟩
        have hc : ∃ c, cdv = .ref c := by
          unfold PySem.W.codeIn at hcd
          cases cdv <;> first | (cases hcd; done) | exact ⟨_, rfl⟩
        obtain ⟨c, rfl⟩ := hc
        have hco : He.codeOf K (T d.name, none) = c := He.codeOf_eq (p := (T d.name, none)) lk rfl
        have hTB := L.tb (T d.name, none) (List.mem_map.mpr ⟨d, hmf, rfl⟩)
        refine ⟨⟨rfl, rfl, c, _, ?_, rfl, List.mem_map.mpr ⟨d, hmf, rfl⟩, fun p hp hpe => ?_⟩, fun j p b sc hj => ?_⟩
        · have e : (He.cT K (T d.name, none)).1 = c := hco
          rw [← e]; exact hTB
        · obtain ⟨e, he, rfl⟩ := List.mem_map.mp hp
          obtain ⟨he1, he2⟩ := List.mem_filter.mp he
          have := L.ex
          unfold Text.exB at this
          simp only [Bool.and_eq_true] at this
          have z := List.all_eq_true.mp this.2 e he1
          simp only [he2, Bool.not_true, Bool.false_or] at z
          have z2 := List.all_eq_true.mp z d hm
          simp only [hlam, Bool.not_true, Bool.false_or, Bool.or_eq_true, Bool.not_eq_true', decide_eq_true_eq, decide_eq_false_iff_not] at z2
          rcases z2 with z2 | z2
          · exact absurd hpe z2
          · exact z2
        · have hj : lamB t.pr t.tb (sxOf d) j p b sc = true := hj
          unfold lamB at hj
          simp only [Bool.and_eq_true] at hj
          obtain ⟨⟨j1, j2⟩, j3⟩ := hj
          split at j3
          · rename_i e hle
            refine ⟨LamX.lamS_by j1, j2, fun A2 outer2 s2 H2 E2 f2 c2 hr2 => ?_⟩
            have e2 : lamcOf t.pr call j = evE t.pr call (fun _ _ _ => .bad) e := by
              funext env C
              unfold lamcOf
              rw [hle]
            rw [e2]
            refine (okE (k := k) e (lamSx (sxOf d) sc) (fun cls dd _ H => E2 cls dd H) _ ?_ b j3).1
            refine ⟨{ N := rfl, nd := S.nd, sc := rfl, un := ?_, tk := takes_of rfl rfl rfl rfl, calm := fun _ => rfl, room := fun _ => hr2, top := (fun z => by cases z), own := (fun z => by cases z), stb := (fun x hx => by cases hx) }, F, (fun z => by cases z), (fun z => by cases z), (fun _ _ _ z => by cases z)⟩
            have := hr2.un
            show (A2.deeper _).units + 65 < cLine
            omega
          · cases j3
    have hK : X.K = K := by rw [← hX]; rfl
    have ps := okSs fn.body (cfgOf t K d X.env.cells) (sxOf d) _ X hy (fun j p b s h => h) (fun _ => rfl) (defBody d.st) h5
    subst hX
    refine ⟨_, ps, startE fn.ns es, G, am, C, start_rel rfl re (by simp [h1]) (by omega), wd, ?_⟩
    exact body_dn (cA' := cfgOf t K d _) rfl (pr := t.pr) (call := call) (fn := fn) (es := es) wd dn
  · exact dn.elim
theorem fns_ok (L : Left t K mg base) : ∀ (n f : Nat) (d : DefR), t.defs[f]? = some d → ∃ fd fn, t.pr.fns[f]? = some fn ∧ FunD K (T d.name) (T d.name) (defArgs d.st) (defBody d.st) (defScope d.st) [] [] (He.ga K (T d.name)) fd ∧ plainArgs (defArgs d.st) ((d.N.take fn.ps).map T) = true ∧ ((d.N.take fn.ps).map T).Nodup ∧ FnOk P w K mg base (L2.CX P w) (2 * n + 1) (He.ga K (T d.name)) fd ((d.N.take fn.ps).map T) (spF K (cfg0 t K) (run t.pr n) f)
  | 0, f, d, hd => by
    obtain ⟨fd, D⟩ := L.def' (List.mem_of_getElem? hd)
    obtain ⟨fn, hfn, hok⟩ := L.okD hd
    unfold okDef at hok
    simp only [Bool.and_eq_true, decide_eq_true_eq] at hok
    obtain ⟨⟨⟨⟨h1, h2⟩, h3⟩, h4⟩, h5⟩ := hok
    have S := C8.fnScope_by h3
    have hnd : ((d.N.take fn.ps).map T).Nodup := by
      have := S.pre
      rw [← this]
      exact S.nd.sublist (List.take_sublist _ _)
    have no : ∀ {vs H Q E}, ¬ spF K (cfg0 t K) (run t.pr 0) f vs H Q E := fun ⟨es, G, am, C, wd, re, dn⟩ => dn.elim
    exact ⟨fd, fn, hfn, D, h4, hnd, ⟨fun vs H Q E h => (no h).elim, fun A outer s H args us vs Q E _ _ _ _ h => (no h).elim⟩⟩
  | n + 1, f, d, hd => by
    have F := facts_of (P := P) (w := w) L (k := 2 * n + 1) (call := run t.pr n) (by omega) fun f d hd => let ⟨fd, fn, h1, D, h2, h3, G⟩ := fns_ok L n f d hd; ⟨fd, _, D.bindsN fun kV doc pm an cdv ct us hl => bind_plain h2 h3 kV doc pm an cdv ct us hl, G⟩
    exact def_ok L hd F
end
end Ev

end

section
set_option maxRecDepth 512
set_option Elab.async false
set_option linter.all false
set_option maxRecDepth 100000
set_option maxHeartbeats 4000000
namespace Ev
open PySem L2 PySem.Spec PyProof.Rows
theorem fund_uniq {K : PySem.W.Frag} {x q x' q' : Str} {pa pa' : Arguments} {b b' : List Stmt} {sc sc' : Scope} {f : Addr} {fd fd' : FuncData} (F : FunD K x q pa b sc [] [] f fd) (F' : FunD K x' q' pa' b' sc' [] [] f fd') : fd = fd' := by
  obtain ⟨oc, od, dV, kV, doc, pm, an, cdv, ct, osl, h1, lk, _⟩ := F.ex
  obtain ⟨oc', od', dV', kV', doc', pm', an', cdv', ct', osl', h1', lk', _⟩ := F'.ex
  rw [lk] at lk'
  have := Option.some.inj lk'
  have e : (Data.func fd) = Data.func fd' := congrArg Obj.data this
  exact Data.func.inj e
/-- the reading of a def's list argument at the start -/
theorem relD_script {K : PySem.W.Frag} {cA : Cfg0} {G : Hp} {a : Addr} {ns : List Int} (h : SqL K G a (ns.map V.int)) : RelD K cA G (.lst (ns.map D.int)) (.ref a) := by
  have : ∀ ns : List Int, RelDs K cA G (ns.map D.int) (ns.map V.int) := fun ns => by
    induction ns with
    | nil => simp only [List.map_nil, RelDs]
    | cons n ns ih => simp only [List.map_cons, RelDs]; exact ⟨_, _, rfl, by simp only [RelD], ih⟩
  simp only [RelD]
  exact ⟨a, _, rfl, h, this ns⟩
open Classical in
theorem script_start {t : Text} {K : PySem.W.Frag} {H : Hp} {a : Addr} {ns : List Int} {N f : Nat} (hS : SqL K H a (ns.map V.int)) (hT : ∀ p ∈ (cfg0 t K).tb, H p.1 = some (.tbl #[])) {C' : Cells} (hr : run t.pr N f [.v (.lst (ns.map D.int))] [] = .ok (.v (.bl true)) C') :
    spF K (cfg0 t K) (run t.pr N) f [.ref a] H (fun v _ => v = .bl true) fun _ _ _ => False := by
  let G : Hp := fun b => if b = a ∧ ∀ ps, H a ≠ some (.tbl ps) then H a else none
  have hG : SqL K G a (ns.map V.int) := by
    rcases hS with (h | ⟨o, h⟩) | h
    · exact .inl (.inl (by show (if _ then _ else _) = _; rw [if_pos ⟨rfl, fun ps z => by rw [h] at z; cases z⟩, h]))
    · exact .inl (.inr ⟨o, by show (if _ then _ else _) = _; rw [if_pos ⟨rfl, fun ps z => by rw [h] at z; cases z⟩, h]⟩)
    · exact .inr h
  have hre : RelEs K (cfg0 t K) G [] [.v (.lst (ns.map D.int))] [.ref a] := ⟨_, [], rfl, relD_script hG, rfl⟩
  refine ⟨_, G, [], [], ⟨fun p hp => ⟨⟨#[], hT p hp, True.intro, fun pos cv hc => ?_⟩, ?_⟩, fun b u e => ?_, rfl, fun i c e => by simp at e, fun i j c d a e => by simp at e⟩, hre, ?_⟩
  · have z : codeAmong pos [] = some cv := hc
    simp [codeAmong] at z
  · show (if _ then _ else _) = _
    rw [if_neg]
    rintro ⟨z1, z2⟩
    exact z2 #[] (by rw [← z1]; exact hT p hp)
  · have e : (if b = a ∧ ∀ ps, H a ≠ some (.tbl ps) then H a else none) = some u := e
    split at e
    · rename_i h
      rw [h.1]; exact e
    · cases e
  · rw [hr]
    intro G' am' H' v x w r
    simpa only [rE, RelE, RelD] using r
/-- THE END: a law whose evaluation is True at every script -/
theorem law_end {t : Text} {l : PySem.W.OpenLaw} {w : World} {K : PySem.W.Frag} {mg : Str → Option Value} {fa : Addr} {h : Heap} {f N n : Nat} {d : DefR} {fn : Fn} (hd : t.defs[f]? = some d) (hfn : t.pr.fns[f]? = some fn) (hN : d.N.take fn.ps = [[115, 99, 114, 105, 112, 116]]) (hok : t.ok = true)
    (KX : K.In h) (S : He.SaysX t.fa t.fn [] t.tf t.exB w h K) (G : h.Ns mainGlobals mg) (hfa : mg (T d.name) = some (.ref fa))
    (hlaw : ∀ ns : List Int, ns.length ≤ n → (∀ z ∈ ns, Builtin.Int.intBits z ≤ 1048576) → ∃ C', run t.pr N f [.v (.lst (ns.map D.int))] [] = .ok (.v (.bl true)) C') :
    LamX.LawAtS l w K (L2.CX l.prog w) (2 * N + 1) n "script" mg fa h := by
  have SD : He.SaysD t.fa t.fn K := S.t.d
  have hm := List.mem_of_getElem? hd
  obtain ⟨fd, D⟩ := SD.defs (d := defD d) (by unfold Text.fn; exact List.mem_append_left _ (List.mem_map.mpr ⟨d, hm, rfl⟩))
  have D : FunD K (T d.name) (T d.name) (defArgs d.st) (defBody d.st) (defScope d.st) [] [] (He.ga K (T d.name)) fd := D
  have hglo : mg (T d.name) = some (.ref (He.ga K (T d.name))) := by
    refine He.glo_ok KX G (SD.facts (f := .glo (T d.name)) ?_)
    unfold Text.fa
    simp only [List.append_assoc]
    exact List.mem_append_right _ (List.mem_append_left _ (List.mem_map.mpr ⟨d, hm, rfl⟩))
  rw [hglo] at hfa
  cases hfa
  have hps : (d.N.take fn.ps).map T = [("script" : Str)] := by rw [hN]; decide
  have left : ∀ base : Heap, K.In base → base.Ns mainGlobals mg → (∀ p ∈ t.tf.map (He.cT K), LamX.TabB base mg p.1 p.2) → Left t K mg base := fun base hX hG hTB =>
    ⟨hX, hG, SD, S.more, hok, fun p hp => hTB _ (List.mem_map.mpr ⟨p, hp, rfl⟩)⟩
  have hb : plainArgs (defArgs d.st) ((d.N.take fn.ps).map T) = true ∧ ((d.N.take fn.ps).map T).Nodup := by
    have := hok
    unfold Text.ok at this
    simp only [Bool.and_eq_true] at this
    have h1 := List.all_eq_true.mp this.1.2 f (List.mem_range.mpr (List.getElem?_eq_some_iff.mp hd).1)
    rw [hd, hfn] at h1
    simp only at h1
    unfold okDef at h1
    simp only [Bool.and_eq_true, decide_eq_true_eq] at h1
    exact ⟨h1.1.2, by rw [hps]; decide⟩
  refine ⟨fd, t.tf.map (He.cT K), spF K (cfg0 t K) (run t.pr N) f, fun p hp => ?_, fun p hp => ?_, fun p hp => ?_, fun s u => ?_, fun H a ns hl hbits hT hS => ?_, fun base hX hG hTB => ?_⟩
  · obtain ⟨q, hq, rfl⟩ := List.mem_map.mp hp
    exact S.empty q hq
  · obtain ⟨q, hq, rfl⟩ := List.mem_map.mp hp
    exact S.out q hq
  · obtain ⟨q, hq, rfl⟩ := List.mem_map.mp hp
    exact PySem.W.codeHd_of_K KX (S.hd q hq)
  · have := D.bindsA (ps := (d.N.take fn.ps).map T) (fun kV doc pm an cdv ct us hl => bind_plain hb.1 hb.2 kV doc pm an cdv ct us hl) s [u] (by rw [hps]; rfl)
    rw [hps] at this
    exact this
  · obtain ⟨C', hr⟩ := hlaw ns hl hbits
    refine script_start hS (fun p hp => ?_) hr
    obtain ⟨e, he, rfl⟩ := List.mem_map.mp hp
    exact hT (He.cT K (T e.name, none)) (List.mem_map.mpr ⟨(T e.name, none), List.mem_map.mpr ⟨e, he, rfl⟩, rfl⟩)
  · obtain ⟨fd', fn', h1, D', _, _, FO⟩ := fns_ok (P := l.prog) (w := w) (left base hX hG hTB) N f d hd
    rw [hfn] at h1; cases h1
    have := fund_uniq D D'
    subst this
    rw [hps] at FO
    exact FO
end Ev

end

section
set_option maxRecDepth 512
set_option autoImplicit false
set_option linter.all false
namespace Ev
/-! tools for running the evaluator by simp: each construct a word of its own over the result of its part, no functions as arguments -/
/-- a proof by computing that simp keeps as a proof -/
theorem nrfl {α : Sort _} {a b : α} (h : a = b) : a = b := h
def okV (C : Cells) (o : Option D) : R E := match o with
  | some d => .ok (.v d) C
  | none => .bad
@[simp] theorem okV_s {C : Cells} {d : D} : okV C (some d) = .ok (.v d) C := nrfl rfl
def okB (C : Cells) (o : Option Bool) : R E := match o with
  | some d => .ok (.v (.bl d)) C
  | none => .bad
@[simp] theorem okB_s {C : Cells} {d : Bool} : okB C (some d) = .ok (.v (.bl d)) C := nrfl rfl
def bin {α : Type} (f : D → D → Option α) (a b : Option D) : Option α := a.bind fun a => b.bind fun b => f a b
@[simp] theorem bin_s {α : Type} {f : D → D → Option α} {a b : D} : bin f (some a) (some b) = f a b := nrfl rfl
@[simp] theorem see_v {C : Cells} {d : D} : see C (.v d) = some d := nrfl rfl
@[simp] theorem see_r {C : Cells} {n : Nat} : see C (.r n) = (cellAt C n).bind cellD := nrfl rfl
@[simp] theorem truE_v {C : Cells} {d : D} : truE C (.v d) = truV d := nrfl rfl
@[simp] theorem truE_r {C : Cells} {n : Nat} : truE C (.r n) = ((cellAt C n).bind cellD).bind truV := nrfl rfl
def slotR (o : Option E) (C : Cells) : R E := match o with
  | some (.v d) => .ok (.v d) C
  | some (.r n) => .ok (.r n) C
  | _ => .bad
@[simp] theorem slotR_v {d : D} {C : Cells} : slotR (some (.v d)) C = .ok (.v d) C := nrfl rfl
@[simp] theorem slotR_r {n : Nat} {C : Cells} : slotR (some (.r n)) C = .ok (.r n) C := nrfl rfl
section
variable (P : Prog) (call : Nat → List E → Cells → R E) (lamc : Nat → Env → Cells → R E)
def tupO (C : Cells) (o : Option (List D)) : R E := match o with
  | some ds => if ds.length ≤ line then .ok (.v (.tup ds)) C else .bad
  | none => .bad
def tup1 (r : R (List E)) : R E := r.bind fun xs C => tupO C (vals xs)
def lstO (m : Bool) (C : Cells) (o : Option (List D)) : R E := match o with
  | some ds => if ds.length ≤ line then (if m then .ok (.r C.length) (C ++ [some (.lst ds)]) else .ok (.v (.lst ds)) C) else .bad
  | none => .bad
def lst1 (m : Bool) (r : R (List E)) : R E := r.bind fun xs C => lstO m C (vals xs)
def bop2 (o : Bop) (x : E) (r : R E) : R E := r.bind fun y C => okV C (bin (bopV o) (see C x) (see C y))
def bop1 (o : Bop) (b : Ex) (env : Env) (r : R E) : R E := r.bind fun x C => bop2 o x (evE P call lamc b env C)
def cmp2 (o : Cop) (x : E) (r : R E) : R E := r.bind fun y C => okB C (bin (copV o) (see C x) (see C y))
def cmp1 (o : Cop) (b : Ex) (env : Env) (r : R E) : R E := r.bind fun x C => cmp2 o x (evE P call lamc b env C)
def chnO (o' : Cop) (c : Ex) (y : E) (env : Env) (C : Cells) (o : Option Bool) : R E := match o with
  | some true => cmp2 o' y (evE P call lamc c env C)
  | some false => .ok (.v (.bl false)) C
  | none => .bad
def chn2 (o o' : Cop) (c : Ex) (env : Env) (x : E) (r : R E) : R E := r.bind fun y C => chnO P call lamc o' c y env C (bin (copV o) (see C x) (see C y))
def chn1 (o o' : Cop) (b c : Ex) (env : Env) (r : R E) : R E := r.bind fun x C => chn2 P call lamc o o' c env x (evE P call lamc b env C)
def isN1 (neg : Bool) (r : R E) : R E := r.bind fun x C => .ok (.v (.bl (isNone neg x))) C
def andO (b : Ex) (env : Env) (x : E) (C : Cells) (o : Option Bool) : R E := match o with
  | some true => evE P call lamc b env C
  | some false => .ok x C
  | none => .bad
def and1 (b : Ex) (env : Env) (r : R E) : R E := r.bind fun x C => andO P call lamc b env x C (truE C x)
def orO (b : Ex) (env : Env) (x : E) (C : Cells) (o : Option Bool) : R E := match o with
  | some true => .ok x C
  | some false => evE P call lamc b env C
  | none => .bad
def or1 (b : Ex) (env : Env) (r : R E) : R E := r.bind fun x C => orO P call lamc b env x C (truE C x)
def notO (C : Cells) (o : Option Bool) : R E := match o with
  | some b => .ok (.v (.bl (!b))) C
  | none => .bad
def not1 (r : R E) : R E := r.bind fun x C => notO C (truE C x)
def iteO (a b : Ex) (env : Env) (C : Cells) (o : Option Bool) : R E := match o with
  | some true => evE P call lamc a env C
  | some false => evE P call lamc b env C
  | none => .bad
def ite1 (a b : Ex) (env : Env) (r : R E) : R E := r.bind fun x C => iteO P call lamc a b env C (truE C x)
def idx2 (x : E) (r : R E) : R E := r.bind fun y C => okV C (bin idxV (see C x) (see C y))
def idx1 (b : Ex) (env : Env) (r : R E) : R E := r.bind fun x C => idx2 x (evE P call lamc b env C)
def sl3 (x : E) (l : Option Int) (r : R (Option Int)) : R E := r.bind fun h C => okV C ((see C x).bind fun x => slV x l h)
def sl2 (hi : Eo) (env : Env) (x : E) (r : R (Option Int)) : R E := r.bind fun l C => sl3 x l (evO P call lamc hi env C)
def sl1 (lo hi : Eo) (env : Env) (r : R E) : R E := r.bind fun x C => sl2 P call lamc hi env x (evO P call lamc lo env C)
def xfC (cl : Option Cl) (f : Nm) (fs : List (Nm × D)) (C : Cells) : R E := match cl with
    | some cl => if cl.flds.contains f then okV C (lookFD f fs) else .bad
    | none => .bad
def xfR (f : Nm) (o : Option E) (C : Cells) : R E := match o with
  | some (.exn c fs) => xfC P.cls[c]? f fs C
  | _ => .bad
def okEO (C : Cells) (o : Option E) : R E := match o with
  | some d => .ok d C
  | none => .bad
def attr1 (f : Nm) (r : R E) : R E := r.bind fun x C => okEO C (attrE C f x)
def call1 (f : Nat) (r : R (List E)) : R E := r.bind fun xs C => call f xs C
def callPO (f : Nat) (C : Cells) (o : Option (List D)) : R E := match o with
  | some ds => pureCall call f ds C
  | none => .bad
def callP1 (f : Nat) (r : R (List E)) : R E := r.bind fun xs C => callPO call f C (vals xs)
def biO (b : Bi) (C : Cells) (o : Option (List D)) : R E := match o with
  | some ds => okV C (biV b ds)
  | none => .bad
def bi1 (b : Bi) (r : R (List E)) : R E := r.bind fun xs C => biO b C (sees C xs)
def isi1 (ts : List Ty) (r : R E) : R E := r.bind fun x C => okB C (isiE C x ts)
def bmO (m : Bm) (C : Cells) (d : Option D) (o : Option (List D)) : R E := match d, o with
  | some d, some ds => okV C (bmV m d ds)
  | _, _ => .bad
def bm2 (m : Bm) (x : E) (r : R (List E)) : R E := r.bind fun xs C => bmO m C (see C x) (sees C xs)
def bmB (m : Bm) (es : Es) (env : Env) (x : E) (C : Cells) (b : Bool) : R E := match b with
  | true => bm2 m x (evEs P call lamc es env C)
  | false => .bad
def bm1 (m : Bm) (es : Es) (env : Env) (r : R E) : R E := r.bind fun x C => bmB P call lamc m es env x C (isLst C x)
def mmP (n : Nat) (C : Cells) (o : Option (Cell × D)) : R E := match o with
  | some (c, d) => .ok (.v d) (C.set n (some c))
  | none => .bad
def mmO (m : Mm) (n : Nat) (C : Cells) (c : Option Cell) (o : Option (List D)) : R E := match c, o with
  | some c, some ds => mmP n C (mmV m c ds)
  | _, _ => .bad
def mm2 (m : Mm) (x : E) (r : R (List E)) : R E := r.bind fun xs C => match x with
  | .r n => mmO m n C (cellAt C n) (vals xs)
  | _ => .bad
def mmB (m : Mm) (es : Es) (env : Env) (x : E) (C : Cells) (b : Bool) : R E := match b with
  | true => mm2 m x (evEs P call lamc es env C)
  | false => .bad
def mm1 (m : Mm) (es : Es) (env : Env) (r : R E) : R E := r.bind fun x C => mmB P call lamc m es env x C (isLst C x)
/-- the turns of a comprehension's clause; env: where the targets are stored -/
def genR (t : Tg) (ifs : Eo) (r : Gn) (env : Env) (ds : List D) (C : Cells) (acc : List D) : R (List D) :=
  compL env t (fun env C acc => stepC (evC P call lamc ifs env C) (fun C => evG P call lamc r env C acc) acc) ds C acc
def compE (C0 : Cells) (w : E) (r : R (List D)) : R E := match r with
  | .ok ds C' => .ok (.v (.lst ds)) (unlock C0 C' w)
  | _ => .bad
def comp1 (own : List Nat) (t : Tg) (ifs : Eo) (g : Gn) (env : Env) (r : R (List D × E)) : R E := r.bind fun w C => compE C w.2 (genR P call lamc t ifs g (wipeE env own) w.1 (lock C w.2) [])
def stepG (r : Gn) (env : Env) (acc : List D) (t : R Bool) : R (List D) := t.bind fun b C => if b then evG P call lamc r env C acc else .ok acc C
def genB (t : Tg) (ifs : Eo) (g : Gn) (env : Env) (ds : List D) (r : R (List D)) : R (List D) := r.bind fun a C => genR P call lamc t ifs g env ds C a
def genA (t : Tg) (ifs : Eo) (g : Gn) (env : Env) (ds : List D) (C : Cells) (acc : List D) (o : Option Env) : R (List D) := match o with
  | some e => genB P call lamc t ifs g env ds (stepG P call lamc g e acc (evC P call lamc ifs e C))
  | none => .bad
def genW (C0 : Cells) (w : E) (r : R (List D)) : R (List D) := r.bind fun ds C' => .ok ds (unlock C0 C' w)
def gen1 (t : Tg) (ifs : Eo) (g : Gn) (env : Env) (acc : List D) (r : R (List D × E)) : R (List D) := r.bind fun w C =>
    genW C w.2 (genR P call lamc t ifs g (wipeE env (tsl t ++ gsl g)) w.1 (lock C w.2) acc)
def cpO (C : Cells) (o : Option D) : R E := match o with
    | some (.lst xs) => .ok (.r C.length) (C ++ [some (.lst xs)])
    | some (.tup xs) => .ok (.r C.length) (C ++ [some (.lst xs)])
    | _ => .bad
def cp1 (r : R E) : R E := r.bind fun x C => cpO C (see C x)
def frzR (C : Cells) (x : E) : R E := match x with
    | .v d => .ok (.v d) C
    | .r n => match cellAt C n with
      | some (.lst xs) => .ok (.v (.lst xs)) (C.set n none)
      | _ => .bad
    | _ => .bad
def frz1 (r : R E) : R E := r.bind fun x C => frzR C x
def clR (o : Option E) (env : Env) (C : Cells) : R E := match o with
    | some (.clo j) => lamc j env C
    | _ => .bad
def cons2 (x : E) (r : R (List E)) : R (List E) := r.bind fun xs C => .ok (x :: xs) C
def cons1 (es : Es) (env : Env) (r : R E) : R (List E) := r.bind fun x C => cons2 x (evEs P call lamc es env C)
def starD (o : Option D) : Option (List D) := match o with
  | some (.lst xs) => some xs
  | some (.tup xs) => some xs
  | _ => none
def star2 (ds : List D) (r : R (List E)) : R (List E) := r.bind fun xs C => .ok (ds.map .v ++ xs) C
def starO (es : Es) (env : Env) (C : Cells) (o : Option (List D)) : R (List E) := match o with
  | some ds => star2 ds (evEs P call lamc es env C)
  | none => .bad
def star1 (es : Es) (env : Env) (r : R E) : R (List E) := r.bind fun x C => starO P call lamc es env C (starD (see C x))
def oint (x : E) (C : Cells) : R (Option Int) := match x with
    | .v (.int i) => .ok (some i) C
    | _ => .bad
def oint1 (r : R E) : R (Option Int) := r.bind fun x C => oint x C
def csO (C : Cells) (o : Option Bool) : R Bool := match o with
  | some b => .ok b C
  | none => .bad
def cs1 (r : R E) : R Bool := r.bind fun x C => csO C (truE C x)
def seqO (x : E) (C : Cells) (o : Option (List D)) : R (List D × E) := match o with
  | some ds => .ok (ds, x) C
  | none => .bad
def seq1 (r : R E) : R (List D × E) := r.bind fun x C => seqO x C ((see C x).bind seqD)
def rng1E (x : E) (C : Cells) : R (List D × E) := match x with
    | .v (.int j) => if rngOk j then .ok (rangeD 0 1 j.toNat, .v .non) C else .bad
    | _ => .bad
def rng1 (r : R E) : R (List D × E) := r.bind fun x C => rng1E x C
def rng2E (x y : E) (C : Cells) : R (List D × E) := match x, y with
    | .v (.int i), .v (.int j) => if rngOk i && rngOk j then .ok (rangeD i 1 (j - i).toNat, .v .non) C else .bad
    | _, _ => .bad
def rng2b (x : E) (r : R E) : R (List D × E) := r.bind fun y C => rng2E x y C
def rng2a (b : Ex) (env : Env) (r : R E) : R (List D × E) := r.bind fun x C => rng2b x (evE P call lamc b env C)
def enumO (x : E) (C : Cells) (o : Option (List D)) : R (List D × E) := match o with
  | some ds => .ok (enumD 0 ds, x) C
  | none => .bad
def enum1 (r : R E) : R (List D × E) := r.bind fun x C => enumO x C ((see C x).bind lsD)
def zipE (C : Cells) (x y : E) : R (List D × E) := match x, y with
    | .v x, .v y => match seqD x, seqD y with
      | some xs, some ys => .ok (zipD xs ys, .v .non) C
      | _, _ => .bad
    | _, _ => .bad
def zip2 (x : E) (r : R E) : R (List D × E) := r.bind fun y C => zipE C x y
def zip1 (b : Ex) (env : Env) (r : R E) : R (List D × E) := r.bind fun x C => zip2 x (evE P call lamc b env C)
def push1 (acc : List D) (r : R E) : R (List D) := pushD r acc
/-! statements -/
def seqR (r : Sms) (x : RS) : RS := match x with
  | .next env C => exSs P call lamc r env C
  | x => x
def expS (env : Env) (r : R E) : RS := match r with
  | .ok _ C => .next env C
  | .exc c fs C => .exc c fs env C
  | .bad => .bad
def retS (env : Env) (r : R E) : RS := match r with
  | .ok x C => .ret x C
  | .exc c fs C => .exc c fs env C
  | .bad => .bad
def asgO (C : Cells) (o : Option Env) : RS := match o with
  | some env => .next env C
  | none => .bad
def asgS (t : Tg) (env : Env) (r : R E) : RS := match r with
  | .ok x C => asgO C (asgE t x env)
  | .exc c fs C => .exc c fs env C
  | .bad => .bad
def par2 (i j : Nat) (x : E) (env : Env) (r : R E) : RS := match r with
  | .ok y C => .next ((env.set i (some x)).set j (some y)) C
  | .exc c fs C => .exc c fs env C
  | .bad => .bad
def par1 (i j : Nat) (b : Ex) (env : Env) (r : R E) : RS := match r with
  | .ok x C => par2 i j x env (evE P call lamc b env C)
  | .exc c fs C => .exc c fs env C
  | .bad => .bad
def augO (i : Nat) (env : Env) (C : Cells) (o : Option D) : RS := match o with
  | some z => .next (env.set i (some (.v z))) C
  | none => .bad
def augC (i n : Nat) (env : Env) (C : Cells) (c : Option Cell) (d : Option D) : RS := match c, d with
  | some (.lst xs), some (.lst ys) => if xs.length + ys.length ≤ line then .next (env.set i (some (.r n))) (C.set n (some (.lst (xs ++ ys)))) else .bad
  | _, _ => .bad
def augV' (o : Bop) (i : Nat) (d : D) (env : Env) (r : R E) : RS := match r with
  | .ok y C => augO i env C ((see C y).bind fun y => augV o d y)
  | .exc c fs C => .exc c fs env C
  | .bad => .bad
def augR' (o : Bop) (i n : Nat) (env : Env) (r : R E) : RS := match r with
  | .ok y C => (match o with
    | .add => augC i n env C (cellAt C n) (see C y)
    | _ => .bad)
  | .exc c fs C => .exc c fs env C
  | .bad => .bad
def augS (o : Bop) (i : Nat) (old : Option E) (e : Ex) (env : Env) (C : Cells) : RS := match old with
  | some (.v d) => augV' o i d env (evE P call lamc e env C)
  | some (.r n) => augR' o i n env (evE P call lamc e env C)
  | _ => .bad
def ifO (a b : Sms) (env : Env) (C : Cells) (o : Option Bool) : RS := match o with
  | some true => exSs P call lamc a env C
  | some false => exSs P call lamc b env C
  | none => .bad
def ifS (a b : Sms) (env : Env) (r : R E) : RS := match r with
  | .ok x C => ifO P call lamc a b env C (truE C x)
  | .exc c fs C => .exc c fs env C
  | .bad => .bad
/-- the turns of a loop -/
def forG (t : Tg) (b : Sms) (ds : List D) (env : Env) (C : Cells) : RS := forL t (fun env C => exSs P call lamc b env C) ds env C
def forU (C0 : Cells) (w : E) (x : RS) : RS := x.map fun C' => unlock C0 C' w
def forS (t : Tg) (b : Sms) (env : Env) (r : R (List D × E)) : RS := match r with
  | .ok w C => forU C w.2 (forG P call lamc t b w.1 env (lock C w.2))
  | .exc c fs C => .exc c fs env C
  | .bad => .bad
def forB (t : Tg) (b : Sms) (ds : List D) (x : RS) : RS := match x with
    | .next env C => forG P call lamc t b ds env C
    | .ct env C => forG P call lamc t b ds env C
    | .brk env C => .next env C
    | .ret e C => .ret e C
    | .exc c fs env C => .exc c fs env C
    | .bad => .bad
def forA (t : Tg) (b : Sms) (ds : List D) (C : Cells) (o : Option Env) : RS := match o with
  | some e => forB P call lamc t b ds (exSs P call lamc b e C)
  | none => .bad
def lamG (i : Nat) (b : Sms) (js : List Nat) (env : Env) (C : Cells) : RS := forLam i (fun env C => exSs P call lamc b env C) js env C
def lamTurn (i : Nat) (b : Sms) (js : List Nat) (x : RS) : RS := match x with
    | .next env C => lamG P call lamc i b js env C
    | .ct env C => lamG P call lamc i b js env C
    | .brk env C => .next env C
    | .ret e C => .ret e C
    | .exc c fs env C => .exc c fs env C
    | .bad => .bad
def raiR (cl : Option Cl) (c : Nat) (ds : Option (List D)) (env : Env) (C : Cells) : RS := match ds, cl with
    | some ds, some cl => if ds.length = cl.flds.length then .exc c (cl.flds.zip ds) env C else .bad
    | _, _ => .bad
def raiS (c : Nat) (env : Env) (r : R (List E)) : RS := match r with
  | .ok xs C => raiR P.cls[c]? c (vals xs) env C
  | .exc c fs C => .exc c fs env C
  | .bad => .bad
def tryS (hs : Hs) (x : RS) : RS := match x with
  | .exc c fs env C => exH P call lamc hs c fs env C
  | r => r
/-- what is left of a handler's suite -/
def hnd (o : Option Nat) (x : RS) : RS := match o with
  | none => (match x with
    | .exc _ _ _ _ => .bad
    | x => x)
  | some i => match x with
    | .next env C => if cleanE (env.set i none) then .next (env.set i none) C else .bad
    | .ct env C => if cleanE (env.set i none) then .ct (env.set i none) C else .bad
    | .brk env C => if cleanE (env.set i none) then .brk (env.set i none) C else .bad
    | .ret e C => .ret e C
    | _ => .bad
def hndB (as : Option Nat) (b : Sms) (r : Hs) (c : Nat) (fs : List (Nm × D)) (env : Env) (C : Cells) (u : Bool) : RS := match u with
  | true => (match as with
    | none => hnd none (exSs P call lamc b env C)
    | some i => hnd (some i) (exSs P call lamc b (env.set i (some (.exn c fs))) C))
  | false => exH P call lamc r c fs env C
end
section
variable {P : Prog} {call : Nat → List E → Cells → R E} {lamc : Nat → Env → Cells → R E} {env : Env} {C : Cells}
@[simp] theorem x_slot {i : Nat} : evE P call lamc (.slot i) env C = slotR (env[i]?).join C := by
  rw [evE]; rfl
@[simp] theorem x_cst {k : K} : evE P call lamc (.cst k) env C = .ok (.v k.d) C := nrfl rfl
@[simp] theorem x_glob {g : Nat} : evE P call lamc (.glob g) env C = okV C P.globs[g]? := by
  rw [evE]; cases P.globs[g]? <;> rfl
@[simp] theorem x_tup {es : Es} : evE P call lamc (.tup es) env C = tup1 (evEs P call lamc es env C) := by
  rw [evE, tup1]; congr 1; funext xs C; cases vals xs with
  | none => rfl
  | some ds => simp only [Option.bind, tupO]; split <;> rfl
@[simp] theorem x_lst {m : Bool} {es : Es} : evE P call lamc (.lst m es) env C = lst1 m (evEs P call lamc es env C) := by
  rw [evE, lst1]; congr 1; funext xs C; cases vals xs <;> rfl
@[simp] theorem x_bop {o : Bop} {a b : Ex} : evE P call lamc (.bop o a b) env C = bop1 P call lamc o b env (evE P call lamc a env C) := by
  rw [evE, bop1]; congr 1; funext x C; rw [bop2]; congr 1; funext y C
  unfold bin
  cases see C x with
  | none => rfl
  | some x => cases see C y with
    | none => rfl
    | some y => show R.of ((bopV o x y).map .v) C = okV C (bopV o x y); cases bopV o x y <;> rfl
@[simp] theorem x_cmp {o : Cop} {a b : Ex} : evE P call lamc (.cmp o a b) env C = cmp1 P call lamc o b env (evE P call lamc a env C) := by
  rw [evE, cmp1]; congr 1; funext x C; rw [cmp2]; congr 1; funext y C
  unfold bin
  cases see C x with
  | none => rfl
  | some x => cases see C y with
    | none => rfl
    | some y => show R.of ((copV o x y).map fun b => .v (.bl b)) C = okB C (copV o x y); cases copV o x y <;> rfl
@[simp] theorem x_cmp2 {o o' : Cop} {a b c : Ex} : evE P call lamc (.cmp2 o o' a b c) env C = chn1 P call lamc o o' b c env (evE P call lamc a env C) := by
  rw [evE, chn1]; congr 1; funext x C; rw [chn2]; congr 1; funext y C
  unfold bin
  cases (see C x).bind fun x => (see C y).bind fun y => copV o x y with
  | none => rfl
  | some q =>
    cases q with
    | false => rfl
    | true =>
      show R.bind _ _ = cmp2 _ _ _
      rw [cmp2]; congr 1; funext z C
      unfold bin
      cases see C y with
      | none => rfl
      | some x => cases see C z with
        | none => rfl
        | some y => show R.of ((copV o' x y).map fun b => .v (.bl b)) C = okB C (copV o' x y); cases copV o' x y <;> rfl
@[simp] theorem x_isN {neg : Bool} {a : Ex} : evE P call lamc (.isN neg a) env C = isN1 neg (evE P call lamc a env C) := nrfl rfl
@[simp] theorem x_and {a b : Ex} : evE P call lamc (.and a b) env C = and1 P call lamc b env (evE P call lamc a env C) := by
  rw [evE, and1]; congr 1; funext x C; cases truE C x with
  | none => rfl
  | some b => cases b <;> rfl
@[simp] theorem x_or {a b : Ex} : evE P call lamc (.or a b) env C = or1 P call lamc b env (evE P call lamc a env C) := by
  rw [evE, or1]; congr 1; funext x C; cases truE C x with
  | none => rfl
  | some b => cases b <;> rfl
@[simp] theorem x_one {a : Ex} : evE P call lamc (.one a) env C = evE P call lamc a env C := nrfl rfl
@[simp] theorem x_not {a : Ex} : evE P call lamc (.not a) env C = not1 (evE P call lamc a env C) := by
  rw [evE, not1]; congr 1; funext x C; cases truE C x <;> rfl
@[simp] theorem x_ite {c a b : Ex} : evE P call lamc (.ite c a b) env C = ite1 P call lamc a b env (evE P call lamc c env C) := by
  rw [evE, ite1]; congr 1; funext x C; cases truE C x with
  | none => rfl
  | some b => cases b <;> rfl
@[simp] theorem x_idx {a i : Ex} : evE P call lamc (.idx a i) env C = idx1 P call lamc i env (evE P call lamc a env C) := by
  rw [evE, idx1]; congr 1; funext x C; rw [idx2]; congr 1; funext y C
  unfold bin
  cases see C x with
  | none => rfl
  | some x => cases see C y with
    | none => rfl
    | some y => show R.of ((idxV x y).map .v) C = okV C (idxV x y); cases idxV x y <;> rfl
@[simp] theorem x_sl {a : Ex} {lo hi : Eo} : evE P call lamc (.sl a lo hi) env C = sl1 P call lamc lo hi env (evE P call lamc a env C) := by
  rw [evE, sl1]; congr 1; funext x C; rw [sl2]; congr 1; funext l C; rw [sl3]; congr 1; funext h C
  cases see C x with
  | none => rfl
  | some x => show R.of ((slV x l h).map .v) C = okV C (slV x l h); cases slV x l h <;> rfl
@[simp] theorem x_xf {i : Nat} {f : Nm} : evE P call lamc (.xf i f) env C = xfR P f (env[i]?).join C := by
  simp only [evE]
  unfold xfR
  cases (env[i]?).join with
  | none => rfl
  | some e =>
    cases e with
    | exn c fs =>
      show (match P.cls[c]? with | some cl => if cl.flds.contains f then R.of ((lookFD f fs).map .v) C else .bad | none => .bad) = xfC P.cls[c]? f fs C
      cases P.cls[c]? with
      | none => rfl
      | some cl =>
        show (if _ then R.of ((lookFD f fs).map .v) C else .bad) = if _ then okV C (lookFD f fs) else .bad
        split
        · cases lookFD f fs <;> rfl
        · rfl
    | _ => rfl
@[simp] theorem x_attr {a : Ex} {f : Nm} : evE P call lamc (.attr a f) env C = attr1 f (evE P call lamc a env C) := by
  rw [evE, attr1]; congr 1; funext x C; cases attrE C f x <;> rfl
@[simp] theorem x_call {f : Nat} {es : Es} : evE P call lamc (.call f es) env C = call1 call f (evEs P call lamc es env C) := nrfl rfl
@[simp] theorem x_callP {f : Nat} {es : Es} : evE P call lamc (.callP f es) env C = callP1 call f (evEs P call lamc es env C) := by
  rw [evE, callP1]; congr 1; funext xs C; cases vals xs <;> rfl
@[simp] theorem x_bi {b : Bi} {es : Es} : evE P call lamc (.bi b es) env C = bi1 b (evEs P call lamc es env C) := by
  rw [evE, bi1]; congr 1; funext xs C
  cases sees C xs with
  | none => rfl
  | some ds => show R.of ((biV b ds).map .v) C = okV C (biV b ds); cases biV b ds <;> rfl
@[simp] theorem x_isi {a : Ex} {ts : List Ty} : evE P call lamc (.isi a ts) env C = isi1 ts (evE P call lamc a env C) := by
  rw [evE, isi1]; congr 1; funext x C; cases isiE C x ts <;> rfl
@[simp] theorem x_bm {m : Bm} {a : Ex} {es : Es} : evE P call lamc (.bm m a es) env C = bm1 P call lamc m es env (evE P call lamc a env C) := by
  rw [evE, bm1]; congr 1; funext x C
  cases isLst C x with
  | false => rfl
  | true =>
    show R.bind _ _ = bm2 _ _ _
    rw [bm2]; congr 1; funext xs C
    cases see C x with
    | none => rfl
    | some x => cases sees C xs with
      | none => rfl
      | some y => show R.of ((bmV m x y).map .v) C = okV C (bmV m x y); cases bmV m x y <;> rfl
@[simp] theorem x_mm {m : Mm} {a : Ex} {es : Es} : evE P call lamc (.mm m a es) env C = mm1 P call lamc m es env (evE P call lamc a env C) := by
  rw [evE, mm1]; congr 1; funext x C
  cases isLst C x with
  | false => rfl
  | true =>
    show R.bind _ _ = mm2 _ _ _
    rw [mm2]; congr 1; funext xs C
    cases x with
    | r n =>
      show (match (cellAt C n).bind fun c => (vals xs).bind fun ds => mmV m c ds with | some (c, d) => R.ok (.v d) (C.set n (some c)) | none => .bad) = mmO m n C (cellAt C n) (vals xs)
      cases cellAt C n with
      | none => rfl
      | some c => cases vals xs with
        | none => rfl
        | some ds => show (match mmV m c ds with | some (c, d) => R.ok (.v d) (C.set n (some c)) | none => .bad) = mmP n C (mmV m c ds); cases mmV m c ds <;> rfl
    | _ => rfl
@[simp] theorem x_comp {own : List Nat} {t : Tg} {it : It} {ifs : Eo} {r : Gn} : evE P call lamc (.comp own t it ifs r) env C = comp1 P call lamc own t ifs r env (evI P call lamc it env C) := by
  rw [evE, comp1]; congr 1; funext w C
  show (noexc (genR P call lamc t ifs r (wipeE env own) w.1 (lock C w.2) [])).bind _ = _
  cases genR P call lamc t ifs r (wipeE env own) w.1 (lock C w.2) [] <;> rfl
@[simp] theorem x_cp {a : Ex} : evE P call lamc (.cp a) env C = cp1 (evE P call lamc a env C) := by
  rw [evE, cp1]; congr 1
@[simp] theorem x_frz {a : Ex} : evE P call lamc (.frz a) env C = frz1 (evE P call lamc a env C) := by
  rw [evE, frz1]; congr 1
@[simp] theorem x_callL {i : Nat} : evE P call lamc (.callL i) env C = clR lamc (env[i]?).join env C := by
  rw [evE]; rfl
@[simp] theorem x_nil : evEs P call lamc .nil env C = .ok [] C := nrfl rfl
@[simp] theorem x_econs {e : Ex} {es : Es} : evEs P call lamc (.cons e es) env C = cons1 P call lamc es env (evE P call lamc e env C) := nrfl rfl
@[simp] theorem x_estar {e : Ex} {es : Es} : evEs P call lamc (.star e es) env C = star1 P call lamc es env (evE P call lamc e env C) := by
  rw [evEs, star1]; congr 1; funext x C
  cases see C x with
  | none => rfl
  | some d => cases d <;> rfl
@[simp] theorem x_onone : evO P call lamc .none env C = .ok none C := nrfl rfl
@[simp] theorem x_osome {e : Ex} : evO P call lamc (.some e) env C = oint1 (evE P call lamc e env C) := nrfl rfl
@[simp] theorem x_cnone : evC P call lamc .none env C = .ok true C := nrfl rfl
@[simp] theorem x_csome {e : Ex} : evC P call lamc (.some e) env C = cs1 (evE P call lamc e env C) := by
  rw [evC, truR, cs1]; congr 1; funext x C; cases truE C x <;> rfl
@[simp] theorem x_seq {e : Ex} : evI P call lamc (.seq e) env C = seq1 (evE P call lamc e env C) := by
  rw [evI, seq1]; congr 1; funext x C; cases (see C x).bind seqD <;> rfl
@[simp] theorem x_range1 {a : Ex} : evI P call lamc (.range1 a) env C = rng1 (evE P call lamc a env C) := nrfl rfl
@[simp] theorem x_range2 {a b : Ex} : evI P call lamc (.range2 a b) env C = rng2a P call lamc b env (evE P call lamc a env C) := nrfl rfl
@[simp] theorem x_enum {e : Ex} : evI P call lamc (.enum e) env C = enum1 (evE P call lamc e env C) := by
  rw [evI, enum1]; congr 1; funext x C; cases (see C x).bind lsD <;> rfl
@[simp] theorem x_zip {a b : Ex} : evI P call lamc (.zip a b) env C = zip1 P call lamc b env (evE P call lamc a env C) := nrfl rfl
@[simp] theorem x_elt {e : Ex} {acc : List D} : evG P call lamc (.elt e) env C acc = push1 acc (evE P call lamc e env C) := nrfl rfl
@[simp] theorem x_gen {t : Tg} {it : It} {ifs : Eo} {r : Gn} {acc : List D} : evG P call lamc (.gen t it ifs r) env C acc = gen1 P call lamc t ifs r env acc (evI P call lamc it env C) := nrfl rfl
theorem genR_nil {t : Tg} {ifs : Eo} {r : Gn} {acc : List D} : genR P call lamc t ifs r env [] C acc = .ok acc C := nrfl rfl
theorem genR_cons {t : Tg} {ifs : Eo} {r : Gn} {d : D} {ds : List D} {acc : List D} : genR P call lamc t ifs r env (d :: ds) C acc = genA P call lamc t ifs r env ds C acc (asgT t d env) := by
  rw [genR, compL]
  cases asgT t d env <;> rfl
/-! statements -/
@[simp] theorem x_snil : exSs P call lamc .nil env C = .next env C := nrfl rfl
@[simp] theorem x_scons {s : Sm} {r : Sms} : exSs P call lamc (.cons s r) env C = seqR P call lamc r (exS P call lamc s env C) := by
  rw [exSs]
  unfold seqR
  cases exS P call lamc s env C <;> rfl
@[simp] theorem x_exp {e : Ex} : exS P call lamc (.exp e) env C = expS env (evE P call lamc e env C) := by
  rw [exS]; cases evE P call lamc e env C <;> rfl
@[simp] theorem x_ret {e : Ex} : exS P call lamc (.ret e) env C = retS env (evE P call lamc e env C) := by
  rw [exS]; cases evE P call lamc e env C <;> rfl
@[simp] theorem x_retN : exS P call lamc .retN env C = .ret (.v .non) C := nrfl rfl
@[simp] theorem x_pass : exS P call lamc .pass env C = .next env C := nrfl rfl
@[simp] theorem x_brk : exS P call lamc .brk env C = .brk env C := nrfl rfl
@[simp] theorem x_cont : exS P call lamc .cont env C = .ct env C := nrfl rfl
@[simp] theorem x_asg {t : Tg} {e : Ex} : exS P call lamc (.asg t e) env C = asgS t env (evE P call lamc e env C) := by
  rw [exS]; cases evE P call lamc e env C with
  | ok x C => show (match asgE t x env with | none => _ | some env => _) = asgO C (asgE t x env); cases asgE t x env <;> rfl
  | _ => rfl
@[simp] theorem x_par {i j : Nat} {a b : Ex} : exS P call lamc (.par i j a b) env C = par1 P call lamc i j b env (evE P call lamc a env C) := by
  rw [exS]; cases evE P call lamc a env C with
  | ok x C => show R.st (evE P call lamc b env C) env _ = par2 i j x env (evE P call lamc b env C); cases evE P call lamc b env C <;> rfl
  | _ => rfl
@[simp] theorem x_aug {i : Nat} {o : Bop} {e : Ex} : exS P call lamc (.aug i o e) env C = augS P call lamc o i (env[i]?).join e env C := by
  rw [exS]
  cases (env[i]?).join with
  | none => rfl
  | some x =>
    cases x with
    | v d =>
      show R.st (evE P call lamc e env C) env _ = augV' o i d env (evE P call lamc e env C)
      cases evE P call lamc e env C with
      | ok y C => show (match (see C y).bind fun y => augV o d y with | none => _ | some z => _) = augO i env C ((see C y).bind fun y => augV o d y); cases (see C y).bind fun y => augV o d y <;> rfl
      | _ => rfl
    | r n =>
      show R.st (evE P call lamc e env C) env _ = augR' o i n env (evE P call lamc e env C)
      cases evE P call lamc e env C with
      | ok y C =>
        cases o with
        | add =>
          simp only [R.st, augR', augC]
          rcases cellAt C n with _ | c <;> rcases see C y with _ | d <;> first | rfl | (cases c <;> rfl) | (cases d <;> rfl) | (cases c <;> cases d <;> rfl)
        | _ => rfl
      | _ => rfl
    | _ => rfl
@[simp] theorem x_ife {c : Ex} {a b : Sms} : exS P call lamc (.ife c a b) env C = ifS P call lamc a b env (evE P call lamc c env C) := by
  rw [exS]; cases evE P call lamc c env C with
  | ok x C =>
    show (match truE C x with | none => _ | some true => _ | some false => _) = ifO P call lamc a b env C (truE C x)
    cases truE C x with
    | none => rfl
    | some b => cases b <;> rfl
  | _ => rfl
@[simp] theorem x_for {t : Tg} {it : It} {b : Sms} : exS P call lamc (.for t it b) env C = forS P call lamc t b env (evI P call lamc it env C) := by
  rw [exS]; cases evI P call lamc it env C <;> rfl
@[simp] theorem x_forL {i : Nat} {js : List Nat} {b : Sms} : exS P call lamc (.forL i js b) env C = lamG P call lamc i b js env C := nrfl rfl
@[simp] theorem lamG_nil {i : Nat} {b : Sms} : lamG P call lamc i b [] env C = .next env C := nrfl rfl
@[simp] theorem lamG_cons {i j : Nat} {js : List Nat} {b : Sms} : lamG P call lamc i b (j :: js) env C = lamTurn P call lamc i b js (exSs P call lamc b (env.set i (some (.clo j))) C) := by
  rw [lamG, forLam]
  unfold lamTurn
  cases exSs P call lamc b (env.set i (some (.clo j))) C <;> rfl
theorem forG_nil {t : Tg} {b : Sms} : forG P call lamc t b [] env C = .next env C := nrfl rfl
theorem forG_cons {t : Tg} {b : Sms} {d : D} {ds : List D} : forG P call lamc t b (d :: ds) env C = forA P call lamc t b ds C (asgT t d env) := by
  rw [forG, forL]
  cases asgT t d env with
  | none => rfl
  | some e => simp only [forA, forB]; cases exSs P call lamc b e C <;> rfl
@[simp] theorem x_raise {c : Nat} {es : Es} : exS P call lamc (.raise c es) env C = raiS P c env (evEs P call lamc es env C) := by
  rw [exS]; cases evEs P call lamc es env C <;> rfl
@[simp] theorem x_try {b : Sms} {hs : Hs} : exS P call lamc (.try b hs) env C = tryS P call lamc hs (exSs P call lamc b env C) := by
  rw [exS]
  unfold tryS
  cases exSs P call lamc b env C <;> rfl
@[simp] theorem x_hnil {c : Nat} {fs : List (Nm × D)} : exH P call lamc .nil c fs env C = .exc c fs env C := nrfl rfl
@[simp] theorem x_hcons {d c : Nat} {as : Option Nat} {b : Sms} {r : Hs} {fs : List (Nm × D)} : exH P call lamc (.cons d as b r) c fs env C = hndB P call lamc as b r c fs env C (under P c d) := by
  simp only [exH]
  cases under P c d with
  | false => rfl
  | true =>
    cases as with
    | none => simp only [hndB, if_true, hnd] <;> cases exSs P call lamc b env C <;> rfl
    | some i => simp only [hndB, if_true, hnd] <;> cases exSs P call lamc b (env.set i (some (.exn c fs))) C <;> rfl
end
section
variable {P : Prog} {call : Nat → List E → Cells → R E} {lamc : Nat → Env → Cells → R E} {env : Env} {C C0 : Cells}
@[simp] theorem tup1_ok  {xs : List E} : tup1 (.ok xs C) = tupO C (vals xs) := nrfl rfl
@[simp] theorem tup1_x  {c : Nat} {fs : List (Nm × D)} : tup1 (.exc c fs C) = .exc c fs C := nrfl rfl
@[simp] theorem lst1_ok {m : Bool} {xs : List E} : lst1 m (.ok xs C) = lstO m C (vals xs) := nrfl rfl
@[simp] theorem lst1_x {m : Bool} {c : Nat} {fs : List (Nm × D)} : lst1 m (.exc c fs C) = .exc c fs C := nrfl rfl
@[simp] theorem bop2_ok {o : Bop} {x : E} {y : E} : bop2 o x (.ok y C) = okV C (bin (bopV o) (see C x) (see C y)) := nrfl rfl
@[simp] theorem bop2_x {o : Bop} {x : E} {c : Nat} {fs : List (Nm × D)} : bop2 o x (.exc c fs C) = .exc c fs C := nrfl rfl
@[simp] theorem bop1_ok {o : Bop} {b : Ex} {x : E} : bop1 P call lamc o b env (.ok x C) = bop2 o x (evE P call lamc b env C) := nrfl rfl
@[simp] theorem bop1_x {o : Bop} {b : Ex} {c : Nat} {fs : List (Nm × D)} : bop1 P call lamc o b env (.exc c fs C) = .exc c fs C := nrfl rfl
@[simp] theorem cmp2_ok {o : Cop} {x : E} {y : E} : cmp2 o x (.ok y C) = okB C (bin (copV o) (see C x) (see C y)) := nrfl rfl
@[simp] theorem cmp2_x {o : Cop} {x : E} {c : Nat} {fs : List (Nm × D)} : cmp2 o x (.exc c fs C) = .exc c fs C := nrfl rfl
@[simp] theorem cmp1_ok {o : Cop} {b : Ex} {x : E} : cmp1 P call lamc o b env (.ok x C) = cmp2 o x (evE P call lamc b env C) := nrfl rfl
@[simp] theorem cmp1_x {o : Cop} {b : Ex} {c : Nat} {fs : List (Nm × D)} : cmp1 P call lamc o b env (.exc c fs C) = .exc c fs C := nrfl rfl
@[simp] theorem chn2_ok {o o' : Cop} {c : Ex} {x : E} {y : E} : chn2 P call lamc o o' c env x (.ok y C) = chnO P call lamc o' c y env C (bin (copV o) (see C x) (see C y)) := nrfl rfl
@[simp] theorem chn2_x {o o' : Cop} {c : Ex} {x : E} {k : Nat} {fs : List (Nm × D)} : chn2 P call lamc o o' c env x (.exc k fs C) = .exc k fs C := nrfl rfl
@[simp] theorem chn1_ok {o o' : Cop} {b c : Ex} {x : E} : chn1 P call lamc o o' b c env (.ok x C) = chn2 P call lamc o o' c env x (evE P call lamc b env C) := nrfl rfl
@[simp] theorem chn1_x {o o' : Cop} {b c : Ex} {k : Nat} {fs : List (Nm × D)} : chn1 P call lamc o o' b c env (.exc k fs C) = .exc k fs C := nrfl rfl
@[simp] theorem isN1_ok {neg : Bool} {x : E} : isN1 neg (.ok x C) = .ok (.v (.bl (isNone neg x))) C := nrfl rfl
@[simp] theorem isN1_x {neg : Bool} {c : Nat} {fs : List (Nm × D)} : isN1 neg (.exc c fs C) = .exc c fs C := nrfl rfl
@[simp] theorem and1_ok {b : Ex} {x : E} : and1 P call lamc b env (.ok x C) = andO P call lamc b env x C (truE C x) := nrfl rfl
@[simp] theorem and1_x {b : Ex} {c : Nat} {fs : List (Nm × D)} : and1 P call lamc b env (.exc c fs C) = .exc c fs C := nrfl rfl
@[simp] theorem or1_ok {b : Ex} {x : E} : or1 P call lamc b env (.ok x C) = orO P call lamc b env x C (truE C x) := nrfl rfl
@[simp] theorem or1_x {b : Ex} {c : Nat} {fs : List (Nm × D)} : or1 P call lamc b env (.exc c fs C) = .exc c fs C := nrfl rfl
@[simp] theorem not1_ok  {x : E} : not1 (.ok x C) = notO C (truE C x) := nrfl rfl
@[simp] theorem not1_x  {c : Nat} {fs : List (Nm × D)} : not1 (.exc c fs C) = .exc c fs C := nrfl rfl
@[simp] theorem ite1_ok {a b : Ex} {x : E} : ite1 P call lamc a b env (.ok x C) = iteO P call lamc a b env C (truE C x) := nrfl rfl
@[simp] theorem ite1_x {a b : Ex} {c : Nat} {fs : List (Nm × D)} : ite1 P call lamc a b env (.exc c fs C) = .exc c fs C := nrfl rfl
@[simp] theorem idx2_ok {x : E} {y : E} : idx2 x (.ok y C) = okV C (bin idxV (see C x) (see C y)) := nrfl rfl
@[simp] theorem idx2_x {x : E} {c : Nat} {fs : List (Nm × D)} : idx2 x (.exc c fs C) = .exc c fs C := nrfl rfl
@[simp] theorem idx1_ok {b : Ex} {x : E} : idx1 P call lamc b env (.ok x C) = idx2 x (evE P call lamc b env C) := nrfl rfl
@[simp] theorem idx1_x {b : Ex} {c : Nat} {fs : List (Nm × D)} : idx1 P call lamc b env (.exc c fs C) = .exc c fs C := nrfl rfl
@[simp] theorem sl2_ok {hi : Eo} {x : E} {l : Option Int} : sl2 P call lamc hi env x (.ok l C) = sl3 x l (evO P call lamc hi env C) := nrfl rfl
@[simp] theorem sl2_x {hi : Eo} {x : E} {c : Nat} {fs : List (Nm × D)} : sl2 P call lamc hi env x (.exc c fs C) = .exc c fs C := nrfl rfl
@[simp] theorem sl1_ok {lo hi : Eo} {x : E} : sl1 P call lamc lo hi env (.ok x C) = sl2 P call lamc hi env x (evO P call lamc lo env C) := nrfl rfl
@[simp] theorem sl1_x {lo hi : Eo} {c : Nat} {fs : List (Nm × D)} : sl1 P call lamc lo hi env (.exc c fs C) = .exc c fs C := nrfl rfl
@[simp] theorem attr1_ok {f : Nm} {x : E} : attr1 f (.ok x C) = okEO C (attrE C f x) := nrfl rfl
@[simp] theorem attr1_x {f : Nm} {c : Nat} {fs : List (Nm × D)} : attr1 f (.exc c fs C) = .exc c fs C := nrfl rfl
@[simp] theorem call1_ok {f : Nat} {xs : List E} : call1 call f (.ok xs C) = call f xs C := nrfl rfl
@[simp] theorem call1_x {f : Nat} {c : Nat} {fs : List (Nm × D)} : call1 call f (.exc c fs C) = .exc c fs C := nrfl rfl
@[simp] theorem callP1_ok {f : Nat} {xs : List E} : callP1 call f (.ok xs C) = callPO call f C (vals xs) := nrfl rfl
@[simp] theorem callP1_x {f : Nat} {c : Nat} {fs : List (Nm × D)} : callP1 call f (.exc c fs C) = .exc c fs C := nrfl rfl
@[simp] theorem bi1_ok {b : Bi} {xs : List E} : bi1 b (.ok xs C) = biO b C (sees C xs) := nrfl rfl
@[simp] theorem bi1_x {b : Bi} {c : Nat} {fs : List (Nm × D)} : bi1 b (.exc c fs C) = .exc c fs C := nrfl rfl
@[simp] theorem isi1_ok {ts : List Ty} {x : E} : isi1 ts (.ok x C) = okB C (isiE C x ts) := nrfl rfl
@[simp] theorem isi1_x {ts : List Ty} {c : Nat} {fs : List (Nm × D)} : isi1 ts (.exc c fs C) = .exc c fs C := nrfl rfl
@[simp] theorem bm2_ok {m : Bm} {x : E} {xs : List E} : bm2 m x (.ok xs C) = bmO m C (see C x) (sees C xs) := nrfl rfl
@[simp] theorem bm2_x {m : Bm} {x : E} {c : Nat} {fs : List (Nm × D)} : bm2 m x (.exc c fs C) = .exc c fs C := nrfl rfl
@[simp] theorem bm1_ok {m : Bm} {es : Es} {x : E} : bm1 P call lamc m es env (.ok x C) = bmB P call lamc m es env x C (isLst C x) := nrfl rfl
@[simp] theorem bm1_x {m : Bm} {es : Es} {c : Nat} {fs : List (Nm × D)} : bm1 P call lamc m es env (.exc c fs C) = .exc c fs C := nrfl rfl
@[simp] theorem mm1_ok {m : Mm} {es : Es} {x : E} : mm1 P call lamc m es env (.ok x C) = mmB P call lamc m es env x C (isLst C x) := nrfl rfl
@[simp] theorem mm1_x {m : Mm} {es : Es} {c : Nat} {fs : List (Nm × D)} : mm1 P call lamc m es env (.exc c fs C) = .exc c fs C := nrfl rfl
@[simp] theorem comp1_ok {own : List Nat} {t : Tg} {ifs : Eo} {g : Gn} {ds : List D} {y : E} : comp1 P call lamc own t ifs g env (.ok (ds, y) C) = compE C y (genR P call lamc t ifs g (wipeE env own) ds (lock C y) []) := nrfl rfl
@[simp] theorem comp1_x {own : List Nat} {t : Tg} {ifs : Eo} {g : Gn} {c : Nat} {fs : List (Nm × D)} : comp1 P call lamc own t ifs g env (.exc c fs C) = .exc c fs C := nrfl rfl
@[simp] theorem genB_ok {t : Tg} {ifs : Eo} {g : Gn} {ds : List D} {a : List D} : genB P call lamc t ifs g env ds (.ok a C) = genR P call lamc t ifs g env ds C a := nrfl rfl
@[simp] theorem genB_x {t : Tg} {ifs : Eo} {g : Gn} {ds : List D} {c : Nat} {fs : List (Nm × D)} : genB P call lamc t ifs g env ds (.exc c fs C) = .exc c fs C := nrfl rfl
@[simp] theorem genW_ok {y : E} {a : List D} : genW C0 y (.ok a C) = .ok a (unlock C0 C y) := nrfl rfl
@[simp] theorem genW_x {y : E} {c : Nat} {fs : List (Nm × D)} : genW C0 y (.exc c fs C) = .exc c fs C := nrfl rfl
@[simp] theorem gen1_ok {t : Tg} {ifs : Eo} {g : Gn} {acc : List D} {ds : List D} {y : E} : gen1 P call lamc t ifs g env acc (.ok (ds, y) C) = genW C y (genR P call lamc t ifs g (wipeE env (tsl t ++ gsl g)) ds (lock C y) acc) := nrfl rfl
@[simp] theorem gen1_x {t : Tg} {ifs : Eo} {g : Gn} {acc : List D} {c : Nat} {fs : List (Nm × D)} : gen1 P call lamc t ifs g env acc (.exc c fs C) = .exc c fs C := nrfl rfl
@[simp] theorem cp1_ok  {x : E} : cp1 (.ok x C) = cpO C (see C x) := nrfl rfl
@[simp] theorem cp1_x  {c : Nat} {fs : List (Nm × D)} : cp1 (.exc c fs C) = .exc c fs C := nrfl rfl
@[simp] theorem frz1_ok  {x : E} : frz1 (.ok x C) = frzR C x := nrfl rfl
@[simp] theorem frz1_x  {c : Nat} {fs : List (Nm × D)} : frz1 (.exc c fs C) = .exc c fs C := nrfl rfl
@[simp] theorem cons2_ok {x : E} {xs : List E} : cons2 x (.ok xs C) = .ok (x :: xs) C := nrfl rfl
@[simp] theorem cons2_x {x : E} {c : Nat} {fs : List (Nm × D)} : cons2 x (.exc c fs C) = .exc c fs C := nrfl rfl
@[simp] theorem cons1_ok {es : Es} {x : E} : cons1 P call lamc es env (.ok x C) = cons2 x (evEs P call lamc es env C) := nrfl rfl
@[simp] theorem cons1_x {es : Es} {c : Nat} {fs : List (Nm × D)} : cons1 P call lamc es env (.exc c fs C) = .exc c fs C := nrfl rfl
@[simp] theorem star2_ok {ds : List D} {xs : List E} : star2 ds (.ok xs C) = .ok (ds.map .v ++ xs) C := nrfl rfl
@[simp] theorem star2_x {ds : List D} {c : Nat} {fs : List (Nm × D)} : star2 ds (.exc c fs C) = .exc c fs C := nrfl rfl
@[simp] theorem star1_ok {es : Es} {x : E} : star1 P call lamc es env (.ok x C) = starO P call lamc es env C (starD (see C x)) := nrfl rfl
@[simp] theorem star1_x {es : Es} {c : Nat} {fs : List (Nm × D)} : star1 P call lamc es env (.exc c fs C) = .exc c fs C := nrfl rfl
@[simp] theorem oint1_ok  {x : E} : oint1 (.ok x C) = oint x C := nrfl rfl
@[simp] theorem oint1_x  {c : Nat} {fs : List (Nm × D)} : oint1 (.exc c fs C) = .exc c fs C := nrfl rfl
@[simp] theorem cs1_ok  {x : E} : cs1 (.ok x C) = csO C (truE C x) := nrfl rfl
@[simp] theorem cs1_x  {c : Nat} {fs : List (Nm × D)} : cs1 (.exc c fs C) = .exc c fs C := nrfl rfl
@[simp] theorem seq1_ok  {x : E} : seq1 (.ok x C) = seqO x C ((see C x).bind seqD) := nrfl rfl
@[simp] theorem seq1_x  {c : Nat} {fs : List (Nm × D)} : seq1 (.exc c fs C) = .exc c fs C := nrfl rfl
@[simp] theorem rng1_ok  {x : E} : rng1 (.ok x C) = rng1E x C := nrfl rfl
@[simp] theorem rng1_x  {c : Nat} {fs : List (Nm × D)} : rng1 (.exc c fs C) = .exc c fs C := nrfl rfl
@[simp] theorem rng2b_ok {x : E} {y : E} : rng2b x (.ok y C) = rng2E x y C := nrfl rfl
@[simp] theorem rng2b_x {x : E} {c : Nat} {fs : List (Nm × D)} : rng2b x (.exc c fs C) = .exc c fs C := nrfl rfl
@[simp] theorem rng2a_ok {b : Ex} {x : E} : rng2a P call lamc b env (.ok x C) = rng2b x (evE P call lamc b env C) := nrfl rfl
@[simp] theorem rng2a_x {b : Ex} {c : Nat} {fs : List (Nm × D)} : rng2a P call lamc b env (.exc c fs C) = .exc c fs C := nrfl rfl
@[simp] theorem enum1_ok  {x : E} : enum1 (.ok x C) = enumO x C ((see C x).bind lsD) := nrfl rfl
@[simp] theorem enum1_x  {c : Nat} {fs : List (Nm × D)} : enum1 (.exc c fs C) = .exc c fs C := nrfl rfl
@[simp] theorem zip2_ok {x : E} {y : E} : zip2 x (.ok y C) = zipE C x y := nrfl rfl
@[simp] theorem zip2_x {x : E} {c : Nat} {fs : List (Nm × D)} : zip2 x (.exc c fs C) = .exc c fs C := nrfl rfl
@[simp] theorem zip1_ok {b : Ex} {x : E} : zip1 P call lamc b env (.ok x C) = zip2 x (evE P call lamc b env C) := nrfl rfl
@[simp] theorem zip1_x {b : Ex} {c : Nat} {fs : List (Nm × D)} : zip1 P call lamc b env (.exc c fs C) = .exc c fs C := nrfl rfl
@[simp] theorem sl3_v {d : D} {l h : Option Int} : sl3 (.v d) l (.ok h C) = okV C (slV d l h) := nrfl rfl
@[simp] theorem sl3_r {n : Nat} {l h : Option Int} : sl3 (.r n) l (.ok h C) = okV C (((cellAt C n).bind cellD).bind fun x => slV x l h) := nrfl rfl
@[simp] theorem mm2_r {m : Mm} {n : Nat} {xs : List E} : mm2 m (.r n) (.ok xs C) = mmO m n C (cellAt C n) (vals xs) := nrfl rfl
theorem push1_v {d : D} {acc : List D} : push1 acc (.ok (.v d) C) = if acc.length < 16777216 then .ok (acc ++ [d]) C else .bad := nrfl rfl
theorem push1_ok {d : D} {acc : List D} (h : acc.length < line) : push1 acc (.ok (.v d) C) = .ok (acc ++ [d]) C := by rw [push1_v]; exact if_pos h
@[simp] theorem stepG_t {r : Gn} {acc : List D} : stepG P call lamc r env acc (.ok true C) = evG P call lamc r env C acc := nrfl rfl
@[simp] theorem stepG_f {r : Gn} {acc : List D} : stepG P call lamc r env acc (.ok false C) = .ok acc C := nrfl rfl
@[simp] theorem compE_ok {y : E} {ds : List D} : compE C0 y (.ok ds C) = .ok (.v (.lst ds)) (unlock C0 C y) := nrfl rfl
@[simp] theorem tupO_s  {ds : List D} : tupO C (some ds) = if ds.length ≤ 16777216 then .ok (.v (.tup ds)) C else .bad := nrfl rfl
@[simp] theorem callPO_s {f : Nat} {ds : List D} : callPO call f C (some ds) = pureCall call f ds C := nrfl rfl
@[simp] theorem biO_s {b : Bi} {ds : List D} : biO b C (some ds) = okV C (biV b ds) := nrfl rfl
@[simp] theorem notO_s  {b : Bool} : notO C (some b) = .ok (.v (.bl (!b))) C := nrfl rfl
@[simp] theorem csO_s  {b : Bool} : csO C (some b) = .ok b C := nrfl rfl
@[simp] theorem okEO_s  {e : E} : okEO C (some e) = .ok e C := nrfl rfl
@[simp] theorem seqO_s {x : E} {ds : List D} : seqO x C (some ds) = .ok (ds, x) C := nrfl rfl
@[simp] theorem enumO_s {x : E} {ds : List D} : enumO x C (some ds) = .ok (enumD 0 ds, x) C := nrfl rfl
@[simp] theorem starO_s {es : Es} {ds : List D} : starO P call lamc es env C (some ds) = star2 ds (evEs P call lamc es env C) := nrfl rfl
@[simp] theorem genA_s {t : Tg} {ifs : Eo} {g : Gn} {ds acc : List D} {e : Env} : genA P call lamc t ifs g env ds C acc (some e) = genB P call lamc t ifs g env ds (stepG P call lamc g e acc (evC P call lamc ifs e C)) := nrfl rfl
@[simp] theorem asgO_s  {e : Env} : asgO C (some e) = .next e C := nrfl rfl
@[simp] theorem augO_s {i : Nat} {d : D} : augO i env C (some d) = .next (env.set i (some (.v d))) C := nrfl rfl
@[simp] theorem forA_s {t : Tg} {b : Sms} {ds : List D} {e : Env} : forA P call lamc t b ds C (some e) = forB P call lamc t b ds (exSs P call lamc b e C) := nrfl rfl
@[simp] theorem xfC_s {cl : Cl} {f : Nm} {fs : List (Nm × D)} : xfC (some cl) f fs C = if cl.flds.contains f then okV C (lookFD f fs) else .bad := nrfl rfl
@[simp] theorem lstO_sf {ds : List D} : lstO false C (some ds) = if ds.length ≤ 16777216 then .ok (.v (.lst ds)) C else .bad := nrfl rfl
@[simp] theorem lstO_st {ds : List D} : lstO true C (some ds) = if ds.length ≤ 16777216 then .ok (.r C.length) (C ++ [some (.lst ds)]) else .bad := nrfl rfl
@[simp] theorem andO_t {b : Ex} {x : E} : andO P call lamc b env x C (some true) = evE P call lamc b env C := nrfl rfl
@[simp] theorem andO_f {b : Ex} {x : E} : andO P call lamc b env x C (some false) = .ok x C := nrfl rfl
@[simp] theorem orO_t {b : Ex} {x : E} : orO P call lamc b env x C (some true) = .ok x C := nrfl rfl
@[simp] theorem orO_f {b : Ex} {x : E} : orO P call lamc b env x C (some false) = evE P call lamc b env C := nrfl rfl
@[simp] theorem iteO_t {a b : Ex} : iteO P call lamc a b env C (some true) = evE P call lamc a env C := nrfl rfl
@[simp] theorem iteO_f {a b : Ex} : iteO P call lamc a b env C (some false) = evE P call lamc b env C := nrfl rfl
@[simp] theorem chnO_t {o' : Cop} {c : Ex} {y : E} : chnO P call lamc o' c y env C (some true) = cmp2 o' y (evE P call lamc c env C) := nrfl rfl
@[simp] theorem chnO_f {o' : Cop} {c : Ex} {y : E} : chnO P call lamc o' c y env C (some false) = .ok (.v (.bl false)) C := nrfl rfl
@[simp] theorem ifO_t {a b : Sms} : ifO P call lamc a b env C (some true) = exSs P call lamc a env C := nrfl rfl
@[simp] theorem ifO_f {a b : Sms} : ifO P call lamc a b env C (some false) = exSs P call lamc b env C := nrfl rfl
@[simp] theorem bmO_s {m : Bm} {d : D} {ds : List D} : bmO m C (some d) (some ds) = okV C (bmV m d ds) := nrfl rfl
@[simp] theorem bmB_t {m : Bm} {es : Es} {x : E} : bmB P call lamc m es env x C true = bm2 m x (evEs P call lamc es env C) := nrfl rfl
@[simp] theorem mmB_t {m : Mm} {es : Es} {x : E} : mmB P call lamc m es env x C true = mm2 m x (evEs P call lamc es env C) := nrfl rfl
@[simp] theorem mmO_s {m : Mm} {n : Nat} {c : Cell} {ds : List D} : mmO m n C (some c) (some ds) = mmP n C (mmV m c ds) := nrfl rfl
@[simp] theorem mmP_s {n : Nat} {c : Cell} {d : D} : mmP n C (some (c, d)) = .ok (.v d) (C.set n (some c)) := nrfl rfl
@[simp] theorem xfR_exn {f : Nm} {c : Nat} {fs : List (Nm × D)} : xfR P f (some (.exn c fs)) C = xfC P.cls[c]? f fs C := nrfl rfl
@[simp] theorem cpO_l {xs : List D} : cpO C (some (.lst xs)) = .ok (.r C.length) (C ++ [some (.lst xs)]) := nrfl rfl
@[simp] theorem cpO_t {xs : List D} : cpO C (some (.tup xs)) = .ok (.r C.length) (C ++ [some (.lst xs)]) := nrfl rfl
@[simp] theorem frz_v {d : D} : frzR C (.v d) = .ok (.v d) C := nrfl rfl
theorem frz_r {n : Nat} {xs : List D} (h : cellAt C n = some (.lst xs)) : frzR C (.r n) = .ok (.v (.lst xs)) (C.set n none) := by rw [frzR, h]
@[simp] theorem clR_clo {j : Nat} : clR lamc (some (.clo j)) env C = lamc j env C := nrfl rfl
@[simp] theorem starD_l {xs : List D} : starD (some (.lst xs)) = some xs := nrfl rfl
@[simp] theorem starD_t {xs : List D} : starD (some (.tup xs)) = some xs := nrfl rfl
@[simp] theorem oint_int {i : Int} : oint (.v (.int i)) C = .ok (some i) C := nrfl rfl
@[simp] theorem rng1E_int {j : Int} : rng1E (.v (.int j)) C = if rngOk j then .ok (rangeD 0 1 j.toNat, .v .non) C else .bad := nrfl rfl
@[simp] theorem rng2E_int {i j : Int} : rng2E (.v (.int i)) (.v (.int j)) C = if rngOk i && rngOk j then .ok (rangeD i 1 (j - i).toNat, .v .non) C else .bad := nrfl rfl
@[simp] theorem expS_ok  {x : E} : expS env (.ok x C) = .next env C := nrfl rfl
@[simp] theorem expS_x  {c' : Nat} {fs : List (Nm × D)} : expS env (.exc c' fs C) = .exc c' fs env C := nrfl rfl
@[simp] theorem retS_ok  {x : E} : retS env (.ok x C) = .ret x C := nrfl rfl
@[simp] theorem retS_x  {c' : Nat} {fs : List (Nm × D)} : retS env (.exc c' fs C) = .exc c' fs env C := nrfl rfl
@[simp] theorem asgS_ok {t : Tg} {x : E} : asgS t env (.ok x C) = asgO C (asgE t x env) := nrfl rfl
@[simp] theorem asgS_x {t : Tg} {c' : Nat} {fs : List (Nm × D)} : asgS t env (.exc c' fs C) = .exc c' fs env C := nrfl rfl
@[simp] theorem par2_ok {i j : Nat} {x : E} {y : E} : par2 i j x env (.ok y C) = .next ((env.set i (some x)).set j (some y)) C := nrfl rfl
@[simp] theorem par2_x {i j : Nat} {x : E} {c' : Nat} {fs : List (Nm × D)} : par2 i j x env (.exc c' fs C) = .exc c' fs env C := nrfl rfl
@[simp] theorem par1_ok {i j : Nat} {b : Ex} {x : E} : par1 P call lamc i j b env (.ok x C) = par2 i j x env (evE P call lamc b env C) := nrfl rfl
@[simp] theorem par1_x {i j : Nat} {b : Ex} {c' : Nat} {fs : List (Nm × D)} : par1 P call lamc i j b env (.exc c' fs C) = .exc c' fs env C := nrfl rfl
@[simp] theorem ifS_ok {a b : Sms} {x : E} : ifS P call lamc a b env (.ok x C) = ifO P call lamc a b env C (truE C x) := nrfl rfl
@[simp] theorem ifS_x {a b : Sms} {c' : Nat} {fs : List (Nm × D)} : ifS P call lamc a b env (.exc c' fs C) = .exc c' fs env C := nrfl rfl
@[simp] theorem forS_ok {t : Tg} {b : Sms} {ds : List D} {y : E} : forS P call lamc t b env (.ok (ds, y) C) = forU C y (forG P call lamc t b ds env (lock C y)) := nrfl rfl
@[simp] theorem forS_x {t : Tg} {b : Sms} {c' : Nat} {fs : List (Nm × D)} : forS P call lamc t b env (.exc c' fs C) = .exc c' fs env C := nrfl rfl
@[simp] theorem raiS_ok {c : Nat} {xs : List E} : raiS P c env (.ok xs C) = raiR P.cls[c]? c (vals xs) env C := nrfl rfl
@[simp] theorem raiS_x {c : Nat} {c' : Nat} {fs : List (Nm × D)} : raiS P c env (.exc c' fs C) = .exc c' fs env C := nrfl rfl
@[simp] theorem augV'_v {o : Bop} {i : Nat} {d y : D} : augV' o i d env (.ok (.v y) C) = augO i env C (augV o d y) := nrfl rfl
@[simp] theorem augV'_r {o : Bop} {i n : Nat} {d : D} : augV' o i d env (.ok (.r n) C) = augO i env C (((cellAt C n).bind cellD).bind fun y => augV o d y) := nrfl rfl
@[simp] theorem augV'_x {o : Bop} {i c : Nat} {d : D} {fs : List (Nm × D)} : augV' o i d env (.exc c fs C) = .exc c fs env C := nrfl rfl
@[simp] theorem augR'_ok {i n : Nat} {y : E} : augR' .add i n env (.ok y C) = augC i n env C (cellAt C n) (see C y) := nrfl rfl
@[simp] theorem augR'_x {i n c : Nat} {fs : List (Nm × D)} : augR' .add i n env (.exc c fs C) = .exc c fs env C := nrfl rfl
@[simp] theorem augC_s {i n : Nat} {xs ys : List D} : augC i n env C (some (.lst xs)) (some (.lst ys)) = if xs.length + ys.length ≤ 16777216 then .next (env.set i (some (.r n))) (C.set n (some (.lst (xs ++ ys)))) else .bad := nrfl rfl
@[simp] theorem augS_v {o : Bop} {i : Nat} {d : D} {e : Ex} : augS P call lamc o i (some (.v d)) e env C = augV' o i d env (evE P call lamc e env C) := nrfl rfl
@[simp] theorem augS_r {o : Bop} {i n : Nat} {e : Ex} : augS P call lamc o i (some (.r n)) e env C = augR' o i n env (evE P call lamc e env C) := nrfl rfl
@[simp] theorem raiR_s {cl : Cl} {c : Nat} {ds : List D} : raiR (some cl) c (some ds) env C = if ds.length = cl.flds.length then .exc c (cl.flds.zip ds) env C else .bad := nrfl rfl
@[simp] theorem seqR_next {r : Sms} : seqR P call lamc r (.next env C) = exSs P call lamc r env C := nrfl rfl
@[simp] theorem seqR_ct {r : Sms} : seqR P call lamc r (.ct env C) = .ct env C := nrfl rfl
@[simp] theorem seqR_brk {r : Sms} : seqR P call lamc r (.brk env C) = .brk env C := nrfl rfl
@[simp] theorem seqR_ret {r : Sms} {e : E} : seqR P call lamc r (.ret e C) = .ret e C := nrfl rfl
@[simp] theorem seqR_exc {r : Sms} {c : Nat} {fs : List (Nm × D)} : seqR P call lamc r (.exc c fs env C) = .exc c fs env C := nrfl rfl
@[simp] theorem forB_next {t : Tg} {b : Sms} {ds : List D} : forB P call lamc t b ds (.next env C) = forG P call lamc t b ds env C := nrfl rfl
@[simp] theorem forB_ct {t : Tg} {b : Sms} {ds : List D} : forB P call lamc t b ds (.ct env C) = forG P call lamc t b ds env C := nrfl rfl
@[simp] theorem forB_brk {t : Tg} {b : Sms} {ds : List D} : forB P call lamc t b ds (.brk env C) = .next env C := nrfl rfl
@[simp] theorem forB_ret {t : Tg} {b : Sms} {ds : List D} {e : E} : forB P call lamc t b ds (.ret e C) = .ret e C := nrfl rfl
@[simp] theorem forB_exc {t : Tg} {b : Sms} {ds : List D} {c : Nat} {fs : List (Nm × D)} : forB P call lamc t b ds (.exc c fs env C) = .exc c fs env C := nrfl rfl
@[simp] theorem lamTurn_next {i : Nat} {b : Sms} {js : List Nat} : lamTurn P call lamc i b js (.next env C) = lamG P call lamc i b js env C := nrfl rfl
@[simp] theorem lamTurn_ct {i : Nat} {b : Sms} {js : List Nat} : lamTurn P call lamc i b js (.ct env C) = lamG P call lamc i b js env C := nrfl rfl
@[simp] theorem lamTurn_brk {i : Nat} {b : Sms} {js : List Nat} : lamTurn P call lamc i b js (.brk env C) = .next env C := nrfl rfl
@[simp] theorem lamTurn_ret {i : Nat} {b : Sms} {js : List Nat} {e : E} : lamTurn P call lamc i b js (.ret e C) = .ret e C := nrfl rfl
@[simp] theorem lamTurn_exc {i : Nat} {b : Sms} {js : List Nat} {c : Nat} {fs : List (Nm × D)} : lamTurn P call lamc i b js (.exc c fs env C) = .exc c fs env C := nrfl rfl
@[simp] theorem tryS_next {hs : Hs} : tryS P call lamc hs (.next env C) = .next env C := nrfl rfl
@[simp] theorem tryS_ct {hs : Hs} : tryS P call lamc hs (.ct env C) = .ct env C := nrfl rfl
@[simp] theorem tryS_brk {hs : Hs} : tryS P call lamc hs (.brk env C) = .brk env C := nrfl rfl
@[simp] theorem tryS_ret {hs : Hs} {e : E} : tryS P call lamc hs (.ret e C) = .ret e C := nrfl rfl
@[simp] theorem tryS_exc {hs : Hs} {c : Nat} {fs : List (Nm × D)} : tryS P call lamc hs (.exc c fs env C) = exH P call lamc hs c fs env C := nrfl rfl
@[simp] theorem forU_v {d : D} {x : RS} : forU C0 (.v d) x = x := by cases x <;> rfl
@[simp] theorem forU_next {y e : E} {c : Nat} {fs : List (Nm × D)} : forU C0 y (.next env C) = .next env (unlock C0 C y) := nrfl rfl
@[simp] theorem forU_ret {y e : E} {c : Nat} {fs : List (Nm × D)} : forU C0 y (.ret e C) = .ret e (unlock C0 C y) := nrfl rfl
@[simp] theorem forU_exc {y e : E} {c : Nat} {fs : List (Nm × D)} : forU C0 y (.exc c fs env C) = .exc c fs env (unlock C0 C y) := nrfl rfl
@[simp] theorem hnd_ret {e : E} {o : Option Nat} : hnd o (.ret e C) = .ret e C := by cases o <;> rfl
@[simp] theorem hnd_nextN  : hnd none (.next env C) = .next env C := nrfl rfl
@[simp] theorem hnd_next {i : Nat} : hnd (some i) (.next env C) = if cleanE (env.set i none) then .next (env.set i none) C else .bad := nrfl rfl
@[simp] theorem hnd_ctN  : hnd none (.ct env C) = .ct env C := nrfl rfl
@[simp] theorem hnd_ct {i : Nat} : hnd (some i) (.ct env C) = if cleanE (env.set i none) then .ct (env.set i none) C else .bad := nrfl rfl
@[simp] theorem hnd_brkN  : hnd none (.brk env C) = .brk env C := nrfl rfl
@[simp] theorem hnd_brk {i : Nat} : hnd (some i) (.brk env C) = if cleanE (env.set i none) then .brk (env.set i none) C else .bad := nrfl rfl
@[simp] theorem hndB_tn {b : Sms} {r : Hs} {c : Nat} {fs : List (Nm × D)} : hndB P call lamc none b r c fs env C true = hnd none (exSs P call lamc b env C) := nrfl rfl
@[simp] theorem hndB_ts {i : Nat} {b : Sms} {r : Hs} {c : Nat} {fs : List (Nm × D)} : hndB P call lamc (some i) b r c fs env C true = hnd (some i) (exSs P call lamc b (env.set i (some (.exn c fs))) C) := nrfl rfl
@[simp] theorem hndB_f {o : Option Nat} {b : Sms} {r : Hs} {c : Nat} {fs : List (Nm × D)} : hndB P call lamc o b r c fs env C false = exH P call lamc r c fs env C := nrfl rfl
end
@[simp] theorem lock_v {C : Cells} {d : D} : lock C (.v d) = C := nrfl rfl
@[simp] theorem unlock_v {C0 C : Cells} {d : D} : unlock C0 C (.v d) = C := nrfl rfl

section
variable {env : Env} {C : Cells}
@[simp] theorem kd_non : K.d .non = .non := nrfl rfl
@[simp] theorem kd_bl {b : Bool} : K.d (.bl b) = .bl b := nrfl rfl
@[simp] theorem kd_int {i : Int} : K.d (.int i) = .int i := nrfl rfl
@[simp] theorem kd_str {s : Nm} : K.d (.str s) = .str s := nrfl rfl
@[simp] theorem vals_nil : vals [] = some [] := nrfl rfl
@[simp] theorem vals_cons {d : D} {r : List E} : vals (.v d :: r) = (vals r).map (d :: ·) := nrfl rfl
@[simp] theorem sees_nil : sees C [] = some [] := nrfl rfl
@[simp] theorem sees_v {d : D} {r : List E} : sees C (.v d :: r) = (sees C r).map (d :: ·) := nrfl rfl
@[simp] theorem sees_r {n : Nat} {r : List E} : sees C (.r n :: r) = ((cellAt C n).bind cellD).bind fun d => (sees C r).map (d :: ·) := nrfl rfl
@[simp] theorem asgE_nm {i : Nat} {e : E} : asgE (.nm i) e env = some (env.set i (some e)) := nrfl rfl
@[simp] theorem asgE_tup {ts : Tgs} {d : D} : asgE (.tup ts) (.v d) env = asgT (.tup ts) d env := nrfl rfl
@[simp] theorem asgT_nm {i : Nat} {d : D} : asgT (.nm i) d env = some (env.set i (some (.v d))) := nrfl rfl
@[simp] theorem asgT_tup {ts : Tgs} {xs : List D} : asgT (.tup ts) (.tup xs) env = asgTs ts xs env := nrfl rfl
@[simp] theorem asgT_lst {ts : Tgs} {xs : List D} : asgT (.tup ts) (.lst xs) env = asgTs ts xs env := nrfl rfl
@[simp] theorem asgTs_nil : asgTs .nil [] env = some env := nrfl rfl
@[simp] theorem asgTs_cons {t : Tg} {ts : Tgs} {x : D} {xs : List D} : asgTs (.cons t ts) (x :: xs) env = (asgT t x env).bind fun e => asgTs ts xs e := nrfl rfl
@[simp] theorem truV_non : truV .non = some false := nrfl rfl
@[simp] theorem truV_bl {b : Bool} : truV (.bl b) = some b := nrfl rfl
@[simp] theorem truV_int {i : Int} : truV (.int i) = some (i != 0) := nrfl rfl
@[simp] theorem truV_tup {xs : List D} : truV (.tup xs) = some (!xs.isEmpty) := nrfl rfl
@[simp] theorem truV_lst {xs : List D} : truV (.lst xs) = some (!xs.isEmpty) := nrfl rfl
@[simp] theorem truV_str {s : Nm} : truV (.str s) = if s.length ≤ 16777216 then some (!s.isEmpty) else none := nrfl rfl
@[simp] theorem startE_eq {n : Nat} {es : List E} : startE n es = es.map some ++ List.replicate (n - es.length) none := nrfl rfl
theorem line_eq' : line = 16777216 := nrfl rfl
end
/-- what a body's end leaves -/
def endB (C0 : Cells) (r : RS) : R E := match r with
    | .next _ C' => leave C0.length (.v .non) C'
    | .ret e C' => leave C0.length e C'
    | .exc c fs _ C' => if lowC C0.length (C'.take C0.length) then .exc c fs (C'.take C0.length) else .exc c fs C'
    | _ => .bad
def lamP (P : Prog) (call : Nat → List E → Cells → R E) : Nat → Env → Cells → R E := fun j env C => match P.lams[j]? with
        | none => .bad
        | some e => evE P call (fun _ _ _ => .bad) e env C
def lamO (P : Prog) (call : Nat → List E → Cells → R E) (env : Env) (C : Cells) (o : Option Ex) : R E := match o with
  | some e => evE P call (fun _ _ _ => .bad) e env C
  | none => .bad
@[simp] theorem lamP_eq {P : Prog} {call : Nat → List E → Cells → R E} {j : Nat} {env : Env} {C : Cells} : lamP P call j env C = lamO P call env C P.lams[j]? := by
  rw [lamP]
  cases P.lams[j]? <;> rfl
@[simp] theorem lamO_s {P : Prog} {call : Nat → List E → Cells → R E} {e : Ex} {env : Env} {C : Cells} : lamO P call env C (some e) = evE P call (fun _ _ _ => .bad) e env C := nrfl rfl
theorem x_body {P : Prog} {call : Nat → List E → Cells → R E} {fn : Fn} {es : List E} {C : Cells} (h : es.length = fn.ps) : body P call fn es C = endB C (exSs P call (lamP P call) fn.body (startE fn.ns es) C) := by
  rw [body, if_pos h]
  rfl
@[simp] theorem endB_nr {d : D} {C : Cells} : endB [] (.ret (.v d) C) = .ok (.v d) [] := by simp [endB, leave, lowC]
@[simp] theorem endB_nn {env : Env} {C : Cells} : endB [] (.next env C) = .ok (.v .non) [] := by simp [endB, leave, lowC]
@[simp] theorem endB_nx {c : Nat} {fs : List (Nm × D)} {env : Env} {C : Cells} : endB [] (.exc c fs env C) = .exc c fs [] := by simp [endB, lowC]
theorem pure_ok {call : Nat → List E → Cells → R E} {f : Nat} {ds : List D} {d : D} {C C' : Cells} (h : call f (ds.map .v) [] = .ok (.v d) C') : pureCall call f ds C = .ok (.v d) C := by unfold pureCall; rw [h]
theorem pure_exc {call : Nat → List E → Cells → R E} {f : Nat} {ds : List D} {c : Nat} {fs : List (Nm × D)} {C C' : Cells} (h : call f (ds.map .v) [] = .exc c fs C') : pureCall call f ds C = .exc c fs C := by unfold pureCall; rw [h]
/-- a slot holds no caught exception -/
def nx : Option E → Bool
  | some (.exn _ _) => false
  | _ => true
@[simp] theorem nx_v {d : D} : nx (some (.v d)) = true := nrfl rfl
@[simp] theorem nx_r {n : Nat} : nx (some (.r n)) = true := nrfl rfl
@[simp] theorem nx_c {n : Nat} : nx (some (.clo n)) = true := nrfl rfl
@[simp] theorem nx_n : nx none = true := nrfl rfl
@[simp] theorem cleanE_nil : cleanE [] = true := nrfl rfl
@[simp] theorem cleanE_cons {x : Option E} {env : Env} : cleanE (x :: env) = (nx x && cleanE env) := by
  rw [cleanE, List.all_cons]
  cases x with
  | none => rfl
  | some e => cases e <;> rfl
end Ev

end

section
set_option maxRecDepth 512
set_option autoImplicit false
set_option linter.all false
namespace Ev
section
variable {P : Prog} {call : Nat → List E → Cells → R E} {lamc : Nat → Env → Cells → R E}
theorem stepG_b {r : Gn} {env : Env} {acc : List D} {b : Bool} {C : Cells} : stepG P call lamc r env acc (.ok b C) = if b then evG P call lamc r env C acc else .ok acc C := nrfl rfl
theorem genR_flat {α : Type} {t : Tg} {ifs : Eo} {r : Gn} {env : Env} {C : Cells} (en : α → D) (g : α → List D) :
    ∀ (xs : List α) (acc : List D), (∀ x ∈ xs, ∀ acc : List D, acc.length + (g x).length ≤ line → ∃ e, asgT t (en x) env = some e ∧ stepG P call lamc r e acc (evC P call lamc ifs e C) = .ok (acc ++ g x) C) →
      acc.length + (xs.flatMap g).length ≤ line → genR P call lamc t ifs r env (xs.map en) C acc = .ok (acc ++ xs.flatMap g) C
  | [], acc, _, _ => by simp [genR_nil]
  | x :: xs, acc, h, hl => by
    simp only [List.flatMap_cons, List.length_append] at hl
    obtain ⟨e, h1, h2⟩ := h x (List.mem_cons_self ..) acc (by omega)
    simp only [List.map_cons, genR_cons, h1, genA_s, h2, genB_ok]
    rw [genR_flat en g xs _ (fun y hy => h y (List.mem_cons_of_mem _ hy)) (by simp only [List.length_append]; omega)]
    simp
theorem flat_if {α β : Type} (c : α → Bool) (f : α → β) : ∀ xs : List α, (xs.flatMap fun x => if c x then [f x] else []) = (xs.filter c).map f
  | [] => rfl
  | x :: xs => by
    rw [List.flatMap_cons, flat_if c f xs]
    cases h : c x <;> simp [List.filter_cons, h]
theorem genR_filter {α : Type} {t : Tg} {ifs : Eo} {r : Gn} {env : Env} {C : Cells} (en : α → D) (c : α → Bool) (f : α → D) (xs : List α)
    (h : ∀ x ∈ xs, ∀ acc : List D, acc.length < line → ∃ e, asgT t (en x) env = some e ∧ stepG P call lamc r e acc (evC P call lamc ifs e C) = .ok (if c x then acc ++ [f x] else acc) C)
    (hl : xs.length < line) : genR P call lamc t ifs r env (xs.map en) C [] = .ok ((xs.filter c).map f) C := by
  have hh : ∀ (xs : List α) (acc : List D), (∀ x ∈ xs, ∀ acc : List D, acc.length < line → ∃ e, asgT t (en x) env = some e ∧ stepG P call lamc r e acc (evC P call lamc ifs e C) = .ok (if c x then acc ++ [f x] else acc) C) →
      acc.length + xs.length < line → genR P call lamc t ifs r env (xs.map en) C acc = .ok (acc ++ (xs.filter c).map f) C := by
    intro xs
    induction xs with
    | nil => intro acc _ _; simp [genR_nil]
    | cons x xs ih =>
      intro acc h hl
      simp only [List.length_cons] at hl
      obtain ⟨e, h1, h2⟩ := h x (List.mem_cons_self ..) acc (by omega)
      simp only [List.map_cons, genR_cons, h1, genA_s, h2, genB_ok]
      rw [ih _ (fun y hy => h y (List.mem_cons_of_mem _ hy)) (by cases c x <;> simp <;> omega)]
      cases hc : c x <;> simp [List.filter_cons, hc]
  have := hh xs [] h (by simpa using hl)
  simpa using this
theorem genR_map {α : Type} {t : Tg} {ifs : Eo} {r : Gn} {env : Env} {C : Cells} (en : α → D) (f : α → D) (xs : List α)
    (h : ∀ x ∈ xs, ∀ acc : List D, acc.length < line → ∃ e, asgT t (en x) env = some e ∧ stepG P call lamc r e acc (evC P call lamc ifs e C) = .ok (acc ++ [f x]) C)
    (hl : xs.length < line) : genR P call lamc t ifs r env (xs.map en) C [] = .ok (xs.map f) C := by
  have := genR_filter (P := P) (call := call) (lamc := lamc) (t := t) (ifs := ifs) (r := r) (env := env) (C := C) en (fun _ => true) f xs (fun x hx acc ha => by simpa using h x hx acc ha) hl
  rwa [List.filter_eq_self.2 (by simp)] at this
theorem bools_map {α : Type} (c : α → Bool) : ∀ xs : List α, bools (xs.map fun x => .bl (c x)) = some (xs.map c)
  | [] => rfl
  | x :: xs => by simp [bools, bools_map c xs]
theorem any_map {α : Type} (c : α → Bool) (xs : List α) : biV .any [.lst (xs.map fun x => .bl (c x))] = some (.bl (xs.any c)) := by
  simp [biV, bools_map, List.any_map]
theorem all_map {α : Type} (c : α → Bool) (xs : List α) : biV .all [.lst (xs.map fun x => .bl (c x))] = some (.bl (xs.all c)) := by
  simp [biV, bools_map, List.all_map]
/-- a loop that keeps something -/
theorem forG_keep {t : Tg} {b : Sms} (I : Env → Cells → Prop) : ∀ (ds : List D) (env : Env) (C : Cells),
    (∀ x ∈ ds, ∀ env C, I env C → ∃ e, asgT t x env = some e ∧ ∃ env' C', (exSs P call lamc b e C = .next env' C' ∨ exSs P call lamc b e C = .ct env' C') ∧ I env' C') → I env C →
      ∃ env' C', forG P call lamc t b ds env C = .next env' C' ∧ I env' C'
  | [], env, C, _, h0 => ⟨env, C, rfl, h0⟩
  | x :: ds, env, C, h, h0 => by
    obtain ⟨e, h1, env', C', h2, h3⟩ := h x (List.mem_cons_self ..) env C h0
    obtain ⟨env2, C2, h4, h5⟩ := forG_keep I ds env' C' (fun y hy => h y (List.mem_cons_of_mem _ hy)) h3
    refine ⟨env2, C2, ?_, h5⟩
    rw [forG_cons, h1, forA_s]
    rcases h2 with h2 | h2 <;> rw [h2]
    · rw [forB_next]; exact h4
    · rw [forB_ct]; exact h4
/-- .. of what was walked -/
theorem forG_pre {t : Tg} {b : Sms} (ds : List D) (I : List D → Env → Cells → Prop) (h : ∀ pre x post env C, ds = pre ++ x :: post → I pre env C → ∃ e, asgT t x env = some e ∧ ∃ env' C', (exSs P call lamc b e C = .next env' C' ∨ exSs P call lamc b e C = .ct env' C') ∧ I (pre ++ [x]) env' C')
    {env : Env} {C : Cells} (h0 : I [] env C) : ∃ env' C', forG P call lamc t b ds env C = .next env' C' ∧ I ds env' C' := by
  have key : ∀ (post pre : List D) (env : Env) (C : Cells), ds = pre ++ post → I pre env C → ∃ env' C', forG P call lamc t b post env C = .next env' C' ∧ I ds env' C' := by
    intro post
    induction post with
    | nil => intro pre env C e hI; simp at e; subst e; exact ⟨env, C, rfl, hI⟩
    | cons x post ih =>
      intro pre env C e hI
      obtain ⟨e1, h1, env', C', h2, h3⟩ := h pre x post env C e hI
      obtain ⟨env2, C2, h4, h5⟩ := ih (pre ++ [x]) env' C' (by rw [e]; simp) h3
      refine ⟨env2, C2, ?_, h5⟩
      rw [forG_cons, h1, forA_s]
      rcases h2 with h2 | h2 <;> rw [h2]
      · rw [forB_next]; exact h4
      · rw [forB_ct]; exact h4
  exact key ds [] env C (by simp) h0
/-- goes on, with I kept -/
def Kept (I : Env → Cells → Prop) (r : RS) : Prop := ∃ env' C', (r = .next env' C' ∨ r = .ct env' C') ∧ I env' C'
theorem Kept.next {I : Env → Cells → Prop} {env : Env} {C : Cells} (h : I env C) : Kept I (.next env C) := ⟨env, C, .inl rfl, h⟩
theorem Kept.ct {I : Env → Cells → Prop} {env : Env} {C : Cells} (h : I env C) : Kept I (.ct env C) := ⟨env, C, .inr rfl, h⟩
/-- a loop that keeps something, and what follows it -/
theorem for_then (φ : RS → Prop) (I : Env → Cells → Prop) {t : Tg} {b r : Sms} {ds : List D} {env : Env} {C : Cells} (h0 : I env C)
    (h : ∀ x ∈ ds, ∀ env C, I env C → ∃ e, asgT t x env = some e ∧ Kept I (exSs P call lamc b e C))
    (k : ∀ env C, I env C → φ (exSs P call lamc r env C)) : φ (seqR P call lamc r (forG P call lamc t b ds env C)) := by
  obtain ⟨env', C', h1, h2⟩ := forG_keep I ds env C h h0
  rw [h1, seqR_next]
  exact k env' C' h2
theorem for_pre (φ : RS → Prop) {t : Tg} {b r : Sms} {ds : List D} (I : List D → Env → Cells → Prop) {env : Env} {C : Cells} (h0 : I [] env C)
    (h : ∀ pre x post env C, ds = pre ++ x :: post → I pre env C → ∃ e, asgT t x env = some e ∧ Kept (I (pre ++ [x])) (exSs P call lamc b e C))
    (k : ∀ env C, I ds env C → φ (exSs P call lamc r env C)) : φ (seqR P call lamc r (forG P call lamc t b ds env C)) := by
  obtain ⟨env', C', h1, h2⟩ := forG_pre ds I h h0
  rw [h1, seqR_next]
  exact k env' C' h2
/-- slots as f says, the others open; the cells as P says -/
def slotsOf (env : Env) : Nat → Option E := fun (i : Nat) => (env[i]?).join
structure Pat (f : (Nat → Option E) → Env) (P : Cells → Prop) (env : Env) (C : Cells) : Prop where
  e : env = f (slotsOf env)
  n : cleanE env = true
  c : P C
/-- the loop over a row, slots told by a pattern -/
theorem for_pat (φ : RS → Prop) (f : (Nat → Option E) → Env) (Pc : Cells → Prop) {t : Tg} {b r : Sms} {ds : List D} {env : Env} {C : Cells} (h0 : Pat f Pc env C)
    (h : ∀ x ∈ ds, ∀ o C, cleanE (f o) = true → Pc C → ∃ e, asgT t x (f o) = some e ∧ Kept (Pat f Pc) (exSs P call lamc b e C))
    (k : ∀ o C, cleanE (f o) = true → Pc C → φ (exSs P call lamc r (f o) C)) : φ (seqR P call lamc r (forG P call lamc t b ds env C)) := by
  refine for_then φ (Pat f Pc) h0 (fun x hx env C hI => ?_) fun env C hI => ?_
  · have e := hI.e
    have n := hI.n
    generalize slotsOf env = o at e
    subst e
    exact h x hx o C n hI.c
  · have e := hI.e
    have n := hI.n
    generalize slotsOf env = o at e
    subst e
    exact k o C n hI.c
/-- the statement returns True -/
def Yes (r : RS) : Prop := ∃ C, r = .ret (.v (.bl true)) C
theorem Yes.ret {C : Cells} : Yes (.ret (.v (.bl true)) C) := ⟨C, rfl⟩
theorem Yes.end {r : RS} (h : Yes r) : endB [] r = .ok (.v (.bl true)) [] := by
  obtain ⟨C, rfl⟩ := h
  exact endB_nr
theorem Yes.body {fn : Fn} {es : List E} (hl : es.length = fn.ps) (h : Yes (exSs P call (lamP P call) fn.body (startE fn.ns es) [])) : ∃ C', body P call fn es [] = .ok (.v (.bl true)) C' :=
  ⟨[], by rw [x_body hl, h.end]⟩
end
theorem b_add {i j : Int} : bopV .add (.int i) (.int j) = some (.int (i + j)) := nrfl rfl
theorem b_sub {i j : Int} : bopV .sub (.int i) (.int j) = some (.int (i - j)) := nrfl rfl
theorem b_mod {i j : Int} (h : 0 < j) : bopV .mod (.int i) (.int j) = some (.int (i % j)) := by simp [bopV, h]
theorem b_fdiv {i j : Int} (h : 0 < j) (h' : j < 1073741824) : bopV .fdiv (.int i) (.int j) = some (.int (i / j)) := by simp [bopV, h, h']
theorem b_mul {i j : Int} (h : smallI j = true) : bopV .mul (.int i) (.int j) = some (.int (i * j)) := by simp [bopV, h]
theorem b_mul' {i j : Int} (h : smallI i = true) : bopV .mul (.int i) (.int j) = some (.int (i * j)) := by simp [bopV, h]
theorem c_lt {i j : Int} : copV .lt (.int i) (.int j) = some (decide (i < j)) := nrfl rfl
theorem c_gt {i j : Int} : copV .gt (.int i) (.int j) = some (decide (j < i)) := nrfl rfl
theorem c_le {i j : Int} : copV .le (.int i) (.int j) = some (decide (i ≤ j)) := nrfl rfl
theorem c_ge {i j : Int} : copV .ge (.int i) (.int j) = some (decide (j ≤ i)) := nrfl rfl
theorem c_eq {i j : Int} : copV .eq (.int i) (.int j) = some (decide (i = j)) := by simp [copV, shp, pd, dep, eqD]; rfl
theorem c_ne {i j : Int} : copV .ne (.int i) (.int j) = some (!decide (i = j)) := by simp [copV, shp, pd, dep, eqD]; rfl
theorem i_int {i : Int} : biV .int [.int i] = some (.int i) := nrfl rfl
theorem l_lst {xs : List D} : biV .len [.lst xs] = some (.int xs.length) := nrfl rfl
theorem l_tup {xs : List D} : biV .len [.tup xs] = some (.int xs.length) := nrfl rfl
theorem copV_eq {x y : D} (hx : shp x = true) (hy : shp y = true) : copV .eq x y = some (eqD x y) := by simp [copV, hx, hy]
theorem copV_ne {x y : D} (hx : shp x = true) (hy : shp y = true) : copV .ne x y = some (!eqD x y) := by simp [copV, hx, hy]
end Ev

end

section
set_option maxRecDepth 512
namespace K01
open Ev
def b_is_row : Sms := (.cons (.ret (.isi (.slot 0) [.list, .tuple])) .nil)
def b_is_number : Sms := (.cons (.ret (.and (.isi (.slot 0) [.int]) (.and (.not (.isi (.slot 0) [.bool])) (.one (.cmp .ge (.slot 0) (.cst (.int 0))))))) .nil)
def b_is_below : Sms := (.cons (.ret (.and (.callP 1 (.cons (.slot 0) .nil)) (.one (.cmp .lt (.slot 0) (.slot 1))))) .nil)
def b_check_kind : Sms := (.cons (.exp (.callP 4 (.cons (.slot 0) (.cons (.glob 0) .nil)))) .nil)
def b_check_part : Sms := (.cons (.ife (.and (.isi (.slot 0) [.str]) (.one (.cmp .isin (.slot 0) (.glob 1)))) (.cons .retN .nil) .nil) (.cons (.ife (.or (.cmp .eq (.slot 1) (.cst (.int 0))) (.or (.not (.callP 0 (.cons (.slot 0) .nil))) (.or (.cmp .ne (.bi .len (.cons (.slot 0) .nil)) (.cst (.int 3))) (.one (.cmp .notin (.idx (.slot 0) (.cst (.int 0))) (.glob 2)))))) (.cons (.raise 1 (.cons (.slot 0) .nil)) .nil) .nil) (.cons (.exp (.callP 4 (.cons (.idx (.slot 0) (.cst (.int 1))) (.cons (.bop .sub (.slot 1) (.cst (.int 1))) .nil)))) (.cons (.exp (.callP 4 (.cons (.idx (.slot 0) (.cst (.int 2))) (.cons (.bop .sub (.slot 1) (.cst (.int 1))) .nil)))) .nil))))
def b_is_kind : Sms := (.cons (.try (.cons (.exp (.callP 3 (.cons (.slot 0) .nil))) .nil) (.cons 1 none (.cons (.ret (.cst (.bl false))) .nil) .nil)) (.cons (.ret (.cst (.bl true))) .nil))
def b_kept : Sms := (.cons (.exp (.callP 3 (.cons (.slot 0) .nil))) (.cons (.ret (.callP 7 (.cons (.slot 0) .nil))) .nil))
def b_plain : Sms := (.cons (.ret (.ite (.isi (.slot 0) [.str]) (.slot 0) (.tup (.cons (.idx (.slot 0) (.cst (.int 0))) (.cons (.callP 7 (.cons (.idx (.slot 0) (.cst (.int 1))) .nil)) (.cons (.callP 7 (.cons (.idx (.slot 0) (.cst (.int 2))) .nil)) .nil)))))) .nil)
def b_deep_of : Sms := (.cons (.exp (.callP 3 (.cons (.slot 0) .nil))) (.cons (.ret (.ite (.isi (.slot 0) [.str]) (.cst (.int 0)) (.bop .add (.cst (.int 1)) (.bi .max (.cons (.callP 8 (.cons (.idx (.slot 0) (.cst (.int 1))) .nil)) (.cons (.callP 8 (.cons (.idx (.slot 0) (.cst (.int 2))) .nil)) .nil)))))) .nil))
def b_size_of : Sms := (.cons (.exp (.callP 3 (.cons (.slot 0) .nil))) (.cons (.ret (.ite (.isi (.slot 0) [.str]) (.cst (.int 1)) (.bop .add (.bop .add (.cst (.int 1)) (.callP 9 (.cons (.idx (.slot 0) (.cst (.int 1))) .nil))) (.callP 9 (.cons (.idx (.slot 0) (.cst (.int 2))) .nil))))) .nil))
def b_untold : Sms := (.cons (.exp (.callP 3 (.cons (.slot 0) .nil))) (.cons (.ife (.isi (.slot 0) [.str]) (.cons (.ret (.ite (.cmp .eq (.slot 0) (.cst (.str [97, 110, 121]))) (.cst (.int 1)) (.cst (.int 0)))) .nil) .nil) (.cons (.ret (.bop .add (.callP 10 (.cons (.idx (.slot 0) (.cst (.int 1))) .nil)) (.callP 10 (.cons (.idx (.slot 0) (.cst (.int 2))) .nil)))) .nil)))
def b_ground : Sms := (.cons (.exp (.callP 3 (.cons (.slot 0) .nil))) (.cons (.ife (.isi (.slot 0) [.str]) (.cons (.ret (.ite (.cmp .eq (.slot 0) (.cst (.str [97, 110, 121]))) (.cst .non) (.slot 0))) .nil) .nil) (.cons (.ret (.tup (.cons (.idx (.slot 0) (.cst (.int 0))) (.cons (.cst (.str [97, 110, 121])) (.cons (.cst (.str [97, 110, 121])) .nil))))) .nil)))
def b_all_kinds : Sms := (.cons (.ife (.not (.callP 2 (.cons (.slot 0) (.cons (.cst (.int 3)) .nil)))) (.cons (.raise 1 (.cons (.slot 0) .nil)) .nil) .nil) (.cons (.asg (.nm 1) (.cp (.glob 1))) (.cons (.for (.nm 2) (.range1 (.slot 0)) (.cons (.asg (.nm 3) (.comp [4, 5, 6] (.nm 4) (.seq (.glob 2)) .none (.gen (.nm 5) (.seq (.slot 1)) .none (.gen (.nm 6) (.seq (.slot 1)) .none (.elt (.tup (.cons (.slot 4) (.cons (.slot 5) (.cons (.slot 6) .nil))))))))) (.cons (.aug 1 .add (.comp [7] (.nm 7) (.seq (.slot 3)) (.some (.cmp .notin (.slot 7) (.slot 1))) (.elt (.slot 7)))) .nil))) (.cons (.ret (.frz (.slot 1))) .nil))))
def b_is_less : Sms := (.cons (.exp (.callP 3 (.cons (.slot 0) .nil))) (.cons (.exp (.callP 3 (.cons (.slot 1) .nil))) (.cons (.ret (.callP 14 (.cons (.slot 0) (.cons (.slot 1) .nil)))) .nil)))
def b_below : Sms := (.cons (.ife (.cmp .eq (.slot 0) (.cst (.str [97, 110, 121]))) (.cons (.ret (.cst (.bl true))) .nil) .nil) (.cons (.ife (.or (.isi (.slot 0) [.str]) (.one (.isi (.slot 1) [.str]))) (.cons (.ret (.cmp .eq (.slot 0) (.slot 1))) .nil) .nil) (.cons (.ret (.and (.cmp .eq (.idx (.slot 0) (.cst (.int 0))) (.idx (.slot 1) (.cst (.int 0)))) (.and (.callP 14 (.cons (.idx (.slot 0) (.cst (.int 1))) (.cons (.idx (.slot 1) (.cst (.int 1))) .nil))) (.one (.callP 14 (.cons (.idx (.slot 0) (.cst (.int 2))) (.cons (.idx (.slot 1) (.cst (.int 2))) .nil))))))) .nil)))
def b_meets : Sms := (.cons (.exp (.callP 3 (.cons (.slot 0) .nil))) (.cons (.exp (.callP 3 (.cons (.slot 1) .nil))) (.cons (.ret (.callP 16 (.cons (.slot 0) (.cons (.slot 1) .nil)))) .nil)))
def b_near : Sms := (.cons (.ife (.cmp .isin (.cst (.str [97, 110, 121])) (.tup (.cons (.slot 0) (.cons (.slot 1) .nil)))) (.cons (.ret (.cst (.bl true))) .nil) .nil) (.cons (.ife (.or (.isi (.slot 0) [.str]) (.one (.isi (.slot 1) [.str]))) (.cons (.ret (.cmp .eq (.slot 0) (.slot 1))) .nil) .nil) (.cons (.ret (.and (.cmp .eq (.idx (.slot 0) (.cst (.int 0))) (.idx (.slot 1) (.cst (.int 0)))) (.and (.callP 16 (.cons (.idx (.slot 0) (.cst (.int 1))) (.cons (.idx (.slot 1) (.cst (.int 1))) .nil))) (.one (.callP 16 (.cons (.idx (.slot 0) (.cst (.int 2))) (.cons (.idx (.slot 1) (.cst (.int 2))) .nil))))))) .nil)))
def b_together : Sms := (.cons (.par 0 1 (.callP 6 (.cons (.slot 0) .nil)) (.callP 6 (.cons (.slot 1) .nil))) (.cons (.ife (.not (.callP 16 (.cons (.slot 0) (.cons (.slot 1) .nil)))) (.cons (.raise 2 (.cons (.slot 0) (.cons (.slot 1) .nil))) .nil) .nil) (.cons (.ret (.callP 18 (.cons (.slot 0) (.cons (.slot 1) .nil)))) .nil)))
def b_joined : Sms := (.cons (.ife (.cmp .eq (.slot 0) (.cst (.str [97, 110, 121]))) (.cons (.ret (.slot 1)) .nil) .nil) (.cons (.ife (.or (.cmp .eq (.slot 1) (.cst (.str [97, 110, 121]))) (.one (.isi (.slot 0) [.str]))) (.cons (.ret (.slot 0)) .nil) .nil) (.cons (.ret (.tup (.cons (.idx (.slot 0) (.cst (.int 0))) (.cons (.callP 18 (.cons (.idx (.slot 0) (.cst (.int 1))) (.cons (.idx (.slot 1) (.cst (.int 1))) .nil))) (.cons (.callP 18 (.cons (.idx (.slot 0) (.cst (.int 2))) (.cons (.idx (.slot 1) (.cst (.int 2))) .nil))) .nil))))) .nil)))
def b_common : Sms := (.cons (.par 0 1 (.callP 6 (.cons (.slot 0) .nil)) (.callP 6 (.cons (.slot 1) .nil))) (.cons (.ret (.callP 20 (.cons (.slot 0) (.cons (.slot 1) .nil)))) .nil))
def b_shared : Sms := (.cons (.ife (.cmp .eq (.slot 0) (.slot 1)) (.cons (.ret (.slot 0)) .nil) .nil) (.cons (.ife (.or (.isi (.slot 0) [.str]) (.or (.isi (.slot 1) [.str]) (.one (.cmp .ne (.idx (.slot 0) (.cst (.int 0))) (.idx (.slot 1) (.cst (.int 0))))))) (.cons (.ret (.cst (.str [97, 110, 121]))) .nil) .nil) (.cons (.ret (.tup (.cons (.idx (.slot 0) (.cst (.int 0))) (.cons (.callP 20 (.cons (.idx (.slot 0) (.cst (.int 1))) (.cons (.idx (.slot 1) (.cst (.int 1))) .nil))) (.cons (.callP 20 (.cons (.idx (.slot 0) (.cst (.int 2))) (.cons (.idx (.slot 1) (.cst (.int 2))) .nil))) .nil))))) .nil)))
def b_less_of : Sms := (.cons (.asg (.nm 0) (.callP 6 (.cons (.slot 0) .nil))) (.cons (.ret (.callP 22 (.cons (.slot 0) .nil))) .nil))
def b_lower : Sms := (.cons (.ife (.cmp .eq (.slot 0) (.cst (.str [97, 110, 121]))) (.cons (.ret (.lst false (.cons (.cst (.str [97, 110, 121])) .nil))) .nil) .nil) (.cons (.ife (.isi (.slot 0) [.str]) (.cons (.ret (.lst false (.cons (.cst (.str [97, 110, 121])) (.cons (.slot 0) .nil)))) .nil) .nil) (.cons (.ret (.lst false (.cons (.cst (.str [97, 110, 121])) (.star (.comp [1, 2] (.nm 1) (.seq (.callP 22 (.cons (.idx (.slot 0) (.cst (.int 1))) .nil))) .none (.gen (.nm 2) (.seq (.callP 22 (.cons (.idx (.slot 0) (.cst (.int 2))) .nil))) .none (.elt (.tup (.cons (.idx (.slot 0) (.cst (.int 0))) (.cons (.slot 1) (.cons (.slot 2) .nil))))))) .nil)))) .nil)))
def b_steps_up : Sms := (.cons (.exp (.callP 3 (.cons (.slot 0) .nil))) (.cons (.asg (.nm 2) (.comp [3] (.nm 3) (.seq (.slot 1)) (.some (.and (.callP 13 (.cons (.slot 0) (.cons (.slot 3) .nil))) (.one (.not (.callP 13 (.cons (.slot 3) (.cons (.slot 0) .nil))))))) (.elt (.slot 3)))) (.cons (.ret (.comp [3] (.nm 3) (.seq (.slot 2)) (.some (.not (.bi .any (.cons (.comp [4] (.nm 4) (.seq (.slot 2)) .none (.elt (.and (.cmp .ne (.slot 4) (.slot 3)) (.one (.callP 13 (.cons (.slot 4) (.cons (.slot 3) .nil))))))) .nil)))) (.elt (.slot 3)))) .nil)))
def b__law_number : Sms := (.cons (.asg (.tup (.cons (.nm 5) (.cons (.nm 6) .nil))) (.ite (.cmp .ne (.slot 0) (.lst false .nil)) (.tup (.cons (.idx (.slot 0) (.bop .mod (.slot 1) (.bi .len (.cons (.slot 0) .nil)))) (.cons (.bop .fdiv (.slot 1) (.bi .len (.cons (.slot 0) .nil))) .nil))) (.tup (.cons (.cst (.int 12345)) (.cons (.cst (.int 0)) .nil))))) (.cons (.asg (.nm 2) (.ite (.cmp .lt (.slot 6) (.cst (.int 60))) (.bop .sub (.slot 5) (.bop .pow (.cst (.int 10)) (.cst (.int 18)))) (.cst (.int 0)))) (.cons (.for (.nm 3) (.range1 (.bop .mod (.bi .int (.cons (.slot 6) .nil)) (.cst (.int 60)))) (.cons (.asg (.nm 2) (.bop .fdiv (.slot 2) (.cst (.int 1009)))) .nil)) (.cons (.ife (.cmp .gt (.slot 2) (.cst (.int 0))) (.cons (.ret (.bop .mod (.bi .int (.cons (.slot 2) .nil)) (.cst (.int 1009)))) .nil) .nil) (.cons (.asg (.nm 4) (.bop .mod (.bop .add (.bop .mul (.bi .int (.cons (.bop .add (.slot 5) (.bop .mul (.cst (.int 977)) (.slot 1))) .nil)) (.cst (.int 48271))) (.bop .mul (.cst (.int 31)) (.bi .len (.cons (.slot 0) .nil)))) (.cst (.int 2147483647)))) (.cons (.asg (.nm 4) (.bop .mod (.bop .add (.bop .mul (.slot 4) (.slot 4)) (.bop .mul (.cst (.int 40503)) (.slot 1))) (.cst (.int 2147483629)))) (.cons (.ret (.bi .int (.cons (.bop .mod (.bop .add (.bop .mul (.slot 4) (.cst (.int 69621))) (.bop .fdiv (.slot 4) (.cst (.int 977)))) (.cst (.int 2147483587))) .nil))) .nil)))))))
def b__law_take : Sms := (.cons (.augI (.slot 0) (.cst (.int 1)) .add (.cst (.int 1))) (.cons (.ret (.bop .mod (.bi .int (.cons (.callP 24 (.cons (.idx (.slot 0) (.cst (.int 0))) (.cons (.bi .int (.cons (.idx (.slot 0) (.cst (.int 1))) .nil)) .nil))) .nil)) (.slot 1))) .nil))
def b__law_pick : Sms := (.cons (.ret (.idx (.slot 1) (.call 25 (.cons (.slot 0) (.cons (.bi .len (.cons (.slot 1) .nil)) .nil))))) .nil)
def b__law_kind : Sms := (.cons (.asg (.nm 2) (.call 25 (.cons (.slot 0) (.cons (.ite (.cmp .gt (.slot 1) (.cst (.int 0))) (.cst (.int 6)) (.cst (.int 3))) .nil)))) (.cons (.ife (.cmp .lt (.slot 2) (.cst (.int 3))) (.cons (.ret (.idx (.lst false (.cons (.cst (.str [97, 110, 121])) (.cons (.cst (.str [110, 117, 109])) (.cons (.cst (.str [98, 105, 116])) .nil)))) (.slot 2))) .nil) .nil) (.cons (.ret (.tup (.cons (.ite (.cmp .eq (.slot 2) (.cst (.int 5))) (.cst (.str [112, 97, 105, 114])) (.cst (.str [102, 117, 110]))) (.cons (.call 27 (.cons (.slot 0) (.cons (.bop .sub (.slot 1) (.cst (.int 1))) .nil))) (.cons (.call 27 (.cons (.slot 0) (.cons (.bop .sub (.slot 1) (.cst (.int 1))) .nil))) .nil))))) .nil)))
def b__law_below : Sms := (.cons (.ife (.or (.cmp .eq (.slot 0) (.cst (.str [97, 110, 121]))) (.one (.cmp .eq (.slot 0) (.slot 1)))) (.cons (.ret (.cst (.bl true))) .nil) .nil) (.cons (.ife (.or (.isi (.slot 0) [.str]) (.or (.isi (.slot 1) [.str]) (.one (.cmp .ne (.idx (.slot 0) (.cst (.int 0))) (.idx (.slot 1) (.cst (.int 0))))))) (.cons (.ret (.cst (.bl false))) .nil) .nil) (.cons (.ret (.and (.callP 28 (.cons (.idx (.slot 0) (.cst (.int 1))) (.cons (.idx (.slot 1) (.cst (.int 1))) .nil))) (.one (.callP 28 (.cons (.idx (.slot 0) (.cst (.int 2))) (.cons (.idx (.slot 1) (.cst (.int 2))) .nil)))))) .nil)))
def b__law_near : Sms := (.cons (.ife (.or (.cmp .eq (.slot 0) (.cst (.str [97, 110, 121]))) (.or (.cmp .eq (.slot 1) (.cst (.str [97, 110, 121]))) (.one (.cmp .eq (.slot 0) (.slot 1))))) (.cons (.ret (.cst (.bl true))) .nil) .nil) (.cons (.ife (.or (.isi (.slot 0) [.str]) (.or (.isi (.slot 1) [.str]) (.one (.cmp .ne (.idx (.slot 0) (.cst (.int 0))) (.idx (.slot 1) (.cst (.int 0))))))) (.cons (.ret (.cst (.bl false))) .nil) .nil) (.cons (.ret (.and (.callP 29 (.cons (.idx (.slot 0) (.cst (.int 1))) (.cons (.idx (.slot 1) (.cst (.int 1))) .nil))) (.one (.callP 29 (.cons (.idx (.slot 0) (.cst (.int 2))) (.cons (.idx (.slot 1) (.cst (.int 2))) .nil)))))) .nil)))
def b__law_ground : Sms := (.cons (.ret (.ite (.isi (.slot 0) [.str]) (.slot 0) (.tup (.cons (.idx (.slot 0) (.cst (.int 0))) (.cons (.cst (.str [97, 110, 121])) (.cons (.cst (.str [97, 110, 121])) .nil)))))) .nil)
def b__law_both : Sms := (.cons (.ife (.or (.cmp .eq (.slot 0) (.cst (.str [97, 110, 121]))) (.one (.cmp .eq (.slot 0) (.slot 1)))) (.cons (.ret (.slot 1)) .nil) .nil) (.cons (.ife (.cmp .eq (.slot 1) (.cst (.str [97, 110, 121]))) (.cons (.ret (.slot 0)) .nil) .nil) (.cons (.ret (.tup (.cons (.idx (.slot 0) (.cst (.int 0))) (.cons (.callP 31 (.cons (.idx (.slot 0) (.cst (.int 1))) (.cons (.idx (.slot 1) (.cst (.int 1))) .nil))) (.cons (.callP 31 (.cons (.idx (.slot 0) (.cst (.int 2))) (.cons (.idx (.slot 1) (.cst (.int 2))) .nil))) .nil))))) .nil)))
def b__law_common : Sms := (.cons (.ife (.cmp .eq (.slot 0) (.slot 1)) (.cons (.ret (.slot 0)) .nil) .nil) (.cons (.ife (.or (.isi (.slot 0) [.str]) (.or (.isi (.slot 1) [.str]) (.one (.cmp .ne (.idx (.slot 0) (.cst (.int 0))) (.idx (.slot 1) (.cst (.int 0))))))) (.cons (.ret (.cst (.str [97, 110, 121]))) .nil) .nil) (.cons (.ret (.tup (.cons (.idx (.slot 0) (.cst (.int 0))) (.cons (.callP 32 (.cons (.idx (.slot 0) (.cst (.int 1))) (.cons (.idx (.slot 1) (.cst (.int 1))) .nil))) (.cons (.callP 32 (.cons (.idx (.slot 0) (.cst (.int 2))) (.cons (.idx (.slot 1) (.cst (.int 2))) .nil))) .nil))))) .nil)))
def b__law_lower : Sms := (.cons (.ife (.cmp .eq (.slot 0) (.cst (.str [97, 110, 121]))) (.cons (.ret (.lst false (.cons (.cst (.str [97, 110, 121])) .nil))) .nil) .nil) (.cons (.ife (.isi (.slot 0) [.str]) (.cons (.ret (.lst false (.cons (.cst (.str [97, 110, 121])) (.cons (.slot 0) .nil)))) .nil) .nil) (.cons (.asg (.nm 1) (.lst false (.cons (.cst (.str [97, 110, 121])) .nil))) (.cons (.for (.nm 2) (.seq (.callP 33 (.cons (.idx (.slot 0) (.cst (.int 1))) .nil))) (.cons (.asg (.nm 1) (.bop .add (.slot 1) (.comp [3] (.nm 3) (.seq (.callP 33 (.cons (.idx (.slot 0) (.cst (.int 2))) .nil))) .none (.elt (.tup (.cons (.idx (.slot 0) (.cst (.int 0))) (.cons (.slot 2) (.cons (.slot 3) .nil)))))))) .nil)) (.cons (.ret (.slot 1)) .nil)))))
def b__law_deep : Sms := (.cons (.ret (.ite (.isi (.slot 0) [.str]) (.cst (.int 0)) (.bop .add (.cst (.int 1)) (.bi .max (.cons (.callP 34 (.cons (.idx (.slot 0) (.cst (.int 1))) .nil)) (.cons (.callP 34 (.cons (.idx (.slot 0) (.cst (.int 2))) .nil)) .nil)))))) .nil)
def b__law_flat : Sms := (.cons (.ret (.ite (.isi (.slot 0) [.str]) (.lst false (.cons (.slot 0) .nil)) (.bop .add (.callP 35 (.cons (.idx (.slot 0) (.cst (.int 1))) .nil)) (.callP 35 (.cons (.idx (.slot 0) (.cst (.int 2))) .nil))))) .nil)
def b__law_listed : Sms := (.cons (.ret (.ite (.isi (.slot 0) [.str]) (.slot 0) (.lst false (.cons (.idx (.slot 0) (.cst (.int 0))) (.cons (.callP 36 (.cons (.idx (.slot 0) (.cst (.int 1))) .nil)) (.cons (.callP 36 (.cons (.idx (.slot 0) (.cst (.int 2))) .nil)) .nil)))))) .nil)
def b__law_is_refused : Sms := (.cons (.asg (.nm 1) (.cst (.str [110, 117, 109]))) (.cons (.for (.nm 2) (.range1 (.cst (.int 5))) (.cons (.asg (.nm 1) (.tup (.cons (.cst (.str [102, 117, 110])) (.cons (.slot 1) (.cons (.cst (.str [110, 117, 109])) .nil))))) .nil)) (.cons (.asg (.nm 3) (.lst false (.cons (.tup (.cons (.cst .non) (.cons (.cst .non) .nil))) (.cons (.tup (.cons (.cst (.str [122, 122])) (.cons (.cst (.str [122, 122])) .nil))) (.cons (.tup (.cons (.tup (.cons (.cst (.str [102, 117, 110])) (.cons (.cst (.str [110, 117, 109])) .nil))) (.cons (.tup (.cons (.cst (.str [102, 117, 110])) (.cons (.cst (.str [110, 117, 109])) .nil))) .nil))) (.cons (.tup (.cons (.tup (.cons (.cst (.str [112, 97, 105, 114])) (.cons (.cst (.str [110, 117, 109])) (.cons (.cst (.int 5)) .nil)))) (.cons (.cst (.int 5)) .nil))) .nil)))))) (.cons (.asg (.nm 3) (.bop .add (.slot 3) (.lst false (.cons (.tup (.cons (.lst false (.cons (.cst (.str [102, 117, 110])) (.cons (.cst (.str [122, 122])) (.cons (.cst .non) .nil)))) (.cons (.cst (.str [122, 122])) .nil))) (.cons (.tup (.cons (.tup (.cons (.cst (.str [97, 110, 121])) (.cons (.cst (.str [110, 117, 109])) (.cons (.cst (.str [110, 117, 109])) .nil)))) (.cons (.tup (.cons (.cst (.str [97, 110, 121])) (.cons (.cst (.str [110, 117, 109])) (.cons (.cst (.str [110, 117, 109])) .nil)))) .nil))) (.cons (.tup (.cons (.slot 1) (.cons (.tup (.cons (.cst (.str [102, 117, 110])) (.cons (.cst (.str [110, 117, 109])) (.cons (.cst (.str [110, 117, 109])) .nil)))) .nil))) (.cons (.tup (.cons (.tup .nil) (.cons (.tup .nil) .nil))) .nil))))))) (.cons (.for (.nm 2) (.range1 (.cst (.int 4))) (.cons (.asg (.tup (.cons (.nm 6) (.cons (.nm 7) .nil))) (.call 26 (.cons (.slot 0) (.cons (.slot 3) .nil)))) (.cons (.ife (.callP 5 (.cons (.slot 6) .nil)) (.cons (.ret (.cst (.bl false))) .nil) .nil) (.cons (.forL 5 [0, 1, 2, 3, 4] (.cons (.try (.cons (.exp (.callL 5)) (.cons (.ret (.cst (.bl false))) .nil)) (.cons 1 (some 4) (.cons (.ife (.cmp .ne (.xf 4 [112, 97, 114, 116]) (.slot 7)) (.cons (.ret (.cst (.bl false))) .nil) .nil) .nil) .nil)) .nil)) .nil)))) (.cons (.try (.cons (.exp (.callP 12 (.cons (.cst (.int 3)) .nil))) (.cons (.ret (.cst (.bl false))) .nil)) (.cons 1 (some 4) (.cons (.ret (.cmp .eq (.xf 4 [112, 97, 114, 116]) (.cst (.int 3)))) .nil) .nil)) .nil))))))
def b_law : Sms := (.cons (.asg (.nm 1) (.lst true (.cons (.slot 0) (.cons (.cst (.int 0)) .nil)))) (.cons (.asg (.nm 2) (.comp [10] (.nm 10) (.range1 (.cst (.int 4))) .none (.elt (.call 27 (.cons (.slot 1) (.cons (.cst (.int 2)) .nil)))))) (.cons (.for (.nm 3) (.seq (.slot 2)) (.cons (.asg (.nm 8) (.callP 35 (.cons (.slot 3) .nil))) (.cons (.ife (.or (.cmp .ne (.callP 6 (.cons (.callP 36 (.cons (.slot 3) .nil)) .nil)) (.slot 3)) (.or (.not (.callP 5 (.cons (.slot 3) .nil))) (.or (.cmp .ne (.callP 8 (.cons (.slot 3) .nil)) (.callP 34 (.cons (.slot 3) .nil))) (.or (.cmp .ne (.callP 10 (.cons (.slot 3) .nil)) (.bm .count (.slot 8) (.cons (.cst (.str [97, 110, 121])) .nil))) (.one (.cmp .ne (.callP 9 (.cons (.slot 3) .nil)) (.bop .sub (.bop .mul (.cst (.int 2)) (.bi .len (.cons (.slot 8) .nil))) (.cst (.int 1))))))))) (.cons (.ret (.cst (.bl false))) .nil) .nil) (.cons (.ife (.or (.cmp .ne (.callP 11 (.cons (.slot 3) .nil)) (.ite (.cmp .eq (.slot 3) (.cst (.str [97, 110, 121]))) (.cst .non) (.callP 30 (.cons (.slot 3) .nil)))) (.one (.cmp .ne (.callP 21 (.cons (.slot 3) .nil)) (.callP 33 (.cons (.slot 3) .nil))))) (.cons (.ret (.cst (.bl false))) .nil) .nil) (.cons (.for (.nm 9) (.seq (.slot 2)) (.cons (.ife (.or (.cmp .ne (.callP 13 (.cons (.slot 3) (.cons (.slot 9) .nil))) (.callP 28 (.cons (.slot 3) (.cons (.slot 9) .nil)))) (.or (.cmp .ne (.callP 15 (.cons (.slot 3) (.cons (.slot 9) .nil))) (.callP 29 (.cons (.slot 3) (.cons (.slot 9) .nil)))) (.one (.cmp .ne (.callP 19 (.cons (.slot 3) (.cons (.slot 9) .nil))) (.callP 32 (.cons (.slot 3) (.cons (.slot 9) .nil))))))) (.cons (.ret (.cst (.bl false))) .nil) .nil) (.cons (.ife (.callP 29 (.cons (.slot 3) (.cons (.slot 9) .nil))) (.cons (.asg (.nm 13) (.callP 17 (.cons (.callP 36 (.cons (.slot 3) .nil)) (.cons (.slot 9) .nil)))) (.cons (.ife (.or (.cmp .ne (.slot 13) (.callP 31 (.cons (.slot 3) (.cons (.slot 9) .nil)))) (.or (.not (.callP 13 (.cons (.slot 3) (.cons (.slot 13) .nil)))) (.one (.not (.callP 13 (.cons (.slot 9) (.cons (.slot 13) .nil))))))) (.cons (.ret (.cst (.bl false))) .nil) .nil) .nil)) (.cons (.try (.cons (.exp (.callP 17 (.cons (.slot 3) (.cons (.slot 9) .nil)))) (.cons (.ret (.cst (.bl false))) .nil)) (.cons 2 (some 14) (.cons (.ife (.cmp .ne (.tup (.cons (.xf 14 [111, 110, 101]) (.cons (.xf 14 [111, 116, 104, 101, 114]) .nil))) (.tup (.cons (.slot 3) (.cons (.slot 9) .nil)))) (.cons (.ret (.cst (.bl false))) .nil) .nil) .nil) .nil)) .nil)) (.cons (.asg (.nm 11) (.callP 19 (.cons (.slot 3) (.cons (.slot 9) .nil)))) (.cons (.ife (.or (.not (.callP 13 (.cons (.slot 11) (.cons (.slot 3) .nil)))) (.or (.not (.callP 13 (.cons (.slot 11) (.cons (.slot 9) .nil)))) (.one (.bi .any (.cons (.comp [12] (.nm 12) (.seq (.callP 21 (.cons (.slot 3) .nil))) .none (.elt (.and (.callP 13 (.cons (.slot 12) (.cons (.slot 3) .nil))) (.and (.callP 13 (.cons (.slot 12) (.cons (.slot 9) .nil))) (.one (.not (.callP 13 (.cons (.slot 12) (.cons (.slot 11) .nil))))))))) .nil))))) (.cons (.ret (.cst (.bl false))) .nil) .nil) .nil))))) .nil))))) (.cons (.asg (.nm 4) (.lst false (.cons (.cst (.str [97, 110, 121])) (.cons (.cst (.str [110, 117, 109])) (.cons (.cst (.str [98, 105, 116])) .nil))))) (.cons (.asg (.nm 5) (.bi .list (.cons (.slot 4) .nil))) (.cons (.for (.nm 6) (.seq (.tup (.cons (.cst (.str [102, 117, 110])) (.cons (.cst (.str [112, 97, 105, 114])) .nil)))) (.cons (.for (.nm 3) (.seq (.slot 4)) (.cons (.asg (.nm 5) (.bop .add (.slot 5) (.comp [9] (.nm 9) (.seq (.slot 4)) .none (.elt (.tup (.cons (.slot 6) (.cons (.slot 3) (.cons (.slot 9) .nil)))))))) .nil)) .nil)) (.cons (.ife (.or (.cmp .ne (.callP 12 (.cons (.cst (.int 0)) .nil)) (.slot 4)) (.or (.cmp .ne (.callP 12 (.cons (.cst (.int 1)) .nil)) (.slot 5)) (.or (.cmp .ne (.bi .len (.cons (.callP 12 (.cons (.cst (.int 2)) .nil)) .nil)) (.bop .add (.cst (.int 3)) (.bop .mul (.bop .mul (.cst (.int 2)) (.cst (.int 21))) (.cst (.int 21))))) (.one (.cmp .ne (.sl (.callP 12 (.cons (.cst (.int 2)) .nil)) .none (.some (.cst (.int 21)))) (.slot 5)))))) (.cons (.ret (.cst (.bl false))) .nil) .nil) (.cons (.asg (.nm 3) (.call 27 (.cons (.slot 1) (.cons (.cst (.int 1)) .nil)))) (.cons (.asg (.nm 7) (.comp [12] (.nm 12) (.seq (.slot 5)) (.some (.and (.callP 28 (.cons (.slot 3) (.cons (.slot 12) .nil))) (.one (.cmp .ne (.slot 12) (.slot 3))))) (.elt (.slot 12)))) (.cons (.ife (.cmp .ne (.callP 23 (.cons (.slot 3) (.cons (.slot 5) .nil))) (.comp [12] (.nm 12) (.seq (.slot 7)) (.some (.not (.bi .any (.cons (.comp [9] (.nm 9) (.seq (.slot 7)) .none (.elt (.and (.cmp .ne (.slot 9) (.slot 12)) (.one (.callP 28 (.cons (.slot 9) (.cons (.slot 12) .nil))))))) .nil)))) (.elt (.slot 12)))) (.cons (.ret (.cst (.bl false))) .nil) .nil) (.cons (.ret (.call 37 (.cons (.slot 1) .nil))) .nil)))))))))))
def l_0 : Ex := (.callP 6 (.cons (.slot 6) .nil))
def l_1 : Ex := (.callP 13 (.cons (.cst (.str [97, 110, 121])) (.cons (.slot 6) .nil)))
def l_2 : Ex := (.callP 15 (.cons (.slot 6) (.cons (.cst (.str [110, 117, 109])) .nil)))
def l_3 : Ex := (.callP 21 (.cons (.slot 6) .nil))
def l_4 : Ex := (.callP 11 (.cons (.slot 6) .nil))
def pr : Prog := {
  fns := [⟨1, 1, b_is_row⟩, ⟨1, 1, b_is_number⟩, ⟨2, 2, b_is_below⟩, ⟨1, 1, b_check_kind⟩, ⟨2, 2, b_check_part⟩, ⟨1, 1, b_is_kind⟩, ⟨1, 1, b_kept⟩, ⟨1, 1, b_plain⟩, ⟨1, 1, b_deep_of⟩, ⟨1, 1, b_size_of⟩, ⟨1, 1, b_untold⟩, ⟨1, 1, b_ground⟩, ⟨1, 8, b_all_kinds⟩, ⟨2, 2, b_is_less⟩, ⟨2, 2, b_below⟩, ⟨2, 2, b_meets⟩, ⟨2, 2, b_near⟩, ⟨2, 2, b_together⟩, ⟨2, 2, b_joined⟩, ⟨2, 2, b_common⟩, ⟨2, 2, b_shared⟩, ⟨1, 1, b_less_of⟩, ⟨1, 3, b_lower⟩, ⟨2, 5, b_steps_up⟩, ⟨2, 7, b__law_number⟩, ⟨2, 2, b__law_take⟩, ⟨2, 2, b__law_pick⟩, ⟨2, 3, b__law_kind⟩, ⟨2, 2, b__law_below⟩, ⟨2, 2, b__law_near⟩, ⟨1, 1, b__law_ground⟩, ⟨2, 2, b__law_both⟩, ⟨2, 2, b__law_common⟩, ⟨1, 4, b__law_lower⟩, ⟨1, 1, b__law_deep⟩, ⟨1, 1, b__law_flat⟩, ⟨1, 1, b__law_listed⟩, ⟨1, 8, b__law_is_refused⟩, ⟨1, 15, b_law⟩],
  cls := [{ init := none, val := false, ms := [], exn := true, flds := [], ups := [] }, { init := none, val := false, ms := [], exn := true, flds := [[112, 97, 114, 116]], ups := [0] }, { init := none, val := false, ms := [], exn := true, flds := [[111, 110, 101], [111, 116, 104, 101, 114]], ups := [0] }],
  globs := [(.int (4) : D), (.tup [.str [97, 110, 121], .str [110, 117, 109], .str [98, 105, 116]] : D), (.tup [.str [102, 117, 110], .str [112, 97, 105, 114]] : D)],
  lams := [l_0, l_1, l_2, l_3, l_4], most := 0 }
-- FACTS
theorem g_0 : pr.globs[0]? = some (.int (4)) := rfl
theorem g_1 : pr.globs[1]? = some (.tup [.str [97, 110, 121], .str [110, 117, 109], .str [98, 105, 116]]) := rfl
theorem g_2 : pr.globs[2]? = some (.tup [.str [102, 117, 110], .str [112, 97, 105, 114]]) := rfl
theorem lm_0 : pr.lams[0]? = some l_0 := rfl
theorem lm_1 : pr.lams[1]? = some l_1 := rfl
theorem lm_2 : pr.lams[2]? = some l_2 := rfl
theorem lm_3 : pr.lams[3]? = some l_3 := rfl
theorem lm_4 : pr.lams[4]? = some l_4 := rfl
theorem cl_0 : pr.cls[0]? = some { init := none, val := false, ms := [], exn := true, flds := [], ups := [] } := rfl
theorem cl_1 : pr.cls[1]? = some { init := none, val := false, ms := [], exn := true, flds := [[112, 97, 114, 116]], ups := [0] } := rfl
theorem cl_2 : pr.cls[2]? = some { init := none, val := false, ms := [], exn := true, flds := [[111, 110, 101], [111, 116, 104, 101, 114]], ups := [0] } := rfl
theorem und_0_0 : under pr 0 0 = true := by decide
theorem und_0_1 : under pr 0 1 = false := by decide
theorem und_0_2 : under pr 0 2 = false := by decide
theorem und_1_0 : under pr 1 0 = true := by decide
theorem und_1_1 : under pr 1 1 = true := by decide
theorem und_1_2 : under pr 1 2 = false := by decide
theorem und_2_0 : under pr 2 0 = true := by decide
theorem und_2_1 : under pr 2 1 = false := by decide
theorem und_2_2 : under pr 2 2 = true := by decide
theorem rn_is_row (n : Nat) (es : List E) (C : Cells) : run pr (n + 1) 0 es C = body pr (run pr n) ⟨1, 1, b_is_row⟩ es C := rfl
theorem rn_is_number (n : Nat) (es : List E) (C : Cells) : run pr (n + 1) 1 es C = body pr (run pr n) ⟨1, 1, b_is_number⟩ es C := rfl
theorem rn_is_below (n : Nat) (es : List E) (C : Cells) : run pr (n + 1) 2 es C = body pr (run pr n) ⟨2, 2, b_is_below⟩ es C := rfl
theorem rn_check_kind (n : Nat) (es : List E) (C : Cells) : run pr (n + 1) 3 es C = body pr (run pr n) ⟨1, 1, b_check_kind⟩ es C := rfl
theorem rn_check_part (n : Nat) (es : List E) (C : Cells) : run pr (n + 1) 4 es C = body pr (run pr n) ⟨2, 2, b_check_part⟩ es C := rfl
theorem rn_is_kind (n : Nat) (es : List E) (C : Cells) : run pr (n + 1) 5 es C = body pr (run pr n) ⟨1, 1, b_is_kind⟩ es C := rfl
theorem rn_kept (n : Nat) (es : List E) (C : Cells) : run pr (n + 1) 6 es C = body pr (run pr n) ⟨1, 1, b_kept⟩ es C := rfl
theorem rn_plain (n : Nat) (es : List E) (C : Cells) : run pr (n + 1) 7 es C = body pr (run pr n) ⟨1, 1, b_plain⟩ es C := rfl
theorem rn_deep_of (n : Nat) (es : List E) (C : Cells) : run pr (n + 1) 8 es C = body pr (run pr n) ⟨1, 1, b_deep_of⟩ es C := rfl
theorem rn_size_of (n : Nat) (es : List E) (C : Cells) : run pr (n + 1) 9 es C = body pr (run pr n) ⟨1, 1, b_size_of⟩ es C := rfl
theorem rn_untold (n : Nat) (es : List E) (C : Cells) : run pr (n + 1) 10 es C = body pr (run pr n) ⟨1, 1, b_untold⟩ es C := rfl
theorem rn_ground (n : Nat) (es : List E) (C : Cells) : run pr (n + 1) 11 es C = body pr (run pr n) ⟨1, 1, b_ground⟩ es C := rfl
theorem rn_all_kinds (n : Nat) (es : List E) (C : Cells) : run pr (n + 1) 12 es C = body pr (run pr n) ⟨1, 8, b_all_kinds⟩ es C := rfl
theorem rn_is_less (n : Nat) (es : List E) (C : Cells) : run pr (n + 1) 13 es C = body pr (run pr n) ⟨2, 2, b_is_less⟩ es C := rfl
theorem rn_below (n : Nat) (es : List E) (C : Cells) : run pr (n + 1) 14 es C = body pr (run pr n) ⟨2, 2, b_below⟩ es C := rfl
theorem rn_meets (n : Nat) (es : List E) (C : Cells) : run pr (n + 1) 15 es C = body pr (run pr n) ⟨2, 2, b_meets⟩ es C := rfl
theorem rn_near (n : Nat) (es : List E) (C : Cells) : run pr (n + 1) 16 es C = body pr (run pr n) ⟨2, 2, b_near⟩ es C := rfl
theorem rn_together (n : Nat) (es : List E) (C : Cells) : run pr (n + 1) 17 es C = body pr (run pr n) ⟨2, 2, b_together⟩ es C := rfl
theorem rn_joined (n : Nat) (es : List E) (C : Cells) : run pr (n + 1) 18 es C = body pr (run pr n) ⟨2, 2, b_joined⟩ es C := rfl
theorem rn_common (n : Nat) (es : List E) (C : Cells) : run pr (n + 1) 19 es C = body pr (run pr n) ⟨2, 2, b_common⟩ es C := rfl
theorem rn_shared (n : Nat) (es : List E) (C : Cells) : run pr (n + 1) 20 es C = body pr (run pr n) ⟨2, 2, b_shared⟩ es C := rfl
theorem rn_less_of (n : Nat) (es : List E) (C : Cells) : run pr (n + 1) 21 es C = body pr (run pr n) ⟨1, 1, b_less_of⟩ es C := rfl
theorem rn_lower (n : Nat) (es : List E) (C : Cells) : run pr (n + 1) 22 es C = body pr (run pr n) ⟨1, 3, b_lower⟩ es C := rfl
theorem rn_steps_up (n : Nat) (es : List E) (C : Cells) : run pr (n + 1) 23 es C = body pr (run pr n) ⟨2, 5, b_steps_up⟩ es C := rfl
theorem rn__law_number (n : Nat) (es : List E) (C : Cells) : run pr (n + 1) 24 es C = body pr (run pr n) ⟨2, 7, b__law_number⟩ es C := rfl
theorem rn__law_take (n : Nat) (es : List E) (C : Cells) : run pr (n + 1) 25 es C = body pr (run pr n) ⟨2, 2, b__law_take⟩ es C := rfl
theorem rn__law_pick (n : Nat) (es : List E) (C : Cells) : run pr (n + 1) 26 es C = body pr (run pr n) ⟨2, 2, b__law_pick⟩ es C := rfl
theorem rn__law_kind (n : Nat) (es : List E) (C : Cells) : run pr (n + 1) 27 es C = body pr (run pr n) ⟨2, 3, b__law_kind⟩ es C := rfl
theorem rn__law_below (n : Nat) (es : List E) (C : Cells) : run pr (n + 1) 28 es C = body pr (run pr n) ⟨2, 2, b__law_below⟩ es C := rfl
theorem rn__law_near (n : Nat) (es : List E) (C : Cells) : run pr (n + 1) 29 es C = body pr (run pr n) ⟨2, 2, b__law_near⟩ es C := rfl
theorem rn__law_ground (n : Nat) (es : List E) (C : Cells) : run pr (n + 1) 30 es C = body pr (run pr n) ⟨1, 1, b__law_ground⟩ es C := rfl
theorem rn__law_both (n : Nat) (es : List E) (C : Cells) : run pr (n + 1) 31 es C = body pr (run pr n) ⟨2, 2, b__law_both⟩ es C := rfl
theorem rn__law_common (n : Nat) (es : List E) (C : Cells) : run pr (n + 1) 32 es C = body pr (run pr n) ⟨2, 2, b__law_common⟩ es C := rfl
theorem rn__law_lower (n : Nat) (es : List E) (C : Cells) : run pr (n + 1) 33 es C = body pr (run pr n) ⟨1, 4, b__law_lower⟩ es C := rfl
theorem rn__law_deep (n : Nat) (es : List E) (C : Cells) : run pr (n + 1) 34 es C = body pr (run pr n) ⟨1, 1, b__law_deep⟩ es C := rfl
theorem rn__law_flat (n : Nat) (es : List E) (C : Cells) : run pr (n + 1) 35 es C = body pr (run pr n) ⟨1, 1, b__law_flat⟩ es C := rfl
theorem rn__law_listed (n : Nat) (es : List E) (C : Cells) : run pr (n + 1) 36 es C = body pr (run pr n) ⟨1, 1, b__law_listed⟩ es C := rfl
theorem rn__law_is_refused (n : Nat) (es : List E) (C : Cells) : run pr (n + 1) 37 es C = body pr (run pr n) ⟨1, 8, b__law_is_refused⟩ es C := rfl
theorem rn_law (n : Nat) (es : List E) (C : Cells) : run pr (n + 1) 38 es C = body pr (run pr n) ⟨1, 15, b_law⟩ es C := rfl
-- PRF g_0, g_1, g_2, lm_0, l_0, lm_1, l_1, lm_2, l_2, lm_3, l_3, lm_4, l_4, cl_0, cl_1, cl_2, und_0_0, und_0_1, und_0_2, und_1_0, und_1_1, und_1_2, und_2_0, und_2_1, und_2_2
end K01

end

section
set_option maxRecDepth 512
set_option maxRecDepth 100000
set_option maxHeartbeats 4000000
set_option linter.all false
namespace K01
open Ev
inductive Kd where
  | any | num | bit
  | two (p : Bool) (a b : Kd)
  deriving DecidableEq
def wd (p : Bool) : Nm := if p then [112, 97, 105, 114] else [102, 117, 110]
def enc (l : Bool) : Kd → D
  | .any => .str [97, 110, 121]
  | .num => .str [110, 117, 109]
  | .bit => .str [98, 105, 116]
  | .two p a b => if l then .lst [.str (wd p), enc l a, enc l b] else .tup [.str (wd p), enc l a, enc l b]
def dp : Kd → Nat
  | .two _ a b => max (dp a) (dp b) + 1
  | _ => 0
theorem pd_enc {l : Bool} (k : Kd) : pd (enc l k) = true := by
  induction k with
  | two p a b iha ihb => cases l <;> cases p <;> simp [enc, pd, pds, iha, ihb, wd]
  | _ => rfl
theorem dep_enc {l : Bool} (k : Kd) : dep (enc l k) = dp k := by
  induction k with
  | two p a b iha ihb => cases l <;> simp [enc, dep, deps, iha, ihb, dp]
  | _ => rfl
theorem shp_enc {l : Bool} {k : Kd} (hk : dp k ≤ 20) : shp (enc l k) = true := by
  unfold shp
  rw [pd_enc, dep_enc]
  simp; omega
theorem eqD_enc : ∀ a b : Kd, eqD (enc false a) (enc false b) = decide (a = b)
  | .any, b => by cases b <;> simp [enc, eqD]
  | .num, b => by cases b <;> simp [enc, eqD]
  | .bit, b => by cases b <;> simp [enc, eqD]
  | .two p a1 a2, b => by
    cases b <;> simp [enc, eqD, eqDs]
    case two q b1 b2 =>
      rw [eqD_enc a1 b1, eqD_enc a2 b2]
      cases p <;> cases q <;> simp [wd]
def isTwo : Kd → Bool
  | .two _ _ _ => true
  | _ => false
theorem isi_str {l : Bool} {k : Kd} {C : Cells} : isiE C (.v (enc l k)) [.str] = some (!isTwo k) := by cases k <;> cases l <;> rfl
theorem isi_row {l : Bool} {k : Kd} {C : Cells} : isiE C (.v (enc l k)) [.list, .tuple] = some (isTwo k) := by cases k <;> cases l <;> rfl
theorem eq_any {l : Bool} {k : Kd} (h : dp k ≤ 20) : copV .eq (enc l k) (.str [97, 110, 121]) = some (decide (k = .any)) := by
  rw [copV_eq (shp_enc h) (by decide)]
  cases k <;> cases l <;> rfl
theorem eq_enc {a b : Kd} (h : dp a ≤ 20) (h' : dp b ≤ 20) : copV .eq (enc false a) (enc false b) = some (decide (a = b)) := by rw [copV_eq (shp_enc h) (shp_enc h'), eqD_enc]
theorem ne_enc {a b : Kd} (h : dp a ≤ 20) (h' : dp b ≤ 20) : copV .ne (enc false a) (enc false b) = some (!decide (a = b)) := by rw [copV_ne (shp_enc h) (shp_enc h'), eqD_enc]
theorem eq_wd {p q : Bool} : copV .eq (.str (wd p)) (.str (wd q)) = some (p == q) := by cases p <;> cases q <;> rfl
theorem ne_wd {p q : Bool} : copV .ne (.str (wd p)) (.str (wd q)) = some (!(p == q)) := by cases p <;> cases q <;> rfl
theorem ix0 {l p : Bool} {a b : Kd} : idxV (enc l (.two p a b)) (.int 0) = some (.str (wd p)) := by cases l <;> rfl
theorem ix1 {l p : Bool} {a b : Kd} : idxV (enc l (.two p a b)) (.int 1) = some (enc l a) := by cases l <;> rfl
theorem ix2 {l p : Bool} {a b : Kd} : idxV (enc l (.two p a b)) (.int 2) = some (enc l b) := by cases l <;> rfl
theorem in_bases {l : Bool} {k : Kd} (h : dp k ≤ 20) : copV .isin (enc l k) (.tup [.str [97, 110, 121], .str [110, 117, 109], .str [98, 105, 116]]) = some (!isTwo k) := by
  have := shp_enc (l := l) h
  cases k <;> first | (cases l <;> rfl) | skip
  simp only [copV, this]
  cases l <;> rfl
theorem in_words {p : Bool} : copV .notin (.str (wd p)) (.tup [.str [102, 117, 110], .str [112, 97, 105, 114]]) = some false := by cases p <;> rfl
theorem in_two {a b : Kd} (h : dp a ≤ 20) (h' : dp b ≤ 20) : copV .isin (.str [97, 110, 121]) (.tup [enc false a, enc false b]) = some (decide (a = .any) || decide (b = .any)) := by
  have h1 := shp_enc (l := false) h
  have h2 := shp_enc (l := false) h'
  simp only [copV, shps, h1, h2]
  have e1 := eqD_enc a .any
  have e2 := eqD_enc b .any
  simp only [enc] at e1 e2
  simp [memD, e1, e2, shp, pd, dep]
theorem len3 {l p : Bool} {a b : Kd} : biV .len [enc l (.two p a b)] = some (.int 3) := by cases l <;> rfl
theorem two_dp {p : Bool} {a b : Kd} {n : Nat} (h : dp (.two p a b) ≤ n) : dp a ≤ n ∧ dp b ≤ n ∧ dp a < n ∧ dp b < n ∧ dp a + 1 ≤ n ∧ dp b + 1 ≤ n := by simp [dp] at h; omega
theorem two_dp' {p : Bool} {a b : Kd} {n : Nat} (h : dp (.two p a b) < n + 1) : dp a < n ∧ dp b < n := by simp [dp] at h; omega
theorem succ_of {m n : Nat} (h : m < n) : ∃ k, n = k + 1 := ⟨n - 1, by omega⟩

def blw : Kd → Kd → Bool
  | .any, _ => true
  | .two p a b, .two q c d => (p == q) && blw a c && blw b d
  | a, b => decide (a = b)
theorem run_below : ∀ (a b : Kd) (n : Nat), dp a ≤ 20 → dp b ≤ 20 → dp a < n → run pr n 14 [.v (enc false a), .v (enc false b)] [] = .ok (.v (.bl (blw a b))) [] := by
  intro a
  induction a with
  | two p a1 a2 iha ihb =>
    intro b n h1 h2 h3
    obtain ⟨n, rfl⟩ := succ_of h3
    show body pr (run pr n) ⟨2, 2, b_below⟩ _ _ = _
    unfold b_below
    have e1 := two_dp h1
    have e3 := two_dp' h3
    cases b with
    | two q b1 b2 =>
      have e2 := two_dp h2
      have p1 := pure_ok (C := []) (f := 14) (ds := [enc false a1, enc false b1]) (iha b1 n e1.1 e2.1 e3.1)
      have p2 := pure_ok (C := []) (f := 14) (ds := [enc false a2, enc false b2]) (ihb b2 n e1.2.1 e2.2.1 e3.2)
      simp [exSs, exS, exH, evE, evEs, evO, evI, evC, evG, startE, K.d, see, R.st, truE, truR, truV, leave, lowC, vals, sees, asgE, asgT, asgTs, body, line, eq_any, eq_enc, h1, h2, isi_str, isTwo, blw, ix0, ix1, ix2, eq_wd, p1, p2]
      cases p <;> cases q <;> simp
      all_goals (cases blw a1 b1 <;> simp)
    | _ => simp [exSs, exS, exH, evE, evEs, evO, evI, evC, evG, startE, K.d, see, R.st, truE, truR, truV, leave, lowC, vals, sees, asgE, asgT, asgTs, body, line, eq_any, eq_enc, h1, h2, isi_str, isTwo, blw]
  | _ =>
    intro b n h1 h2 h3
    obtain ⟨n, rfl⟩ := succ_of h3
    show body pr (run pr n) ⟨2, 2, b_below⟩ _ _ = _
    unfold b_below
    simp [exSs, exS, exH, evE, evEs, evO, evI, evC, evG, startE, K.d, see, R.st, truE, truR, truV, leave, lowC, vals, sees, asgE, asgT, asgTs, body, line, eq_any, eq_enc, h1, h2, isi_str, isTwo, blw]
def nr : Kd → Kd → Bool
  | .any, _ => true
  | _, .any => true
  | .two p a b, .two q c d => (p == q) && nr a c && nr b d
  | a, b => decide (a = b)
theorem run_near : ∀ (a b : Kd) (n : Nat), dp a ≤ 20 → dp b ≤ 20 → dp a < n → run pr n 16 [.v (enc false a), .v (enc false b)] [] = .ok (.v (.bl (nr a b))) [] := by
  intro a
  induction a with
  | two p a1 a2 iha ihb =>
    intro b n h1 h2 h3
    obtain ⟨n, rfl⟩ := succ_of h3
    show body pr (run pr n) ⟨2, 2, b_near⟩ _ _ = _
    unfold b_near
    have e1 := two_dp h1
    have e3 := two_dp' h3
    cases b with
    | two q b1 b2 =>
      have e2 := two_dp h2
      have p1 := pure_ok (C := []) (f := 16) (ds := [enc false a1, enc false b1]) (iha b1 n e1.1 e2.1 e3.1)
      have p2 := pure_ok (C := []) (f := 16) (ds := [enc false a2, enc false b2]) (ihb b2 n e1.2.1 e2.2.1 e3.2)
      simp [exSs, exS, exH, evE, evEs, evO, evI, evC, evG, startE, K.d, see, R.st, truE, truR, truV, leave, lowC, vals, sees, asgE, asgT, asgTs, body, line, in_two, eq_enc, h1, h2, isi_str, isTwo, nr, ix0, ix1, ix2, eq_wd, p1, p2]
      cases p <;> cases q <;> simp
      all_goals (cases nr a1 b1 <;> simp)
    | _ => simp [exSs, exS, exH, evE, evEs, evO, evI, evC, evG, startE, K.d, see, R.st, truE, truR, truV, leave, lowC, vals, sees, asgE, asgT, asgTs, body, line, in_two, eq_enc, h1, h2, isi_str, isTwo, nr]
  | _ =>
    intro b n h1 h2 h3
    obtain ⟨n, rfl⟩ := succ_of h3
    show body pr (run pr n) ⟨2, 2, b_near⟩ _ _ = _
    unfold b_near
    cases b <;> simp [exSs, exS, exH, evE, evEs, evO, evI, evC, evG, startE, K.d, see, R.st, truE, truR, truV, leave, lowC, vals, sees, asgE, asgT, asgTs, body, line, in_two, eq_enc, h1, h2, isi_str, isTwo, nr]
end K01

end

section
set_option maxRecDepth 512
set_option maxRecDepth 100000
set_option maxHeartbeats 4000000
set_option linter.all false
namespace K01
open Ev
theorem g0 : pr.globs[0]? = some (.int 4) := rfl
theorem g1 : pr.globs[1]? = some (.tup [.str [97, 110, 121], .str [110, 117, 109], .str [98, 105, 116]]) := rfl
theorem g2 : pr.globs[2]? = some (.tup [.str [102, 117, 110], .str [112, 97, 105, 114]]) := rfl
theorem run_row (l : Bool) (k : Kd) (n : Nat) : run pr (n + 1) 0 [.v (enc l k)] [] = .ok (.v (.bl (isTwo k))) [] := by
  show body pr (run pr n) ⟨1, 1, b_is_row⟩ _ _ = _
  unfold b_is_row
  simp [exSs, exS, exH, evE, evEs, evO, evI, evC, evG, startE, K.d, see, R.st, truE, truR, truV, leave, lowC, vals, sees, asgE, asgT, asgTs, body, line, isi_row]
theorem run_part (l : Bool) : ∀ (k : Kd) (d : Int) (n : Nat), (dp k : Int) ≤ d → dp k ≤ 20 → dp k + 1 < n → run pr n 4 [.v (enc l k), .v (.int d)] [] = .ok (.v .non) [] := by
  intro k
  induction k with
  | two p a b iha ihb =>
    intro d n h1 h2 h3
    obtain ⟨n, rfl⟩ := succ_of h3
    have hd : d ≠ 0 := by simp [dp] at h1; omega
    obtain ⟨m, rfl⟩ : ∃ m, n = m + 1 := ⟨n - 1, by simp [dp] at h3; omega⟩
    show body pr (run pr (m + 1)) ⟨2, 2, b_check_part⟩ _ _ = _
    unfold b_check_part
    have e1 := two_dp h2
    have p0 := pure_ok (C := []) (f := 0) (ds := [enc l (.two p a b)]) (run_row l (.two p a b) m)
    have p1 := pure_ok (C := []) (f := 4) (ds := [enc l a, .int (d - 1)]) (iha (d - 1) (m + 1) (by simp [dp] at h1; omega) e1.1 (by simp [dp] at h3; omega))
    have p2 := pure_ok (C := []) (f := 4) (ds := [enc l b, .int (d - 1)]) (ihb (d - 1) (m + 1) (by simp [dp] at h1; omega) e1.2.1 (by simp [dp] at h3; omega))
    have q0 : copV .eq (.int d) (.int 0) = some false := by simp [copV, shp, pd, dep, eqD, hd]
    have q1 : copV .ne (.int 3) (.int 3) = some false := rfl
    simp [exSs, exS, exH, evE, evEs, evO, evI, evC, evG, startE, K.d, see, R.st, truE, truR, truV, leave, lowC, vals, sees, asgE, asgT, asgTs, body, line, isi_str, isTwo, g1, g2, p0, p1, p2, q0, q1, len3, ix0, ix1, ix2, in_words, bopV]
  | _ =>
    intro d n h1 h2 h3
    obtain ⟨n, rfl⟩ := succ_of h3
    show body pr (run pr n) ⟨2, 2, b_check_part⟩ _ _ = _
    unfold b_check_part
    simp [exSs, exS, exH, evE, evEs, evO, evI, evC, evG, startE, K.d, see, R.st, truE, truR, truV, leave, lowC, vals, sees, asgE, asgT, asgTs, body, line, isi_str, isTwo, g1, in_bases, h2]
theorem run_check (l : Bool) (k : Kd) (n : Nat) (h : dp k ≤ 4) (hn : 7 ≤ n) : run pr n 3 [.v (enc l k)] [] = .ok (.v .non) [] := by
  obtain ⟨n, rfl⟩ := succ_of hn
  have p1 := pure_ok (C := []) (f := 4) (ds := [enc l k, .int 4]) (run_part l k 4 n (by omega) (by omega) (by omega))
  show body pr (run pr n) ⟨1, 1, b_check_kind⟩ _ _ = _
  unfold b_check_kind
  simp [exSs, exS, exH, evE, evEs, evO, evI, evC, evG, startE, K.d, see, R.st, truE, truR, truV, leave, lowC, vals, sees, asgE, asgT, asgTs, body, line, g0, p1]
theorem run_plain (l : Bool) : ∀ (k : Kd) (n : Nat), dp k < n → run pr n 7 [.v (enc l k)] [] = .ok (.v (enc false k)) [] := by
  intro k
  induction k with
  | two p a b iha ihb =>
    intro n h3
    obtain ⟨n, rfl⟩ := succ_of h3
    have e3 := two_dp' h3
    have p1 := pure_ok (C := []) (f := 7) (ds := [enc l a]) (iha n e3.1)
    have p2 := pure_ok (C := []) (f := 7) (ds := [enc l b]) (ihb n e3.2)
    show body pr (run pr n) ⟨1, 1, b_plain⟩ _ _ = _
    unfold b_plain
    simp [exSs, exS, exH, evE, evEs, evO, evI, evC, evG, startE, K.d, see, R.st, truE, truR, truV, leave, lowC, vals, sees, asgE, asgT, asgTs, body, line, isi_str, isTwo, ix0, ix1, ix2, p1, p2]
    simp [enc]
  | _ =>
    intro n h3
    obtain ⟨n, rfl⟩ := succ_of h3
    cases l <;> rfl
theorem run_kept (l : Bool) (k : Kd) (n : Nat) (h : dp k ≤ 4) (hn : 8 ≤ n) : run pr n 6 [.v (enc l k)] [] = .ok (.v (enc false k)) [] := by
  obtain ⟨n, rfl⟩ := succ_of hn
  have p1 := pure_ok (C := []) (f := 3) (ds := [enc l k]) (run_check l k n h (by omega))
  have p2 := pure_ok (C := []) (f := 7) (ds := [enc l k]) (run_plain l k n (by omega))
  show body pr (run pr n) ⟨1, 1, b_kept⟩ _ _ = _
  unfold b_kept
  simp [exSs, exS, exH, evE, evEs, evO, evI, evC, evG, startE, K.d, see, R.st, truE, truR, truV, leave, lowC, vals, sees, asgE, asgT, asgTs, body, line, p1, p2]
theorem run_is_kind (l : Bool) (k : Kd) (n : Nat) (h : dp k ≤ 4) (hn : 8 ≤ n) : run pr n 5 [.v (enc l k)] [] = .ok (.v (.bl true)) [] := by
  obtain ⟨n, rfl⟩ := succ_of hn
  have p1 := pure_ok (C := []) (f := 3) (ds := [enc l k]) (run_check l k n h (by omega))
  show body pr (run pr n) ⟨1, 1, b_is_kind⟩ _ _ = _
  unfold b_is_kind
  simp [exSs, exS, exH, evE, evEs, evO, evI, evC, evG, startE, K.d, see, R.st, truE, truR, truV, leave, lowC, vals, sees, asgE, asgT, asgTs, body, line, p1]
theorem run_deep : ∀ (k : Kd) (n : Nat), dp k ≤ 4 → dp k + 8 ≤ n → run pr n 8 [.v (enc false k)] [] = .ok (.v (.int (dp k))) [] := by
  intro k
  induction k with
  | two p a b iha ihb =>
    intro n h1 h3
    obtain ⟨n, rfl⟩ := succ_of h3
    have e1 := two_dp h1
    have p0 := pure_ok (C := []) (f := 3) (ds := [enc false (.two p a b)]) (run_check false (.two p a b) n h1 (by omega))
    have p1 := pure_ok (C := []) (f := 8) (ds := [enc false a]) (iha n e1.1 (by simp [dp] at h3; omega))
    have p2 := pure_ok (C := []) (f := 8) (ds := [enc false b]) (ihb n e1.2.1 (by simp [dp] at h3; omega))
    show body pr (run pr n) ⟨1, 1, b_deep_of⟩ _ _ = _
    unfold b_deep_of
    simp [exSs, exS, exH, evE, evEs, evO, evI, evC, evG, startE, K.d, see, R.st, truE, truR, truV, leave, lowC, vals, sees, asgE, asgT, asgTs, body, line, isi_str, isTwo, ix1, ix2, p0, p1, p2, biV, bopV]
    simp only [dp]
    split <;> omega
  | _ =>
    intro n h1 h3
    obtain ⟨n, rfl⟩ := succ_of h3
    have p0 := pure_ok (C := []) (f := 3) (ds := [enc false _]) (run_check false _ n h1 (by omega))
    show body pr (run pr n) ⟨1, 1, b_deep_of⟩ _ _ = _
    unfold b_deep_of
    simp [exSs, exS, exH, evE, evEs, evO, evI, evC, evG, startE, K.d, see, R.st, truE, truR, truV, leave, lowC, vals, sees, asgE, asgT, asgTs, body, line, isi_str, isTwo, p0, dp]
def sz : Kd → Nat
  | .two _ a b => 1 + sz a + sz b
  | _ => 1
theorem run_size : ∀ (k : Kd) (n : Nat), dp k ≤ 4 → dp k + 8 ≤ n → run pr n 9 [.v (enc false k)] [] = .ok (.v (.int (sz k))) [] := by
  intro k
  induction k with
  | two p a b iha ihb =>
    intro n h1 h3
    obtain ⟨n, rfl⟩ := succ_of h3
    have e1 := two_dp h1
    have p0 := pure_ok (C := []) (f := 3) (ds := [enc false (.two p a b)]) (run_check false (.two p a b) n h1 (by omega))
    have p1 := pure_ok (C := []) (f := 9) (ds := [enc false a]) (iha n e1.1 (by simp [dp] at h3; omega))
    have p2 := pure_ok (C := []) (f := 9) (ds := [enc false b]) (ihb n e1.2.1 (by simp [dp] at h3; omega))
    show body pr (run pr n) ⟨1, 1, b_size_of⟩ _ _ = _
    unfold b_size_of
    simp [exSs, exS, exH, evE, evEs, evO, evI, evC, evG, startE, K.d, see, R.st, truE, truR, truV, leave, lowC, vals, sees, asgE, asgT, asgTs, body, line, isi_str, isTwo, ix1, ix2, p0, p1, p2, biV, bopV, sz]
  | _ =>
    intro n h1 h3
    obtain ⟨n, rfl⟩ := succ_of h3
    have p0 := pure_ok (C := []) (f := 3) (ds := [enc false _]) (run_check false _ n h1 (by omega))
    show body pr (run pr n) ⟨1, 1, b_size_of⟩ _ _ = _
    unfold b_size_of
    simp [exSs, exS, exH, evE, evEs, evO, evI, evC, evG, startE, K.d, see, R.st, truE, truR, truV, leave, lowC, vals, sees, asgE, asgT, asgTs, body, line, isi_str, isTwo, p0, dp, sz]
def un : Kd → Nat
  | .two _ a b => un a + un b
  | .any => 1
  | _ => 0
theorem run_untold : ∀ (k : Kd) (n : Nat), dp k ≤ 4 → dp k + 8 ≤ n → run pr n 10 [.v (enc false k)] [] = .ok (.v (.int (un k))) [] := by
  intro k
  induction k with
  | two p a b iha ihb =>
    intro n h1 h3
    obtain ⟨n, rfl⟩ := succ_of h3
    have e1 := two_dp h1
    have p0 := pure_ok (C := []) (f := 3) (ds := [enc false (.two p a b)]) (run_check false (.two p a b) n h1 (by omega))
    have p1 := pure_ok (C := []) (f := 10) (ds := [enc false a]) (iha n e1.1 (by simp [dp] at h3; omega))
    have p2 := pure_ok (C := []) (f := 10) (ds := [enc false b]) (ihb n e1.2.1 (by simp [dp] at h3; omega))
    show body pr (run pr n) ⟨1, 1, b_untold⟩ _ _ = _
    unfold b_untold
    simp [exSs, exS, exH, evE, evEs, evO, evI, evC, evG, startE, K.d, see, R.st, truE, truR, truV, leave, lowC, vals, sees, asgE, asgT, asgTs, body, line, isi_str, isTwo, ix1, ix2, p0, p1, p2, biV, bopV, un]
  | _ =>
    intro n h1 h3
    obtain ⟨n, rfl⟩ := succ_of h3
    have p0 := pure_ok (C := []) (f := 3) (ds := [enc false _]) (run_check false _ n h1 (by omega))
    have h2 := Nat.le_trans h1 (show 4 ≤ 20 by decide)
    show body pr (run pr n) ⟨1, 1, b_untold⟩ _ _ = _
    unfold b_untold
    simp [exSs, exS, exH, evE, evEs, evO, evI, evC, evG, startE, K.d, see, R.st, truE, truR, truV, leave, lowC, vals, sees, asgE, asgT, asgTs, body, line, isi_str, isTwo, p0, un, eq_any, h2]
def grd : Kd → D
  | .any => .non
  | .two p _ _ => enc false (.two p .any .any)
  | k => enc false k
theorem run_ground (k : Kd) (n : Nat) (h1 : dp k ≤ 4) (hn : 8 ≤ n) : run pr n 11 [.v (enc false k)] [] = .ok (.v (grd k)) [] := by
  obtain ⟨n, rfl⟩ := succ_of hn
  have p0 := pure_ok (C := []) (f := 3) (ds := [enc false k]) (run_check false k n h1 (by omega))
  have h2 := Nat.le_trans h1 (show 4 ≤ 20 by decide)
  show body pr (run pr n) ⟨1, 1, b_ground⟩ _ _ = _
  unfold b_ground
  cases k <;> simp [exSs, exS, exH, evE, evEs, evO, evI, evC, evG, startE, K.d, see, R.st, truE, truR, truV, leave, lowC, vals, sees, asgE, asgT, asgTs, body, line, isi_str, isTwo, p0, eq_any, h2, grd, ix0]
  simp [enc]
theorem run_is_less (a b : Kd) (n : Nat) (h1 : dp a ≤ 4) (h2 : dp b ≤ 4) (hn : 8 ≤ n) : run pr n 13 [.v (enc false a), .v (enc false b)] [] = .ok (.v (.bl (blw a b))) [] := by
  obtain ⟨n, rfl⟩ := succ_of hn
  have p0 := pure_ok (C := []) (f := 3) (ds := [enc false a]) (run_check false a n h1 (by omega))
  have p1 := pure_ok (C := []) (f := 3) (ds := [enc false b]) (run_check false b n h2 (by omega))
  have p2 := pure_ok (C := []) (f := 14) (ds := [enc false a, enc false b]) (run_below a b n (by omega) (by omega) (by omega))
  show body pr (run pr n) ⟨2, 2, b_is_less⟩ _ _ = _
  unfold b_is_less
  simp [exSs, exS, exH, evE, evEs, evO, evI, evC, evG, startE, K.d, see, R.st, truE, truR, truV, leave, lowC, vals, sees, asgE, asgT, asgTs, body, line, p0, p1, p2]
theorem run_meets (a b : Kd) (n : Nat) (h1 : dp a ≤ 4) (h2 : dp b ≤ 4) (hn : 8 ≤ n) : run pr n 15 [.v (enc false a), .v (enc false b)] [] = .ok (.v (.bl (nr a b))) [] := by
  obtain ⟨n, rfl⟩ := succ_of hn
  have p0 := pure_ok (C := []) (f := 3) (ds := [enc false a]) (run_check false a n h1 (by omega))
  have p1 := pure_ok (C := []) (f := 3) (ds := [enc false b]) (run_check false b n h2 (by omega))
  have p2 := pure_ok (C := []) (f := 16) (ds := [enc false a, enc false b]) (run_near a b n (by omega) (by omega) (by omega))
  show body pr (run pr n) ⟨2, 2, b_meets⟩ _ _ = _
  unfold b_meets
  simp [exSs, exS, exH, evE, evEs, evO, evI, evC, evG, startE, K.d, see, R.st, truE, truR, truV, leave, lowC, vals, sees, asgE, asgT, asgTs, body, line, p0, p1, p2]
end K01

end

section
set_option maxRecDepth 512
set_option maxRecDepth 100000
set_option maxHeartbeats 4000000
set_option linter.all false
namespace K01
open Ev
def jn : Kd → Kd → Kd
  | .any, b => b
  | a, .any => a
  | .two p a b, .two q c d => .two p (jn a c) (jn b d)
  | a, _ => a
theorem run_joined : ∀ (a b : Kd) (n : Nat), dp a ≤ 20 → dp b ≤ 20 → nr a b = true → dp a < n → run pr n 18 [.v (enc false a), .v (enc false b)] [] = .ok (.v (enc false (jn a b))) [] := by
  intro a
  induction a with
  | two p a1 a2 iha ihb =>
    intro b n h1 h2 hn h3
    obtain ⟨n, rfl⟩ := succ_of h3
    show body pr (run pr n) ⟨2, 2, b_joined⟩ _ _ = _
    unfold b_joined
    have e1 := two_dp h1
    have e3 := two_dp' h3
    cases b with
    | two q b1 b2 =>
      have e2 := two_dp h2
      simp only [nr, Bool.and_eq_true] at hn
      have p1 := pure_ok (C := []) (f := 18) (ds := [enc false a1, enc false b1]) (iha b1 n e1.1 e2.1 hn.1.2 e3.1)
      have p2 := pure_ok (C := []) (f := 18) (ds := [enc false a2, enc false b2]) (ihb b2 n e1.2.1 e2.2.1 hn.2 e3.2)
      simp [exSs, exS, exH, evE, evEs, evO, evI, evC, evG, startE, K.d, see, R.st, truE, truR, truV, leave, lowC, vals, sees, asgE, asgT, asgTs, body, line, eq_any, eq_enc, h1, h2, isi_str, isTwo, jn, ix0, ix1, ix2, eq_wd, p1, p2]
      simp [enc]
    | any => simp [exSs, exS, exH, evE, evEs, evO, evI, evC, evG, startE, K.d, see, R.st, truE, truR, truV, leave, lowC, vals, sees, asgE, asgT, asgTs, body, line, eq_any, h1, h2, isi_str, isTwo, jn]
    | num => simp [nr] at hn
    | bit => simp [nr] at hn
  | _ =>
    intro b n h1 h2 hn h3
    obtain ⟨n, rfl⟩ := succ_of h3
    show body pr (run pr n) ⟨2, 2, b_joined⟩ _ _ = _
    unfold b_joined
    cases b <;> simp [exSs, exS, exH, evE, evEs, evO, evI, evC, evG, startE, K.d, see, R.st, truE, truR, truV, leave, lowC, vals, sees, asgE, asgT, asgTs, body, line, eq_any, h1, h2, isi_str, isTwo, jn]
theorem run_together (l : Bool) (a b : Kd) (n : Nat) (h1 : dp a ≤ 4) (h2 : dp b ≤ 4) (hn : nr a b = true) (h3 : 9 ≤ n) : run pr n 17 [.v (enc l a), .v (enc false b)] [] = .ok (.v (enc false (jn a b))) [] := by
  obtain ⟨n, rfl⟩ := succ_of h3
  have p0 := pure_ok (C := []) (f := 6) (ds := [enc l a]) (run_kept l a n h1 (by omega))
  have p1 := pure_ok (C := []) (f := 6) (ds := [enc false b]) (run_kept false b n h2 (by omega))
  have p2 := pure_ok (C := []) (f := 16) (ds := [enc false a, enc false b]) (run_near a b n (by omega) (by omega) (by omega))
  have p3 := pure_ok (C := []) (f := 18) (ds := [enc false a, enc false b]) (run_joined a b n (by omega) (by omega) hn (by omega))
  show body pr (run pr n) ⟨2, 2, b_together⟩ _ _ = _
  unfold b_together
  simp [exSs, exS, exH, evE, evEs, evO, evI, evC, evG, startE, K.d, see, R.st, truE, truR, truV, leave, lowC, vals, sees, asgE, asgT, asgTs, body, line, p0, p1, p2, p3, hn]
theorem c2 : pr.cls[2]? = some { init := none, val := false, ms := [], exn := true, flds := [[111, 110, 101], [111, 116, 104, 101, 114]], ups := [0] } := rfl
theorem run_apart (a b : Kd) (n : Nat) (h1 : dp a ≤ 4) (h2 : dp b ≤ 4) (hn : nr a b = false) (h3 : 9 ≤ n) : run pr n 17 [.v (enc false a), .v (enc false b)] [] = .exc 2 [([111, 110, 101], enc false a), ([111, 116, 104, 101, 114], enc false b)] [] := by
  obtain ⟨n, rfl⟩ := succ_of h3
  have p0 := pure_ok (C := []) (f := 6) (ds := [enc false a]) (run_kept false a n h1 (by omega))
  have p1 := pure_ok (C := []) (f := 6) (ds := [enc false b]) (run_kept false b n h2 (by omega))
  have p2 := pure_ok (C := []) (f := 16) (ds := [enc false a, enc false b]) (run_near a b n (by omega) (by omega) (by omega))
  show body pr (run pr n) ⟨2, 2, b_together⟩ _ _ = _
  unfold b_together
  simp [exSs, exS, exH, evE, evEs, evO, evI, evC, evG, startE, K.d, see, R.st, truE, truR, truV, leave, lowC, vals, sees, asgE, asgT, asgTs, body, line, p0, p1, p2, hn, c2]
def shd : Kd → Kd → Kd
  | .two p a b, .two q c d => if p = q then .two p (shd a c) (shd b d) else .any
  | .num, .num => .num
  | .bit, .bit => .bit
  | _, _ => .any
theorem shd_self : ∀ a : Kd, shd a a = a
  | .any => rfl
  | .num => rfl
  | .bit => rfl
  | .two p a b => by simp [shd, shd_self a, shd_self b]
theorem run_shared : ∀ (a b : Kd) (n : Nat), dp a ≤ 20 → dp b ≤ 20 → dp a < n → run pr n 20 [.v (enc false a), .v (enc false b)] [] = .ok (.v (enc false (shd a b))) [] := by
  intro a
  induction a with
  | two p a1 a2 iha ihb =>
    intro b n h1 h2 h3
    obtain ⟨n, rfl⟩ := succ_of h3
    show body pr (run pr n) ⟨2, 2, b_shared⟩ _ _ = _
    unfold b_shared
    have e1 := two_dp h1
    have e3 := two_dp' h3
    cases b with
    | two q b1 b2 =>
      have e2 := two_dp h2
      have p1 := pure_ok (C := []) (f := 20) (ds := [enc false a1, enc false b1]) (iha b1 n e1.1 e2.1 e3.1)
      have p2 := pure_ok (C := []) (f := 20) (ds := [enc false a2, enc false b2]) (ihb b2 n e1.2.1 e2.2.1 e3.2)
      by_cases he : Kd.two p a1 a2 = Kd.two q b1 b2
      · rw [← he, shd_self]
        simp [exSs, exS, exH, evE, evEs, evO, evI, evC, evG, startE, K.d, see, R.st, truE, truR, truV, leave, lowC, vals, sees, asgE, asgT, asgTs, body, line, eq_enc, h1]
      · cases p <;> cases q <;> simp [exSs, exS, exH, evE, evEs, evO, evI, evC, evG, startE, K.d, see, R.st, truE, truR, truV, leave, lowC, vals, sees, asgE, asgT, asgTs, body, line, eq_enc, h1, h2, he, isi_str, isTwo, ix0, ix1, ix2, ne_wd, p1, p2, shd]
        all_goals simp [enc]
    | _ =>
      simp [exSs, exS, exH, evE, evEs, evO, evI, evC, evG, startE, K.d, see, R.st, truE, truR, truV, leave, lowC, vals, sees, asgE, asgT, asgTs, body, line, eq_enc, h1, h2, isi_str, isTwo, shd]
      simp [enc]
  | _ =>
    intro b n h1 h2 h3
    obtain ⟨n, rfl⟩ := succ_of h3
    show body pr (run pr n) ⟨2, 2, b_shared⟩ _ _ = _
    unfold b_shared
    cases b <;> simp [exSs, exS, exH, evE, evEs, evO, evI, evC, evG, startE, K.d, see, R.st, truE, truR, truV, leave, lowC, vals, sees, asgE, asgT, asgTs, body, line, eq_enc, h1, h2, isi_str, isTwo, shd] <;> simp [enc]
theorem run_common (a b : Kd) (n : Nat) (h1 : dp a ≤ 4) (h2 : dp b ≤ 4) (h3 : 9 ≤ n) : run pr n 19 [.v (enc false a), .v (enc false b)] [] = .ok (.v (enc false (shd a b))) [] := by
  obtain ⟨n, rfl⟩ := succ_of h3
  have p0 := pure_ok (C := []) (f := 6) (ds := [enc false a]) (run_kept false a n h1 (by omega))
  have p1 := pure_ok (C := []) (f := 6) (ds := [enc false b]) (run_kept false b n h2 (by omega))
  have p2 := pure_ok (C := []) (f := 20) (ds := [enc false a, enc false b]) (run_shared a b n (by omega) (by omega) (by omega))
  show body pr (run pr n) ⟨2, 2, b_common⟩ _ _ = _
  unfold b_common
  simp [exSs, exS, exH, evE, evEs, evO, evI, evC, evG, startE, K.d, see, R.st, truE, truR, truV, leave, lowC, vals, sees, asgE, asgT, asgTs, body, line, p0, p1, p2]
/-! ### the law's own -/
theorem run_lbelow : ∀ (a b : Kd) (n : Nat), dp a ≤ 20 → dp b ≤ 20 → dp a < n → run pr n 28 [.v (enc false a), .v (enc false b)] [] = .ok (.v (.bl (blw a b))) [] := by
  have self : ∀ a, blw a a = true := fun a => by induction a <;> simp [blw, *]
  intro a
  induction a with
  | two p a1 a2 iha ihb =>
    intro b n h1 h2 h3
    obtain ⟨n, rfl⟩ := succ_of h3
    show body pr (run pr n) ⟨2, 2, b__law_below⟩ _ _ = _
    unfold b__law_below
    have e1 := two_dp h1
    have e3 := two_dp' h3
    cases b with
    | two q b1 b2 =>
      have e2 := two_dp h2
      have p1 := pure_ok (C := []) (f := 28) (ds := [enc false a1, enc false b1]) (iha b1 n e1.1 e2.1 e3.1)
      have p2 := pure_ok (C := []) (f := 28) (ds := [enc false a2, enc false b2]) (ihb b2 n e1.2.1 e2.2.1 e3.2)
      by_cases he : Kd.two p a1 a2 = Kd.two q b1 b2
      · rw [← he, self]
        simp [exSs, exS, exH, evE, evEs, evO, evI, evC, evG, startE, K.d, see, R.st, truE, truR, truV, leave, lowC, vals, sees, asgE, asgT, asgTs, body, line, eq_any, eq_enc, h1]
      · cases p <;> cases q <;> simp [exSs, exS, exH, evE, evEs, evO, evI, evC, evG, startE, K.d, see, R.st, truE, truR, truV, leave, lowC, vals, sees, asgE, asgT, asgTs, body, line, eq_any, eq_enc, h1, h2, he, isi_str, isTwo, ix0, ix1, ix2, ne_wd, p1, p2, blw]
        all_goals (cases blw a1 b1 <;> simp)
    | _ => simp [exSs, exS, exH, evE, evEs, evO, evI, evC, evG, startE, K.d, see, R.st, truE, truR, truV, leave, lowC, vals, sees, asgE, asgT, asgTs, body, line, eq_any, eq_enc, h1, h2, isi_str, isTwo, blw]
  | _ =>
    intro b n h1 h2 h3
    obtain ⟨n, rfl⟩ := succ_of h3
    show body pr (run pr n) ⟨2, 2, b__law_below⟩ _ _ = _
    unfold b__law_below
    cases b <;> simp [exSs, exS, exH, evE, evEs, evO, evI, evC, evG, startE, K.d, see, R.st, truE, truR, truV, leave, lowC, vals, sees, asgE, asgT, asgTs, body, line, eq_any, eq_enc, h1, h2, isi_str, isTwo, blw]
theorem run_lnear : ∀ (a b : Kd) (n : Nat), dp a ≤ 20 → dp b ≤ 20 → dp a < n → run pr n 29 [.v (enc false a), .v (enc false b)] [] = .ok (.v (.bl (nr a b))) [] := by
  have self : ∀ a, nr a a = true := fun a => by induction a <;> simp [nr, *]
  intro a
  induction a with
  | two p a1 a2 iha ihb =>
    intro b n h1 h2 h3
    obtain ⟨n, rfl⟩ := succ_of h3
    show body pr (run pr n) ⟨2, 2, b__law_near⟩ _ _ = _
    unfold b__law_near
    have e1 := two_dp h1
    have e3 := two_dp' h3
    cases b with
    | two q b1 b2 =>
      have e2 := two_dp h2
      have p1 := pure_ok (C := []) (f := 29) (ds := [enc false a1, enc false b1]) (iha b1 n e1.1 e2.1 e3.1)
      have p2 := pure_ok (C := []) (f := 29) (ds := [enc false a2, enc false b2]) (ihb b2 n e1.2.1 e2.2.1 e3.2)
      by_cases he : Kd.two p a1 a2 = Kd.two q b1 b2
      · rw [← he, self]
        simp [exSs, exS, exH, evE, evEs, evO, evI, evC, evG, startE, K.d, see, R.st, truE, truR, truV, leave, lowC, vals, sees, asgE, asgT, asgTs, body, line, eq_any, eq_enc, h1]
      · cases p <;> cases q <;> simp [exSs, exS, exH, evE, evEs, evO, evI, evC, evG, startE, K.d, see, R.st, truE, truR, truV, leave, lowC, vals, sees, asgE, asgT, asgTs, body, line, eq_any, eq_enc, h1, h2, he, isi_str, isTwo, ix0, ix1, ix2, ne_wd, p1, p2, nr]
        all_goals (cases nr a1 b1 <;> simp)
    | _ => simp [exSs, exS, exH, evE, evEs, evO, evI, evC, evG, startE, K.d, see, R.st, truE, truR, truV, leave, lowC, vals, sees, asgE, asgT, asgTs, body, line, eq_any, eq_enc, h1, h2, isi_str, isTwo, nr]
  | _ =>
    intro b n h1 h2 h3
    obtain ⟨n, rfl⟩ := succ_of h3
    show body pr (run pr n) ⟨2, 2, b__law_near⟩ _ _ = _
    unfold b__law_near
    cases b <;> simp [exSs, exS, exH, evE, evEs, evO, evI, evC, evG, startE, K.d, see, R.st, truE, truR, truV, leave, lowC, vals, sees, asgE, asgT, asgTs, body, line, eq_any, eq_enc, h1, h2, isi_str, isTwo, nr]
theorem run_lcommon : ∀ (a b : Kd) (n : Nat), dp a ≤ 20 → dp b ≤ 20 → dp a < n → run pr n 32 [.v (enc false a), .v (enc false b)] [] = .ok (.v (enc false (shd a b))) [] := by
  intro a
  induction a with
  | two p a1 a2 iha ihb =>
    intro b n h1 h2 h3
    obtain ⟨n, rfl⟩ := succ_of h3
    show body pr (run pr n) ⟨2, 2, b__law_common⟩ _ _ = _
    unfold b__law_common
    have e1 := two_dp h1
    have e3 := two_dp' h3
    cases b with
    | two q b1 b2 =>
      have e2 := two_dp h2
      have p1 := pure_ok (C := []) (f := 32) (ds := [enc false a1, enc false b1]) (iha b1 n e1.1 e2.1 e3.1)
      have p2 := pure_ok (C := []) (f := 32) (ds := [enc false a2, enc false b2]) (ihb b2 n e1.2.1 e2.2.1 e3.2)
      by_cases he : Kd.two p a1 a2 = Kd.two q b1 b2
      · rw [← he, shd_self]
        simp [exSs, exS, exH, evE, evEs, evO, evI, evC, evG, startE, K.d, see, R.st, truE, truR, truV, leave, lowC, vals, sees, asgE, asgT, asgTs, body, line, eq_enc, h1]
      · cases p <;> cases q <;> simp [exSs, exS, exH, evE, evEs, evO, evI, evC, evG, startE, K.d, see, R.st, truE, truR, truV, leave, lowC, vals, sees, asgE, asgT, asgTs, body, line, eq_enc, h1, h2, he, isi_str, isTwo, ix0, ix1, ix2, ne_wd, p1, p2, shd]
        all_goals simp [enc]
    | _ =>
      simp [exSs, exS, exH, evE, evEs, evO, evI, evC, evG, startE, K.d, see, R.st, truE, truR, truV, leave, lowC, vals, sees, asgE, asgT, asgTs, body, line, eq_enc, h1, h2, isi_str, isTwo, shd]
      simp [enc]
  | _ =>
    intro b n h1 h2 h3
    obtain ⟨n, rfl⟩ := succ_of h3
    show body pr (run pr n) ⟨2, 2, b__law_common⟩ _ _ = _
    unfold b__law_common
    cases b <;> simp [exSs, exS, exH, evE, evEs, evO, evI, evC, evG, startE, K.d, see, R.st, truE, truR, truV, leave, lowC, vals, sees, asgE, asgT, asgTs, body, line, eq_enc, h1, h2, isi_str, isTwo, shd] <;> simp [enc]
theorem run_lboth : ∀ (a b : Kd) (n : Nat), dp a ≤ 20 → dp b ≤ 20 → nr a b = true → dp a < n → run pr n 31 [.v (enc false a), .v (enc false b)] [] = .ok (.v (enc false (jn a b))) [] := by
  have self : ∀ a, jn a a = a := fun a => by induction a <;> simp [jn, *]
  intro a
  induction a with
  | two p a1 a2 iha ihb =>
    intro b n h1 h2 hn h3
    obtain ⟨n, rfl⟩ := succ_of h3
    show body pr (run pr n) ⟨2, 2, b__law_both⟩ _ _ = _
    unfold b__law_both
    have e1 := two_dp h1
    have e3 := two_dp' h3
    cases b with
    | two q b1 b2 =>
      have e2 := two_dp h2
      simp only [nr, Bool.and_eq_true] at hn
      have p1 := pure_ok (C := []) (f := 31) (ds := [enc false a1, enc false b1]) (iha b1 n e1.1 e2.1 hn.1.2 e3.1)
      have p2 := pure_ok (C := []) (f := 31) (ds := [enc false a2, enc false b2]) (ihb b2 n e1.2.1 e2.2.1 hn.2 e3.2)
      by_cases he : Kd.two p a1 a2 = Kd.two q b1 b2
      · rw [← he, self]
        simp [exSs, exS, exH, evE, evEs, evO, evI, evC, evG, startE, K.d, see, R.st, truE, truR, truV, leave, lowC, vals, sees, asgE, asgT, asgTs, body, line, eq_any, eq_enc, h1]
      · simp [exSs, exS, exH, evE, evEs, evO, evI, evC, evG, startE, K.d, see, R.st, truE, truR, truV, leave, lowC, vals, sees, asgE, asgT, asgTs, body, line, eq_any, eq_enc, h1, h2, he, isi_str, isTwo, jn, ix0, ix1, ix2, p1, p2]
        simp [enc]
    | any => simp [exSs, exS, exH, evE, evEs, evO, evI, evC, evG, startE, K.d, see, R.st, truE, truR, truV, leave, lowC, vals, sees, asgE, asgT, asgTs, body, line, eq_any, eq_enc, h1, h2, isi_str, isTwo, jn]
    | num => simp [nr] at hn
    | bit => simp [nr] at hn
  | _ =>
    intro b n h1 h2 hn h3
    obtain ⟨n, rfl⟩ := succ_of h3
    show body pr (run pr n) ⟨2, 2, b__law_both⟩ _ _ = _
    unfold b__law_both
    cases b <;> first | (simp [nr] at hn; done) | simp [exSs, exS, exH, evE, evEs, evO, evI, evC, evG, startE, K.d, see, R.st, truE, truR, truV, leave, lowC, vals, sees, asgE, asgT, asgTs, body, line, eq_any, eq_enc, h1, h2, isi_str, isTwo, jn]
theorem run_ldeep : ∀ (k : Kd) (n : Nat), dp k < n → run pr n 34 [.v (enc false k)] [] = .ok (.v (.int (dp k))) [] := by
  intro k
  induction k with
  | two p a b iha ihb =>
    intro n h3
    obtain ⟨n, rfl⟩ := succ_of h3
    have e3 := two_dp' h3
    have p1 := pure_ok (C := []) (f := 34) (ds := [enc false a]) (iha n e3.1)
    have p2 := pure_ok (C := []) (f := 34) (ds := [enc false b]) (ihb n e3.2)
    show body pr (run pr n) ⟨1, 1, b__law_deep⟩ _ _ = _
    unfold b__law_deep
    simp [exSs, exS, exH, evE, evEs, evO, evI, evC, evG, startE, K.d, see, R.st, truE, truR, truV, leave, lowC, vals, sees, asgE, asgT, asgTs, body, line, isi_str, isTwo, ix1, ix2, p1, p2, biV, bopV]
    simp only [dp]
    split <;> omega
  | _ =>
    intro n h3
    obtain ⟨n, rfl⟩ := succ_of h3
    rfl
theorem run_llisted : ∀ (k : Kd) (n : Nat), dp k < n → run pr n 36 [.v (enc false k)] [] = .ok (.v (enc true k)) [] := by
  intro k
  induction k with
  | two p a b iha ihb =>
    intro n h3
    obtain ⟨n, rfl⟩ := succ_of h3
    have e3 := two_dp' h3
    have p1 := pure_ok (C := []) (f := 36) (ds := [enc false a]) (iha n e3.1)
    have p2 := pure_ok (C := []) (f := 36) (ds := [enc false b]) (ihb n e3.2)
    show body pr (run pr n) ⟨1, 1, b__law_listed⟩ _ _ = _
    unfold b__law_listed
    simp [exSs, exS, exH, evE, evEs, evO, evI, evC, evG, startE, K.d, see, R.st, truE, truR, truV, leave, lowC, vals, sees, asgE, asgT, asgTs, body, line, isi_str, isTwo, ix0, ix1, ix2, p1, p2]
    simp [enc]
  | _ =>
    intro n h3
    obtain ⟨n, rfl⟩ := succ_of h3
    rfl
def lgr : Kd → Kd
  | .two p _ _ => .two p .any .any
  | k => k
theorem run_lground (k : Kd) (n : Nat) (h : 0 < n) : run pr n 30 [.v (enc false k)] [] = .ok (.v (enc false (lgr k))) [] := by
  obtain ⟨n, rfl⟩ := succ_of h
  show body pr (run pr n) ⟨1, 1, b__law_ground⟩ _ _ = _
  unfold b__law_ground
  cases k <;> simp [exSs, exS, exH, evE, evEs, evO, evI, evC, evG, startE, K.d, see, R.st, truE, truR, truV, leave, lowC, vals, sees, asgE, asgT, asgTs, body, line, isi_str, isTwo, ix0, lgr]
  simp [enc]
def fl : Kd → List D
  | .two _ a b => fl a ++ fl b
  | k => [enc false k]
theorem fl_len : ∀ k : Kd, (fl k).length + (fl k).length = sz k + 1
  | .any => rfl
  | .num => rfl
  | .bit => rfl
  | .two p a b => by
    have h1 := fl_len a
    have h2 := fl_len b
    simp [fl, sz]; omega
theorem sz_le : ∀ k : Kd, sz k + 1 ≤ 2 * 2 ^ dp k
  | .any => by decide
  | .num => by decide
  | .bit => by decide
  | .two p a b => by
    have h1 := sz_le a
    have h2 := sz_le b
    have h3 : 2 ^ dp a ≤ 2 ^ max (dp a) (dp b) := Nat.pow_le_pow_right (by decide) (Nat.le_max_left _ _)
    have h4 : 2 ^ dp b ≤ 2 ^ max (dp a) (dp b) := Nat.pow_le_pow_right (by decide) (Nat.le_max_right _ _)
    simp only [sz, dp, Nat.pow_succ]
    omega
theorem run_lflat : ∀ (k : Kd) (n : Nat), dp k ≤ 20 → dp k < n → run pr n 35 [.v (enc false k)] [] = .ok (.v (.lst (fl k))) [] := by
  intro k
  induction k with
  | two p a b iha ihb =>
    intro n h1 h3
    obtain ⟨n, rfl⟩ := succ_of h3
    have e3 := two_dp' h3
    have e1 := two_dp h1
    have p1 := pure_ok (C := []) (f := 35) (ds := [enc false a]) (iha n e1.1 e3.1)
    have p2 := pure_ok (C := []) (f := 35) (ds := [enc false b]) (ihb n e1.2.1 e3.2)
    have hb : (fl a).length + (fl b).length ≤ 16777216 := by
      have z1 := fl_len (.two p a b)
      have z2 := sz_le (.two p a b)
      have z3 : 2 ^ dp (.two p a b) ≤ 2 ^ 20 := Nat.pow_le_pow_right (by decide) h1
      simp only [fl, List.length_append] at z1
      have : (2 : Nat) ^ 20 = 1048576 := by decide
      omega
    show body pr (run pr n) ⟨1, 1, b__law_flat⟩ _ _ = _
    unfold b__law_flat
    simp [exSs, exS, exH, evE, evEs, evO, evI, evC, evG, startE, K.d, see, R.st, truE, truR, truV, leave, lowC, vals, sees, asgE, asgT, asgTs, body, line, isi_str, isTwo, ix1, ix2, p1, p2, bopV, hb, fl]
  | _ =>
    intro n h1 h3
    obtain ⟨n, rfl⟩ := succ_of h3
    rfl
end K01

end

section
set_option maxRecDepth 512
set_option maxRecDepth 100000
set_option maxHeartbeats 4000000
set_option linter.all false
namespace Ev
/-- a walk of a comprehension that makes g x of each x -/
theorem compL_fm {α : Type} {env : Env} {t : Tg} {f : Env → Cells → List D → R (List D)} {C : Cells} (en : α → D) (g : α → List D) :
    ∀ (xs : List α) (acc : List D), (∀ x ∈ xs, ∀ acc : List D, acc.length + (g x).length ≤ line → ∃ e, asgT t (en x) env = some e ∧ f e C acc = .ok (acc ++ g x) C) →
      acc.length + (xs.flatMap g).length ≤ line → compL env t f (xs.map en) C acc = .ok (acc ++ xs.flatMap g) C
  | [], acc, _, _ => by simp [compL]
  | x :: xs, acc, h, hl => by
    simp only [List.flatMap_cons, List.length_append] at hl
    obtain ⟨e, h1, h2⟩ := h x (List.mem_cons_self ..) acc (by omega)
    simp only [List.map_cons, compL, h1, h2, R.bind_ok]
    rw [compL_fm en g xs _ (fun y hy => h y (List.mem_cons_of_mem _ hy)) (by simp only [List.length_append]; omega)]
    simp
theorem flat_one {α : Type} {β : Type} (g : α → β) (xs : List α) : xs.flatMap (fun x => [g x]) = xs.map g := by induction xs <;> simp_all
theorem vals_map : ∀ ds : List D, vals (ds.map .v) = some ds
  | [] => rfl
  | d :: ds => by simp [vals, vals_map ds]
theorem vals_flat {α : Type} (g : α → List D) : ∀ xs : List α, vals (xs.flatMap fun x => (g x).map .v) = some (xs.flatMap g)
  | xs => by rw [show (xs.flatMap fun x => (g x).map E.v) = (xs.flatMap g).map .v by simp [List.map_flatMap], vals_map]
/-- a walk that keeps I -/
theorem forL_inv {t : Tg} {g : Env → Cells → RS} {C : Cells} (I : Env → Prop) : ∀ (ds : List D) (env : Env), I env →
    (∀ x ∈ ds, ∀ env, I env → ∃ e, asgT t x env = some e ∧ ∃ env', g e C = .next env' C ∧ I env') → ∃ env', forL t g ds env C = .next env' C ∧ I env'
  | [], env, h, _ => ⟨env, rfl, h⟩
  | x :: ds, env, h, hg => by
    obtain ⟨e, h1, env', h2, h3⟩ := hg x (List.mem_cons_self ..) env h
    simp only [forL, h1, h2]
    exact forL_inv I ds env' h3 fun y hy => hg y (List.mem_cons_of_mem _ hy)
/-- a walk: S says what holds once zs is walked -/
theorem forL_fold {α : Type} {t : Tg} {g : Env → Cells → RS} {C : Cells} (en : α → D) (S : List α → Env → Prop) (zs0 : List α) :
    ∀ (xs zs : List α) (env : Env), zs ++ xs = zs0 → S zs env →
      (∀ zs x ws env, zs ++ x :: ws = zs0 → S zs env → ∃ e, asgT t (en x) env = some e ∧ ∃ env', g e C = .next env' C ∧ S (zs ++ [x]) env') →
      ∃ env', forL t g (xs.map en) env C = .next env' C ∧ S zs0 env'
  | [], zs, env, e, h, _ => ⟨env, rfl, by rw [← e]; simpa using h⟩
  | x :: xs, zs, env, e, h, hg => by
    obtain ⟨e1, h1, env', h2, h3⟩ := hg zs x xs env e h
    simp only [List.map_cons, forL, h1, h2]
    exact forL_fold en S zs0 xs (zs ++ [x]) env' (by simpa using e) h3 hg
theorem forL_all {α : Type} {t : Tg} {g : Env → Cells → RS} {C : Cells} {xs : List α} {env : Env} {F : RS} (en : α → D) (hF : forL t g (xs.map en) env C = F) (S : List α → Env → Prop)
    (h0 : S [] env) (h : ∀ zs x ws env, zs ++ x :: ws = xs → S zs env → ∃ e, asgT t (en x) env = some e ∧ ∃ env', g e C = .next env' C ∧ S (zs ++ [x]) env') :
    ∃ env', F = .next env' C ∧ S xs env' := by
  obtain ⟨env', h1, h2⟩ := forL_fold en S xs xs [] env rfl h0 h
  exact ⟨env', by rw [← hF, h1], h2⟩
end Ev
namespace K01
open Ev
def lw : Kd → List Kd
  | .any => [.any]
  | .two p a b => .any :: (lw a).flatMap fun x => (lw b).map fun y => .two p x y
  | k => [.any, k]
def ub : Nat → Nat
  | 0 => 2
  | n + 1 => 1 + ub n * ub n
theorem ub_mono : ∀ {a b : Nat}, a ≤ b → ub a ≤ ub b := by
  intro a b h
  induction b with
  | zero => have : a = 0 := by omega
            subst this; exact Nat.le_refl _
  | succ n ih =>
    by_cases e : a = n + 1
    · subst e; exact Nat.le_refl _
    · have := ih (by omega)
      have h2 : ub n ≤ ub n * ub n := Nat.le_mul_of_pos_left _ (by cases n <;> simp [ub] <;> omega)
      simp only [ub]; omega
theorem prod_len {α β γ : Type} (f : α → β → γ) (A : List α) (B : List β) : (A.flatMap fun x => B.map fun y => f x y).length = A.length * B.length := by
  induction A with
  | nil => simp
  | cons x A ih => simp only [List.flatMap_cons, List.length_append, ih, List.length_map, List.length_cons, Nat.succ_mul]; omega
theorem lw_len : ∀ k : Kd, (lw k).length ≤ ub (dp k)
  | .any => by decide
  | .num => by decide
  | .bit => by decide
  | .two p a b => by
    have h1 := Nat.le_trans (lw_len a) (ub_mono (Nat.le_max_left (dp a) (dp b)))
    have h2 := Nat.le_trans (lw_len b) (ub_mono (Nat.le_max_right (dp a) (dp b)))
    simp only [lw, dp, ub, List.length_cons, prod_len]
    have := Nat.mul_le_mul h1 h2
    omega
theorem lw_line {k : Kd} (h : dp k ≤ 4) : (lw k).length ≤ 458330 := Nat.le_trans (lw_len k) (Nat.le_trans (ub_mono h) (by decide))
def lwe (k : Kd) : D := .lst ((lw k).map (enc false))
theorem run_lower : ∀ (k : Kd) (n : Nat), dp k ≤ 4 → dp k < n → run pr n 22 [.v (enc false k)] [] = .ok (.v (lwe k)) [] := by
  intro k
  induction k with
  | two p a b iha ihb =>
    intro n h1 h3
    obtain ⟨n, rfl⟩ := succ_of h3
    have e3 := two_dp' h3
    have e1 := two_dp h1
    have p1 := pure_ok (C := []) (f := 22) (ds := [enc false a]) (iha n e1.1 e3.1)
    have p2 := pure_ok (C := []) (f := 22) (ds := [enc false b]) (ihb n e1.2.1 e3.2)
    have hl := lw_line h1
    simp only [lw, List.length_cons, prod_len] at hl
    have hb := Nat.le_trans h1 (show 4 ≤ 20 by decide)
    show body pr (run pr n) ⟨1, 3, b_lower⟩ _ _ = _
    unfold b_lower
    simp [exSs, exS, exH, evE, evEs, evO, evI, evC, evG, startE, K.d, see, R.st, truE, truR, truV, leave, lowC, vals, sees, asgE, asgT, asgTs, body, line, eq_any, hb, isi_str, isTwo, ix0, ix1, ix2, p1, p2, lwe, seqD, lock, unlock, noexc]
    rw [compL_fm (enc false) (fun x => (lw b).map fun y => enc false (.two p x y)) (lw a)]
    · simp only [seqD, Option.bind, List.nil_append, RS.map, unlock, R.bind_ok, noexc, evEs, List.append_nil, vals, vals_map, Option.map]
      rw [if_pos (by simp only [List.length_cons, prod_len]; omega)]
      simp [enc, lw, List.map_flatMap, Function.comp_def]
    · intro x hx acc hl
      refine ⟨_, rfl, ?_⟩
      simp [exSs, exS, exH, evE, evEs, evO, evI, evC, evG, startE, K.d, see, R.st, truE, truR, truV, leave, lowC, vals, sees, asgE, asgT, asgTs, body, line, ix0, ix1, ix2, p2, seqD, lock, unlock, walkC, stepC, wipeE, gsl, tsl, lwe]
      rw [compL_fm (enc false) (fun y => [enc false (.two p x y)]) (lw b)]
      · simp [flat_one]
      · intro y hy acc hl
        refine ⟨_, rfl, ?_⟩
        simp at hl
        have h5 : acc.length < 16777216 := by
          have : line = 16777216 := rfl
          omega
        simp [exSs, exS, exH, evE, evEs, evO, evI, evC, evG, startE, K.d, see, R.st, truE, truR, truV, leave, lowC, vals, sees, asgE, asgT, asgTs, body, line, ix0, pushD, h5]
        simp [enc]
      · rw [flat_one]; exact hl
    · have : line = 16777216 := rfl
      simp only [prod_len, List.length_nil]; omega
  | _ =>
    intro n h1 h3
    obtain ⟨n, rfl⟩ := succ_of h3
    have hb := Nat.le_trans h1 (show 4 ≤ 20 by decide)
    show body pr (run pr n) ⟨1, 3, b_lower⟩ _ _ = _
    unfold b_lower
    simp [exSs, exS, exH, evE, evEs, evO, evI, evC, evG, startE, K.d, see, R.st, truE, truR, truV, leave, lowC, vals, sees, asgE, asgT, asgTs, body, line, eq_any, hb, isi_str, isTwo, lwe, lw]
    try simp [enc]
theorem run_less_of (k : Kd) (n : Nat) (h1 : dp k ≤ 4) (hn : 9 ≤ n) : run pr n 21 [.v (enc false k)] [] = .ok (.v (lwe k)) [] := by
  obtain ⟨n, rfl⟩ := succ_of hn
  have p0 := pure_ok (C := []) (f := 6) (ds := [enc false k]) (run_kept false k n h1 (by omega))
  have p1 := pure_ok (C := []) (f := 22) (ds := [enc false k]) (run_lower k n h1 (by omega))
  show body pr (run pr n) ⟨1, 1, b_less_of⟩ _ _ = _
  unfold b_less_of
  simp [exSs, exS, exH, evE, evEs, evO, evI, evC, evG, startE, K.d, see, R.st, truE, truR, truV, leave, lowC, vals, sees, asgE, asgT, asgTs, body, line, p0, p1]
theorem run_llower : ∀ (k : Kd) (n : Nat), dp k ≤ 4 → dp k < n → run pr n 33 [.v (enc false k)] [] = .ok (.v (lwe k)) [] := by
  intro k
  induction k with
  | two p a b iha ihb =>
    intro n h1 h3
    obtain ⟨n, rfl⟩ := succ_of h3
    have e3 := two_dp' h3
    have e1 := two_dp h1
    have p1 := pure_ok (C := []) (f := 33) (ds := [enc false a]) (iha n e1.1 e3.1)
    have p2 := pure_ok (C := []) (f := 33) (ds := [enc false b]) (ihb n e1.2.1 e3.2)
    have hl := lw_line h1
    simp only [lw, List.length_cons, prod_len] at hl
    have hb := Nat.le_trans h1 (show 4 ≤ 20 by decide)
    show body pr (run pr n) ⟨1, 4, b__law_lower⟩ _ _ = _
    unfold b__law_lower
    simp [exSs, exS, exH, evE, evEs, evO, evI, evC, evG, startE, K.d, see, R.st, truE, truR, truV, leave, lowC, vals, sees, asgE, asgT, asgTs, body, line, eq_any, hb, isi_str, isTwo, ix0, ix1, ix2, p1, p2, seqD, lock, unlock, noexc, lwe]
    generalize hF : forL _ _ _ _ _ = F
    obtain ⟨env', rfl, st, rfl⟩ := forL_all (enc false) hF (fun zs env => ∃ st, env = [some (.v (enc false (.two p a b))), some (.v (.lst (.str [97, 110, 121] :: zs.flatMap fun x => (lw b).map fun y => enc false (.two p x y)))), st, none]) ⟨_, rfl⟩ (by
      rintro zs x ws env e ⟨st, rfl⟩
      refine ⟨_, rfl, ?_⟩
      have hm : (zs.length + 1) * (lw b).length ≤ (lw a).length * (lw b).length := Nat.mul_le_mul_right _ (by rw [← e]; simp)
      rw [Nat.succ_mul] at hm
      simp [exSs, exS, exH, evE, evEs, evO, evI, evC, evG, startE, K.d, see, R.st, truE, truR, truV, leave, lowC, vals, sees, asgE, asgT, asgTs, body, line, ix0, ix1, ix2, p2, seqD, lock, unlock, walkC, stepC, wipeE, gsl, tsl, lwe, noexc]
      rw [compL_fm (enc false) (fun y => [enc false (.two p x y)]) (lw b)]
      · simp only [flat_one, List.nil_append, R.bind_ok, see, Option.bind, bopV, List.length_cons, prod_len, List.length_map]
        rw [if_pos (by simp only [line]; omega)]
        simp
      · intro y hy acc hl
        refine ⟨_, rfl, ?_⟩
        simp at hl
        have h5 : acc.length < 16777216 := by
          have : line = 16777216 := rfl
          omega
        simp [exSs, exS, exH, evE, evEs, evO, evI, evC, evG, startE, K.d, see, R.st, truE, truR, truV, leave, lowC, vals, sees, asgE, asgT, asgTs, body, line, ix0, pushD, h5]
        simp [enc]
      · have : line = 16777216 := rfl
        simp only [flat_one, List.length_nil, List.length_map]; omega)
    simp [lwe, lw, enc, List.map_flatMap, Function.comp_def, RS.map]
  | _ =>
    intro n h1 h3
    obtain ⟨n, rfl⟩ := succ_of h3
    have hb := Nat.le_trans h1 (show 4 ≤ 20 by decide)
    show body pr (run pr n) ⟨1, 4, b__law_lower⟩ _ _ = _
    unfold b__law_lower
    simp [exSs, exS, exH, evE, evEs, evO, evI, evC, evG, startE, K.d, see, R.st, truE, truR, truV, leave, lowC, vals, sees, asgE, asgT, asgTs, body, line, eq_any, hb, isi_str, isTwo, lwe, lw]
    try simp [enc]
end K01

end

section
set_option maxRecDepth 512
set_option maxRecDepth 100000
set_option maxHeartbeats 4000000
set_option linter.all false
namespace Ev
theorem forL_keep {t : Tg} {g : Env → Cells → RS} {C : Cells} {ds : List D} {env : Env} {F : RS} (hF : forL t g ds env C = F) (I : Env → Prop)
    (h0 : I env) (h : ∀ x env, I env → ∃ e, asgT t x env = some e ∧ ∃ env', g e C = .next env' C ∧ I env') : ∃ env', F = .next env' C ∧ I env' := by
  obtain ⟨env', h1, h2⟩ := forL_inv I ds env h0 fun x _ env hI => h x env hI
  exact ⟨env', by rw [← hF, h1], h2⟩
theorem ixN_mod {n : Nat} (i : Int) (h : 0 < n) : ∃ j, ixN n (i % (n : Int)) = some j ∧ j < n := by
  have h1 := Int.emod_nonneg i (show (n : Int) ≠ 0 by omega)
  have h2 := Int.emod_lt_of_pos i (show (0 : Int) < n by omega)
  exact ⟨(i % (n : Int)).toNat, by simp [ixN, h1, h2], by omega⟩
theorem pds_ints : ∀ ns : List Int, pds (ns.map .int) = true
  | [] => rfl
  | n :: ns => by simp [pds, pd, pds_ints ns]
theorem deps_ints : ∀ ns : List Int, deps (ns.map .int) = 0
  | [] => rfl
  | n :: ns => by simp [deps, dep, deps_ints ns]
theorem shp_ints (ns : List Int) : shp (.lst (ns.map .int)) = true := by simp [shp, pd, dep, pds_ints, deps_ints]
/-- a script's look, by a place that the script's length bounds -/
theorem at_mod {ns : List Int} (i : Int) (h : ns ≠ []) : ∃ v, idxV (.lst (ns.map .int)) (.int (i % (ns.length : Int))) = some (.int v) := by
  have hp : 0 < ns.length := List.length_pos_iff.2 h
  obtain ⟨j, hj, hj2⟩ := ixN_mod i hp
  refine ⟨ns[j], ?_⟩
  simp [idxV, atD, hj, hj2]
theorem ne_nil {ns : List Int} : copV .ne (.lst (ns.map .int)) (.lst []) = some (!ns.isEmpty) := by
  have := shp_ints ns
  rw [show copV .ne (.lst (ns.map .int)) (.lst []) = if shp (.lst (ns.map .int)) && shp (.lst []) then some (!eqD (.lst (ns.map .int)) (.lst [])) else none from rfl, this]
  cases ns <;> simp [eqD, eqDs, shp, pd, pds, dep, deps]
theorem small_mod {i j : Int} (h : 0 < j) (h' : j < 1000000000000) : smallI (i % j) = true := by
  have h1 := Int.emod_nonneg i (show j ≠ 0 by omega)
  have h2 := Int.emod_lt_of_pos i h
  simp only [smallI, decide_eq_true_eq]; omega
theorem rng_mod {i j : Int} (h : 0 < j) (h' : j < 1000000000000) : rngOk (i % j) = true := by
  have h1 := Int.emod_nonneg i (show j ≠ 0 by omega)
  have h2 := Int.emod_lt_of_pos i h
  simp only [rngOk, decide_eq_true_eq]; omega
theorem pow18 : bopV .pow (.int 10) (.int 18) = some (.int 1000000000000000000) := by simp [bopV]
end Ev
namespace K01
open Ev
theorem run_number (ns : List Int) (hn : ns.length ≤ 63) (i : Int) (n : Nat) : ∃ v, run pr (n + 1) 24 [.v (.lst (ns.map .int)), .v (.int i)] [] = .ok (.v (.int v)) [] := by
  show ∃ v, body pr (run pr n) ⟨2, 7, b__law_number⟩ _ _ = _
  unfold b__law_number
  have s1 : smallI 48271 = true := by decide
  have s2 : smallI 31 = true := by decide
  have s3 : smallI 40503 = true := by decide
  have s4 : smallI 69621 = true := by decide
  have s5 : smallI 977 = true := by decide
  have s6 : ∀ x : Int, smallI (x % 2147483647) = true := fun x => small_mod (by decide) (by decide)
  have s7 : ∀ x : Int, rngOk (x % 60) = true := fun x => rng_mod (by decide) (by decide)
  have s8 : rngOk 0 = true := by decide
  by_cases he : ns = []
  · subst he
    have e1 := ne_nil (ns := [])
    simp only [List.map_nil] at e1
    simp [exSs, exS, exH, evE, evEs, evO, evI, evC, evG, startE, K.d, see, R.st, truE, truR, truV, leave, lowC, vals, sees, asgE, asgT, asgTs, body, line, e1, b_add, b_sub, b_mod, b_fdiv, b_mul, b_mul', c_lt, c_gt, i_int, l_lst, pow18, s1, s2, s3, s4, s5, s6, s7, s8, lock, unlock]
    generalize hF : forL _ _ _ _ _ = F
    obtain ⟨env', rfl, r, s, rfl⟩ := forL_keep hF (fun env => ∃ (r : Int) (s : Option E), env = [some (.v (.lst [])), some (.v (.int i)), some (.v (.int r)), s, none, some (.v (.int 12345)), some (.v (.int 0))]) ⟨_, _, rfl⟩ (by
      rintro x env ⟨r, s, rfl⟩
      refine ⟨_, rfl, _, ?_, r / 1009, some (.v x), rfl⟩
      simp [exSs, exS, exH, evE, evEs, evO, evI, evC, evG, startE, K.d, see, R.st, truE, truR, truV, leave, lowC, vals, sees, asgE, asgT, asgTs, body, line, b_add, b_sub, b_mod, b_fdiv, b_mul, b_mul', c_lt, c_gt, i_int, l_lst, pow18, s1, s2, s3, s4, s5, s6, s7, s8, lock, unlock])
    by_cases hr : 0 < r <;> simp [exSs, exS, exH, evE, evEs, evO, evI, evC, evG, startE, K.d, see, R.st, truE, truR, truV, leave, lowC, vals, sees, asgE, asgT, asgTs, body, line, RS.map, hr, b_add, b_sub, b_mod, b_fdiv, b_mul, b_mul', c_lt, c_gt, i_int, l_lst, pow18, s1, s2, s3, s4, s5, s6, s7, s8, lock, unlock]
  · obtain ⟨c, hc⟩ := at_mod i he
    have hp : 0 < (ns.length : Int) := by have := List.length_pos_iff.2 he; omega
    have hq : (ns.length : Int) < 1073741824 := by omega
    have e2 : copV .ne (.lst (ns.map .int)) (.lst []) = some true := by rw [ne_nil]; simp [he]
    have m1 := b_mod (i := i) hp
    have m2 := b_fdiv (i := i) hp hq
    by_cases ht : i / (ns.length : Int) < 60
    · simp [exSs, exS, exH, evE, evEs, evO, evI, evC, evG, startE, K.d, see, R.st, truE, truR, truV, leave, lowC, vals, sees, asgE, asgT, asgTs, body, line, e2, hc, m1, m2, ht, b_add, b_sub, b_mod, b_fdiv, b_mul, b_mul', c_lt, c_gt, i_int, l_lst, pow18, s1, s2, s3, s4, s5, s6, s7, s8, lock, unlock]
      generalize hF : forL _ _ _ _ _ = F
      obtain ⟨env', rfl, r, s, rfl⟩ := forL_keep hF (fun env => ∃ (r : Int) (s : Option E), env = [some (.v (.lst (ns.map .int))), some (.v (.int i)), some (.v (.int r)), s, none, some (.v (.int c)), some (.v (.int (i / (ns.length : Int))))]) ⟨_, _, rfl⟩ (by
        rintro x env ⟨r, s, rfl⟩
        refine ⟨_, rfl, _, ?_, r / 1009, some (.v x), rfl⟩
        simp [exSs, exS, exH, evE, evEs, evO, evI, evC, evG, startE, K.d, see, R.st, truE, truR, truV, leave, lowC, vals, sees, asgE, asgT, asgTs, body, line, b_add, b_sub, b_mod, b_fdiv, b_mul, b_mul', c_lt, c_gt, i_int, l_lst, pow18, s1, s2, s3, s4, s5, s6, s7, s8, lock, unlock])
      by_cases hr : 0 < r <;> simp [exSs, exS, exH, evE, evEs, evO, evI, evC, evG, startE, K.d, see, R.st, truE, truR, truV, leave, lowC, vals, sees, asgE, asgT, asgTs, body, line, RS.map, hr, b_add, b_sub, b_mod, b_fdiv, b_mul, b_mul', c_lt, c_gt, i_int, l_lst, pow18, s1, s2, s3, s4, s5, s6, s7, s8, lock, unlock]
    · simp [exSs, exS, exH, evE, evEs, evO, evI, evC, evG, startE, K.d, see, R.st, truE, truR, truV, leave, lowC, vals, sees, asgE, asgT, asgTs, body, line, e2, hc, m1, m2, ht, b_add, b_sub, b_mod, b_fdiv, b_mul, b_mul', c_lt, c_gt, i_int, l_lst, pow18, s1, s2, s3, s4, s5, s6, s7, s8, lock, unlock]
      generalize hF : forL _ _ _ _ _ = F
      obtain ⟨env', rfl, r, s, rfl⟩ := forL_keep hF (fun env => ∃ (r : Int) (s : Option E), env = [some (.v (.lst (ns.map .int))), some (.v (.int i)), some (.v (.int r)), s, none, some (.v (.int c)), some (.v (.int (i / (ns.length : Int))))]) ⟨_, _, rfl⟩ (by
        rintro x env ⟨r, s, rfl⟩
        refine ⟨_, rfl, _, ?_, r / 1009, some (.v x), rfl⟩
        simp [exSs, exS, exH, evE, evEs, evO, evI, evC, evG, startE, K.d, see, R.st, truE, truR, truV, leave, lowC, vals, sees, asgE, asgT, asgTs, body, line, b_add, b_sub, b_mod, b_fdiv, b_mul, b_mul', c_lt, c_gt, i_int, l_lst, pow18, s1, s2, s3, s4, s5, s6, s7, s8, lock, unlock])
      by_cases hr : 0 < r <;> simp [exSs, exS, exH, evE, evEs, evO, evI, evC, evG, startE, K.d, see, R.st, truE, truR, truV, leave, lowC, vals, sees, asgE, asgT, asgTs, body, line, RS.map, hr, b_add, b_sub, b_mod, b_fdiv, b_mul, b_mul', c_lt, c_gt, i_int, l_lst, pow18, s1, s2, s3, s4, s5, s6, s7, s8, lock, unlock]
end K01

end

section
set_option maxRecDepth 512
set_option maxRecDepth 100000
set_option maxHeartbeats 4000000
set_option linter.all false
namespace K01
open Ev
/-- the draw's cell -/
def dr (ns : List Int) (k : Int) : Cells := [some (.lst [.lst (ns.map .int), .int k])]
theorem run_take (ns : List Int) (hn : ns.length ≤ 63) (k many : Int) (hm : 0 < many) (n : Nat) (h : 2 ≤ n) :
    ∃ v, 0 ≤ v ∧ v < many ∧ run pr n 25 [.r 0, .v (.int many)] (dr ns k) = .ok (.v (.int v)) (dr ns (k + 1)) := by
  obtain ⟨n, rfl⟩ : ∃ m, n = m + 2 := ⟨n - 2, by omega⟩
  obtain ⟨v, hv⟩ := run_number ns hn (k + 1) n
  have p1 : ∀ C, pureCall (run pr (n + 1)) 24 [.lst (ns.map .int), .int (k + 1)] C = .ok (.v (.int v)) C := fun C => pure_ok (ds := [.lst (ns.map .int), .int (k + 1)]) hv
  have m1 := b_mod (i := v) hm
  refine ⟨v % many, Int.emod_nonneg _ (by omega), Int.emod_lt_of_pos _ hm, ?_⟩
  show body pr (run pr (n + 1)) ⟨2, 2, b__law_take⟩ _ _ = _
  unfold b__law_take
  simp [exSs, exS, exH, evE, evEs, evO, evI, evC, evG, startE, K.d, see, R.st, truE, truR, truV, leave, lowC, vals, sees, asgE, asgT, asgTs, body, line, dr, cellAt, cellD, atD, ixN, augV, p1, m1, i_int, idxV]
theorem run_pick (ns : List Int) (hn : ns.length ≤ 63) (k : Int) (ds : List D) (hd : 0 < ds.length) (n : Nat) (h : 3 ≤ n) :
    ∃ d ∈ ds, run pr n 26 [.r 0, .v (.lst ds)] (dr ns k) = .ok (.v d) (dr ns (k + 1)) := by
  obtain ⟨n, rfl⟩ : ∃ m, n = m + 1 := ⟨n - 1, by omega⟩
  obtain ⟨v, h1, h2, p1⟩ := run_take ns hn k ds.length (by omega) n (by omega)
  have h3 : v.toNat < ds.length := by omega
  refine ⟨ds[v.toNat], List.getElem_mem _, ?_⟩
  have e1 : idxV (.lst ds) (.int v) = some ds[v.toNat] := by simp [idxV, atD, ixN, h1, h2, h3]
  show body pr (run pr n) ⟨2, 2, b__law_pick⟩ _ _ = _
  unfold b__law_pick
  simp [exSs, exS, exH, evE, evEs, evO, evI, evC, evG, startE, K.d, see, R.st, truE, truR, truV, leave, lowC, vals, sees, asgE, asgT, asgTs, body, line, p1, l_lst, e1]
  simp [dr, lowC]
theorem run_kind (ns : List Int) (hn : ns.length ≤ 63) : ∀ (deep : Nat) (k : Int) (n : Nat), deep + 3 ≤ n →
    ∃ kd k', dp kd ≤ deep ∧ run pr n 27 [.r 0, .v (.int deep)] (dr ns k) = .ok (.v (enc false kd)) (dr ns k') := by
  intro deep
  induction deep with
  | zero =>
    intro k n h
    obtain ⟨n, rfl⟩ : ∃ m, n = m + 1 := ⟨n - 1, by omega⟩
    obtain ⟨v, h1, h2, p1⟩ := run_take ns hn k 3 (by omega) n (by omega)
    obtain rfl | rfl | rfl : v = 0 ∨ v = 1 ∨ v = 2 := by omega
    · refine ⟨.any, k + 1, by decide, ?_⟩
      show body pr (run pr n) ⟨2, 3, b__law_kind⟩ _ _ = _
      unfold b__law_kind
      simp [exSs, exS, exH, evE, evEs, evO, evI, evC, evG, startE, K.d, see, R.st, truE, truR, truV, leave, lowC, vals, sees, asgE, asgT, asgTs, body, line, p1, c_gt, c_lt, idxV, atD, ixN]
      simp [dr, lowC, enc]
    · refine ⟨.num, k + 1, by decide, ?_⟩
      show body pr (run pr n) ⟨2, 3, b__law_kind⟩ _ _ = _
      unfold b__law_kind
      simp [exSs, exS, exH, evE, evEs, evO, evI, evC, evG, startE, K.d, see, R.st, truE, truR, truV, leave, lowC, vals, sees, asgE, asgT, asgTs, body, line, p1, c_gt, c_lt, idxV, atD, ixN]
      simp [dr, lowC, enc]
    · refine ⟨.bit, k + 1, by decide, ?_⟩
      show body pr (run pr n) ⟨2, 3, b__law_kind⟩ _ _ = _
      unfold b__law_kind
      simp [exSs, exS, exH, evE, evEs, evO, evI, evC, evG, startE, K.d, see, R.st, truE, truR, truV, leave, lowC, vals, sees, asgE, asgT, asgTs, body, line, p1, c_gt, c_lt, idxV, atD, ixN]
      simp [dr, lowC, enc]
  | succ deep ih =>
    intro k n h
    obtain ⟨n, rfl⟩ : ∃ m, n = m + 1 := ⟨n - 1, by omega⟩
    obtain ⟨v, h1, h2, p1⟩ := run_take ns hn k 6 (by omega) n (by omega)
    have hd : (0 : Int) < (deep : Int) + 1 := by omega
    have hd2 : (deep : Int) + 1 - 1 = deep := by omega
    by_cases hv : v < 3
    · obtain rfl | rfl | rfl : v = 0 ∨ v = 1 ∨ v = 2 := by omega
      · refine ⟨.any, k + 1, by simp [dp], ?_⟩
        show body pr (run pr n) ⟨2, 3, b__law_kind⟩ _ _ = _
        unfold b__law_kind
        simp [exSs, exS, exH, evE, evEs, evO, evI, evC, evG, startE, K.d, see, R.st, truE, truR, truV, leave, lowC, vals, sees, asgE, asgT, asgTs, body, line, p1, c_gt, c_lt, idxV, atD, ixN, hd]
        simp [dr, lowC, enc]
      · refine ⟨.num, k + 1, by simp [dp], ?_⟩
        show body pr (run pr n) ⟨2, 3, b__law_kind⟩ _ _ = _
        unfold b__law_kind
        simp [exSs, exS, exH, evE, evEs, evO, evI, evC, evG, startE, K.d, see, R.st, truE, truR, truV, leave, lowC, vals, sees, asgE, asgT, asgTs, body, line, p1, c_gt, c_lt, idxV, atD, ixN, hd]
        simp [dr, lowC, enc]
      · refine ⟨.bit, k + 1, by simp [dp], ?_⟩
        show body pr (run pr n) ⟨2, 3, b__law_kind⟩ _ _ = _
        unfold b__law_kind
        simp [exSs, exS, exH, evE, evEs, evO, evI, evC, evG, startE, K.d, see, R.st, truE, truR, truV, leave, lowC, vals, sees, asgE, asgT, asgTs, body, line, p1, c_gt, c_lt, idxV, atD, ixN, hd]
        simp [dr, lowC, enc]
    · obtain ⟨a, k1, a1, pa⟩ := ih (k + 1) n (by omega)
      obtain ⟨b, k2, b1, pb⟩ := ih k1 n (by omega)
      refine ⟨.two (decide (v = 5)) a b, k2, by simp [dp]; omega, ?_⟩
      show body pr (run pr n) ⟨2, 3, b__law_kind⟩ _ _ = _
      unfold b__law_kind
      by_cases h5 : v = 5
      · subst h5
        simp [exSs, exS, exH, evE, evEs, evO, evI, evC, evG, startE, K.d, see, R.st, truE, truR, truV, leave, lowC, vals, sees, asgE, asgT, asgTs, body, line, p1, c_gt, c_lt, c_eq, hd, b_sub, hd2, pa, pb]
        simp [dr, lowC, enc, wd]
      · simp [exSs, exS, exH, evE, evEs, evO, evI, evC, evG, startE, K.d, see, R.st, truE, truR, truV, leave, lowC, vals, sees, asgE, asgT, asgTs, body, line, p1, c_gt, c_lt, c_eq, hd, hv, h5, b_sub, hd2, pa, pb]
        simp [dr, lowC, enc, wd]
end K01

end

section
set_option maxRecDepth 512
set_option maxRecDepth 100000
set_option maxHeartbeats 4000000
set_option linter.all false
namespace K01
open Ev
def fn' (a b : D) : D := .tup [.str [102, 117, 110], a, b]
def numD : D := .str [110, 117, 109]
def deepD : D := fn' (fn' (fn' (fn' (fn' numD numD) numD) numD) numD) numD
def known : List D := [.tup [.non, .non], .tup [.str [122, 122], .str [122, 122]], .tup [.tup [.str [102, 117, 110], numD], .tup [.str [102, 117, 110], numD]],
  .tup [.tup [.str [112, 97, 105, 114], numD, .int 5], .int 5], .tup [.lst [.str [102, 117, 110], .str [122, 122], .non], .str [122, 122]],
  .tup [.tup [.str [97, 110, 121], numD, numD], .tup [.str [97, 110, 121], numD, numD]], .tup [deepD, fn' numD numD], .tup [.tup [], .tup []]]
structure Bad (w p : D) : Prop where
  isk : ∀ C, pureCall (run pr 38) 5 [w] C = .ok (.v (.bl false)) C
  l0 : ∀ C, pureCall (run pr 38) 6 [w] C = .exc 1 [([112, 97, 114, 116], p)] C
  l1 : ∀ C, pureCall (run pr 38) 13 [.str [97, 110, 121], w] C = .exc 1 [([112, 97, 114, 116], p)] C
  l2 : ∀ C, pureCall (run pr 38) 15 [w, .str [110, 117, 109]] C = .exc 1 [([112, 97, 114, 116], p)] C
  l3 : ∀ C, pureCall (run pr 38) 21 [w] C = .exc 1 [([112, 97, 114, 116], p)] C
  l4 : ∀ C, pureCall (run pr 38) 11 [w] C = .exc 1 [([112, 97, 114, 116], p)] C
  ne : copV .ne p p = some false
theorem bad_all : ∀ x ∈ known, ∃ w p, x = .tup [w, p] ∧ Bad w p := by
  intro x hx
  simp only [known, List.mem_cons, List.not_mem_nil, or_false] at hx
  obtain rfl | rfl | rfl | rfl | rfl | rfl | rfl | rfl := hx <;> exact ⟨_, _, rfl, fun _ => rfl, fun _ => rfl, fun _ => rfl, fun _ => rfl, fun _ => rfl, fun _ => rfl, rfl⟩
end K01

end

section
set_option maxRecDepth 512
set_option maxRecDepth 100000
set_option maxHeartbeats 4000000
set_option linter.all false
namespace K01
open Ev
def rowsK : List Kd := [.any, .num, .bit]
def wideK : List Kd := rowsK ++ (rowsK.flatMap fun a => rowsK.map fun b => .two false a b) ++ (rowsK.flatMap fun a => rowsK.map fun b => .two true a b)
def wide : List D := wideK.map (enc false)
theorem memD_enc (k : Kd) : ∀ l : List Kd, memD (enc false k) (l.map (enc false)) = decide (k ∈ l)
  | [] => by simp [memD]
  | a :: l => by
    simp only [List.map_cons, memD, memD_enc k l, eqD_enc]
    by_cases h : a = k <;> simp [h, List.mem_cons, eq_comm]
    · intro z; exact absurd z.symm h
theorem shps_enc : ∀ l : List Kd, (∀ k ∈ l, dp k ≤ 20) → shps (l.map (enc false)) = true
  | [], _ => rfl
  | a :: l, h => by
    have h1 := shp_enc (l := false) (h a (List.mem_cons_self ..))
    simp [shps, h1, shps_enc l fun k hk => h k (List.mem_cons_of_mem _ hk)]
theorem in_lst {k : Kd} {l : List Kd} (h : dp k ≤ 20) (hl : ∀ k ∈ l, dp k ≤ 20) : copV .isin (enc false k) (.lst (l.map (enc false))) = some (decide (k ∈ l)) := by
  have h1 := shp_enc (l := false) h
  have h2 := shps_enc l hl
  simp only [copV, h1, h2, memD_enc]; rfl
theorem notin_lst {k : Kd} {l : List Kd} (h : dp k ≤ 20) (hl : ∀ k ∈ l, dp k ≤ 20) : copV .notin (enc false k) (.lst (l.map (enc false))) = some (!decide (k ∈ l)) := by
  have h1 := shp_enc (l := false) h
  have h2 := shps_enc l hl
  simp only [copV, h1, h2, memD_enc]; rfl
def lateK (l : List Kd) : List Kd := [false, true].flatMap fun p => l.flatMap fun a => l.map fun b => .two p a b
def growK (l : List Kd) : List Kd := l ++ (lateK l).filter fun k => !decide (k ∈ l)
theorem map_flat {α β : Type} (f : α → β) (l : List α) : l.map f = l.flatMap fun x => [f x] := by induction l <;> simp_all
theorem flat_le {α β : Type} {f : α → List β} {m : Nat} : ∀ (l : List α), (∀ x ∈ l, (f x).length ≤ m) → (l.flatMap f).length ≤ l.length * m
  | [], _ => by simp
  | a :: l, h => by
    have h1 := h a (List.mem_cons_self ..)
    have h2 := flat_le l fun x hx => h x (List.mem_cons_of_mem _ hx)
    simp only [List.flatMap_cons, List.length_append, List.length_cons, Nat.add_mul, Nat.one_mul]; omega
theorem late_dp {l : List Kd} {n : Nat} (h : ∀ k ∈ l, dp k ≤ n) : ∀ k ∈ lateK l, dp k ≤ n + 1 := by
  intro k hk
  simp only [lateK, List.mem_flatMap, List.mem_map] at hk
  obtain ⟨p, -, a, ha, b, hb, rfl⟩ := hk
  have := h a ha
  have := h b hb
  simp only [dp]; omega
theorem late_enc (l : List Kd) : (lateK l).map (enc false) = [false, true].flatMap fun p => l.flatMap fun a => l.flatMap fun b => [enc false (.two p a b)] := by
  simp [lateK, List.map_flatMap, map_flat, List.flatMap_assoc]
theorem late_len (l : List Kd) (hn : l.length ≤ 30) : ∀ p : Bool, (l.flatMap fun a => l.flatMap fun b => [enc false (Kd.two p a b)]).length ≤ 900 := by
  intro p
  have h1 : ∀ a, (l.flatMap fun b => [enc false (Kd.two p a b)]).length ≤ 30 := by
    intro a
    rw [← map_flat]
    simpa using hn
  have h2 := flat_le (f := fun a => l.flatMap fun b => [enc false (Kd.two p a b)]) l fun a _ => h1 a
  have h3 : l.length * 30 ≤ 30 * 30 := Nat.mul_le_mul_right _ hn
  omega
def ecell (l : List Kd) : Cell := .lst (l.map (enc false))
theorem all_turn (l : List Kd) (hl : ∀ k ∈ l, dp k ≤ 9) (hn : l.length ≤ 30) {call : Nat → List E → Cells → R E} {lamc : Nat → Env → Cells → R E} {s0 s2 s3 s4 s5 s6 s7 : Option E} :
    exSs pr call lamc (.cons (.asg (.nm 3) (.comp [4, 5, 6] (.nm 4) (.seq (.glob 2)) .none (.gen (.nm 5) (.seq (.slot 1)) .none (.gen (.nm 6) (.seq (.slot 1)) .none (.elt (.tup (.cons (.slot 4) (.cons (.slot 5) (.cons (.slot 6) .nil))))))))) (.cons (.aug 1 .add (.comp [7] (.nm 7) (.seq (.slot 3)) (.some (.cmp .notin (.slot 7) (.slot 1))) (.elt (.slot 7)))) .nil))
      [s0, some (.r 0), s2, s3, s4, s5, s6, s7] [some (ecell l)] = .next [s0, some (.r 0), s2, some (.v (.lst ((lateK l).map (enc false)))), s4, s5, s6, s7] [some (ecell (growK l))] := by
  have hg : pr.globs[2]? = some (.tup ([false, true].map fun p => .str (wd p))) := rfl
  have lb := late_len l hn
  have ln : line = 16777216 := rfl
  have hlen : (lateK l).length ≤ 1800 := by
    have h1 := flat_le (f := fun p => l.flatMap fun a => l.flatMap fun b => [enc false (Kd.two p a b)]) [false, true] fun p _ => lb p
    have h2 : (lateK l).length = ((lateK l).map (enc false)).length := by simp
    rw [h2, late_enc]
    simpa using h1
  have g1 : ∀ C, C = [some (Cell.lkd (l.map (enc false)))] ∨ C = [some (ecell l)] → (cellAt C 0).bind cellD = some (.lst (l.map (enc false))) := by rintro C (rfl | rfl) <;> rfl
  have g2 : ∀ C, C = [some (Cell.lkd (l.map (enc false)))] ∨ C = [some (ecell l)] → lock C (.r 0) = [some (Cell.lkd (l.map (enc false)))] := by rintro C (rfl | rfl) <;> rfl
  have g3 : ∀ C, C = [some (Cell.lkd (l.map (enc false)))] ∨ C = [some (ecell l)] → unlock C [some (Cell.lkd (l.map (enc false)))] (.r 0) = C := by rintro C (rfl | rfl) <;> rfl
  have inner : ∀ p a C acc, C = [some (Cell.lkd (l.map (enc false)))] ∨ C = [some (ecell l)] → acc.length + (l.flatMap fun b => [enc false (Kd.two p a b)]).length ≤ line →
      evG pr call lamc (.gen (.nm 6) (.seq (.slot 1)) .none (.elt (.tup (.cons (.slot 4) (.cons (.slot 5) (.cons (.slot 6) .nil))))))
        [s0, some (.r 0), s2, s3, some (.v (.str (wd p))), some (.v (enc false a)), none, s7] C acc = .ok (acc ++ l.flatMap fun b => [enc false (Kd.two p a b)]) C := by
    intro p a C acc hC ha
    simp [push1_v, line, g1 C hC, g2 C hC, seqD, tsl, gsl, wipeE]
    rw [genR_flat (enc false) (fun b => [enc false (Kd.two p a b)]) _ _ _ ha]
    · simp [push1_v, line, g3 C hC]
    · intro b hb acc ha
      refine ⟨_, rfl, ?_⟩
      simp at ha
      have ha' : acc.length < 16777216 := by omega
      simp [push1_v, line, ha', enc]
  have mid : ∀ p C acc, C = [some (Cell.lkd (l.map (enc false)))] ∨ C = [some (ecell l)] → acc.length + (l.flatMap fun a => l.flatMap fun b => [enc false (Kd.two p a b)]).length ≤ line →
      evG pr call lamc (.gen (.nm 5) (.seq (.slot 1)) .none (.gen (.nm 6) (.seq (.slot 1)) .none (.elt (.tup (.cons (.slot 4) (.cons (.slot 5) (.cons (.slot 6) .nil)))))))
        [s0, some (.r 0), s2, s3, some (.v (.str (wd p))), none, none, s7] C acc = .ok (acc ++ l.flatMap fun a => l.flatMap fun b => [enc false (Kd.two p a b)]) C := by
    intro p C acc hC ha
    simp [push1_v, line, g1 C hC, g2 C hC, seqD, tsl, gsl, wipeE]
    rw [genR_flat (enc false) (fun a => l.flatMap fun b => [enc false (Kd.two p a b)]) _ _ _ ha]
    · simp [push1_v, line, g3 C hC]
    · intro a _ acc ha
      refine ⟨_, rfl, ?_⟩
      rw [x_cnone, stepG_t]
      exact inner p a _ acc (.inl rfl) ha
  have step : exS pr call lamc (.asg (.nm 3) (.comp [4, 5, 6] (.nm 4) (.seq (.glob 2)) .none (.gen (.nm 5) (.seq (.slot 1)) .none (.gen (.nm 6) (.seq (.slot 1)) .none (.elt (.tup (.cons (.slot 4) (.cons (.slot 5) (.cons (.slot 6) .nil)))))))))
      [s0, some (.r 0), s2, s3, s4, s5, s6, s7] [some (ecell l)] = .next [s0, some (.r 0), s2, some (.v (.lst ((lateK l).map (enc false)))), s4, s5, s6, s7] [some (ecell l)] := by
    simp [push1_v, line, hg, seqD, wipeE]
    have := genR_flat (P := pr) (call := call) (lamc := lamc) (t := .nm 4) (ifs := .none) (r := (.gen (.nm 5) (.seq (.slot 1)) .none (.gen (.nm 6) (.seq (.slot 1)) .none (.elt (.tup (.cons (.slot 4) (.cons (.slot 5) (.cons (.slot 6) .nil))))))))
      (env := [s0, some (.r 0), s2, s3, none, none, none, s7]) (C := [some (ecell l)]) (fun p => D.str (wd p)) (fun p => l.flatMap fun a => l.flatMap fun b => [enc false (Kd.two p a b)]) [false, true] [] ?_ ?_
    · simp only [List.map] at this
      simp [push1_v, line, this, late_enc]
    · intro p _ acc ha
      refine ⟨_, rfl, ?_⟩
      rw [x_cnone, stepG_t]
      exact mid p _ acc (.inr rfl) ha
    · have h1 := flat_le (f := fun p => l.flatMap fun a => l.flatMap fun b => [enc false (Kd.two p a b)]) [false, true] fun p _ => lb p
      simp only [List.length_nil, List.length_cons] at h1 ⊢; omega
  have hl2 := late_dp hl
  rw [x_scons, step, seqR_next, x_scons]
  have hle : l.length + ((lateK l).filter fun k => !decide (k ∈ l)).length ≤ 16777216 := by
    have := List.length_filter_le (fun k => !decide (k ∈ l)) (lateK l)
    omega
  simp [push1_v, line, seqD, wipeE]
  rw [genR_filter (enc false) (fun k => !decide (k ∈ l)) (enc false)]
  · have cc : cellAt [some (ecell l)] 0 = some (.lst (l.map (enc false))) := nrfl rfl
    simp [push1_v, line, cc, hle]
    simp [ecell, growK]
  · intro k hk acc ha
    refine ⟨_, rfl, ?_⟩
    have d := hl2 k hk
    have m := notin_lst (k := k) (l := l) (by omega) fun k hk => Nat.le_trans (hl k hk) (by decide)
    have ha' : acc.length < 16777216 := ha
    simp [push1_v, line, cellAt, cellD, ecell, m]
    by_cases h : k ∈ l <;> simp [push1_v, line, h, ha']
  · omega
def all2K : List Kd := growK (growK rowsK)
theorem all_wide : growK rowsK = wideK := by decide +kernel
def beqK : Kd → Kd → Bool
  | .any, .any => true
  | .num, .num => true
  | .bit, .bit => true
  | .two p a b, .two q c d => (p == q) && beqK a c && beqK b d
  | _, _ => false
theorem beqK_eq : ∀ a b : Kd, beqK a b = decide (a = b) := by
  intro a
  induction a with
  | two p a1 a2 iha ihb =>
    intro b
    cases b <;> simp [beqK]
    rw [iha, ihb]
    cases p <;> simp
    all_goals (rename_i q _ _; cases q <;> simp)
  | _ => intro b; cases b <;> simp [beqK]
def growB (l : List Kd) : List Kd := l ++ (lateK l).filter fun k => !(l.any fun x => beqK k x)
theorem grow_eq (l : List Kd) : growK l = growB l := by
  have : (fun k : Kd => !decide (k ∈ l)) = fun k => !(l.any fun x => beqK k x) := by
    funext k
    congr 1
    simp only [beqK_eq, List.any_eq, decide_eq_true_eq]
    congr 1
    simp
  rw [growK, growB, this]
theorem all2_len : (growK wideK).length = 885 := by rw [grow_eq]; decide +kernel
theorem c_ec (l : List Kd) : cellAt [some (ecell l)] 0 = some (.lst (l.map (enc false))) := rfl
theorem c_0 : some (Cell.lst (rowsK.map (enc false))) = some (ecell rowsK) := rfl
theorem g_bases : pr.globs[1]? = some (.tup (rowsK.map (enc false))) := rfl
theorem pb0 (n : Nat) (C : Cells) : pureCall (run pr (n + 2)) 2 [.int 0, .int 3] C = .ok (.v (.bl true)) C := rfl
theorem pb1 (n : Nat) (C : Cells) : pureCall (run pr (n + 2)) 2 [.int 1, .int 3] C = .ok (.v (.bl true)) C := rfl
theorem pb2 (n : Nat) (C : Cells) : pureCall (run pr (n + 2)) 2 [.int 2, .int 3] C = .ok (.v (.bl true)) C := rfl
theorem run_all0 (n : Nat) (hn : 3 ≤ n) : run pr n 12 [.v (.int 0)] [] = .ok (.v (.lst (rowsK.map (enc false)))) [] := by
  obtain ⟨n, rfl⟩ : ∃ m, n = m + 3 := ⟨n - 3, by omega⟩
  rw [rn_all_kinds, x_body rfl]
  unfold b_all_kinds
  simp [push1_v, line, pb0, g_bases, rngOk, rangeD, c_0, forG_nil, frz_r (c_ec _)]
theorem run_all1 (n : Nat) (hn : 3 ≤ n) : run pr n 12 [.v (.int 1)] [] = .ok (.v (.lst (wideK.map (enc false)))) [] := by
  obtain ⟨n, rfl⟩ : ∃ m, n = m + 3 := ⟨n - 3, by omega⟩
  rw [rn_all_kinds, x_body rfl]
  have t1 := fun s2 s3 s4 s5 s6 s7 => @all_turn rowsK (by decide) (by decide) (run pr (n + 2)) (lamP pr (run pr (n + 2))) (some (.v (.int 1))) s2 s3 s4 s5 s6 s7
  rw [all_wide] at t1
  unfold b_all_kinds
  generalize hS : Sms.cons (.asg (.nm 3) _) _ = S at t1 ⊢
  generalize wideK = L1 at t1 ⊢
  have g_bases := g_bases
  have c_0 := c_0
  generalize rowsK = L0 at t1 g_bases c_0
  simp [push1_v, line, pb1, g_bases, rngOk, rangeD, c_0, forG_cons, forG_nil, t1, frz_r (c_ec _)]
theorem run_all2 (n : Nat) (hn : 3 ≤ n) : run pr n 12 [.v (.int 2)] [] = .ok (.v (.lst ((growK wideK).map (enc false)))) [] := by
  obtain ⟨n, rfl⟩ : ∃ m, n = m + 3 := ⟨n - 3, by omega⟩
  rw [rn_all_kinds, x_body rfl]
  have t1 := fun s2 s3 s4 s5 s6 s7 => @all_turn rowsK (by decide) (by decide) (run pr (n + 2)) (lamP pr (run pr (n + 2))) (some (.v (.int 2))) s2 s3 s4 s5 s6 s7
  have t2 := fun s2 s3 s4 s5 s6 s7 => @all_turn wideK (by decide) (by decide) (run pr (n + 2)) (lamP pr (run pr (n + 2))) (some (.v (.int 2))) s2 s3 s4 s5 s6 s7
  rw [all_wide] at t1
  unfold b_all_kinds
  generalize hS : Sms.cons (.asg (.nm 3) _) _ = S at t1 t2 ⊢
  generalize growK wideK = L2 at t2 ⊢
  generalize wideK = L1 at t1 t2
  have g_bases := g_bases
  have c_0 := c_0
  generalize rowsK = L0 at t1 g_bases c_0
  simp [push1_v, line, pb2, g_bases, rngOk, rangeD, c_0, forG_cons, forG_nil, t1, t2, frz_r (c_ec _)]
end K01

end

section
set_option maxRecDepth 512
set_option maxRecDepth 100000
set_option maxHeartbeats 4000000
set_option linter.all false
namespace K01
open Ev
theorem run_all3 (C : Cells) : pureCall (run pr 38) 12 [.int 3] C = .exc 1 [([112, 97, 114, 116], .int 3)] C := nrfl rfl
theorem endB_dr {ns : List Int} {k k' : Int} {d : D} : endB (dr ns k) (.ret (.v d) (dr ns k')) = .ok (.v d) (dr ns k') := by simp [endB, leave, lowC, dr]
theorem run_refused (ns : List Int) (hn : ns.length ≤ 63) (k : Int) : ∃ k', run pr 39 37 [.r 0] (dr ns k) = .ok (.v (.bl true)) (dr ns k') := by
  rw [rn__law_is_refused, x_body rfl]
  unfold b__law_is_refused
  have r5 : rngOk 5 = true := by decide
  have r4 : rngOk 4 = true := by decide
  simp [push1_v, line, g_0, g_1, g_2, lm_0, l_0, lm_1, l_1, lm_2, l_2, lm_3, l_3, lm_4, l_4, cl_0, cl_1, cl_2, und_0_0, und_0_1, und_0_2, und_1_0, und_1_1, und_1_2, und_2_0, und_2_1, und_2_2, r5]
  generalize hS : Sms.cons (.for (.nm 2) (.range1 (.cst (.int 4))) _) _ = S
  simp [push1_v, line, g_0, g_1, g_2, lm_0, l_0, lm_1, l_1, lm_2, l_2, lm_3, l_3, lm_4, l_4, cl_0, cl_1, cl_2, und_0_0, und_0_1, und_0_2, und_1_0, und_1_1, und_1_2, und_2_0, und_2_1, und_2_2, rangeD, forG_cons, forG_nil, bopV]
  have hk : [.tup [.non, .non], .tup [.str [122, 122], .str [122, 122]], .tup [.tup [.str [102, 117, 110], .str [110, 117, 109]], .tup [.str [102, 117, 110], .str [110, 117, 109]]],
    .tup [.tup [.str [112, 97, 105, 114], .str [110, 117, 109], .int 5], .int 5], .tup [.lst [.str [102, 117, 110], .str [122, 122], .non], .str [122, 122]],
    .tup [.tup [.str [97, 110, 121], .str [110, 117, 109], .str [110, 117, 109]], .tup [.str [97, 110, 121], .str [110, 117, 109], .str [110, 117, 109]]],
    .tup [.tup [.str [102, 117, 110], .tup [.str [102, 117, 110], .tup [.str [102, 117, 110], .tup [.str [102, 117, 110], .tup [.str [102, 117, 110], .str [110, 117, 109], .str [110, 117, 109]], .str [110, 117, 109]], .str [110, 117, 109]], .str [110, 117, 109]], .str [110, 117, 109]], .tup [.str [102, 117, 110], .str [110, 117, 109], .str [110, 117, 109]]], .tup [.tup [], .tup []]] = known := by
    simp [known, fn', deepD, numD]
  rw [hk]
  generalize (D.tup [.str [102, 117, 110], .tup _, .str _]) = d1
  subst hS
  simp [push1_v, line, r4]
  refine for_pat (fun x => ∃ k', endB (dr ns k) x = .ok (.v (.bl true)) (dr ns k')) (fun o => [some (.r 0), some (.v d1), o 2, some (.v (.lst known)), none, o 5, o 6, o 7]) (fun C => ∃ k', C = dr ns k') ⟨rfl, rfl, _, rfl⟩ ?_ ?_
  · rintro x - o _ hc ⟨k', rfl⟩
    obtain ⟨d, hd, p1⟩ := run_pick ns hn k' known (by decide) 38 (by decide)
    obtain ⟨w, p, rfl, hb⟩ := bad_all d hd
    refine ⟨_, rfl, ?_⟩
    simp [push1_v, line, g_0, g_1, g_2, lm_0, l_0, lm_1, l_1, lm_2, l_2, lm_3, l_3, lm_4, l_4, cl_0, cl_1, cl_2, und_0_0, und_0_1, und_0_2, und_1_0, und_1_1, und_1_2, und_2_0, und_2_1, und_2_2, p1, hb.isk, hb.l0, hb.l1, hb.l2, hb.l3, hb.l4, hb.ne, lookFD]
    exact .next ⟨rfl, rfl, _, rfl⟩
  · rintro o _ hc ⟨k', rfl⟩
    simp [push1_v, line] at hc
    refine ⟨k', ?_⟩
    simp [push1_v, line, g_0, g_1, g_2, lm_0, l_0, lm_1, l_1, lm_2, l_2, lm_3, l_3, lm_4, l_4, cl_0, cl_1, cl_2, und_0_0, und_0_1, und_0_2, und_1_0, und_1_1, und_1_2, und_2_0, und_2_1, und_2_2, run_all3, lookFD, c_eq, endB_dr, hc]
end K01

end

section
set_option maxRecDepth 512
set_option maxRecDepth 100000
set_option maxHeartbeats 4000000
set_option linter.all false
namespace K01
open Ev
theorem wide_dp : ∀ k ∈ wideK, dp k ≤ 1 := by decide
theorem dp_wide : ∀ k : Kd, dp k ≤ 1 → k ∈ wideK := by
  have b0 : ∀ k : Kd, dp k ≤ 0 → k ∈ rowsK := by
    intro k h
    cases k <;> simp_all [dp, rowsK]
  have fin : ∀ p : Bool, ∀ a ∈ rowsK, ∀ b ∈ rowsK, Kd.two p a b ∈ wideK := by decide
  intro k h
  cases k with
  | two p a b =>
    have := two_dp h
    simp only [dp] at h
    exact fin p a (b0 a (by omega)) b (b0 b (by omega))
  | _ => decide
def moreK (k : Kd) : List Kd := wideK.filter fun o => blw k o && !blw o k
def upK (k : Kd) : List Kd := (moreK k).filter fun o => !((moreK k).any fun l => !decide (l = o) && blw l o)
theorem more_len (k : Kd) : (moreK k).length ≤ 21 := Nat.le_trans (List.length_filter_le _ _) (by decide)
theorem run_steps (k : Kd) (hk : dp k ≤ 1) (n : Nat) (h : 9 ≤ n) : run pr n 23 [.v (enc false k), .v (.lst wide)] [] = .ok (.v (.lst ((upK k).map (enc false)))) [] := by
  obtain ⟨n, rfl⟩ := succ_of h
  have p0 := pure_ok (C := []) (f := 3) (ds := [enc false k]) (run_check false k n (by omega) (by omega))
  have p1 : ∀ a b : Kd, dp a ≤ 1 → dp b ≤ 1 → pureCall (run pr n) 13 [enc false a, enc false b] [] = .ok (.v (.bl (blw a b))) [] := fun a b ha hb =>
    pure_ok (ds := [enc false a, enc false b]) (run_is_less a b n (by omega) (by omega) (by omega))
  have hm : ∀ o ∈ moreK k, dp o ≤ 1 := fun o ho => wide_dp o (List.mem_filter.1 ho).1
  have hl := more_len k
  have ln : line = 16777216 := rfl
  rw [rn_steps_up, x_body rfl]
  unfold b_steps_up wide
  simp [push1_v, line, p0, seqD, wipeE]
  rw [genR_filter (enc false) (fun o => blw k o && !blw o k) (enc false) wideK]
  rotate_left
  · intro o ho acc ha
    refine ⟨_, rfl, ?_⟩
    have d1 := wide_dp o ho
    have e1 := p1 k o hk d1
    have e2 := p1 o k d1 hk
    simp [push1_v, line, e1]
    cases blw k o <;> simp [push1_v, line, e2, stepG_b, push1_ok ha]
    all_goals (split <;> rfl)
  · decide
  rw [show wideK.filter (fun o => blw k o && !blw o k) = moreK k from rfl]
  simp [push1_v, line, seqD, wipeE]
  rw [genR_filter (enc false) (fun o => !((moreK k).any fun l => !decide (l = o) && blw l o)) (enc false) (moreK k)]
  · simp [push1_v, line, upK]
  · intro o ho acc ha
    refine ⟨_, rfl, ?_⟩
    have am := any_map (fun l => !decide (l = o) && blw l o) (moreK k)
    simp [push1_v, line, seqD, wipeE]
    rw [genR_map (enc false) (fun l => .bl (!decide (l = o) && blw l o)) (moreK k)]
    · simp [push1_v, line, am, stepG_b, push1_ok ha]
      split <;> rfl
    · intro l hl acc hb
      refine ⟨_, rfl, ?_⟩
      have d1 := hm o ho
      have d2 := hm l hl
      have e1 := p1 l o d2 d1
      have e2 := ne_enc (a := l) (b := o) (Nat.le_trans d2 (by decide)) (Nat.le_trans d1 (by decide))
      simp [push1_v, line, e2]
      by_cases e : l = o <;> simp [push1_v, line, e, e1, push1_ok hb]
    · omega
  · omega
end K01

end

section
set_option maxRecDepth 512
set_option maxRecDepth 100000
set_option maxHeartbeats 4000000
set_option linter.all false
namespace K01
open Ev
theorem blw_self : ∀ a : Kd, blw a a = true := fun a => by induction a <;> simp [blw, *]
theorem blw_jn1 : ∀ a b : Kd, nr a b = true → blw a (jn a b) = true := by
  intro a
  induction a with
  | two p a1 a2 iha ihb =>
    intro b h
    cases b with
    | two q b1 b2 =>
      simp only [nr, Bool.and_eq_true] at h
      simp [jn, blw, iha _ h.1.2, ihb _ h.2]
    | any => simp [jn, blw_self]
    | _ => simp [nr] at h
  | _ => intro b h; cases b <;> simp_all [nr, jn, blw]
theorem blw_jn2 : ∀ a b : Kd, nr a b = true → blw b (jn a b) = true := by
  intro a
  induction a with
  | two p a1 a2 iha ihb =>
    intro b h
    cases b with
    | two q b1 b2 =>
      simp only [nr, Bool.and_eq_true, beq_iff_eq] at h
      simp [jn, blw, iha _ h.1.2, ihb _ h.2, h.1.1]
    | any => simp [jn, blw]
    | _ => simp [nr] at h
  | _ => intro b h; cases b <;> simp_all [nr, jn, blw, blw_self]
theorem jn_dp : ∀ a b : Kd, dp (jn a b) ≤ max (dp a) (dp b) := by
  intro a
  induction a with
  | two p a1 a2 iha ihb =>
    intro b
    cases b with
    | two q b1 b2 =>
      have := iha b1
      have := ihb b2
      simp only [jn, dp]; omega
    | _ => simp [jn, dp]
  | _ => intro b; cases b <;> simp [jn, dp]
theorem blw_shd1 : ∀ a b : Kd, blw (shd a b) a = true := by
  intro a
  induction a with
  | two p a1 a2 iha ihb =>
    intro b
    cases b with
    | two q b1 b2 =>
      simp only [shd]
      split <;> simp [blw, iha, ihb]
    | _ => simp [shd, blw]
  | _ => intro b; cases b <;> simp [shd, blw]
theorem blw_shd2 : ∀ a b : Kd, blw (shd a b) b = true := by
  intro a
  induction a with
  | two p a1 a2 iha ihb =>
    intro b
    cases b with
    | two q b1 b2 =>
      simp only [shd]
      split <;> simp_all [blw]
    | _ => simp [shd, blw]
  | _ => intro b; cases b <;> simp [shd, blw]
theorem shd_dp : ∀ a b : Kd, dp (shd a b) ≤ dp a := by
  intro a
  induction a with
  | two p a1 a2 iha ihb =>
    intro b
    cases b with
    | two q b1 b2 =>
      have := iha b1
      have := ihb b2
      simp only [shd]
      split <;> simp only [dp] <;> omega
    | _ => simp [shd, dp]
  | _ => intro b; cases b <;> simp [shd, dp]
theorem blw_glb : ∀ x a b : Kd, blw x a = true → blw x b = true → blw x (shd a b) = true := by
  intro x
  induction x with
  | two r x1 x2 ihx ihy =>
    intro a b h1 h2
    cases a with
    | two p a1 a2 =>
      cases b with
      | two q b1 b2 =>
        simp only [blw, Bool.and_eq_true, beq_iff_eq] at h1 h2
        obtain ⟨⟨rfl, h3⟩, h4⟩ := h1
        obtain ⟨⟨rfl, h5⟩, h6⟩ := h2
        simp [shd, blw, ihx _ _ h3 h5, ihy _ _ h4 h6]
      | _ => simp [blw] at h2
    | _ => simp [blw] at h1
  | any => intro a b _ _; simp [blw]
  | _ => intro a b h1 h2; cases a <;> simp [blw] at h1 <;> cases b <;> simp [blw] at h2 <;> simp [shd, blw]
theorem fl_shps : ∀ k : Kd, shps (fl k) = true
  | .any => by decide
  | .num => by decide
  | .bit => by decide
  | .two p a b => by
    have app : ∀ xs ys, shps xs = true → shps ys = true → shps (xs ++ ys) = true := by
      intro xs ys h1 h2
      induction xs with
      | nil => exact h2
      | cons x xs ih => simp only [shps, Bool.and_eq_true, List.cons_append] at h1 ⊢; exact ⟨h1.1, ih h1.2⟩
    exact app _ _ (fl_shps a) (fl_shps b)
theorem countD_app (x : D) : ∀ xs ys, countD x (xs ++ ys) = countD x xs + countD x ys := by
  intro xs ys
  induction xs with
  | nil => simp [countD]
  | cons y xs ih => simp [countD, ih]; omega
theorem fl_count : ∀ k : Kd, countD (.str [97, 110, 121]) (fl k) = un k
  | .any => by rfl
  | .num => by rfl
  | .bit => by rfl
  | .two p a b => by simp [fl, countD_app, fl_count a, fl_count b, un]
theorem bm_count (k : Kd) : bmV .count (.lst (fl k)) [.str [97, 110, 121]] = some (.int (un k)) := by
  have h1 : shp (.str [97, 110, 121]) = true := by decide
  simp only [bmV, fl_shps, h1, fl_count]; rfl
theorem lw_dp : ∀ k x : Kd, x ∈ lw k → dp x ≤ dp k := by
  intro k
  induction k with
  | two p a b iha ihb =>
    intro x hx
    simp only [lw, List.mem_cons, List.mem_flatMap, List.mem_map] at hx
    rcases hx with rfl | ⟨y, hy, z, hz, rfl⟩
    · simp [dp]
    · have := iha y hy
      have := ihb z hz
      simp only [dp]; omega
  | _ => intro x hx; simp [lw] at hx; rcases hx with rfl | rfl <;> simp [dp]
theorem eqDs_enc : ∀ l m : List Kd, eqDs (l.map (enc false)) (m.map (enc false)) = decide (l = m)
  | [], [] => rfl
  | [], _ :: _ => rfl
  | _ :: _, [] => rfl
  | a :: l, b :: m => by simp [eqDs, eqD_enc, eqDs_enc l m]
theorem shp_lst (l : List Kd) (h : ∀ k ∈ l, dp k ≤ 20) : shp (.lst (l.map (enc false))) = true := by
  have h1 : pds (l.map (enc false)) = true := by
    clear h
    induction l with
    | nil => rfl
    | cons a l ih => simp [pds, pd_enc, ih]
  have h2 : deps (l.map (enc false)) ≤ 20 := by
    clear h1
    induction l with
    | nil => exact Nat.zero_le _
    | cons a l ih =>
      have z1 := ih fun k hk => h k (List.mem_cons_of_mem _ hk)
      have z2 := h a (List.mem_cons_self ..)
      simp only [List.map_cons, deps, dep_enc]; omega
  show (pds (l.map (enc false)) && decide (deps (l.map (enc false)) + 1 ≤ 50)) = true
  rw [h1]
  simp only [Bool.true_and, decide_eq_true_eq]; omega
theorem ne_lst (l m : List Kd) (h : ∀ k ∈ l, dp k ≤ 20) (h' : ∀ k ∈ m, dp k ≤ 20) : copV .ne (.lst (l.map (enc false))) (.lst (m.map (enc false))) = some (!decide (l = m)) := by
  rw [copV_ne (shp_lst l h) (shp_lst m h')]
  simp [eqD, eqDs_enc]
theorem ne_lwe (k : Kd) (h : dp k ≤ 20) : copV .ne (lwe k) (lwe k) = some false := by
  unfold lwe
  rw [ne_lst _ _ (fun x hx => Nat.le_trans (lw_dp k x hx) h) (fun x hx => Nat.le_trans (lw_dp k x hx) h)]
  simp
/-- the law's own steps up -/
def more2 (k : Kd) : List Kd := wideK.filter fun o => blw k o && !decide (o = k)
def up2 (k : Kd) : List Kd := (more2 k).filter fun o => !((more2 k).any fun l => !decide (l = o) && blw l o)
theorem up_eq : ∀ k ∈ wideK, upK k = up2 k := by decide +kernel
theorem ne_grd (k : Kd) (h : dp k ≤ 20) : k ≠ .any → copV .ne (grd k) (enc false (lgr k)) = some false := by
  intro hk
  cases k with
  | any => exact absurd rfl hk
  | two p a b => cases p <;> rfl
  | _ => rfl
end K01

end

section
set_option maxRecDepth 512
set_option maxRecDepth 100000
set_option maxHeartbeats 4000000
set_option linter.all false
namespace K01
open Ev
theorem ne_pair (a b : Kd) (ha : dp a ≤ 4) (hb : dp b ≤ 4) : copV .ne (.tup [enc false a, enc false b]) (.tup [enc false a, enc false b]) = some false := by
  have h1 := dep_enc (l := false) a
  have h2 := dep_enc (l := false) b
  have hs : shp (.tup [enc false a, enc false b]) = true := by
    simp [shp, pd, pds, pd_enc, dep, deps, h1, h2]; omega
  rw [copV_ne hs hs]
  simp [eqD, eqDs, eqD_enc]
theorem ne_kk (a b : Kd) (ha : dp a ≤ 4) (hb : dp b ≤ 4) : copV .ne (enc false a) (enc false b) = some (!decide (a = b)) := ne_enc (by omega) (by omega)
theorem ne_bb (a b : Bool) : copV .ne (.bl a) (.bl b) = some (!(a == b)) := by cases a <;> cases b <;> rfl
theorem eq_ka (a : Kd) (h : dp a ≤ 4) : copV .eq (enc false a) (.str [97, 110, 121]) = some (decide (a = .any)) := eq_any (by omega)
theorem ne_lwek (k : Kd) (h : dp k ≤ 4) : copV .ne (lwe k) (lwe k) = some false := ne_lwe k (by omega)
theorem q_kept (a : Kd) (C : Cells) (ha : dp a ≤ 4) (l : Bool) : pureCall (run pr 39) 6 [enc l a] C = .ok (.v (enc false a)) C := pure_ok (ds := [_]) (run_kept l a 39 ha (by decide))
theorem q_is_kind (a : Kd) (C : Cells) (ha : dp a ≤ 4) : pureCall (run pr 39) 5 [enc false a] C = .ok (.v (.bl true)) C := pure_ok (ds := [_]) (run_is_kind false a 39 ha (by decide))
theorem q_deep (a : Kd) (C : Cells) (ha : dp a ≤ 4) : pureCall (run pr 39) 8 [enc false a] C = .ok (.v (.int (dp a))) C := pure_ok (ds := [_]) (run_deep a 39 ha (by omega))
theorem q_untold (a : Kd) (C : Cells) (ha : dp a ≤ 4) : pureCall (run pr 39) 10 [enc false a] C = .ok (.v (.int (un a))) C := pure_ok (ds := [_]) (run_untold a 39 ha (by omega))
theorem q_size (a : Kd) (C : Cells) (ha : dp a ≤ 4) : pureCall (run pr 39) 9 [enc false a] C = .ok (.v (.int (sz a))) C := pure_ok (ds := [_]) (run_size a 39 ha (by omega))
theorem q_ground (a : Kd) (C : Cells) (ha : dp a ≤ 4) : pureCall (run pr 39) 11 [enc false a] C = .ok (.v (grd a)) C := pure_ok (ds := [_]) (run_ground a 39 ha (by decide))
theorem q_less_of (a : Kd) (C : Cells) (ha : dp a ≤ 4) : pureCall (run pr 39) 21 [enc false a] C = .ok (.v (lwe a)) C := pure_ok (ds := [_]) (run_less_of a 39 ha (by decide))
theorem q_is_less (a b : Kd) (C : Cells) (ha : dp a ≤ 4) (hb : dp b ≤ 4) : pureCall (run pr 39) 13 [enc false a, enc false b] C = .ok (.v (.bl (blw a b))) C := pure_ok (ds := [_, _]) (run_is_less a b 39 ha hb (by decide))
theorem q_meets (a b : Kd) (C : Cells) (ha : dp a ≤ 4) (hb : dp b ≤ 4) : pureCall (run pr 39) 15 [enc false a, enc false b] C = .ok (.v (.bl (nr a b))) C := pure_ok (ds := [_, _]) (run_meets a b 39 ha hb (by decide))
theorem q_common (a b : Kd) (C : Cells) (ha : dp a ≤ 4) (hb : dp b ≤ 4) : pureCall (run pr 39) 19 [enc false a, enc false b] C = .ok (.v (enc false (shd a b))) C := pure_ok (ds := [_, _]) (run_common a b 39 ha hb (by decide))
theorem q_together (a b : Kd) (C : Cells) (ha : dp a ≤ 4) (hb : dp b ≤ 4) (l : Bool) (hn : nr a b = true) : pureCall (run pr 39) 17 [enc l a, enc false b] C = .ok (.v (enc false (jn a b))) C := pure_ok (ds := [_, _]) (run_together l a b 39 ha hb hn (by decide))
theorem q_apart (a b : Kd) (C : Cells) (ha : dp a ≤ 4) (hb : dp b ≤ 4) (hn : nr a b = false) : pureCall (run pr 39) 17 [enc false a, enc false b] C = .exc 2 [([111, 110, 101], enc false a), ([111, 116, 104, 101, 114], enc false b)] C := pure_exc (ds := [_, _]) (run_apart a b 39 ha hb hn (by decide))
theorem q_lbelow (a b : Kd) (C : Cells) (ha : dp a ≤ 4) (hb : dp b ≤ 4) : pureCall (run pr 39) 28 [enc false a, enc false b] C = .ok (.v (.bl (blw a b))) C := pure_ok (ds := [_, _]) (run_lbelow a b 39 (by omega) (by omega) (by omega))
theorem q_lnear (a b : Kd) (C : Cells) (ha : dp a ≤ 4) (hb : dp b ≤ 4) : pureCall (run pr 39) 29 [enc false a, enc false b] C = .ok (.v (.bl (nr a b))) C := pure_ok (ds := [_, _]) (run_lnear a b 39 (by omega) (by omega) (by omega))
theorem q_lcommon (a b : Kd) (C : Cells) (ha : dp a ≤ 4) (hb : dp b ≤ 4) : pureCall (run pr 39) 32 [enc false a, enc false b] C = .ok (.v (enc false (shd a b))) C := pure_ok (ds := [_, _]) (run_lcommon a b 39 (by omega) (by omega) (by omega))
theorem q_lboth (a b : Kd) (C : Cells) (ha : dp a ≤ 4) (hb : dp b ≤ 4) (hn : nr a b = true) : pureCall (run pr 39) 31 [enc false a, enc false b] C = .ok (.v (enc false (jn a b))) C := pure_ok (ds := [_, _]) (run_lboth a b 39 (by omega) (by omega) hn (by omega))
theorem q_ldeep (a : Kd) (C : Cells) (ha : dp a ≤ 4) : pureCall (run pr 39) 34 [enc false a] C = .ok (.v (.int (dp a))) C := pure_ok (ds := [_]) (run_ldeep a 39 (by omega))
theorem q_llisted (a : Kd) (C : Cells) (ha : dp a ≤ 4) : pureCall (run pr 39) 36 [enc false a] C = .ok (.v (enc true a)) C := pure_ok (ds := [_]) (run_llisted a 39 (by omega))
theorem q_lground (a : Kd) (C : Cells) (ha : dp a ≤ 4) : pureCall (run pr 39) 30 [enc false a] C = .ok (.v (enc false (lgr a))) C := pure_ok (ds := [_]) (run_lground a 39 (by omega))
theorem q_lflat (a : Kd) (C : Cells) (ha : dp a ≤ 4) : pureCall (run pr 39) 35 [enc false a] C = .ok (.v (.lst (fl a))) C := pure_ok (ds := [_]) (run_lflat a 39 (by omega) (by omega))
theorem q_llower (a : Kd) (C : Cells) (ha : dp a ≤ 4) : pureCall (run pr 39) 33 [enc false a] C = .ok (.v (lwe a)) C := pure_ok (ds := [_]) (run_llower a 39 ha (by omega))
theorem fl_len2 : ∀ k : Kd, 2 * ((fl k).length : Int) - 1 = sz k
  | .any => rfl
  | .num => rfl
  | .bit => rfl
  | .two p a b => by
    have h1 := fl_len2 a
    have h2 := fl_len2 b
    simp only [fl, List.length_append, sz]; omega
theorem ne_ground (k : Kd) (h : dp k ≤ 4) (hk : k ≠ .any) : copV .ne (grd k) (enc false (lgr k)) = some false := ne_grd k (by omega) hk
theorem lw_len2 : ∀ k : Kd, dp k ≤ 2 → (lw k).length ≤ 38 := by
  have h0 : ∀ k : Kd, dp k ≤ 0 → (lw k).length ≤ 2 := by
    intro k h
    cases k <;> simp_all [lw, dp]
  have hs : ∀ n m : Nat, (∀ k : Kd, dp k ≤ n → (lw k).length ≤ m) → ∀ k : Kd, dp k ≤ n + 1 → (lw k).length ≤ 2 + m * m := by
    intro n m h k hk
    cases k with
    | two p a b =>
      have := two_dp hk
      simp only [dp] at hk
      have h1 := h a (by omega)
      have h2 := h b (by omega)
      have h3 : ((lw a).flatMap fun x => (lw b).map fun y => Kd.two p x y).length ≤ (lw a).length * (lw b).length := flat_le (lw a) fun x _ => by simp
      have h4 : (lw a).length * (lw b).length ≤ m * m := Nat.mul_le_mul h1 h2
      simp only [lw, List.length_cons]; omega
    | _ => simp [lw] <;> omega
  intro k hk
  exact Nat.le_trans (hs 1 6 (fun k hk => hs 0 2 h0 k hk) k hk) (by decide)
theorem no_late (a b : Kd) : ((lw a).any fun l => blw l a && (blw l b && !blw l (shd a b))) = false := by
  rw [List.any_eq_false]
  intro l _
  cases h1 : blw l a <;> cases h2 : blw l b <;> simp [blw_glb, h1, h2]
def grl (k : Kd) : D := if k = .any then .non else enc false (lgr k)
theorem ite_gr (k : Kd) (h : dp k ≤ 4) {lamc : Nat → Env → Cells → R E} {env : Env} {C : Cells} (he : (env[3]?).join = some (.v (enc false k))) :
    iteO pr (run pr 39) lamc (.cst .non) (.callP 30 (.cons (.slot 3) .nil)) env C (some (decide (k = .any))) = .ok (.v (grl k)) C := by
  unfold grl
  by_cases hz : k = .any
  · simp [push1_v, line, hz]
  · simp [push1_v, line, hz, he, q_lground k C h]
theorem ne_gr (k : Kd) : copV .ne (grd k) (grl k) = some false := by
  cases k with
  | two p a b => cases p <;> rfl
  | _ => rfl
theorem ne_self (a : Kd) (h : dp a ≤ 4) : copV .ne (enc false a) (enc false a) = some false := by rw [ne_kk a a h h]; simp
theorem q_all0 (C : Cells) : pureCall (run pr 39) 12 [.int 0] C = .ok (.v (.lst (rowsK.map (enc false)))) C := pure_ok (ds := [_]) (run_all0 39 (by decide))
theorem q_all1 (C : Cells) : pureCall (run pr 39) 12 [.int 1] C = .ok (.v (.lst (wideK.map (enc false)))) C := pure_ok (ds := [_]) (run_all1 39 (by decide))
theorem q_all2 (C : Cells) : pureCall (run pr 39) 12 [.int 2] C = .ok (.v (.lst ((growK wideK).map (enc false)))) C := pure_ok (ds := [_]) (run_all2 39 (by decide))
theorem ne_lst_self (l : List Kd) (h : ∀ k ∈ l, dp k ≤ 20) : copV .ne (.lst (l.map (enc false))) (.lst (l.map (enc false))) = some false := by rw [ne_lst l l h h]; simp
theorem grow_take : cutL ((growK wideK).map (enc false)) none (some 21) = wideK.map (enc false) := by
  have h : (wideK.map (enc false)).length = 21 := by decide
  have h2 : 21 ≤ ((growK wideK).map (enc false)).length := by rw [List.length_map, all2_len]; decide
  unfold cutL
  have e0 : sIx ((growK wideK).map (enc false)).length 0 none = 0 := rfl
  have e1 : sIx ((growK wideK).map (enc false)).length ((growK wideK).map (enc false)).length (some 21) = 21 := by
    rw [List.length_map, all2_len]; decide
  rw [e0, e1, growK, List.map_append]
  simp only [List.drop_zero, Nat.sub_zero]
  rw [← h, List.take_left']
  rfl
theorem rows_enc : [D.str [97, 110, 121], .str [110, 117, 109], .str [98, 105, 116]] = rowsK.map (enc false) := rfl
theorem sl_lst (xs : List D) (lo hi : Option Int) : slV (.lst xs) lo hi = some (.lst (cutL xs lo hi)) := nrfl rfl
theorem law_true (ns : List Int) (hn : ns.length ≤ 63) : ∃ C', run pr 40 38 [.v (.lst (ns.map .int))] [] = .ok (.v (.bl true)) C' := by
  refine ⟨[], ?_⟩
  rw [rn_law, x_body rfl]
  refine Yes.end ?_
  unfold b_law
  obtain ⟨a, k1, ha, pa⟩ := run_kind ns hn 2 0 39 (by decide)
  obtain ⟨b, k2, hb, pb⟩ := run_kind ns hn 2 k1 39 (by decide)
  obtain ⟨c, k3, hc, pc⟩ := run_kind ns hn 2 k2 39 (by decide)
  obtain ⟨d, k4, hd, pd⟩ := run_kind ns hn 2 k3 39 (by decide)
  simp only [show ((2 : Nat) : Int) = 2 from rfl] at pa pb pc pd
  have r4 : rngOk 4 = true := by decide
  have hdr : ∀ k : Int, [some (Cell.lst [D.lst (ns.map .int), D.int k])] = dr ns k := fun _ => rfl
  simp [push1_v, line, r4, rangeD, genR_cons, genR_nil, wipeE, hdr, pa, pb, pc, pd]
  have hks : ∀ k ∈ [a, b, c, d], dp k ≤ 2 := by simp [ha, hb, hc, hd]
  rw [show [enc false a, enc false b, enc false c, enc false d] = [a, b, c, d].map (enc false) from rfl]
  generalize [a, b, c, d] = ks at hks ⊢
  generalize hS : Sms.cons (.asg (.nm 4) _) _ = S
  simp [push1_v, line, seqD]
  refine for_pat Yes (fun o => [some (.v (.lst (ns.map .int))), some (.r 0), some (.v (.lst (ks.map (enc false)))), o 3, none, none, none, none, o 8, o 9, none, o 11, none, o 13, none]) (· = dr ns k4) ⟨rfl, rfl, rfl⟩ ?_ ?_
  · rintro x hx o _ hc rfl
    obtain ⟨k, hk, rfl⟩ := List.mem_map.1 hx
    have h2 := hks k hk
    have h4 : dp k ≤ 4 := by omega
    refine ⟨_, rfl, ?_⟩
    have e1 : copV .ne (.int (sz k)) (.int (2 * ((fl k).length : Int) - 1)) = some false := by rw [fl_len2, c_ne]; simp
    simp [push1_v, line, q_lflat, h4, q_llisted, q_kept, ne_self, q_is_kind, q_deep, q_ldeep, q_untold, q_size, c_ne, bm_count, isLst, l_lst, b_mul' (show smallI 2 = true by decide), b_sub, e1, q_ground, eq_ka, ite_gr k h4, ne_gr, q_less_of, q_llower, ne_lwek, seqD]
    simp [push1_v, line] at hc
    refine for_pat (Kept _) (fun o => [some (.v (.lst (ns.map .int))), some (.r 0), some (.v (.lst (ks.map (enc false)))), some (.v (enc false k)), none, none, none, none, some (.v (.lst (fl k))), o 9, none, o 11, none, o 13, none]) (· = dr ns k4) ⟨rfl, by simp [push1_v, line, hc], rfl⟩ ?_ ?_
    · rintro x hx o _ hc rfl
      obtain ⟨j, hj, rfl⟩ := List.mem_map.1 hx
      have j2 := hks j hj
      have j4 : dp j ≤ 4 := by omega
      have s4 : dp (shd k j) ≤ 4 := Nat.le_trans (shd_dp k j) h4
      simp [push1_v, line] at hc
      refine ⟨_, rfl, ?_⟩
      generalize hS3 : Sms.cons (.asg (.nm 11) _) _ = S3
      have low : ∀ o11 o13 : Option E, nx o11 = true → nx o13 = true → Kept (Pat (fun o => [some (.v (.lst (ns.map .int))), some (.r 0), some (.v (.lst (ks.map (enc false)))), some (.v (enc false k)), none, none, none, none, some (.v (.lst (fl k))), o 9, none, o 11, none, o 13, none]) (· = dr ns k4))
          (exSs pr (run pr 39) (lamP pr (run pr 39)) S3 [some (.v (.lst (ns.map .int))), some (.r 0), some (.v (.lst (ks.map (enc false)))), some (.v (enc false k)), none, none, none, none, some (.v (.lst (fl k))), some (.v (enc false j)), none, o11, none, o13, none] (dr ns k4)) := by
        intro o11 o13 z1 z2
        have am := any_map (fun l => blw l k && (blw l j && !blw l (shd k j))) (lw k)
        rw [no_late] at am
        have hm : genR pr (run pr 39) (lamP pr (run pr 39)) (.nm 12) .none (.elt (.and (.callP 13 (.cons (.slot 12) (.cons (.slot 3) .nil))) (.and (.callP 13 (.cons (.slot 12) (.cons (.slot 9) .nil))) (.one (.not (.callP 13 (.cons (.slot 12) (.cons (.slot 11) .nil))))))))
            [some (.v (.lst (ns.map .int))), some (.r 0), some (.v (.lst (ks.map (enc false)))), some (.v (enc false k)), none, none, none, none, some (.v (.lst (fl k))), some (.v (enc false j)), none, some (.v (enc false (shd k j))), none, o13, none] ((lw k).map (enc false)) (dr ns k4) [] = .ok ((lw k).map fun l => .bl (blw l k && (blw l j && !blw l (shd k j)))) (dr ns k4) := by
          refine genR_map (enc false) (fun l => .bl (blw l k && (blw l j && !blw l (shd k j)))) (lw k) ?_ ?_
          · intro l hl acc ha
            refine ⟨_, rfl, ?_⟩
            have l4 : dp l ≤ 4 := Nat.le_trans (lw_dp k l hl) h4
            simp [push1_v, line, q_is_less, l4, h4, j4, s4]
            cases blw l k <;> simp [push1_v, line, q_is_less, l4, h4, j4, s4, push1_ok ha]
            cases blw l j <;> simp [push1_v, line, q_is_less, l4, h4, j4, s4, push1_ok ha]
          · have := lw_len2 k h2
            have : line = 16777216 := rfl
            omega
        subst hS3
        simp [push1_v, line, q_common, q_is_less, q_less_of, h4, j4, s4, blw_shd1, blw_shd2, lwe, seqD, wipeE, hm, am]
        exact .next ⟨rfl, by simp [push1_v, line, z2], rfl⟩
      by_cases hn : nr k j = true
      · have m4 : dp (jn k j) ≤ 4 := by have := jn_dp k j; omega
        simp [push1_v, line, q_is_less, q_lbelow, q_meets, q_lnear, q_common, q_lcommon, h4, j4, ne_bb, ne_self, s4, hn, q_llisted, q_together, q_lboth, m4, blw_jn1, blw_jn2]
        exact low _ _ hc.2.1 rfl
      · have hn : nr k j = false := by simpa using hn
        simp [push1_v, line, g_0, g_1, g_2, lm_0, l_0, lm_1, l_1, lm_2, l_2, lm_3, l_3, lm_4, l_4, cl_0, cl_1, cl_2, und_0_0, und_0_1, und_0_2, und_1_0, und_1_1, und_1_2, und_2_0, und_2_1, und_2_2, q_is_less, q_lbelow, q_meets, q_lnear, q_common, q_lcommon, h4, j4, ne_bb, ne_self, s4, hn, q_apart, lookFD, ne_pair, hc]
        exact low _ _ hc.2.1 hc.2.2
    · rintro o _ hc rfl
      exact .next ⟨rfl, hc, rfl⟩
  · rintro o _ hc rfl
    subst hS
    generalize hS : Sms.cons (.ife (.or (.cmp .ne (.callP 12 _) _) _) _ _) _ = S
    simp [push1_v, line, forG_cons, forG_nil, genR_cons, genR_nil, wipeE, seqD, bopV, biV]
    show Yes (exSs pr (run pr 39) (lamP pr (run pr 39)) S [some (.v (.lst (ns.map .int))), some (.r 0), some (.v (.lst (ks.map (enc false)))), some (.v (.str [98, 105, 116])), some (.v (.lst (rowsK.map (enc false)))), some (.v (.lst (wideK.map (enc false)))),
      some (.v (.str [112, 97, 105, 114])), none, o 8, o 9, none, o 11, none, o 13, none] (dr ns k4))
    subst hS
    have w20 : ∀ k ∈ wideK, dp k ≤ 20 := fun k hk => Nat.le_trans (wide_dp k hk) (by decide)
    obtain ⟨k, k5, hk, pk⟩ := run_kind ns hn 1 k4 39 (by decide)
    simp only [show ((1 : Nat) : Int) = 1 from rfl] at pk
    have h4 : dp k ≤ 4 := by omega
    have ps := fun C => pure_ok (C := C) (ds := [enc false k, .lst wide]) (run_steps k hk 39 (by decide))
    obtain ⟨k6, pr6⟩ := run_refused ns hn k5
    have m1 : genR pr (run pr 39) (lamP pr (run pr 39)) (.nm 12) (.some (.and (.callP 28 (.cons (.slot 3) (.cons (.slot 12) .nil))) (.one (.cmp .ne (.slot 12) (.slot 3))))) (.elt (.slot 12))
      [some (.v (.lst (ns.map .int))), some (.r 0), some (.v (.lst (ks.map (enc false)))), some (.v (enc false k)), some (.v (.lst (rowsK.map (enc false)))), some (.v (.lst (wideK.map (enc false)))), some (.v (.str [112, 97, 105, 114])), none, o 8, o 9, none, o 11, none, o 13, none]
      (wideK.map (enc false)) (dr ns k5) [] = .ok ((more2 k).map (enc false)) (dr ns k5) := by
      refine genR_filter (enc false) (fun o => blw k o && !decide (o = k)) (enc false) wideK ?_ (by decide)
      intro l hl acc ha
      refine ⟨_, rfl, ?_⟩
      have l4 : dp l ≤ 4 := Nat.le_trans (wide_dp l hl) (by decide)
      simp [push1_v, line, q_lbelow, h4, l4]
      cases blw k l <;> simp [push1_v, line, stepG_b, ne_kk, h4, l4, push1_ok ha]
      all_goals (by_cases e : l = k <;> simp [e])
    have hm : ∀ l ∈ more2 k, dp l ≤ 1 := fun l hl => wide_dp l (List.mem_filter.1 hl).1
    have hml : (more2 k).length ≤ 21 := Nat.le_trans (List.length_filter_le _ _) (by decide)
    have m2 : genR pr (run pr 39) (lamP pr (run pr 39)) (.nm 12) (.some (.not (.bi .any (.cons (.comp [9] (.nm 9) (.seq (.slot 7)) .none (.elt (.and (.cmp .ne (.slot 9) (.slot 12)) (.one (.callP 28 (.cons (.slot 9) (.cons (.slot 12) .nil))))))) .nil)))) (.elt (.slot 12))
      [some (.v (.lst (ns.map .int))), some (.r 0), some (.v (.lst (ks.map (enc false)))), some (.v (enc false k)), some (.v (.lst (rowsK.map (enc false)))), some (.v (.lst (wideK.map (enc false)))), some (.v (.str [112, 97, 105, 114])), some (.v (.lst ((more2 k).map (enc false)))), o 8, o 9, none, o 11, none, o 13, none]
      ((more2 k).map (enc false)) (dr ns k5) [] = .ok ((up2 k).map (enc false)) (dr ns k5) := by
      refine genR_filter (enc false) (fun o => !((more2 k).any fun l => !decide (l = o) && blw l o)) (enc false) (more2 k) ?_ (by have : line = 16777216 := rfl; omega)
      intro o1 ho acc ha
      refine ⟨_, rfl, ?_⟩
      have am := any_map (fun l => !decide (l = o1) && blw l o1) (more2 k)
      simp [push1_v, line, seqD, wipeE]
      rw [genR_map (enc false) (fun l => .bl (!decide (l = o1) && blw l o1)) (more2 k)]
      · simp [push1_v, line, am, stepG_b, push1_ok ha]
        split <;> rfl
      · intro l hl acc hb
        refine ⟨_, rfl, ?_⟩
        have d1 := hm o1 ho
        have d2 := hm l hl
        have e1 := q_lbelow l o1 (dr ns k5) (by omega) (by omega)
        simp [push1_v, line, ne_kk l o1 (by omega) (by omega)]
        by_cases e : l = o1 <;> simp [push1_v, line, e, e1, push1_ok hb]
      · have : line = 16777216 := rfl
        omega
    have u1 : copV .ne (.lst ((upK k).map (enc false))) (.lst ((up2 k).map (enc false))) = some false := by
      rw [up_eq k (dp_wide k hk), ne_lst_self]
      intro l hl
      have := hm l (List.mem_filter.1 hl).1
      omega
    have n885 : ((growK wideK).length : Int) = 885 := by rw [all2_len]; rfl
    have r20 : ∀ k ∈ rowsK, dp k ≤ 20 := by decide
    have c0 := ne_lst_self rowsK r20
    have c1 := ne_lst_self wideK w20
    have gt := grow_take
    have a0 := q_all0
    have a1 := q_all1
    have a2 := q_all2
    simp only [wide] at ps
    generalize hL2 : (growK wideK).map (enc false) = L2 at gt a2
    have nl2 : (L2.length : Int) = 885 := by rw [← hL2, List.length_map]; exact n885
    generalize wideK.map (enc false) = L1 at gt a1 c1 ps m1 m2 ⊢
    generalize rowsK.map (enc false) = L0 at a0 c0 m1 m2 ⊢
    simp [push1_v, line, a0, a1, a2, c0, c1, l_lst, nl2, b_mul (show smallI 21 = true by decide), b_add, c_ne, sl_lst, gt, pk, seqD, wipeE, m1, m2, ps, u1, pr6]
    exact .ret
end K01

end

set_option Elab.async false
set_option linter.all false
set_option maxRecDepth 100000
set_option maxHeartbeats 0

-- TEXT
namespace K01
open Ev
def top (i : Nat) : PySem.Stmt := PySem.Challenge.pw_stepwisekinds_k01_whole_kinds.main.body.getD i (.Pass ⟨0, 0, 0, 0⟩)
def d_is_row : DefR := ⟨[105, 115, 95, 114, 111, 119], top 5, [[116, 104, 105, 110, 103]], false⟩
def d_is_number : DefR := ⟨[105, 115, 95, 110, 117, 109, 98, 101, 114], top 6, [[116, 104, 105, 110, 103]], false⟩
def d_is_below : DefR := ⟨[105, 115, 95, 98, 101, 108, 111, 119], top 7, [[116, 104, 105, 110, 103], [98, 111, 117, 110, 100]], false⟩
def d_check_kind : DefR := ⟨[99, 104, 101, 99, 107, 95, 107, 105, 110, 100], top 12, [[107, 105, 110, 100]], false⟩
def d_check_part : DefR := ⟨[99, 104, 101, 99, 107, 95, 112, 97, 114, 116], top 13, [[107, 105, 110, 100], [100, 101, 101, 112]], false⟩
def d_is_kind : DefR := ⟨[105, 115, 95, 107, 105, 110, 100], top 14, [[116, 104, 105, 110, 103]], false⟩
def d_kept : DefR := ⟨[107, 101, 112, 116], top 15, [[107, 105, 110, 100]], false⟩
def d_plain : DefR := ⟨[112, 108, 97, 105, 110], top 16, [[107, 105, 110, 100]], false⟩
def d_deep_of : DefR := ⟨[100, 101, 101, 112, 95, 111, 102], top 17, [[107, 105, 110, 100]], false⟩
def d_size_of : DefR := ⟨[115, 105, 122, 101, 95, 111, 102], top 18, [[107, 105, 110, 100]], false⟩
def d_untold : DefR := ⟨[117, 110, 116, 111, 108, 100], top 19, [[107, 105, 110, 100]], false⟩
def d_ground : DefR := ⟨[103, 114, 111, 117, 110, 100], top 20, [[107, 105, 110, 100]], false⟩
def d_all_kinds : DefR := ⟨[97, 108, 108, 95, 107, 105, 110, 100, 115], top 21, [[100, 101, 101, 112], [102, 111, 117, 110, 100], [116, 117, 114, 110], [108, 97, 116, 101], [119, 111, 114, 100], [111, 110, 101], [111, 116, 104, 101, 114], [107, 105, 110, 100]], false⟩
def d_is_less : DefR := ⟨[105, 115, 95, 108, 101, 115, 115], top 22, [[111, 110, 101], [111, 116, 104, 101, 114]], false⟩
def d_below : DefR := ⟨[98, 101, 108, 111, 119], top 23, [[111, 110, 101], [111, 116, 104, 101, 114]], false⟩
def d_meets : DefR := ⟨[109, 101, 101, 116, 115], top 24, [[111, 110, 101], [111, 116, 104, 101, 114]], false⟩
def d_near : DefR := ⟨[110, 101, 97, 114], top 25, [[111, 110, 101], [111, 116, 104, 101, 114]], false⟩
def d_together : DefR := ⟨[116, 111, 103, 101, 116, 104, 101, 114], top 26, [[111, 110, 101], [111, 116, 104, 101, 114]], false⟩
def d_joined : DefR := ⟨[106, 111, 105, 110, 101, 100], top 27, [[111, 110, 101], [111, 116, 104, 101, 114]], false⟩
def d_common : DefR := ⟨[99, 111, 109, 109, 111, 110], top 28, [[111, 110, 101], [111, 116, 104, 101, 114]], false⟩
def d_shared : DefR := ⟨[115, 104, 97, 114, 101, 100], top 29, [[111, 110, 101], [111, 116, 104, 101, 114]], false⟩
def d_less_of : DefR := ⟨[108, 101, 115, 115, 95, 111, 102], top 30, [[107, 105, 110, 100]], false⟩
def d_lower : DefR := ⟨[108, 111, 119, 101, 114], top 31, [[107, 105, 110, 100], [111, 110, 101], [111, 116, 104, 101, 114]], false⟩
def d_steps_up : DefR := ⟨[115, 116, 101, 112, 115, 95, 117, 112], top 32, [[107, 105, 110, 100], [107, 105, 110, 100, 115], [109, 111, 114, 101], [111, 110, 101], [108, 97, 116, 101]], false⟩
def d__law_number : DefR := ⟨[95, 108, 97, 119, 95, 110, 117, 109, 98, 101, 114], top 34, [[115, 99, 114, 105, 112, 116], [105, 110, 100, 101, 120], [114, 101, 115, 116], [115, 116, 101, 112], [98, 108, 101, 110, 100], [99, 101, 108, 108], [116, 117, 114, 110]], false⟩
def d__law_take : DefR := ⟨[95, 108, 97, 119, 95, 116, 97, 107, 101], top 35, [[100, 114, 97, 119], [109, 97, 110, 121]], false⟩
def d__law_pick : DefR := ⟨[95, 108, 97, 119, 95, 112, 105, 99, 107], top 36, [[100, 114, 97, 119], [105, 116, 101, 109, 115]], false⟩
def d__law_kind : DefR := ⟨[95, 108, 97, 119, 95, 107, 105, 110, 100], top 37, [[100, 114, 97, 119], [100, 101, 101, 112], [107, 105, 110, 100]], false⟩
def d__law_below : DefR := ⟨[95, 108, 97, 119, 95, 98, 101, 108, 111, 119], top 38, [[111, 110, 101], [111, 116, 104, 101, 114]], false⟩
def d__law_near : DefR := ⟨[95, 108, 97, 119, 95, 110, 101, 97, 114], top 39, [[111, 110, 101], [111, 116, 104, 101, 114]], false⟩
def d__law_ground : DefR := ⟨[95, 108, 97, 119, 95, 103, 114, 111, 117, 110, 100], top 40, [[107, 105, 110, 100]], false⟩
def d__law_both : DefR := ⟨[95, 108, 97, 119, 95, 98, 111, 116, 104], top 41, [[111, 110, 101], [111, 116, 104, 101, 114]], false⟩
def d__law_common : DefR := ⟨[95, 108, 97, 119, 95, 99, 111, 109, 109, 111, 110], top 42, [[111, 110, 101], [111, 116, 104, 101, 114]], false⟩
def d__law_lower : DefR := ⟨[95, 108, 97, 119, 95, 108, 111, 119, 101, 114], top 43, [[107, 105, 110, 100], [102, 111, 117, 110, 100], [111, 110, 101], [111, 116, 104, 101, 114]], false⟩
def d__law_deep : DefR := ⟨[95, 108, 97, 119, 95, 100, 101, 101, 112], top 44, [[107, 105, 110, 100]], false⟩
def d__law_flat : DefR := ⟨[95, 108, 97, 119, 95, 102, 108, 97, 116], top 45, [[107, 105, 110, 100]], false⟩
def d__law_listed : DefR := ⟨[95, 108, 97, 119, 95, 108, 105, 115, 116, 101, 100], top 46, [[107, 105, 110, 100]], false⟩
def d__law_is_refused : DefR := ⟨[95, 108, 97, 119, 95, 105, 115, 95, 114, 101, 102, 117, 115, 101, 100], top 47, [[100, 114, 97, 119], [100, 101, 101, 112], [116, 117, 114, 110], [107, 110, 111, 119, 110], [102, 97, 117, 108, 116], [100, 101, 101, 100], [119, 114, 111, 110, 103], [112, 97, 114, 116]], true⟩
def d_law : DefR := ⟨[108, 97, 119], top 48, [[115, 99, 114, 105, 112, 116], [100, 114, 97, 119], [107, 105, 110, 100, 115], [111, 110, 101], [114, 111, 119, 115], [119, 105, 100, 101], [119, 111, 114, 100], [109, 111, 114, 101], [102, 108, 97, 116], [111, 116, 104, 101, 114], [116, 117, 114, 110], [108, 111, 119], [108, 97, 116, 101], [98, 111, 116, 104], [102, 97, 117, 108, 116]], false⟩
def tb : Tab := { fn := [[105, 115, 95, 114, 111, 119], [105, 115, 95, 110, 117, 109, 98, 101, 114], [105, 115, 95, 98, 101, 108, 111, 119], [99, 104, 101, 99, 107, 95, 107, 105, 110, 100], [99, 104, 101, 99, 107, 95, 112, 97, 114, 116], [105, 115, 95, 107, 105, 110, 100], [107, 101, 112, 116], [112, 108, 97, 105, 110], [100, 101, 101, 112, 95, 111, 102], [115, 105, 122, 101, 95, 111, 102], [117, 110, 116, 111, 108, 100], [103, 114, 111, 117, 110, 100], [97, 108, 108, 95, 107, 105, 110, 100, 115], [105, 115, 95, 108, 101, 115, 115], [98, 101, 108, 111, 119], [109, 101, 101, 116, 115], [110, 101, 97, 114], [116, 111, 103, 101, 116, 104, 101, 114], [106, 111, 105, 110, 101, 100], [99, 111, 109, 109, 111, 110], [115, 104, 97, 114, 101, 100], [108, 101, 115, 115, 95, 111, 102], [108, 111, 119, 101, 114], [115, 116, 101, 112, 115, 95, 117, 112], [95, 108, 97, 119, 95, 110, 117, 109, 98, 101, 114], [95, 108, 97, 119, 95, 116, 97, 107, 101], [95, 108, 97, 119, 95, 112, 105, 99, 107], [95, 108, 97, 119, 95, 107, 105, 110, 100], [95, 108, 97, 119, 95, 98, 101, 108, 111, 119], [95, 108, 97, 119, 95, 110, 101, 97, 114], [95, 108, 97, 119, 95, 103, 114, 111, 117, 110, 100], [95, 108, 97, 119, 95, 98, 111, 116, 104], [95, 108, 97, 119, 95, 99, 111, 109, 109, 111, 110], [95, 108, 97, 119, 95, 108, 111, 119, 101, 114], [95, 108, 97, 119, 95, 100, 101, 101, 112], [95, 108, 97, 119, 95, 102, 108, 97, 116], [95, 108, 97, 119, 95, 108, 105, 115, 116, 101, 100], [95, 108, 97, 119, 95, 105, 115, 95, 114, 101, 102, 117, 115, 101, 100], [108, 97, 119]], cl := [[75, 105, 110, 100, 69, 114, 114, 111, 114], [66, 97, 100, 75, 105, 110, 100], [65, 112, 97, 114, 116]], gl := [[77, 79, 83, 84, 95, 68, 69, 69, 80], [66, 65, 83, 69, 83], [87, 79, 82, 68, 83]] }
def txt : Text := {
  pr := pr, tb := tb, defs := [d_is_row, d_is_number, d_is_below, d_check_kind, d_check_part, d_is_kind, d_kept, d_plain, d_deep_of, d_size_of, d_untold, d_ground, d_all_kinds, d_is_less, d_below, d_meets, d_near, d_together, d_joined, d_common, d_shared, d_less_of, d_lower, d_steps_up, d__law_number, d__law_take, d__law_pick, d__law_kind, d__law_below, d__law_near, d__law_ground, d__law_both, d__law_common, d__law_lower, d__law_deep, d__law_flat, d__law_listed, d__law_is_refused, d_law],
  cls := [⟨[75, 105, 110, 100, 69, 114, 114, 111, 114], none⟩, ⟨[66, 97, 100, 75, 105, 110, 100], (some (clsSt (top 2) 0, [[112, 97, 114, 116]]))⟩, ⟨[65, 112, 97, 114, 116], (some (clsSt (top 3) 0, [[111, 110, 101], [111, 116, 104, 101, 114]]))⟩] }
end K01
-- law: function 38, statement 48; statements 49

namespace K01
open PySem PySem.Spec PyProof.Rows L2 Ev
abbrev R : PySem.W.OpenRow := PySem.W.OpenLaw.row PySem.Challenge.rw_stepwisekinds_k01_whole_kinds
abbrev hk : PySem.W.Hook := He.hookX 12 txt.fa txt.fn [] txt.tf txt.exB
def ob (s : PySem.W.SharedT) : He.AlX := He.obsX 12 txt.fa txt.fn [] txt.tf txt.exB (HandSHeadRun.getT s)
theorem ob_eq (s : PySem.W.SharedT) : ob s = hk.obs s.abs := He.obsX_eq (HandSHeadRun.getT_eq s)
def nm_0 : List PySem.Str := ["KindError", "BadKind", "Apart", "is_row", "is_number", "is_below", "MOST_DEEP", "BASES", "WORDS", "check_kind", "check_part", "is_kind", "kept", "plain", "deep_of", "size_of", "untold", "ground", "all_kinds", "is_less", "below", "meets", "near", "together", "joined", "common", "shared", "less_of", "lower", "steps_up"]
def nm_1 : List PySem.Str := ["_law_number", "_law_take", "_law_pick", "_law_kind", "_law_below", "_law_near", "_law_ground", "_law_both", "_law_common", "_law_lower", "_law_deep", "_law_flat", "_law_listed", "_law_is_refused"]
def nms : List PySem.Str := nm_0 ++ nm_1
theorem run (w : World) : HandSHeadRun.RunEq R (PySem.W.view R.prog [48]) hk ob 20000 nms w := by
  intro os
  kernel_rfl
theorem txt_ok : txt.ok = true := by decide +kernel
end K01
namespace K01
theorem hlaw : ∀ ns : List Int, ns.length ≤ 63 → (∀ z ∈ ns, PySem.Builtin.Int.intBits z ≤ 1048576) → ∃ C', Ev.run pr 40 38 [.v (.lst (ns.map Ev.D.int))] [] = .ok (.v (.bl true)) C' := fun ns h _ => law_true ns h
end K01
open PySem PySem.W PySem.Calls PyProof.Rows
theorem PySem.Challenge.cw_stepwisekinds_k01_whole_kinds_holds : PySem.Challenge.rw_stepwisekinds_k01_whole_kinds.Holds := by
  w_on; o_law
  refine HandSHeadRun.head_any (r := K01.R) (q := view K01.R.prog [48]) (H := K01.hk) (ob := K01.ob) (M := 20000) (loose := K01.nms) (d := HandSHeadRun.topDef K01.R.prog 48) (kwd := []) K01.ob_eq
    (by kernel_rfl) (fun s => by kernel_rfl) K01.run (by kernel_rfl) (by kernel_rfl) (by kernel_rfl) (by rfl) (by first | assumption | decide +kernel) (by decide +kernel) ⟨rfl, rfl, rfl, rfl, rfl, by decide +kernel⟩ ?hw ?hc
  case hw => w_witness2
  case hc =>
    refine LamX.walk_ofTsE (l := PySem.Challenge.rw_stepwisekinds_k01_whole_kinds) (n := 63) (k := 81) (x := "script") (CX := fun w => L2.CX K01.R.prog w) rfl (by decide) (by kernel_rfl) ⟨rfl, by decide, by decide⟩ ?F (fun w H s e s' h => ?hx)
    case F =>
      intro w mg fa h Y G hmg0
      obtain ⟨K, KX, c⟩ := Y
      have hmg : mg (Ev.T K01.d_law.name) = some (.ref fa) := by
        have e : (HandSHeadRun.topDef K01.R.prog 48).name = Ev.T K01.d_law.name := by kernel_rfl
        rw [← e]
        exact hmg0
      exact ⟨K, KX, Ev.law_end (t := K01.txt) (f := 38) (N := 40) (d := K01.d_law) (fn := ⟨1, K01.d_law.N.length, K01.b_law⟩) rfl rfl rfl K01.txt_ok KX c G hmg K01.hlaw⟩
    case hx =>
      obtain ⟨_, _, _, _, _, _, _, _, _, _, _, _, z⟩ := h
      exact z

